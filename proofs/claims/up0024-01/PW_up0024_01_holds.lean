import PyProof.Rows.All
import Wide.All
import OpenK.AllK
import Wide.FinOn
import Open.Tops
import KE.KDictSum
import PyProof.Rows.SortWalk
import PyProof.EnumMake
import PyProof.Draws
import Lean
import PySem.Challenge.RW_up0024_01
set_option Elab.async false
set_option maxRecDepth 100000
set_option maxHeartbeats 0
set_option linter.all false
set_option tactic.hygienic false
set_option backward.match.sparseCases false
set_option genInjectivity false
set_option genSizeOf false
set_option bootstrap.genMatcherCode false
namespace Mine
theorem C3:type_of%@List.getElem?_append_right:=@List.getElem?_append_right
theorem B0:type_of%@List.getElem?_eq_some_iff:=@List.getElem?_eq_some_iff
theorem C1:type_of%@List.getElem?_append_left:=@List.getElem?_append_left
theorem z3:type_of%@List.getElem?_eq_getElem:=@List.getElem?_eq_getElem
theorem B3:type_of%@Nat.exists_eq_add_of_le':=@Nat.exists_eq_add_of_le'
theorem J1:type_of%@PySem.Heap.get?_push_of_some:=@PySem.Heap.get?_push_of_some
theorem E3:type_of%@List.getElem?_set_self:=@List.getElem?_set_self
theorem R3:type_of%@Nat.lt_of_succ_lt_succ:=@Nat.lt_of_succ_lt_succ
theorem j3:type_of%@Nat.le_of_ble_eq_true:=@Nat.le_of_ble_eq_true
theorem W0:type_of%@List.getElem?_set_ne:=@List.getElem?_set_ne
theorem K3:type_of%@Nat.add_le_add_right:=@Nat.add_le_add_right
theorem Q3:type_of%@List.forall_mem_cons:=@List.forall_mem_cons
theorem A4:type_of%@List.mem_of_getElem? :=@List.mem_of_getElem?
theorem B4:type_of%@List.mem_cons_of_mem:=@List.mem_cons_of_mem
theorem J2:type_of%@PySem.Heap.get?_push_size:=@PySem.Heap.get?_push_size
theorem J0:type_of%@List.mem_singleton:=@List.mem_singleton
theorem A1:type_of%@List.length_append:=@List.length_append
theorem P1:type_of%@Nat.sub_add_cancel:=@Nat.sub_add_cancel
theorem Y1:type_of%@of_decide_eq_false:=@of_decide_eq_false
theorem Q2:type_of%@Bool.false_ne_true:=@Bool.false_ne_true
theorem H3:type_of%@Int.emod_lt_of_pos:=@Int.emod_lt_of_pos
theorem C4:type_of%@Nat.lt_of_lt_of_le:=@Nat.lt_of_lt_of_le
theorem D4:type_of%@Nat.lt_of_le_of_lt:=@Nat.lt_of_le_of_lt
theorem E4:type_of%@Int.natCast_nonneg:=@Int.natCast_nonneg
theorem Q4:type_of%@List.mem_cons_self:=@List.mem_cons_self
theorem N0:type_of%@of_decide_eq_true:=@of_decide_eq_true
theorem A3:type_of%@List.append_assoc:=@List.append_assoc
theorem P4:type_of%@List.getElem?_map:=@List.getElem?_map
theorem M0:type_of%@Bool.and_eq_true:=@Bool.and_eq_true
theorem Q1:type_of%@Nat.le_add_right:=@Nat.le_add_right
theorem B2:type_of%@List.all_eq_true:=@List.all_eq_true
theorem P2:type_of%@List.length_cons:=@List.length_cons
theorem y4:type_of%@List.not_mem_nil:=@List.not_mem_nil
theorem z4:type_of%@List.cons_ne_nil:=@List.cons_ne_nil
theorem J4:type_of%@Nat.succ_le_succ:=@Nat.succ_le_succ
theorem R4:type_of%@List.lookup_cons:=@List.lookup_cons
theorem k5:type_of%@List.mem_flatMap:=@List.mem_flatMap
theorem z0:type_of%@Option.some.inj:=@Option.some.inj
theorem D0:type_of%@Nat.le_add_left:=@Nat.le_add_left
theorem R0:type_of%@List.length_map:=@List.length_map
theorem D1:type_of%@decide_eq_false:=@decide_eq_false
theorem D2:type_of%@List.mem_append:=@List.mem_append
theorem K2:type_of%@List.append_nil:=@List.append_nil
theorem P3:type_of%@List.nodup_cons:=@List.nodup_cons
theorem T3:type_of%@List.length_set:=@List.length_set
theorem j4:type_of%@Int.emod_nonneg:=@Int.emod_nonneg
theorem o4:type_of%@Nat.le_antisymm:=@Nat.le_antisymm
theorem d5:type_of%@Option.map_some:=@Option.map_some
theorem i5:type_of%@Nat.le_max_left:=@Nat.le_max_left
theorem j5:type_of%@List.length_nil:=@List.length_nil
theorem Y2:type_of%@decide_eq_true:=@decide_eq_true
theorem K1:type_of%@List.mem_cons:=@List.mem_cons
theorem Y3:type_of%@PySem.wpAny_holding:=@PySem.wpAny_holding
theorem K4:type_of%@List.map_cons:=@List.map_cons
theorem T4:type_of%@Bool.and_true:=@Bool.and_true
theorem A0:type_of%@Nat.le_trans:=@Nat.le_trans
theorem D3:type_of%@Nat.le_of_eq:=@Nat.le_of_eq
theorem H4:type_of%@Nat.ne_of_lt:=@Nat.ne_of_lt
theorem o5:type_of%@PySem.Heap.lt_size:=@PySem.Heap.lt_size
theorem K0:type_of%@Nat.le_refl:=@Nat.le_refl
theorem Y4:type_of%@Nat.le_succ:=@Nat.le_succ
theorem c5:type_of%@Nat.zero_le:=@Nat.zero_le
noncomputable abbrev PE:=PySem.Expr
theorem fE{p:Prop}(h:False):p:=h.elim
theorem E0:type_of%@PySem.wpAny_bind:=@PySem.wpAny_bind
theorem A2:type_of%@PySem.wpAny_pure:=@PySem.wpAny_pure
theorem C2:type_of%@PySem.wpAny_mono:=@PySem.wpAny_mono
theorem J3:type_of%@PySem.W.look_both:=@PySem.W.look_both
theorem C0:type_of%@congrArg:=@congrArg
theorem i4:type_of%@Ne.symm:=@Ne.symm
theorem X0:type_of%@if_pos:=@if_pos
theorem Y0:type_of%@if_neg:=@if_neg
@[elab_as_elim] theorem rr{α:Sort u}{a b:α}{M:α->Prop}(h:a=b)(e:M b):M a:=h▸e
@[elab_as_elim] theorem rq{α:Sort u}{a b:α}{M:α->Prop}(h:b=a)(e:M b):M a:=h▸e
abbrev Po:=Nat->Nat
noncomputable def po(f:Nat):Nat->Po×Nat:=f.rec (λn=>(λ_=>0,n)) λ_ ih n=>
 bif Nat.blt (n%32) 24 then(λj=>bif Nat.beq j (n%32)then 1 else 0,n/32)else
 bif Nat.beq (n%32) 24 then(λj=>(ih (n/32)).1 j+(ih (ih (n/32)).2).1 j,(ih (ih (n/32)).2).2)else
 bif Nat.beq (n%32) 25 then(λj=>bif Nat.beq j 31 then n/32%32 else 0,n/1024)else
 bif Nat.beq (n%32) 26 then(λj=>bif Nat.beq j 31 then n/32%4294967296 else 0,n/137438953472)else
 (λj=>n/32%128*(ih (n/4096)).1 j,(ih (n/4096)).2)
noncomputable def dn(c:List Nat)(f:Nat):Nat->Nat:=f.rec (λ_=>0) λf ih n=>
 bif Nat.blt (n%32) 24 then c.getD (n%32) 0 else
 bif Nat.beq (n%32) 24 then ih (n/32)+ih (po f (n/32)).2 else
 bif Nat.beq (n%32) 25 then n/32%32 else
 bif Nat.beq (n%32) 26 then n/32%4294967296 else
 n/32%128*ih (n/4096)
noncomputable def va(p:Po)(c:List Nat):Nat->Nat:=c.rec (λ_=>0) λx _ ih j=>p j*x+ih (j+1)
noncomputable def vl(p:Po)(c:List Nat):Nat:=va p c 0+p 31
theorem ny{p q:Po}{c:List Nat}:∀j,va (λj=>p j+q j) c j=va p c j+va q c j:=by
 induction c with|nil=>exact λ_=>rfl|cons x c ih=>exact λj=>(congr (C0 HAdd.hAdd (Nat.add_mul (p j) (q j) x)) (ih (j+1))).trans (Nat.add_add_add_comm _ _ _ _)
theorem UE{p:Po}{k:Nat}{c:List Nat}:∀j,va (λj=>k*p j) c j=k*va p c j:=by
 induction c with|nil=>exact λ_=>rfl|cons x c ih=>exact λj=>(congr (C0 HAdd.hAdd (Nat.mul_assoc k (p j) x)) (ih (j+1))).trans (Nat.mul_add _ _ _).symm
theorem BA{p:Po}{c:List Nat}:∀j,(∀i,j<=i->i<j+c.length->p i=0)->va p c j=0:=by
 induction c with|nil=>exact λ_ _=>rfl|cons x c ih=>exact λj h=>(congr (C0 HAdd.hAdd ((C0 (· *x) (h j (K0 _) (Nat.lt_add_of_pos_right (Nat.succ_pos _)))).trans (Nat.zero_mul _))) (ih (j+1) λi a b=>h i (Nat.le_of_succ_le a) (Nat.add_right_comm j 1 c.length▸b)))
theorem KI{i d:Nat}(h:i≠d):Nat.beq i d=false:=Bool.eq_false_iff.mpr λz=>h (Nat.eq_of_beq_eq_true z)
theorem HN{d:Nat}{c:List Nat}:∀j,j<=d->va (λi=>bif Nat.beq i d then 1 else 0) c j=c.getD (d-j) 0:=by
 induction c with
 |nil=>exact λ_ _=>rfl|cons x c ih=>
  intro j h;by_cases e:j=d
  ·clear ih h;subst e;refine(congr (C0 HAdd.hAdd (show(bif Nat.beq j j then 1 else 0)*x=x by rw[Nat.beq_refl];exact Nat.one_mul x)) (BA (j+1) λi a _=>?_)).trans (by rw[Nat.sub_self];rfl);rw[show Nat.beq i j=false from KI (Nat.ne_of_gt a)];rfl
  ·refine(congr (C0 HAdd.hAdd (show(bif Nat.beq j d then 1 else 0)*x=0 by rw[show Nat.beq j d=false from KI e];exact Nat.zero_mul x)) (ih (j+1) (Nat.lt_of_le_of_ne h e))).trans ?_;rw[Nat.zero_add,show d-j=d-(j+1)+1 by omega];rfl
theorem Cs{p:Po}{c:List Nat}(h:∀i,i≠31->p i=0)(l:c.length<=31):va p c 0=0:=BA 0 λi _ b=>h i (H4 (C4 (Nat.zero_add c.length▸b) l))
theorem yR{k:Nat}{c:List Nat}(l:c.length<=31):vl (λj=>bif Nat.beq j 31 then k else 0) c=k:=
 (C0 (· +k) (Cs (λi h=>by rw[KI h];rfl) l)).trans (Nat.zero_add k)
theorem PM{c:List Nat}(l:c.length<=31)(f:Nat):∀n,dn c f n=vl (po f n).1 c:=by
 induction f with
 |zero=>exact λn=>((C0 (· +0) (Cs (p:=λ_=>0) (λ_ _=>rfl) l))).symm|succ f ih=>
  intro n;simp only[dn,po];cases e1:Nat.blt (n%32) 24 with
  |true=>exact((congr (C0 HAdd.hAdd (HN 0 (c5 _))) (show(bif Nat.beq 31 (n%32)then 1 else 0)=0 by rw[KI λz=>by rw[<-z]at e1;exact absurd e1 (N0 rfl)];rfl))).symm|false=>cases e2:Nat.beq (n%32) 24 with
   |true=>exact(congr (C0 HAdd.hAdd (ih _)) (ih _)).trans ((Nat.add_add_add_comm _ _ _ _).trans (C0 (· +_) (ny 0).symm))|false=>cases e3:Nat.beq (n%32) 25 with
    |true=>exact(yR l).symm|false=>cases e4:Nat.beq (n%32) 26 with
     |true=>exact(yR l).symm|false=>exact(C0 (n/32%128*·) (ih (n/4096))).trans ((Nat.mul_add _ _ _).trans (C0 (· +_) (UE 0).symm))
def rl(r x y:Nat):Prop:=bif Nat.beq r 0 then x<=y else bif Nat.beq r 1 then x<y else bif Nat.beq r 2 then x=y else bif Nat.beq r 3 then¬x<=y else¬x<y
def fc(c:List Nat)(s:Nat):Prop:=rl (s%32) (dn c 40 (s/32)) (dn c 40 (po 40 (s/32)).2)
noncomputable def nx(s:Nat):Nat:=(po 40 (po 40 (s/32)).2).2
noncomputable def p1(s:Nat):Po:=(po 40 (s/32)).1
noncomputable def p2(s:Nat):Po:=(po 40 (po 40 (s/32)).2).1
noncomputable def ps(p:Po):Po:=λj=>p j+bif Nat.beq j 31 then 1 else 0
noncomputable def lw(s:Nat)(b:Bool):Po:=bif Nat.beq (s%32) 0 then p1 s else bif Nat.beq (s%32) 1 then ps (p1 s)else bif Nat.beq (s%32) 2 then(bif b then p1 s else p2 s)else bif Nat.beq (s%32) 3 then ps (p2 s)else p2 s
noncomputable def up(s:Nat)(b:Bool):Po:=bif Nat.beq (s%32) 0 then p2 s else bif Nat.beq (s%32) 1 then p2 s else bif Nat.beq (s%32) 2 then(bif b then p2 s else p1 s)else p1 s
theorem zA{p:Po}{c:List Nat}(l:c.length<=31):vl (ps p) c=vl p c+1:=
 (congr (C0 HAdd.hAdd ((ny 0).trans (C0 (va p c 0+·) (Cs (λi h=>by rw[KI h];rfl) l)))) rfl).trans (Nat.add_assoc _ _ _).symm
theorem vs{c:List Nat}(l:c.length<=31)(s:Nat):fc c s=rl (s%32) (vl (p1 s) c) (vl (p2 s) c):=by show rl _ (dn c 40 (s/32)) (dn c 40 (po 40 (s/32)).2)=_;rw[PM l,PM l];rfl
theorem iT{c:List Nat}(l:c.length<=31){s:Nat}(b:Bool)(h:fc c s):vl (lw s b) c<=vl (up s b) c:=by
 rw[vs l]at h;unfold rl at h;unfold lw up;cases e0:Nat.beq (s%32) 0 with
 |true=>rw[e0]at h;exact h|false=>cases e1:Nat.beq (s%32) 1 with
  |true=>rw[e0,e1]at h;exact(zA l).symm▸h|false=>cases e2:Nat.beq (s%32) 2 with
   |true=>
    rw[e0,e1,e2]at h;cases b with|true=>exact D3 h|false=>exact D3 h.symm
   |false=>cases e3:Nat.beq (s%32) 3 with
    |true=>rw[e0,e1,e2,e3]at h;exact(zA l).symm▸Nat.lt_of_not_le h|false=>rw[e0,e1,e2,e3]at h;exact Nat.le_of_not_lt h
theorem SS{c:List Nat}(l:c.length<=31){s:Nat}(n:Nat.beq (s%32) 2=false)(h:vl (lw s true) c<=vl (up s true) c):fc c s:=by
 rw[vs l];unfold rl;unfold lw up at h;cases e0:Nat.beq (s%32) 0 with
 |true=>rw[e0]at h;exact h|false=>cases e1:Nat.beq (s%32) 1 with
  |true=>rw[e0,e1]at h;replace h:vl (ps (p1 s)) c<=vl (p2 s) c:=h;rw[zA l]at h;exact h|false=>cases e3:Nat.beq (s%32) 3 with
   |true=>rw[e0,e1,n,e3]at h;rw[n];replace h:vl (ps (p2 s)) c<=vl (p1 s) c:=h;rw[zA l]at h;exact Nat.not_le.mpr h|false=>rw[e0,e1,n,e3]at h;rw[n];exact Nat.not_lt.mpr h
noncomputable def VX(p q:Po):Nat->Bool:=Nat.rec (Nat.ble (p 31) (q 31)) λj ih=>Nat.ble (p j) (q j)&&ih
theorem zR{p q:Po}{c:List Nat}:∀j,(∀i,j<=i->i<j+c.length->p i<=q i)->va p c j<=va q c j:=by
 induction c with|nil=>exact λ_ _=>K0 _|cons x c ih=>exact λj h=>Nat.add_le_add (Nat.mul_le_mul_right x (h j (K0 _) (Nat.lt_add_of_pos_right (Nat.succ_pos _)))) (ih (j+1) λi a b=>h i (Nat.le_of_succ_le a) (Nat.add_right_comm j 1 c.length▸b))
theorem ZO{p q:Po}:∀n,VX p q n=true->p 31<=q 31/\∀i,i<n->p i<=q i:=by
 intro n;induction n with|zero=>exact λh=>⟨j3 h,λi z=>absurd z (Nat.not_lt_zero i)⟩|succ n ih=>intro h;have h:=(M0 _ _).mp h;have k:=ih h.2;exact⟨k.1,λi z=>(Nat.lt_or_eq_of_le (Nat.le_of_lt_succ z)).elim (k.2 i) λe=>e▸j3 h.1⟩
noncomputable def pa(p q:Po):Po:=λj=>p j+q j
noncomputable def pm(k:Nat)(p:Po):Po:=λj=>k*p j
theorem AA{p q:Po}{c:List Nat}:vl (pa p q) c=vl p c+vl q c:=(C0 (· +_) (ny 0)).trans (Nat.add_add_add_comm _ _ _ _)
theorem EM{p:Po}{k:Nat}{c:List Nat}:vl (pm k p) c=k*vl p c:=(C0 (· +_) (UE 0)).trans (Nat.mul_add _ _ _).symm
theorem xR{p q:Po}{c:List Nat}(h:VX p q c.length=true):vl p c<=vl q c:=
 have k:=ZO _ h
 Nat.add_le_add (zR 0 λi _ b=>k.2 i (Nat.zero_add c.length▸b)) k.1
noncomputable def sm(s:Nat):Nat->Po×Po:=λn=>n.rec (λ_=>(λ_=>0,λ_=>0)) (λ_ ih s=>(pa (pm (s%256/2) (lw (s/256) (Nat.beq (s%2) 0))) (ih (nx (s/256))).1,pa (pm (s%256/2) (up (s/256) (Nat.beq (s%2) 0))) (ih (nx (s/256))).2)) s
def al(c:List Nat)(n s:Nat):Prop:=n.rec (λ_=>True) (λ_ ih s=>fc c (s/256)/\ih (nx (s/256))) s
theorem RV{c:List Nat}(l:c.length<=31)(n:Nat):∀{s:Nat},al c n s->vl (sm s n).1 c<=vl (sm s n).2 c:=by
 induction n with|zero=>exact λ_=>K0 _|succ n ih=>exact λ{s} h=>(AA (c:=c)).symm▸(AA (c:=c)).symm▸Nat.add_le_add ((EM (c:=c)).symm▸(EM (c:=c)).symm▸Nat.mul_le_mul_left _ (iT l _ h.1)) (ih h.2)
noncomputable def ck(n s m:Nat):Bool:=Nat.ble m 31&&(not (Nat.beq (s%32) 2)&&VX (pa (lw s true) (sm (nx s) n).2) (pa (up s true) (sm (nx s) n).1) m)
theorem WO{c:List Nat}(n:Nat){s:Nat}(o:ck n s c.length=true)(h:al c n (nx s)):fc c s:=by have o:=(M0 _ _).mp o;have l:=j3 o.1;have o:=(M0 _ _).mp o.2;refine SS l ((Bool.not_eq_true' _).mp o.1) ?_;have a:=xR o.2;rw[AA,AA]at a;exact Nat.le_of_add_le_add_right (A0 a (Nat.add_le_add_left (RV l n h) _))
theorem tO:true=true:=rfl
theorem Lm(c:List Nat)(s:Nat)(o:ck 0 s c.length=true):fc c s:=WO 0 o trivial
theorem Fb(c:List Nat)(s:Nat)(o:ck 1 s c.length=true)(h1:fc c (nx s/256)):fc c s:=WO 1 o ⟨h1,trivial⟩
theorem Jc(c:List Nat)(s:Nat)(o:ck 2 s c.length=true)(h1:fc c (nx s/256))(h2:fc c (nx (nx s/256)/256)):fc c s:=WO 2 o ⟨h1,h2,trivial⟩
theorem Lp(c:List Nat)(s:Nat)(o:ck 3 s c.length=true)(h1:fc c (nx s/256))(h2:fc c (nx (nx s/256)/256))(h3:fc c (nx (nx (nx s/256)/256)/256)):fc c s:=WO 3 o ⟨h1,h2,h3,trivial⟩
theorem YQ(c:List Nat)(s:Nat)(o:ck 4 s c.length=true)(h1:fc c (nx s/256))(h2:fc c (nx (nx s/256)/256))(h3:fc c (nx (nx (nx s/256)/256)/256))(h4:fc c (nx (nx (nx (nx s/256)/256)/256)/256)):fc c s:=WO 4 o ⟨h1,h2,h3,h4,trivial⟩
theorem KX(a b:Nat):a<=a-b+b:=Nat.sub_le_iff_le_add.mp (K0 _)
section
open PySem PySem.W
noncomputable abbrev pw:=PySem.Challenge.pw_up0024_01
end
open PySem PySem.W PyProof.Rows
noncomputable abbrev yc:List Str:=List.map Str.ofString ["__name__","__doc__","__package__","__loader__","__spec__","__annotations__","__builtins__","__file__","__cached__","_wall","K_NUM","K_STR","K_TPL","K_TRUE","K_FALSE","K_NAME","K_THIS","K_SHORT","K_MEMBER","K_INDEX","K_CALL","K_CHAIN","K_UNARY","K_UPDATE","K_BINARY","K_LOGIC","K_ASSIGN","K_FUNC","K_AS","K_SATISFIES","K_NONNULL","K_PAREN","K_OBJPAT","K_ARRPAT","K_BIND","K_VAR","K_SWITCH","K_CASE","K_CLASS","K_LIST","F_OPTCHAIN","Node","has","bare","literal_key","member_name","root_key","ref_key","tested_key","KeepError","TooDeep","Y_KEY","Y_BOOL","Y_STR","Y_NUM","Y_ENUM","Y_UNION","Y_INTER","Y_OBJ","Y_REF","Y_PARAM","Y_ARRAY","Y_TUPLE","Y_SIG","Y_KEYOF","Y_INDEX","Y_COND","Y_MAPPED","Y_TPL","Y_ALIAS","ANY","UNKNOWN","NEVER","VOID","UNDEF","NULLT","STRING","NUMBER","FALSE_T","TRUE_T","OBJECTT","EMPTY","ERR","FRESH_F","FRESH_T","P_OPT","D_OBJALIAS","FAM_OTHER","FAM_STR","FAM_NUM","FAM_BOOL","FAM_NULL","FAM_UNDEF","FAM_VOID","FAM_OBJ","MAX_UNION","FIRST_ROWS","LITERAL_ROWS","MARKED_ROWS","OBJECT_ROWS","KEY_FAMILIES","TypeTable","kind_of","parts_of","whole_of_row","regular_twin","join_bools","stays_beside","top_of","union","add_undef","is_literal","is_unit","is_fresh","regular_one","common_family","meet_family","family","is_nullish_family","MAX_DRAWN","MEET_NEVER","MEET_LEFT","MEET_RIGHT","MEET_BOTH","all_units","value_literal","kinds_apart","units_clash","known_decl","body_props","flat_props","shapes_clash","meet_nullish","meet_values","meet_objects","meet_case","lay_on","members_of_meet","meet_parts","meet_two","inter","may_be_nullish","mapped_may_be_nullish","meet_may_be_nullish","not_nullish","remove_nullish","L_JOIN","L_SET","L_TRUE","L_FALSE","L_CALL","L_CASE","pattern_leaves","target_nodes","target_keys","Asker","Q_TRUTH","Q_TYPEOF","Q_EQUAL","Q_THERE","Q_IN","Q_INSTANCE","Q_PRED","TRUTH_SIGNS","inner","holder_key","chain_holds","concerns","is_there","put_test","typeof_word","sets_within","turn_equal","turn_binary","turn_logic","turn_given","turn_cond","is_truth","turn_hit","turn_missed","turn_case","turn_plain","_law_take","_law_node","_law_steps","_law_path","_law_walk","_law_leaf","_law_cond","_law_typeof","_law_say","_law_word","_law_run_leaf","_law_run","_law_tells","_law_may","_law_world","_law_env","_law_list","_law_right","_law_whole","_law_there","_law_clause","_law_clause_node","_law_hits","_law_taken","_law_switch","law"]
noncomputable def jZ(k:Nat):Stmt:=(behindTheImports pw).getD k (.Pass ⟨0,0,0,0⟩)
noncomputable def ZZ(k j:Nat):Stmt:=match jZ k with| .ClassDef _ _ _ b _ _ _ _ _ _ _=>b.getD j (.Pass ⟨0,0,0,0⟩)|s=>s
noncomputable def oT(l:List Value):Obj:=⟨.type "tuple",none,.seq l.toArray 0,#[]⟩
noncomputable def oF(l:List Value):Obj:=⟨.none,none,.fields l.toArray,#[]⟩
noncomputable def oG(c:String)(l:List Value):Obj:=⟨.type c,none,.fields l.toArray,#[]⟩
noncomputable def eK(P:Params)(k:Str)(t:Nat)(v:Value):DictEntry:=⟨PyData.keyHash P k,.str k t,v⟩
noncomputable def eI(k:Int)(t:Nat)(v:Value):DictEntry:=⟨k,.int k t,v⟩
noncomputable def BU:List Str->Nat->List Value:=List.rec (λ_=>[]) λs _ ih t=> .str s t::ih (t+1)
noncomputable def mZ(q:Option Str)(s:Stmt)(b t:Nat)(v:Bool)(d m:Value):List Obj:=match s with
 | .FunctionDef n a body _ _ _ sc _ _ p=>
  let q:=q.getD n;let vs:=bif v then sc.names.filterMap λx=>match x.2 with| .local=>some x.1|_=>none else[]
  let z:=t+3+vs.length;let c:=bif v then b+5 else b+3;let OU:=Str.ofString "/claim/cut.py"
  [oT [],oF []]++(bif v then[oT (BU vs (t+3)),oT []]else[])++
  [⟨.none,none,.func {name:=n,qualname:=q,params:=a,body:= .stmts body,scope:=sc,globals:=0,closure:=[],defaults:= .none,kwdefaults:= .none},#[]⟩,
   oG "code" ([.str n t,.str q (t+1),.str OU (t+2),.int p.line 0,.int a.args.length 0,.int 0 0,.int 0 0,.int 3 0,.ref b,.bool true,.int 181 0,.ref (b+1),.none]++
    (bif v then[.ref (b+2),.ref (b+3),.ref (b+4)]else[.none,.none,.ref (b+2)])++[.int z 0,.int p.line 0,.str OU (z+1)]),
   ⟨.type "function",none,.func {name:=n,qualname:=q,params:=a,body:= .stmts body,scope:=sc,globals:=3,closure:=[],defaults:=d,kwdefaults:= .none,pyModule:=m,code:= .ref c},#[]⟩]
 |_=>[]
noncomputable def fT(k b t:Nat)(v:Bool)(d m:Value):List Obj:=mZ none (jZ k) b t v d m
noncomputable def fC(k j:Nat)(q:Str)(b t:Nat)(d m:Value):List Obj:=mZ (some q) (ZZ k j) b t true d m
noncomputable abbrev lZ:Value:= .str "__main__" 164
noncomputable abbrev CJ:Value:= .str "kindkeep.nodes" 194
noncomputable abbrev lY:Value:= .str "kindkeep.diags" 353
noncomputable abbrev Pm:Value:= .str "kindkeep.types" 415
noncomputable abbrev Ro:Value:= .str "kindkeep.typeops" 734
noncomputable abbrev iy:Value:= .str "kindkeep.flow" 958
noncomputable abbrev yt:Value:= .str "kindkeep.narrowplain" 1114
noncomputable abbrev Hj:Value:= .str "law_up0024_01" 1329
noncomputable def OZ:List (Nat×Value):=[(165,.str "law_up0024_01" 1329),(166,.none),(167,.none),(168,.builtin "__main__.__loader__#opaque"),(169,.none),(170,.ref 6),(171,.ref 4),(173,.str "/claim/cut.py" 172),(174,.none),(193,.ref 21),(197,.int 1 196),(199,.int 2 198),(201,.int 3 200),(203,.int 4 202),(205,.int 5 204),(207,.int 8 206),(209,.int 9 208),(211,.int 14 210),(213,.int 16 212),(215,.int 17 214),(217,.int 18 216),(219,.int 20 218),(221,.int 21 220),(223,.int 22 222),(225,.int 23 224),(227,.int 24 226),(229,.int 25 228),(231,.int 27 230),(233,.int 29 232),(235,.int 31 234),(237,.int 32 236),(239,.int 33 238),(241,.int 34 240),(243,.int 35 242),(245,.int 36 244),(247,.int 41 246),(249,.int 50 248),(251,.int 51 250),(253,.int 61 252),(255,.int 71 254),(257,.int 1 256),(295,.ref 38),(303,.ref 49),(310,.ref 56),(317,.ref 63),(324,.ref 70),(333,.ref 77),(344,.ref 84),(352,.ref 91),(385,.ref 109),(414,.ref 130),(418,.int 1 417),(420,.int 2 419),(422,.int 3 421),(424,.int 4 423),(426,.int 5 425),(428,.int 6 427),(430,.int 7 429),(432,.int 8 431),(434,.int 9 433),(436,.int 10 435),(438,.int 11 437),(440,.int 12 439),(442,.int 13 441),(444,.int 14 443),(446,.int 15 445),(448,.int 16 447),(450,.int 17 449),(452,.int 18 451),(454,.int 19 453),(456,.int 0 455),(458,.int 1 457),(460,.int 2 459),(462,.int 3 461),(464,.int 4 463),(466,.int 5 465),(468,.int 6 467),(470,.int 7 469),(472,.int 8 471),(474,.int 9 473),(476,.int 10 475),(478,.int 11 477),(480,.int 13 479),(482,.int 14 481),(484,.int 15 483),(486,.int 1 485),(488,.int 3 487),(490,.int 0 489),(492,.int 1 491),(494,.int 2 493),(496,.int 3 495),(498,.int 4 497),(500,.int 5 499),(502,.int 6 501),(504,.int 7 503),(506,.int 400 505),(528,.ref 155),(529,.ref 156),(530,.ref 157),(531,.ref 158),(538,.ref 159),(593,.ref 190),(601,.ref 201),(610,.ref 208),(618,.ref 215),(627,.ref 222),(634,.ref 229),(643,.ref 236),(651,.ref 243),(657,.ref 248),(665,.ref 255),(673,.ref 262),(681,.ref 269),(690,.ref 276),(698,.ref 283),(704,.ref 288),(715,.ref 295),(726,.ref 302),(733,.ref 309),(737,.int 200 736),(739,.int 0 738),(741,.int 1 740),(743,.int 2 742),(745,.int 3 744),(751,.ref 314),(760,.ref 321),(769,.ref 328),(775,.ref 333),(783,.ref 340),(792,.ref 347),(809,.ref 354),(815,.ref 359),(825,.ref 366),(836,.ref 373),(847,.ref 380),(858,.ref 387),(871,.ref 394),(881,.ref 401),(887,.ref 406),(903,.ref 413),(914,.ref 420),(927,.ref 428),(937,.ref 435),(943,.ref 440),(951,.ref 447),(957,.ref 452),(961,.int 2 960),(963,.int 4 962),(965,.int 5 964),(967,.int 6 966),(969,.int 7 968),(971,.int 8 970),(982,.ref 459),(989,.ref 466),(995,.ref 471),(1113,.ref 551),(1117,.int 1 1116),(1119,.int 2 1118),(1121,.int 3 1120),(1123,.int 4 1122),(1125,.int 5 1124),(1127,.int 6 1126),(1129,.int 7 1128),(1140,.ref 556),(1147,.ref 563),(1156,.ref 570),(1165,.ref 577),(1174,.ref 584),(1180,.ref 589),(1194,.ref 596),(1202,.ref 603),(1208,.ref 608),(1227,.ref 615),(1242,.ref 622),(1257,.ref 629),(1269,.ref 636),(1280,.ref 643),(1286,.ref 648),(1298,.ref 655),(1310,.ref 662),(1316,.ref 667),(1328,.ref 674),(1340,.ref 681),(1352,.ref 688),(1366,.ref 695),(1382,.ref 702),(1397,.ref 709),(1407,.ref 716),(1417,.ref 723),(1427,.ref 730),(1441,.ref 737),(1448,.ref 744),(1458,.ref 751),(1468,.ref 758),(1476,.ref 765),(1490,.ref 772),(1496,.ref 777),(1505,.ref 784),(1513,.ref 791),(1526,.ref 798),(1532,.ref 803),(1547,.ref 810),(1558,.ref 817),(1568,.ref 824),(1577,.ref 831),(1592,.ref 838),(1598,.ref 843),(1609,.ref 850)]
noncomputable def hE(P:Params)(n:Nat)(m:Value):List DictEntry:=match List.zipWith (λk p=>eK P k p.1 p.2) (yc.take n) OZ with|e::r=>{e with val:=m}::r|[]=>[]
noncomputable def kZ(P:Params)(n:Nat)(m:Value):Obj:=⟨.type "dict",none,.dict (hE P n m).toArray n,#[]⟩
noncomputable def d0:List (Nat×Nat×Nat):=[(1,0,20),(36,0,27),(45,0,48),(47,0,55),(51,0,62),(60,0,69),(64,0,76),(73,0,83),(90,0,90),(99,0,97),(104,0,118),(160,0,165),(186,0,200),(188,0,207),(195,0,214),(204,0,221),(209,0,228),(213,0,235),(217,0,242),(222,0,247),(239,0,254),(241,0,261),(243,0,268),(245,0,275),(248,0,282),(252,0,287),(256,0,294),(265,0,301),(282,0,308),(290,0,313),(293,0,320),(298,0,327),(302,0,332),(311,0,339),(313,0,346),(318,0,353),(337,0,358),(341,0,365),(347,0,372),(357,0,379),(365,0,386),(379,0,393),(393,0,400),(404,0,405),(413,0,412),(429,0,419),(438,0,427),(454,0,434),(457,0,439),(462,0,446),(470,0,451),(479,0,458),(493,0,465),(497,0,470),(499,0,477),(548,0,562),(552,0,569),(560,0,576),(567,0,583),(571,0,588),(585,0,595),(594,0,602),(603,0,607),(613,0,614),(626,0,621),(640,0,628),(649,0,635),(654,0,642),(670,0,647),(680,0,654),(684,0,661),(689,0,666),(700,0,673),(709,0,680),(714,0,687),(719,0,694),(736,0,701),(757,0,708),(775,0,715),(787,0,722),(801,0,729),(804,0,736),(831,0,743),(833,0,750),(855,0,757),(872,0,764),(874,0,771),(894,0,776),(920,0,783),(923,0,790),(927,0,797),(938,0,802),(964,0,809),(977,0,816),(988,0,823),(1000,0,830),(1008,0,837),(1031,0,842),(1062,0,849)]
noncomputable def nZ(n:Nat):Obj:=oF ((d0.take n).flatMap λx=>[.int x.1 0,.int x.2.1 0,.ref x.2.2])
noncomputable def CU(P:Params):List Obj:=List.flatten [
[boot_o_0 P,boot_o_1 P,{cls:= .none,data:= .dict #[eK P "type.__subclasses__.Exception.0" 382 (.int 109 0),eK P "type.__subclasses__.Exception.n" 383 (.int 1 0)] 2},kZ P 208 Hj,boot_o_4 P,boot_o_5 P,boot_o_6 P,boot_o_7 P,boot_o_8 P,boot_o_9 P,boot_o_10 P,oT [],nZ 99,oG "code" [.str "<module>" 182,.str "<module>" 183,.str "/claim/cut.py" 184,.int 1 0,.int 0 0,.int 0 0,.int 0 0,.int 0 0,.ref 11,.bool false,.int 181 0,.ref 12,.none,.none,.none,.none,.int 185 0,.int 1 0,.str "/claim/cut.py" 186],{cls:= .type "frame",slots:=#[some (.ref 13),some (.ref 3),some (.ref 3),none,some (.str "__main__" 164),none,some (.ref 0)]}],
 fT 0 15 187 true .none lZ,
 [oT [],oG "builtin_function_or_method" [.builtin "type.__prepare__",.type "type"],{cls:= .type "dict",data:= .dict #[eK P "__module__" 265 (.str "kindkeep.nodes" 194),eK P "__qualname__" 267 (.str "Node" 266),eK P "__firstlineno__" 269 (.int 36 268),eK P "__init__" 281 (.ref 35),eK P "__static_attributes__" 288 (.ref 36)] 5},oT [],oF [.int 38 0,.int 4 0,.ref 34],oG "code" [.str "Node" 260,.str "Node" 261,.str "/claim/cut.py" 262,.int 36 0,.int 0 0,.int 0 0,.int 0 0,.int 0 0,.ref 25,.bool false,.int 181 0,.ref 26,.none,.none,.none,.none,.int 263 0,.int 36 0,.str "/claim/cut.py" 264],{cls:= .type "frame",slots:=#[some (.ref 27),some (.ref 3),some (.ref 24),none,some (.str "kindkeep.nodes" 194),none,some (.ref 0)]}],
 fC 33 0 "Node.__init__" 29 270 .none CJ,
 [oT [.str "a" 282,.str "at" 283,.str "flags" 284,.str "kids" 285,.str "kind" 286,.str "nid" 287],{cls:= .type "dict",data:= .dict #[eK P "__module__" 265 (.str "kindkeep.nodes" 194),eK P "__firstlineno__" 269 (.int 36 268),eK P "__init__" 281 (.ref 35),eK P "__static_attributes__" 288 (.ref 36),eK P "__dict__" 290 (.ref 39),eK P "__weakref__" 292 (.ref 40),eK P "__doc__" 293 (.none)] 4},{cls:= .type "type",data:= .cls {name:="Node",bases:=[.type "object"],mro:=[.ref 38,.type "object"],ns:=37,qualname:="Node"},slots:=#[none,none,some (.str "Node" 258),some (.str "Node" 266),some (.builtin "object.__new__"),some (.bool true)]},oG "getset_descriptor" [.str "__dict__" 289,.ref 38,.builtin "function.__dict__",.builtin "function.__dict__#set"],oG "getset_descriptor" [.str "__weakref__" 291,.ref 38,.builtin "ExceptionGroup.__weakref__",.none],oG "super" [.ref 38,.ref 38,.ref 38],oG "builtin_function_or_method" [.builtin "object.__init_subclass__",.ref 38]],
 fT 34 43 296 true .none CJ,
 fT 35 50 304 true .none CJ,
 fT 36 57 311 true .none CJ,
 fT 37 64 318 true .none CJ,
 fT 38 71 325 true .none CJ,
 fT 39 78 334 true .none CJ,
 fT 40 85 345 true .none CJ,
 [oT [.type "Exception"],oG "builtin_function_or_method" [.builtin "type.__prepare__",.type "type"],{cls:= .type "dict",data:= .dict #[eK P "__module__" 362 (.str "kindkeep.diags" 353),eK P "__qualname__" 364 (.str "KeepError" 363),eK P "__firstlineno__" 366 (.int 99 365),eK P "__init__" 375 (.ref 106),eK P "__static_attributes__" 378 (.ref 107)] 5},oT [],oF [.int 101 0,.int 4 0,.ref 105],oG "code" [.str "KeepError" 357,.str "KeepError" 358,.str "/claim/cut.py" 359,.int 99 0,.int 0 0,.int 0 0,.int 0 0,.int 0 0,.ref 95,.bool false,.int 181 0,.ref 96,.none,.none,.none,.none,.int 360 0,.int 99 0,.str "/claim/cut.py" 361],{cls:= .type "frame",slots:=#[some (.ref 97),some (.ref 3),some (.ref 94),none,some (.str "kindkeep.diags" 353),none,some (.ref 0)]},oT [.str "" 367]],
 fC 42 0 "KeepError.__init__" 100 368 (.ref 99) lY,
 [oT [.str "number" 376,.str "text" 377],{cls:= .type "dict",data:= .dict #[eK P "__module__" 362 (.str "kindkeep.diags" 353),eK P "__firstlineno__" 366 (.int 99 365),eK P "__init__" 375 (.ref 106),eK P "__static_attributes__" 378 (.ref 107),eK P "__weakref__" 380 (.ref 110),eK P "__doc__" 381 (.none)] 3},{cls:= .type "type",data:= .cls {name:="KeepError",bases:=[.type "Exception"],mro:=[.ref 109,.type "Exception",.type "BaseException",.type "object"],ns:=108,qualname:="KeepError",subclasses:=[.ref 130]},slots:=#[some (.ref 92),none,some (.str "KeepError" 355),some (.str "KeepError" 363),some (.builtin "Exception.__new__"),some (.bool true)]},oG "getset_descriptor" [.str "__weakref__" 379,.ref 109,.builtin "ExceptionGroup.__weakref__",.none],oG "super" [.ref 109,.ref 109,.ref 109],oG "builtin_function_or_method" [.builtin "object.__init_subclass__",.ref 109],oT [.ref 109],oG "builtin_function_or_method" [.builtin "type.__prepare__",.type "type"],{cls:= .type "dict",data:= .dict #[eK P "__module__" 393 (.str "kindkeep.diags" 353),eK P "__qualname__" 395 (.str "TooDeep" 394),eK P "__firstlineno__" 397 (.int 104 396),eK P "__init__" 408 (.ref 127),eK P "__static_attributes__" 411 (.ref 128)] 5},oT [],oF [.int 106 0,.int 4 0,.ref 126],oG "code" [.str "TooDeep" 388,.str "TooDeep" 389,.str "/claim/cut.py" 390,.int 104 0,.int 0 0,.int 0 0,.int 0 0,.int 0 0,.ref 116,.bool false,.int 181 0,.ref 117,.none,.none,.none,.none,.int 391 0,.int 104 0,.str "/claim/cut.py" 392],{cls:= .type "frame",slots:=#[some (.ref 118),some (.ref 3),some (.ref 115),none,some (.str "kindkeep.diags" 353),none,some (.ref 0)]},oT [.int 2589 398,.str "" 399]],
 fC 43 0 "TooDeep.__init__" 121 400 (.ref 120) lY,
 [oT [.str "number" 409,.str "text" 410],{cls:= .type "dict",data:= .dict #[eK P "__module__" 393 (.str "kindkeep.diags" 353),eK P "__firstlineno__" 397 (.int 104 396),eK P "__init__" 408 (.ref 127),eK P "__static_attributes__" 411 (.ref 128),eK P "__doc__" 412 (.none)] 2},{cls:= .type "type",data:= .cls {name:="TooDeep",bases:=[.ref 109],mro:=[.ref 130,.ref 109,.type "Exception",.type "BaseException",.type "object"],ns:=129,qualname:="TooDeep"},slots:=#[some (.ref 113),none,some (.str "TooDeep" 386),some (.str "TooDeep" 394),some (.builtin "Exception.__new__"),some (.bool true)]},oG "super" [.ref 130,.ref 130,.ref 130],oG "builtin_function_or_method" [.builtin "object.__init_subclass__",.ref 130],oT [.int 1 417,.str "any" 507],oT [.int 1 417,.str "unknown" 508],oT [.int 1 417,.str "never" 509],oT [.int 1 417,.str "void" 510],oT [.int 1 417,.str "undefined" 511],oT [.int 1 417,.str "null" 512],oT [.int 1 417,.str "string" 513],oT [.int 1 417,.str "number" 514],oT [.int 2 419,.int 0 515,.int 0 516],oT [.int 2 419,.int 1 517,.int 0 518],oT [.int 1 417,.str "object" 519],oT [],oT [],oT [],oT [],oT [],oT [.int 8 431,.ref 144,.ref 145,.ref 146,.ref 147,.ref 148,.int 0 520],oT [.int 8 521,.int 9 522],oT [.int 6 427,.ref 150],oT [.int 1 417,.str "error" 523],oT [.int 2 419,.int 0 524,.int 1 525],oT [.int 2 419,.int 1 526,.int 1 527],oT [.ref 133,.ref 134,.ref 135,.ref 136,.ref 137,.ref 138,.ref 139,.ref 140,.ref 141,.ref 142,.ref 143,.ref 149,.ref 151,.ref 152,.ref 153,.ref 154],oT [.int 2 419,.int 3 421,.int 4 423,.int 5 425],oT [.int 2 419,.int 3 421,.int 4 423,.int 5 425,.int 8 431],oT [.int 8 431,.int 9 433,.int 11 437,.int 12 439,.int 13 441],{cls:= .type "dict",data:= .dict #[eI 3 461 (.int 6 501),eI 4 463 (.int 5 499),eI 5 465 (.int 4 497),eI 6 467 (.int 1 491),eI 7 469 (.int 2 493),eI 10 475 (.int 7 503)] 6},oT [],oG "builtin_function_or_method" [.builtin "type.__prepare__",.type "type"],{cls:= .type "dict",data:= .dict #[eK P "__module__" 546 (.str "kindkeep.types" 415),eK P "__qualname__" 548 (.str "TypeTable" 547),eK P "__firstlineno__" 550 (.int 160 549),eK P "__init__" 558 (.ref 173),eK P "row" 566 (.ref 180),eK P "put" 575 (.ref 187),eK P "__static_attributes__" 586 (.ref 188)] 7},oT [],oF [.int 162 0,.int 4 0,.ref 172,.int 176 0,.int 4 0,.ref 179,.int 179 0,.int 4 0,.ref 186],oG "code" [.str "TypeTable" 541,.str "TypeTable" 542,.str "/claim/cut.py" 543,.int 160 0,.int 0 0,.int 0 0,.int 0 0,.int 0 0,.ref 163,.bool false,.int 181 0,.ref 164,.none,.none,.none,.none,.int 544 0,.int 160 0,.str "/claim/cut.py" 545],{cls:= .type "frame",slots:=#[some (.ref 165),some (.ref 3),some (.ref 162),none,some (.str "kindkeep.types" 415),none,some (.ref 0)]}],
 fC 95 0 "TypeTable.__init__" 167 551 .none Pm,
 fC 95 1 "TypeTable.row" 174 559 .none Pm,
 fC 95 2 "TypeTable.put" 181 567 .none Pm,
 [oT [.str "bounds" 576,.str "decls" 577,.str "defaults" 578,.str "index" 579,.str "names" 580,.str "origins" 581,.str "putting" 582,.str "renamed" 583,.str "rows" 584,.str "shaping" 585],{cls:= .type "dict",data:= .dict #[eK P "__module__" 546 (.str "kindkeep.types" 415),eK P "__firstlineno__" 550 (.int 160 549),eK P "__init__" 558 (.ref 173),eK P "row" 566 (.ref 180),eK P "put" 575 (.ref 187),eK P "__static_attributes__" 586 (.ref 188),eK P "__dict__" 588 (.ref 191),eK P "__weakref__" 590 (.ref 192),eK P "__doc__" 591 (.none)] 4},{cls:= .type "type",data:= .cls {name:="TypeTable",bases:=[.type "object"],mro:=[.ref 190,.type "object"],ns:=189,qualname:="TypeTable"},slots:=#[none,none,some (.str "TypeTable" 539),some (.str "TypeTable" 547),some (.builtin "object.__new__"),some (.bool true)]},oG "getset_descriptor" [.str "__dict__" 587,.ref 190,.builtin "function.__dict__",.builtin "function.__dict__#set"],oG "getset_descriptor" [.str "__weakref__" 589,.ref 190,.builtin "ExceptionGroup.__weakref__",.none],oG "super" [.ref 190,.ref 190,.ref 190],oG "builtin_function_or_method" [.builtin "object.__init_subclass__",.ref 190]],
 fT 96 195 594 true .none Pm,
 fT 97 202 602 true .none Pm,
 fT 98 209 611 true .none Pm,
 fT 99 216 619 true .none Pm,
 fT 100 223 628 true .none Pm,
 fT 101 230 635 true .none Pm,
 fT 102 237 644 true .none Pm,
 fT 103 244 652 false .none Pm,
 fT 104 249 658 true .none Pm,
 fT 105 256 666 true .none Pm,
 fT 106 263 674 true .none Pm,
 fT 107 270 682 true .none Pm,
 fT 108 277 691 true .none Pm,
 fT 109 284 699 false .none Pm,
 fT 110 289 705 true .none Pm,
 fT 111 296 716 true .none Pm,
 fT 112 303 727 true .none Pm,
 fT 119 310 746 false .none Ro,
 fT 120 315 752 true .none Ro,
 fT 121 322 761 true .none Ro,
 fT 122 329 770 false .none Ro,
 fT 123 334 776 true .none Ro,
 fT 124 341 784 true .none Ro,
 fT 125 348 793 true .none Ro,
 fT 126 355 810 false .none Ro,
 fT 127 360 816 true .none Ro,
 fT 128 367 826 true .none Ro,
 fT 129 374 837 true .none Ro,
 fT 130 381 848 true .none Ro,
 fT 131 388 859 true .none Ro,
 fT 132 395 872 true .none Ro,
 fT 133 402 882 false .none Ro,
 fT 134 407 888 true .none Ro,
 fT 135 414 904 true .none Ro,
 [oT [.int 0 915]],
 fT 136 422 916 true (.ref 421) Ro,
 fT 137 429 928 true .none Ro,
 fT 138 436 938 false .none Ro,
 fT 139 441 944 true .none Ro,
 fT 140 448 952 false .none Ro,
 fT 148 453 972 true .none iy,
 fT 149 460 983 true .none iy,
 fT 150 467 990 false .none iy,
 [oT [],oG "builtin_function_or_method" [.builtin "type.__prepare__",.type "type"],{cls:= .type "dict",data:= .dict #[eK P "__module__" 1003 (.str "kindkeep.flow" 958),eK P "__qualname__" 1005 (.str "Asker" 1004),eK P "__firstlineno__" 1007 (.int 499 1006),eK P "__init__" 1016 (.ref 485),eK P "turn" 1028 (.ref 492),eK P "owns" 1037 (.ref 499),eK P "sets" 1047 (.ref 506),eK P "kills" 1057 (.ref 513),eK P "join" 1065 (.ref 520),eK P "start_of" 1075 (.ref 527),eK P "dead" 1082 (.ref 534),eK P "kept_past" 1091 (.ref 541),eK P "alive" 1100 (.ref 548),eK P "__static_attributes__" 1106 (.ref 549)] 14},oT [],oF [.int 501 0,.int 4 0,.ref 484,.int 508 0,.int 4 0,.ref 491,.int 511 0,.int 4 0,.ref 498,.int 514 0,.int 4 0,.ref 505,.int 519 0,.int 4 0,.ref 512,.int 525 0,.int 4 0,.ref 519,.int 528 0,.int 4 0,.ref 526,.int 531 0,.int 4 0,.ref 533,.int 534 0,.int 4 0,.ref 540,.int 537 0,.int 4 0,.ref 547],oG "code" [.str "Asker" 998,.str "Asker" 999,.str "/claim/cut.py" 1000,.int 499 0,.int 0 0,.int 0 0,.int 0 0,.int 0 0,.ref 475,.bool false,.int 181 0,.ref 476,.none,.none,.none,.none,.int 1001 0,.int 499 0,.str "/claim/cut.py" 1002],{cls:= .type "frame",slots:=#[some (.ref 477),some (.ref 3),some (.ref 474),none,some (.str "kindkeep.flow" 958),none,some (.ref 0)]}],
 fC 151 0 "Asker.__init__" 479 1008 .none iy,
 fC 151 1 "Asker.turn" 486 1017 .none iy,
 fC 151 2 "Asker.owns" 493 1029 .none iy,
 fC 151 3 "Asker.sets" 500 1038 .none iy,
 fC 151 4 "Asker.kills" 507 1048 .none iy,
 fC 151 5 "Asker.join" 514 1058 .none iy,
 fC 151 6 "Asker.start_of" 521 1066 .none iy,
 fC 151 7 "Asker.dead" 528 1076 .none iy,
 fC 151 8 "Asker.kept_past" 535 1083 .none iy,
 fC 151 9 "Asker.alive" 542 1092 .none iy,
 [oT [.str "given" 1101,.str "lost" 1102,.str "sure" 1103,.str "tab" 1104,.str "use" 1105],{cls:= .type "dict",data:= .dict #[eK P "__module__" 1003 (.str "kindkeep.flow" 958),eK P "__firstlineno__" 1007 (.int 499 1006),eK P "__init__" 1016 (.ref 485),eK P "turn" 1028 (.ref 492),eK P "owns" 1037 (.ref 499),eK P "sets" 1047 (.ref 506),eK P "kills" 1057 (.ref 513),eK P "join" 1065 (.ref 520),eK P "start_of" 1075 (.ref 527),eK P "dead" 1082 (.ref 534),eK P "kept_past" 1091 (.ref 541),eK P "alive" 1100 (.ref 548),eK P "__static_attributes__" 1106 (.ref 549),eK P "__dict__" 1108 (.ref 552),eK P "__weakref__" 1110 (.ref 553),eK P "__doc__" 1111 (.none)] 4},{cls:= .type "type",data:= .cls {name:="Asker",bases:=[.type "object"],mro:=[.ref 551,.type "object"],ns:=550,qualname:="Asker"},slots:=#[none,none,some (.str "Asker" 996),some (.str "Asker" 1004),some (.builtin "object.__new__"),some (.bool true)]},oG "getset_descriptor" [.str "__dict__" 1107,.ref 551,.builtin "function.__dict__",.builtin "function.__dict__#set"],oG "getset_descriptor" [.str "__weakref__" 1109,.ref 551,.builtin "ExceptionGroup.__weakref__",.none],oG "super" [.ref 551,.ref 551,.ref 551],oG "builtin_function_or_method" [.builtin "object.__init_subclass__",.ref 551],oT [.str "===" 1130,.str "!==" 1131,.str "==" 1132,.str "!=" 1133,.str "<" 1134,.str ">" 1135,.str "<=" 1136,.str ">=" 1137,.str "in" 1138,.str "instanceof" 1139]],
 fT 161 557 1141 true .none yt,
 fT 162 564 1148 true .none yt,
 fT 163 571 1157 true .none yt,
 fT 164 578 1166 true .none yt,
 fT 165 585 1175 false .none yt,
 fT 166 590 1181 true .none yt,
 fT 167 597 1195 true .none yt,
 fT 168 604 1203 false .none yt,
 fT 169 609 1209 true .none yt,
 fT 170 616 1228 true .none yt,
 fT 171 623 1243 true .none yt,
 fT 172 630 1258 true .none yt,
 fT 173 637 1270 true .none yt,
 fT 174 644 1281 false .none yt,
 fT 175 649 1287 true .none yt,
 fT 176 656 1299 true .none yt,
 fT 177 663 1311 false .none yt,
 fT 178 668 1317 true .none yt,
 fT 180 675 1331 true .none Hj,
 fT 181 682 1341 true .none Hj,
 fT 182 689 1353 true .none Hj,
 fT 183 696 1367 true .none Hj,
 fT 184 703 1383 true .none Hj,
 fT 185 710 1398 true .none Hj,
 fT 186 717 1408 true .none Hj,
 fT 187 724 1418 true .none Hj,
 fT 188 731 1428 true .none Hj,
 fT 189 738 1442 true .none Hj,
 fT 190 745 1449 true .none Hj,
 fT 191 752 1459 true .none Hj,
 fT 192 759 1469 true .none Hj,
 fT 193 766 1477 true .none Hj,
 fT 194 773 1491 false .none Hj,
 fT 195 778 1497 true .none Hj,
 fT 196 785 1506 true .none Hj,
 fT 197 792 1514 true .none Hj,
 fT 198 799 1527 false .none Hj,
 fT 199 804 1533 true .none Hj,
 fT 200 811 1548 true .none Hj,
 fT 201 818 1559 true .none Hj,
 fT 202 825 1569 true .none Hj,
 fT 203 832 1578 true .none Hj,
 fT 204 839 1593 false .none Hj,
 fT 205 844 1599 true .none Hj]
noncomputable def eo:List Obj->List Obj×List Obj:=List.rec ([],[]) λx _ ih=>(x::ih.2,ih.1)
noncomputable def bt:Nat->List Obj->BT:=Nat.rec (λ_=> .nil) λ_ ih l=>l.casesOn .nil λx r=> .node x (ih (eo r).1) (ih (eo r).2)
noncomputable def EV:BT->Nat->BT:=BT.rec (λ_=> .nil) λv _ _ l r n=>bif Nat.beq n 0 then .nil else .node v (l (n/2)) (r ((n-1)/2))
noncomputable def FB(P:Params):BT:=bt 11 (CU P)
noncomputable def DU:Obj:={cls:= .type "type",data:= .cls {name:="KeepError",bases:=[.type "Exception"],mro:=[.ref 109,.type "Exception",.type "BaseException",.type "object"],ns:=108,qualname:="KeepError"},slots:=#[some (.ref 92),none,some (.str "KeepError" 355),some (.str "KeepError" 363),some (.builtin "Exception.__new__"),some (.bool true)]}
noncomputable def Bw(P:Params)(n k:Nat)(m:Value)(q:Nat):BT:=((EV (FB P) n).set 3 λ_=>kZ P k m).set 12 λ_=>nZ q
noncomputable def Zg(i k:Nat):List Stmt:=((behindTheImports pw).drop i).take k
noncomputable abbrev qP:Pos:=⟨0,0,0,0⟩
noncomputable abbrev oH:Env:={scope:=pw.main.scope,locals:=mainNs,globals:=mainNs,cells:=[],code:= .ref 13,frame:=some 14}
noncomputable abbrev hS(w:World)(os:OsState)(t:BT)(n k:Nat):SharedT:=⟨t,n,{},⟨[]⟩,{},k,os⟩
abbrev Ju(p:Program)(w:World)(b:List Stmt)(os:OsState)(N:Nat)(t:BT)(n k:Nat)(i l:Nat)(q:Pos)(t':BT)(n' k':Nat)(q':Pos):Prop:=
 segRunT treeTable p w 11 (some (.ref 6)) 1 N (hS w os t n k) (piecesOf (Zg i l) oH (.body b oH) q [topFrame qP])=some (.next,hS w os t' n' k',.body b oH,q')
noncomputable abbrev iZ(w:World):BT:=(Bw w.params 15 9 lZ 0).set 2 λ_=>boot_o_2 w.params
noncomputable abbrev hZ(w:World):BT:=(Bw w.params 22 41 CJ 1).set 2 λ_=>boot_o_2 w.params
noncomputable abbrev gZ(w:World):BT:=(Bw w.params 78 47 CJ 7).set 2 λ_=>boot_o_2 w.params
noncomputable abbrev fZ(w:World):BT:=(Bw w.params 113 50 lY 10).set 109 λ_=>DU
noncomputable abbrev eZ(w:World):BT:=Bw w.params 133 66 Pm 11
noncomputable abbrev cY(w:World):BT:=Bw w.params 157 98 Pm 11
noncomputable abbrev bY(w:World):BT:=Bw w.params 160 101 Pm 11
noncomputable abbrev dZ(w:World):BT:=Bw w.params 216 105 Pm 15
noncomputable abbrev cZ(w:World):BT:=Bw w.params 303 118 Pm 28
noncomputable abbrev bZ(w:World):BT:=Bw w.params 374 134 Ro 39
noncomputable abbrev AU(w:World):BT:=Bw w.params 453 147 iy 51
noncomputable abbrev zU(w:World):BT:=Bw w.params 472 155 iy 54
noncomputable abbrev yU(w:World):BT:=Bw w.params 556 156 iy 55
noncomputable abbrev xU(w:World):BT:=Bw w.params 616 173 yt 64
noncomputable abbrev wU(w:World):BT:=Bw w.params 689 184 Hj 75
noncomputable abbrev vU(w:World):BT:=Bw w.params 766 195 Hj 86
noncomputable abbrev uU(w:World):BT:=Bw w.params 844 207 Hj 98
noncomputable abbrev dY(w:World):BT:=FB w.params
theorem YZ(w:World)(p:Program)(b:List Stmt)(os:OsState):Ju p w b os 318 (iZ w) 15 187 0 33 ⟨0,0,0,0⟩ (hZ w) 22 258 ⟨35,0,35,10⟩:=by kernel_rfl
theorem XZ(w:World)(p:Program)(b:List Stmt)(os:OsState):Ju p w b os 380 (hZ w) 22 258 33 6 ⟨35,0,35,10⟩ (gZ w) 78 334 ⟨64,0,72,25⟩:=by kernel_rfl
theorem WZ(w:World)(p:Program)(b:List Stmt)(os:OsState):Ju p w b os 304 (gZ w) 78 334 39 4 ⟨64,0,72,25⟩ (fZ w) 113 386 ⟨99,0,103,24⟩:=by kernel_rfl
theorem VZ(w:World)(p:Program)(b:List Stmt)(os:OsState):Ju p w b os 395 (fZ w) 113 386 43 17 ⟨99,0,103,24⟩ (eZ w) 133 447 ⟨124,0,124,7⟩:=by kernel_rfl
theorem UZ(w:World)(p:Program)(b:List Stmt)(os:OsState):Ju p w b os 396 (eZ w) 133 447 60 32 ⟨124,0,124,7⟩ (cY w) 157 530 ⟨156,0,156,12⟩:=by kernel_rfl
theorem TZ(w:World):∀(p:Program)(b:List Stmt)(os:OsState),Ju p w b os 141 (cY w) 157 530 92 3 ⟨156,0,156,12⟩ (bY w) 160 539 ⟨159,0,159,12⟩:=byRow2 (P:=λw=>∀(p:Program)(b:List Stmt)(os:OsState),Ju p w b os 141 (cY w) 157 530 92 3 ⟨156,0,156,12⟩ (bY w) 160 539 ⟨159,0,159,12⟩) "special-get-raises" (λw p b os=>by kernel_rfl) (λw p b os=>by kernel_rfl) w
theorem SZ(w:World)(p:Program)(b:List Stmt)(os:OsState):Ju p w b os 388 (bY w) 160 539 95 4 ⟨159,0,159,12⟩ (dZ w) 216 619 ⟨195,0,203,13⟩:=by kernel_rfl
theorem RZ(w:World)(p:Program)(b:List Stmt)(os:OsState):Ju p w b os 391 (dZ w) 216 619 99 13 ⟨195,0,203,13⟩ (cZ w) 303 727 ⟨265,0,281,50⟩:=by kernel_rfl
theorem QZ(w:World)(p:Program)(b:List Stmt)(os:OsState):Ju p w b os 389 (cZ w) 303 727 112 17 ⟨265,0,281,50⟩ (bZ w) 374 837 ⟨347,0,356,20⟩:=by kernel_rfl
theorem PZ(w:World)(p:Program)(b:List Stmt)(os:OsState):Ju p w b os 399 (bZ w) 374 837 129 14 ⟨347,0,356,20⟩ (AU w) 453 962 ⟨473,0,473,6⟩:=by kernel_rfl
theorem kY(w:World)(p:Program)(b:List Stmt)(os:OsState):Ju p w b os 134 (AU w) 453 962 143 8 ⟨473,0,473,6⟩ (zU w) 472 996 ⟨497,0,498,66⟩:=by kernel_rfl
theorem jY(w:World)(p:Program)(b:List Stmt)(os:OsState):Ju p w b os 528 (zU w) 472 996 151 1 ⟨497,0,498,66⟩ (yU w) 556 1114 ⟨499,0,538,16⟩:=by kernel_rfl
theorem iY(w:World)(p:Program)(b:List Stmt)(os:OsState):Ju p w b os 374 (yU w) 556 1114 152 18 ⟨499,0,538,16⟩ (xU w) 616 1228 ⟨613,0,625,12⟩:=by kernel_rfl
theorem hY(w:World)(p:Program)(b:List Stmt)(os:OsState):Ju p w b os 371 (xU w) 616 1228 170 12 ⟨613,0,625,12⟩ (wU w) 689 1353 ⟨714,0,718,15⟩:=by kernel_rfl
theorem gY(w:World)(p:Program)(b:List Stmt)(os:OsState):Ju p w b os 367 (wU w) 689 1353 182 11 ⟨714,0,718,15⟩ (vU w) 766 1477 ⟨872,0,873,51⟩:=by kernel_rfl
theorem fY(w:World)(p:Program)(b:List Stmt)(os:OsState):Ju p w b os 381 (vU w) 766 1477 193 12 ⟨872,0,873,51⟩ (uU w) 844 1599 ⟨1031,0,1061,38⟩:=by kernel_rfl
theorem eY(w:World)(p:Program)(b:List Stmt)(os:OsState):Ju p w b os 34 (uU w) 844 1599 205 1 ⟨1031,0,1061,38⟩ (dY w) 851 1610 ⟨1062,0,1070,15⟩:=by kernel_rfl
noncomputable abbrev pF:Pos:={line:=1062,col:=0,endLine:=1070,endCol:=15}
noncomputable abbrev cE:Code:=Code.body (behindTheImports pw) oH
noncomputable abbrev Sb(w:World)(os:OsState):Shared:=
 (hS w os (iZ w) 15 187).abs
noncomputable def H1(P:Params):Heap:=absHeap (FB P) 851 {}
noncomputable abbrev Sf(w:World)(os:OsState):Shared:=⟨H1 w.params,⟨[]⟩,{},1610,os⟩
theorem pre(w:World)(os:OsState):topGo treeTable pw w 11 (some (.ref 6)) 12 ⟨boot_heap w.params,⟨[]⟩,boot_drawn,boot_toks,os⟩ (topStub pw)=some (Sb w os,⟨denote treeTable cE,cE,qP,[topFrame qP]⟩):=by kernel_rfl
theorem sQ(w:World)(os:OsState):segRun treeTable pw w 11 (some (.ref 6)) 1 1 (Sb w os) (blockOf (behindTheImports pw) oH cE qP [topFrame qP])=some (.next,Sb w os,cE,qP):=by kernel_rfl
theorem fin(w:World)(os:OsState):topRun treeTable pw w 11 (some (.ref 6)) 2 (Sf w os) ⟨doneF .next,cE,pF,[topFrame qP]⟩=some (Sf w os):=by kernel_rfl
theorem XN:behindTheImports pw=Zg 0 33++(Zg 33 6++(Zg 39 4++(Zg 43 17++(Zg 60 32++(Zg 92 3++(Zg 95 4++(Zg 99 13++(Zg 112 17++(Zg 129 14++(Zg 143 8++(Zg 151 1++(Zg 152 18++(Zg 170 12++(Zg 182 11++(Zg 193 12++(Zg 205 1++([]))))))))))))))))):=by kernel_rfl
theorem LX(w:World)(os:OsState):topRun treeTable pw w 11 (some (.ref 6)) (12+(1+(318+(380+(304+(395+(396+(141+(388+(391+(389+(399+(134+(528+(374+(371+(367+(381+(34+2))))))))))))))))))) ⟨boot_heap w.params,⟨[]⟩,boot_drawn,boot_toks,os⟩ (topStub pw)=some (Sf w os):=by have k1:=piece_app (segRun_of (YZ w pw _ os)) (piece_app (segRun_of (XZ w pw _ os)) (piece_app (segRun_of (WZ w pw _ os)) (piece_app (segRun_of (VZ w pw _ os)) (piece_app (segRun_of (UZ w pw _ os)) (piece_app (segRun_of (TZ w pw _ os)) (piece_app (segRun_of (SZ w pw _ os)) (piece_app (segRun_of (RZ w pw _ os)) (piece_app (segRun_of (QZ w pw _ os)) (piece_app (segRun_of (PZ w pw _ os)) (piece_app (segRun_of (kY w pw _ os)) (piece_app (segRun_of (jY w pw _ os)) (piece_app (segRun_of (iY w pw _ os)) (piece_app (segRun_of (hY w pw _ os)) (piece_app (segRun_of (gY w pw _ os)) (piece_app (segRun_of (fY w pw _ os)) (piece_app (segRun_of (eY w pw _ os)) (piece_nil (fin w os))))))))))))))))));rw[<-XN]at k1;exact go_top (pre w os) (piece_block (sQ w os) k1)
noncomputable abbrev qv:Program:=view pw [205]
noncomputable abbrev ol:OpenLaw:=PySem.Challenge.rw_up0024_01
theorem IS:∀w:World,(fencedOpening treeTable pw w 20000).map (λs=>(s.heap,s.gens,s.drawn,s.toks))=some (boot_heap w.params,Array.mk [],boot_drawn,boot_toks):=
 boot_open (by kernel_rfl) (by kernel_rfl) (λs=>by kernel_rfl)
theorem oS:∀w:World,((boot_heap w.params).isNs mainGlobals&&(Array.mk []:Array GenState).size==0,(boot_heap w.params).objs.size,(boot_heap w.params).nsMap mainGlobals "__annotations__")=(true,11,some (.ref 6)):=λw=>by kernel_rfl
theorem UM(P:Params):(H1 P).nsKeys mainGlobals=yc:=by kernel_rfl
theorem xT(w:World)(os:OsState):(staticsOk (importedModules pw.main.body) (boot_heap w.params) (H1 w.params)&&gensDone (Sf w os)&&laidKept (boot_heap w.params) (H1 w.params))=true:=by kernel_rfl
theorem wT(w:World)(os:OsState):seen ((recsOf qv).map (·.name)) (ownsOf qv) [] {(Sf w os)with gens:=#[]}=expectedOf qv:=by kernel_rfl
theorem vT(w:World):(H1 w.params).bltView=bltViewBooted:=by kernel_rfl
theorem uT(w:World):((H1 w.params).accountedOkI (importedModules pw.main.body)&&(H1 w.params).isNs mainGlobals&&(H1 w.params).isNs builtinsNs&&tablesOk qv (H1 w.params))=true:=by kernel_rfl
theorem tT(w:World)(os:OsState):tabsOk qv (Sf w os)=true:=by kernel_rfl
theorem rT(w:World)(os:OsState):pinSeenD qv (drecsOf qv) (Sf w os)=pinGoodD (drecsOf qv):=by kernel_rfl
theorem qT(w:World)(os:OsState):plainSeenE qv (looseW qv yc) (Sf w os)=plainGoodE qv (looseW qv yc):=by kernel_rfl
theorem pT(w:World)(os:OsState):plainSeenD qv yc (Sf w os)=plainGoodD qv yc:=by kernel_rfl
theorem nT(w:World)(os:OsState):wideSeen qv (Sf w os)=wideGood qv:=by kernel_rfl
theorem mT(w:World)(os:OsState):clsSeenW qv yc (Sf w os)=clsGoodW qv yc:=by kernel_rfl
theorem Fe{α β:Type}{a a':α}{b b':β}(x:a=a')(y:b=b'):(a,b)=(a',b'):=by rw[x,y]
theorem l0:pw.boundNames=(yc.drop 9).take 1++(Str.ofString "__name__"::yc.drop 10):=by kernel_rfl
theorem FO(P:Params):namesBound pw (H1 P)=true:=by
 unfold namesBound;rw[UM,l0];refine Bool.and_eq_true_iff.mpr ⟨by kernel_rfl,B2.mpr λk hk=>?_⟩;rw[<-List.take_append_drop 9 yc]at hk;rcases D2.mp hk with h|h
 ·have:(yc.take 9).all startupNames.contains=true:=by kernel_rfl
  have:=B2.mp this k h;rw[this];rfl
 ·have:((yc.drop 9).take 1++(Str.ofString "__name__"::yc.drop 10)).contains k=true:=by
   refine List.contains_iff_mem.mpr ?_;rw[<-List.take_append_drop 1 (yc.drop 9),List.drop_drop]at h;rcases D2.mp h with h|h
   ·exact D2.mpr (.inl h)
   ·exact D2.mpr (.inr (B4 _ h))
  rw[this,Bool.or_true]
theorem UK(P:Params)(a b c:List Str):(H1 P).keysOk (looseW qv yc) a b c=true:=by
 unfold Heap.keysOk;rw[UM];refine B2.mpr λk hk=>?_;have:(looseW qv yc).contains k=true:=by refine List.contains_iff_mem.mpr ?_;unfold looseW looseD heldW;simp only[D2];exact .inl (.inl (.inl hk))
 simp only[this,Bool.or_true,Bool.true_or]
theorem UO(w:World):(λos=>((staticsOk (importedModules pw.main.body) (boot_heap w.params) (H1 w.params)&&namesBound pw (H1 w.params)&&gensDone (Sf w os)&&laidKept (boot_heap w.params) (H1 w.params)),openSeen qv yc (importedModules pw.main.body) (λ_=>true) true (Sf w os),(Sf w os).heap))=λ_=>(true,openGood qv yc,H1 w.params):=by
 funext os;have h0:=xT w os;simp only[M0]at h0;have hC:=uT w;simp only[M0]at hC;refine Fe ?_ (Fe ?_ rfl)
 ·rw[h0.1.1,FO,h0.1.2,h0.2];rfl
 ·show(_,_,_,_,_,_,_,_,_)=(_,_,_,_,_,_,_,_,_);refine Fe (wT w os) (Fe (vT w) (Fe ?_ (Fe (tT w os) (Fe (rT w os) (Fe (qT w os)
   (Fe (pT w os) (Fe (nT w os) (mT w os))))))))
  show(Heap.keysOk (H1 w.params) _ _ _ _&&Heap.accountedOkI (H1 w.params) _&&Heap.isNs (H1 w.params) _&&Heap.isNs (H1 w.params) _&&tablesOk qv (H1 w.params)&&true&&_)=true;rw[UK,hC.1.1.1,hC.1.1.2,hC.1.2,hC.2];rfl
theorem AT:LeftO pw qv yc (λ_=>true) (λs=>s.heap) (λw=>H1 w.params) 20000:=
 LeftO.of_pieces IS oS LX (by decide+kernel) UO
noncomputable def Zy:DefRec×List (Str×PE):=match defOf qv "law"with|some x=>x|none=>(⟨Str.empty,default,[],default,default⟩,[])
def YP(w:World)(h:Heap):Prop:=∀a o,(H1 w.params).get? a=some o->h.get? a=some o
abbrev Ix:Prop:=WalkO qv yc (λ_ _=>True) YP ol.row.toRowW Zy.1 Zy.2 λf vs=>PySem.call f vs
theorem JZ:namesResolve pw=true:=by kernel_rfl
theorem IZ:noRoadLSs {strict:= !(importedModules pw.main.body).all cThrough.contains,foot:=none,bare:=(["vars","dir","locals"]:List Str).filter (readsOut pw pw.main.body)} pw.main.body=true:=by kernel_rfl
theorem HZ:(namesMeet pw pw.main.body λ_ n=>attrL n)=true:=by kernel_rfl
theorem xO:looksOpen pw=true:=by
 refine J3 (J3 (J3 (J3 (J3 ?_ ?_) JZ) ?_) IZ) HZ
 all_goals kernel_rfl
theorem sS:ol.row.wellSaid=true:=by
 refine J3 (J3 (J3 (J3 (J3 (J3 (J3 (J3 (J3 (J3 (J3 (J3 (J3 (J3 (J3 xO ?_) ?_) ?_) ?_) ?_) ?_) ?_) ?_) ?_) ?_) ?_) ?_) ?_) ?_) ?_
 all_goals kernel_rfl
theorem MZ:(namesMeet ol.prog ol.footing λsc n=>(!(["type","isinstance","issubclass","getattr","hasattr"]:List Str).contains n||sc.names.lookup n==some .globalImplicit)&&(ol.may !=some n||sc.kind== .module||sc.names.lookup n==some .globalImplicit))=true:=by kernel_rfl
theorem LZ:(namesMeet ol.prog ol.above λ_ n=> !ol.own.contains n)=true:=by kernel_rfl
theorem KZ:(namesMeet ol.prog ol.footing λsc n=>sc.kind== .module||sc.names.lookup n !=some .globalExplicit)=true:=by kernel_rfl
theorem tS:ol.wellSaid=true:=by
 refine J3 (J3 (J3 (J3 (J3 (J3 (J3 (J3 (J3 (J3 (J3 (J3 (J3 (J3 (J3 (J3 (J3 (J3 sS ?_) ?_) ?_) ?_) ?_) ?_) ?_) ?_) ?_) ?_) ?_) ?_) MZ) ?_) ?_) ?_) LZ) KZ
 all_goals kernel_rfl
theorem head(call:Ix):PySem.Challenge.rw_up0024_01.Holds:=
 holds_law tS λsaid=>holds_open (q:=qv) (loose:=yc) (Xt:=λ_=>true) (XP:=λ_ _=>True) (Yf:=λs=>s.heap) (Ya:=λw=>H1 w.params) (YP:=YP) (N:=20000) AT
  (λw s e a o h=>by rw[e];exact h) (λw h h' y k a o e=>k _ _ (y a o e)) (λ_ _=>trivial) (λ_ _ _ _ _=>trivial) (by kernel_rfl) (by kernel_rfl) (by kernel_rfl) (λs _=>recFacts_of (by kernel_rfl)) (by kernel_rfl) said (by kernel_rfl)
  ⟨rfl,rfl,rfl,rfl,rfl,by decide+kernel⟩ ⟨[.list []],by decide+kernel,by decide+kernel⟩ call
variable{A B P c:Prop}{a b t:Bool}{is:List Nat}{j n:Nat}
section
variable{A B C D E F H I J L M N K:Sort _}{G:Prop}{Q0:A->B->C->D->E->F->H->I->J->L->M->N->Prop}{p0 p1 p2 p3 p4 p5 p6 p7 p8 p9 p10 p11 p12 p13 p14 p15 p16:Prop}{q0 q1 q2 q3 q4 q5 q6 q7 q8:A->Prop}{r0 r1 r2 r3 r4 r5:A->B->Prop}{s0 s1 s2 s3 s4 s5:A->B->C->Prop}{t0 t1 t2 t3:A->B->C->D->Prop}{u0:A->B->C->D->E->Prop}{v0 v1 v2 v3 v4:A->B->C->D->E->F->Prop}{w0 w1 w2 w3 w4:A->B->C->D->E->F->H->Prop}{x0 x1 x2 x3 x4 x5 x6:A->B->C->D->E->F->H->I->Prop}
theorem kA(h:p0/\p1)(k:p0->p1->G):G:=k h.1 h.2
theorem kE(h:∃a,q0 a)(k:∀a,q0 a->G):G:=h.elim λa h1=>k a h1
theorem Mm(h:p0/\p1/\p2)(k:p0->p1->p2->G):G:=k h.1 h.2.1 h.2.2
theorem YY(h:p0/\∃a,q0 a)(k:p0->∀a,q0 a->G):G:=h.2.elim λa h1=>k h.1 a h1
theorem Xa(h:∃a,q0 a/\q1 a)(k:∀a,q0 a->q1 a->G):G:=h.elim λa h1=>k a h1.1 h1.2
theorem Cp(h:∃a b,r0 a b)(k:∀a b,r0 a b->G):G:=h.elim λa h1=>h1.elim λb h2=>k a b h2
theorem wj(h:p0/\p1/\p2/\p3)(k:p0->p1->p2->p3->G):G:=k h.1 h.2.1 h.2.2.1 h.2.2.2
theorem bw(h:p0/\p1/\∃a,q0 a)(k:p0->p1->∀a,q0 a->G):G:=h.2.2.elim λa h1=>k h.1 h.2.1 a h1
theorem Eh(h:p0/\∃a,q0 a/\q1 a)(k:p0->∀a,q0 a->q1 a->G):G:=h.2.elim λa h1=>k h.1 a h1.1 h1.2
theorem Df(h:∃a,q0 a/\q1 a/\q2 a)(k:∀a,q0 a->q1 a->q2 a->G):G:=h.elim λa h1=>k a h1.1 h1.2.1 h1.2.2
theorem VK(h:∃a,q0 a/\∃b,r0 a b)(k:∀a,q0 a->∀b,r0 a b->G):G:=h.elim λa h1=>h1.2.elim λb h2=>k a h1.1 b h2
theorem db(h:∃a b,r0 a b/\r1 a b)(k:∀a b,r0 a b->r1 a b->G):G:=h.elim λa h1=>h1.elim λb h2=>k a b h2.1 h2.2
theorem XX(h:∃a b c,s0 a b c)(k:∀a b c,s0 a b c->G):G:=h.elim λa h1=>h1.elim λb h2=>h2.elim λc h3=>k a b c h3
theorem NG(h:p0/\p1/\p2/\p3/\p4)(k:p0->p1->p2->p3->p4->G):G:=k h.1 h.2.1 h.2.2.1 h.2.2.2.1 h.2.2.2.2
theorem gk(h:p0/\∃a b,r0 a b/\r1 a b)(k:p0->∀a b,r0 a b->r1 a b->G):G:=h.2.elim λa h1=>h1.elim λb h2=>k h.1 a b h2.1 h2.2
theorem aw(h:∃a,q0 a/\q1 a/\q2 a/\q3 a)(k:∀a,q0 a->q1 a->q2 a->q3 a->G):G:=h.elim λa h1=>k a h1.1 h1.2.1 h1.2.2.1 h1.2.2.2
theorem VM(h:∃a,q0 a/\q1 a/\∃b,r0 a b)(k:∀a,q0 a->q1 a->∀b,r0 a b->G):G:=h.elim λa h1=>h1.2.2.elim λb h2=>k a h1.1 h1.2.1 b h2
theorem Je(h:∃a b,r0 a b/\r1 a b/\r2 a b)(k:∀a b,r0 a b->r1 a b->r2 a b->G):G:=h.elim λa h1=>h1.elim λb h2=>k a b h2.1 h2.2.1 h2.2.2
theorem Qa(h:∃a b c,s0 a b c/\s1 a b c)(k:∀a b c,s0 a b c->s1 a b c->G):G:=h.elim λa h1=>h1.elim λb h2=>h2.elim λc h3=>k a b c h3.1 h3.2
theorem iP(h:p0/\p1/\p2/\p3/\p4/\p5)(k:p0->p1->p2->p3->p4->p5->G):G:=k h.1 h.2.1 h.2.2.1 h.2.2.2.1 h.2.2.2.2.1 h.2.2.2.2.2
theorem vj(h:p0/\∃a,q0 a/\q1 a/\q2 a/\q3 a)(k:p0->∀a,q0 a->q1 a->q2 a->q3 a->G):G:=h.2.elim λa h1=>k h.1 a h1.1 h1.2.1 h1.2.2.1 h1.2.2.2
theorem MG(h:∃a,q0 a/\q1 a/\q2 a/\q3 a/\q4 a)(k:∀a,q0 a->q1 a->q2 a->q3 a->q4 a->G):G:=h.elim λa h1=>k a h1.1 h1.2.1 h1.2.2.1 h1.2.2.2.1 h1.2.2.2.2
theorem LG(h:∃a b c,s0 a b c/\s1 a b c/\s2 a b c)(k:∀a b c,s0 a b c->s1 a b c->s2 a b c->G):G:=h.elim λa h1=>h1.elim λb h2=>h2.elim λc h3=>k a b c h3.1 h3.2.1 h3.2.2
theorem xb(h:∃a b c d,t0 a b c d/\t1 a b c d)(k:∀a b c d,t0 a b c d->t1 a b c d->G):G:=h.elim λa h1=>h1.elim λb h2=>h2.elim λc h3=>h3.elim λd h4=>k a b c d h4.1 h4.2
theorem Vd(h:∃a b c d e,u0 a b c d e)(k:∀a b c d e,u0 a b c d e->G):G:=h.elim λa h1=>h1.elim λb h2=>h2.elim λc h3=>h3.elim λd h4=>h4.elim λe h5=>k a b c d e h5
theorem WK(h:∃a,q0 a/\q1 a/\q2 a/\q3 a/\q4 a/\q5 a)(k:∀a,q0 a->q1 a->q2 a->q3 a->q4 a->q5 a->G):G:=h.elim λa h1=>k a h1.1 h1.2.1 h1.2.2.1 h1.2.2.2.1 h1.2.2.2.2.1 h1.2.2.2.2.2
theorem Dg(h:∃a b,r0 a b/\r1 a b/\r2 a b/\r3 a b/\r4 a b)(k:∀a b,r0 a b->r1 a b->r2 a b->r3 a b->r4 a b->G):G:=h.elim λa h1=>h1.elim λb h2=>k a b h2.1 h2.2.1 h2.2.2.1 h2.2.2.2.1 h2.2.2.2.2
theorem Wf(h:∃a b c,s0 a b c/\s1 a b c/\s2 a b c/\s3 a b c)(k:∀a b c,s0 a b c->s1 a b c->s2 a b c->s3 a b c->G):G:=h.elim λa h1=>h1.elim λb h2=>h2.elim λc h3=>k a b c h3.1 h3.2.1 h3.2.2.1 h3.2.2.2
theorem Zv(h:∃a b,r0 a b/\r1 a b/\r2 a b/\r3 a b/\r4 a b/\r5 a b)(k:∀a b,r0 a b->r1 a b->r2 a b->r3 a b->r4 a b->r5 a b->G):G:=h.elim λa h1=>h1.elim λb h2=>k a b h2.1 h2.2.1 h2.2.2.1 h2.2.2.2.1 h2.2.2.2.2.1 h2.2.2.2.2.2
theorem gD(h:∃a,q0 a/\∃b c d,t0 a b c d/\t1 a b c d/\t2 a b c d/\t3 a b c d)(k:∀a,q0 a->∀b c d,t0 a b c d->t1 a b c d->t2 a b c d->t3 a b c d->G):G:=h.elim λa h1=>h1.2.elim λb h2=>h2.elim λc h3=>h3.elim λd h4=>k a h1.1 b c d h4.1 h4.2.1 h4.2.2.1 h4.2.2.2
theorem pi(h:∃a b c,s0 a b c/\s1 a b c/\s2 a b c/\s3 a b c/\s4 a b c/\s5 a b c)(k:∀a b c,s0 a b c->s1 a b c->s2 a b c->s3 a b c->s4 a b c->s5 a b c->G):G:=h.elim λa h1=>h1.elim λb h2=>h2.elim λc h3=>k a b c h3.1 h3.2.1 h3.2.2.1 h3.2.2.2.1 h3.2.2.2.2.1 h3.2.2.2.2.2
theorem uj(h:∃a b c d e f g i,x0 a b c d e f g i/\x1 a b c d e f g i)(k:∀a b c d e f g i,x0 a b c d e f g i->x1 a b c d e f g i->G):G:=h.elim λa h1=>h1.elim λb h2=>h2.elim λc h3=>h3.elim λd h4=>h4.elim λe h5=>h5.elim λf h6=>h6.elim λg h7=>h7.elim λi h8=>k a b c d e f g i h8.1 h8.2
theorem sf(h0:p0)(h1:p1)(h2:p2):p0/\p1/\p2:=⟨h0,h1,h2⟩
theorem aY(h0:p0)(a)(h1:q0 a):p0/\∃a,q0 a:=⟨h0,a,h1⟩
theorem Na(a)(h0:q0 a)(h1:q1 a):∃a,q0 a/\q1 a:=⟨a,h0,h1⟩
theorem Jh(a)(b)(h0:r0 a b):∃a b,r0 a b:=⟨a,b,h0⟩
theorem Kh(h0:p0)(h1:p1)(h2:p2)(h3:p3):p0/\p1/\p2/\p3:=⟨h0,h1,h2,h3⟩
theorem pD(h0:p0)(h1:p1)(a)(h2:q0 a):p0/\p1/\∃a,q0 a:=⟨h0,h1,a,h2⟩
theorem Nm(h0:p0)(a)(h1:q0 a)(h2:q1 a):p0/\∃a,q0 a/\q1 a:=⟨h0,a,h1,h2⟩
theorem Kf(a)(h0:q0 a)(h1:q1 a)(h2:q2 a):∃a,q0 a/\q1 a/\q2 a:=⟨a,h0,h1,h2⟩
theorem sk(a)(b)(h0:r0 a b)(h1:r1 a b):∃a b,r0 a b/\r1 a b:=⟨a,b,h0,h1⟩
theorem yj(a)(b)(c)(h0:s0 a b c):∃a b c,s0 a b c:=⟨a,b,c,h0⟩
theorem mr(h0:p0)(h1:p1)(h2:p2)(h3:p3)(h4:p4):p0/\p1/\p2/\p3/\p4:=⟨h0,h1,h2,h3,h4⟩
theorem YT(h0:p0)(a)(h1:q0 a)(h2:q1 a)(h3:q2 a):p0/\∃a,q0 a/\q1 a/\q2 a:=⟨h0,a,h1,h2,h3⟩
theorem ow(h0:p0)(a)(b)(h1:r0 a b)(h2:r1 a b):p0/\∃a b,r0 a b/\r1 a b:=⟨h0,a,b,h1,h2⟩
theorem aH(a)(h0:q0 a)(h1:q1 a)(h2:q2 a)(h3:q3 a):∃a,q0 a/\q1 a/\q2 a/\q3 a:=⟨a,h0,h1,h2,h3⟩
theorem Cb(a)(h0:q0 a)(h1:q1 a)(b)(h2:r0 a b):∃a,q0 a/\q1 a/\∃b,r0 a b:=⟨a,h0,h1,b,h2⟩
theorem Wa(a)(b)(h0:r0 a b)(h1:r1 a b)(h2:r2 a b):∃a b,r0 a b/\r1 a b/\r2 a b:=⟨a,b,h0,h1,h2⟩
theorem ve(a)(b)(c)(h0:s0 a b c)(h1:s1 a b c):∃a b c,s0 a b c/\s1 a b c:=⟨a,b,c,h0,h1⟩
theorem XT(a)(b)(c)(d)(h0:t0 a b c d):∃a b c d,t0 a b c d:=⟨a,b,c,d,h0⟩
theorem pt(h0:p0)(a)(h1:q0 a)(h2:q1 a)(h3:q2 a)(h4:q3 a):p0/\∃a,q0 a/\q1 a/\q2 a/\q3 a:=⟨h0,a,h1,h2,h3,h4⟩
theorem bH(h0:p0)(a)(b)(h1:r0 a b)(h2:r1 a b)(h3:r2 a b):p0/\∃a b,r0 a b/\r1 a b/\r2 a b:=⟨h0,a,b,h1,h2,h3⟩
theorem rP(a)(h0:q0 a)(h1:q1 a)(h2:q2 a)(h3:q3 a)(h4:q4 a):∃a,q0 a/\q1 a/\q2 a/\q3 a/\q4 a:=⟨a,h0,h1,h2,h3,h4⟩
theorem kz(a)(b)(h0:r0 a b)(h1:r1 a b)(h2:r2 a b)(h3:r3 a b):∃a b,r0 a b/\r1 a b/\r2 a b/\r3 a b:=⟨a,b,h0,h1,h2,h3⟩
theorem No(a)(b)(c)(h0:s0 a b c)(h1:s1 a b c)(h2:s2 a b c):∃a b c,s0 a b c/\s1 a b c/\s2 a b c:=⟨a,b,c,h0,h1,h2⟩
theorem ZG(a)(b)(c)(d)(h0:t0 a b c d)(h1:t1 a b c d):∃a b c d,t0 a b c d/\t1 a b c d:=⟨a,b,c,d,h0,h1⟩
theorem Jf(a)(b)(c)(d)(e)(h0:u0 a b c d e):∃a b c d e,u0 a b c d e:=⟨a,b,c,d,e,h0⟩
theorem BB(h0:p0)(h1:p1)(a)(b)(h2:r0 a b)(h3:r1 a b)(h4:r2 a b):p0/\p1/\∃a b,r0 a b/\r1 a b/\r2 a b:=⟨h0,h1,a,b,h2,h3,h4⟩
theorem sd(a)(b)(h0:r0 a b)(h1:r1 a b)(h2:r2 a b)(h3:r3 a b)(h4:r4 a b):∃a b,r0 a b/\r1 a b/\r2 a b/\r3 a b/\r4 a b:=⟨a,b,h0,h1,h2,h3,h4⟩
theorem Ob(a)(b)(c)(h0:s0 a b c)(h1:s1 a b c)(h2:s2 a b c)(h3:s3 a b c):∃a b c,s0 a b c/\s1 a b c/\s2 a b c/\s3 a b c:=⟨a,b,c,h0,h1,h2,h3⟩
theorem Vc(a)(b)(c)(d)(h0:t0 a b c d)(h1:t1 a b c d)(h2:t2 a b c d):∃a b c d,t0 a b c d/\t1 a b c d/\t2 a b c d:=⟨a,b,c,d,h0,h1,h2⟩
theorem mw(a)(b)(h0:r0 a b)(h1:r1 a b)(h2:r2 a b)(h3:r3 a b)(h4:r4 a b)(h5:r5 a b):∃a b,r0 a b/\r1 a b/\r2 a b/\r3 a b/\r4 a b/\r5 a b:=⟨a,b,h0,h1,h2,h3,h4,h5⟩
theorem kw(a)(b)(c)(h0:s0 a b c)(h1:s1 a b c)(h2:s2 a b c)(h3:s3 a b c)(h4:s4 a b c):∃a b c,s0 a b c/\s1 a b c/\s2 a b c/\s3 a b c/\s4 a b c:=⟨a,b,c,h0,h1,h2,h3,h4⟩
theorem yi(a)(b)(c)(h0:s0 a b c)(h1:s1 a b c)(h2:s2 a b c)(h3:s3 a b c)(h4:s4 a b c)(h5:s5 a b c):∃a b c,s0 a b c/\s1 a b c/\s2 a b c/\s3 a b c/\s4 a b c/\s5 a b c:=⟨a,b,c,h0,h1,h2,h3,h4,h5⟩
theorem lz(a)(h0:q0 a)(h1:q1 a)(h2:q2 a)(h3:q3 a)(h4:q4 a)(h5:q5 a)(h6:q6 a)(h7:q7 a)(h8:q8 a):∃a,q0 a/\q1 a/\q2 a/\q3 a/\q4 a/\q5 a/\q6 a/\q7 a/\q8 a:=⟨a,h0,h1,h2,h3,h4,h5,h6,h7,h8⟩
theorem Ke(a)(b)(c)(d)(e)(f)(h0:v0 a b c d e f)(h1:v1 a b c d e f)(h2:v2 a b c d e f)(h3:v3 a b c d e f)(h4:v4 a b c d e f):∃a b c d e f,v0 a b c d e f/\v1 a b c d e f/\v2 a b c d e f/\v3 a b c d e f/\v4 a b c d e f:=⟨a,b,c,d,e,f,h0,h1,h2,h3,h4⟩
theorem qk(a)(b)(c)(d)(e)(f)(g)(h0:w0 a b c d e f g)(h1:w1 a b c d e f g)(h2:w2 a b c d e f g)(h3:w3 a b c d e f g)(h4:w4 a b c d e f g):∃a b c d e f g,w0 a b c d e f g/\w1 a b c d e f g/\w2 a b c d e f g/\w3 a b c d e f g/\w4 a b c d e f g:=⟨a,b,c,d,e,f,g,h0,h1,h2,h3,h4⟩
theorem Np(a)(b)(c)(d)(e)(f)(g)(i)(j)(l)(m)(n)(h0:Q0 a b c d e f g i j l m n):∃a b c d e f g i j l m n,Q0 a b c d e f g i j l m n:=⟨a,b,c,d,e,f,g,i,j,l,m,n,h0⟩
theorem Bd(a)(b)(c)(d)(e)(f)(g)(i)(h0:x0 a b c d e f g i)(h1:x1 a b c d e f g i)(h2:x2 a b c d e f g i)(h3:x3 a b c d e f g i)(h4:x4 a b c d e f g i)(h5:x5 a b c d e f g i):∃a b c d e f g i,x0 a b c d e f g i/\x1 a b c d e f g i/\x2 a b c d e f g i/\x3 a b c d e f g i/\x4 a b c d e f g i/\x5 a b c d e f g i:=⟨a,b,c,d,e,f,g,i,h0,h1,h2,h3,h4,h5⟩
theorem Vg(a)(b)(c)(d)(e)(f)(g)(i)(h0:x0 a b c d e f g i)(h1:x1 a b c d e f g i)(h2:x2 a b c d e f g i)(h3:x3 a b c d e f g i)(h4:x4 a b c d e f g i)(h5:x5 a b c d e f g i)(h6:x6 a b c d e f g i):∃a b c d e f g i,x0 a b c d e f g i/\x1 a b c d e f g i/\x2 a b c d e f g i/\x3 a b c d e f g i/\x4 a b c d e f g i/\x5 a b c d e f g i/\x6 a b c d e f g i:=⟨a,b,c,d,e,f,g,i,h0,h1,h2,h3,h4,h5,h6⟩
end
theorem ns{α:Type}{x:α}(h:none=some x):P:=nomatch h
theorem Lf(h:false=true):P:=nomatch h
theorem qy(h:a=true)(h2:b=true):(a&&b)=true:=by subst h;exact h2
theorem zx(h:(a&&b)=true):a=true:=by cases a;exact h;rfl
theorem Am(h:(a&&b)=true):b=true:=by cases a;exact Lf h;exact h
set_option genInjectivity true in
inductive AV where
 |none
 |bool (b:Bool)
 |int (i:Int)
 |str (s:List Nat)
 |tup (xs:List AV)
 |ba (xs:List AV)
 |rc (ks:List (List Nat)) (vs:List AV)
 |Wc (kvs:List (Int×Int))
 |node (kind:Int) (a:AV) (kids:List AV) (flags at_ nid:Int)
 |Gk (lo hi:Int)
 |qn (xs:List AV)
 |ref (i:Nat)
inductive AO where
 |list (xs:List AV)
 |Ea (kvs:List (Int×AV))
 |gb (kvs:List (List Nat×AV))
 |we (kvs:List (AV×AV))
 |inst (c:Nat) (fs:List (Nat×AV))
abbrev AH:=List AO
abbrev Fr:=List (Option AV)
set_option genCtorIdx false in
inductive X where
 |bad
 |lit (v:AV)
 |var (i:Nat)
 |bin (o:Nat) (a b:X)
 |neg (a:X)
 |not (a:X)
 |and (a b:X)
 |or (a b:X)
 |cmp (o:Nat) (a b:X)
 |Sm (o p:Nat) (a b c:X)
 |za (t a b:X)
 |tup (xs:List X)
 |lst (trk:Bool) (xs:List X)
 |dct (m:Nat) (ks:List AV) (vs:List X)
 |attr (a:X) (n:Nat)
 |idx (a i:X)
 |slc (a lo hi:X)
 |call (f:Nat) (xs:List X)
 |Dc (a:X) (n:Nat) (xs:List X)
 |bi (f:Nat) (xs:List X)
 |comp (Ge:X) (k:Nat) (it:X) (c:X)
 |af (t:X)
set_option genCtorIdx false in
inductive C where
 |bad
 |asg (i:Nat) (v:X)
 |Ck (is:List Nat) (v:X)
 |Xd (o:X) (n:Nat) (v:X)
 |ue (o i:X) (v:X)
 |SD (o i:X) (op:Nat) (v:X)
 |ret (v:X)
 |exp (v:X)
 |za (t:X) (a b:List C)
 |Hu (t:X) (b:List C)
 |Xe (i:Nat) (it:X) (b:List C)
 |ng (is:List Nat) (it:X) (b:List C)
 |brk
 |cont
 |pass
inductive Fl where
 |next|brk|cont
 |ret (v:AV)
section
variable{α β:Type}{G:Prop}
theorem ga{o:Option α}{f:α->Option β}{r:β}(e:o.bind f=some r)(k:∀x,o=some x->f x=some r->G):G:=match o,e,k with|some x,e,k=>k x rfl e
theorem Fc{o:Option α}{f:α->β}{r:β}(e:o.map f=some r)(k:∀x,o=some x->f x=r->G):G:=match o,e,k with|some x,e,k=>k x rfl (z0 e)
theorem Uc [i:Decidable c]{o:Option α}{r:α}(e:(if c then o else none)=some r)(k:c->o=some r->G):G:=match i,e with| .isTrue h,e=>k h e
end
noncomputable section
noncomputable def jx(a:AV):Option Bool:=a.casesOn none some (λ_=>none) (λ_=>none) (λ_=>none) (λ_=>none) (λ_ _=>none) (λ_=>none) (λ_ _ _ _ _ _=>none) (λ_ _=>none) (λ_=>none) (λ_=>none)
noncomputable def re(a:AV):Option Int:=a.casesOn none (λ_=>none) some (λ_=>none) (λ_=>none) (λ_=>none) (λ_ _=>none) (λ_=>none) (λ_ _ _ _ _ _=>none) (λ_ _=>none) (λ_=>none) (λ_=>none)
noncomputable def nh(a:AV):Option (List Nat):=a.casesOn none (λ_=>none) (λ_=>none) some (λ_=>none) (λ_=>none) (λ_ _=>none) (λ_=>none) (λ_ _ _ _ _ _=>none) (λ_ _=>none) (λ_=>none) (λ_=>none)
noncomputable def Td(a:AV):Option (List AV):=a.casesOn none (λ_=>none) (λ_=>none) (λ_=>none) some (λ_=>none) (λ_ _=>none) (λ_=>none) (λ_ _ _ _ _ _=>none) (λ_ _=>none) (λ_=>none) (λ_=>none)
noncomputable def lN(a:AV):Option (List AV):=a.casesOn none (λ_=>none) (λ_=>none) (λ_=>none) (λ_=>none) some (λ_ _=>none) (λ_=>none) (λ_ _ _ _ _ _=>none) (λ_ _=>none) (λ_=>none) (λ_=>none)
noncomputable def UF(a:AV):Option Nat:=a.casesOn none (λ_=>none) (λ_=>none) (λ_=>none) (λ_=>none) (λ_=>none) (λ_ _=>none) (λ_=>none) (λ_ _ _ _ _ _=>none) (λ_ _=>none) (λ_=>none) some
noncomputable def UY(o:AO):Option (List AV):=o.casesOn some (λ_=>none) (λ_=>none) (λ_=>none) (λ_ _=>none)
noncomputable def TY(o:AO):Option (Nat×List (Nat×AV)):=o.casesOn (λ_=>none) (λ_=>none) (λ_=>none) (λ_=>none) (λc fs=>some (c,fs))
noncomputable def mB(Z:AH)(j:Nat):Option (List AV):=Z[j]?.bind UY
theorem ud{β:Type}{Z:AH}{o:AO}{f:AO->Option β}(h:Z[j]? =some o):Z[j]?.bind f=f o:=C0 (·.bind f) h
theorem qj{Z:AH}{xs:List AV}(h:Z[j]? =some (.list xs)):mB Z j=some xs:=ud h
theorem ot{a:AV}{i:Int}(e:re a=some i):a= .int i:=by cases a with|int j=>exact C0 AV.int (z0 e)|_=>exact ns e
theorem zy{a:AV}{i:List Nat}(e:nh a=some i):a= .str i:=by cases a with|str j=>exact C0 AV.str (z0 e)|_=>exact ns e
theorem Nk{a:AV}{i:List AV}(e:Td a=some i):a= .tup i:=by cases a with|tup j=>exact C0 AV.tup (z0 e)|_=>exact ns e
theorem KB{a:AV}{i:List AV}(e:lN a=some i):a= .ba i:=by cases a with|ba j=>exact C0 AV.ba (z0 e)|_=>exact ns e
theorem Xn{a:AV}{i:Nat}(e:UF a=some i):a= .ref i:=by cases a with|ref j=>exact C0 AV.ref (z0 e)|_=>exact ns e
theorem TS{o:AO}{i:List AV}(e:UY o=some i):o= .list i:=by induction o with|list j=>exact C0 AO.list (z0 e)|_=>exact ns e
theorem HG{Z:AH}{xs:List AV}(e:mB Z j=some xs):Z[j]? =some (.list xs):=ga e λo h e=>h.trans (C0 some (TS e))
noncomputable def fo{α:Type}(d:α):List α->Nat->α:=List.rec (λ_=>d) (λx _ ih n=>n.casesOn x ih)
def PY{α β:Type}(P:α->β->Prop):List α->List β->Prop:=List.rec (λ_=>True) (λx _ ih ys=>ys.casesOn True λy ys=>P x y/\ih ys)
theorem Kv{α β:Type}{P:α->β->Prop}{d1:α}{d2:β}(hd:P d1 d2):∀(xs:List α)(ys:List β),xs.length=ys.length->PY P xs ys->∀n,P (fo d1 xs n) (fo d2 ys n)|[],[],_,_,_=>hd|_::_,_::_,_,h,0=>h.1|_::xs,_::ys,l,h,n+1=>Kv hd xs ys (Nat.succ.inj l) h.2 n
noncomputable def Fv(f:AV->AV->Option Bool):List AV->List AV->Option Bool:=List.rec (λys=>some ys.isEmpty) λx _ ih ys=>ys.casesOn (some false) λy ys=>(f x y).bind λb=>b.casesOn (some false) (ih ys)
noncomputable def Rg(f:AV->AV->Option Bool):List AV->List AV->Option Bool:=List.rec (λ_=>some true) λx _ ih ys=>ys.casesOn (some true) λy ys=>(f x y).bind λa=>(ih ys).map (a&&·)
noncomputable def Iq(f:AV->AV->Option Bool)(xs ys:List AV):Option Bool:=if xs.length=ys.length then Rg f xs ys else some false
inductive Sv where
 |none
 |bool (b:Bool)
 |int (i:Int)
 |str (s:List Nat)
 |tup (xs:List AV)
 |lst (xs:List AV)
noncomputable def VN(Z:AH)(a:AV):Option Sv:=a.casesOn (some .none) (λb=>some (.bool b)) (λi=>some (.int i)) (λs=>some (.str s)) (λxs=>some (.tup xs)) (λxs=>some (.lst xs)) (λ_ _=>none) (λ_=>none) (λ_ _ _ _ _ _=>none) (λ_ _=>none) (λ_=>none) (λj=>(mB Z j).map .lst)
noncomputable def sv:AV->Option Sv:=VN []
noncomputable def Sv.by{α:Type}(a:Sv)(n:α)(b:Bool->α)(i:Int->α)(s:List Nat->α)(t l:List AV->α):α:=a.casesOn n b i s t l
noncomputable def f1{α:Type}(_:α):Option Bool:=some false
noncomputable def n1{α:Type}(_:α):Option Bool:=none
noncomputable def se(f:AV->AV->Option Bool)(a b:Sv):Option Bool:=
 a.by (b.by (some true) n1 f1 f1 f1 n1)
  (λx=>b.by none (λy=>some (x==y)) (λy=>some ((if x then 1 else 0)==y)) f1 n1 n1)
  (λx=>b.by (some false) (λy=>some (x==(if y then 1 else 0))) (λy=>some (decide (x=y))) f1 f1 n1)
  (λx=>b.by (some false) f1 f1 (λy=>some (decide (x=y))) f1 n1)
  (λx=>b.by (some false) n1 f1 f1 (Fv f x) n1)
  (λx=>b.by none n1 n1 n1 n1 (Iq f x))
noncomputable def sn(f:AV->AV->Option Bool)(a b:Sv):Option Bool:=
 a.by none (λx=>b.by none (λy=>some !(x==y)) n1 n1 n1 n1) (λx=>b.by none n1 (λy=>some !decide (x=y)) n1 n1 n1)
  (λx=>b.by none n1 n1 (λy=>some !decide (x=y)) n1 n1) n1 (λx=>b.by none n1 n1 n1 n1 λy=>(Iq f x y).map (!·))
noncomputable def oR(f:AV->AV->Option Bool)(x y:AV):Option Bool:=(sv x).bind λa=>(sv y).bind λb=>se f a b
noncomputable def Of:Nat->AV->AV->Option Bool:=Nat.rec (oR λ_ _=>none) λ_ f=>oR f
mutual
noncomputable def Gc:AV->AV->Bool| .int a,.int b=>decide (a=b)| .str a,.str b=>decide (a=b)| .tup xs,.tup ys=>Dl xs ys|_,_=>false
noncomputable def Dl:List AV->List AV->Bool|[],[]=>true|x::xs,y::ys=>Gc x y&&Dl xs ys|[],_::_=>false|_::_,[]=>false
end
mutual
noncomputable def Zf:AV->Bool| .int _=>true| .str _=>true| .tup xs=>Kd xs|_=>false
noncomputable def Kd:List AV->Bool|[]=>true|x::xs=>Zf x&&Kd xs
end
mutual
noncomputable def Ys:AV->Nat| .tup xs=>be xs+1|_=>0
noncomputable def be:List AV->Nat|[]=>0|x::xs=>max (Ys x) (be xs)
end
noncomputable def Bc(x:AV):List AV->Option Bool:=List.rec (some false) λy _ ih=>(Of 4 y x).bind λa=>ih.map (a||·)
noncomputable def kr(x:AV):List AV->Nat->Option Nat:=List.rec (λ_=>none) λy ys ih k=>(Of 4 y x).bind λa=>(Bc x ys).bind λ_=>a.casesOn (ih (k+1)) (some k)
noncomputable def Ab:Nat:=1000000
def qd(xs:List AV):Prop:=xs.length<=Ab
noncomputable instance(xs:List AV):Decidable (qd xs):=inferInstanceAs (Decidable (_<=_))
noncomputable def bk(Z:AH)(a:AV):Option (List AV):=a.casesOn none (λ_=>none) (λ_=>none) (λ_=>none) (λ_=>none) some (λ_ _=>none) (λ_=>none) (λ_ _ _ _ _ _=>none) (λ_ _=>none) (λ_=>none) (mB Z)
noncomputable def Nh:Nat->List AV->List AV|_,[]=>[]|k,x::xs=> .tup [.int (k:Nat),x]::Nh (k+1) xs
noncomputable def sa(Z:AH)(a:AV):Option (List AV):=a.casesOn none (λ_=>none) (λ_=>none) (λ_=>none) some some (λ_ _=>none) (λ_=>none) (λ_ _ _ _ _ _=>none)
 (λlo hi=>if lo.natAbs<=Ab/\hi.natAbs<=Ab then some ((List.range (hi-lo).toNat).map λ(k:Nat)=> .int (lo+k))else none) (λxs=>some (Nh 0 xs)) (mB Z)
noncomputable def qx{α:Type}(xs:List α):Option Bool:=if xs.length<=Ab then some !xs.isEmpty else none
noncomputable def Db(Z:AH)(a:AV):Option Bool:=a.casesOn (some false) some (λi=>some (decide (i≠0))) qx qx qx (λ_ _=>none) (λ_=>none) (λ_ _ _ _ _ _=>none) (λ_ _=>none) (λ_=>none) λj=>(mB Z j).bind qx
noncomputable def Py(f:Int->Int->Option AV)(a b:AV):Option AV:=(re a).bind λx=>(re b).bind λy=>f x y
noncomputable def AY(x y:List Nat):Option AV:=if x.length+y.length<=Ab then some (.str (x++y))else none
noncomputable def zY(x y:List AV):Option AV:=if x≠[]/\y≠[]/\x.length+y.length<=Ab then some (.tup (x++y))else none
noncomputable def BY(x y:List AV):Option AV:=if x.length+y.length<=Ab then some (.ba (x++y))else none
noncomputable def uN(a b:AV):Option AV:=a.casesOn none (λ_=>none) (λx=>(re b).bind λy=>some (.int (x+y))) (λx=>(nh b).bind λy=>AY x y) (λx=>(Td b).bind λy=>zY x y) (λx=>(lN b).bind λy=>BY x y) (λ_ _=>none) (λ_=>none) (λ_ _ _ _ _ _=>none) (λ_ _=>none) (λ_=>none) (λ_=>none)
noncomputable def wc(_:AH)(o:Nat)(a b:AV):Option AV:=
 fo (λ_ _=>none) [uN,Py λx y=>some (.int (x-y)),Py λx y=>if x.natAbs<=Ab/\y.natAbs<=Ab then some (.int (x*y))else none,
  Py λx y=>if 0<y/\y<=Ab/\0<=x/\x<=Ab then some (.int (x/y))else none,Py λx y=>if 0<y then some (.int (x%y))else none,
  Py λx y=>if 0<=x/\0<=y/\x<=Ab/\y<=Ab then some (.int ((x.toNat&&&y.toNat:Nat):Int))else none,
  Py λx y=>if 0<=x/\0<=y/\x<=Ab/\y<=Ab then some (.int (x+y-((x.toNat&&&y.toNat:Nat):Int)))else none,
  Py λx y=>if 0<=x/\0<=y/\x<=Ab/\y<=64 then some (.int ((x.toNat>>>y.toNat:Nat):Int))else none] o a b
noncomputable def Oi(k:List Nat):List (List Nat×AV)->Option AV|[]=>none|(a,v)::r=>if a=k then some v else Oi k r
noncomputable def aZ(d:Bool)(a:AV)(o:AO):Option Bool:=o.casesOn (Bc a) (λkvs=>(re a).bind λk=>some (kvs.any λkv=>kv.1==k)) (λ_=>none)
 (λkvs=>(Td a).bind λks=>if Kd ks=true/\be ks<=7 then(if d=true then some (kvs.any λkv=>Gc kv.1 (.tup ks))else none)else none) (λ_ _=>none)
noncomputable def UT(d:Bool)(Z:AH)(a b:AV):Option Bool:=b.casesOn none (λ_=>none) (λ_=>none)
 (λt=>(nh a).bind λu=>some !(PySem.Builtin.Str.occurrences ⟨t.toArray⟩ ⟨u.toArray⟩ 0 t.length 1).isEmpty) (Bc a) (Bc a)
 (λks vs=>(nh a).bind λk=>some (Oi k (ks.zip vs)).isSome) (λ_=>none) (λ_ _ _ _ _ _=>none) (λ_ _=>none) (λ_=>none) (λi=>Z[i]?.bind (aZ d a))
noncomputable def ST:AH->AV->AV->Option Bool:=UT true
noncomputable def uo(a:AV):Bool:=a.casesOn true (λ_=>true) (λ_=>true) (λ_=>true) (λ_=>false) (λ_=>false) (λ_ _=>false) (λ_=>false) (λ_ _ _ _ _ _=>false) (λ_ _=>false) (λ_=>false) (λ_=>false)
noncomputable def isNone(a:AV):Bool:=a.casesOn true (λ_=>false) (λ_=>false) (λ_=>false) (λ_=>false) (λ_=>false) (λ_ _=>false) (λ_=>false) (λ_ _ _ _ _ _=>false) (λ_ _=>false) (λ_=>false) (λ_=>false)
noncomputable def eV(Z:AH)(a b:AV):Option Bool:=(VN Z a).bind λx=>(VN Z b).bind λy=>se (Of 4) x y
noncomputable def WS(Z:AH)(a b:AV):Option Bool:=(VN Z a).bind λx=>(VN Z b).bind λy=>sn (Of 4) x y
noncomputable def MS(f:Int->Int->Bool)(_:AH)(a b:AV):Option Bool:=(re a).bind λx=>(re b).bind λy=>some (f x y)
noncomputable def lP(f:Bool->Bool)(_:AH)(a b:AV):Option Bool:=b.casesOn (some (f (isNone a))) (λ_=>none) (λ_=>none) (λ_=>none) (λ_=>none) (λ_=>none) (λ_ _=>none) (λ_=>none) (λ_ _ _ _ _ _=>none) (λ_ _=>none) (λ_=>none) (λ_=>none)
noncomputable def Ta(Z:AH)(o:Nat)(a b:AV):Option Bool:=
 fo (λ_ _ _=>none) [eV,WS,MS λx y=>decide (x<y),MS λx y=>decide (x<=y),MS λx y=>decide (y<x),MS λx y=>decide (y<=x),lP id,lP not,ST,
  λZ a b=>(UT false Z a b).map (!·)] o Z a b
noncomputable def Oq(xs:List AV)(k:Int):Option AV:=
 if 0<=k then(if k<=Ab then xs[k.toNat]? else none)else if-(Ab:Int)<=k/\0<=k+xs.length then xs[(k+xs.length).toNat]? else none
noncomputable def Pf(k:Int):List (Int×AV)->Option AV|[]=>none|(a,v)::r=>if a=k then some v else Pf k r
noncomputable def getD(k:AV):List (AV×AV)->Option AV|[]=>none|(a,v)::r=>if Gc a k=true then some v else getD k r
noncomputable def Fy(k:List Nat)(v:AV):List (List Nat×AV)->List (List Nat×AV)|[]=>[(k,v)]|(a,u)::r=>if a=k then(a,v)::r else(a,u)::Fy k v r
noncomputable def qe(k:Int)(v:AV):List (Int×AV)->List (Int×AV)|[]=>[(k,v)]|(a,u)::r=>if a=k then(a,v)::r else(a,u)::qe k v r
noncomputable def Un(k:AV)(v:AV):List (AV×AV)->List (AV×AV)|[]=>[(k,v)]|(a,u)::r=>if Gc a k=true then(a,v)::r else(a,u)::Un k v r
noncomputable def Jb(n:Nat):List (Nat×AV)->Option AV|[]=>none|(a,v)::r=>if a=n then some v else Jb n r
noncomputable def Sj(n:Nat)(v:AV):List (Nat×AV)->List (Nat×AV)|[]=>[(n,v)]|(a,u)::r=>if a=n then(a,v)::r else(a,u)::Sj n v r
noncomputable def To(k:Int):List (Int×Int)->Option Int|[]=>none|(a,v)::r=>if a=k then some v else To k r
noncomputable def VT(i:AV)(o:AO):Option AV:=o.casesOn (λxs=>(re i).bind λk=>Oq xs k) (λkvs=>(re i).bind λk=>Pf k kvs) (λkvs=>(nh i).bind λk=>Oi k kvs)
 (λkvs=>(Td i).bind λks=>if Kd ks=true/\be ks<=7 then getD (.tup ks) kvs else none) (λ_ _=>none)
noncomputable def rZ(s:List Nat)(k:Int):Option AV:=if 0<=k/\k<=Ab then(s[k.toNat]?).map λc=> .str [c]else none
noncomputable def jb(Z:AH)(a i:AV):Option AV:=a.casesOn none (λ_=>none) (λ_=>none) (λs=>(re i).bind λk=>rZ s k)
 (λxs=>(re i).bind λk=>Oq xs k) (λxs=>(re i).bind λk=>Oq xs k) (λks vs=>(nh i).bind λk=>Oi k (ks.zip vs)) (λ_=>none) (λ_ _ _ _ _ _=>none) (λ_ _=>none) (λ_=>none) (λj=>Z[j]?.bind (VT i))
noncomputable def Xg(n:Nat)(d:Nat)(a:AV):Option Nat:=a.casesOn (some d) (λ_=>none) (λk=>if 0<=k/\k<=Ab then some (min k.toNat n)else none) (λ_=>none) (λ_=>none) (λ_=>none) (λ_ _=>none) (λ_=>none) (λ_ _ _ _ _ _=>none) (λ_ _=>none) (λ_=>none) (λ_=>none)
noncomputable def Wi(Z:AH)(a lo hi:AV):Option AV:=(bk Z a).bind λxs=>(Xg xs.length 0 lo).bind λl=>(Xg xs.length xs.length hi).bind λh=>if xs.length<=Ab/\l<=h then some (.ba ((xs.drop l).take (h-l)))else none
noncomputable def Ud(c n:Nat):Bool:=(c==38&&decide (n<=5))||(c==190&&decide (11<=n/\n<=20))||(c==551&&decide (6<=n/\n<=10))
noncomputable def xo(c n:Nat):Option Nat:=
 if c=190 then(if n=21 then some 187 else if n=22 then some 180 else none)
 else if c=551 then(if n=23 then some 499 else if n=26 then some 506 else if n=24 then some 513 else if n=25 then some 520 else none)
 else none
noncomputable def vY(n:Nat)(p:Nat×List (Nat×AV)):Option AV:=if Ud p.1 n=true then Jb n p.2 else none
noncomputable def Ze(Z:AH)(n:Nat)(v:AV):Option AV:=v.casesOn none (λ_=>none) (λ_=>none) (λ_=>none) (λ_=>none) (λ_=>none) (λ_ _=>none) (λ_=>none)
 (λk a ks f t d=>fo none [some (.int k),some a,some (.ba ks),some (.int f),some (.int t),some (.int d)] n) (λ_ _=>none) (λ_=>none) (λi=>Z[i]?.bind λo=>(TY o).bind (vY n))
noncomputable def fg(x:Int):List Int->List Int|[]=>[x]|y::ys=>if x<=y then x::y::ys else y::fg x ys
noncomputable def Ib:List Int->List Int|[]=>[]|x::xs=>fg x (Ib xs)
noncomputable def Gf:List AV->Option (List Int):=List.rec (some []) λx _ ih=>(re x).bind λi=>ih.map (i::·)
noncomputable def lS(o:AO):Option (List Int):=o.casesOn Gf (λkvs=>some (kvs.map (·.1))) (λ_=>none) (λ_=>none) (λ_ _=>none)
noncomputable def uq(Z:AH)(a:AV):Option (List Int):=a.casesOn none (λ_=>none) (λ_=>none) (λ_=>none) (λ_=>none) Gf (λ_ _=>none) (λ_=>none) (λ_ _ _ _ _ _=>none) (λ_ _=>none) (λ_=>none) (λi=>Z[i]?.bind lS)
noncomputable def aE:List AV->Option Bool:=List.rec (some true) λx _ ih=>(jx x).bind λb=>ih.map (b&&·)
noncomputable def XD:List AV->Option Bool:=List.rec (some false) λx _ ih=>(jx x).bind λb=>ih.map (b||·)
noncomputable def EH(k:Int):Option (List Nat):=if 0<=k/\k<10 then some [48+k.toNat]else none
noncomputable def Se(o:Option (List AV)):Option (List AV):=o.bind λxs=>if xs.length<=Ab then some xs else none
noncomputable def TX(Z:AH)(a:AV):Option (List AV):=a.casesOn none (λ_=>none) (λ_=>none) (λ_=>none) some some (λ_ _=>none) (λ_=>none) (λ_ _ _ _ _ _=>none) (λ_ _=>none) (λ_=>none) (mB Z)
noncomputable def one(f:AH->AV->Option AV)(Z:AH)(xs:List AV):Option AV:=xs.casesOn none λa r=>r.casesOn (f Z a) λ_ _=>none
noncomputable def NX(n:Int):Option AV:=if n.natAbs<=Ab then some (.Gk 0 n)else none
noncomputable def MX(a b:Int):Option AV:=if a.natAbs<=Ab/\b.natAbs<=Ab then some (.Gk a b)else none
noncomputable def wS(_:AH)(xs:List AV):Option AV:=xs.casesOn none λa r=>(re a).bind λx=>r.casesOn (NX x) λb r=>(re b).bind λy=>r.casesOn (MX x y) λ_ _=>none
noncomputable def zT(Z:AH)(a:AV):Option AV:=(Se (TX Z a)).map λys=> .int ys.length
noncomputable def mS(Z:AH)(a:AV):Option AV:=(uq Z a).bind λks=>if ks.length<=60 then some (.ba ((Ib ks).map .int))else none
noncomputable def GR(Z:AH)(a:AV):Option AV:=(Se (bk Z a)).map .tup
noncomputable def kT(Z:AH)(a:AV):Option AV:=(Se (TX Z a)).map .ba
noncomputable def QV(_:AH)(a:AV):Option AV:=(Se (lN a)).bind λys=>(aE ys).map .bool
noncomputable def PV(_:AH)(a:AV):Option AV:=(Se (lN a)).bind λys=>(XD ys).map .bool
noncomputable def dS(_:AH)(a:AV):Option AV:=(re a).bind λk=>(EH k).map .str
noncomputable def og(Z:AH)(f:Nat)(xs:List AV):Option AV:=fo (λ_ _=>none) [one zT,wS,one mS,one GR,one kT,one QV,one PV,λ_ _=>none,one dS] f Z xs
noncomputable def LU(k d:AV)(o:AO):Option AV:=o.casesOn (λ_=>none) (λkvs=>(re k).bind λk=>some ((Pf k kvs).getD d)) (λkvs=>(nh k).bind λk=>some ((Oi k kvs).getD d))
 (λkvs=>(Td k).bind λks=>if Kd ks=true/\be ks<=7 then some ((getD (.tup ks) kvs).getD d)else none) (λ_ _=>none)
noncomputable def rn(Z:AH)(a k d:AV):Option AV:=a.casesOn none (λ_=>none) (λ_=>none) (λ_=>none) (λ_=>none) (λ_=>none) (λks vs=>(nh k).bind λk=>some ((Oi k (ks.zip vs)).getD d))
 (λkvs=>(re k).bind λk=>some (((To k kvs).map AV.int).getD d)) (λ_ _ _ _ _ _=>none) (λ_ _=>none) (λ_=>none) (λj=>Z[j]?.bind (LU k d))
noncomputable def wG(o:AO):Nat:=o.casesOn (λ_=>1) (λ_=>2) (λ_=>2) (λ_=>2) (λ_ _=>0)
noncomputable def Ah(Z:AH)(a:AV):Nat:=a.casesOn 0 (λ_=>0) (λ_=>0) (λ_=>3) (λ_=>0) (λ_=>1) (λ_ _=>2) (λ_=>2) (λ_ _ _ _ _ _=>0) (λ_ _=>0) (λ_=>0) λi=>(Z[i]?.map wG).getD 0
noncomputable def DV{α:Type}(d a0 a1 a2 a3 a4 a5:α)(n:Nat):α:=bif Nat.beq n 27 then a0 else bif Nat.beq n 28 then a1 else bif Nat.beq n 29 then a2 else bif Nat.beq n 12 then a3 else bif Nat.beq n 30 then a4 else bif Nat.beq n 31 then a5 else d
noncomputable def Jp(n:Nat):Nat:=DV 0 1 1 1 1 2 3 n
noncomputable def SC{β:Type}(f:AV->Option β)(xs:List AV):Option β:=xs.casesOn none λa r=>r.casesOn (f a) λ_ _=>none
noncomputable def nW(Z:AH)(a:AV)(f:Nat->List AV->Option (AV×AH)):Option (AV×AH):=(UF a).bind λi=>(mB Z i).bind λys=>f i ys
noncomputable def FQ(Z:AH)(a:AV)(xs:List AV):Option (AV×AH):=nW Z a λi ys=>SC (λx=>if ys.length<=Ab then some (.none,Z.set i (.list (ys++[x])))else none) xs
noncomputable def uO(Z:AH)(a:AV)(xs:List AV):Option (AV×AH):=nW Z a λi ys=>xs.casesOn (if ys.length<=Ab then(ys.getLast?).map λy=>(y,Z.set i (.list ys.dropLast))else none) λ_ _=>none
noncomputable def SP(Z:AH)(a:AV)(xs:List AV):Option (AV×AH):=nW Z a λi ys=>SC (λx=>(lN x).bind λzs=>if ys.length+zs.length<=Ab then some (.none,Z.set i (.list (ys++zs)))else none) xs
noncomputable def NP(Z:AH)(a:AV)(xs:List AV):Option (AV×AH):=xs.casesOn none λk r=>SC (λd=>(rn Z a k d).map (·,Z)) r
noncomputable def ZN(Z:AH)(a:AV)(xs:List AV):Option (AV×AH):=(nh a).bind λs=>SC (λx=>(nh x).bind λt=>some (.bool (decide (0+t.length<=s.length)&&PySem.Builtin.Str.subAt ⟨s.toArray⟩ ⟨t.toArray⟩ 0),Z)) xs
noncomputable def pP(Z:AH)(a:AV)(xs:List AV):Option (AV×AH):=SC (λx=>(bk Z a).bind λys=>if ys.length<=Ab then(kr x ys 0).map λ(k:Nat)=>(.int (k:Int),Z)else none) xs
noncomputable def Mc(Z:AH)(n:Nat)(a:AV)(xs:List AV):Option (AV×AH):=DV (λ_ _ _=>none) FQ uO SP pP NP ZN n Z a xs
noncomputable def JF(Z:AH)(j:Nat)(i v:AV)(o:AO):Option AH:=o.casesOn
 (λxs=>(re i).bind λk=>if 0<=k/\k<=Ab/\k.toNat<xs.length then some (Z.set j (.list (xs.set k.toNat v)))else none)
 (λkvs=>(re i).bind λk=>if kvs.length<=Ab then some (Z.set j (.Ea (qe k v kvs)))else none)
 (λkvs=>(nh i).bind λk=>if kvs.length<=Ab then some (Z.set j (.gb (Fy k v kvs)))else none)
 (λkvs=>(Td i).bind λks=>if kvs.length<=Ab/\Kd ks=true/\be ks<=7 then some (Z.set j (.we (Un (.tup ks) v kvs)))else none) (λ_ _=>none)
noncomputable def Ad(Z:AH)(a i v:AV):Option AH:=(UF a).bind λj=>Z[j]?.bind (JF Z j i v)
noncomputable def setAttr(Z:AH)(a:AV)(n:Nat)(v:AV):Option AH:=(UF a).bind λj=>Z[j]?.bind λo=>(TY o).bind λp=>if Ud p.1 n=true then some (Z.set j (.inst p.1 (Sj n v p.2)))else none
noncomputable def bg:List AV->Option (List (List Nat)):=List.rec (some []) λx _ ih=>(nh x).bind λs=>ih.map (s::·)
noncomputable def cg(Z:AH)(m:Nat)(ks vs:List AV):Option (AV×AH):=
 if ks.length=vs.length then fo none [(bg ks).bind λts=>if ts.Nodup then some (.rc ts vs,Z)else none,
   (Gf ks).bind λts=>if ts.Nodup then some (.ref Z.length,Z++[.Ea (ts.zip vs)])else none,
   (bg ks).bind λts=>if ts.Nodup then some (.ref Z.length,Z++[.gb (ts.zip vs)])else none,
   if ks.isEmpty=true then some (.ref Z.length,Z++[.we []])else none] m
 else none
noncomputable def Th(k:Nat)(v:AV):Option Fr:=
 if k=0 then some [some v]else(Td v).bind λxs=>if xs.length=k then some (xs.map some)else none
noncomputable def Ps:List Nat->List AV->Fr->Fr|i::is,v::vs,fr=>Ps is vs (fr.set i (some v))|_,_,fr=>fr
end
abbrev CP:=Nat->List AV->AH->(AV->AH->Prop)->Prop
def Hb{α:Type}(o:Option α)(Q:α->Prop):Prop:=match o with|some v=>Q v|none=>False
theorem ib{α:Type}{o:Option α}{Q:α->Prop}(h:Hb o Q):∃v,o=some v/\Q v:=by
 induction o with|none=>exact h.elim|some v=>exact(Na v rfl h)
def Dn(Z:AH)(v:AV)(Q:Bool->AH->Prop):Prop:=Hb (Db Z v) λt=>Q t Z
noncomputable def Gb(Z:AH):AV->Option (Nat×List (Nat×AV))
 | .ref j=>match Z[j]? with
  |some (.inst c fs)=>some (c,fs)|_=>none
 |_=>none
noncomputable def Hg(n:Nat)(p:Nat×List (Nat×AV)):Option Nat:=match Jb n p.2 with|none=>xo p.1 n|some _=>none
def Yl(K:CP)(n:Nat)(Z1:AH)(va:AV)(W:(List AV->AH->Prop)->Prop)(Q:AV->AH->Prop):Prop:=
 match Gb Z1 va with|some p=>Hb (Hg n p) λf=>W λvs Z2=>K f (va::vs) Z2 Q|none=>Ah Z1 va=Jp n/\Jp n≠0/\W λvs Z2=>Hb (Mc Z2 n va vs) λr=>Q r.1 r.2
def Sa(Qf:AH->Prop)(step:AV->AH->(Option AV->AH->Prop)->Prop):List AV->List AV->AH->(AV->AH->Prop)->Prop|[],Ra,Z,Q=>Qf Z/\Q (.ba Ra) Z|x::xs,Ra,Z,Q=>Qf Z/\step x Z (λr Z'=>Sa Qf step xs (Ra++r.toList) Z' Q)
section
variable(K:CP)
mutual
def dc:X->Fr->AH->(AV->AH->Prop)->Prop
 | .bad,_,_,_=>False| .lit v,_,Z,Q=>Q v Z| .var i,fr,Z,Q=>Hb (fr[i]?).join λv=>Q v Z| .bin o a b,fr,Z,Q=>dc a fr Z λva Z1=>dc b fr Z1 λvb Z2=>Hb (wc Z2 o va vb) λv=>Q v Z2| .neg a,fr,Z,Q=>dc a fr Z λva Z1=>Hb (match va with| .int i=>some i|_=>none) λi=>Q (.int (-i)) Z1| .not a,fr,Z,Q=>dc a fr Z λva Z1=>Dn Z1 va λb Z2=>Q (.bool !b) Z2| .and a b,fr,Z,Q=>dc a fr Z λva Z1=>Dn Z1 va λt Z2=>if t=true then dc b fr Z2 Q else Q va Z2
 | .or a b,fr,Z,Q=>dc a fr Z λva Z1=>Dn Z1 va λt Z2=>if t=true then Q va Z2 else dc b fr Z2 Q
 | .cmp o a b,fr,Z,Q=>dc a fr Z λva Z1=>dc b fr Z1 λvb Z2=>Hb (Ta Z2 o va vb) λt=>Q (.bool t) Z2| .Sm o p a b c,fr,Z,Q=>dc a fr Z λva Z1=>dc b fr Z1 λvb Z2=>Hb (Ta Z2 o va vb) λt=>
   if t=true then dc c fr Z2 λvc Z3=>Hb (Ta Z3 p vb vc) λu=>Q (.bool u) Z3 else Q (.bool false) Z2
 | .za t a b,fr,Z,Q=>Pb t fr Z λu Z1=>if u=true then dc a fr Z1 Q else dc b fr Z1 Q
 | .tup xs,fr,Z,Q=>Nf xs fr Z λvs Z1=>vs.length<=Ab/\Q (.tup vs) Z1| .lst trk xs,fr,Z,Q=>Nf xs fr Z λvs Z1=>vs.length<=Ab/\if trk=true then Q (.ref Z1.length) (Z1++[.list vs])else Q (.ba vs) Z1
 | .dct m ks xs,fr,Z,Q=>Nf xs fr Z λvs Z1=>Hb (cg Z1 m ks vs) λr=>Q r.1 r.2| .attr a n,fr,Z,Q=>dc a fr Z λva Z1=>Hb (Ze Z1 n va) λv=>Q v Z1| .idx a i,fr,Z,Q=>dc a fr Z λva Z1=>dc i fr Z1 λvi Z2=>Hb (jb Z2 va vi) λv=>Q v Z2| .slc a lo hi,fr,Z,Q=>dc a fr Z λva Z1=>dc lo fr Z1 λvl Z2=>dc hi fr Z2 λvh Z3=>Hb (Wi Z3 va vl vh) λv=>Q v Z3| .call f xs,fr,Z,Q=>Nf xs fr Z λvs Z1=>K f vs Z1 Q| .Dc a n xs,fr,Z,Q=>dc a fr Z λva Z1=>Yl K n Z1 va (λR=>Nf xs fr Z1 R) Q| .bi f xs,fr,Z,Q=>Nf xs fr Z λvs Z1=>Hb (og Z1 f vs) λv=>Q v Z1| .comp Ge k it c,fr,Z,Q=>dc it fr Z λvi Z1=>Hb (sa Z1 vi) λxs=>qd xs/\Sa (λZ2=>sa Z2 vi=some xs) (λx Z2 R=>Hb (Th k x) λvs=>
   Pb c (fr++vs) Z2 λt Z3=>if t=true then dc Ge (fr++vs) Z3 λv Z4=>R (some v) Z4 else R none Z3) xs [] Z1 Q
 | .af t,fr,Z,Q=>dc t fr Z λv Z1=>Hb (Td v) λxs=>Q (.qn xs) Z1
def Pb:X->Fr->AH->(Bool->AH->Prop)->Prop
 | .not a,fr,Z,Q=>Pb a fr Z λb Z1=>Q (!b) Z1| .and a b,fr,Z,Q=>Pb a fr Z λt Z1=>if t=true then Pb b fr Z1 Q else Q false Z1
 | .or a b,fr,Z,Q=>Pb a fr Z λt Z1=>if t=true then Q true Z1 else Pb b fr Z1 Q
 | .za t a b,fr,Z,Q=>Pb t fr Z λu Z1=>if u=true then Pb a fr Z1 Q else Pb b fr Z1 Q
 | .cmp o a b,fr,Z,Q=>dc a fr Z λva Z1=>dc b fr Z1 λvb Z2=>Hb (Ta Z2 o va vb) λt=>Q t Z2| .Sm o p a b c,fr,Z,Q=>dc a fr Z λva Z1=>dc b fr Z1 λvb Z2=>Hb (Ta Z2 o va vb) λt=>
   if t=true then dc c fr Z2 λvc Z3=>Hb (Ta Z3 p vb vc) λu=>Q u Z3 else Q false Z2
 | .lit v,_,Z,Q=>Dn Z v Q| .var i,fr,Z,Q=>Hb (fr[i]?).join λv=>Dn Z v Q| .bad,_,_,_=>False| .bin o a b,fr,Z,Q=>dc a fr Z λva Z1=>dc b fr Z1 λvb Z2=>Hb (wc Z2 o va vb) λv=>Dn Z2 v Q| .neg _,_,_,_=>False| .tup _,_,_,_=>False| .lst _ _,_,_,_=>False| .dct _ _ _,_,_,_=>False| .attr a n,fr,Z,Q=>dc a fr Z λva Z1=>Hb (Ze Z1 n va) λv=>Dn Z1 v Q| .idx a i,fr,Z,Q=>dc a fr Z λva Z1=>dc i fr Z1 λvi Z2=>Hb (jb Z2 va vi) λv=>Dn Z2 v Q| .slc _ _ _,_,_,_=>False| .call f xs,fr,Z,Q=>Nf xs fr Z λvs Z1=>K f vs Z1 λv Z2=>Dn Z2 v Q| .Dc a n xs,fr,Z,Q=>dc a fr Z λva Z1=>Yl K n Z1 va (λR=>Nf xs fr Z1 R) λv Z3=>Dn Z3 v Q| .bi f xs,fr,Z,Q=>Nf xs fr Z λvs Z1=>Hb (og Z1 f vs) λv=>Dn Z1 v Q| .comp _ _ _ _,_,_,_=>False| .af _,_,_,_=>False
def Nf:List X->Fr->AH->(List AV->AH->Prop)->Prop|[],_,Z,Q=>Q [] Z|x::xs,fr,Z,Q=>dc x fr Z λv Z1=>Nf xs fr Z1 λvs Z2=>Q (v::vs) Z2
end
abbrev SQ:=Fl->Fr->AH->Prop
def Xq(next:Fr->AH->Prop)(Q:SQ):SQ:=λfl fr Z=>match fl with
 | .next=>next fr Z
 | .cont=>next fr Z
 | .brk=>Q .next fr Z| .ret v=>Q (.ret v) fr Z
def Gm(next:Fr->AH->Prop)(Q:SQ):SQ:=λfl fr Z=>match fl with
 | .next=>next fr Z
 |fl=>Q fl fr Z
def Ij(zC:Fr->AH->(Bool->AH->Prop)->Prop)(body:Fr->AH->SQ->Prop):Nat->Fr->AH->SQ->Prop|0,_,_,_=>False|n+1,fr,Z,Q=>zC fr Z λt Z1=>if t=true then body fr Z1 (Xq (λfr2 Z2=>Ij zC body n fr2 Z2 Q) Q)else Q .next fr Z1
def Eb(Qf:AH->Prop)(body:AV->Fr->AH->SQ->Prop):List AV->Fr->AH->SQ->Prop|[],fr,Z,Q=>Qf Z/\Q .next fr Z|x::xs,fr,Z,Q=>Qf Z/\body x fr Z (Xq (λfr2 Z2=>Eb Qf body xs fr2 Z2 Q) Q)
noncomputable def xh:AV->Option (List AV)| .tup xs=>some xs| .ba xs=>some xs|_=>none
noncomputable def mh(is:List Nat)(v:AV)(fr:Fr):Option Fr:=match xh v with
 |some xs=>if xs.length=is.length then some (Ps is xs fr)else none
 |none=>none
noncomputable def RI(op:Nat):AV->AV->Option AV
 | .int x,.int y=>if op=0 then some (.int (x+y))else none
 |_,_=>none
mutual
def Wm:C->Fr->AH->SQ->Prop
 | .bad,_,_,_=>False| .asg i v,fr,Z,Q=>dc K v fr Z λa Z1=>Q .next (fr.set i (some a)) Z1| .Ck is v,fr,Z,Q=>dc K v fr Z λa Z1=>Hb (mh is a fr) λfr2=>Q .next fr2 Z1| .Xd o n v,fr,Z,Q=>dc K v fr Z λa Z1=>dc K o fr Z1 λb Z2=>Hb (setAttr Z2 b n a) λZ3=>Q .next fr Z3| .ue o i v,fr,Z,Q=>dc K v fr Z λa Z1=>dc K o fr Z1 λb Z2=>dc K i fr Z2 λc Z3=>Hb (Ad Z3 b c a) λZ4=>Q .next fr Z4| .SD o i op v,fr,Z,Q=>dc K o fr Z λb Z1=>dc K i fr Z1 λc Z2=>Hb (jb Z2 b c) λgG=>dc K v fr Z2 λa Z3=>Hb (RI op gG a) λGE=>Hb (Ad Z3 b c GE) λZ4=>Q .next fr Z4| .ret v,fr,Z,Q=>dc K v fr Z λa Z1=>Q (.ret a) fr Z1| .exp v,fr,Z,Q=>dc K v fr Z λa Z1=>uo a=true/\Q .next fr Z1| .za t a b,fr,Z,Q=>Pb K t fr Z λu Z1=>if u=true then oe a fr Z1 Q else oe b fr Z1 Q
 | .Hu t b,fr,Z,Q=>∃n,Ij (λfr Z R=>Pb K t fr Z R) (λfr Z R=>oe b fr Z R) n fr Z Q| .Xe i it b,fr,Z,Q=>dc K it fr Z λvi Z1=>Hb (sa Z1 vi) λxs=>qd xs/\Eb (λZ2=>sa Z2 vi=some xs) (λx fr Z R=>oe b (fr.set i (some x)) Z R) xs fr Z1 Q| .ng is it b,fr,Z,Q=>dc K it fr Z λvi Z1=>Hb (sa Z1 vi) λxs=>qd xs/\Eb (λZ2=>sa Z2 vi=some xs) (λx fr Z R=>Hb (mh is x fr) λfr2=>oe b fr2 Z R) xs fr Z1 Q| .brk,fr,Z,Q=>Q .brk fr Z| .cont,fr,Z,Q=>Q .cont fr Z| .pass,fr,Z,Q=>Q .next fr Z
def oe:List C->Fr->AH->SQ->Prop|[],fr,Z,Q=>Q .next fr Z|c::cs,fr,Z,Q=>Wm c fr Z (Gm (λfr2 Z2=>oe cs fr2 Z2 Q) Q)
end
end
set_option genCtorIdx false in
inductive J where
 |bad|fin|brk|cont|ret
 |lit (v:AV) (k:J)
 |load (i:Nat) (k:J)
 |bin (o:Nat) (k:J)
 |neg (k:J)
 |not (k:J)
 |and (b k:J)
 |or (b k:J)
 |cmp (o:Nat) (k:J)
 |jc (o:Nat) (a b:J)
 |jc2 (o:Nat) (a b:J)
 |jt (a b:J)
 |tup (n:Nat) (k:J)
 |lst (t:Bool) (n:Nat) (k:J)
 |dct (m:Nat) (ks:List AV) (n:Nat) (k:J)
 |attr (n:Nat) (k:J)
 |idx (k:J)
 |slc (k:J)
 |call (f n:Nat) (k:J)
 |mth (m:Nat) (b:J)
 |yJ (m n:Nat) (k:J)
 |bi (f n:Nat) (k:J)
 |comp (n:Nat) (b k:J)
 |af (k:J)
 |sto (i:Nat) (k:J)
 |Ck (is:List Nat) (k:J)
 |Xd (n:Nat) (k:J)
 |ue (k:J)
 |aug (k:J)
 |qM (op:Nat) (k:J)
 |exp (k:J)
 |Hu (t b k:J)
 |Xe (i:Nat) (b k:J)
 |ng (is:List Nat) (b k:J)
noncomputable def gf:Nat->List AV->List AV->Option (List AV×List AV)|0,Ra,st=>some (Ra,st)|n+1,Ra,v::st=>gf n (v::Ra) st|_+1,_,[]=>none
noncomputable def Wh(fr:Fr)(i:Nat):Option AV:=(fr[i]?).join
def cF(R:Bool->AH->Prop):SQ:=λfl _ Z=>match fl with| .next=>R true Z| .cont=>R false Z|_=>False
def sR(R:Option AV->AH->Prop):SQ:=λfl _ Z=>match fl with| .ret v=>R (some v) Z| .cont=>R none Z|_=>False
def oa(K:CP):J->List AV->Fr->AH->SQ->Prop
 | .fin,_,fr,Z,S=>S .next fr Z| .brk,_,fr,Z,S=>S .brk fr Z| .cont,_,fr,Z,S=>S .cont fr Z| .ret,st,fr,Z,S=>match st with|v::_=>S (.ret v) fr Z|_=>False
 | .lit v k,st,fr,Z,S=>oa K k (v::st) fr Z S| .load i k,st,fr,Z,S=>Hb (Wh fr i) λv=>oa K k (v::st) fr Z S| .bin o k,st,fr,Z,S=>match st with|b::a::st=>Hb (wc Z o a b) λv=>oa K k (v::st) fr Z S|_=>False
 | .neg k,st,fr,Z,S=>match st with| .int i::st=>oa K k (.int (-i)::st) fr Z S|_=>False
 | .not k,st,fr,Z,S=>match st with|a::st=>Dn Z a λb Z=>oa K k (AV.bool (!b)::st) fr Z S|_=>False
 | .and b k,st,fr,Z,S=>match st with|a::st=>Dn Z a λt Z=>if t=true then oa K b st fr Z S else oa K k (a::st) fr Z S|_=>False
 | .or b k,st,fr,Z,S=>match st with|a::st=>Dn Z a λt Z=>if t=true then oa K k (a::st) fr Z S else oa K b st fr Z S|_=>False
 | .cmp o k,st,fr,Z,S=>match st with|b::a::st=>Hb (Ta Z o a b) λv=>oa K k (AV.bool v::st) fr Z S|_=>False
 | .jc o x y,st,fr,Z,S=>match st with|b::a::st=>Hb (Ta Z o a b) λt=>if t=true then oa K x st fr Z S else oa K y st fr Z S|_=>False
 | .jc2 o x y,st,fr,Z,S=>match st with|b::a::st=>Hb (Ta Z o a b) λt=>if t=true then oa K x (b::st) fr Z S else oa K y st fr Z S|_=>False
 | .jt x y,st,fr,Z,S=>match st with|a::st=>Dn Z a λt Z=>if t=true then oa K x st fr Z S else oa K y st fr Z S|_=>False
 | .tup n k,st,fr,Z,S=>Hb (gf n [] st) λp=>p.1.length<=Ab/\oa K k (.tup p.1::p.2) fr Z S| .lst t n k,st,fr,Z,S=>Hb (gf n [] st) λp=>p.1.length<=Ab/\if t=true then oa K k (.ref Z.length::p.2) fr (Z++[.list p.1]) S else oa K k (.ba p.1::p.2) fr Z S
 | .dct m ks n k,st,fr,Z,S=>Hb (gf n [] st) λp=>Hb (cg Z m ks p.1) λr=>oa K k (r.1::p.2) fr r.2 S| .attr n k,st,fr,Z,S=>match st with|a::st=>Hb (Ze Z n a) λv=>oa K k (v::st) fr Z S|_=>False
 | .idx k,st,fr,Z,S=>match st with|b::a::st=>Hb (jb Z a b) λv=>oa K k (v::st) fr Z S|_=>False
 | .slc k,st,fr,Z,S=>match st with|c::b::a::st=>Hb (Wi Z a b c) λv=>oa K k (v::st) fr Z S|_=>False
 | .call f n k,st,fr,Z,S=>Hb (gf n [] st) λp=>K f p.1 Z λv Z=>oa K k (v::p.2) fr Z S| .mth m b,st,fr,Z,S=>match st with
  |a::st=>match Gb Z a with
   |some p=>Hb (Hg m p) λf=>oa K b (.int f::a::st) fr Z S|none=>Ah Z a=Jp m/\Jp m≠0/\oa K b (.none::a::st) fr Z S
  |_=>False
 | .yJ m n k,st,fr,Z,S=>Hb (gf n [] st) λp=>match p.2 with
  | .int f::a::st=>K f.toNat (a::p.1) Z λv Z=>oa K k (v::st) fr Z S| .none::a::st=>Hb (Mc Z m a p.1) λr=>oa K k (r.1::st) fr r.2 S|_=>False
 | .bi f n k,st,fr,Z,S=>Hb (gf n [] st) λp=>Hb (og Z f p.1) λv=>oa K k (v::p.2) fr Z S| .comp n b k,st,fr,Z,S=>match st with
  |a::st=>Hb (sa Z a) λxs=>qd xs/\Sa (λZ=>sa Z a=some xs) (λx Z R=>Hb (Th n x) λvs=>oa K b [] (fr++vs) Z (sR R)) xs [] Z λv Z=>oa K k (v::st) fr Z S|_=>False
 | .af k,st,fr,Z,S=>match st with|a::st=>Hb (Td a) λxs=>oa K k (.qn xs::st) fr Z S|_=>False
 | .sto i k,st,fr,Z,S=>match st with|a::st=>oa K k st (fr.set i (some a)) Z S|_=>False
 | .Ck is k,st,fr,Z,S=>match st with|a::st=>Hb (mh is a fr) λfr=>oa K k st fr Z S|_=>False
 | .Xd n k,st,fr,Z,S=>match st with|b::a::st=>Hb (setAttr Z b n a) λZ=>oa K k st fr Z S|_=>False
 | .ue k,st,fr,Z,S=>match st with|c::b::a::st=>Hb (Ad Z b c a) λZ=>oa K k st fr Z S|_=>False
 | .aug k,st,fr,Z,S=>match st with|c::b::st=>Hb (jb Z b c) λv=>oa K k (v::c::b::st) fr Z S|_=>False
 | .qM op k,st,fr,Z,S=>match st with|a::v::c::b::st=>Hb (RI op v a) λu=>Hb (Ad Z b c u) λZ=>oa K k st fr Z S|_=>False
 | .exp k,st,fr,Z,S=>match st with|a::st=>uo a=true/\oa K k st fr Z S|_=>False
 | .Hu t b k,st,fr,Z,S=>∃n,Ij (λfr Z R=>oa K t [] fr Z (cF R)) (λfr Z R=>oa K b [] fr Z R) n fr Z (Gm (λfr Z=>oa K k st fr Z S) S)| .Xe i b k,st,fr,Z,S=>match st with
  |a::st=>Hb (sa Z a) λxs=>qd xs/\Eb (λZ=>sa Z a=some xs) (λx fr Z R=>oa K b [] (fr.set i (some x)) Z R) xs fr Z (Gm (λfr Z=>oa K k st fr Z S) S)|_=>False
 | .ng is b k,st,fr,Z,S=>match st with
  |a::st=>Hb (sa Z a) λxs=>qd xs/\Eb (λZ=>sa Z a=some xs) (λx fr Z R=>Hb (mh is x fr) λfr=>oa K b [] fr Z R) xs fr Z (Gm (λfr Z=>oa K k st fr Z S) S)|_=>False
 | .bad,_,_,_,_=>False
mutual
noncomputable def cX:X->J->J| .bad,_=> .bad| .lit v,k=> .lit v k| .var i,k=> .load i k| .bin o a b,k=>cX a (cX b (.bin o k))| .neg a,k=>cX a (.neg k)| .not a,k=>cX a (.not k)| .and a b,k=>cX a (.and (cX b k) k)| .or a b,k=>cX a (.or (cX b k) k)| .cmp o a b,k=>cX a (cX b (.cmp o k))| .Sm o p a b c,k=>cX a (cX b (.jc2 o (cX c (.cmp p k)) (.lit (.bool false) k)))| .za t a b,k=>cT t (cX a k) (cX b k)| .tup xs,k=>OD xs (.tup xs.length k)| .lst t xs,k=>OD xs (.lst t xs.length k)| .dct m ks xs,k=>OD xs (.dct m ks xs.length k)| .attr a n,k=>cX a (.attr n k)| .idx a i,k=>cX a (cX i (.idx k))| .slc a b c,k=>cX a (cX b (cX c (.slc k)))| .call f xs,k=>OD xs (.call f xs.length k)| .Dc a n xs,k=>cX a (.mth n (OD xs (.yJ n xs.length k)))| .bi f xs,k=>OD xs (.bi f xs.length k)| .comp e n it c,k=>cX it (.comp n (cT c (cX e .ret) .cont) k)| .af t,k=>cX t (.af k)
noncomputable def cT:X->J->J->J| .not a,x,y=>cT a y x| .and a b,x,y=>cT a (cT b x y) y| .or a b,x,y=>cT a x (cT b x y)| .za t a b,x,y=>cT t (cT a x y) (cT b x y)| .cmp o a b,x,y=>cX a (cX b (.jc o x y))| .Sm o p a b c,x,y=>cX a (cX b (.jc2 o (cX c (.jc p x y)) y))| .lit v,x,y=> .lit v (.jt x y)| .var i,x,y=> .load i (.jt x y)| .bin o a b,x,y=>cX a (cX b (.bin o (.jt x y)))| .attr a n,x,y=>cX a (.attr n (.jt x y))| .idx a i,x,y=>cX a (cX i (.idx (.jt x y)))| .call f xs,x,y=>OD xs (.call f xs.length (.jt x y))| .Dc a n xs,x,y=>cX a (.mth n (OD xs (.yJ n xs.length (.jt x y))))| .bi f xs,x,y=>OD xs (.bi f xs.length (.jt x y))| .bad,_,_=> .bad| .neg _,_,_=> .bad| .tup _,_,_=> .bad| .lst _ _,_,_=> .bad| .dct _ _ _,_,_=> .bad| .slc _ _ _,_,_=> .bad| .comp _ _ _ _,_,_=> .bad| .af _,_,_=> .bad
noncomputable def OD:List X->J->J|[],k=>k|x::xs,k=>cX x (OD xs k)
end
mutual
noncomputable def cC:C->J->J| .bad,_=> .bad| .asg i v,k=>cX v (.sto i k)| .Ck is v,k=>cX v (.Ck is k)| .Xd o n v,k=>cX v (cX o (.Xd n k))| .ue o i v,k=>cX v (cX o (cX i (.ue k)))| .SD o i op v,k=>cX o (cX i (.aug (cX v (.qM op k))))| .ret v,_=>cX v .ret| .exp v,k=>cX v (.exp k)| .za t a b,k=>cT t (cS a k) (cS b k)| .Hu t b,k=> .Hu (cT t .fin .cont) (cS b .fin) k| .Xe i it b,k=>cX it (.Xe i (cS b .fin) k)| .ng is it b,k=>cX it (.ng is (cS b .fin) k)| .brk,_=> .brk| .cont,_=> .cont| .pass,k=>k
noncomputable def cS:List C->J->J|[],k=>k|c::cs,k=>cC c (cS cs k)
end
abbrev Em(K:CP):Prop:=∀f vs Z(P Q:AV->AH->Prop),(∀v Z,P v Z->Q v Z)->K f vs Z P->K f vs Z Q
theorem Ha{α:Type}{o:Option α}{P Q:α->Prop}(h:Hb o P)(k:∀v,P v->Q v):Hb o Q:=by
 induction o with|none=>exact h|some v=>exact k v h
theorem Lj{Z:AH}{a:AV}{P Q:Bool->AH->Prop}(h:Dn Z a P)(k:∀v,P v Z->Q v Z):Dn Z a Q:=Ha h k
theorem Lq:∀(n:Nat)(st Ra r:List AV),st.length=n->gf n Ra (st++r)=some (st.reverse++Ra,r)|0,[],_,_,_=>rfl|n+1,x::st,Ra,r,h=>(Lq n st (x::Ra) r (Nat.succ.inj h)).trans (by rw[List.reverse_cons,A3];rfl)
theorem ZF(vs Ra st:List AV):gf vs.length Ra (vs.reverse++st)=some (vs++Ra,st):=by rw[Lq _ _ _ _ (List.length_reverse),List.reverse_reverse]
theorem yg{vs st:List AV}{P:List AV×List AV->Prop}(hl:vs.length=n)(h:Hb (gf n [] (vs.reverse++st)) P):P (vs,st):=by subst hl;rw[ZF,K2]at h;exact h
theorem Kr{c1 c2:AH->Prop}{s1 s2:AV->AH->(Option AV->AH->Prop)->Prop}{P Q:AV->AH->Prop}(hc:∀Z,c1 Z->c2 Z)(hs:∀x Z R R',(∀r Z,R r Z->R' r Z)->s1 x Z R->s2 x Z R')(hq:∀v Z,P v Z->Q v Z):∀(xs Ra:List AV)(Z:AH),Sa c1 s1 xs Ra Z P->Sa c2 s2 xs Ra Z Q|[],_,Z,h=>⟨hc _ h.1,hq _ _ h.2⟩|x::xs,Ra,Z,h=>⟨hc _ h.1,hs x Z _ _ (λr Z' z=>Kr hc hs hq xs _ Z' z) h.2⟩
theorem Wq{n1 n2:Fr->AH->Prop}{P Q:SQ}(hn:∀fr Z,n1 fr Z->n2 fr Z)(hq:∀fl fr Z,P fl fr Z->Q fl fr Z):∀fl fr Z,Xq n1 P fl fr Z->Xq n2 Q fl fr Z| .next,fr,Z,h=>hn fr Z h| .cont,fr,Z,h=>hn fr Z h| .brk,fr,Z,h=>hq _ fr Z h| .ret v,fr,Z,h=>hq _ fr Z h
theorem Mu{t1 t2:Fr->AH->(Bool->AH->Prop)->Prop}{b1 b2:Fr->AH->SQ->Prop}{P Q:SQ}(ht:∀fr Z R R',(∀b Z,R b Z->R' b Z)->t1 fr Z R->t2 fr Z R')(hb:∀fr Z R R',(∀fl fr Z,R fl fr Z->R' fl fr Z)->b1 fr Z R->b2 fr Z R')(hq:∀fl fr Z,P fl fr Z->Q fl fr Z):∀(n:Nat)(fr:Fr)(Z:AH),Ij t1 b1 n fr Z P->Ij t2 b2 n fr Z Q
 |0,_,_,h=>h|n+1,fr,Z,h=>ht fr Z _ _ (λb Z' z=>by
   induction b with
   |true=>exact hb _ _ _ _ (Wq (λfr Z y=>Mu ht hb hq n fr Z y) hq) z|false=>exact hq _ _ _ z) h
theorem Fw{c1 c2:AH->Prop}{b1 b2:AV->Fr->AH->SQ->Prop}{P Q:SQ}(hc:∀Z,c1 Z->c2 Z)(hb:∀x fr Z R R',(∀fl fr Z,R fl fr Z->R' fl fr Z)->b1 x fr Z R->b2 x fr Z R')(hq:∀fl fr Z,P fl fr Z->Q fl fr Z):∀(xs:List AV)(fr:Fr)(Z:AH),Eb c1 b1 xs fr Z P->Eb c2 b2 xs fr Z Q|[],fr,Z,h=>⟨hc _ h.1,hq _ _ _ h.2⟩|x::xs,fr,Z,h=>⟨hc _ h.1,hb x fr Z _ _ (Wq (λfr Z y=>Fw hc hb hq xs fr Z y) hq) h.2⟩
theorem Cz{c1 c2:AH->Prop}{s1 s2:AV->AH->(Option AV->AH->Prop)->Prop}{P Q:AV->AH->Prop}{xs Ra:List AV}{Z:AH}(h:Sa c1 s1 xs Ra Z P)(hc:∀Z,c1 Z->c2 Z)(hs:∀x Z R R',(∀r Z,R r Z->R' r Z)->s1 x Z R->s2 x Z R')(hq:∀v Z,P v Z->Q v Z):Sa c2 s2 xs Ra Z Q:=Kr hc hs hq _ _ _ h
theorem tC{t1 t2:Fr->AH->(Bool->AH->Prop)->Prop}{b1 b2:Fr->AH->SQ->Prop}{P Q:SQ}{fr:Fr}{Z:AH}(h:Ij t1 b1 n fr Z P)(ht:∀fr Z R R',(∀b Z,R b Z->R' b Z)->t1 fr Z R->t2 fr Z R')(hb:∀fr Z R R',(∀fl fr Z,R fl fr Z->R' fl fr Z)->b1 fr Z R->b2 fr Z R')(hq:∀fl fr Z,P fl fr Z->Q fl fr Z):Ij t2 b2 n fr Z Q:=Mu ht hb hq _ _ _ h
theorem Er{c1 c2:AH->Prop}{b1 b2:AV->Fr->AH->SQ->Prop}{P Q:SQ}{xs:List AV}{fr:Fr}{Z:AH}(h:Eb c1 b1 xs fr Z P)(hc:∀Z,c1 Z->c2 Z)(hb:∀x fr Z R R',(∀fl fr Z,R fl fr Z->R' fl fr Z)->b1 x fr Z R->b2 x fr Z R')(hq:∀fl fr Z,P fl fr Z->Q fl fr Z):Eb c2 b2 xs fr Z Q:=Fw hc hb hq _ _ _ h
section
variable{K:CP}
def CY(K:CP)(x:X):Prop:=∀{k:J}{st:List AV}{fr:Fr}{Z:AH}{S:SQ},oa K (cX x k) st fr Z S->∀{Q:AV->AH->Prop},(∀v Z',oa K k (v::st) fr Z' S->Q v Z')->dc K x fr Z Q
def xW(K:CP)(x:X):Prop:=∀{a b:J}{st:List AV}{fr:Fr}{Z:AH}{S:SQ},oa K (cT x a b) st fr Z S->∀{Q:Bool->AH->Prop},(∀Z',oa K a st fr Z' S->Q true Z')->(∀Z',oa K b st fr Z' S->Q false Z')->Pb K x fr Z Q
def ZV(K:CP)(xs:List X):Prop:=∀{k:J}{st:List AV}{fr:Fr}{Z:AH}{S:SQ},oa K (OD xs k) st fr Z S->∀{Q:List AV->AH->Prop},(∀vs Z',vs.length=xs.length->oa K k (vs.reverse++st) fr Z' S->Q vs Z')->Nf K xs fr Z Q
theorem pk{A' B':Prop}(h:if t=true then A else B)(ha:A->A')(hb:B->B'):if t=true then A' else B':=by
 induction t with|true=>exact ha h|false=>exact hb h
theorem AB{Q:Bool->Prop}(h:if t=true then A else B)(ha:A->Q true)(hb:B->Q false):Q t:=by
 induction t with|true=>exact ha h|false=>exact hb h
variable{k a b:J}{st vs:List AV}{fr Ub:Fr}{Z:AH}{S:SQ}{v u z:AV}{o m:Nat}{Q:AV->AH->Prop}{R:Bool->AH->Prop}
theorem GT(h:oa K (.jt a b) (v::st) fr Z S):Dn Z v λt Z=>if t=true then oa K a st fr Z S else oa K b st fr Z S:=h
theorem CO(h:oa K (.not k) (v::st) fr Z S):Dn Z v λt Z=>oa K k (AV.bool (!t)::st) fr Z S:=h
theorem IQ(h:oa K (.and a k) (v::st) fr Z S):Dn Z v λt Z=>if t=true then oa K a st fr Z S else oa K k (v::st) fr Z S:=h
theorem FS(h:oa K (.or a k) (v::st) fr Z S):Dn Z v λt Z=>if t=true then oa K k (v::st) fr Z S else oa K a st fr Z S:=h
theorem Xf(h:oa K (.jt a b) (v::st) fr Z S)(ha:∀Z',oa K a st fr Z' S->R true Z')(hb:∀Z',oa K b st fr Z' S->R false Z'):Dn Z v R:=
 Lj (GT h) λt z=>AB (Q:=λt=>R t Z) z (ha Z) (hb Z)
theorem rB(h:oa K (.jc o a b) (u::v::st) fr Z S)(ha:∀Z',oa K a st fr Z' S->R true Z')(hb:∀Z',oa K b st fr Z' S->R false Z'):Hb (Ta Z o v u) λt=>R t Z:=
 Ha h λt z=>AB (Q:=λt=>R t Z) z (ha Z) (hb Z)
theorem px(h:oa K (.bin o k) (u::v::st) fr Z S):Hb (wc Z o v u) λx=>oa K k (x::st) fr Z S:=h
theorem iw(h:oa K (.idx k) (u::v::st) fr Z S):Hb (jb Z v u) λx=>oa K k (x::st) fr Z S:=h
theorem Sr(h:oa K (.attr n k) (v::st) fr Z S):Hb (Ze Z n v) λx=>oa K k (x::st) fr Z S:=h
theorem Yq(h:oa K (.load n k) st fr Z S):Hb (fr[n]?).join λx=>oa K k (x::st) fr Z S:=h
theorem Nr(hK:Em K)(hl:vs.length=n)(h:oa K (.call m n k) (vs.reverse++st) fr Z S)(q:∀v Z',oa K k (v::st) fr Z' S->Q v Z'):K m vs Z Q:=
 hK _ _ _ _ _ q (yg (P:=λp=>K m p.1 Z λv Z=>oa K k (v::p.2) fr Z S) hl h)
theorem aC(hl:vs.length=n)(h:oa K (.bi m n k) (vs.reverse++st) fr Z S):Hb (og Z m vs) λv=>oa K k (v::st) fr Z S:=
 yg (P:=λp=>Hb (og Z m p.1) λv=>oa K k (v::p.2) fr Z S) hl h
theorem YE(hl:vs.length=n)(h:oa K (.tup n k) (vs.reverse++st) fr Z S):vs.length<=Ab/\oa K k (.tup vs::st) fr Z S:=
 yg (P:=λp=>p.1.length<=Ab/\oa K k (.tup p.1::p.2) fr Z S) hl h
theorem BG(hl:vs.length=n)(h:oa K (.lst t n k) (vs.reverse++st) fr Z S):vs.length<=Ab/\if t=true then oa K k (.ref Z.length::st) fr (Z++[AO.list vs]) S else oa K k (.ba vs::st) fr Z S:=
 yg (P:=λp=>p.1.length<=Ab/\if t=true then oa K k (.ref Z.length::p.2) fr (Z++[AO.list p.1]) S else oa K k (.ba p.1::p.2) fr Z S) hl h
theorem XH{ks:List AV}(hl:vs.length=n)(h:oa K (.dct m ks n k) (vs.reverse++st) fr Z S):Hb (cg Z m ks vs) λr=>oa K k (r.1::st) fr r.2 S:=
 yg (P:=λp=>Hb (cg Z m ks p.1) λr=>oa K k (r.1::p.2) fr r.2 S) hl h
theorem dT{f:Int}(hK:Em K)(hl:vs.length=n)(h:oa K (.yJ m n k) (vs.reverse++ .int f::u::st) fr Z S)(q:∀v Z',oa K k (v::st) fr Z' S->Q v Z'):K f.toNat (u::vs) Z Q:=
 hK _ _ _ _ _ q (yg (st:= .int f::u::st) (P:=λp=>match p.2 with
  | .int f::a::st=>K f.toNat (a::p.1) Z λv Z=>oa K k (v::st) fr Z S| .none::a::st=>Hb (Mc Z m a p.1) λr=>oa K k (r.1::st) fr r.2 S|_=>False) hl h)
theorem bT(hl:vs.length=n)(h:oa K (.yJ m n k) (vs.reverse++ .none::u::st) fr Z S):Hb (Mc Z m u vs) λr=>oa K k (r.1::st) fr r.2 S:=
 yg (st:= .none::u::st) (P:=λp=>match p.2 with
  | .int f::a::st=>K f.toNat (a::p.1) Z λv Z=>oa K k (v::st) fr Z S| .none::a::st=>Hb (Mc Z m a p.1) λr=>oa K k (r.1::st) fr r.2 S|_=>False) hl h
theorem BM{xs:List X}(hK:Em K)(ih:ZV K xs)(h:oa K (.mth m (OD xs (.yJ m xs.length k))) (v::st) fr Z S)(q:∀v Z',oa K k (v::st) fr Z' S->Q v Z'):Yl K m Z v (λR=>Nf K xs fr Z R) Q:=by
 unfold Yl;change(match Gb Z v with|some p=>_|none=>_)at h;cases hi:Gb Z v with|some p=>replace h:=hi▸h;exact Ha h λf z=>ih z λvs Z1 hl z=>dT hK hl z q|none=>replace h:=hi▸h;exact(sf h.1 h.2.1 (ih h.2.2 λvs Z1 hl z=>Ha (bT hl z) λr=>q r.1 r.2))
theorem sG(h:oa K (.neg k) (v::st) fr Z S)(q:∀v Z',oa K k (v::st) fr Z' S->Q v Z'):Hb (match v with| .int i=>some i|_=>none) λi=>Q (.int (-i)) Z:=by
 cases v with|int i=>exact q _ _ h|_=>exact h
theorem YL{bd:J}(h:oa K (.comp n bd k) (v::st) fr Z S):Hb (sa Z v) λxs=>qd xs/\Sa (λZ=>sa Z v=some xs) (λx Z R=>Hb (Th n x) λvs=>oa K bd [] (fr++vs) Z (sR R)) xs [] Z λv Z=>oa K k (v::st) fr Z S:=h
theorem FD{c e:X}{R R':Option AV->AH->Prop}(tc:xW K c)(xe:CY K e)(hr:∀r Z,R r Z->R' r Z)(h:Hb (Th n v) λvs=>oa K (cT c (cX e .ret) .cont) [] (fr++vs) Z (sR R)):Hb (Th n v) λvs=>Pb K c (fr++vs) Z λt Z3=>if t=true then dc K e (fr++vs) Z3 (λv Z4=>R' (some v) Z4)else R' none Z3:=
 Ha h λvs z=>tc z (Q:=λt Z3=>if t=true then dc K e (fr++vs) Z3 (λv Z4=>R' (some v) Z4)else R' none Z3) (λZ1 z=>xe z λv Z2 z=>hr _ _ z) (λZ1 z=>hr _ _ z)
theorem mI{c e:X}(tc:xW K c)(xe:CY K e)(h:oa K (.comp n (cT c (cX e .ret) .cont) k) (v::st) Ub Z S)(q:∀v Z',oa K k (v::st) Ub Z' S->Q v Z'):Hb (sa Z v) λxs=>qd xs/\Sa (λZ2=>sa Z2 v=some xs) (λx Z2 R=>Hb (Th n x) λvs=>Pb K c (Ub++vs) Z2 λt Z3=>if t=true then dc K e (Ub++vs) Z3 (λv Z4=>R (some v) Z4)else R none Z3) xs [] Z Q:=
 Ha (YL h) λxs z=>⟨z.1,Cz z.2 (λ_ z=>z) (λx Z R R' hr z=>FD (n:=n) (v:=x) (fr:=Ub) (Z:=Z) tc xe hr z) q⟩
mutual
theorem Yb(hK:Em K):∀x:X,CY K x| .bad=>λh _ q=>h| .lit v=>λh _ q=>q v _ h| .var i=>λh _ q=>Ha (Yq h) λv=>q v _| .bin o a b=>λh _ q=>Yb hK a h λva Z1 h=>Yb hK b h λvb Z2 h=>Ha (px h) λv=>q v Z2| .neg a=>λh _ q=>Yb hK a h λva Z1 h=>sG h q| .not a=>λh _ q=>Yb hK a h λva Z1 h=>Lj (CO h) λb=>q _ Z1| .and a b=>λh _ q=>Yb hK a h λva Z1 h=>Lj (IQ h) λt z=>pk z (λz=>Yb hK b z q) (q va Z1)| .or a b=>λh _ q=>Yb hK a h λva Z1 h=>Lj (FS h) λt z=>pk z (q va Z1) (λz=>Yb hK b z q)| .cmp o a b=>λh _ q=>Yb hK a h λva Z1 h=>Yb hK b h λvb Z2 h=>Ha h λv=>q _ Z2| .Sm o p a b c=>λh _ q=>Yb hK a h λva Z1 h=>Yb hK b h λvb Z2 h=>Ha h λt z=>pk z (λz=>Yb hK c z λvc Z3 h=>Ha h λu=>q _ Z3) (q _ Z2)| .za t a b=>λh _ q=>Fm hK t h (Q:=λu Z1=>if u=true then dc K a _ Z1 _ else dc K b _ Z1 _) (λZ1 z=>Yb hK a z q) (λZ1 z=>Yb hK b z q)| .tup xs=>λh _ q=>Pi hK xs h λvs Z1 hl z=>have z:=YE hl z;⟨z.1,q _ Z1 z.2⟩| .lst t xs=>λh _ q=>Pi hK xs h λvs Z1 hl z=>have z:=BG hl z;⟨z.1,pk z.2 (q _ _) (q _ _)⟩| .dct m ks xs=>λh _ q=>Pi hK xs h λvs Z1 hl z=>Ha (XH hl z) λr=>q r.1 r.2| .attr a n=>λh _ q=>Yb hK a h λva Z1 h=>Ha (Sr h) λv=>q v Z1| .idx a i=>λh _ q=>Yb hK a h λva Z1 h=>Yb hK i h λvb Z2 h=>Ha (iw h) λv=>q v Z2| .slc a b c=>λh _ q=>Yb hK a h λva Z1 h=>Yb hK b h λvb Z2 h=>Yb hK c h λvc Z3 h=>Ha h λv=>q v Z3| .call f xs=>λh _ q=>Pi hK xs h λvs Z1 hl z=>Nr hK hl z q| .Dc a n xs=>λh _ q=>Yb hK a h λva Z1 h=>BM hK (Pi hK xs) h q| .bi f xs=>λh _ q=>Pi hK xs h λvs Z1 hl z=>Ha (aC hl z) λv=>q v Z1| .comp e n it c=>λh _ q=>Yb hK it h λva Z1 h=>mI (Fm hK c) (Yb hK e) h q| .af t=>λh _ q=>Yb hK t h λva Z1 h=>Ha h λv=>q _ Z1
theorem Fm(hK:Em K):∀x:X,xW K x| .not a=>λh _ p q=>Fm hK a h (Q:=λb Z1=>_) q p| .and a b=>λh Q p q=>Fm hK a h (Q:=λt Z1=>if t=true then Pb K b _ Z1 Q else Q false Z1) (λZ1 z=>Fm hK b z p q) (λZ1 z=>q Z1 z)| .or a b=>λh Q p q=>Fm hK a h (Q:=λt Z1=>if t=true then Q true Z1 else Pb K b _ Z1 Q) (λZ1 z=>p Z1 z) (λZ1 z=>Fm hK b z p q)| .za t a b=>λh Q p q=>Fm hK t h (Q:=λu Z1=>if u=true then Pb K a _ Z1 Q else Pb K b _ Z1 Q) (λZ1 z=>Fm hK a z p q) (λZ1 z=>Fm hK b z p q)| .cmp o a b=>λh _ p q=>Yb hK a h λva Z1 h=>Yb hK b h λvb Z2 h=>rB h p q| .Sm o r a b c=>λh Q p q=>Yb hK a h λva Z1 h=>Yb hK b h λvb Z2 h=>Ha h λt z=>pk z (λz=>Yb hK c z λvc Z3 h=>rB h p q) (q Z2)| .lit v=>λh _ p q=>Xf h p q| .var i=>λh _ p q=>Ha (Yq h) λv z=>Xf z p q| .bin o a b=>λh _ p q=>Yb hK a h λva Z1 h=>Yb hK b h λvb Z2 h=>Ha (px h) λv z=>Xf z p q| .attr a n=>λh _ p q=>Yb hK a h λva Z1 h=>Ha (Sr h) λv z=>Xf z p q| .idx a i=>λh _ p q=>Yb hK a h λva Z1 h=>Yb hK i h λvb Z2 h=>Ha (iw h) λv z=>Xf z p q| .call f xs=>λh _ p q=>Pi hK xs h λvs Z1 hl z=>Nr hK hl z λv Z' z=>Xf z p q| .Dc a n xs=>λh _ p q=>Yb hK a h λva Z1 h=>BM hK (Pi hK xs) h λv Z' z=>Xf z p q| .bi f xs=>λh _ p q=>Pi hK xs h λvs Z1 hl z=>Ha (aC hl z) λv z=>Xf z p q| .bad=>λh _ p q=>h| .neg _=>λh _ p q=>h| .tup _=>λh _ p q=>h| .lst _ _=>λh _ p q=>h| .dct _ _ _=>λh _ p q=>h| .slc _ _ _=>λh _ p q=>h| .comp _ _ _ _=>λh _ p q=>h| .af _=>λh _ p q=>h
theorem Pi(hK:Em K):∀xs:List X,ZV K xs|[]=>λh _ q=>q [] _ rfl h|x::xs=>λh _ q=>Yb hK x h λv Z1 h=>Pi hK xs h λvs Z2 hl z=>q (v::vs) Z2 (rr P2<|rr P2<|rr hl rfl) (by rw[List.reverse_cons,A3];exact z)
end
def OY(K:CP)(c:C):Prop:=∀{k:J}{st:List AV}{fr:Fr}{Z:AH}{S:SQ},oa K (cC c k) st fr Z S->∀{Q:SQ},(∀Ub Z',oa K k st Ub Z' S->Q .next Ub Z')->(∀fl Ub Z',fl≠ .next->S fl Ub Z'->Q fl Ub Z')->Wm K c fr Z Q
def zM(K:CP)(cs:List C):Prop:=∀{k:J}{st:List AV}{fr:Fr}{Z:AH}{S:SQ},oa K (cS cs k) st fr Z S->∀{Q:SQ},(∀Ub Z',oa K k st Ub Z' S->Q .next Ub Z')->(∀fl Ub Z',fl≠ .next->S fl Ub Z'->Q fl Ub Z')->oe K cs fr Z Q
variable{P:SQ}
theorem Vn{nx:Fr->AH->Prop}(p:∀Ub Z',nx Ub Z'->P .next Ub Z')(q:∀fl Ub Z',fl≠ .next->S fl Ub Z'->P fl Ub Z'):∀fl fr Z,Gm nx S fl fr Z->P fl fr Z| .next,fr,Z,h=>p fr Z h| .cont,fr,Z,h=>q _ fr Z (λz=>by cases z) h| .brk,fr,Z,h=>q _ fr Z (λz=>by cases z) h| .ret v,fr,Z,h=>q _ fr Z (λz=>by cases z) h
theorem CQ(h:oa K (.aug k) (u::v::st) fr Z S):Hb (jb Z v u) λx=>oa K k (x::u::v::st) fr Z S:=h
theorem pM(h:oa K (.qM o k) (u::z::v::vv::st) fr Z S):Hb (RI o z u) λx=>Hb (Ad Z vv v x) λZ=>oa K k st fr Z S:=h
theorem FN{t bd:J}(h:oa K (.Hu t bd k) st fr Z S):∃n,Ij (λfr Z R=>oa K t [] fr Z (cF R)) (λfr Z R=>oa K bd [] fr Z R) n fr Z (Gm (λfr Z=>oa K k st fr Z S) S):=h
theorem vL{bd:J}(h:oa K (.Xe n bd k) (v::st) fr Z S):Hb (sa Z v) λxs=>qd xs/\Eb (λZ=>sa Z v=some xs) (λx fr Z R=>oa K bd [] (fr.set n (some x)) Z R) xs fr Z (Gm (λfr Z=>oa K k st fr Z S) S):=h
theorem uL{bd:J}(h:oa K (.ng is bd k) (v::st) fr Z S):Hb (sa Z v) λxs=>qd xs/\Eb (λZ=>sa Z v=some xs) (λx fr Z R=>Hb (mh is x fr) λfr=>oa K bd [] fr Z R) xs fr Z (Gm (λfr Z=>oa K k st fr Z S) S):=h
theorem LJ{t:X}{bs:List C}(tt:xW K t)(sb:zM K bs)(h:oa K (.Hu (cT t .fin .cont) (cS bs .fin) k) st fr Z S)(p:∀Ub Z',oa K k st Ub Z' S->P .next Ub Z')(q:∀fl Ub Z',fl≠ .next->S fl Ub Z'->P fl Ub Z'):∃n,Ij (λfr Z R=>Pb K t fr Z R) (λfr Z R=>oe K bs fr Z R) n fr Z P:=
 have⟨n,h⟩:=FN h
 ⟨n,tC h (λfr Z R R' hr z=>tt z (λZ1 z=>hr _ _ z) (λZ1 z=>hr _ _ z)) (λfr Z R R' hr z=>sb z (λfr Z z=>hr _ _ _ z) (λfl fr Z _ z=>hr fl fr Z z)) (Vn p q)⟩
theorem wH{bs:List C}(sb:zM K bs)(h:oa K (.Xe n (cS bs .fin) k) (v::st) fr Z S)(p:∀Ub Z',oa K k st Ub Z' S->P .next Ub Z')(q:∀fl Ub Z',fl≠ .next->S fl Ub Z'->P fl Ub Z'):Hb (sa Z v) λxs=>qd xs/\Eb (λZ2=>sa Z2 v=some xs) (λx fr Z R=>oe K bs (fr.set n (some x)) Z R) xs fr Z P:=
 Ha (vL h) λxs z=>⟨z.1,Er z.2 (λ_ z=>z) (λx fr Z R R' hr z=>sb z (λfr Z z=>hr _ _ _ z) (λfl fr Z _ z=>hr fl fr Z z)) (Vn p q)⟩
theorem vH{bs:List C}(sb:zM K bs)(h:oa K (.ng is (cS bs .fin) k) (v::st) fr Z S)(p:∀Ub Z',oa K k st Ub Z' S->P .next Ub Z')(q:∀fl Ub Z',fl≠ .next->S fl Ub Z'->P fl Ub Z'):Hb (sa Z v) λxs=>qd xs/\Eb (λZ2=>sa Z2 v=some xs) (λx fr Z R=>Hb (mh is x fr) λfr2=>oe K bs fr2 Z R) xs fr Z P:=
 Ha (uL h) λxs z=>⟨z.1,Er z.2 (λ_ z=>z) (λx fr Z R R' hr z=>Ha z λfr2 z=>sb z (λfr Z z=>hr _ _ _ z) (λfl fr Z _ z=>hr fl fr Z z)) (Vn p q)⟩
mutual
theorem pY(hK:Em K):∀c:C,OY K c| .bad=>λh _ p q=>h| .asg i v=>λh _ p q=>Yb hK v h λa Z1 h=>p _ Z1 h| .Ck is v=>λh _ p q=>Yb hK v h λa Z1 h=>Ha h λfr2=>p fr2 Z1| .Xd o n v=>λh _ p q=>Yb hK v h λa Z1 h=>Yb hK o h λb Z2 h=>Ha h λZ3=>p _ Z3| .ue o i v=>λh _ p q=>Yb hK v h λa Z1 h=>Yb hK o h λb Z2 h=>Yb hK i h λc Z3 h=>Ha h λZ4=>p _ Z4| .SD o i op v=>λh _ p q=>Yb hK o h λb Z1 h=>Yb hK i h λc Z2 h=>Ha (CQ h) λgG h=>Yb hK v h λa Z3 h=>Ha (pM h) λGE z=>Ha z λZ4=>p _ Z4| .ret v=>λh _ p q=>Yb hK v h λa Z1 h=>q (.ret a) _ Z1 (λz=>by cases z) h| .exp v=>λh _ p q=>Yb hK v h λa Z1 h=>⟨h.1,p _ Z1 h.2⟩| .za t a b=>λh Q p q=>Fm hK t h (Q:=λu Z1=>if u=true then oe K a _ Z1 Q else oe K b _ Z1 Q) (λZ1 z=>wv hK a z p q) (λZ1 z=>wv hK b z p q)| .Hu t b=>λh Q p q=>LJ (Fm hK t) (wv hK b) h p q| .Xe i it b=>λh Q p q=>Yb hK it h λa Z1 h=>wH (wv hK b) h p q| .ng is it b=>λh Q p q=>Yb hK it h λa Z1 h=>vH (wv hK b) h p q| .brk=>λh _ p q=>q .brk _ _ (λz=>by cases z) h| .cont=>λh _ p q=>q .cont _ _ (λz=>by cases z) h| .pass=>λh _ p q=>p _ _ h
theorem wv(hK:Em K):∀cs:List C,zM K cs
 |[]=>λh _ p q=>p _ _ h|c::cs=>λh Q p q=>pY hK c h (Q:=Gm (λfr2 Z2=>oe K cs fr2 Z2 Q) Q) (λUb Z' z=>wv hK cs z p q) (λfl Ub Z' hn z=>by
   induction fl with
   |next=>exact absurd rfl hn|_=>exact q _ _ _ hn z)
end
end
variable{h h':Heap}{prog:Program}{w:World}
section
open PySem.Calls
noncomputable def Pa(s:List Nat):Str:=⟨s.toArray⟩
theorem Be{a b:List Nat}(h:Pa a=Pa b):a=b:=by have:=C0 (λx=>x.cps.toList) h;simpa[Pa]using this
section
variable(h:Heap)
mutual
def KV:AV->Value->Prop| .int i,v=>∃t,v= .int i t| .str s,v=>∃t,v= .str (Pa s) t| .tup xs,v=>∃a vs n,v= .ref a/\h.get? a=some {cls:= .type "tuple",data:= .seq (List.toArray vs) n}/\Ul xs vs|_,_=>False
def Ul:List AV->List Value->Prop|[],vs=>vs=[]|x::xs,vs=>∃v r,vs=v::r/\KV x v/\Ul xs r
end
end
mutual
noncomputable def oB(w:World):AV->Int| .int i=>hashInt i| .str s=>hashStr w (Pa s)| .tup xs=>reduceHash (Builtin.Tuple.tupleHashOf (Fd w xs))|_=>0
noncomputable def Fd(w:World):List AV->List Int|[]=>[]|x::xs=>oB w x::Fd w xs
end
mutual
noncomputable def Yv:AV->Nat| .tup xs=>El xs+1|_=>1
noncomputable def El:List AV->Nat|[]=>0|x::xs=>Yv x+El xs
end
mutual
theorem KV.key:∀{x:AV}{v:Value},KV h x v->Zf x=true
 | .int i,v,hx=>rfl| .str s,v,hx=>rfl| .tup xs,v,hx=>by
  refine Qa hx λa vs n ez tz=>?_;subst ez;refine kA tz λho hs=>?_;exact Ul.key hs
 | .none,_,hx=>hx.elim| .bool _,_,hx=>hx.elim| .ba _,_,hx=>hx.elim| .rc _ _,_,hx=>hx.elim| .Wc _,_,hx=>hx.elim| .node _ _ _ _ _ _,_,hx=>hx.elim| .Gk _ _,_,hx=>hx.elim| .qn _,_,hx=>hx.elim| .ref _,_,hx=>hx.elim
theorem Ul.key:∀{xs:List AV}{vs:List Value},Ul h xs vs->Kd xs=true
 |[],vs,hx=>rfl|x::xs,vs,hx=>by
  refine db hx λv r ez tz=>?_;subst ez;refine kA tz λh1 h2=>?_;exact qy (KV.key h1) (Ul.key h2)
end
mutual
theorem KV.inj:∀{x y:AV}{v:Value},KV h x v->KV h y v->x=y
 | .int i,y,v,hx,hy=>by
  refine kE hx λt ez=>?_;subst ez;cases y with
  |int j=>refine kE hy λt' e=>?_;injection e with e _;exact rr e rfl
  |str=>refine kE hy λt e=>?_;cases e|tup=>refine Qa hy λa vs n e _=>?_;cases e|_=>exact hy.elim
 | .str s,y,v,hx,hy=>by
  refine kE hx λt ez=>?_;subst ez;cases y with
  |str s'=>
   refine kE hy λt' e=>?_;injection e with e _
   exact rr (Be e) rfl
  |int=>refine kE hy λt e=>?_;cases e|tup=>refine Qa hy λa vs n e _=>?_;cases e|_=>exact hy.elim
 | .tup xs,y,v,hx,hy=>by
  refine Qa hx λa vs n ez tz=>?_;subst ez;refine kA tz λho hs=>?_;cases y with
  |tup ys=>
   refine LG hy λa' vs' n' e Wg yr=>?_;rcases e with⟨⟩
   replace Wg:=ho▸Wg;injection Wg with Wg
   injection Wg with _ _ hd _
   injection hd with hd _
   have:vs=vs':=by simpa using hd
   subst this;exact rr (Ul.inj hs yr) rfl
  |int=>refine kE hy λt e=>?_;cases e|str=>refine kE hy λt e=>?_;cases e|_=>exact hy.elim
 | .none,_,_,hx,_=>hx.elim| .bool _,_,_,hx,_=>hx.elim| .ba _,_,_,hx,_=>hx.elim| .rc _ _,_,_,hx,_=>hx.elim| .Wc _,_,_,hx,_=>hx.elim| .node _ _ _ _ _ _,_,_,hx,_=>hx.elim| .Gk _ _,_,_,hx,_=>hx.elim| .qn _,_,_,hx,_=>hx.elim| .ref _,_,_,hx,_=>hx.elim
theorem Ul.inj:∀{xs ys:List AV}{vs:List Value},Ul h xs vs->Ul h ys vs->xs=ys
 |[],ys,vs,hx,hy=>by
  rcases hx with⟨⟩;induction ys with|nil=>rfl|cons y ys=>refine db hy λv r e _=>?_;cases e
 |x::xs,ys,vs,hx,hy=>by
  refine db hx λv r ez tz=>?_;subst ez;refine kA tz λh1 h2=>?_;induction ys with
  |nil=>cases hy|cons y ys=>
   refine Je hy λv' r' e h1' h2'=>?_;rcases e with⟨⟩
   exact rr (KV.inj h1 h1')<|rr (Ul.inj h2 h2') rfl
end
theorem Ul.length:∀{xs:List AV}{vs:List Value},Ul h xs vs->xs.length=vs.length:=by
 intro xs;induction xs with
 |nil=>intro vs hx;rcases hx with⟨⟩;rfl
 |cons x xs ih=>intro vs hx;refine db hx λv r ez tz=>?_;subst ez;refine kA tz λ_ h2=>?_;simp[ih h2]
mutual
theorem KV.keeps(k:∀a o items n,h.get? a=some o->o.cls= .type "tuple"->o.data= .seq items n->h'.get? a=some o):∀{x:AV}{v:Value},KV h x v->KV h' x v
 | .int i,v,hx=>hx| .str s,v,hx=>hx| .tup xs,v,hx=>by
  refine Qa hx λa vs n ez tz=>?_;subst ez;refine kA tz λho hs=>?_;exact(No a vs n rfl (k _ _ _ _ ho rfl rfl) (Ul.keeps k hs))
 | .none,_,hx=>hx.elim| .bool _,_,hx=>hx.elim| .ba _,_,hx=>hx.elim| .rc _ _,_,hx=>hx.elim| .Wc _,_,hx=>hx.elim| .node _ _ _ _ _ _,_,hx=>hx.elim| .Gk _ _,_,hx=>hx.elim| .qn _,_,hx=>hx.elim| .ref _,_,hx=>hx.elim
theorem Ul.keeps(k:∀a o items n,h.get? a=some o->o.cls= .type "tuple"->o.data= .seq items n->h'.get? a=some o):∀{xs:List AV}{vs:List Value},Ul h xs vs->Ul h' xs vs
 |[],vs,hx=>hx|x::xs,vs,hx=>by
  refine db hx λv r ez tz=>?_;subst ez;refine kA tz λh1 h2=>?_;exact(Wa v r rfl (KV.keeps k h1) (Ul.keeps k h2))
end
mutual
theorem rf:∀(x y:AV),Zf x=true->(Gc x y=true↔x=y)
 | .int a,y,_=>by
  cases y with|int b=>exact⟨λh=>C0 AV.int (N0 h),λh=>Y2 (AV.int.inj h)⟩|_=>exact⟨λh=>Lf h,λh=>AV.noConfusion h⟩
 | .str a,y,_=>by
  cases y with|str b=>exact⟨λh=>C0 AV.str (N0 h),λh=>Y2 (AV.str.inj h)⟩|_=>exact⟨λh=>Lf h,λh=>AV.noConfusion h⟩
 | .tup xs,y,h=>by
  cases y with|tup ys=>exact(tj xs ys h).trans ⟨C0 AV.tup,AV.tup.inj⟩|_=>exact⟨λh=>Lf h,λh=>AV.noConfusion h⟩
 | .none,_,h=>Lf h| .bool _,_,h=>Lf h| .ba _,_,h=>Lf h| .rc _ _,_,h=>Lf h| .Wc _,_,h=>Lf h| .node _ _ _ _ _ _,_,h=>Lf h| .Gk _ _,_,h=>Lf h| .qn _,_,h=>Lf h| .ref _,_,h=>Lf h
theorem tj:∀(xs ys:List AV),Kd xs=true->(Dl xs ys=true↔xs=ys)
 |[],ys,_=>by
  induction ys with|nil=>exact⟨λ_=>rfl,λ_=>rfl⟩|cons y ys=>exact⟨λh=>Lf h,λh=>(z4 _ _ h.symm).elim⟩
 |x::xs,ys,h=>by
  induction ys with|nil=>exact⟨λh=>Lf h,λh=>(z4 _ _ h).elim⟩|cons y ys=>show(Gc x y&&Dl xs ys)=true↔_;rw[M0,rf x y (zx h),tj xs ys (Am h),List.cons.injEq]
end
mutual
theorem Hq:∀{x:AV}{v:Value}{A:Around}{E:Value->Shared->Prop}{s:Shared}{Q:Int->Shared->Prop},A.units+Ys x<cLine->KV s.heap x v->Q (oB w x) {s with toks:=s.toks+Yv x}->wpAny (model prog w) A (pyHash v) Q E s
 | .int i,v,A,E,s,Q,hu,hk,hq=>by
  refine kE hk λt ez=>?_;subst ez;exact wpAny_pyHash_int hq
 | .str x,v,A,E,s,Q,hu,hk,hq=>by
  refine kE hk λt ez=>?_;subst ez;exact wpAny_pyHash_str hq
 | .tup xs,v,A,E,s,Q,hu,hk,hq=>by
  refine Qa hk λa vs n ez tz=>?_;subst ez;refine kA tz λho hs=>?_;have hT:s.TypeIs (.ref a) "tuple":=(Na _ ho rfl);unfold pyHash
  first|unfold pyHashByItsType|skip
  replace hu:A.units+(be xs+1)<cLine:=hu
  first|refine E0 (wpAny_cRoomFor_or (.inr (Fb [_,_] 392211659861542446195610807068673 tO hu)) ?_)|skip
  refine E0 (wpAny_specialOf hT F.slot_tuple_hash.lookup ?_);show wpAny _ _ (if(some (Value.builtin "tuple.__hash__")==some Value.none)=true then _ else _) Q E s;rw[Y0 (by rw[beq_builtin_none];exact Q2)];refine E0 (wpAny_specialOf hT F.slot_tuple_hash.lookup ?_);show wpAny _ _ (callSpecialIfBoundUnlessNone? (.ref a) "__hash__" _>>=_) Q E s;refine E0 (wpAny_callSpecialIfBoundUnlessNone?_slot hT F.slot_tuple_hash (wpAny_call_entry F.slot_tuple_hash hT F.entry_tuple_hash ?_ (F.args_tuple_hash_1 _)));show wpAny _ _ (Builtin.Tuple.tupleItemsOf (.ref a)>>=_) _ _ s;refine E0 (wpAny_tupleItemsOf ho rfl ?_);refine E0 ?_;rw[<-Array.forIn_toList];refine Cr _ (λx b=>rfl) xs vs #[] (by rw[Around.in1_units];exact Fb [_,_] 13160439470431255425984281524252007490305 tO hu) hs ?_;show wpAny _ _ (retInt (Builtin.Tuple.tupleHashOf (#[]++(Fd w xs).toArray).toList)) _ _ _;have e:(#[]++(Fd w xs).toArray).toList=Fd w xs:=by simp
  rw[e];refine wpAny_ret_mkInt ?_;show wpAny _ _ (if(decide (-(2:Int)^63<=Builtin.Tuple.tupleHashOf (Fd w xs))&&decide (Builtin.Tuple.tupleHashOf (Fd w xs)<2^63))=true then _ else _) Q E _;replace hq:Q (reduceHash (Builtin.Tuple.tupleHashOf (Fd w xs))) {s with toks:=s.toks+(El xs+1)}:=hq;rw[reduceHash]at hq;by_cases hr:(decide (-(2:Int)^63<=Builtin.Tuple.tupleHashOf (Fd w xs))&&decide (Builtin.Tuple.tupleHashOf (Fd w xs)<2^63))=true
  ·rw[X0 hr];rw[X0 hr]at hq;exact A2 ((Nat.add_assoc _ _ _).symm▸hq)
  ·rw[Y0 hr];rw[Y0 hr]at hq;exact E0 (wpAny_rule (A2 ((Nat.add_assoc _ _ _).symm▸hq)))
 | .none,_,_,_,_,_,_,hx,_=>hx.elim| .bool _,_,_,_,_,_,_,hx,_=>hx.elim| .ba _,_,_,_,_,_,_,hx,_=>hx.elim| .rc _ _,_,_,_,_,_,_,hx,_=>hx.elim| .Wc _,_,_,_,_,_,_,hx,_=>hx.elim| .node _ _ _ _ _ _,_,_,_,_,_,_,hx,_=>hx.elim| .Gk _ _,_,_,_,_,_,_,hx,_=>hx.elim| .qn _,_,_,_,_,_,_,hx,_=>hx.elim| .ref _,_,_,_,_,_,_,hx,_=>hx.elim
theorem Cr{A:Around}{E:Value->Shared->Prop}{s:Shared}{Q:Array Int->Shared->Prop}(f:Value->Array Int->Sem (ForInStep (Array Int)))(hf:∀x b,f x b=(do let i<-pyHash x;pure (.yield (b.push i)))):∀(xs:List AV)(vs:List Value)(b:Array Int),A.units+be xs<cLine->Ul s.heap xs vs->(Q (b++(Fd w xs).toArray) {s with toks:=s.toks+El xs})->wpAny (model prog w) A (forIn vs b f) Q E s
 |[],vs,b,hu,hk,hq=>by
  rcases hk with⟨⟩;rw[List.forIn_nil];refine A2 ?_;exact(show b++#[]=b from Array.append_empty)▸hq
 |x::xs,vs,b,hu,hk,hq=>by
  refine db hk λv r ez tz=>?_;subst ez;refine kA tz λh1 h2=>?_;replace hu:A.units+max (Ys x) (be xs)<cLine:=hu;rw[List.forIn_cons,hf];refine E0 (E0 (Hq (Jc [_,_,_] 2831159926618430910003690168227100455109377 tO hu (i5 _ _)) h1 (A2 ?_)));refine Cr (s:={s with toks:=s.toks+Yv x}) f hf xs r _ (Jc [_,_,_] 2831159926618430910003690168227100455109377 tO hu (Nat.le_max_right _ _)) h2<|rr (show b.push (oB w x)++(Fd w xs).toArray=b++(Fd w (x::xs)).toArray from Array.ext' (by rw[Array.toList_append,Array.toList_append,Array.toList_push,A3];rfl)) ?_;exact(show s.toks+Yv x+El xs=s.toks+El (x::xs)from Nat.add_assoc _ _ _)▸hq
end
end
variable{A:Around}{E:Value->Shared->Prop}{s:Shared}
section
open PySem.Calls PySem.SeqAt
noncomputable def Nq(xs ys:List AV)(j:Nat):Bool:=(xs[j]?.bind λx=>ys[j]?.map (Gc x)).getD true
theorem Mq:∀xs ys:List AV,((List.range (min xs.length ys.length)).all (Nq xs ys)&&xs.length==ys.length)=Dl xs ys
 |[],[]=>rfl|[],y::ys=>rfl|x::xs,[]=>rfl|x::xs,y::ys=>by
  have ih:=Mq xs ys;show _=(Gc x y&&Dl xs ys);simp only[P2,<-ih];rw[show min (xs.length+1) (ys.length+1)=min xs.length ys.length+1 by lia,List.range_succ_eq_map,List.all_cons,List.all_map];have e1:Nq (x::xs) (y::ys) 0=Gc x y:=rfl;have e2:(Nq (x::xs) (y::ys)∘Nat.succ)=Nq xs ys:=rfl;rw[e1,e2,Bool.and_assoc];congr 1;simp
mutual
theorem OB:∀{x y:AV}{u v:Value}{A:Around},KV s.heap x u->KV s.heap y v->A.units+Ys x<cLine->EqAt A s u v (Gc x y)
 | .int a,y,u,v,A,hx,hy,hu=>by
  refine kE hx λt ez=>?_;clear hx;subst ez;cases y with|int b=>refine kE hy λt' ez=>?_;clear hy;subst ez;exact EqAt.int_int a t b t'|str b=>refine kE hy λt' ez=>?_;clear hy;subst ez;exact EqAt.int_str a t _ t'|tup ys=>refine Qa hy λa' vs n ez tz=>?_;clear hy;subst ez;refine kA tz λho hs=>?_;clear tz;exact EqAt.int_tuple a t (Cb _ ho rfl _ rfl) ‹_›|_=>exact hy.elim
 | .str a,y,u,v,A,hx,hy,hu=>by
  refine kE hx λt ez=>?_;clear hx;subst ez;cases y with
  |int b=>refine kE hy λt' ez=>?_;clear hy;subst ez;exact EqAt.str_int _ t b t'|str b=>
   refine kE hy λt' ez=>?_;clear hy;subst ez;have:=EqAt.str_str (A:=A) (s:=s) (Pa a) t (Pa b) t';have e:(Pa a==Pa b)=Gc (.str a) (.str b):=by show decide (Pa a=Pa b)=decide (a=b);exact decide_eq_decide.mpr ⟨Be,λe=>by rw[e]⟩
   rwa [e]at this
  |tup ys=>refine Qa hy λa' vs n ez tz=>?_;clear hy;subst ez;refine kA tz λho hs=>?_;clear tz;exact EqAt.str_tuple _ t (Cb _ ho rfl _ rfl) ‹_›|_=>exact hy.elim
 | .tup xs,y,u,v,A,hx,hy,hu=>by
  refine Qa hx λa vs n ez tz=>?_;clear hx;subst ez;refine kA tz λho hs=>?_;clear tz;replace hu:A.units+(be xs+1)<cLine:=hu;have hl:s.heap.IsTuple a vs.toArray:=(Cb _ ho rfl _ rfl);have hA:A.units<cLine:=D4 (Q1 _ _) hu;cases y with
  |int b=>refine kE hy λt' ez=>?_;clear hy;subst ez;exact EqAt.tuple_int b t' hl hA|str b=>refine kE hy λt' ez=>?_;clear hy;subst ez;exact EqAt.tuple_str _ t' hl hA|tup ys=>
   refine Qa hy λa' vs' n' ez tz=>?_;clear hy;subst ez;refine kA tz λWg yr=>?_;clear tz;have gy:s.heap.IsTuple a' vs'.toArray:=(Cb _ Wg rfl _ rfl);by_cases pg:a=a'
   ·clear gy;subst pg;rw[ho]at Wg;injection Wg with Wg
    injection Wg with _ _ hd _
    injection hd with hd _
    have:vs=vs':=by simpa using hd
    clear hd;subst this;have e:=Ul.inj hs yr;clear yr;subst e;have:Gc (.tup xs) (.tup xs)=true:=(tj xs xs (Ul.key hs)).mpr rfl;exact rr this<|EqAt.same _
   ·refine EqAt.of_refs pg ?_;have z:=RcAt.tuples (e:=Nq xs ys) hl gy hA (λj h1 h2=>Ow (A:=A.in1) hs yr (by rw[Around.in1_units];exact Fb [_,_] 13160439470431255425984281524252007490305 tO hu) j (by simpa using h1) (by simpa using h2));have e:=Mq xs ys;rw[Ul.length hs,Ul.length yr]at e;simp only[List.size_toArray]at z;rw[e]at z;exact z
  |_=>exact hy.elim
 | .none,_,_,_,_,hx,_,_=>hx.elim| .bool _,_,_,_,_,hx,_,_=>hx.elim| .ba _,_,_,_,_,hx,_,_=>hx.elim| .rc _ _,_,_,_,_,hx,_,_=>hx.elim| .Wc _,_,_,_,_,hx,_,_=>hx.elim| .node _ _ _ _ _ _,_,_,_,_,hx,_,_=>hx.elim| .Gk _ _,_,_,_,_,hx,_,_=>hx.elim| .qn _,_,_,_,_,hx,_,_=>hx.elim| .ref _,_,_,_,_,hx,_,_=>hx.elim
theorem Ow:∀{xs ys:List AV}{us vs:List Value}{A:Around},Ul s.heap xs us->Ul s.heap ys vs->A.units+be xs<cLine->∀j(h1:j<us.length)(h2:j<vs.length),EqAt A s us[j] vs[j] (Nq xs ys j)
 |[],_,_,_,_,hx,_,_,j,h1,_=>by rcases hx with⟨⟩;simp at h1
 |x::xs,[],_,_,_,hx,hy,_,j,_,h2=>by rcases hy with⟨⟩;simp at h2
 |x::xs,y::ys,_,_,A,hx,hy,hu,j,h1,h2=>by
  refine db hx λu us ez tz=>?_;clear hx;subst ez;refine kA tz λhx1 hx2=>?_;clear tz;refine db hy λv vs ez tz=>?_;clear hy;subst ez;refine kA tz λhy1 hy2=>?_;clear tz;replace hu:A.units+max (Ys x) (be xs)<cLine:=hu;induction j with|zero=>exact OB (A:=A) hx1 hy1 (D4 (Nat.add_le_add_left (i5 _ _) _) hu)|succ j=>exact Ow (A:=A) hx2 hy2 (D4 (Nat.add_le_add_left (Nat.le_max_right _ _) _) hu) j (R3 h1) (R3 h2)
end
mutual
theorem Dv:∀{x:AV}{v:Value}(n:Nat){Q:Bool->Shared->Prop},Ys x<=n->KV s.heap x v->Q true s->wpAny (model prog w) A (eqIsQuiet n v) Q E s
 | .int i,v,n,Q,hn,hk,hq=>by
  refine kE hk λt ez=>?_;clear hk;subst ez;exact rr (eqIsQuiet_byValue _ rfl)<|A2 hq
 | .str i,v,n,Q,hn,hk,hq=>by
  refine kE hk λt ez=>?_;clear hk;subst ez;exact rr (eqIsQuiet_byValue _ rfl)<|A2 hq
 | .tup xs,v,n,Q,hn,hk,hq=>by
  refine Qa hk λa vs m ez tz=>?_;clear hk;subst ez;refine kA tz λho hs=>?_;clear tz;replace hn:be xs+1<=n:=hn;induction n with|zero=>exact absurd ‹_› (Nat.not_succ_le_zero _)|succ n=>have hT:s.TypeIs (.ref a) "tuple":=(Na _ ho rfl);unfold eqIsQuiet;refine E0 (wpAny_specialOf hT F.slot_tuple_eq.lookup ?_);show wpAny _ _ (isInstance (.ref a) (.type "tuple")>>=_) _ _ s;refine E0 (wpAny_isInstance hT isSubtype_tuple_tuple ?_);simp only[Bool.not_true,Bool.false_eq_true,if_false];refine E0 (wpAny_seqItems ho rfl ?_);refine E0 ?_;show wpAny _ _ (forIn vs.toArray _ _) _ _ s;exact rq Array.forIn_toList<|Gq n xs vs ((Nat.le_sub_of_add_le ‹_›)) hs _ (λx b=>rfl)<|A2 hq
 | .none,_,_,_,_,hx,_=>hx.elim| .bool _,_,_,_,_,hx,_=>hx.elim| .ba _,_,_,_,_,hx,_=>hx.elim| .rc _ _,_,_,_,_,hx,_=>hx.elim| .Wc _,_,_,_,_,hx,_=>hx.elim| .node _ _ _ _ _ _,_,_,_,_,hx,_=>hx.elim| .Gk _ _,_,_,_,_,hx,_=>hx.elim| .qn _,_,_,_,_,hx,_=>hx.elim| .ref _,_,_,_,_,hx,_=>hx.elim
theorem Gq(n:Nat):∀(xs:List AV)(vs:List Value){Q:Option Bool×Unit->Shared->Prop},be xs<=n->Ul s.heap xs vs->∀(f:Value->Option Bool×Unit->Sem (ForInStep (Option Bool×Unit))),(∀x b,f x b=(do if(!(<-eqIsQuiet n x))=true then pure (.done (some false,()))else pure (.yield (none,()))))->Q (none,()) s->wpAny (model prog w) A (forIn vs (none,()) f) Q E s
 |[],vs,Q,hn,hk,f,hf,hq=>by
  rcases hk with⟨⟩;exact rr List.forIn_nil<|A2 hq
 |x::xs,vs,Q,hn,hk,f,hf,hq=>by
  refine db hk λv r ez tz=>?_;clear hk;subst ez;refine kA tz λh1 h2=>?_;clear tz;replace hn:max (Ys x) (be xs)<=n:=hn;rw[List.forIn_cons,hf];refine E0 (E0 (Dv n ((A0 (i5 _ _) ‹_›)) h1 ?_));simp only[Bool.not_true,Bool.false_eq_true,if_false];exact A2 (Gq n xs r ((A0 (Nat.le_max_right _ _) ‹_›)) h2 f hf hq)
end
open Classical in
noncomputable def Ig(prog:Program)(w:World):HeapKind prog w (List AV)where
 is:=λh ks a=>be ks<=7/\KV h (.tup ks) (.ref a)
 hash:=λks=>oB w (.tup ks)
 draws:=λks=>Yv (.tup ks)
 room:=λA=>A.units+10<cLine
 inj:=λhx hy=>AV.tup.inj (KV.inj hx.2 hy.2)
 keeps:=λ{h h' k a d o es ep} x ho hd hs=>⟨x.1,KV.keeps (λb o' items n hb _ qz=>by
  have pg:b≠d:=by rintro rfl;replace hb:=ho▸hb;have e:=z0 hb;clear hb;subst e;replace qz:=hd▸qz;cases qz
  exact(hs.2 b pg).trans hb) x.2⟩
 pyHash:=λ{A E s k a Q} hu hk hq=>Hq (D4 (Nat.add_le_add_left (A0 (J4 hk.1) (N0 rfl)) _) hu) hk.2 hq
 eqBool:=λ{A E s x y a b Q} hu hx hy hq=>by
  have z:=OB (A:=A) hx.2 hy.2 (D4 (Nat.add_le_add_left (A0 (J4 hx.1) (N0 rfl)) _) hu);refine z prog w E Q ?_;have e:Gc (.tup x) (.tup y)=decide (x=y):=by
   have k:=rf (.tup x) (.tup y) (KV.key hx.2);by_cases q:x=y
   ·exact rr (Y2 q)<|k.mpr (C0 AV.tup q)
   ·exact rr (D1 q)<|Bool.eq_false_iff.mpr λz=>q (AV.tup.inj (k.mp z))
  exact rr e hq
 quiet:=λ{A E s k a Q} hk hq=>Dv 8 (show Ys (.tup k)<=8 from J4 hk.1) hk.2 hq
end
variable{B h1 h2:Heap}{P:Value->Prop}{Q Q':AV->AH->Prop}{a:Addr}{av b:AV}{f:Int->Int->Option AV}{i tk:Nat}{m:Str->Option Value}{o:Obj}{o':AO}{p:Addr×Option Addr}{s' s0:Shared}{us:List Value}{v vb:Value}{x y:Int}{ys:List AV}{Z:AH}
section
open PySem.Calls
abbrev Io:=List (Addr×Option Addr)
noncomputable def uc(O:Io):List Addr:=O.flatMap λp=>p.1::p.2.toList
abbrev ie:=Addr->Prop
def Fz(bad:ie)(O:Io)(a:Addr):Prop:=¬bad a/\a∉uc O
noncomputable def Ee:List Str:=["kind","a","kids","flags","at","nid","tab","use","given","sure","lost","rows","index","decls","bounds","defaults","names","origins","renamed","shaping","putting",
 "put","row","owns","kills","join","sets","append","pop","extend","get","startswith"]
noncomputable def nm(n:Nat):Str:=Ee.getD n "?"
noncomputable abbrev aB:Addr:=38
inductive Um(h:Heap)(bad:ie)(O:Io)(X:Value->Prop)(Y:List Value->Prop)(k f t d:Int):Value->Prop
 |mk (a dx:Addr) (m:Str->Option Value) (va:Value) (l:Addr) (vs:List Value) (n:Nat) (tk tf tt td:Tok) (f1:Fz bad O a) (f2:Fz bad O dx) (f3:Fz bad O l) (h1:h.get? a=some (instObj aB dx)) (h2:h.Ns dx m)
   (m0:m (nm 0)=some (.int k tk)) (m1:m (nm 1)=some va) (hx:X va) (m2:m (nm 2)=some (.ref l)) (h3:h.get? l=some {cls:= .type "list",data:= .seq (List.toArray vs) n}) (hs:Y vs)
   (m3:m (nm 3)=some (.int f tf)) (m4:m (nm 4)=some (.int t tt)) (m5:m (nm 5)=some (.int d td)):Um h bad O X Y k f t d (.ref a)
theorem Um.k{bad:ie}{O:Io}{X:Value->Prop}{Y:List Value->Prop}{k f t d:Int}(z:Um h bad O X Y k f t d v)(g:∀a dx m va l vs n tk tf tt td,Fz bad O a->Fz bad O dx->Fz bad O l->h.get? a=some (instObj aB dx)->h.Ns dx m->m (nm 0)=some (.int k tk)->m (nm 1)=some va->X va->m (nm 2)=some (.ref l)->h.get? l=some {cls:= .type "list",data:= .seq (List.toArray vs) n}->Y vs->m (nm 3)=some (.int f tf)->m (nm 4)=some (.int t tt)->m (nm 5)=some (.int d td)->P (.ref a)):P v:=by
 induction z with|mk a dx m va l vs n tk tf tt td f1 f2 f3 h1 h2 m0 m1 hx m2 h3 hs m3 m4 m5=>exact g a dx m va l vs n tk tf tt td f1 f2 f3 h1 h2 m0 m1 hx m2 h3 hs m3 m4 m5
section
variable(prog:Program)(w:World)(h:Heap)(bad:ie)(O:Io)
mutual
def VR:AV->Value->Prop| .none,v=>v= .none| .bool b,v=>v= .bool b| .int i,v=>∃t,v= .int i t| .str s,v=>∃t,v= .str (Pa s) t| .tup xs,v=>∃a vs n,v= .ref a/\Fz bad O a/\h.get? a=some {cls:= .type "tuple",data:= .seq (List.toArray vs) n}/\ya xs vs| .ba xs,v=>∃a vs n,v= .ref a/\Fz bad O a/\h.get? a=some {cls:= .type "list",data:= .seq (List.toArray vs) n}/\ya xs vs| .rc ks xs,v=>∃a vs,v= .ref a/\a≠1/\Fz bad O a/\h.DictOf (strKind prog w) a ((ks.map Pa).zip vs)/\ya xs vs| .Wc kvs,v=>∃a vs,v= .ref a/\a≠1/\Fz bad O a/\h.DictOf (intKind prog w) a ((kvs.map (·.1)).zip vs)/\IntsAre vs (kvs.map (·.2))| .node k x ks f t d,v=>Um h bad O (VR x) (ya ks) k f t d v| .Gk lo hi,v=>∃a t1 t2 t3,v= .ref a/\Fz bad O a/\IsRange h a lo hi 1 t1 t2 t3| .qn xs,v=>False| .ref i,v=>∃p,O[i]? =some p/\v= .ref p.1
def ya:List AV->List Value->Prop|[],vs=>vs=[]|x::xs,vs=>∃v r,vs=v::r/\VR x v/\ya xs r
end
end
section
variable{bad bad':ie}{O O':Io}
structure Kp(h h':Heap)(bad bad':ie)(O O':Io):Prop where
 get:∀a o,Fz bad O a->h.get? a=some o->h'.get? a=some o
 fz:∀a o,Fz bad O a->h.get? a=some o->Fz bad' O' a
 ix:∀(i:Nat) p,O[i]? =some p->O'[i]? =some p
theorem Pg.kept{K:Type} [DecidableEq K]{knd:KeyKind prog w K}{kvs:List (K×Value)}(hd:h.DictOf knd a kvs)(k:∀o,h.get? a=some o->h'.get? a=some o):h'.DictOf knd a kvs:=
 let⟨o,es,ep,ho,r⟩:=hd;(ve o es ep (k _ ho) r)
theorem Ns.kept(hd:h.Ns a m)(k:∀o,h.get? a=some o->h'.get? a=some o):h'.Ns a m:=
 let⟨o,es,ep,ho,r⟩:=hd;(ve o es ep (k _ ho) r)
theorem Pg.at{K:Type} [DecidableEq K]{knd:KeyKind prog w K}{kvs:List (K×Value)}(hd:h.DictOf knd a kvs):∃o,h.get? a=some o:=let⟨o,_,_,ho,_⟩:=hd;⟨o,ho⟩
theorem Ns.at(hd:h.Ns a m):∃o,h.get? a=some o:=let⟨o,_,_,ho,_⟩:=hd;⟨o,ho⟩
mutual
theorem VR.keeps(k:Kp h h' bad bad' O O'):∀{x:AV}{v:Value},VR prog w h bad O x v->VR prog w h' bad' O' x v
 | .none,_,hx=>hx| .bool _,_,hx=>hx| .int _,_,hx=>hx| .str _,_,hx=>hx| .tup xs,v,hx=>by
  refine Qa hx λa vs n ez tz=>?_;subst ez;refine Mm tz λhf ho hs=>?_;exact(Ob a vs n rfl (k.fz _ _ hf ho) (k.get _ _ hf ho) (ya.keeps k hs))
 | .ba xs,v,hx=>by
  refine Qa hx λa vs n ez tz=>?_;subst ez;refine Mm tz λhf ho hs=>?_;exact(Ob a vs n rfl (k.fz _ _ hf ho) (k.get _ _ hf ho) (ya.keeps k hs))
 | .rc ks xs,v,hx=>by
  refine db hx λa vs ez tz=>?_;subst ez;refine wj tz λh1 hf hd hs=>?_;exact kE (Pg.at hd) λo ho=>(sd a vs rfl h1 (k.fz _ _ hf ho) (Pg.kept hd λo ho=>k.get _ _ hf ho) (ya.keeps k hs))
 | .Wc kvs,v,hx=>by
  refine db hx λa vs ez tz=>?_;subst ez;refine wj tz λh1 hf hd hs=>?_;exact kE (Pg.at hd) λo ho=>(sd a vs rfl h1 (k.fz _ _ hf ho) (Pg.kept hd λo ho=>k.get _ _ hf ho) hs)
 | .node _ x ks _ _ _,v,hx=>Um.k (P:=VR prog w h' bad' O' (.node _ x ks _ _ _)) hx λa dx m va l vs n tk tf tt td f1 f2 f3 h1 h2 m0 m1 tP m2 h3 hs m3 m4 m5=>kE (Ns.at h2) λo ho=>Um.mk a dx m va l vs n tk tf tt td (k.fz _ _ f1 h1) (k.fz _ _ f2 ho) (k.fz _ _ f3 h3) (k.get _ _ f1 h1) (Ns.kept h2 λo ho=>k.get _ _ f2 ho) m0 m1 (VR.keeps k tP) m2 (k.get _ _ f3 h3) (ya.keeps k hs) m3 m4 m5| .Gk _ _,v,hx=>by
  refine xb hx λa t1 t2 t3 ez tz=>?_;subst ez;refine kA tz λhf ho=>?_;exact(Vc a t1 t2 t3 rfl (k.fz _ _ hf ho) (k.get _ _ hf ho))
 | .qn _,_,hx=>hx| .ref i,v,hx=>by
  refine Xa hx λp hp ez=>?_;subst ez;exact(Na p (k.ix _ _ hp) rfl)
theorem ya.keeps(k:Kp h h' bad bad' O O'):∀{xs:List AV}{vs:List Value},ya prog w h bad O xs vs->ya prog w h' bad' O' xs vs
 |[],_,hx=>hx|x::xs,vs,hx=>by
  refine db hx λv r ez tz=>?_;subst ez;refine kA tz λh1 h2=>?_;exact(Wa v r rfl (VR.keeps k h1) (ya.keeps k h2))
end
mutual
theorem VR.key:∀{x:AV}{v:Value},VR prog w h bad O x v->Zf x=true->KV h x v
 | .int _,_,hx,_=>hx| .str _,_,hx,_=>hx| .tup xs,v,hx,hk=>by
  refine Qa hx λa vs n ez tz=>?_;subst ez;refine Mm tz λhf ho hs=>?_;exact(No a vs n rfl ho (ya.key hs hk))
 | .none,_,_,hk=>Lf hk| .bool _,_,_,hk=>Lf hk| .ba _,_,_,hk=>Lf hk| .rc _ _,_,_,hk=>Lf hk| .Wc _,_,_,hk=>Lf hk| .node _ _ _ _ _ _,_,_,hk=>Lf hk| .Gk _ _,_,_,hk=>Lf hk| .qn _,_,_,hk=>Lf hk| .ref _,_,_,hk=>Lf hk
theorem ya.key:∀{xs:List AV}{vs:List Value},ya prog w h bad O xs vs->Kd xs=true->Ul h xs vs
 |[],_,hx,_=>hx|x::xs,vs,hx,hk=>by
  refine db hx λv r ez tz=>?_;subst ez;refine kA tz λh1 h2=>?_;have hk:=(M0 _ _).mp hk;exact(Wa v r rfl (VR.key h1 hk.1) (ya.key h2 hk.2))
end
theorem ya.length:∀{xs:List AV}{vs:List Value},ya prog w h bad O xs vs->xs.length=vs.length:=by
 intro xs;induction xs with
 |nil=>intro vs hx;rcases hx with⟨⟩;rfl
 |cons x xs ih=>intro vs hx;refine db hx λv r ez tz=>?_;subst ez;refine kA tz λ_ h2=>?_;exact C0 Nat.succ (ih h2)
theorem ya.get:∀{xs:List AV}{vs:List Value},ya prog w h bad O xs vs->∀(i:Nat)(x:AV),xs[i]? =some x->∃v,vs[i]? =some v/\VR prog w h bad O x v:=by
 intro xs;induction xs with
 |nil=>intro vs hx i x e;exact ns e|cons y ys ih=>
  intro vs hx i x e;refine db hx λv r ez tz=>?_;subst ez;refine kA tz λh1 h2=>?_;induction i with|zero=>exact(Na v rfl (z0 e▸h1))|succ i=>exact ih h2 i x e
theorem ya.append:∀{xs ys:List AV}{vs us:List Value},ya prog w h bad O xs vs->ya prog w h bad O ys us->ya prog w h bad O (xs++ys) (vs++us):=by
 intro xs;induction xs with
 |nil=>intro ys vs us hx hy;rcases hx with⟨⟩;exact hy
 |cons x xs ih=>intro ys vs us hx hy;refine db hx λv r ez tz=>?_;subst ez;refine kA tz λh1 h2=>?_;exact(Wa v (r++us) rfl h1 (ih h2 hy))
theorem ya.take:∀{xs:List AV}{vs:List Value}(n:Nat),ya prog w h bad O xs vs->ya prog w h bad O (xs.take n) (vs.take n)
 |[],vs,n,hx=>by rcases hx with⟨⟩;refine rr List.take_nil<|rr List.take_nil ?_;rfl
 |x::xs,vs,0,hx=>rfl|x::xs,vs,n+1,hx=>by
  refine db hx λv r ez tz=>?_;subst ez;refine kA tz λh1 h2=>?_;exact(Wa v (r.take n) rfl h1 (ya.take n h2))
theorem ya.drop:∀{xs:List AV}{vs:List Value}(n:Nat),ya prog w h bad O xs vs->ya prog w h bad O (xs.drop n) (vs.drop n)
 |[],vs,n,hx=>by rcases hx with⟨⟩;refine rr List.drop_nil<|rr List.drop_nil ?_;rfl
 |x::xs,vs,0,hx=>hx|x::xs,vs,n+1,hx=>by
  refine db hx λv r ez tz=>?_;subst ez;refine kA tz λh1 h2=>?_;exact ya.drop n h2
theorem ya.set:∀{xs:List AV}{vs:List Value}(n:Nat){x:AV}{v:Value},ya prog w h bad O xs vs->VR prog w h bad O x v->ya prog w h bad O (xs.set n x) (vs.set n v)
 |[],vs,n,_,_,hx,_=>by rcases hx with⟨⟩;rfl
 |y::xs,vs,0,x,v,hx,hv=>by
  refine db hx λu r ez tz=>?_;subst ez;refine kA tz λh1 h2=>?_;exact(Wa v r rfl hv h2)
 |y::xs,vs,n+1,x,v,hx,hv=>by
  refine db hx λu r ez tz=>?_;subst ez;refine kA tz λh1 h2=>?_;exact(Wa u (r.set n v) rfl h1 (ya.set n h2 hv))
theorem ya.cons{x:AV}{xs:List AV}{vs:List Value}(h1:VR prog w h bad O x v)(h2:ya prog w h bad O xs vs):ya prog w h bad O (x::xs) (v::vs):=(Wa v vs rfl h1 h2)
theorem ya.nil:ya prog w h bad O [] []:=rfl
end
open Classical in
def OR(prog:Program)(w:World)(h:Heap)(bad:ie)(O:Io)(p:Addr×Option Addr):AO->Prop| .list xs=>p.2=none/\∃vs n,h.get? p.1=some {cls:= .type "list",data:= .seq (List.toArray vs) n}/\ya prog w h bad O xs vs| .Ea kvs=>p.2=none/\∃vs,h.DictOf (intKind prog w) p.1 ((kvs.map (·.1)).zip vs)/\ya prog w h bad O (kvs.map (·.2)) vs| .gb kvs=>p.2=none/\∃vs,h.DictOf (strKind prog w) p.1 ((kvs.map (Pa ·.1)).zip vs)/\ya prog w h bad O (kvs.map (·.2)) vs| .we kvs=>p.2=none/\∃xs,h.DictOfH (Ig prog w) p.1 xs/\kvs.map (·.1)=xs.map (λx=> .tup x.1)/\ya prog w h bad O (kvs.map (·.1)) (xs.map λx=> .ref x.2.1)/\ya prog w h bad O (kvs.map (·.2)) (xs.map (·.2.2))| .inst c fs=>∃d m,p.2=some d/\h.get? p.1=some (instObj c d)/\h.Ns1 d m/\(∀n a,Jb n fs=some a->∃v,m (nm n)=some v/\VR prog w h bad O a v)/\(∀s v,m s=some v->∃n a,Jb n fs=some a/\nm n=s)
theorem OR.keeps{bad bad':ie}{O O':Io}(k:Kp h h' bad bad' O O')(kp:∀o a,(a=p.1\/p.2=some a)->h.get? a=some o->h'.get? a=some o):∀{o:AO},OR prog w h bad O p o->OR prog w h' bad' O' p o
 | .list xs,hx=>by
  refine gk hx λe vs n ho hs=>?_;exact(ow e vs n (kp _ _ (.inl rfl) ho) (ya.keeps k hs))
 | .Ea kvs,hx=>by
  refine Eh hx λe vs hd hs=>?_;exact(Nm e vs (Pg.kept hd λo ho=>kp _ _ (.inl rfl) ho) (ya.keeps k hs))
 | .gb kvs,hx=>by
  refine Eh hx λe vs hd hs=>?_;exact(Nm e vs (Pg.kept hd λo ho=>kp _ _ (.inl rfl) ho) (ya.keeps k hs))
 | .we kvs,hx=>by
  refine vj hx λe xs hx hk bR gL=>pi hx λo es ep ho hc hd he hi hn=>(pt e xs (yi o es ep (kp _ _ (.inl rfl) ho) hc hd he (λx hx=>?_) hn) hk (ya.keeps k bR) (ya.keeps k gL));have i:=hi x hx;refine⟨i.1,?_⟩;refine kE (List.mem_iff_getElem?.mp hx) λj hj=>?_;have q:(kvs.map (·.1))[j]? =some (AV.tup x.1):=by refine rr hk<|rr P4<|rr hj ?_;rfl
  refine Xa (ya.get bR j _ q) λv hv hr=>?_;replace hv:=hj▸(P4▸hv);exact VR.key (VR.keeps k (z0 hv▸hr)) (KV.key i.2)
 | .inst c fs,hx=>by
  refine Dg hx λd m e ho hn h1 h2=>?_;refine(sd d m e (kp _ _ (.inl rfl) ho) (Heap.Ns1.at hn λo ho=>kp _ _ (.inr e) ho) (λn a ha=>?_) h2);exact Xa (h1 n a ha) λv hv hr=>(Na v hv (VR.keeps k hr))
structure SR(prog:Program)(w:World)(B:Heap)(bad:ie)(O:Io)(Z:AH)(h:Heap):Prop where
 len:O.length=Z.length
 obj:∀(i:Nat) p o,O[i]? =some p->Z[i]? =some o->OR prog w h bad O p o
 nodup:(uc O).Nodup
 off:∀a,a∈uc O->B.get? a=none/\¬bad a/\∃o,h.get? a=some o
 keep:∀a o,B.get? a=some o->h.get? a=some o
structure Zc(O O':Io)(h h':Heap):Prop where
 more:∃n,O'=O++n/\∀a,a∈uc n->h.get? a=none
 keep:∀a o,h.get? a=some o->a∉uc O->h'.get? a=some o
 live:∀a o,h.get? a=some o->∃o',h'.get? a=some o'
theorem Za(a b:Io):uc (a++b)=uc a++uc b:=List.flatMap_append
theorem FK(a:Addr)(z:a∈uc []):h.get? a=none:=absurd z y4
theorem Zc.vG(O:Io)(h:Heap):∃n,O=O++n/\∀a,a∈uc n->h.get? a=none:=Na [] (K2 _).symm FK
theorem Zc.refl{O:Io}:Zc O O h h:=⟨Zc.vG O h,λ_ _ e _=>e,λ_ o e=>⟨o,e⟩⟩
theorem Zc.trans{O O1 O2:Io}(x:Zc O O1 h h1)(y:Zc O1 O2 h1 h2):Zc O O2 h h2:=by
 refine Xa x.more λn ez hn=>?_;subst ez;refine Xa y.more λm ez hm=>?_;subst ez;refine⟨(Na (n++m) (A3 _ _ _) (λa ha=>?_)),λa o e hi=>?_,λa o e=>?_⟩
 ·rw[Za]at ha;rcases D2.mp ha with q|q
  ·exact hn a q
  ·exact Option.eq_none_iff_forall_ne_some.mpr λo e=>kE (x.live a o e) λo' e'=>ns ((hm a q).symm.trans e')
 ·refine y.keep a o (x.keep a o e hi) ?_;rw[Za];intro q;rcases D2.mp q with q|q
  ·exact hi q
  ·rw[hn a q]at e;exact ns e
 ·exact kE (x.live a o e) λo' e'=>y.live a o' e'
theorem Zc.of_keep{O:Io}(k:∀a o,h.get? a=some o->h'.get? a=some o):Zc O O h h':=
 ⟨Zc.vG O h,λa o e _=>k a o e,λa o e=>⟨o,k a o e⟩⟩
theorem Zc.kp{O O':Io}{bad:ie}(x:Zc O O' h h'):Kp h h' bad bad O O':=by
 refine Xa x.more λn ez hn=>?_;subst ez;refine⟨λa o hf e=>x.keep a o e hf.2,λa o hf e=>⟨hf.1,?_⟩,λi p e=>?_⟩
 ·rw[Za];intro q;rcases D2.mp q with q|q
  ·exact hf.2 q
  ·rw[hn a q]at e;exact ns e
 ·rw[C1 ((B0.mp e).1)];exact e
theorem Kp.of_keep{O:Io}{bad:ie}(k:∀a o,h.get? a=some o->h'.get? a=some o):Kp h h' bad bad O O:=(Zc.of_keep k).kp
section
variable{bad bad':ie}{O O':Io}
theorem zo(ha:a=p.1\/p.2=some a):a∈p.1::p.2.toList:=ha.elim (λh=>h▸ .head _) λh=> .tail _ (h▸J0.mpr rfl)
theorem ub(e:O[i]? =some p)(ha:a=p.1\/p.2=some a):a∈uc O:=k5.mpr (Na p (A4 e) (zo ha))
theorem Bm{O:Io}(hn:(uc O).Nodup):∀{i j:Nat}{p q:Addr×Option Addr},O[i]? =some p->O[j]? =some q->i≠j->∀a,(a=p.1\/p.2=some a)->¬(a=q.1\/q.2=some a):=by
 induction O with
 |nil=>intro i j p q e;exact ns e|cons r O ih=>
  replace hn:((r.1::r.2.toList)++uc O).Nodup:=hn;rw[List.nodup_append]at hn;intro i j p q ei ej pg a ha hb;cases i with
  |zero=>
   cases j with|zero=>exact pg rfl|succ j=>exact hn.2.2 a (zo (z0 ei▸ha)) a (ub (i:=j) (O:=O) ej hb) rfl
  |succ i=>
   cases j with|zero=>exact hn.2.2 a (zo (z0 ej▸hb)) a (ub (i:=i) (O:=O) ei ha) rfl|succ j=>exact ih hn.2.1 ei ej (λz=>pg (C0 Nat.succ z)) a ha hb
theorem SR.ext(S:SR prog w B bad O Z h)(k:∀a o,h.get? a=some o->h'.get? a=some o):SR prog w B bad O Z h':=
 ⟨S.len,λi p o e1 e2=>(S.obj i p o e1 e2).keeps (Kp.of_keep k) λo a _ e=>k a o e,S.nodup,λa ha=>let⟨x,y,o,z⟩:=S.off a ha;(pD x y o (k a o z)),λa o e=>k a o (S.keep a o e)⟩
theorem SR.at(S:SR prog w B bad O Z h){o:AO}(e:Z[i]? =some o):∃p,O[i]? =some p/\OR prog w h bad O p o:=by
 have hl:i<O.length:=by rw[S.len];exact(B0.mp e).1
 exact(Na (O[i]) (z3 hl) (S.obj i _ o (z3 hl) e))
theorem SR.upd(S:SR prog w B bad O Z h)(e:O[i]? =some p)(k:∀a o,a≠p.1->p.2≠some a->h.get? a=some o->h'.get? a=some o)(l:∀a o,h.get? a=some o->∃o',h'.get? a=some o')(n:OR prog w h' bad O p o'):SR prog w B bad O (Z.set i o') h':=by
 have kp:Kp h h' bad bad O O:=⟨λa o hf ea=>k a o (λq=>hf.2 (ub e (.inl q))) (λq=>hf.2 (ub e (.inr q))) ea,λ_ _ hf _=>hf,λ_ _ q=>q⟩;refine⟨by rw[T3];exact S.len,λj q o ej eo=>?_,S.nodup,λa ha=>?_,λa o ea=>?_⟩
 ·by_cases hij:i=j
  ·subst hij;rw[e]at ej;have e:=z0 ej;clear ej;subst e;have hl:i<Z.length:=by rw[<-S.len];exact(B0.mp e).1
   rw[E3 hl]at eo;have e:=z0 eo;clear eo;subst e;exact n
  ·rw[W0 hij]at eo;refine(S.obj j q o ej eo).keeps kp λo a ha ea=>?_;have ap:=Bm S.nodup ej e (i4 hij) a ha;exact k a o (λz=>ap (.inl z)) (λz=>ap (.inr z)) ea
 ·exact bw (S.off a ha) λx y o z=>kE (l a o z) λo' z'=>(pD x y o' z')
 ·have hB:∀b,(b=p.1\/p.2=some b)->B.get? b=none:=λb hb=>(S.off b (ub e hb)).1;refine k a o (λq=>?_) (λq=>?_) (S.keep a o ea)
  ·rw[hB a (.inl q)]at ea;exact ns ea
  ·rw[hB a (.inr q)]at ea;exact ns ea
theorem Zc.upd(e:O[i]? =some p)(k:∀a o,a≠p.1->p.2≠some a->h.get? a=some o->h'.get? a=some o)(l:∀a o,h.get? a=some o->∃o',h'.get? a=some o'):Zc O O h h':=
 ⟨Zc.vG O h,λa o ea hi=>k a o (λq=>hi (ub e (.inl q))) (λq=>hi (ub e (.inr q))) ea,l⟩
theorem SR.new(S:SR prog w B bad O Z h)(k:∀a o,h.get? a=some o->h'.get? a=some o)(f1:∀a,(a=p.1\/p.2=some a)->h.get? a=none/\∃o,h'.get? a=some o)(ne:p.2≠some p.1)(hb:∀a,(a=p.1\/p.2=some a)->¬bad a)(n:OR prog w h' bad (O++[p]) p o'):SR prog w B bad (O++[p]) (Z++[o']) h'/\Zc O (O++[p]) h h':=by
 have ha:∀a,a∈uc [p]↔(a=p.1\/p.2=some a):=by
  intro a;induction p with
  |mk x y=>induction y with
   |none=>exact⟨λz=> .inl (J0.mp z),λz=>z.elim (λz=>J0.mpr z) ns⟩|some y=>exact⟨λz=>(K1.mp z).elim .inl λz=> .inr (C0 some (J0.mp z).symm),λz=>K1.mpr (z.elim .inl λz=> .inr (J0.mpr (z0 z).symm))⟩
 have E:Zc O (O++[p]) h h':=⟨(Na [p] rfl (λa q=>(f1 a ((ha a).mp q)).1)),λa o e _=>k a o e,λa o e=>⟨o,k a o e⟩⟩;refine⟨⟨by rw[A1,A1,S.len];rfl,λi q o e1 e2=>?_,?_,λa q=>?_,λa o e=>k a o (S.keep a o e)⟩,E⟩
 ·by_cases hi:i<O.length
  ·rw[C1 hi]at e1;rw[C1 (by rw[<-S.len];exact hi)]at e2;exact(S.obj i q o e1 e2).keeps E.kp λo a _ e=>k a o e
  ·have kH:i=O.length:=by have:=(B0.mp e1).1;rw[A1]at this;exact o4 (Nat.le_of_lt_succ this) (Nat.le_of_not_lt hi)
   rw[kH,List.getElem?_concat_length]at e1;rw[kH,S.len,List.getElem?_concat_length]at e2;exact z0 e1▸z0 e2▸n
 ·rw[Za,List.nodup_append];refine(sf S.nodup ?_ (λa h1 b h2 e=>?_))
  ·induction p with
   |mk x y=>induction y with
    |none=>exact P3.mpr ⟨y4,List.nodup_nil⟩|some y=>exact P3.mpr ⟨λz=>ne (C0 some (J0.mp z).symm),P3.mpr ⟨y4,List.nodup_nil⟩⟩
  ·subst e;refine bw (S.off a h1) λ_ _ o z=>?_;rw[(f1 a ((ha a).mp h2)).1]at z;exact ns z
 ·rw[Za]at q;rcases D2.mp q with q|q
  ·exact bw (S.off a q) λx y o z=>(pD x y o (k a o z))
  ·have q':=(ha a).mp q;refine(sf ?_ (hb a q') ((f1 a q').2));exact Option.eq_none_iff_forall_ne_some.mpr λo e=>ns ((f1 a q').1.symm.trans (S.keep a o e))
theorem SR.ZA(S:SR prog w B bad O Z h)(hb:∀a,bad' a->bad a\/h.get? a=none):SR prog w B bad' O Z h:=by have kp:Kp h h bad bad' O O:=⟨λ_ _ _ e=>e,λa o hf e=>⟨λq=>(hb a q).elim hf.1 (λz=>by rw[z]at e;exact ns e),hf.2⟩,λ_ _ q=>q⟩;exact⟨S.len,λi p o e1 e2=>(S.obj i p o e1 e2).keeps kp λo a _ e=>e,S.nodup,λa ha=>let⟨x,y,o,z⟩:=S.off a ha;(pD x (λq=>(hb a q).elim y (λz'=>by rw[z']at z;exact ns z)) o z),S.keep⟩
theorem Kp.ZA(hb:∀a,bad' a->bad a\/h.get? a=none):Kp h h bad bad' O O:=
 ⟨λ_ _ _ e=>e,λa o hf e=>⟨λq=>(hb a q).elim hf.1 (λz=>by rw[z]at e;exact ns e),hf.2⟩,λ_ _ q=>q⟩
end
inductive aa(prog:Program)(w:World)(B:Heap)(bad:ie)(O:Io)(s:Shared)(Q:AV->AH->Prop)(v:Value)(s':Shared):Prop|mk (av:AV) (Z':AH) (O':Io) (h':Heap) (tk:Nat) (e:s'={s with heap:=h',toks:=tk}) (x:Zc O O' s.heap h') (S:SR prog w B bad O' Z' h') (r:VR prog w h' bad O' av v) (q:Q av Z')
def qb:Value->Shared->Prop:=λ_ _=>False
section
variable{bad:ie}{O:Io}
theorem aa.now(S:SR prog w B bad O Z s.heap)(r:VR prog w s.heap bad O av v)(q:Q av Z):aa prog w B bad O s Q v {s with toks:=tk}:=
 ⟨av,Z,O,s.heap,tk,rfl,Zc.refl,S,r,q⟩
theorem aa.here(S:SR prog w B bad O Z s.heap)(r:VR prog w s.heap bad O av v)(q:Q av Z):aa prog w B bad O s Q v s:=
 ⟨av,Z,O,s.heap,s.toks,rfl,Zc.refl,S,r,q⟩
theorem aa.push(S:SR prog w B bad O Z s.heap)(r:VR prog w (s.heap.push o) bad O av (.ref s.heap.objs.size))(q:Q av Z):aa prog w B bad O s Q (.ref s.heap.objs.size) {s with heap:=s.heap.push o,toks:=tk}:=
 ⟨av,Z,O,_,tk,rfl,Zc.of_keep λ_ _ e=>J1 _ e,S.ext λ_ _ e=>J1 _ e,r,q⟩
theorem aa.trans{O1:Io}(x:Zc O O1 s.heap h1)(y:aa prog w B bad O1 {s with heap:=h1,toks:=tk} Q v s'):aa prog w B bad O s Q v s':=by obtain⟨av,Z',O',h',yC,rfl,e,S,r,q⟩:=y;exact⟨av,Z',O',h',yC,rfl,x.trans e,S,r,q⟩
theorem aa.mono(y:aa prog w B bad O s Q v s')(hq:∀a Z,Q a Z->Q' a Z):aa prog w B bad O s Q' v s':=by obtain⟨av,Z',O',h',yC,e0,e,S,r,q⟩:=y;exact⟨av,Z',O',h',yC,e0,e,S,r,hq _ _ q⟩
theorem aa.bind{t:Sem Value}{P:Value->Shared->Prop}(h:wpAny (model prog w) A t (aa prog w B bad O s Q) E s0)(k:∀av v Z' O' h' tk,Zc O O' s.heap h'->SR prog w B bad O' Z' h'->VR prog w h' bad O' av v->Q av Z'->P v {s with heap:=h',toks:=tk}):wpAny (model prog w) A t P E s0:=
 C2 h (λv s' z=>match s',z with|_,⟨av,Z',O',h',tk,rfl,x,S,r,q⟩=>k av v Z' O' h' tk x S r q) λ_ _ z=>z
theorem Di(S:SR prog w B bad O Z s.heap)(hb:∀a,bad a->∃o,s.heap.get? a=some o):Fz bad O s.heap.objs.size:=⟨λq=>kE (hb _ q) λo e=>absurd (o5 e) (Nat.lt_irrefl _),λq=>bw (S.off _ q) λ_ _ o e=>absurd (o5 e) (Nat.lt_irrefl _)⟩
theorem Nc(h:Heap):h.get? h.objs.size=none:=Option.eq_none_iff_forall_ne_some.mpr λo e=>absurd (o5 e) (Nat.lt_irrefl _)
end
noncomputable def yO(o:Nat):Operator:=fo .RShift [.Add,.Sub,.Mult,.FloorDiv,.Mod,.BitAnd,.BitOr,.RShift] o
theorem Lz:Ab<=sizeLine:=by refine rr sizeLine_eq ?_;decide
theorem Ac(s:List Nat):(Pa s).length=s.length:=by simp[Pa,Str.length]
theorem Ks(a b:List Nat):Pa a++Pa b=Pa (a++b):=by show Str.mk _=Str.mk _;simp[Pa]
section
variable{bad:ie}{O:Io}
theorem VR.I(i:Int)(t:Tok):VR prog w h bad O (.int i) (.int i t):=⟨t,rfl⟩
theorem VR.S(x:List Nat)(t:Tok):VR prog w h bad O (.str x) (.str (Pa x) t):=⟨t,rfl⟩
theorem VR.Bo(b:Bool):VR prog w h bad O (.bool b) (.bool b):=rfl
theorem VR.N:VR prog w h bad O .none .none:=rfl
theorem Jz(h:y.natAbs<=Ab):Builtin.Int.intBits y<=64:=by
 unfold Builtin.Int.intBits;split
 ·exact D0 _ _
 ·have:y.natAbs.log2<63:=by
   by_cases h0:y.natAbs=0
   ·refine rr h0 ?_;decide
   ·exact(Nat.log2_lt h0).mpr (by unfold Ab at h;exact D4 ‹_› (N0 rfl))
  exact A0 ‹_› (N0 rfl)
theorem FH(h:0<y):x.fdiv y=x/y:=Int.fdiv_eq_ediv_of_nonneg _ ((Int.le_of_lt ‹_›))
theorem DH(h:0<y):x.fmod y=x%y:=Int.fmod_eq_emod_of_nonneg _ ((Int.le_of_lt ‹_›))
theorem Es(k:Nat):(0:Int)<=2^k:=by
 have:=E4 (2^k)
 rwa [Int.natCast_pow]at this
theorem oK(h:0<=x):x.fdiv (2^y.toNat)=((x.toNat>>>y.toNat:Nat):Int):=by rw[Int.fdiv_eq_ediv_of_nonneg _ (Es _),Nat.shiftRight_eq_div_pow,Int.natCast_ediv,Int.toNat_of_nonneg h,Int.natCast_pow];rfl
theorem HF(h:0<=x)(hc:y>=((Builtin.Int.intBits x:Nat):Int)):(if x<0 then-1 else 0:Int)=((x.toNat>>>y.toNat:Nat):Int):=by
 refine rr (Y0 (by lia)) ?_;have:x.toNat>>>y.toNat=0:=by
  refine Nat.shiftRight_eq_zero _ _ ?_;by_cases h0:x.toNat=0
  ·exact rr h0<|Nat.two_pow_pos _
  ·refine(Nat.log2_lt h0).mp ?_;unfold Builtin.Int.intBits at hc;rw[Y0 (by simp;lia)]at hc;have:x.natAbs=x.toNat:=by lia
   replace hc:=this▸hc;lia
 refine rr this ?_;rfl
@[elab_as_elim] theorem VR.Od{a:AV}{i:Int}(r:VR prog w h bad O a v)(e:re a=some i)(k:∀t,P (.int i t)):P v:=by have e:=ot e;subst e;refine kE r λt ez=>?_;clear r;subst ez;exact k t
@[elab_as_elim] theorem VR.Tf{a:AV}{i:List Nat}(r:VR prog w h bad O a v)(e:nh a=some i)(k:∀t,P (.str (Pa i) t)):P v:=by have e:=zy e;subst e;refine kE r λt ez=>?_;clear r;subst ez;exact k t
@[elab_as_elim] theorem am{xs:List AV}(r:VR prog w h bad O (.tup xs) v)(k:∀p vs n,Fz bad O p->h.get? p=some {cls:= .type "tuple",data:= .seq (List.toArray vs) n}->ya prog w h bad O xs vs->P (.ref p)):P v:=by refine Qa r λp vs n ez tz=>?_;clear r;subst ez;refine Mm tz λf ho hv=>?_;clear tz;exact k p vs n f ho hv
@[elab_as_elim] theorem Qm{xs:List AV}(r:VR prog w h bad O (.ba xs) v)(k:∀p vs n,Fz bad O p->h.get? p=some {cls:= .type "list",data:= .seq (List.toArray vs) n}->ya prog w h bad O xs vs->P (.ref p)):P v:=by refine Qa r λp vs n ez tz=>?_;clear r;subst ez;refine Mm tz λf ho hv=>?_;clear tz;exact k p vs n f ho hv
@[elab_as_elim] theorem OS{a r:AV}{va:Value}{P:Value->Value->Prop}(e:Py f a b=some r)(ra:VR prog w h bad O a va)(rb:VR prog w h bad O b vb)(k:∀x y t u,f x y=some r->P (.int x t) (.int y u)):P va vb:=
 ga e λx ex e=>ga e λy ey e=>ra.Od (P:=λva=>P va vb) ex λt=>rb.Od ey λu=>k x y t u e
def Fk(prog:Program)(w:World)(B:Heap)(bad:ie)(O:Io)(Z:AH)(s:Shared)(A:Around)(E:Value->Shared->Prop)(Q:AV->AH->Prop)(a b r:AV)(va vb:Value)(f:AV->AV->Option AV)(op:Operator):Prop:=
 f a b=some r->VR prog w s.heap bad O a va->VR prog w s.heap bad O b vb->Q r Z->wpAny (model prog w) A (binaryOp op va vb) (aa prog w B bad O s Q) E s
variable{a r:AV}{va:Value}
theorem mj{op:Operator}(k:∀x y t u,f x y=some r->Q r Z->wpAny (model prog w) A (binaryOp op (.int x t) (.int y u)) (aa prog w B bad O s Q) E s):Fk prog w B bad O Z s A E Q a b r va vb (Py f) op:=
 λe ra rb q=>OS (P:=λva vb=>wpAny (model prog w) A (binaryOp op va vb) (aa prog w B bad O s Q) E s) e ra rb λx y t u e=>k x y t u e q
theorem Rd [Decidable c]{x r:AV}{G:Prop}(e:(if c then some x else none)=some r)(k:c->x=r->G):G:=Uc e λc e=>k c (z0 e)
theorem eB{xs:List AV}{vs:List Value}(S:SR prog w B bad O Z s.heap)(hv:ya prog w s.heap bad O xs vs)(hu:ya prog w s.heap bad O ys us):ya prog w (s.heap.push o) bad O (xs++ys) (vs++us):=
 ya.append (ya.keeps (Kp.of_keep λa o e=>J1 _ e) hv) (ya.keeps (Kp.of_keep λa o e=>J1 _ e) hu)
theorem Tn{xs:List AV}{vs:List Value}(hv:ya prog w h bad O xs vs)(hu:ya prog w h bad O ys us)(l:xs.length+ys.length<=Ab):vs.toArray.size+us.toArray.size<=sizeLine:=by simp only[List.size_toArray];exact rq (ya.length hv)<|rq (ya.length hu)<|A0 l Lz
theorem uG{xs:List AV}{vs:List Value}(hv:ya prog w h bad O xs vs)(hn:xs≠[]):¬vs.toArray.isEmpty=true:=λz=>hn (List.length_eq_zero_iff.mp ((ya.length hv).trans (by simpa using z)))
theorem KQ(S:SR prog w B bad O Z s.heap)(hb:∀a,bad a->∃o,s.heap.get? a=some o):Fk prog w B bad O Z s A E Q a b r va vb uN .Add:=λe ra rb q=>by
 have fz:=Di S hb;cases a with
 |int x=>refine ga e λy ey e=>?_;have e:=z0 e;subst e;exact VR.Od ra (rfl:re (.int x)=_) λt=>VR.Od rb ey λu=>PySem.AutoIntOps.add_0 (aa.now S (VR.I _ _) q)|str x=>
  refine ga e λy ey e=>Rd e λhz e=>?_;subst e;refine VR.Tf ra (rfl:nh (.str x)=_) λt=>VR.Tf rb ey λu=>?_
  ·refine add_str (λt' tk=>?_) (by rw[Ac,Ac];exact A0 hz Lz);rw[Ks];exact aa.now S (VR.S _ _) q
 |tup x=>
  exact ga e λy ey e=>Rd e λhz e=>by
   have ey:=Nk ey;subst e ey;exact am ra λp vs n f1 h1 r1=>am rb λp' us m f2 h2 r2=>
    PySem.P.add_tuple (items:=vs.toArray) (items2:=us.toArray) (n:=n) (n2:=m) h1 h2 (uG r1 hz.1) (uG r2 hz.2.1)
     (aa.push S (av:= .tup _) ((Ob _ (vs++us) 0 rfl fz (by rw[J2 _ rfl];simp) (eB S r1 r2))) q) (Tn r1 r2 hz.2.2)
 |ba x=>
  exact ga e λy ey e=>Rd e λhz e=>by
   have ey:=KB ey;subst e ey;exact Qm ra λp vs n f1 h1 r1=>Qm rb λp' us m f2 h2 r2=>
    PySem.P.add_list (items:=vs.toArray) (items2:=us.toArray) (n:=n) (n2:=m) h1 h2
     (aa.push S (av:= .ba _) ((Ob _ (vs++us) 0 rfl fz (by rw[J2 _ rfl];simp) (eB S r1 r2))) q) (Tn r1 r2 hz)
 |_=>exact ns e
theorem GO(S:SR prog w B bad O Z s.heap):Fk prog w B bad O Z s A E Q a b r va vb (Py λx y=>if x.natAbs<=Ab/\y.natAbs<=Ab then some (.int (x*y))else none) .Mult:=
 mj λx y t u e q=>Rd e λhz e=>by subst e;exact PySem.AutoIntOps.mul_0 (aa.now S (VR.I _ _) q) (IntMulOk.of_right (Jz hz.2))
theorem VP(S:SR prog w B bad O Z s.heap):Fk prog w B bad O Z s A E Q a b r va vb (Py λx y=>if 0<y/\y<=Ab/\0<=x/\x<=Ab then some (.int (x/y))else none) .FloorDiv:=
 mj λx y t u e q=>Rd e λhz e=>by
  subst e;refine PySem.AutoIntOps.floordiv_1 (by simp;lia) (by refine rr (PyProof.noPylong_small (by unfold Ab at hz;lia)) ?_;decide) ?_;exact rr (FH hz.1)<|aa.now S (VR.I _ _) q
theorem HO(S:SR prog w B bad O Z s.heap):Fk prog w B bad O Z s A E Q a b r va vb (Py λx y=>if 0<y then some (.int (x%y))else none) .Mod:=
 mj λx y t u e q=>Rd e λhz e=>by
  subst e;exact PySem.AutoIntOps.mod_1 (by simp;exact Int.ne_of_gt ‹_›)<|rr (DH hz)<|aa.now S (VR.I _ _) q
theorem HQ(S:SR prog w B bad O Z s.heap):Fk prog w B bad O Z s A E Q a b r va vb (Py λx y=>if 0<=x/\0<=y/\x<=Ab/\y<=Ab then some (.int ((x.toNat&&&y.toNat:Nat):Int))else none) .BitAnd:=
 mj λx y t u e q=>Rd e λhz e=>by
  subst e;exact and_int<|rr (bitAnd_pp hz.1 hz.2.1)<|aa.now S (VR.I _ _) q
theorem ES(S:SR prog w B bad O Z s.heap):Fk prog w B bad O Z s A E Q a b r va vb (Py λx y=>if 0<=x/\0<=y/\x<=Ab/\y<=Ab then some (.int (x+y-((x.toNat&&&y.toNat:Nat):Int)))else none) .BitOr:=
 mj λx y t u e q=>Rd e λhz e=>by
  subst e;refine or_int ?_;rw[bitOr_and,bitAnd_pp hz.1 hz.2.1];exact aa.now S (VR.I _ _) q
theorem gO(S:SR prog w B bad O Z s.heap):Fk prog w B bad O Z s A E Q a b r va vb (Py λx y=>if 0<=x/\0<=y/\x<=Ab/\y<=64 then some (.int ((x.toNat>>>y.toNat:Nat):Int))else none) .RShift:=
 mj λx y t u e q=>Rd e λhz e=>by
  subst e;by_cases hc:y>=((Builtin.Int.intBits x:Nat):Int)
  ·exact PySem.AutoIntOps.rshift_1 (by lia) hc<|rr (HF hz.1 hc)<|aa.now S (VR.I _ _) q
  ·exact PySem.AutoIntOps.rshift_2 (by lia) hc<|rr (oK hz.1)<|aa.now S (VR.I _ _) q
theorem HI{o:Nat}(e:wc Z o a b=some r)(S:SR prog w B bad O Z s.heap)(hb:∀a,bad a->∃o,s.heap.get? a=some o)(ra:VR prog w s.heap bad O a va)(rb:VR prog w s.heap bad O b vb)(q:Q r Z):wpAny (model prog w) A (binaryOp (yO o) va vb) (aa prog w B bad O s Q) E s:=
 Kv (P:=λf op=>Fk prog w B bad O Z s A E Q a b r va vb f op) (λe=>ns e) [_,_,_,_,_,_,_,_] [_,_,_,_,_,_,_,_] rfl
  ⟨KQ S hb,mj λx y t u e q=>by have e:=z0 e;subst e;exact PySem.AutoIntOps.sub_0 (aa.now S (VR.I _ _) q),GO S,VP S,HO S,HQ S,ES S,gO S,trivial⟩ o e ra rb q
end
end
variable{b:Bool}{u:Value}
section
open PySem.Calls PySem.SeqAt
open PySem.AutoSeq1 (wpAny_loadPart')
open PySem.MeetsSeq PySem.MeetsSeq2 PySem.MeetsSeq3 PySem.SeqRoads2
def EJ(A:Around)(s:Shared):List Value->List Value->Bool->Prop:=
 List.rec (λvs b=>b=vs.isEmpty) λu _ ih vs b=>vs.casesOn (b=false) λv vs=>(EqAt A s u v false/\b=false)\/(EqAt A s u v true/\ih vs b)
theorem EJ.end{vs:List Value}(h:EJ A s us vs b)(z:us.zip vs=[]):b=(us.length==vs.length):=by
 induction us with
 |nil=>induction vs with
  |nil=>exact h|cons v vs=>exact h
 |cons u us=>induction vs with
  |nil=>exact h|cons v vs=>exact(z4 _ _ z).elim
theorem EJ.go{p:Value×Value}{r:List (Value×Value)}{G:Prop}{vs:List Value}(h:EJ A s us vs b)(z:p::r=us.zip vs)(kf:EqAt A s p.1 p.2 false->b=false->G)(kt:∀UQ vs',EqAt A s p.1 p.2 true->EJ A s UQ vs' b->r=UQ.zip vs'->us.length=UQ.length+1->vs.length=vs'.length+1->G):G:=by
 induction us with
 |nil=>exact(z4 _ _ z).elim|cons u us=>induction vs with
  |nil=>exact(z4 _ _ z).elim|cons v vs=>have e1:p=(u,v):=List.head_eq_of_cons_eq z;subst e1;exact h.elim (λh=>kf h.1 h.2) λh=>kt us vs h.1 h.2 (List.tail_eq_of_cons_eq z) rfl rfl
theorem MN(l b:Addr)(xs ys:Array Value)(n n2:Nat)(dd dd2:Option Addr)(sl sl2:Array (Option Value))(r:Bool):Meets (Builtin.«tuple.__eq__» ⟨[.ref l,.ref b],[]⟩) (λA R s=>s.heap.get? l=some {cls:= .type "tuple",dict:=dd,data:= .seq xs n,slots:=sl}/\s.heap.get? b=some {cls:= .type "tuple",dict:=dd2,data:= .seq ys n2,slots:=sl2}/\EJ A.in1 s xs.toList ys.toList r/\R (.ok (.ret (.bool r))) s):=
 .of_wp λprog w A R s h=>by
  obtain⟨hp,g,d,tk,os⟩:=s;refine wj h λhl hb he h=>?_;have fS:=AutoSeq1.sub_tuple_tuple
  wp_walk using wpAny_loadPart' hl,wpAny_loadPart' hb,wpAny_forIn_list _ (λrest b s'=>b.1=none/\s'=⟨hp,g,d,tk,os⟩/\∃us vs,rest=us.zip vs/\EJ A.in1 s' us vs r/\(xs.size==ys.size)=(us.length==vs.length)) _
  case turn=>
   rintro⟨y,x⟩ rest b s' ⟨qz,rfl,us,vs,hz,hi,hT⟩;refine EJ.go hi hz (λh1 h2=>?_) λUQ vs' h1 h2 h3 h4 h5=>?_
   ·refine E0 (h1 prog w _ _ ?_);clear he hi;subst h2
    wp_walk
    exact(Na _ rfl (by simpa using h))
   ·refine E0 (h1 prog w _ _ ?_)
    wp_walk
    exact(BB rfl rfl UQ vs' h3 h2 (hT.trans (by rw[h4,h5,Bool.eq_iff_iff,beq_iff_eq,beq_iff_eq];exact Nat.succ_inj)))
  case fin=>
   rintro⟨b1,b2⟩ s' ⟨qz,rfl,us,vs,hz,hi,hT⟩;simp only at qz;subst qz;rw[hi.end hz.symm,<-hT]at h
   wp_walk
   exact(Na _ rfl (by simpa[Builtin.Tuple.tupleCompareSizes]using h))
  case h=>exact(BB rfl rfl xs.toList ys.toList rfl he rfl)
theorem MC{l b:Addr}{vs:List Value}{n2:Nat}{r:Bool}(hl:s.heap.get? l=some {cls:= .type "tuple",data:= .seq (List.toArray vs) n})(hb:s.heap.get? b=some {cls:= .type "tuple",data:= .seq (List.toArray us) n2})(hu:A.units<cLine)(he:EJ A.in1 s vs us r):RcAt A s (.ref l) (.ref b) r:=λprog w E Q h=>
 richCompare_meets_room (op:= .Eq) (Na _ hl rfl) (Na _ hb rfl) F.slot_tuple_eq F.entry_tuple_eq (F.args_tuple_eq_2 _ _) (MN l b _ _ n n2 _ _ _ _ r)
  (Kh hl hb he (And.intro (λz=>nomatch z) h)) hu
theorem EqAt.of_rc(hf:∀x t,u≠ .float x t)(hs:u=v->b=true)(h:RcAt A s u v b):EqAt A s u v b:=λprog w E Q hq=>by
 unfold eqBool;refine Y3<|wpAny_ite_split (λhab=>?_) (λ_=>?_)
 ·rw[hs (eq_of_beq hab)]at hq;exact E0 (wpAny_rule (A2 hq))
 ·induction u with|float x t=>exact absurd rfl (hf x t)|_=>exact E0 (h prog w E _ (wpAny_truthy_bool hq))
end
variable{D Ia d dx p:Addr}{K:Frag}{P:Value->Shared->Prop}{R:Bool->AH->Prop}{W:CP}{a hi vi x y:AV}{Ra all args as Qc DJ:List AV}{b body:List Stmt}{bad bad':ie}{cb:AV->Fr->AH->SQ->Prop}{cells:List (Str×Addr)}{Oc env:Env}{Qf:AH->Prop}{Oh pos sp:Pos}{SL Ld Ki:List Value}{e Ge it iter r2 slice t tg:PE}{eh el lvl m nc xl:Nat}{TH es De:List PE}{GL z:Bool}{f:AV->AV->Option Bool}{fd:FuncData}{fl:Fl}{fr Ub fr1 fr2:Fr}{fs:List (Nat×AV)}{g:Fr->AH->Prop}{h0:Heap}{items:Array Value}{kf:Str->Option NameKind}{ks:List Int}{l ls:List Addr}{name:Str}{xJ:List Str}{o:AO}{op RC:CmpOp}{ph pl:Option Int}{q:Option Value}{s1 s2:Shared}{scope:Scope}{ts:List (List Nat)}{vd vk:Value}{xA:Sem Value}{O O' O0 O1 O2:Io}{Z' Z1 Z2:AH}
section
open PySem.Calls PySem.SeqAt
inductive lu(prog:Program)(w:World)(h:Heap)(bad:ie)(O:Io):Sv->Value->Prop
 |none:lu prog w h bad O .none .none
 |bool (b:Bool):lu prog w h bad O (.bool b) (.bool b)
 |int (i:Int) (t:Tok):lu prog w h bad O (.int i) (.int i t)
 |str (x:List Nat) (t:Tok):lu prog w h bad O (.str x) (.str (Pa x) t)
 |tup (xs:List AV) (p:Addr) (vs:List Value) (n:Nat) (ho:h.get? p=some {cls:= .type "tuple",data:= .seq (List.toArray vs) n}) (hv:ya prog w h bad O xs vs):lu prog w h bad O (.tup xs) (.ref p)
 |lst (xs:List AV) (p:Addr) (vs:List Value) (n:Nat) (ho:h.get? p=some {cls:= .type "list",data:= .seq (List.toArray vs) n}) (hv:ya prog w h bad O xs vs):lu prog w h bad O (.lst xs) (.ref p)
theorem RY{k:Sv}(L:∀j xs,mB Z j=some xs->VR prog w h bad O (.ref j) v->lu prog w h bad O (.lst xs) v)(e:VN Z a=some k)(r:VR prog w h bad O a v):lu prog w h bad O k v:=by
 cases a with
 |none=>exact rq (z0 e)<|rr (r:v=_) .none
 |bool b=>exact rq (z0 e)<|rr (r:v=_)<| .bool b
 |int i=>refine kE r λt ez=>?_;clear r;clear L;subst ez;exact rq (z0 e)<| .int i t
 |str x=>refine kE r λt ez=>?_;clear r;clear L;subst ez;exact rq (z0 e)<| .str x t
 |tup xs=>exact rq (z0 e)<|am r λp vs n _ ho hv=> .tup xs p vs n ho hv
 |ba xs=>exact rq (z0 e)<|Qm r λp vs n _ ho hv=> .lst xs p vs n ho hv
 |ref j=>exact Fc e λxs e e2=>e2▸L j xs e r|_=>exact ns e
theorem Pn{k:Sv}(e:sv a=some k)(r:VR prog w h bad O a v):lu prog w h bad O k v:=
 RY (Z:=[]) (λj xs e=>ns e) e r
def OQ(prog:Program)(w:World)(h:Heap)(bad:ie)(O:Io)(a b:Sv):Prop:=
 a.by (b= .none) (λx=>b= .bool x) (λx=>b= .int x) (λx=>b= .str x) (λxs=>b.by False (λ_=>False) (λ_=>False) (λ_=>False) (λys=>∃vs,ya prog w h bad O xs vs/\ya prog w h bad O ys vs) λ_=>False)
  (λxs=>b.by False (λ_=>False) (λ_=>False) (λ_=>False) (λ_=>False) λys=>∃vs,ya prog w h bad O xs vs/\ya prog w h bad O ys vs)
theorem Tj{c c':Value}{vs:List Value}(a:h.get? p=some {cls:=c,data:= .seq (List.toArray vs) n})(b:h.get? p=some {cls:=c',data:= .seq (List.toArray us) m}):c=c'/\vs=us:=by
 have e:=z0 (a.symm.trans b);have e2:=C0 Obj.data e;injection e2 with e2
 exact⟨C0 Obj.cls e,by simpa using e2⟩
theorem IM{G:Prop}(h:Value.type "tuple"=Value.type "list"):G:=absurd h (N0 rfl)
theorem lu.same{a b:Sv}(ha:lu prog w h bad O a u)(hb:lu prog w h bad O b v)(e:u=v):OQ prog w h bad O a b:=by
 induction ha with
 |none=>induction hb with|none=>exact rfl|_=>exact Value.noConfusion e
 |bool x=>induction hb with|bool y=>injection e with e;subst e;exact rfl|_=>exact Value.noConfusion e
 |int x t=>induction hb with|int y u=>injection e with e;subst e;exact rfl|_=>exact Value.noConfusion e
 |str x t=>induction hb with|str y u=>injection e with e;have e:=Be e;subst e;exact rfl|_=>exact Value.noConfusion e
 |tup xs p vs n ho hv=>induction hb with
  |tup ys p' us m Wg Op=>injection e with e;subst e;have e:=(Tj ho Wg).2;clear Wg;subst e;exact(Na vs hv Op)
  |lst ys p' us m Wg Op=>injection e with e;subst e;exact IM (Tj ho Wg).1
  |_=>exact Value.noConfusion e
 |lst xs p vs n ho hv=>induction hb with
  |lst ys p' us m Wg Op=>injection e with e;subst e;have e:=(Tj ho Wg).2;clear Wg;subst e;exact(Na vs hv Op)
  |tup ys p' us m Wg Op=>injection e with e;subst e;exact IM (Tj ho Wg).1.symm
  |_=>exact Value.noConfusion e
theorem ya.getElem:∀{xs:List AV}{vs:List Value},ya prog w h bad O xs vs->∀j(h1:j<xs.length)(h2:j<vs.length),VR prog w h bad O xs[j] vs[j]:=by
 intro xs;induction xs with
 |nil=>exact λ_ j h1=>absurd h1 (Nat.not_lt_zero _)|cons x xs ih=>
  intro vs hx j h1 h2;refine db hx λv r ez tz=>?_;clear hx;subst ez;refine kA tz λa b=>?_;clear tz;induction j with|zero=>exact a|succ j=>exact ih b j (R3 h1) (R3 h2)
def Tz(prog:Program)(w:World)(h:Heap)(bad:ie)(O:Io)(f:AV->AV->Option Bool):Prop:=∀x y v r,VR prog w h bad O x v->VR prog w h bad O y v->f x y=some r->r=true
theorem xc{G:Prop}{xs:List AV}{vs:List Value}(r:ya prog w h bad O (x::xs) vs)(k:∀v q,vs=v::q->VR prog w h bad O x v->ya prog w h bad O xs q->G):G:=by refine Je r λv q e a b=>?_;clear r;exact k v q e a b
theorem pO(hf:Tz prog w h bad O f)(xs:List AV):∀{ys:List AV}{vs:List Value}{r:Bool},ya prog w h bad O xs vs->ya prog w h bad O ys vs->Fv f xs ys=some r->r=true:=by
 induction xs with
 |nil=>
  intro ys vs r a b e;have a:vs=[]:=a;subst a;induction ys with|nil=>exact(z0 e).symm|cons y ys=>exact xc b λ_ _ e _ _=>(z4 _ _ e.symm).elim
 |cons x xs ih=>
  intro ys vs r a b e;refine xc a λv q ev a1 a2=>?_;clear a;subst ev;induction ys with|nil=>exact(z4 _ _ (b:v::q=[])).elim|cons y ys=>refine xc b λv' q' ev b1 b2=>ga e λt et e=>?_;refine kA (List.cons.inj ev) λez tz=>?_;clear ev;subst ez;subst tz;replace e:=hf x y v t a1 b1 et▸e;exact ih a2 b2 e
theorem qO(hf:Tz prog w h bad O f)(xs:List AV):∀{ys:List AV}{vs:List Value}{r:Bool},ya prog w h bad O xs vs->ya prog w h bad O ys vs->Rg f xs ys=some r->r=true:=by
 induction xs with
 |nil=>intro ys vs r a b e;exact(z0 e).symm|cons x xs ih=>
  intro ys vs r a b e;refine xc a λv q ev a1 a2=>?_;clear a;subst ev;induction ys with|nil=>exact(z4 _ _ (b:v::q=[])).elim|cons y ys=>refine xc b λv' q' ev b1 b2=>ga e λt et e=>Fc e λt' IE e=>?_;refine kA (List.cons.inj ev) λez tz=>?_;clear ev;subst ez;subst tz;replace e:=ih a2 b2 IE▸(hf x y v t a1 b1 et▸e);exact e.symm
theorem ya.size{xs:List AV}{vs:List Value}(a:ya prog w h bad O xs vs)(b:ya prog w h bad O ys vs):xs.length=ys.length:=(ya.length a).trans (ya.length b).symm
theorem pN{p:Prop} [Decidable p]{r:Bool}(h:p)(e:some (decide p)=some r):r=true:=by replace e:=Y2 h▸e;exact(z0 e).symm
theorem vK(hf:Tz prog w h bad O f){a b:Sv}{r:Bool}(s:OQ prog w h bad O a b)(e:se f a b=some r):r=true:=by
 induction a with
 |none=>replace e:=(s:b=_)▸e;exact(z0 e).symm|bool x=>replace e:=(s:b=_)▸e;exact(z0 e).symm.trans (beq_self_eq_true x)|int x=>replace e:=(s:b=_)▸e;exact pN rfl e|str x=>replace e:=(s:b=_)▸e;exact pN rfl e|tup xs=>induction b with
  |tup ys=>refine Xa s λvs a b=>?_;clear s;exact pO hf xs a b e|_=>exact s.elim
 |lst xs=>induction b with
  |lst ys=>refine Xa s λvs a b=>?_;clear s;have e:(if xs.length=ys.length then Rg f xs ys else some false)=some r:=e;replace e:=X0 (ya.size a b)▸e;exact qO hf xs a b e|_=>exact s.elim
theorem Mw(hf:Tz prog w h bad O f):Tz prog w h bad O (oR f):=λx y v r a b e=>
 ga e λk ek e=>ga e λk' RL e=>vK hf ((Pn ek a).same (Pn RL b) rfl) e
theorem Zk:∀(n:Nat),Tz prog w h bad O (Of n)|0=>Mw λ_ _ _ _ _ _ e=>ns e|n+1=>Mw (Zk n)
def yM(prog:Program)(w:World)(s:Shared)(bad:ie)(O:Io)(n:Nat)(f:AV->AV->Option Bool):Prop:=
 ∀{A:Around}{x y:AV}{u v:Value}{r:Bool},VR prog w s.heap bad O x u->VR prog w s.heap bad O y v->A.units+n<cLine->f x y=some r->EqAt A s u v r
theorem RN(F:yM prog w s bad O n f)(hu:A.units+n<cLine)(xs:List AV):∀{ys:List AV}{us vs:List Value}{r:Bool},ya prog w s.heap bad O xs us->ya prog w s.heap bad O ys vs->Fv f xs ys=some r->EJ A s us vs r:=by
 induction xs with
 |nil=>
  intro ys us vs r a b e;have a:us=[]:=a;subst a;induction ys with|nil=>have b:vs=[]:=b;subst b;exact(z0 e).symm|cons y ys=>exact xc b λv q ev _ _=>by clear b;subst ev;exact(z0 e).symm
 |cons x xs ih=>
  intro ys us vs r a b e;refine xc a λu q ev a1 a2=>?_;clear a;subst ev;induction ys with
  |nil=>have b:vs=[]:=b;subst b;exact(z0 e).symm|cons y ys=>
   refine xc b λv' q' ev b1 b2=>ga e λt et e=>?_;clear b;subst ev;induction t with|false=>exact .inl ⟨F a1 b1 hu et,(z0 e).symm⟩|true=>exact .inr ⟨F a1 b1 hu et,ih a2 b2 e⟩
theorem YD(a:Bool)(e:Nat->Bool)(n:Nat):(List.range (n+1)).all (λj=>j.casesOn a e)=(a&&(List.range n).all e):=by refine rr List.range_succ_eq_map<|rr List.all_cons<|rr List.all_map ?_;rfl
theorem EG(F:yM prog w s bad O n f)(hu:A.units+n<cLine)(xs:List AV):∀{ys:List AV}{us vs:List Value}{r:Bool},xs.length=ys.length->ya prog w s.heap bad O xs us->ya prog w s.heap bad O ys vs->Rg f xs ys=some r->∃e:Nat->Bool,(List.range us.length).all e=r/\∀j(h1:j<us.length)(h2:j<vs.length),EqAt A s us[j] vs[j] (e j):=by
 induction xs with
 |nil=>intro ys us vs r l a b e;have a:us=[]:=a;subst a;exact(Na (λ_=>true) (z0 e) (λj h1=>absurd h1 (Nat.not_lt_zero _)))|cons x xs ih=>
  intro ys us vs r l a b e;refine xc a λu q ev a1 a2=>?_;clear a;subst ev;induction ys with
  |nil=>exact absurd l (Nat.succ_ne_zero _)|cons y ys=>
   refine xc b λv' q' ev b1 b2=>ga e λt et e=>Fc e λt' IE e=>?_;clear b;subst ev;refine Xa (ih (Nat.succ.inj l) a2 b2 IE) λg i1 i2=>(Na (λj=>j.casesOn t g) ((YD t g _).trans (rr i1 e)) (λj h1 h2=>?_));induction j with|zero=>exact F a1 b1 hu et|succ j=>exact i2 j (R3 h1) (R3 h2)
theorem VF{p q k:Nat}{xs:List AV}{vs:List Value}{r:Bool}(F:yM prog w s bad O n f)(hu:A.units+(n+1)<cLine)(h1:s.heap.get? p=some {cls:= .type "list",data:= .seq (List.toArray us) k})(h2:s.heap.get? q=some {cls:= .type "list",data:= .seq (List.toArray vs) m})(a:ya prog w s.heap bad O xs us)(b:ya prog w s.heap bad O ys vs)(e:Iq f xs ys=some r):RcAt A s (.ref p) (.ref q) r:=by
 have l1:=ya.length a;have l2:=ya.length b;have e:(if xs.length=ys.length then Rg f xs ys else some false)=some r:=e;by_cases hl:xs.length=ys.length
 ·rw[X0 hl]at e;refine Xa (EG F (A:=A.in1) (by rw[Around.in1_units];exact Fb [_,_] 13160439470431255425984281524252007490305 tO hu) xs hl a b e) λg i1 i2=>?_;have z:=RcAt.lists (A:=A) (s:=s) (l:=p) (b:=q) (items:=us.toArray) (items2:=vs.toArray) (e:=g) (Cb _ h1 rfl _ rfl) (Cb _ h2 rfl _ rfl) (show us.length=vs.length from(o4 (Lp [_,_,_,_] 1852352943545918039360512 tO l1 l2 hl) (Lp [_,_,_,_] 1852355177331616682935296 tO l1 l2 hl))) (Fb [_,_] 392211659861542446195610807068673 tO hu) i2;exact rq i1 z
 ·replace e:=Y0 hl▸e;exact rq (z0 e)<|RcAt.lists_lengths (items:=us.toArray) (items2:=vs.toArray) (Cb _ h1 rfl _ rfl) (Cb _ h2 rfl _ rfl) (bne_iff_ne.mpr (show us.length≠vs.length by lia)) (Fb [_,_] 392211659861542446195610807068673 tO hu)
theorem Uu(p q:List Nat):(Pa p==Pa q)=decide (p=q):=decide_eq_decide.mpr ⟨Be,λe=>by exact rr e rfl⟩
def LY(A:Around)(s:Shared)(f:AV->AV->Option Bool)(a b:Sv)(u v:Value):Prop:=∀r,se f a b=some r->RcAt A s u v r
theorem Dq{a b:Sv}{r:Bool}(h:RcAt A s u v r)(e:se f a b=some r):LY A s f a b u v:=λ_ e'=>z0 (e.symm.trans e')▸h
theorem WQ{a b:Sv}(e:se f a b=none):LY A s f a b u v:=λ_ e'=>ns (e.symm.trans e')
theorem MM(F:yM prog w s bad O n f){a b:Sv}(ha:lu prog w s.heap bad O a u)(hb:lu prog w s.heap bad O b v)(hu:A.units+(n+1)<cLine):LY A s f a b u v:=by
 have tp:∀{a vs n},s.heap.get? a=some {cls:= .type "tuple",data:= .seq (List.toArray vs) n}->s.heap.IsTuple a vs.toArray:=λho=>(Cb _ ho rfl _ rfl);have hc:A.units<cLine:=(Fb [_,_] 392211659861542446195610807068673 tO hu);induction ha with
 |none=>induction hb with
  |none=>exact Dq RcAt.none_none rfl|int y t=>exact Dq (RcAt.none_int _ _) rfl|str y t=>exact Dq (RcAt.none_str _ _) rfl|tup y p vs n ho hv=>exact Dq (RcAt.none_tuple (tp ho) hc) rfl|_=>exact WQ rfl
 |bool x=>induction hb with
  |bool y=>exact Dq (RcAt.bool_bool _ _) rfl|int y t=>exact Dq (RcAt.bool_int _ _ _) rfl|str y t=>exact Dq (RcAt.bool_str _ _ _) rfl|_=>exact WQ rfl
 |int x t=>induction hb with
  |none=>exact Dq (RcAt.int_none _ _) rfl|bool y=>exact Dq (RcAt.int_bool _ _ _) rfl|int y t=>exact Dq (RcAt.int_int _ _ _ _) rfl|str y t=>exact Dq (RcAt.int_str _ _ _ _) rfl|tup y p vs n ho hv=>exact Dq (RcAt.int_tuple _ _ (tp ho) hc) rfl|lst=>exact WQ rfl
 |str x t=>induction hb with
  |none=>exact Dq (RcAt.str_none _ _) rfl|bool y=>exact Dq (RcAt.str_bool _ _ _) rfl|int y t=>exact Dq (RcAt.str_int _ _ _ _) rfl|str y t=>exact Dq (RcAt.str_str _ _ _ _) (C0 some (Uu _ _).symm)|tup y p vs n ho hv=>exact Dq (RcAt.str_tuple _ _ (tp ho) hc) rfl|lst=>exact WQ rfl
 |tup x p vs n ho hv=>induction hb with
  |none=>exact Dq (RcAt.tuple_none (tp ho) hc) rfl|int y t=>exact Dq (RcAt.tuple_int _ _ (tp ho) hc) rfl|str y t=>exact Dq (RcAt.tuple_str _ _ (tp ho) hc) rfl|tup y q us m Wg Op=>exact λr e=>MC ho Wg hc (RN F (A:=A.in1) (by rw[Around.in1_units];exact Fb [_,_] 13160439470431255425984281524252007490305 tO hu) x hv Op e)|_=>exact WQ rfl
 |lst x p vs n ho hv=>induction hb with
  |lst y q us m Wg Op=>exact λr e=>VF F hu ho Wg hv Op e|_=>exact WQ rfl
theorem lu.HK{a:Sv}(ha:lu prog w s.heap bad O a u)(x:UInt64)(t:Tok):u≠ .float x t:=by induction ha with|_=>exact λe=>Value.noConfusion e
theorem NH(F:yM prog w s bad O n f)(R:Tz prog w s.heap bad O (oR f)):yM prog w s bad O (n+1) (oR f):=λa b hu e=>
 ga e λk ek e'=>ga e' λk' RL e'=>EqAt.of_rc (Pn ek a).HK (λz=>R _ _ _ _ a (z▸b) e) (MM F (Pn ek a) (Pn RL b) hu _ e')
theorem pn:∀(n:Nat),yM prog w s bad O (n+1) (Of n)|0=>NH (λ_ _ _ e=>ns e) (Zk 0)|n+1=>NH (pn n) (Zk (n+1))
noncomputable def nI(o:Nat):CmpOp:=fo .NotIn [.Eq,.NotEq,.Lt,.LtE,.Gt,.GtE,.Is,.IsNot,.In,.NotIn] o
@[elab_as_elim] theorem Wj{P:Value->Prop}(S:SR prog w B bad O Z h)(r:VR prog w h bad O (.ref j) v)(e:Z[j]? =some o)(k:∀p,O[j]? =some p->OR prog w h bad O p o->P (.ref p.1)):P v:=by refine Xa r λp hp ez=>?_;clear r;subst ez;exact Xa (S.at e) λp' dR ho=>rr (z0 (hp.symm.trans dR))<|k p' dR ho
@[elab_as_elim] theorem Uv{xs:List AV}{P:Value->Prop}(S:SR prog w B bad O Z h)(r:VR prog w h bad O (.ref j) v)(e:mB Z j=some xs)(k:∀p vs n,O[j]? =some p->p.2=none->h.get? p.1=some {cls:= .type "list",data:= .seq (List.toArray vs) n}->ya prog w h bad O xs vs->P (.ref p.1)):P v:=
 Wj S r (HG e) λp hp ⟨h2,vs,n,ho,hv⟩=>k p vs n hp h2 ho hv
@[elab_as_elim] theorem Dh{xs:List AV}{P:Value->Prop}(e:bk Z a=some xs)(S:SR prog w B bad O Z h)(r:VR prog w h bad O a v)(k:∀p vs n,h.get? p=some {cls:= .type "list",data:= .seq (List.toArray vs) n}->ya prog w h bad O xs vs->P (.ref p)):P v:=by
 cases a with|ba ys=>replace k:=(z0 e).symm▸k;exact Qm r λp vs n _ ho hv=>k p vs n ho hv|ref j=>exact Uv S r e λp vs n _ _ ho hv=>k p.1 vs n ho hv|_=>exact ns e
theorem mW(S:SR prog w B bad O Z s.heap){k:Sv}(e:VN Z a=some k)(r:VR prog w s.heap bad O a v):lu prog w s.heap bad O k v:=
 RY (λj xs e r=>Uv S r e λp vs n _ _ ho hv=> .lst xs p.1 vs n ho hv) e r
theorem PL{b:AV}{va:Value}{r:Bool}(e:eV Z a b=some r)(S:SR prog w B bad O Z s.heap)(ra:VR prog w s.heap bad O a va)(rb:VR prog w s.heap bad O b vb)(hu:A.units+10<cLine):RcAt A s va vb r:=
 ga e λk ek e=>ga e λk' RL e=>MM (pn 4) (mW S ek ra) (mW S RL rb) (Fb [_] 12550784255821089236426523631452929 tO hu) _ e
theorem tG{p q k:Nat}{xs:List AV}{vs:List Value}{r:Bool}(F:yM prog w s bad O n f)(hu:A.units+(n+1)<cLine)(h1:s.heap.get? p=some {cls:= .type "list",data:= .seq (List.toArray us) k})(h2:s.heap.get? q=some {cls:= .type "list",data:= .seq (List.toArray vs) m})(a:ya prog w s.heap bad O xs us)(b:ya prog w s.heap bad O ys vs)(e:Iq f xs ys=some r):RcNeAt A s (.ref p) (.ref q) !r:=by
 have l1:=ya.length a;have l2:=ya.length b;have e:(if xs.length=ys.length then Rg f xs ys else some false)=some r:=e;by_cases hl:xs.length=ys.length
 ·rw[X0 hl]at e;refine Xa (EG F (A:=A.in1) (by rw[Around.in1_units];exact Fb [_,_] 13160439470431255425984281524252007490305 tO hu) xs hl a b e) λg i1 i2=>?_;have z:=RcNeAt.lists (A:=A) (s:=s) (l:=p) (b:=q) (items:=us.toArray) (items2:=vs.toArray) (e:=g) (Cb _ h1 rfl _ rfl) (Cb _ h2 rfl _ rfl) (show us.length=vs.length from(o4 (Lp [_,_,_,_] 1852352943545918039360512 tO l1 l2 hl) (Lp [_,_,_,_] 1852355177331616682935296 tO l1 l2 hl))) (Fb [_,_] 392211659861542446195610807068673 tO hu) i2;exact rq i1 z
 ·replace e:=Y0 hl▸e;exact rq (z0 e)<|RcNeAt.lists_lengths (items:=us.toArray) (items2:=vs.toArray) (Cb _ h1 rfl _ rfl) (Cb _ h2 rfl _ rfl) (bne_iff_ne.mpr (show us.length≠vs.length by lia)) (Fb [_,_] 392211659861542446195610807068673 tO hu)
theorem nS(F:yM prog w s bad O n f){a b:Sv}(ha:lu prog w s.heap bad O a u)(hb:lu prog w s.heap bad O b v)(hu:A.units+(n+1)<cLine):∀r,sn f a b=some r->RcNeAt A s u v r:=by
 induction ha with
 |bool x=>induction hb with
  |bool y=>exact λr e=>z0 e▸RcNeAt.bool_bool _ _|_=>exact λr e=>ns e
 |int x t=>induction hb with
  |int y t=>exact λr e=>z0 e▸RcNeAt.int_int _ _ _ _|_=>exact λr e=>ns e
 |str x t=>induction hb with
  |str y t=>exact λr e=>z0 e▸Uu x y▸RcNeAt.str_str _ _ _ _|_=>exact λr e=>ns e
 |lst x p vs n ho hv=>induction hb with
  |lst y q us m Wg Op=>exact λr e=>Fc e λt et e=>e▸tG F hu ho Wg hv Op et|_=>exact λr e=>ns e
 |_=>exact λr e=>ns e
theorem JK{b:AV}{va:Value}{r:Bool}(e:WS Z a b=some r)(S:SR prog w B bad O Z s.heap)(ra:VR prog w s.heap bad O a va)(rb:VR prog w s.heap bad O b vb)(hu:A.units+10<cLine):RcNeAt A s va vb r:=
 ga e λk ek e=>ga e λk' RL e=>nS (pn 4) (mW S ek ra) (mW S RL rb) (Fb [_] 12550784255821089236426523631452929 tO hu) _ e
def rR(prog:Program)(w:World)(h:Heap)(bad:ie)(O:Io)(f:AV->AV->Option Bool):Prop:=∀x x' y v r r',VR prog w h bad O x v->VR prog w h bad O x' v->f x y=some r->f x' y=some r'->r=r'
theorem cu{α:Type}{o:Option α}{r r':α}(e:o=some r)(e':o=some r'):r=r':=z0 (e.symm.trans e')
theorem mV(hf:rR prog w h bad O f)(xs:List AV):∀{jy ys:List AV}{vs:List Value}{r r':Bool},ya prog w h bad O xs vs->ya prog w h bad O jy vs->Fv f xs ys=some r->Fv f jy ys=some r'->r=r':=by
 induction xs with
 |nil=>
  intro jy ys vs r r' a b e e';have a:vs=[]:=a;subst a;induction jy with|nil=>exact cu e e'|cons x xs=>exact xc b λ_ _ e _ _=>(z4 _ _ e.symm).elim
 |cons x xs ih=>
  intro jy ys vs r r' a b e e';refine xc a λv q ev a1 a2=>?_;clear a;subst ev;induction jy with
  |nil=>exact(z4 _ _ (b:v::q=[])).elim|cons x' jy=>
   refine xc b λv' q' ev b1 b2=>?_;refine kA (List.cons.inj ev) λez tz=>?_;clear ev;subst ez;subst tz;induction ys with
   |nil=>exact cu e e'|cons y ys=>
    refine ga e λt et e=>ga e' λt' IE e'=>?_;have z:=hf x x' y v t t' a1 b1 et IE;subst z;induction t with|true=>exact ih a2 b2 e e'|false=>exact cu e e'
theorem oV(hf:rR prog w h bad O f)(xs:List AV):∀{jy ys:List AV}{vs:List Value}{r r':Bool},ya prog w h bad O xs vs->ya prog w h bad O jy vs->Rg f xs ys=some r->Rg f jy ys=some r'->r=r':=by
 induction xs with
 |nil=>
  intro jy ys vs r r' a b e e';have a:vs=[]:=a;subst a;induction jy with|nil=>exact cu e e'|cons x xs=>exact xc b λ_ _ e _ _=>(z4 _ _ e.symm).elim
 |cons x xs ih=>
  intro jy ys vs r r' a b e e';refine xc a λv q ev a1 a2=>?_;clear a;subst ev;induction jy with
  |nil=>exact(z4 _ _ (b:v::q=[])).elim|cons x' jy=>
   refine xc b λv' q' ev b1 b2=>?_;refine kA (List.cons.inj ev) λez tz=>?_;clear ev;subst ez;subst tz;induction ys with|nil=>exact cu e e'|cons y ys=>exact ga e λt et e=>ga e' λt' IE e'=>Fc e λu eu e=>Fc e' λu' eu' e'=>rq e<|rq e'<|rr (hf x x' y v t t' a1 b1 et IE)<|rr (ih a2 b2 eu eu') rfl
theorem jO(hf:rR prog w h bad O f){a a' b:Sv}{r r':Bool}(s:OQ prog w h bad O a a')(e:se f a b=some r)(e':se f a' b=some r'):r=r':=by
 induction a with
 |tup xs=>induction a' with
  |tup ys=>
   refine Xa s λvs s1 s2=>?_;clear s;induction b with|tup zs=>exact mV hf xs s1 s2 e e'|_=>exact cu e e'
  |_=>exact s.elim
 |lst xs=>induction a' with
  |lst ys=>
   refine Xa s λvs s1 s2=>?_;clear s;induction b with
   |lst zs=>
    have e:(if xs.length=zs.length then Rg f xs zs else some false)=some r:=e;have e':(if ys.length=zs.length then Rg f ys zs else some false)=some r':=e';replace e:=ya.size s1 s2▸e;by_cases hl:ys.length=zs.length
    ·rw[X0 hl]at e e';exact oV hf xs s1 s2 e e'
    ·rw[Y0 hl]at e e';exact cu e e'
   |_=>exact ns e
  |_=>exact s.elim
 |_=>replace e':=(s:a'=_)▸e';exact cu e e'
theorem LB(hf:rR prog w h bad O f):rR prog w h bad O (oR f):=λx x' y v r r' a b e e'=>
 ga e λk ek e=>ga e λl el e=>ga e' λk' RL e'=>ga e' λl' el' e'=>jO hf ((Pn ek a).same (Pn RL b) rfl) e (cu el' el▸e')
theorem Gv:∀n,rR prog w h bad O (Of n)|0=>LB λ_ _ _ _ _ _ _ _ e=>ns e|n+1=>LB (Gv n)
open Classical in
noncomputable def Az(prog:Program)(w:World)(h:Heap)(bad:ie)(O:Io)(x:AV)(u:Value):Bool:=@decide (∃y,VR prog w h bad O y u/\Of 4 y x=some true) (Classical.propDecidable _)
open Classical in
theorem MB{b:Bool}(r:VR prog w h bad O y u)(e:Of 4 y x=some b):Az prog w h bad O x u=b:=by
 induction b with|true=>exact@decide_eq_true _ (Classical.propDecidable _) (Na y r e)|false=>exact@decide_eq_false _ (Classical.propDecidable _) λ⟨y',r',e'⟩=>Lf (Gv 4 y y' x u _ _ r r' e e')
theorem aT(rx:VR prog w s.heap bad O x v)(hu:A.units+10<cLine)(ys:List AV):∀{vs:List Value}{r:Bool},ya prog w s.heap bad O ys vs->Bc x ys=some r->(∀u∈vs,EqAt A s u v (Az prog w s.heap bad O x u))/\vs.any (Az prog w s.heap bad O x)=r:=by
 induction ys with
 |nil=>intro vs r h e;have h:vs=[]:=h;subst h;exact⟨λu hu=>absurd hu y4,z0 e⟩|cons y ys ih=>
  intro vs r h e;refine xc h λu q ev ry rq=>ga e λt et e=>Fc e λt' IE e=>?_;clear h;subst ev;refine kA (ih rq IE) λi1 i2=>?_;have k:=MB ry et;refine⟨λu' hu'=>?_,?_⟩
  ·rcases K1.mp hu' with rfl|hu'
   ·exact rr k<|pn 4 ry rx (Fb [_] 12550784255821089236426523630404353 tO hu) et
   ·exact i1 u' hu'
  ·exact rr List.any_cons<|rr i2<|rr k e
theorem WT(rx:VR prog w s.heap bad O x v)(ys:List AV):∀{vs:List Value},ya prog w s.heap bad O ys vs->∀j(h1:j<ys.length)(h2:j<vs.length){b:Bool},Of 4 ys[j] x=some b->Az prog w s.heap bad O x vs[j]=b:=
 λhv j h1 h2 b e=>MB (ya.getElem hv j h1 h2) e
theorem jz{α:Sort _}{d:Prop} [Decidable c] [Decidable d]{x y:α}(h:c↔d):(if c then x else y)=if d then x else y:=by
 by_cases hc:c
 ·exact rr (X0 hc)<|rr (X0 (h.mp hc)) rfl
 ·exact rr (Y0 hc)<|rr (Y0 λz=>hc (h.mpr z)) rfl
def VO(prog:Program)(w:World)(h:Heap)(bad:ie)(O:Io)(a:Option AV)(q:Option Value):Prop:=a.casesOn (q=none) λa=>∃v,q=some v/\VR prog w h bad O a v
theorem VO.any{a:Option AV}(z:VO prog w h bad O a q):q.isSome=a.isSome:=by
 induction a with|none=>refine rr (z:q=none) ?_;rfl|some a=>refine Xa z λv z _=>?_;refine rr z ?_;rfl
theorem VO.get{a:Option AV}(z:VO prog w h bad O a q)(e:a=some x):∃v,q=some v/\VR prog w h bad O x v:=by subst e;exact z
theorem VO.dflt{a:Option AV}(z:VO prog w h bad O a q)(r:VR prog w h bad O x v):VR prog w h bad O (a.getD x) (q.getD v):=by
 induction a with|none=>exact rr (z:q=none) r|some a=>refine Xa z λu z h=>?_;exact rr z h
theorem Ll{K:Type} [DecidableEq K]{a k:K}{l:List (K×Value)}:valueAt ((a,v)::l) k=if a=k then some v else valueAt l k:=by
 unfold valueAt;refine rr List.find?_cons ?_;by_cases h:a=k
 ·refine rr (X0 h)<|rr (Y2 h) ?_;rfl
 ·exact rr (Y0 h)<|rr (D1 h) rfl
theorem VO.ite [Decidable c]{a:Option AV}(r:VR prog w h bad O x v)(z:VO prog w h bad O a q):VO prog w h bad O (if c then some x else a) (if c then some v else q):=by
 by_cases hc:c
 ·exact rr (X0 hc)<|rr (X0 hc)<|(Na v rfl r)
 ·exact rr (Y0 hc)<|rr (Y0 hc) z
theorem kh(kvs:List (Int×AV))(k:Int):∀{vs:List Value},ya prog w s.heap bad O (kvs.map (·.2)) vs->VO prog w s.heap bad O (Pf k kvs) (valueAt ((kvs.map (·.1)).zip vs) k):=by
 induction kvs with|nil=>exact λr=>rfl|cons kv kvs ih=>intro vs r;refine xc r λv q ev r1 r2=>?_;clear r;subst ev;exact rr K4<|rr List.zip_cons_cons<|rr Ll<|VO.ite r1 (ih r2)
theorem Rf(k:List Nat)(ks:List (List Nat)):∀{xs:List AV}{vs:List Value},ya prog w s.heap bad O xs vs->VO prog w s.heap bad O (Oi k (ks.zip xs)) (valueAt ((ks.map Pa).zip vs) (Pa k)):=by
 induction ks with
 |nil=>exact λr=>rfl|cons a ks ih=>
  intro xs vs r;induction xs with|nil=>have r:vs=[]:=r;subst r;exact rfl|cons x xs=>refine xc r λv q ev r1 r2=>?_;clear r;subst ev;have e:(if Pa a=Pa k then some v else valueAt ((ks.map Pa).zip q) (Pa k))=if a=k then some v else valueAt ((ks.map Pa).zip q) (Pa k):=jz ⟨Be,C0 _⟩;exact rr K4<|rr List.zip_cons_cons<|rr List.zip_cons_cons<|rr Ll<|rr e<|VO.ite r1 (ih r2)
theorem JE{α β:Type}(l:List (α×β)):(l.map (·.1)).zip (l.map (·.2))=l:=by
 induction l with|nil=>rfl|cons x l ih=>exact C0 (x::·) ih
theorem Kj{kvs:List (List Nat×AV)}{vs:List Value}(r:ya prog w s.heap bad O (kvs.map (·.2)) vs)(k:List Nat):VO prog w s.heap bad O (Oi k kvs) (valueAt ((kvs.map (Pa ·.1)).zip vs) (Pa k)):=by have:=Rf k (kvs.map (·.1)) r;rw[JE,List.map_map]at this;exact this
theorem OI(k:Int)(kvs:List (Int×AV)):(kvs.any λkv=>kv.1==k)=(Pf k kvs).isSome:=by
 induction kvs with
 |nil=>rfl|cons kv kvs ih=>
  show(decide (kv.1=k)||kvs.any _)=(if kv.1=k then some kv.2 else Pf k kvs).isSome;refine rr ih ?_;by_cases h:kv.1=k
  ·refine rr (X0 h)<|rr (Y2 h) ?_;rfl
  ·refine rr (Y0 h)<|rr (D1 h) ?_;rfl
theorem PI(k:AV)(kvs:List (AV×AV)):(kvs.any λkv=>Gc kv.1 k)=(getD k kvs).isSome:=by
 induction kvs with
 |nil=>rfl|cons kv kvs ih=>
  show(Gc kv.1 k||kvs.any _)=(if Gc kv.1 k=true then some kv.2 else getD k kvs).isSome;refine rr ih ?_;by_cases h:Gc kv.1 k=true
  ·refine rr (X0 h)<|rr h ?_;rfl
  ·refine rr (Y0 h)<|rr (eq_false_of_ne_true h) ?_;rfl
theorem FA{xs:List AV}:AV.tup xs= .tup ys↔xs=ys:=⟨λe=>z0 (C0 Td e),C0 _⟩
open Classical in
theorem An{xs:List (List AV×Addr×Value)}(hd:h.DictOfH (Ig prog w) d xs):∀x∈xs,Kd x.1=true:=λx hx=>by
 refine pi hd λ_ _ _ _ _ _ _ hi _=>?_;clear hd;exact KV.key (hi x hx).2
open Classical in
theorem Nz{x:List AV×Addr×Value}{xs:List (List AV×Addr×Value)}{ks:List AV}:(atKey (x::xs) ks).map (·.2)=if x.1=ks then some x.2.2 else(atKey xs ks).map (·.2):=by
 unfold atKey;refine rr List.find?_cons ?_;by_cases h:x.1=ks
 ·refine rr (X0 h)<|rr (Y2 h) ?_;rfl
 ·exact rr (Y0 h)<|rr (D1 h) rfl
open Classical in
theorem Sl(ks:List AV)(xs:List (List AV×Addr×Value)):∀{kvs:List (AV×AV)},kvs.map (·.1)=xs.map (λx=> .tup x.1)->(∀x∈xs,Kd x.1=true)->ya prog w s.heap bad O (kvs.map (·.2)) (xs.map (·.2.2))->VO prog w s.heap bad O (getD (.tup ks) kvs) ((atKey xs ks).map (·.2)):=by
 induction xs with
 |nil=>intro kvs hk Oo r;exact rr (List.map_eq_nil_iff.mp hk) rfl|cons x xs ih=>
  intro kvs hk Oo r;induction kvs with|nil=>exact(z4 _ _ hk.symm).elim|cons kv kvs=>refine kA (List.cons.inj hk) λh1 h2=>?_;have h1:kv.1= .tup x.1:=h1;refine xc r λv q ev r1 r2=>kA (List.cons.inj ev) λe1 e2=>?_;clear ev;subst e1 e2;have e:(if Gc kv.1 (.tup ks)=true then some kv.2 else getD (.tup ks) kvs)=if x.1=ks then some kv.2 else getD (.tup ks) kvs:=jz (rr h1<|(rf (.tup x.1) (.tup ks) (Oo x Q4)).trans FA);have z:=VO.ite (c:=x.1=ks) r1 (ih h2 (λy hy=>Oo y (B4 _ hy)) r2);replace z:=e.symm▸(Nz.symm▸z);exact z
theorem fi(h:d≠1):(d==sysModules)=false:=by show decide (d=1)=false;exact D1 h
theorem Qy(hB:∃o,B.get? 1=some o)(S:SR prog w B bad O Z s.heap){a:Addr}(h:a∈uc O):a≠1:=by rintro rfl;refine kE hB λo e=>?_;clear hB;replace e:=(S.off _ h).1▸e;exact ns e
structure xM(prog:Program)(w:World)(B:Heap)(bad:ie)(O:Io)(Z:AH)(s:Shared)(A:Around)(E:Value->Shared->Prop)(d:Bool)(va vb:Value)(r:Bool):Prop where
 yes:∀Q:AV->AH->Prop,Q (.bool r) Z->wpAny (model prog w) A (compareOp .In va vb) (aa prog w B bad O s Q) E s
 no:d=false->∀Q:AV->AH->Prop,Q (.bool !r) Z->wpAny (model prog w) A (compareOp .NotIn va vb) (aa prog w B bad O s Q) E s
theorem gz{va:Value}{r d:Bool}{vs:List Value}{c:String}(hc:c="list"\/c="tuple")(S:SR prog w B bad O Z s.heap)(ra:VR prog w s.heap bad O a va)(e:Bc a ys=some r)(ho:s.heap.get? p=some {cls:= .type c,data:= .seq (List.toArray vs) n})(hv:ya prog w s.heap bad O ys vs)(hu:A.units+20<cLine):xM prog w B bad O Z s A E d va (.ref p) r:=by
 refine kA (aT (A:=A.in1) ra (by rw[Around.in1_units];exact Fb [_] 411264504142937525132632805437948846849 tO hu) ys hv e) λi1 i2=>?_;have i1:∀y,y∈vs.toArray->EqAt A.in1 s y va (Az prog w s.heap bad O a y):=λy hy=>i1 y (List.mem_toArray.mp hy);have i2:vs.toArray.any (Az prog w s.heap bad O a)=r:=(List.any_toArray).trans i2;clear e;subst i2;rcases hc with rfl|rfl
 ·exact⟨λQ q=>in_listAt _ (Cb _ ho rfl _ rfl) i1 (aa.here S (VR.Bo _) q),λ_ Q q=>notIn_listAt _ (Cb _ ho rfl _ rfl) i1 (aa.here S (VR.Bo _) q)⟩
 ·exact⟨λQ q=>in_tupleAt _ (Cb _ ho rfl _ rfl) i1 (aa.here S (VR.Bo _) q),λ_ Q q=>notIn_tupleAt _ (Cb _ ho rfl _ rfl) i1 (aa.here S (VR.Bo _) q)⟩
theorem UG{K:Type} [DecidableEq K]{knd:KeyKind prog w K}{kvs:List (K×Value)}{k:K}{va:Value}{d:Bool}(S:SR prog w B bad O Z s.heap)(ne:p≠1)(hk:knd.is k va=true)(hd:s.heap.DictOf knd p kvs):xM prog w B bad O Z s A E d va (.ref p) (valueAt kvs k).isSome:=
 ⟨λQ q=>wpAny_in_of hk (fi ne) hd.mapOf (aa.now S (VR.Bo _) q),λ_ Q q=>wpAny_notIn_of hk (fi ne) hd.mapOf (aa.now S (VR.Bo _) q)⟩
open Classical in
theorem nP{d:Bool}{va:Value}{r:Bool}{p:Addr×Option Addr}(hB:∃o,B.get? 1=some o)(e:aZ d a o=some r)(S:SR prog w B bad O Z s.heap)(ra:VR prog w s.heap bad O a va)(hp:O[j]? =some p)(ho:OR prog w s.heap bad O p o)(hu:A.units+20<cLine):xM prog w B bad O Z s A E d va (.ref p.1) r:=by
 have ne:p.1≠1:=Qy hB S (ub hp (.inl rfl));induction o with|list ys=>exact gk ho λ_ vs n ho hs=>gz (.inl rfl) S ra e ho hs hu|Ea kvs=>refine Eh ho λ_ vs hd hv=>?_;clear ho;refine ga e λk ek e=>VR.Od ra ek λt=>?_;rw[<-z0 e,OI,<-(kh kvs k hv).any];exact UG S ne (intKind_is prog w k t) hd|we kvs=>refine vj ho λ_ xs hd hk gn cH=>?_;clear ho;refine ga e λks ek e=>Uc e λhc e=>Uc e λFP er=>?_;clear e;clear e;clear e;subst FP;have ek:=Nk ek;subst ek;have kk:KV s.heap (.tup ks) va:=VR.key ra (by simpa[Zf]using hc.1);refine Qa (id kk) λpa ws m ez tz=>?_;clear ra;subst ez;refine kA tz λhpa hws=>?_;clear tz;refine⟨λQ q=>wpAny_in_heap (knd:=Ig prog w) (k:=ks) (by show A.in1.units+10<cLine;rw[Around.in1_units];exact Fb [_] 411264504142937525132632805437948846849 tO hu) ⟨hc.2,kk⟩ (fi ne) hd ?_,λz=>nomatch z⟩;rw[<-Option.isSome_map,(Sl ks xs hk (An hd) cH).any,<-PI,z0 er];exact aa.now S (VR.Bo _) q|_=>exact ns e
theorem zB{d:Bool}{b:AV}{va:Value}{r:Bool}(hB:∃o,B.get? 1=some o)(e:UT d Z a b=some r)(S:SR prog w B bad O Z s.heap)(ra:VR prog w s.heap bad O a va)(rb:VR prog w s.heap bad O b vb)(hu:A.units+20<cLine):xM prog w B bad O Z s A E d va vb r:=by
 cases b with
 |tup ys=>exact am rb λp vs n _ ho hs=>gz (.inr rfl) S ra e ho hs hu|ba ys=>exact Qm rb λp vs n _ ho hs=>gz (.inl rfl) S ra e ho hs hu|rc ks vs=>refine ga e λk ek e=>VR.Tf ra ek λt=>?_;refine db rb λp us ez tz=>?_;clear rb;subst ez;refine wj tz λpg _ hd hv=>?_;clear tz;exact rq (z0 e)<|rq ((Rf k ks hv).any)<|UG S pg (strKind_is prog w (Pa k) t) hd
 |str x=>refine ga e λu ek e=>VR.Tf ra ek λt=>VR.Tf rb (rfl:nh (.str x)=_) λt'=>?_;rw[<-z0 e,<-Ac];exact⟨λQ q=>PyProof.Rows.in_str (aa.here S (VR.Bo _) q),λ_ Q q=>PyProof.Rows.notIn_str (aa.here S (VR.Bo _) q)⟩|ref j=>exact ga e λo ho e=>Wj S rb ho λp hp ho=>nP hB e S ra hp ho hu|_=>exact ns e
section
theorem VR.see(r:VR prog w h bad O a v):(v== .none)=isNone a/\handedIn v=true:=by
 have ref:∀p,v= .ref p->(v== .none)=false/\handedIn v=true:=λp e=>by clear r;subst e;exact⟨rfl,rfl⟩
 cases a with
 |none=>exact rr (r:v=_)<|⟨rfl,rfl⟩
 |bool=>exact rr (r:v=_)<|⟨rfl,rfl⟩
 |qn=>exact r.elim|int=>refine kE r λt ez=>?_;clear r;clear ref;subst ez;exact⟨rfl,rfl⟩|str=>refine kE r λt ez=>?_;clear r;clear ref;subst ez;exact⟨rfl,rfl⟩|tup=>refine Qa r λp vs n e _=>?_;clear r;exact ref p e|ba=>refine Qa r λp vs n e _=>?_;clear r;exact ref p e|rc=>refine db r λp vs e _=>?_;clear r;exact ref p e|Wc=>refine db r λp vs e _=>?_;clear r;exact ref p e|node=>exact Um.k (P:=λv=>(∀p,v= .ref p->_)->_) r (λp _ _ _ _ _ _ _ _ _ _ _ _ _ _ _ _ _ _ _ _ _ _ _ _ ref=>ref p rfl) ref|Gk=>refine xb r λp _ _ _ e _=>?_;clear r;exact ref p e|ref=>refine Xa r λp _ e=>?_;clear r;exact ref p.1 e
def XI(prog:Program)(w:World)(B:Heap)(bad:ie)(O:Io)(Z:AH)(s:Shared)(A:Around)(E:Value->Shared->Prop)(Q:AV->AH->Prop)(a b:AV)(va vb:Value)(r:Bool)(f:AH->AV->AV->Option Bool)(op:CmpOp):Prop:=
 f Z a b=some r->VR prog w s.heap bad O a va->VR prog w s.heap bad O b vb->aa prog w B bad O s Q (.bool r) s->wpAny (model prog w) A (compareOp op va vb) (aa prog w B bad O s Q) E s
variable{b:AV}{va:Value}{r:Bool}
theorem Rs{f:Int->Int->Bool}(k:∀x y t u,aa prog w B bad O s Q (.bool (f x y)) s->wpAny (model prog w) A (compareOp op (.int x t) (.int y u)) (aa prog w B bad O s Q) E s):XI prog w B bad O Z s A E Q a b va vb r (MS f) op:=
 λe ra rb q=>ga e λx ex e=>ga e λy ey e=>VR.Od ra ex λt=>VR.Od rb ey λu=>k x y t u (z0 e▸q)
theorem xB{f:Bool->Bool}(k:∀v,aa prog w B bad O s Q (.bool (f (v== .none))) s->wpAny (model prog w) A (compareOp op v .none) (aa prog w B bad O s Q) E s):XI prog w B bad O Z s A E Q a b va vb r (lP f) op:=λe ra rb q=>by
 cases b with|none=>refine rr (rb:vb=_) ?_;have e:=z0 e;replace q:=ra.see.1.symm▸(e.symm▸q);exact k va q|_=>exact ns e
theorem Qt{o:Nat}(hB:∃o,B.get? 1=some o)(e:Ta Z o a b=some r)(S:SR prog w B bad O Z s.heap)(ra:VR prog w s.heap bad O a va)(rb:VR prog w s.heap bad O b vb)(hu:A.units+20<cLine)(q:Q (.bool r) Z):wpAny (model prog w) A (compareOp (nI o) va vb) (aa prog w B bad O s Q) E s:=
 Kv (P:=λf op=>XI prog w B bad O Z s A E Q a b va vb r f op) (λe=>ns e) [_,_,_,_,_,_,_,_,_,_] [.Eq,.NotEq,.Lt,.LtE,.Gt,.GtE,.Is,.IsNot,.In,.NotIn] rfl
  ⟨λe ra rb fin=>PL (A:=A) e S ra rb (Fb [_] 12550796635221482090229272626889473 tO hu) prog w E _ fin,λe ra rb fin=>JK (A:=A) e S ra rb (Fb [_] 12550796635221482090229272626889473 tO hu) prog w E _ fin,
   Rs λx y t u fin=>PySem.P.lt_int fin,Rs λx y t u fin=>PySem.P.le_int fin,Rs λx y t u fin=>PySem.P.gt_int fin,Rs λx y t u fin=>PySem.P.ge_int fin,
   xB λv fin=>PySem.is_none fin,xB λv fin=>PySem.isNot_none fin,λe ra rb _=>(zB hB e S ra rb hu).yes Q q,
   λe ra rb fin=>Fc e λt et e=>(zB hB et S ra rb hu).no rfl Q ((show(!t)=r from e)▸q),trivial⟩ o e ra rb (aa.here S (VR.Bo _) q)
theorem Mz{α:Type}{xs:List α}{r:Bool}{G:Prop}(e:qx xs=some r)(k:(xs.length:Int)<2^63->(!xs.isEmpty)=r->G):G:=Uc e λh e=>k (by unfold Ab at h;lia) (z0 e)
theorem oN{xs:List AV}{vs:List Value}(hv:ya prog w h bad O xs vs):(!vs.toArray.isEmpty)= !xs.isEmpty:=by
 induction xs with|nil=>refine rr (hv:vs=[]) ?_;rfl|cons x xs=>exact xc hv λv q e _ _=>by refine rr e ?_;rfl
theorem Ok(e:Db Z a=some r)(S:SR prog w B bad O Z s.heap)(ra:VR prog w s.heap bad O a va){Q:Bool->Shared->Prop}(q:∀tk,Q r {s with toks:=tk}):wpAny (model prog w) A (truthy va) Q E s:=by
 have q0:Q r s:=q s.toks;have lst:∀{p:Addr}{xs:List AV}{vs:List Value}{n:Nat},qx xs=some r->s.heap.get? p=some {cls:= .type "list",data:= .seq (List.toArray vs) n}->ya prog w s.heap bad O xs vs->wpAny (model prog w) A (truthy (.ref p)) Q E s:=
  λe ho hv=>Mz e λh1 h2=>wpAny_truthy_list (items:=_) (Cb _ ho rfl _ rfl) (by rw[ya.length hv]at h1;exact h1) (by refine rr (oN hv)<|rr h2 ?_;exact q _)
 cases a with
 |none=>refine rr (ra:va=_) ?_;exact A2 (z0 e▸q0)|bool=>refine rr (ra:va=_) ?_;exact wpAny_truthy_bool (z0 e▸q0)|int i=>
  refine VR.Od ra (rfl:re (.int i)=_) λt=>PySem.P.truthy_int ?_;have z:(i !=0)=decide (i≠0):=by rw[Bool.eq_iff_iff,bne_iff_ne,decide_eq_true_iff]
  exact rr z<|rr (z0 e)<|q0
 |str x=>
  refine VR.Tf ra (rfl:nh (.str x)=_) λt=>Mz e λh1 h2=>PySem.P.truthy_str (by rw[Ac];lia) ?_;rw[Ac];have z:((x.length:Int) !=0)= !x.isEmpty:=by
   induction x with|nil=>rfl|cons c x=>exact bne_iff_ne.mpr (by simp only[P2];lia)
  exact rr z<|rr h2<|q _
 |tup xs=>exact am ra λp vs n _ ho hv=>Mz e λh1 h2=>PyProof.Rows.truthy_tuple (items:=vs.toArray) (Cb _ ho rfl _ rfl) (by rw[ya.length hv]at h1;exact h1) (by refine rr (oN hv)<|rr h2 ?_;exact q _)|ba xs=>exact Qm ra λp vs n _ ho hv=>lst e ho hv|ref j=>exact ga e λxs ex e=>Uv S ra ex λp vs n _ _ ho hv=>lst e ho hv|_=>exact ns e
theorem BO{r:Bool}(e:Db Z a=some r)(S:SR prog w B bad O Z s.heap)(ra:VR prog w s.heap bad O a v)(q:Q (.bool !r) Z):wpAny (model prog w) A (unaryOp .Not v) (aa prog w B bad O s Q) E s:=
 not_value (Ok e S ra λtk=>aa.now S (VR.Bo _) q)
theorem jG{xs:List AV}{vs:List Value}{k:Int}(r:ya prog w h bad O xs vs)(e:Oq xs k=some a):∃(j:Nat)(v:Value),VR prog w h bad O a v/\vs[j]? =some v/\j<vs.length/\-(2^63)<=k/\k<2^63/\((0<=k/\j=k.toNat)\/(k<0/\-(vs.length:Int)<=k/\j=(k+vs.length).toNat)):=by
 unfold Oq at e;have l:=ya.length r;split at e
 ·rename_i h0;split at e
  ·rename_i h1;exact Xa (ya.get r k.toNat a e) λv hv hr=>(mw k.toNat v hr hv ((B0.mp hv).1) (by lia) (by unfold Ab at h1;lia) (.inl ⟨h0,rfl⟩))
  ·exact ns e
 ·rename_i h0;split at e
  ·rename_i h1;refine Xa (ya.get r _ a e) λv hv hr=>?_;rw[l]at hv h1;exact(mw _ v hr hv ((B0.mp hv).1) (by unfold Ab at h1;lia) (by lia) (.inr (sf ((Int.not_le.mp ‹_›)) (by lia) rfl)))
  ·exact ns e
theorem ir{l:Addr}{vs:List Value}{xs:List AV}{k:Int}{t:Tok}(S:SR prog w B bad O Z s.heap)(ho:s.heap.get? l=some {cls:= .type "list",data:= .seq (List.toArray vs) n})(r:ya prog w s.heap bad O xs vs)(e:Oq xs k=some a)(q:Q a Z):wpAny (model prog w) A (getItem (.ref l) (.int k t)) (aa prog w B bad O s Q) E s:=by
 refine Zv (jG r e) λj v hr hv hj h1 h2 h3=>?_;rcases h3 with⟨h0,rfl⟩|⟨h0,h4,rfl⟩
 ·exact wpAny_getItem_list (items:=vs.toArray) (Cb _ ho rfl _ rfl) h0 h2 (by simpa using hv) (aa.here S hr q)
 ·exact wpAny_getItem_list_neg (items:=vs.toArray) (Cb _ ho rfl _ rfl) h0 (by simpa using h4) h1 (by simpa using hv) (aa.here S hr q)
theorem LF{k:Int}(hj:j<n)(h:(0<=k/\j=k.toNat)\/(k<0/\-(n:Int)<=k/\j=(k+n).toNat)):seqIndex? k n=some j:=by
 unfold seqIndex?;rcases h with⟨h0,rfl⟩|⟨h0,h1,rfl⟩
 ·have:¬k<0:=by lia
  simp[this];lia
 ·simp[h0];lia
theorem ZE{l:Addr}{vs:List Value}{xs:List AV}{k:Int}{t:Tok}(S:SR prog w B bad O Z s.heap)(ho:s.heap.get? l=some {cls:= .type "tuple",data:= .seq (List.toArray vs) n})(r:ya prog w s.heap bad O xs vs)(e:Oq xs k=some a)(q:Q a Z):wpAny (model prog w) A (getItem (.ref l) (.int k t)) (aa prog w B bad O s Q) E s:=Zv (jG r e) λj v hr hv hj h1 h2 h3=>PyProof.Rows.getItem_tuple (items:=vs.toArray) (Cb _ ho rfl _ rfl) h1 h2 (LF (n:=vs.length) hj h3) ((List.getElem?_toArray ..).trans hv) (aa.here S hr q)
theorem Fo{K:Type} [DecidableEq K]{knd:KeyKind prog w K}{kvs:List (K×Value)}{k:K}{a:Option AV}(S:SR prog w B bad O Z s.heap)(hk:knd.is k vk=true)(hd:s.heap.DictOf knd p kvs)(z:VO prog w s.heap bad O a (valueAt kvs k))(e:a=some x)(q:Q x Z):wpAny (model prog w) A (getItem (.ref p) vk) (aa prog w B bad O s Q) E s:=Xa (z.get e) λv z hr=>wpAny_getItem_of hk hd.mapOf z (aa.now S hr q)
open Classical in
theorem bL{i r:AV}{vi:Value}{p:Addr×Option Addr}(e:VT i o=some r)(S:SR prog w B bad O Z s.heap)(ri:VR prog w s.heap bad O i vi)(ho:OR prog w s.heap bad O p o)(hu:A.units+20<cLine)(q:Q r Z):wpAny (model prog w) A (getItem (.ref p.1) vi) (aa prog w B bad O s Q) E s:=by
 induction o with|list xs=>exact gk ho λ_ vs n ho hv=>ga e λk ek e=>VR.Od ri ek λt=>ir S ho hv e q|Ea kvs=>refine Eh ho λ_ vs hd hv=>?_;clear ho;exact ga e λk ek e=>VR.Od ri ek λt=>Fo S (intKind_is prog w _ t) hd (kh kvs k hv) e q|gb kvs=>refine Eh ho λ_ vs hd hv=>?_;clear ho;exact ga e λk ek e=>VR.Tf ri ek λt=>Fo S (strKind_is prog w _ t) hd (Kj hv k) e q|we kvs=>refine vj ho λ_ xs hd hk gn cH=>?_;clear ho;refine ga e λks ek e=>Uc e λhc er=>?_;have ek:=Nk ek;subst ek;have kk:KV s.heap (.tup ks) vi:=VR.key ri hc.1;refine Qa (id kk) λpa ws m ez tz=>?_;clear ri;subst ez;refine kA tz λhpa hws=>?_;clear tz;refine Xa ((Sl ks xs hk (An hd) cH).get er) λv z hr=>Fc z λy ey z=>?_;subst z;exact wpAny_getItem_heap (knd:=Ig prog w) (k:=ks) (by show A.in1.units+10<cLine;rw[Around.in1_units];exact Fb [_] 411264504142937525132632805437948846849 tO hu) ⟨hc.2,kk⟩ hd ey (aa.now S hr q)|_=>exact ns e
theorem dQ{x:List Nat}{k:Int}{t u:Tok}{r:AV}(e:rZ x k=some r)(S:SR prog w B bad O Z s.heap)(q:Q r Z):wpAny (model prog w) A (getItem (.str (Pa x) t) (.int k u)) (aa prog w B bad O s Q) E s:=
 Uc e λh0 e=>Fc e λc hc e=>by
  subst e;have hl:=(B0.mp hc).1;refine PyProof.Rows.getItem_str (c:=c) (by have:=h0.2;unfold Ab at this;simp;lia) ?_ ?_
  ·exact rr (LF (n:=(Pa x).length) (j:=k.toNat) (by rw[Ac];exact hl) (.inl ⟨h0.1,rfl⟩))<|(List.getElem?_toArray ..).trans hc
  ·exact aa.now S (VR.S [c] _) q
theorem XG{i:AV}{va vi:Value}{r:AV}(hB:∃o,B.get? 1=some o)(e:jb Z a i=some r)(S:SR prog w B bad O Z s.heap)(ra:VR prog w s.heap bad O a va)(ri:VR prog w s.heap bad O i vi)(hu:A.units+20<cLine)(q:Q r Z):wpAny (model prog w) A (getItem va vi) (aa prog w B bad O s Q) E s:=by
 cases a with|tup xs=>exact ga e λk ek e=>VR.Od ri ek λt=>am ra λp vs n _ ho hv=>ZE S ho hv e q|ba xs=>exact ga e λk ek e=>VR.Od ri ek λt=>Qm ra λp vs n _ ho hv=>ir S ho hv e q|str x=>exact ga e λk ek e=>VR.Od ri ek λu=>VR.Tf ra (rfl:nh (.str x)=_) λt=>dQ e S q|rc ks vs=>refine ga e λk ek e=>VR.Tf ri ek λu=>?_;refine db ra λp us ez tz=>?_;clear ra;subst ez;refine wj tz λ_ _ hd hv=>?_;clear tz;exact Fo S (strKind_is prog w _ u) hd (Rf k ks hv) e q|ref j=>exact ga e λo ho e=>Wj S ra ho λp hp ho=>bL e S ri ho hu q|_=>exact ns e
end
def bf(prog:Program)(w:World)(B:Heap)(bad:ie)(O:Io)(s:Shared)(Z':AH)(s':Shared):Prop:=
 ∃h' tk,s'={s with heap:=h',toks:=tk}/\Zc O O s.heap h'/\SR prog w B bad O Z' h'
theorem bf.of{p:Addr×Option Addr}(S:SR prog w B bad O Z s.heap)(e:O[i]? =some p)(p2:p.2=none)(sb:Heap.SameBut p.1 s.heap h')(l:∃o',h'.get? p.1=some o')(n:OR prog w h' bad O p o'):bf prog w B bad O s (Z.set i o') {s with heap:=h',toks:=tk}:=by
 have k:∀a o,a≠p.1->p.2≠some a->s.heap.get? a=some o->h'.get? a=some o:=λa o h1 _ h2=>(sb.2 a h1).trans h2;have l':∀a o,s.heap.get? a=some o->∃o',h'.get? a=some o':=λa o h2=>by
  by_cases ha:a=p.1
  ·clear h2;subst ha;exact l
  ·exact⟨o,(sb.2 a ha).trans h2⟩
 exact(Wa h' tk rfl (Zc.upd e k l') (S.upd e k l' n))
theorem VR.upd{p:Addr×Option Addr}(e:O[i]? =some p)(p2:p.2=none)(sb:Heap.SameBut p.1 s.heap h')(r:VR prog w s.heap bad O x v):VR prog w h' bad O x v:=
 VR.keeps ⟨λa o hf ea=>(sb.2 a (λq=>hf.2 (ub e (.inl q)))).trans ea,λ_ _ hf _=>hf,λ_ _ q=>q⟩ r
theorem ya.upd{p:Addr×Option Addr}{x:List AV}{v:List Value}(e:O[i]? =some p)(p2:p.2=none)(sb:Heap.SameBut p.1 s.heap h')(r:ya prog w s.heap bad O x v):ya prog w h' bad O x v:=
 ya.keeps ⟨λa o hf ea=>(sb.2 a (λq=>hf.2 (ub e (.inl q)))).trans ea,λ_ _ hf _=>hf,λ_ _ q=>q⟩ r
theorem xk{l:Addr}{vs:List Value}(f:Array Value->Array Value)(ho:h.get? l=some {cls:= .type "list",data:= .seq (List.toArray vs) n}):∃n',(h.update l (Obj.mapSeq f)).get? l=some {cls:= .type "list",data:= .seq (f vs.toArray).toList.toArray n'}:=by have:=IsL.update (items:=vs.toArray) (n:=n) ho f;exact⟨_,by exact rr this<|rr Array.toArray_toList rfl⟩
theorem Ay{l:Addr}{vs:List Value}{k:Int}{t:Tok}{Q:Unit->Shared->Prop}(ho:s.heap.get? l=some {cls:= .type "list",data:= .seq (List.toArray vs) n})(h0:0<=k)(nU:k<2^63)(hn:k<vs.length)(hQ:∀n',(s.heap.update l (Obj.mapSeq (·.setIfInBounds k.toNat v))).get? l=some {cls:= .type "list",data:= .seq (vs.set k.toNat v).toArray n'}->Q () {s with heap:=s.heap.update l (Obj.mapSeq (·.setIfInBounds k.toNat v))}):wpAny (model prog w) A (setItem (.ref l) (.int k t) v) Q E s:=by
 have hl:s.heap.IsList l vs.toArray:=(Cb _ ho rfl _ rfl);have T:=hl.typeIs;unfold setItem
 try with_reducible refine Y3 ?_
 first|refine E0 (A2 ?_)|skip
 refine E0 (wpAny_sequenceKey T (N0 rfl) ?_);refine E0 (wpAny_callSpecial?_slot (name:=Str.ofString "__setitem__") T slot_list_setitem (wpAny_call_entry slot_list_setitem T entry_list_setitem ?_ (args_list_setitem _ _ _)));show wpAny _ _ (Builtin.List.listSubscript? (.int k t)>>=_) _ _ s;refine E0 (wpAny_listSubscript_int (fitsIndex_of h0 nU) ?_);clear nU;refine kE (Int.eq_ofNat_of_zero_le h0) λj ez=>?_;subst ez;have hj:j<vs.toArray.size:=by simp;exact Int.ofNat_lt.mp ‹_›
 refine kE (xk (l:=l) (vs:=vs) (n:=n) (·.setIfInBounds j v) ho) λn' ag=>?_;have fin:=hQ n' (by
  have e:(vs.toArray.setIfInBounds j v).toList.toArray=(vs.set j v).toArray:=by simp
  replace ag:=e▸ag;exact ag)
 show wpAny _ _ ((seqItemAt l j>>=λr=>pure (r.map (j,·)))>>=_) _ _ s;refine E0 (E0 (wpAny_seqItemAt ho rfl (A2 ?_)));refine rr (Array.getElem?_eq_getElem hj) ?_;show wpAny _ _ (setSeqItemAt l j v>>=_) _ _ s;refine E0 (wpAny_setSeqItemAt ho rfl ?_)
 first
  |exact E0 (A2 (A2 (Na .none rfl (A2 fin))))
  |exact A2 ⟨.none,rfl,A2 fin⟩
theorem Zu{K:Type} [DecidableEq K]{a k:K}{l:List (K×Value)}(hn:a∉l.map (·.1)):stored ((a,u)::l) k v=if a=k then(a,v)::l else(a,u)::stored l k v:=by
 by_cases h:a=k
 ·subst h;refine rr (X0 rfl) ?_;have:=map_store_of_not_mem l a v hn;simpa[stored]using this
 ·rw[Y0 h];unfold stored;rw[List.any_cons,D1 h,Bool.false_or];by_cases h2:l.any (λe=>decide (e.1=k))=true
  ·rw[X0 h2,X0 h2,K4,Y0 h]
  ·rw[Y0 h2,Y0 h2];rfl
theorem sq{K J:Type} [DecidableEq K] [DecidableEq J]{key:J->K}(inj:∀{a b},key a=key b->a=b){set:J->AV->List (J×AV)->List (J×AV)}(h0:∀k x,set k x []=[(k,x)])(h1:∀k x a y r,set k x ((a,y)::r)=if a=k then(a,x)::r else(a,y)::set k x r)(k:J)(rx:VR prog w s.heap bad O x v)(kvs:List (J×AV)):∀{vs:List Value},ya prog w s.heap bad O (kvs.map (·.2)) vs->(kvs.map (key ·.1)).Nodup->∃us,stored ((kvs.map (key ·.1)).zip vs) (key k) v=((set k x kvs).map (key ·.1)).zip us/\ya prog w s.heap bad O ((set k x kvs).map (·.2)) us:=by
 induction kvs with
 |nil=>intro vs r hn;rw[h0];exact⟨[v],rfl,v,[],rfl,rx,rfl⟩|cons kv kvs ih=>
  intro vs r hn;refine xc r λu q ev r1 r2=>?_;clear r;subst ev;obtain⟨a,y⟩:=kv;have hn:=P3.mp hn;have nm:key a∉((kvs.map (key ·.1)).zip q).map (·.1):=λz=>hn.1 (by
   obtain⟨⟨p1,p2⟩,hp,e⟩:=List.mem_map.mp z;have e:p1=(λx:J×AV=>key x.1) (a,y):=e;rw[<-e];exact(List.of_mem_zip hp).1)
  rw[h1,K4,List.zip_cons_cons,Zu nm];by_cases ha:a=k
  ·rw[X0 (C0 key ha),X0 ha];exact⟨v::q,rfl,v,q,rfl,rx,r2⟩
  ·refine Xa (ih r2 hn.2) λus e ru=>?_;rw[Y0 λz=>ha (inj z),Y0 ha,e];exact⟨u::us,rfl,u,us,rfl,r1,ru⟩
open Classical in
theorem Ms{z:List AV×Addr×Value}{xs:List (List AV×Addr×Value)}{ks:List AV}{pa:Addr}(hn:z.1∉xs.map (·.1)):storedH (z::xs) ks pa v=if z.1=ks then(z.1,z.2.1,v)::xs else z::storedH xs ks pa v:=by
 by_cases ha:z.1=ks
 ·have:atKey (z::xs) ks=some z.2:=by simp[atKey,ha]
  rw[X0 ha,storedH_old this,K4,map_putAt_of_not_mem]
  ·simp[putAt,ha]
  ·exact rq ha hn
 ·have:atKey (z::xs) ks=atKey xs ks:=by simp[atKey,ha]
  refine rr (Y0 ha) ?_;unfold storedH;refine rr this ?_;cases atKey xs ks with|none=>rfl|some p=>simp[putAt,ha]
structure DD(prog:Program)(w:World)(h:Heap)(bad:ie)(O:Io)(kvs:List (AV×AV))(xs:List (List AV×Addr×Value)):Prop where
 k:kvs.map (·.1)=xs.map (λx=> .tup x.1)
 a:ya prog w h bad O (kvs.map (·.1)) (xs.map λx=> .ref x.2.1)
 b:ya prog w h bad O (kvs.map (·.2)) (xs.map (·.2.2))
open Classical in
theorem bv(ks:List AV){pa:Addr}(rk:VR prog w s.heap bad O (.tup ks) (.ref pa))(rx:VR prog w s.heap bad O x v)(xs:List (List AV×Addr×Value)):∀{kvs:List (AV×AV)},(∀x∈xs,Kd x.1=true)->(xs.map (·.1)).Nodup->DD prog w s.heap bad O kvs xs->DD prog w s.heap bad O (Un (.tup ks) x kvs) (storedH xs ks pa v):=by
 induction xs with
 |nil=>intro kvs Oo hn d;exact rr (List.map_eq_nil_iff.mp d.k)<|⟨rfl,(Wa _ _ rfl rk rfl),(Wa _ _ rfl rx rfl)⟩
 |cons z xs ih=>
  intro kvs Oo hn d;obtain⟨hk,r1,r2⟩:=d;induction kvs with
  |nil=>exact(z4 _ _ hk.symm).elim|cons kv kvs=>
   refine kA (List.cons.inj hk) λh1 h2=>?_;have h1:kv.1= .tup z.1:=h1;refine xc r1 λu q e b1 b2=>xc r2 λu' q' e' a1 a2=>kA (List.cons.inj e) λe1 e2=>kA (List.cons.inj e') λe3 e4=>?_;clear e;subst e1 e2 e3 e4;have hn:=P3.mp hn;have e:Un (.tup ks) x (kv::kvs)=if z.1=ks then(kv.1,x)::kvs else(kv.1,kv.2)::Un (.tup ks) x kvs:=jz (rr h1<|(rf (.tup z.1) (.tup ks) (Oo z Q4)).trans FA);refine rr e<|rr (Ms hn.1) ?_;by_cases ha:z.1=ks
   ·exact rr (X0 ha)<|rr (X0 ha)<|⟨List.cons_eq_cons.mpr ⟨h1,h2⟩,(Wa _ _ rfl b1 b2),(Wa _ _ rfl rx a2)⟩
   ·refine rr (Y0 ha)<|rr (Y0 ha) ?_;obtain⟨i1,i2,i3⟩:=ih (λy hy=>Oo y (B4 _ hy)) hn.2 ⟨h2,b2,a2⟩;exact⟨List.cons_eq_cons.mpr ⟨h1,i1⟩,(Wa _ _ rfl b1 i2),(Wa _ _ rfl a1 i3)⟩
theorem pj(h:n<=Ab):n<=sizeLine:=A0 h Lz
theorem Qq{K:Type} [DecidableEq K]{knd:KeyKind prog w K}{ks:List K}{vs:List Value}(hd:h.DictOf knd p (ks.zip vs))(l:ks.length=vs.length):ks.Nodup:=by
 refine pi hd λ_ _ _ _ _ _ _ _ z=>?_;clear hd
 rwa [List.map_fst_zip (D3 l)]at z
open Classical in
theorem rK{i:AV}{vi:Value}{p:Addr×Option Addr}(e:JF Z j i x o=some Z')(S:SR prog w B bad O Z s.heap)(hp:O[j]? =some p)(ho:OR prog w s.heap bad O p o)(ri:VR prog w s.heap bad O i vi)(rx:VR prog w s.heap bad O x v)(hu:A.units+20<cLine):wpAny (model prog w) A (setItem (.ref p.1) vi v) (λ_ s'=>bf prog w B bad O s Z' s') E s:=by
 induction o with
 |list xs=>refine gk ho λh2 vs n ho hv=>ga e λk ek e=>VR.Od ri ek λt=>Uc e λhc e=>?_;have l:=ya.length hv;refine Ay ho hc.1 (by have:=hc.2.1;unfold Ab at this;lia) (by lia) (λn' ag=>?_);have sb:Heap.SameBut p.1 s.heap (s.heap.update p.1 (Obj.mapSeq (·.setIfInBounds k.toNat v))):=Heap.SameBut.update ..;exact z0 e▸bf.of (tk:=s.toks) S hp h2 sb ⟨_,ag⟩ (ow h2 _ n' ag (ya.set _ (ya.upd hp h2 sb hv) (VR.upd hp h2 sb rx)))|Ea kvs=>
  refine Eh ho λh2 vs hd hv=>?_;clear ho;refine ga e λk ek e=>VR.Od ri ek λt=>Uc e λhc e=>?_;have l:(kvs.map (·.1)).length=vs.length:=by rw[R0,<-ya.length hv,R0]
  refine wpAny_setItem_pairs (intKind_is prog w k t) hd (λh' xw sb=>?_) (by rw[List.length_zip,R0];exact pj ((A0 (Nat.min_le_left _ _) ‹_›)));exact Xa (sq (s:={s with heap:=h'}) (key:=id) id (set:=qe) (λ_ _=>rfl) (λ_ _ _ _ _=>rfl) k (VR.upd hp h2 sb rx) kvs (ya.upd hp h2 sb hv) (Qq hd l)) λus e1 ru=>z0 e▸bf.of (tk:=s.toks+1) S hp h2 sb (Pg.at xw) (Nm h2 us (e1▸xw) ru)
 |gb kvs=>
  refine Eh ho λh2 vs hd hv=>?_;clear ho;refine ga e λk ek e=>VR.Tf ri ek λt=>Uc e λhc e=>?_;have l:(kvs.map (Pa ·.1)).length=vs.length:=by rw[R0,<-ya.length hv,R0]
  refine wpAny_setItem_pairs (strKind_is prog w _ t) hd (λh' xw sb=>?_) (by rw[List.length_zip,R0];exact pj ((A0 (Nat.min_le_left _ _) ‹_›)));exact Xa (sq (s:={s with heap:=h'}) (key:=Pa) Be (set:=Fy) (λ_ _=>rfl) (λ_ _ _ _ _=>rfl) k (VR.upd hp h2 sb rx) kvs (ya.upd hp h2 sb hv) (Qq hd l)) λus e1 ru=>z0 e▸bf.of (tk:=s.toks+1) S hp h2 sb (Pg.at xw) (Nm h2 us (e1▸xw) ru)
 |we kvs=>
  refine vj ho λh2 xs hd hk gn cH=>?_;clear ho;refine ga e λks ek e=>Uc e λhc er=>?_;have ek:=Nk ek;subst ek;have kk:KV s.heap (.tup ks) vi:=VR.key ri hc.2.1;refine Qa (id kk) λpa ws m ez tz=>?_;subst ez;refine kA tz λhpa hws=>?_;clear tz;have hn:(xs.map (·.1)).Nodup:=by refine pi hd λ_ _ _ _ _ _ _ _ z=>?_;clear hd;exact z
  have lx:xs.length=kvs.length:=by have:=C0 List.length hk;rw[R0,R0]at this;exact this.symm
  refine wpAny_setItem_heap (knd:=Ig prog w) (k:=ks) (by show A.in1.units+10<cLine;rw[Around.in1_units];exact Fb [_] 411264504142937525132632805437948846849 tO hu) ⟨hc.2.2,kk⟩ hd (λh' xw sb=>?_) (by rw[lx];exact pj hc.1);obtain⟨i1,i2,i3⟩:=bv (s:={s with heap:=h'}) ks (VR.upd hp h2 sb ri) (VR.upd hp h2 sb rx) xs (An hd) hn ⟨hk,ya.upd hp h2 sb gn,ya.upd hp h2 sb cH⟩;exact z0 er▸bf.of (tk:=s.toks+_) S hp h2 sb (by refine Qa xw λo _ _ z _=>?_;clear xw;exact⟨o,z⟩) (pt h2 _ xw i1 i2 i3)
 |_=>exact ns e
theorem wq{i:AV}{va vi:Value}(e:Ad Z a i x=some Z')(S:SR prog w B bad O Z s.heap)(ra:VR prog w s.heap bad O a va)(ri:VR prog w s.heap bad O i vi)(rx:VR prog w s.heap bad O x v)(hu:A.units+20<cLine):wpAny (model prog w) A (setItem va vi v) (λ_ s'=>bf prog w B bad O s Z' s') E s:=
 ga e λj ej e=>ga e λo ho er=>by
  have ej:=Xn ej;subst ej;exact Wj S ra ho λp hp ho=>rK er S hp ho ri rx hu
structure yW(K:Frag):Prop where
 get:∀c n,Ud c n=true->plainGet K c (nm n)=true/\hasDictIn K c=true/\findIn K (.ref c) (nm n)=some none
 set:∀c n,Ud c n=true->findIn K (.ref c) "__setattr__"=some (some (.builtin "object.__setattr__"))/\plainOver K c=true/\takerIn K c (nm n)=some none
 Dc:∀c n f,xo c n=some f->plainGet K c (nm n)=true/\findIn K (.ref c) (nm n)=some (some (.ref f))/\isFn K (.ref f)=true
theorem qG:∀n n',n<32->nm n'=nm n->n'=n:=by
 intro n n' h e;by_cases h':n'<32
 ·have:∀n<32,∀n'<32,nm n'=nm n->n'=n:=by decide+kernel
  exact this n h n' h' e
 ·have e1:nm n'="?":=by unfold nm;refine rr List.getD_eq_getElem?_getD<|rr (List.getElem?_eq_none (show Ee.length<=n' from Nat.le_of_not_lt h')) ?_;rfl
  replace e:=e1▸e;have:∀n<32,("?":Str)≠nm n:=by decide+kernel
  exact absurd e (this n h)
set_option tactic.hygienic true in
theorem kB{m:Str->Option Value}(hn:h.Ns d m)(name:Str):∃o,h.get? d=some o/\lookIn name o=some (m name):=by
 refine Wf hn λo es ep ho hd hk hf=>?_;refine(Na o ho ?_);unfold lookIn;refine rr hd ?_;dsimp only;have h1:=hf name;unfold nsFind findBy at h1;replace h1:=Array.find?_toList.symm▸h1;have hany:es.toList.any (·.refKey)=false:=by rw[Array.any_toList,Array.any_eq_false'];intro e he;refine Cp (hk e he) λn t h=>?_;simp[DictEntry.refKey,h]
 split
 ·rename_i e he;replace h1:=he▸h1;refine rq h1 ?_;rfl
 ·rename_i he;replace h1:=he▸h1;refine rr hany<|rq h1 ?_;rfl
theorem si{x C:Addr}{m:Str->Option Value}(hx:h.get? x=some (instObj C dx))(hn:h.Ns dx m):∃od,InstAt h x (instObj C dx) C (some od)/\h.get? dx=some od/\∀name,lookIn name od=some (m name):=by refine Xa (kB hn "x") λo ho _=>(Kf o ⟨hx,rfl,rfl,ho⟩ ho (λname=>?_));refine Xa (kB hn name) λo' Wg e=>?_;replace Wg:=ho▸Wg;have e:=z0 Wg;subst e;exact e
theorem Dr(r:VR prog w h bad O a v):handedIn v=true:=r.see.2
theorem Cw{x C:Addr}{m:Str->Option Value}{Q:Value->Shared->Prop}(X:K.In s.heap)(hx:s.heap.get? x=some (instObj C dx))(hn:s.heap.Ns dx m)(h1:plainGet K C name=true)(h2:hasDictIn K C=true)(h3:findIn K (.ref C) name=some none)(hv:m name=some v)(hh:handedIn v=true)(q:Q v {s with toks:=s.toks+1}):wpAny (model prog w) A (getAttr (.ref x) name GL) Q E s:=Df (si hx hn) λod I ho hl=>get_value X I (plainGet_of h1).1 (findObj_own h2 h3 rfl (by rw[hl,hv])) hh q
theorem rM{r:AV}{va:Value}(KO:yW K)(X:K.In s.heap)(e:Ze Z n a=some r)(S:SR prog w B bad O Z s.heap)(ra:VR prog w s.heap bad O a va)(q:Q r Z):wpAny (model prog w) A (getAttr va (nm n) GL) (aa prog w B bad O s Q) E s:=by
 cases a with
 |node k a ks f t d=>
  refine Um.k (P:=λva=>wpAny (model prog w) A (getAttr va (nm n) GL) (aa prog w B bad O s Q) E s) ra λp dx m va1 l vs k' tk tf tt td f1 f2 f3 h1 h2 m0 m1 tP m2 h3 hs m3 m4 m5=>?_;have go:∀{n:Nat}{v:Value}{r:AV},Ud aB n=true->m (nm n)=some v->VR prog w s.heap bad O r v->Q r Z->wpAny (model prog w) A (getAttr (.ref p) (nm n) GL) (aa prog w B bad O s Q) E s:=λh hm hr q=>
   let⟨g1,g2,g3⟩:=KO.get aB _ h
   Cw X h1 h2 g1 g2 g3 hm (Dr hr) (aa.now S hr q)
  match n with|0=>exact go rfl m0 (z0 e▸VR.I _ _) q|1=>exact go rfl m1 (z0 e▸tP) q|2=>exact go rfl m2 (z0 e▸((Ob l vs k' rfl f3 h3 hs):VR prog w s.heap bad O (.ba ks) (.ref l))) q|3=>exact go rfl m3 (z0 e▸VR.I _ _) q|4=>exact go rfl m4 (z0 e▸VR.I _ _) q|5=>exact go rfl m5 (z0 e▸VR.I _ _) q|n+6=>exact ns e
 |ref j=>
  refine ga e λo ho e=>ga e λpp ep e=>Uc e λhc e=>?_;induction o with|inst c fs=>have ep:=z0 ep;subst ep;refine Wj S ra ho λp hp ho=>?_;refine Dg ho λd m h2 hx hn g1 g2=>?_;exact Xa (g1 n r e) λv hv hr=>Mm (KO.get c n hc) λk1 k2 k3=>Cw X hx hn.ns k1 k2 k3 hv (Dr hr) (aa.now S hr q)|_=>exact ns ep
 |_=>exact ns e
theorem Ci(n k:Nat)(v:AV):∀fs,Jb k (Sj n v fs)=if k=n then some v else Jb k fs
 |[]=>by
  by_cases h:k=n
  ·exact rr (X0 h)<|X0 h.symm
  ·exact rr (Y0 h)<|Y0 (i4 h)
 |(a,u)::r=>by
  by_cases h:a=n
  ·refine rr (show Sj n v ((a,u)::r)=(a,v)::r from X0 h) ?_;by_cases h2:a=k
   ·exact rr (X0 (h2▸h:k=n))<|X0 h2
   ·exact rr (Y0 (λz=>h2 (h.trans z.symm):¬k=n))<|(Y0 h2:Jb k ((a,v)::r)=_).trans (Y0 h2:Jb k ((a,u)::r)=_).symm
  ·refine rr (show Sj n v ((a,u)::r)=(a,u)::Sj n v r from Y0 h) ?_;by_cases h2:a=k
   ·exact rr (Y0 (λz=>h (h2.trans z):¬k=n))<|(X0 h2:Jb k ((a,u)::Sj n v r)=_).trans (X0 h2:Jb k ((a,u)::r)=_).symm
   ·exact rr (show Jb k ((a,u)::r)=Jb k r from Y0 h2)<|(Y0 h2:Jb k ((a,u)::Sj n v r)=_).trans (Ci n k v r)
theorem TC{c:Nat}(h:Ud c n=true):n<32:=by unfold Ud at h;simp only[Bool.or_eq_true,M0,decide_eq_true_eq]at h;lia
theorem wO{x C:Addr}{m:Str->Option Value}{tk:Tok}{R:Result->Shared->Prop}(X:K.In s.heap)(hx:s.heap.get? x=some (instObj C dx))(hn:s.heap.Ns1 dx m)(h2:plainOver K C=true)(h3:takerIn K C name=some none)(h4:hasDictIn K C=true){l:List Str}(hw:Within (λx=>if x=name then some v else m x) l)(hl:l.length<=1000)(q:∀h' tk,h'.Ns1 dx (λx=>if x=name then some v else m x)->Heap.SameBut dx s.heap h'->R (.ok (.ret .none)) {s with heap:=h',toks:=tk}):codeAny (model prog w) A (.call (.builtin "object.__setattr__") ⟨[.ref x,.str name tk,v],[]⟩) R s:=by refine Df (si hx hn.ns) λod I ho hlk=>osa_open X I h2 h3 λb=>Xa (any_some h4) λcd hc xw=>E0 (A2 (E0 (E0 (wpAny_loadPart hx (E0 ((looks_clsIn X hc).here ?_))))));refine rr xw<|A2 (a:=some dx) (E0 (A2 (E0 ?_)));refine wpAny_nsSet1 hn λh' ag yr=>LG (ag.count hw) λo es ep Wg oL hz=>?_;refine E0 (wpAny_lookBehind Wg (by refine rr oL ?_;exact pastItsLine_dict (by refine rr sizeLine_eq ?_;exact A0 ‹_› (A0 ‹_› (N0 rfl)))) ?_);exact A2 (q h' _ ag yr)
theorem IF{x C:Addr}{m:Str->Option Value}{Q:Unit->Shared->Prop}(X:K.In s.heap)(hx:s.heap.get? x=some (instObj C dx))(hn:s.heap.Ns1 dx m)(h1:findIn K (.ref C) "__setattr__"=some (some (.builtin "object.__setattr__")))(h2:plainOver K C=true)(h3:takerIn K C name=some none)(h4:hasDictIn K C=true){l:List Str}(hw:Within (λx=>if x=name then some v else m x) l)(hl:l.length<=1000)(q:∀h' tk,h'.Ns1 dx (λx=>if x=name then some v else m x)->Heap.SameBut dx s.heap h'->Q () {s with heap:=h',toks:=tk}):wpAny (model prog w) A (PySem.setAttr (.ref x) name v) Q E s:=Df (si hx hn.ns) λod I ho hlk=>set_plain X I h1 (wO (s:={s with toks:=s.toks+1}) X hx hn h2 h3 h4 hw hl q)
theorem pG(n:Nat):nm n∈("?":Str)::Ee:=by
 by_cases h:n<32
 ·have:∀n<32,nm n∈("?":Str)::Ee:=by decide+kernel
  exact this n h
 ·have e1:nm n="?":=by unfold nm;refine rr List.getD_eq_getElem?_getD<|rr (List.getElem?_eq_none (show Ee.length<=n from Nat.le_of_not_lt h)) ?_;rfl
  exact rr e1 Q4
theorem Ey{va:Value}(KO:yW K)(X:K.In s.heap)(e:setAttr Z a n x=some Z')(S:SR prog w B bad O Z s.heap)(ra:VR prog w s.heap bad O a va)(rx:VR prog w s.heap bad O x v):wpAny (model prog w) A (PySem.setAttr va (nm n) v) (λ_ s'=>bf prog w B bad O s Z' s') E s:=by
 refine ga e λj ej e=>ga e λo ho e=>ga e λpp ep e=>Uc e λhc e=>?_;have e:=z0 e;subst e;have ej:=Xn ej;subst ej;clear e;clear e;clear e;induction o with
 |inst c fs=>
  have ep:=z0 ep;clear e;clear e;subst ep;refine Wj S ra ho λp hp ho=>?_;refine Dg ho λd m h2 hx hn g1 g2=>?_;clear ho;refine Mm (KO.set c n hc) λk1 k2 k3=>Mm (KO.get c n hc) λ_ k4 _=>IF (l:=("?":Str)::Ee) X hx hn k1 k2 k3 k4 (λy hy=>?_) (N0 rfl) λh' tk ag sb=>?_
  ·by_cases hyn:y=nm n
   ·exact rr hyn<|pG n
   ·have hy:m y≠none:=by simpa[hyn]using hy
    exact kE (Option.ne_none_iff_exists'.mp hy) λv' Op=>db (g2 y v' Op) λn' _ _ e'=>rq e'<|pG n'
  have pg:p.1≠d:=by intro z;have nd:=S.nodup;have cR:p∈O:=A4 hp;refine Cp (List.append_of_mem cR) λl1 l2 ez=>?_;clear S rx ra hp g1 cR;subst ez;rw[Za]at nd;have:=(List.nodup_append.mp nd).2.1;simp[uc,h2,z]at this
  have k:∀a o,a≠p.1->p.2≠some a->s.heap.get? a=some o->h'.get? a=some o:=λa o _ h3 h4=>(sb.2 a (λz=>h3 (z▸h2))).trans h4;have l:∀a o,s.heap.get? a=some o->∃o',h'.get? a=some o':=λa o h4=>by
   by_cases ha:a=d
   ·clear h2 hx hn sb pg;subst ha;exact Ns.at ag.ns
   ·exact⟨o,(sb.2 a ha).trans h4⟩
  have kp:Kp s.heap h' bad bad O O:=⟨λa o hf ea=>k a o (λq=>hf.2 (ub hp (.inl q))) (λq=>hf.2 (ub hp (.inr q))) ea,λ_ _ hf _=>hf,λ_ _ q=>q⟩;refine(Wa h' tk rfl (Zc.upd hp k l) (S.upd hp k l (sd d _ h2 ((sb.2 _ pg).trans hx) ag (λn' a' iN=>?_) (λnme v' Op=>?_))))
  ·rw[Ci]at iN;by_cases bN:n'=n
   ·replace iN:=X0 bN▸iN;have e:=z0 iN;clear iN;subst e;exact(Na v (by refine rr bN ?_;simp) (VR.keeps kp rx))
   ·replace iN:=Y0 bN▸iN;refine Xa (g1 n' a' iN) λv' Op wP=>(Na v' ?_ (VR.keeps kp wP));exact rr (Y0 λz=>bN (qG n n' (TC hc) z)) Op
  ·by_cases bN:nme=nm n
   ·exact(sk n x (by rw[Ci,X0 rfl]) bN.symm)
   ·replace Op:=Y0 bN▸Op;refine db (g2 nme v' Op) λn' a' h5 h6=>(sk n' a' ?_ h6);rw[Ci,Y0 (λz=>bN (by exact rq h6<|rr z rfl))];exact h5
 |_=>exact ns ep
noncomputable def QD(f:Nat):Value:=fo (.type "str") [.builtin "len",.type "range",.builtin "sorted",.type "tuple",.type "list",.builtin "all",.builtin "any",.type "enumerate",.type "str"] f
theorem Vi:∀a b:List Int,a.Pairwise (· <=·)->b.Pairwise (· <=·)->a.Perm b->a=b
 |[],b,_,_,p=>(List.Perm.nil_eq p)|x::a,[],_,_,p=>absurd p.length_eq (by simp)|x::a,y::b,ha,hb,p=>by
  have hx:=List.pairwise_cons.mp ha;have hy:=List.pairwise_cons.mp hb;have e:x=y:=by
   have m1:x∈y::b:=p.mem_iff.mp Q4;have m2:y∈x::a:=p.mem_iff.mpr Q4;rcases K1.mp m1 with e|m1
   ·exact e
   ·rcases K1.mp m2 with e|m2
    ·exact e.symm
    ·exact Int.le_antisymm (hx.1 y m2) (hy.1 x m1)
  subst e;exact rr (Vi a b hx.2 hy.2 (List.Perm.cons_inv p)) rfl
theorem Il(x:Int):∀l,(fg x l).Perm (x::l)
 |[]=>List.Perm.refl _|y::l=>by
  by_cases h:x<=y
  ·rw[show fg x (y::l)=x::y::l from X0 h]
  ·exact rr (show fg x (y::l)=y::fg x l from Y0 h)<|((Il x l).cons y).trans (List.Perm.swap x y l)
theorem Qn:∀l,(Ib l).Perm l|[]=>List.Perm.refl _|x::l=>(Il x _).trans ((Qn l).cons x)
theorem qm(x:Int):∀l:List Int,l.Pairwise (· <=·)->(fg x l).Pairwise (· <=·)
 |[],_=>List.pairwise_singleton _ _|y::l,h=>by
  have hy:=List.pairwise_cons.mp h;by_cases XM:x<=y
  ·exact rr (show fg x (y::l)=x::y::l from X0 XM)<|List.pairwise_cons.mpr ⟨λz hz=>(K1.mp hz).elim (λe=>e▸XM) λhz=>Int.le_trans XM (hy.1 z hz),h⟩
  ·exact rr (show fg x (y::l)=y::fg x l from Y0 XM)<|List.pairwise_cons.mpr ⟨λz hz=>(K1.mp ((Il x l).mem_iff.mp hz)).elim (λe=>e▸Int.le_of_lt (Int.lt_of_not_ge XM)) (hy.1 z),qm x l hy.2⟩
theorem Oj:∀l:List Int,(Ib l).Pairwise (· <=·)|[]=>List.Pairwise.nil|x::l=>qm x _ (Oj l)
theorem aa.grow(S:SR prog w B bad O Z s.heap)(k:∀a o,s.heap.get? a=some o->h'.get? a=some o)(r:VR prog w h' bad O av v)(q:Q av Z):aa prog w B bad O s Q v {s with heap:=h',toks:=tk}:=
 ⟨av,Z,O,h',tk,rfl,Zc.of_keep k,S.ext k,r,q⟩
theorem sH(S:SR prog w B bad O Z s.heap)(hb:∀a,bad a->∃o,s.heap.get? a=some o){a:Addr}(h:s.heap.get? a=none):Fz bad O a:=by
 refine⟨λq=>?_,λq=>?_⟩
 ·refine kE (hb _ q) λo e=>?_;replace e:=h▸e;exact ns e
 ·refine bw (S.off _ q) λ_ _ o e=>?_;replace e:=h▸e;exact ns e
theorem pH{a:Addr}(e:h.objs.size<=a):h.get? a=none:=by
 cases q:h.get? a with|none=>rfl|some o=>exact absurd (o5 q) (Nat.not_lt.mpr e)
theorem RG(xs:List AV):∀{vs:List Value}{ns:List Int},Gf xs=some ns->ya prog w h bad O xs vs->IntsAre vs ns:=by
 induction xs with
 |nil=>intro vs ns e r;exact rq (z0 e)<|rr (r:vs=[]) .nil
 |cons x xs ih=>intro vs ns e r;refine ga e λi ei e=>Fc e λm e1 e2=>xc r λv q ev r1 r2=>?_;clear r;subst ev e2;exact VR.Od r1 ei λt=> .cons _ _ (ih e1 r2)
theorem UI{vs:List Value}{ns:List Int}(e:IntsAre vs ns):ya prog w h bad O (ns.map AV.int) vs:=by
 induction e with|nil=>rfl|cons _ _ _ ih=>exact(Wa _ _ rfl ⟨_,rfl⟩ ih)
theorem im{XQ:List Int}{vs':List Value}(S:SR prog w B bad O Z s.heap)(hb:∀a,bad a->∃o,s.heap.get? a=some o)(k:∀a o,s.heap.get? a=some o->h'.get? a=some o)(hD:s.heap.get? D=none)(ho:h'.get? D=some (seqObj "list" vs'.toArray n))(hI:IntsAre vs' XQ)(hp:XQ.Perm ks)(hs:XQ.Pairwise (· <=·))(q:Q (.ba ((Ib ks).map .int)) Z):aa prog w B bad O s Q (.ref D) {s with heap:=h',toks:=tk}:=by have e:XQ=Ib ks:=Vi _ _ hs (Oj ks) (hp.trans (Qn ks).symm);clear hp hs;subst e;exact aa.grow (av:= .ba _) S k ((Ob D vs' n rfl (sH S hb hD) ho (UI hI))) q
theorem nv{kvs:List (Int×AV)}{p:Addr×Option Addr}(hB:∃o,B.get? 1=some o)(hh:A.handled=none)(e:kvs.map (·.1)=ks)(hl:ks.length<=60)(S:SR prog w B bad O Z s.heap)(hb:∀a,bad a->∃o,s.heap.get? a=some o)(hp:O[j]? =some p)(ho:OR prog w s.heap bad O p (.Ea kvs))(q:Q (.ba ((Ib ks).map .int)) Z):wpAny (model prog w) A (call (.builtin "sorted") [.ref p.1]) (aa prog w B bad O s Q) E s:=by
 subst e;refine Eh ho λ_ vs hd hv=>?_;clear ho;have l:=ya.length hv;simp only[R0]at l hl;refine kE hd.dictAt λep hat=>?_;have hzl:((kvs.map (·.1)).zip vs).length=kvs.length:=by simp;lia
 refine call_function_entry kind_sorted plain_sorted entry_sorted (args_sorted1 _) ?_;unfold Builtin.«sorted»;refine E0 (m:=checkCount "sorted" 1 1 _) (A2 ?_);refine E0 (kdu_collect (A:=A.in1) (kdl_dict (knd:=intKind prog w) (ep:=ep) (fi (Qy hB S (ub hp (.inl rfl))))) (by rw[Around.in1_handled];exact hh) hat (by rw[hzl,sizeLine_eq];exact A0 ‹_› (N0 rfl)) λh' tk Ra hk vD=>?_);have hal:Ra.toList.length=kvs.length:=by refine rr Array.length_toList ?_;exact vD.1.trans hzl
 have hI:IntsAre Ra.toList (kvs.map (·.1)):=by
  have key:∀(ks:List Int)(us:List Value),us.length=ks.length->(∀(j:Nat)(u:Value),us[j]? =some u->∃k,ks[j]? =some k/\(intKind prog w).is k u=true)->IntsAre us ks:=by
   intro ks;induction ks with
   |nil=>intro us h1 _;have:=List.length_eq_zero_iff.mp h1;clear h1;subst this;exact .nil|cons k ks ih=>
    intro us h1 h2;induction us with|nil=>simp at h1|cons u us=>refine Xa (h2 0 u rfl) λk' e1 e2=>?_;simp at e1;subst e1;refine kE (Value.isInt_shape e2) λt ez=>?_;clear e2;subst ez;exact .cons _ _ (ih us (by simpa using h1) λj u' hu=>by simpa using h2 (j+1) u' (by simpa using hu))
  refine key _ _ (by rw[hal];simp) λj u hu=>db (vD.2 j u (by refine rq Array.getElem?_toList ?_;exact hu)) λk x hx dN=>?_;refine(Na k ?_ dN);have:=C0 (Option.map Prod.fst) hx;rw[<-P4,List.map_fst_zip (by simp;exact D3 ‹_›)]at this;exact this
 refine E0 (wpAny_newList ?_ (by rw[hal,sizeLine_eq];exact A0 ‹_› (N0 rfl)));have hoL:(h'.push (seqObj "list" Ra.toList.toArray 0)).get? h'.objs.size=some (seqObj "list" Ra.toList.toArray 0):=J2 _ rfl;show wpAny _ _ _ _ _ {s with heap:=h'.push (seqObj "list" Ra.toList.toArray 0),toks:=tk};refine E0 (Y3 (wpAny_call_entry slot_list_sort (Na _ hoL rfl) entry_list_sort (list_sort_tree hoL hI (by rw[hal];exact D4 ‹_› (N0 rfl)) λout XQ a1 a2 a3=>(Na _ rfl ?_)) (args_list_sort _)));refine A2 (Na _ rfl ?_);refine kE (sortedHeap_at (vs:=Ra.toList) (out:=out) hoL) λe1 he=>?_;have hsz:s.heap.get? h'.objs.size=none:=by
  cases q:s.heap.get? h'.objs.size with|none=>rfl|some o=>have:=hk _ _ q;rw[Nc]at this;exact ns this
 refine im (vs':=out.toList) S hb (λb o hbo=>?_) hsz (by refine rr Array.toArray_toList ?_;exact he) a1 a2 a3 q;have qz:=hk b o hbo;exact rr (sortedHeap_old (H4 (o5 qz)) (by rw[Heap.size_push];exact Nat.lt_succ_of_lt (o5 qz)))<|J1 _ qz
theorem KC{va:Value}(hB:∃o,B.get? 1=some o)(hh:A.handled=none)(e:uq Z a=some ks)(hl:ks.length<=60)(S:SR prog w B bad O Z s.heap)(hb:∀a,bad a->∃o,s.heap.get? a=some o)(ra:VR prog w s.heap bad O a va)(q:Q (.ba ((Ib ks).map .int)) Z):wpAny (model prog w) A (call (.builtin "sorted") [va]) (aa prog w B bad O s Q) E s:=by
 have Ew:∀{p:Addr}{xs:List AV}{vs:List Value}{n:Nat},Gf xs=some ks->s.heap.get? p=some {cls:= .type "list",data:= .seq (List.toArray vs) n}->ya prog w s.heap bad O xs vs->
   wpAny (model prog w) A (call (.builtin "sorted") [.ref p]) (aa prog w B bad O s Q) E s:=by
  intro p xs vs n e ho hv;have hI:=RG _ e hv;have Om:=IntsAre.length hI;exact sorted_ints (vs:=vs) (Cb _ ho rfl _ rfl) hI (Jc [_,_] 1331834285419056908434422139231168513 tO hl Om) λout XQ a1 a2 a3=>kE (sortedAll_at s.heap vs out) λe1 he=>im (vs':=out.toList) (tk:=s.toks) S hb (λ_ _=>sortedAll_old) (pH (Y4 _)) (rr Array.toArray_toList he) a1 a2 a3 q
 cases a with
 |ba xs=>exact Qm ra λp vs n _ ho hv=>Ew e ho hv|ref j=>
  refine ga e λo ho e=>Wj S ra ho λp hp ho=>?_;induction o with|list xs=>exact gk ho λ_ vs n ho hv=>Ew e ho hv|Ea kvs=>exact nv hB hh (z0 e) hl S hb hp ho q|_=>exact ns e
 |_=>exact ns e
section
theorem Pj{o:Option (List AV)}{xs:List AV}{G:Prop}(e:Se o=some xs)(k:o=some xs->xs.length<=Ab->G):G:=ga e λys ey e=>Uc e λh e=>k (ey.trans e) (rq (z0 e) h)
theorem PP(h:n<=Ab):(n:Int)<2^63:=by unfold Ab at h;lia
theorem jM{b:Bool}(e:jx a=some b):a= .bool b:=by cases a with|bool c=>exact C0 AV.bool (z0 e)|_=>exact ns e
theorem GI{f:List AV->Option Bool}{g:Bool->Bool->Bool}(f0:f []=some z)(f1:∀x xs,f (x::xs)=(jx x).bind λb=>(f xs).map (g b))(xs:List AV):∀{vs:List Value}{r:Bool},ya prog w h bad O xs vs->f xs=some r->∃bs:List Bool,vs=bs.map Value.bool/\bs.foldr g z=r:=by
 induction xs with
 |nil=>intro vs r rv e;exact(Na [] rv (z0 (f0.symm.trans e)))|cons x xs ih=>
  intro vs r rv e;rw[f1]at e;refine ga e λb eb e=>Fc e λt et e=>xc rv λv q ev r1 r2=>?_;clear rv;subst ev e;refine Xa (ih r2 et) λbs e1 e2=>?_;have r1:v= .bool b:=by replace r1:=jM eb▸r1;exact r1
  exact(Na (b::bs) (by refine rr r1<|rr e1 ?_;rfl) (C0 (g b) e2))
theorem Fq(bs:List Bool):(List.range bs.length).all (λi=>bs.getD i false)=bs.all id/\(List.range bs.length).any (λi=>bs.getD i false)=bs.any id:=by
 induction bs with
 |nil=>exact⟨rfl,rfl⟩|cons b bs ih=>
  simp only[P2,List.range_succ_eq_map,List.all_cons,List.any_cons,List.all_map,List.any_map];have e:((λi=>(b::bs).getD i false)∘Nat.succ)=λi=>bs.getD i false:=by funext i;simp
  refine rr e<|rr ih.1<|rr ih.2 ?_;simp
theorem jp{bs:List Bool}(hh:A.handled=none)(ho:s.heap.get? p=some {cls:= .type "list",data:= .seq (List.toArray (bs.map Value.bool)) n})(hl:bs.length<=Ab)(h:∀I fp wr n Pt St,Walks prog w A I fp wr n Pt St->St 0 (s.heap.push {cls:= .type "list_iterator",data:= .fields #[.ref p,.int 0 0]})->n=bs.length->TruthOf prog w A Pt (λi=>bs.getD i false)->wr=[s.heap.objs.size]->I=s.heap.objs.size->P (.ref I) {s with heap:=s.heap.push {cls:= .type "list_iterator",data:= .fields #[.ref p,.int 0 0]}}):wpAny (model prog w) A (pyIter (.ref p)) P E s:=by
 have hl1:s.heap.IsList p (bs.map Value.bool).toArray:=(Cb _ ho rfl _ rfl);have jn:p<s.heap.objs.size:=o5 ho;refine wpAny_pyIter_list hl1<|h s.heap.objs.size _ _ _ _ _ (Walks.list hh _ p (H4 jn) (bs.map Value.bool).toArray) ⟨(Kf _ (J2 _ rfl) rfl rfl),hl1.push _⟩ (by simp) (λi v s' Q' E' hP hq=>?_) rfl rfl;have hP':(bs[i]?).map Value.bool=some v:=by have h1:((bs.map Value.bool).toArray)[i]? =some v:=hP;replace h1:=P4▸(List.getElem?_toArray▸h1);exact h1
 refine Xa (Option.map_eq_some_iff.mp hP') λb hb1 ez=>?_;clear hP hP';subst ez;have:bs.getD i false=b:=by refine rr List.getD_eq_getElem?_getD<|rr hb1 ?_;rfl
 have hq2:Q' (bs.getD i false) s':=hq;replace hq2:=this▸hq2;exact wpAny_truthy_bool hq2
theorem yz{k:Int}{r:List Nat}(e:EH k=some r):Str.ofString (toString k)=Pa r/\k.natAbs.log2<1920:=by
 unfold EH at e;split at e
 ·rename_i h;have e:=z0 e;subst e;clear e;have:k=0\/k=1\/k=2\/k=3\/k=4\/k=5\/k=6\/k=7\/k=8\/k=9:=by lia
  rcases this with rfl|rfl|rfl|rfl|rfl|rfl|rfl|rfl|rfl|rfl<;>decide+kernel
 ·exact ns e
def RQ(prog:Program)(w:World)(B:Heap)(bad:ie)(O:Io)(Z:AH)(s:Shared)(A:Around)(E:Value->Shared->Prop)(Q:AV->AH->Prop)(r:AV)(vs:List Value)(xs:List AV)(f:AH->List AV->Option AV)(c:Value):Prop:=
 f Z xs=some r->ya prog w s.heap bad O xs vs->Q r Z->wpAny (model prog w) A (call c vs) (aa prog w B bad O s Q) E s
variable{r:AV}{xs:List AV}{vs:List Value}
theorem lj{f:AH->AV->Option AV}{c:Value}(k:∀a v,f Z a=some r->VR prog w s.heap bad O a v->Q r Z->wpAny (model prog w) A (call c [v]) (aa prog w B bad O s Q) E s):RQ prog w B bad O Z s A E Q r vs xs (one f) c:=λe rs q=>by
 cases xs with
 |nil=>exact ns e|cons a xs=>cases xs with
  |nil=>exact xc rs λv q' ev r1 r2=>rr ev<|rr (r2:q'=[])<|k a v e r1 q
  |cons=>exact ns e
theorem oO(S:SR prog w B bad O Z s.heap)(hb:∀a,bad a->∃o,s.heap.get? a=some o):RQ prog w B bad O Z s A E Q r vs xs wS (.type "range"):=λe rs q=>by
 have fz:=Di S hb;cases xs with
 |nil=>exact ns e|cons a xs=>
  refine ga e λx ex e=>xc rs λv q' ev r1 r2=>?_;clear rs;subst ev;refine VR.Od r1 ex λt=>?_;cases xs with
  |nil=>refine rr (r2:q'=[])<|Rd e λ_ e=>call_range_1 ?_;subst e;exact aa.push (av:= .Gk _ _) S ((Vc _ _ _ _ rfl fz (J2 _ rfl))) q
  |cons b xs=>
   refine ga e λy ey e=>xc r2 λv2 q2 ev2 r3 r4=>?_;clear r2;subst ev2;cases xs with
   |nil=>refine rr (r4:q2=[])<|VR.Od r3 ey λt2=>Rd e λ_ e=>call_range_2 ?_;subst e;exact aa.push (av:= .Gk _ _) S ((Vc _ _ _ _ rfl fz (J2 _ rfl))) q
   |cons=>exact ns e
theorem jT{P:Value->Prop}(e:TX Z a=some ys)(S:SR prog w B bad O Z s.heap)(ra:VR prog w s.heap bad O a v)(kt:∀p us n,s.heap.get? p=some {cls:= .type "tuple",data:= .seq (List.toArray us) n}->ya prog w s.heap bad O ys us->P (.ref p))(kl:∀p us n,s.heap.get? p=some {cls:= .type "list",data:= .seq (List.toArray us) n}->ya prog w s.heap bad O ys us->P (.ref p)):P v:=by
 cases a with|tup xs=>replace kt:=(z0 e).symm▸kt;exact am ra λp us n _ ho hv=>kt p us n ho hv|ba xs=>replace kl:=(z0 e).symm▸kl;exact Qm ra λp us n _ ho hv=>kl p us n ho hv|ref j=>exact Uv S ra e λp us n _ _ ho hv=>kl p.1 us n ho hv|_=>exact ns e
theorem XO(e:zT Z a=some r)(S:SR prog w B bad O Z s.heap)(ra:VR prog w s.heap bad O a v)(q:Q r Z):wpAny (model prog w) A (call (.builtin "len") [v]) (aa prog w B bad O s Q) E s:=
 Fc e λys e1 er=>Pj e1 λe2 hl=>by
  clear e;subst er;have hz:∀{us},ya prog w s.heap bad O ys us->((us.toArray.size:Nat):Int)<2^63/\((us.toArray.size:Nat):Int)=ys.length:=λ{us} hv=>by
   have l:us.toArray.size=ys.length:=(ya.length hv).symm;exact rr l<|⟨PP hl,rfl⟩
  exact jT (P:=λv=>wpAny (model prog w) A (call (.builtin "len") [v]) (aa prog w B bad O s Q) E s) e2 S ra
   (λp us n ho hv=>PyProof.Rows.len_tuple (items:=us.toArray) (Cb _ ho rfl _ rfl) (hz hv).1 (rr ((hz hv).2)<|aa.now S (VR.I _ _) q))
   (λp us n ho hv=>PyProof.Rows.len_list (items:=us.toArray) (Cb _ ho rfl _ rfl) (hz hv).1 (rr ((hz hv).2)<|aa.now S (VR.I _ _) q))
theorem Zh(hv:ya prog w s.heap bad O ys us)(hl:ys.length<=Ab):us.toArray.size<=sizeLine:=by show us.length<=sizeLine;exact rq (ya.length hv)<|pj hl
theorem SJ(e:GR Z a=some r)(S:SR prog w B bad O Z s.heap)(hb:∀a,bad a->∃o,s.heap.get? a=some o)(ra:VR prog w s.heap bad O a v)(q:Q r Z):wpAny (model prog w) A (call (.type "tuple") [v]) (aa prog w B bad O s Q) E s:=
 Fc e λys e1 er=>Pj e1 λe2 hl=>by
  clear e;subst er;refine Dh e2 S ra λp us n ho hv=>call_tuple_list (items:=us.toArray) (Cb _ ho rfl _ rfl) (λh' hk=>?_) (Zh hv hl);have k:∀a o,s.heap.get? a=some o->(h'.push {cls:= .type "tuple",data:= .seq us.toArray}).get? a=some o:=λa o ea=>J1 _ (hk a o ea);refine aa.grow (av:= .tup ys) (tk:=s.toks) S k ?_ q;show∃_ _ _,_;refine(Ob _ us 0 rfl (sH S hb ?_) (J2 _ rfl) (ya.keeps (Kp.of_keep k) hv));cases q:s.heap.get? h'.objs.size with|none=>rfl|some o=>exact ns ((Nc h').symm.trans (hk _ _ q))
theorem QK(e:kT Z a=some r)(S:SR prog w B bad O Z s.heap)(hb:∀a,bad a->∃o,s.heap.get? a=some o)(ra:VR prog w s.heap bad O a v)(q:Q r Z):wpAny (model prog w) A (call (.type "list") [v]) (aa prog w B bad O s Q) E s:=
 Fc e λys e1 er=>Pj e1 λe2 hl=>by
  clear e;subst er;have go:∀{p us n c},(c="list"\/c="tuple")->s.heap.get? p=some {cls:= .type c,data:= .seq (List.toArray us) n}->ya prog w s.heap bad O ys us->wpAny (model prog w) A (call (.type "list") [.ref p]) (aa prog w B bad O s Q) E s:=λ{p us n c} hc ho hv=>
   call_list_seq (items:=us.toArray) p hc ho rfl rfl (λh' c' hk hn=>aa.grow (av:= .ba ys) (tk:=s.toks) S hk ((Ob _ us c' rfl (Di S hb) hn (ya.keeps (Kp.of_keep hk) hv))) q) (Zh hv hl)
  exact jT (P:=λv=>wpAny (model prog w) A (call (.type "list") [v]) (aa prog w B bad O s Q) E s) e2 S ra (λp us n ho hv=>go (.inr rfl) ho hv) (λp us n ho hv=>go (.inl rfl) ho hv)
theorem BH(bs:List Bool):bs.foldr (· &&·) true=bs.all id:=by
 induction bs with|nil=>rfl|cons b bs ih=>exact C0 (b&&·) ih
theorem zH(bs:List Bool):bs.foldr (· ||·) false=bs.any id:=by
 induction bs with|nil=>rfl|cons b bs ih=>exact C0 (b||·) ih
theorem TB{f:List AV->Option Bool}{g:Bool->Bool->Bool}{c:Value}(f0:f []=some z)(f1:∀x xs,f (x::xs)=(jx x).bind λb=>(f xs).map (g b))(k:∀p n(bs:List Bool),s.heap.get? p=some {cls:= .type "list",data:= .seq (List.toArray (bs.map Value.bool)) n}->bs.length<=Ab->(∀h' tk,(∀a o,s.heap.get? a=some o->h'.get? a=some o)->aa prog w B bad O s Q (.bool (bs.foldr g z)) {s with heap:=h',toks:=tk})->wpAny (model prog w) A (call c [.ref p]) (aa prog w B bad O s Q) E s)(e:((Se (lN a)).bind λys=>(f ys).map AV.bool)=some r)(S:SR prog w B bad O Z s.heap)(ra:VR prog w s.heap bad O a v)(q:Q r Z):wpAny (model prog w) A (call c [v]) (aa prog w B bad O s Q) E s:=
 ga e λys e1 e=>Fc e λb e3 er=>Pj e1 λe2 hl=>by
  clear e;clear e;subst er;have e2:=KB e2;clear e1;subst e2;refine Qm ra λp us n _ ho hv=>Xa (GI f0 f1 _ hv e3) λbs e4 e5=>?_;subst e4 e5;exact k p n bs ho (by have l:=ya.length hv;rw[R0]at l;exact Jc [_,_] 44149736285341354696633327909103616 tO hl l) (λh' tk hk=>aa.grow S hk (VR.Bo _) q)
theorem JQ(hh:A.handled=none)(e:QV Z a=some r)(S:SR prog w B bad O Z s.heap)(ra:VR prog w s.heap bad O a v)(q:Q r Z):wpAny (model prog w) A (call (.builtin "all") [v]) (aa prog w B bad O s Q) E s:=
 TB (f:=aE) (g:=(· &&·)) rfl (λ_ _=>rfl) (λp n bs ho hl fin=>by
  refine call_all_walk (jp (A:=A.in1) hh ho hl λI fp wr m Pt St W h0 hm tr hwr hI=>?_);subst hI hwr;refine(qk _ fp _ m Pt St _ rfl W h0 tr (λh' tk hk=>?_));rw[hm,(Fq bs).1,<-BH];exact fin h' tk λa o ea=>hk a o (λz=>by rw[J0.mp z,Nc]at ea;exact ns ea) (J1 _ ea)) e S ra q
theorem GQ(hh:A.handled=none)(e:PV Z a=some r)(S:SR prog w B bad O Z s.heap)(ra:VR prog w s.heap bad O a v)(q:Q r Z):wpAny (model prog w) A (call (.builtin "any") [v]) (aa prog w B bad O s Q) E s:=
 TB (f:=XD) (g:=(· ||·)) rfl (λ_ _=>rfl) (λp n bs ho hl fin=>by
  refine call_any_walk (jp (A:=A.in1) hh ho hl λI fp wr m Pt St W h0 hm tr hwr hI=>?_);subst hI hwr;refine(qk _ fp _ m Pt St _ rfl W h0 tr (λh' tk hk=>?_));rw[hm,(Fq bs).2,<-zH];exact fin h' tk λa o ea=>hk a o (λz=>by rw[J0.mp z,Nc]at ea;exact ns ea) (J1 _ ea)) e S ra q
theorem iK(e:dS Z a=some r)(S:SR prog w B bad O Z s.heap)(ra:VR prog w s.heap bad O a v)(q:Q r Z):wpAny (model prog w) A (call (.type "str") [v]) (aa prog w B bad O s Q) E s:=
 ga e λk ek e=>Fc e λb e1 er=>VR.Od ra ek λt=>by
  clear e;clear e;subst er;refine kA (yz e1) λe2 e3=>PySem.P.str_of_int e3 ?_;show aa _ _ _ _ _ _ _ (.str (Str.ofString (toString k)) s.toks) _;exact rr e2<|aa.now S (VR.S _ _) q
theorem FV{f:Nat}(hB:∃o,B.get? 1=some o)(hh:A.handled=none)(e:og Z f xs=some r)(S:SR prog w B bad O Z s.heap)(hb:∀a,bad a->∃o,s.heap.get? a=some o)(rs:ya prog w s.heap bad O xs vs)(hu:A.units+20<cLine)(q:Q r Z):wpAny (model prog w) A (call (QD f) vs) (aa prog w B bad O s Q) E s:=
 Kv (P:=λf c=>RQ prog w B bad O Z s A E Q r vs xs f c) (λe=>ns e) [_,_,_,_,_,_,_,_,_] [.builtin "len",.type "range",.builtin "sorted",.type "tuple",.type "list",.builtin "all",.builtin "any",.type "enumerate",.type "str"] rfl
  ⟨lj λa v e ra q=>XO e S ra q,oO S hb,lj λa v e ra q=>ga e λks hk e=>Rd e λhl e=>KC hB hh hk hl S hb ra ((show AV.ba ((Ib ks).map .int)=r from e)▸q),lj λa v e ra q=>SJ e S hb ra q,
   lj λa v e ra q=>QK e S hb ra q,lj λa v e ra q=>JQ hh e S ra q,lj λa v e ra q=>GQ hh e S ra q,λe=>ns e,lj λa v e ra q=>iK e S ra q,trivial⟩ f e rs q
end
noncomputable def yG(n:Nat):String:=DV "str.startswith" "list.append" "list.pop" "list.extend" "list.index" "dict.get" "str.startswith" n
theorem sN{P:Nat->Prop}(h0:P 27)(h1:P 28)(h2:P 29)(h3:P 12)(h4:P 30)(h5:P 31)(hd:(∀{α:Type}(d a0 a1 a2 a3 a4 a5:α),DV d a0 a1 a2 a3 a4 a5 n=d)->P n):P n:=by
 have ne:∀{m},n≠m->Nat.beq n m=false:=λh=>Bool.eq_false_iff.mpr λz=>h (Nat.eq_of_beq_eq_true z);by_cases e0:n=27
 ·exact rr e0 h0
 by_cases e1:n=28
 ·exact rr e1 h1
 by_cases e2:n=29
 ·exact rr e2 h2
 by_cases e3:n=12
 ·exact rr e3 h3
 by_cases e4:n=30
 ·exact rr e4 h4
 by_cases e5:n=31
 ·exact rr e5 h5
 exact hd λd a0 a1 a2 a3 a4 a5=>by unfold DV;refine rr (ne e0)<|rr (ne e1)<|rr (ne e2)<|rr (ne e3)<|rr (ne e4)<|rr (ne e5) ?_;rfl
noncomputable def FW:Nat->String:=fo "" ["","list","dict","str"]
section
theorem Ft{K:Type} [DecidableEq K]{knd:KeyKind prog w K}{a:Addr}{kvs:List (K×Value)}(hd:h.DictOf knd a kvs):∃o,h.get? a=some o/\o.dict=none/\o.cls= .type "dict":=
 let⟨o,_,_,ho,he,_⟩:=hd;(Kf o ho he.2.1 he.1)
theorem oj(h:Z[j]? =some o):Ah Z (.ref j)=wG o:=C0 (λq:Option AO=>(q.map wG).getD 0) h
structure oC(s:Shared)(v:Value)(k:Nat):Prop where
 lt:k<4
 ty:s.TypeIs v (FW k)
 no:∀p,v= .ref p->∃o,s.heap.get? p=some o/\o.dict=none
theorem oC.ref{o:Obj}{k:Nat}(ho:s.heap.get? p=some o)(h1:o.dict=none)(hk:k<4)(h2:o.cls= .type (FW k)):oC s (.ref p) k:=
 ⟨hk,(Na _ ho h2),λp' e=>by injection e with e;subst e;exact(Na _ ho h1)⟩
theorem oC.dict{K:Type} [DecidableEq K]{knd:KeyKind prog w K}{kvs:List (K×Value)}(hd:s.heap.DictOf knd p kvs):oC s (.ref p) 2:=Df (Ft hd) λo ho h1 h2=>oC.ref ho h1 (N0 rfl) h2
theorem fB(hn:Ah Z a≠0)(S:SR prog w B bad O Z s.heap)(r:VR prog w s.heap bad O a v):oC s v (Ah Z a):=by
 cases a with
 |ba xs=>exact Qm r λp vs n _ ho _=>oC.ref ho rfl (show 1<4 by decide) rfl|str x=>refine kE r λt ez=>?_;clear r;subst ez;exact⟨show 3<4 by decide,typeIs_str s _ t,λp e=>Value.noConfusion e⟩|rc ks xs=>refine db r λp vs ez tz=>?_;clear r;subst ez;refine wj tz λ_ _ hd _=>?_;clear tz;exact oC.dict hd|Wc kvs=>refine db r λp vs ez tz=>?_;clear r;subst ez;refine wj tz λ_ _ hd _=>?_;clear tz;exact oC.dict hd|ref j=>
  cases ho:Z[j]? with
  |none=>exact absurd (C0 (λq:Option AO=>(q.map wG).getD 0) ho) hn|some o=>
   rw[oj ho]at hn⊢;refine Wj S r ho λp hp ho=>?_;induction o with|list xs=>refine gk ho λ_ vs n ho _=>?_;exact oC.ref ho rfl (show 1<4 by decide) rfl|Ea xs=>refine Eh ho λ_ vs hd _=>?_;clear ho;exact oC.dict hd|gb xs=>refine Eh ho λ_ vs hd _=>?_;clear ho;exact oC.dict hd|we xs=>obtain⟨_,xs,⟨o,_,_,ho,he,_⟩,_⟩:=ho;exact oC.ref ho he.2.1 (show 2<4 by decide) he.1|inst=>exact absurd rfl hn
 |_=>exact absurd rfl hn
theorem uz{pl:Sem Bool}{Q:Value×List Value->Shared->Prop}(e:Ah Z a=Jp n)(S:SR prog w B bad O Z s.heap)(r:VR prog w s.heap bad O a v)(hn:Jp n≠0)(q:Q (.builtin (yG n),[v]) s):wpAny (model prog w) A (getMethod v (nm n) pl) Q E s:=by
 have m:=fB (e▸hn) S r;replace m:=e▸m;exact sN (P:=λn=>Jp n≠0->oC s v (Jp n)->Q (.builtin (yG n),[v]) s->wpAny (model prog w) A (getMethod v (nm n) pl) Q E s)
  (λ_ m q=>getMethod_builtin m.ty F.plainAttrs_list F.slot_list_append F.type_list_append m.no q)
  (λ_ m q=>getMethod_builtin m.ty F.plainAttrs_list F.slot_list_pop F.type_list_pop m.no q)
  (λ_ m q=>getMethod_builtin m.ty F.plainAttrs_list F.slot_list_extend F.type_list_extend m.no q)
  (λ_ m q=>getMethod_builtin m.ty F.plainAttrs_list F.slot_list_index F.type_list_index m.no q)
  (λ_ m q=>getMethod_builtin m.ty F.plainAttrs_dict F.slot_dict_get F.type_dict_get m.no q)
  (λ_ m q=>getMethod_builtin m.ty F.plainAttrs_str F.slot_str_startswith F.type_str_startswith m.no q)
  (λd hn=>absurd (d ..) hn) hn m q
theorem OR.L{p:Addr×Option Addr}{xs:List AV}{vs:List Value}(h2:p.2=none)(ho:h.get? p.1=some {cls:= .type "list",data:= .seq (List.toArray vs) n})(r:ya prog w h bad O xs vs):OR prog w h bad O p (.list xs):=(ow h2 vs n ho r)
structure jW(x:AV)(ys:List AV)(j:Nat):Prop where
 mem:∃r,Bc x ys=some r
 lt:j<ys.length
 at_:Of 4 ys[j] x=some true
 no:∀m(hm:m<ys.length),m<j->Of 4 ys[m] x=some false
theorem WG(ys:List AV):∀{k0 k:Nat},kr x ys k0=some k->∃j,k=k0+j/\jW x ys j:=by
 induction ys with
 |nil=>exact λe=>ns e|cons y ys ih=>
  intro k0 k e;refine ga e λt et e=>ga e λr er e=>?_;have hm:Bc x (y::ys)=some (t||r):=by show((Of 4 y x).bind λa=>(Bc x ys).map (a||·))=_;refine rr et<|rr er ?_;rfl
  induction t with
  |true=>exact⟨0,(z0 e).symm,⟨_,hm⟩,Nat.succ_pos _,et,λm _ h=>absurd h (Nat.not_lt_zero _)⟩|false=>
   refine Xa (ih e) λj e1 i=>⟨j+1,(o4 (Fb [_,_,_] 19881686319809508130480128 tO e1) (Fb [_,_,_] 10209984633002802739413760 tO e1)),⟨_,hm⟩,Nat.succ_lt_succ i.lt,i.at_,λm hm hmj=>?_⟩;induction m with|zero=>exact et|succ m=>exact i.no m (R3 hm) (R3 hmj)
theorem bf.epost(u:bf prog w B bad O s Z' s')(q:Q .none Z'):aa prog w B bad O s Q .none s':=by refine db u λh' tk ez tz=>?_;clear u;subst ez;refine kA tz λx S=>?_;clear tz;exact⟨.none,Z',O,h',tk,rfl,x,S,rfl,q⟩
theorem my(k:Int)(kvs:List (Int×Int)):∀{vs:List Value},IntsAre vs (kvs.map (·.2))->VO prog w s.heap bad O ((To k kvs).map .int) (valueAt ((kvs.map (·.1)).zip vs) k):=by
 induction kvs with
 |nil=>exact λr=>rfl|cons kv kvs ih=>
  intro vs r;cases r with
  |cons n t r=>
   refine rr K4<|rr List.zip_cons_cons<|rr Ll ?_;have e:(To k (kv::kvs)).map AV.int=if kv.1=k then some (.int kv.2)else(To k kvs).map AV.int:=by
    show(if kv.1=k then some kv.2 else To k kvs).map AV.int=_;by_cases h:kv.1=k
    ·refine rr (X0 h)<|rr (X0 h) ?_;rfl
    ·exact rr (Y0 h)<|rr (Y0 h) rfl
   exact rr e<|VO.ite (VR.I _ _) (ih r)
theorem Bt{K:Type} [DecidableEq K]{knd:KeyKind prog w K}{kvs:List (K×Value)}{key:K}{a:Option AV}{d r:AV}(S:SR prog w B bad O Z s.heap)(rd:VR prog w s.heap bad O d vd)(hp:p≠1)(hd:s.heap.DictOf knd p kvs)(hk:knd.is key vk=true)(z:VO prog w s.heap bad O a (valueAt kvs key))(e:a.getD d=r)(q:Q r Z):wpAny (model prog w) A (call (.builtin "dict.get") [.ref p,vk,vd]) (aa prog w B bad O s Q) E s:=
 call_meetsIn F.slot_dict_get hd.typeIs F.entry_dict_get (F.args_dict_get_3 _ _ _) (meets_dict_get_default knd p hk (fi hp) vd) (Na _ hd.mapOf (aa.now S (z.dflt rd) (e▸q)))
open Classical in
theorem sL{k d r:AV}{p:Addr×Option Addr}(e:LU k d o=some r)(S:SR prog w B bad O Z s.heap)(cR:p.1≠1)(ho:OR prog w s.heap bad O p o)(rk:VR prog w s.heap bad O k vk)(rd:VR prog w s.heap bad O d vd)(hu:A.units+20<cLine)(q:Q r Z):wpAny (model prog w) A (call (.builtin "dict.get") [.ref p.1,vk,vd]) (aa prog w B bad O s Q) E s:=by
 induction o with
 |Ea kvs=>refine Eh ho λ_ vs hd hv=>?_;clear ho;exact ga e λk ek e=>VR.Od rk ek λt=>Bt S rd cR hd (intKind_is prog w _ t) (kh kvs k hv) (z0 e) q|gb kvs=>refine Eh ho λ_ vs hd hv=>?_;clear ho;exact ga e λk ek e=>VR.Tf rk ek λt=>Bt S rd cR hd (strKind_is prog w _ t) (Kj hv k) (z0 e) q|we kvs=>
  refine vj ho λ_ xs hd hk gn cH=>?_;clear ho;refine ga e λks ek e=>Uc e λhc er=>?_;have ek:=Nk ek;subst ek;have er:=z0 er;clear e;clear e;subst er;have kk:KV s.heap (.tup ks) vk:=VR.key rk hc.1;refine Qa (id kk) λpa ws m ez tz=>?_;clear rk;subst ez;refine kA tz λhpa hws=>?_;clear tz;refine call_meetsIn F.slot_dict_get hd.typeIs F.entry_dict_get (F.args_dict_get_3 _ _ _) (meetsH_dict_get_default (Ig prog w) p.1 pa (fi cR) vd) (bH ?_ ks xs ⟨hc.2,kk⟩ hd ?_)
  ·show A.in1.units+10<cLine;rw[Around.in1_units];exact Fb [_] 411264504142937525132632805437948846849 tO hu
  ·exact aa.now S ((Sl ks xs hk (An hd) cH).dflt rd) q
 |_=>exact ns e
theorem Bz{k d r:AV}{va:Value}(hB:∃o,B.get? 1=some o)(e:rn Z a k d=some r)(S:SR prog w B bad O Z s.heap)(ra:VR prog w s.heap bad O a va)(rk:VR prog w s.heap bad O k vk)(rd:VR prog w s.heap bad O d vd)(hu:A.units+20<cLine)(q:Q r Z):wpAny (model prog w) A (call (.builtin "dict.get") [va,vk,vd]) (aa prog w B bad O s Q) E s:=by
 cases a with|rc ks xs=>refine db ra λp us ez tz=>?_;clear ra;subst ez;refine wj tz λh1 _ hd hv=>?_;clear tz;exact ga e λk ek e=>VR.Tf rk ek λt=>Bt S rd h1 hd (strKind_is prog w _ t) (Rf k ks hv) (z0 e) q|Wc kvs=>refine db ra λp us ez tz=>?_;clear ra;subst ez;refine wj tz λh1 _ hd hv=>?_;clear tz;exact ga e λk ek e=>VR.Od rk ek λt=>Bt S rd h1 hd (intKind_is prog w _ t) (my k kvs hv) (z0 e) q|ref j=>exact ga e λo ho e=>Wj S ra ho λp hp ho=>sL e S (Qy hB S (ub hp (.inl rfl))) ho rk rd hu q|_=>exact ns e
theorem Ct{xs:List AV}{vs:List Value}(r:ya prog w h bad O xs vs)(e:xs.getLast? =some y):∃v,vs[vs.length-1]? =some v/\VR prog w h bad O y v/\0<vs.length:=by replace e:=List.getLast?_eq_getElem? ▸e;have l:=ya.length r;refine Xa (ya.get r _ _ e) λv hv hr=>?_;replace hv:=l▸hv;refine(Kf v hv hr ?_);have:=(B0.mp hv).1;exact A0 (D0 _ _) ‹_›
@[elab_as_elim] theorem fG{va:Value}{f:Nat->List AV->Option (AV×AH)}{z:AV×AH}{P:Value->Prop}(e:nW Z a f=some z)(S:SR prog w B bad O Z s.heap)(ra:VR prog w s.heap bad O a va)(k:∀i p us m ys,O[i]? =some p->p.2=none->s.heap.get? p.1=some {cls:= .type "list",data:= .seq (List.toArray us) m}->ya prog w s.heap bad O ys us->f i ys=some z->P (.ref p.1)):P va:=
 ga e λi ei e=>ga e λys ey e=>by
  have ei:=Xn ei;subst ei;exact Uv S ra ey λp us m hp h2 ho hv=>k i p us m ys hp h2 ho hv ‹_›
@[elab_as_elim] theorem oo{β:Type}{f:AV->Option β}{xs:List AV}{vs:List Value}{z:β}{P:List Value->Prop}(e:SC f xs=some z)(rs:ya prog w h bad O xs vs)(k:∀x v,f x=some z->VR prog w h bad O x v->P [v]):P vs:=by
 induction xs with
 |nil=>exact ns e|cons x xs=>induction xs with
  |nil=>exact xc rs λv q ev r1 r2=>rr ev<|rr (r2:q=[])<|k x v e r1
  |cons=>exact ns e
variable{r:AV}{va:Value}{xs:List AV}{vs:List Value}
theorem CS [Decidable c]{x:AV×AH}{G:Prop}(e:(if c then some x else none)=some (r,Z'))(k:c->x.1=r->x.2=Z'->G):G:=Uc e λh e=>k h (C0 Prod.fst (z0 e)) (C0 Prod.snd (z0 e))
theorem EQ(e:FQ Z a xs=some (r,Z'))(S:SR prog w B bad O Z s.heap)(ra:VR prog w s.heap bad O a va)(rs:ya prog w s.heap bad O xs vs)(q:Q r Z'):wpAny (model prog w) A (call (.builtin "list.append") (va::vs)) (aa prog w B bad O s Q) E s:=by
 refine fG e S ra λi p us m ys hp h2 ho hv e=>oo e rs λx v e rv=>CS e λhl e1 e2=>?_;clear e;clear e;clear e;subst e1 e2;refine call_meets F.slot_list_append (Na _ ho rfl) F.entry_list_append (F.args_list_append_2 _ _) (list_append p.1 us.toArray m v (Zh hv hl)) ⟨ho,?_⟩;refine kE (xk (l:=p.1) (vs:=us) (n:=m) (·.push v) ho) λn' ag=>?_;have sb:Heap.SameBut p.1 s.heap (s.heap.update p.1 (Obj.mapSeq (·.push v))):=Heap.SameBut.update ..;have e1:(us.toArray.push v).toList.toArray=(us++[v]).toArray:=by simp
 replace ag:=e1▸ag;exact bf.epost (bf.of (tk:=s.toks) S hp h2 sb ⟨_,ag⟩ (OR.L h2 ag<|ya.append (ya.upd hp h2 sb hv) (ya.cons (VR.upd hp h2 sb rv) ya.nil))) q
theorem sO(e:uO Z a xs=some (r,Z'))(S:SR prog w B bad O Z s.heap)(ra:VR prog w s.heap bad O a va)(rs:ya prog w s.heap bad O xs vs)(q:Q r Z'):wpAny (model prog w) A (call (.builtin "list.pop") (va::vs)) (aa prog w B bad O s Q) E s:=by
 refine fG e S ra λi p us m ys hp h2 ho hv e=>?_;induction xs with
 |cons x xs=>exact ns e|nil=>
  refine rr (rs:vs=[])<|Uc e λhl e=>Fc e λy e1 e2=>?_;have er:y=r:=C0 Prod.fst e2;have es:Z.set i (.list ys.dropLast)=Z':=C0 Prod.snd e2;clear e e2;clear e;clear e;subst er es;have l:=ya.length hv;refine Df (Ct hv e1) λv hvl hvr h0=>call_meets F.slot_list_pop (Na _ ho rfl) F.entry_list_pop (F.args_list_pop_1 _) (PySem.MeetsSeq.list_pop_last p.1 us.toArray m v ((List.getElem?_toArray ..).trans hvl) (Zh hv hl)) ⟨ho,?_⟩;refine kE (xk (l:=p.1) (vs:=us) (n:=m) (λxs=>xs.eraseIdxIfInBounds (us.toArray.size-1)) ho) λn' ag=>?_;have sb:Heap.SameBut p.1 s.heap (s.heap.update p.1 (Obj.mapSeq λxs=>xs.eraseIdxIfInBounds (us.toArray.size-1))):=Heap.SameBut.update ..;have e3:(us.toArray.eraseIdxIfInBounds (us.toArray.size-1)).toList.toArray=us.dropLast.toArray:=by have jn:us.toArray.size-1<us.toArray.size:=Nat.sub_lt h0 Nat.one_pos;rw[Array.eraseIdxIfInBounds,dif_pos jn];have hd:us.drop (us.length-1+1)=[]:=List.drop_of_length_le (Fb [_,_] 16444894041550675968 tO (KX _ _));simp[List.dropLast_eq_take,List.eraseIdx_eq_take_drop_succ,hd]
  replace ag:=e3▸ag;have hd:ya prog w s.heap bad O ys.dropLast us.dropLast:=rr List.dropLast_eq_take<|rr List.dropLast_eq_take<|rr l<|ya.take _ hv;refine Je (bf.of (tk:=s.toks) S hp h2 sb ⟨_,ag⟩ (OR.L h2 ag (ya.upd hp h2 sb hd))) λh' tk e4 x S'=>?_;have e5:=C0 Shared.heap e4;subst e5;exact⟨y,_,O,_,s.toks,rfl,x,S',VR.upd hp h2 sb hvr,q⟩
theorem RP(e:SP Z a xs=some (r,Z'))(S:SR prog w B bad O Z s.heap)(ra:VR prog w s.heap bad O a va)(rs:ya prog w s.heap bad O xs vs)(q:Q r Z'):wpAny (model prog w) A (call (.builtin "list.extend") (va::vs)) (aa prog w B bad O s Q) E s:=by
 refine fG e S ra λi p us m ys hp h2 ho hv e=>oo e rs λx v e rv=>ga e λzs ez e=>CS e λhl e1 e2=>?_;have ez:=KB ez;clear e;clear e;clear e;clear e;subst e1 e2 ez;refine Qm rv λb ws m2 fb hb hw=>?_;have l:=ya.length hv;have l2:=ya.length hw;have hsz:us.toArray.size+ws.toArray.size<=sizeLine:=Tn hv hw hl;refine call_meets F.slot_list_extend (Na _ ho rfl) F.entry_list_extend (F.args_list_extend_2 _ _) (PySem.AutoSeq1.list_extend_list_list_0 p.1 us.toArray m b ws.toArray m2 ?_ (Zh hv ((A0 (Q1 _ _) ‹_›))) ((A0 ‹_› (N0 rfl)))) (sf ho hb ?_)
 ·have z:Builtin.List.listTooLong (us.toArray.size+ws.toArray.size)=false:=D1 (by lia);refine rr z ?_;simp
 refine kE (xk (l:=p.1) (vs:=us) (n:=m) (· ++ws.toArray) ho) λn' ag=>?_;have sb:Heap.SameBut p.1 s.heap (s.heap.update p.1 (Obj.mapSeq (· ++ws.toArray))):=Heap.SameBut.update ..;have e1:(us.toArray++ws.toArray).toList.toArray=(us++ws).toArray:=by simp
 replace ag:=e1▸ag;exact bf.epost (bf.of (tk:=s.toks) S hp h2 sb ⟨_,ag⟩ (OR.L h2 ag (ya.append (ya.upd hp h2 sb hv) (ya.upd hp h2 sb hw)))) q
theorem YN(e:ZN Z a xs=some (r,Z'))(S:SR prog w B bad O Z s.heap)(ra:VR prog w s.heap bad O a va)(rs:ya prog w s.heap bad O xs vs)(q:Q r Z'):wpAny (model prog w) A (call (.builtin "str.startswith") (va::vs)) (aa prog w B bad O s Q) E s:=
 ga e λx ex e=>VR.Tf ra ex λt=>oo e rs λy v e rv=>ga e λz ez e=>VR.Tf rv ez λu=>by
  have e1:=C0 Prod.fst (z0 e);have e2:=C0 Prod.snd (z0 e);subst e1 e2;refine call_gives F.slot_str_startswith (typeIs_str s _ t) F.entry_str_startswith (F.args_str_startswith_2 _ _) (gives_str_startswith _ _ t u) ?_;rw[Ac,Ac];exact aa.here S (VR.Bo _) q
theorem TG(e:pP Z a xs=some (r,Z'))(S:SR prog w B bad O Z s.heap)(ra:VR prog w s.heap bad O a va)(rs:ya prog w s.heap bad O xs vs)(hu:A.units+30<cLine)(q:Q r Z'):wpAny (model prog w) A (call (.builtin "list.index") (va::vs)) (aa prog w B bad O s Q) E s:=by
 refine oo e rs λx v e rv=>ga e λys ey e=>Uc e λhl e=>Fc e λk e1 e2=>Dh ey S ra λp us m ho hv=>?_;have er:=C0 Prod.fst e2;have es:=C0 Prod.snd e2;subst er es;have l:=ya.length hv;refine Xa (WG _ e1) λj ek i=>?_;have ek:k=j:=ek.trans (Nat.zero_add j);subst ek;refine kE i.mem λr0 hm=>kA (aT (A:=A.in1) rv (by rw[Around.in1_units];exact Fb [_] 411264909791129598166041284382974567169 tO hu) ys hv hm) λj1 _=>?_;have hj':k<us.length:=l▸i.lt;refine call_meets F.slot_list_index (Na _ ho rfl) F.entry_list_index (F.args_list_index_2 _ _) (list_indexAt p us.toArray m none #[] v (Az prog w s.heap bad O x) k hj' (by unfold Ab at hl;lia)
  (WT rv ys hv k i.lt hj' i.at_) λm fU eR=>WT rv ys hv m (l.symm▸fU) fU (i.no m (l.symm▸fU) eR)) (sf ho (λy hy=>j1 y (List.mem_toArray.mp hy)) ?_)
 exact aa.now S (VR.I _ _) q
theorem VL(hB:∃o,B.get? 1=some o)(e:NP Z a xs=some (r,Z'))(S:SR prog w B bad O Z s.heap)(ra:VR prog w s.heap bad O a va)(rs:ya prog w s.heap bad O xs vs)(hu:A.units+30<cLine)(q:Q r Z'):wpAny (model prog w) A (call (.builtin "dict.get") (va::vs)) (aa prog w B bad O s Q) E s:=by
 induction xs with|nil=>exact ns e|cons k xs=>refine xc rs λv q' ev r1 r2=>?_;clear rs;subst ev;refine oo e r2 λd vd e rd=>Fc e λy e1 e2=>?_;have er:y=r:=C0 Prod.fst e2;have es:Z=Z':=C0 Prod.snd e2;clear e e2;clear e;subst er es;exact Bz hB e1 S ra r1 rd (Fb [_] 12550809014621874944032021628617473 tO hu) q
theorem MK(hB:∃o,B.get? 1=some o)(e:Mc Z n a xs=some (r,Z'))(S:SR prog w B bad O Z s.heap)(ra:VR prog w s.heap bad O a va)(rs:ya prog w s.heap bad O xs vs)(hu:A.units+30<cLine)(q:Q r Z'):wpAny (model prog w) A (call (.builtin (yG n)) (va::vs)) (aa prog w B bad O s Q) E s:=
 sN (P:=λn=>Mc Z n a xs=some (r,Z')->wpAny (model prog w) A (call (.builtin (yG n)) (va::vs)) (aa prog w B bad O s Q) E s)
  (λe=>EQ e S ra rs q) (λe=>sO e S ra rs q) (λe=>RP e S ra rs q) (λe=>TG e S ra rs hu q) (λe=>VL hB e S ra rs hu q) (λe=>YN e S ra rs q)
  (λd e=>by
   have z:Mc Z n a xs=none:=congrFun (congrFun (congrFun (d (λ_ _ _=>none) FQ uO SP pP NP ZN) Z) a) xs;exact ns (z.symm.trans e)) e
end
theorem YA{d e:Nat}(r:VR prog w h bad O a v)(he:Xg n d a=some e):∃p,IsPart v p/\((p=none/\e=d)\/∃k:Int,p=some k/\0<=k/\e=min k.toNat n):=by
 cases a with
 |none=>exact rr (r:v=_)<|(Na none .none (.inl ⟨rfl,(z0 he).symm⟩))
 |int k=>refine Uc he λhk he=>?_;refine kE r λt ez=>?_;clear r;subst ez;exact(Na (some k) (.int k t) (.inr (Kf k rfl hk.1 ((z0 he).symm))))|_=>exact ns he
theorem sV{k:Int}{e:Nat}(h0:0<=k)(he:e=min k.toNat n):max (0:Int) (min (if k<0 then k+n else k) n)=e:=by refine rr (Y0 (Int.not_lt.mpr h0)) ?_;omega
theorem Qr(h1:(pl=none/\el=0)\/∃k:Int,pl=some k/\0<=k/\el=min k.toNat n)(h2:(ph=none/\eh=n)\/∃k:Int,ph=some k/\0<=k/\eh=min k.toNat n):sliceBounds pl ph none n=((el:Int),(eh:Int),1)/\eh<=n:=by
 have r2:(sliceBounds pl ph none n).2=((eh:Int),1)/\eh<=n:=by
  rcases h2 with⟨rfl,rfl⟩|⟨m,rfl,m0,me⟩
  ·exact⟨rfl,K0 _⟩
  ·exact⟨Prod.ext (sV m0 me) rfl,by omega⟩
 have r1:(sliceBounds pl ph none n).1=(el:Int):=by
  rcases h1 with⟨rfl,rfl⟩|⟨k,rfl,k0,ke⟩
  ·rfl
  ·exact sV k0 ke
 exact⟨Prod.ext r1 r2.1,r2.2⟩
theorem CK{vs:List Value}(eb:sliceBounds pl ph none vs.length=((el:Int),(eh:Int),1))(ig:eh<=vs.length)(hc:el<=eh):slicePick vs.toArray pl ph none=((vs.drop el).take (eh-el)).toArray:=by have eb2:sliceBounds (some (el:Int)) (some (eh:Int)) none vs.length=((el:Int),(eh:Int),1):=(Qr (pl:=some (el:Int)) (ph:=some (eh:Int)) (.inr (Kf el rfl (E4 _) (by omega))) (.inr (Kf eh rfl (E4 _) (by omega)))).1;exact(C0 (λz:Int×Int×Int=>((sliceRange z.1 z.2.1 z.2.2).filterMap λi=>vs.toArray[i]?).toArray) (eb.trans eb2.symm)).trans (slicePick_run vs.toArray el eh ig hc)
theorem DF{lo r:AV}{va vl vh:Value}{sl:Addr}(e:Wi Z a lo hi=some r)(S:SR prog w B bad O Z s.heap)(hb:∀a,bad a->∃o,s.heap.get? a=some o)(ra:VR prog w s.heap bad O a va)(rl:VR prog w s.heap bad O lo vl)(rh:VR prog w s.heap bad O hi vh)(hs:s.heap.IsSliceOf sl vl vh .none)(q:Q r Z):wpAny (model prog w) A (getItem va (.ref sl)) (aa prog w B bad O s Q) E s:=by refine ga e λxs hx e=>ga e λel h1 e=>ga e λeh h2 e=>Uc e λhc e=>Dh hx S ra λp vs n ho hv=>?_;have e:=z0 e;subst e;have l:=ya.length hv;rw[l]at h1 h2;refine Xa (YA rl h1) λpl i1 i2=>Xa (YA rh h2) λph j1 j2=>kA (Qr i2 j2) λeb ig=>wpAny_getItem_list_slice (items:=vs.toArray) (Cb _ ho rfl _ rfl) hs i1 j1 .none (λz=>nomatch z) ?_ (Zh hv hc.1);refine rr (CK eb ig hc.2) ?_;exact aa.push (tk:=s.toks) (av:= .ba _) S ((Ob _ _ 0 rfl (Di S hb) (J2 _ rfl) (ya.take _ (ya.drop _ (ya.keeps (Kp.of_keep λa o ea=>J1 _ ea) hv))))) q
set_option tactic.hygienic true in
theorem Wv{I:Addr}{P:Unit->Shared->Prop}(h:∃o n,s.heap.get? I=some o/\o.cls= .type n/\(n="list_iterator"\/n="tuple_iterator"\/n="range_iterator"))(q:P () s):wpAny (model prog w) A (letOwnedTupleGo tg (.ref I) v) P E s:=by
 refine Je h λo n ho hc hn=>?_;have hno:(["enumerate","zip","dict_itemiterator","dict_reverseitemiterator","odict_iterator","itertools.zip_longest","itertools.pairwise"].contains n)=false:=by rcases hn with rfl|rfl|rfl<;>decide
 have main:∀a,wpAny (model prog w) A (letOwnedTupleGo (.Tuple [] 0 ⟨0,0,0,0⟩) (.ref I) (.ref a)) P E s:=λa=>by
  show wpAny _ _ (load I>>=_) _ _ _;refine E0 (wpAny_load ho ?_);refine rr hc ?_;generalize o.data=dd;cases dd with
  |fields vs=>refine(?_:wpAny _ _ (ite ((_&&_)=true) _ _) _ _ _);exact rr (Y0 (λz=>Q2 (hno.symm.trans ((M0 _ _).mp z).1)))<|A2 q
  |_=>exact A2 q
 have any:wpAny (model prog w) A (letOwnedTupleGo (.Tuple [] 0 ⟨0,0,0,0⟩) (.ref I) v) P E s:=by
  cases v with|ref a=>exact main a|_=>exact A2 q
 cases tg with|Tuple _ _ _=>exact any|List _ _=>exact any|_=>exact A2 q
abbrev Ek(ls:List Addr)(h h':Heap):Prop:=∀b o,b∉ls->h.get? b=some o->h'.get? b=some o
theorem Ek.one{I:Addr}(x:Heap.ExtBut I h h'):Ek [I] h h':=λb o hb e=>x b o (λz=>hb (by simp[z])) e
theorem Ek.kp(x:Ek ls h h')(hb:∀b∈ls,bad b):Kp h h' bad bad O O:=⟨λa o hf e=>x a o (λz=>hf.1 (hb a z)) e,λ_ _ hf _=>hf,λ_ _ h=>h⟩
structure It(prog:Program)(w:World)(A:Around)(B:Heap)(a:AV)(v:Value)(xs:List AV)(Qf:AH->Prop)(tg:PE)(I:Addr)(ls:List Addr)(J:Nat->Heap->Prop):Prop where
 frame:∀i h h',J i h->(∀b∈ls,∀o,h.get? b=some o->h'.get? b=some o)->J i h'
 item:∀i x(s:Shared)(Z:AH)(O:Io)(bad:ie)(P:Option Value->Shared->Prop)(Q:Value->Shared->Prop)(E:Value->Shared->Prop),(∀u s1,wpAny (model prog w) A (letOwnedTupleGo tg (.ref I) u) (λ_ s2=>Q u s2) E s1->P (some u) s1)->xs[i]? =some x->SR prog w B bad O Z s.heap->(∀b,bad b->∃o,s.heap.get? b=some o)->(∀b∈ls,bad b)->VR prog w s.heap bad O a v->Qf Z->J i s.heap->
  (∀u h' tk,VR prog w h' bad O x u->J (i+1) h'->Ek ls s.heap h'->Q u {s with heap:=h',toks:=tk})->wpAny (model prog w) A (pyNext (.ref I)) P E s
 done:∀(s:Shared)(Z:AH)(O:Io)(bad:ie)(Q:Option Value->Shared->Prop)(E:Value->Shared->Prop),SR prog w B bad O Z s.heap->VR prog w s.heap bad O a v->Qf Z->J xs.length s.heap->
  (∀h' tk,Ek ls s.heap h'->Q none {s with heap:=h',toks:=tk})->wpAny (model prog w) A (pyNext (.ref I)) Q E s
 self:∀i(s:Shared)(Q:Value->Shared->Prop)(E:Value->Shared->Prop),J i s.heap->Q (.ref I) s->wpAny (model prog w) A (pyIter (.ref I)) Q E s
 live:∀i h,J i h->∀b∈ls,∃o,h.get? b=some o
theorem Bn{vs:List Value}{xs:List AV}(hv:ya prog w h bad O xs vs)(hx:xs[i]? =some x):∃u,vs.toArray[i]? =some u/\VR prog w h bad O x u:=by have l:=ya.length hv;obtain⟨hi,rfl⟩:=B0.mp hx;have BJ:i<vs.length:=(C4 ‹_› (D3 ‹_›));exact(Na (vs[i]) (by simp[BJ]) (ya.getElem hv i hi BJ))
theorem It.one{xs:List AV}{I:Addr}{J:Nat->Heap->Prop}(frame:∀i h h',J i h->(∀o,h.get? I=some o->h'.get? I=some o)->J i h')(item:∀i x(s:Shared)(Z:AH)(O:Io)(bad:ie)(Q:Option Value->Shared->Prop)(E:Value->Shared->Prop),xs[i]? =some x->SR prog w B bad O Z s.heap->VR prog w s.heap bad O a v->Qf Z->J i s.heap->(∀u h' tk,VR prog w s.heap bad O x u->J (i+1) h'->Heap.ExtBut I s.heap h'->Q (some u) {s with heap:=h',toks:=tk})->wpAny (model prog w) A (pyNext (.ref I)) Q E s)(done:∀(s:Shared)(Z:AH)(O:Io)(bad:ie)(Q:Option Value->Shared->Prop)(E:Value->Shared->Prop),SR prog w B bad O Z s.heap->VR prog w s.heap bad O a v->Qf Z->J xs.length s.heap->(∀h' tk,Heap.ExtBut I s.heap h'->Q none {s with heap:=h',toks:=tk})->wpAny (model prog w) A (pyNext (.ref I)) Q E s)(self:∀i(s:Shared)(Q:Value->Shared->Prop)(E:Value->Shared->Prop),J i s.heap->Q (.ref I) s->wpAny (model prog w) A (pyIter (.ref I)) Q E s)(cls:∀i h',J i h'->∃o n,h'.get? I=some o/\o.cls= .type n/\(n="list_iterator"\/n="tuple_iterator"\/n="range_iterator")):It prog w A B a v xs Qf tg I [I] J where
 frame:=λi h h' st k=>frame i h h' st λo e=>k I (by simp) o e
 item:=λi x s Z O bad P Q E hP hx S lv hb r e st q=>item i x s Z O bad _ E hx S r e st λu h' tk hu Yh he=>hP _ _<|
  Wv (s:={s with heap:=h',toks:=tk}) (cls _ _ Yh) (q u h' tk (VR.keeps (Ek.kp (Ek.one he) hb) hu) Yh (Ek.one he))
 done:=λs Z O bad Q E S r e st q=>done s Z O bad _ E S r e st λh' tk he=>q h' tk (Ek.one he)
 self:=self
 live:=λi h st b hb=>db (cls i h st) λo _ ho _=>rr (J0.mp hb)<|⟨o,ho⟩
theorem SK(hh:A.handled=none){I:Addr}{xs:List AV}(hv:∀(h:Heap)(bad:ie)(O:Io)(Z:AH),SR prog w B bad O Z h->VR prog w h bad O a (.ref p)->sa Z a=some xs->∃vs n,h.get? p=some {cls:= .type "list",data:= .seq (List.toArray vs) n}/\ya prog w h bad O xs vs):It prog w A B a (.ref p) xs (λZ=>sa Z a=some xs) tg I [I] (λi h=>h.IsListIter I p i):=
 It.one (λi h h' st hk=>st.at hk) (λi x s Z O bad Q E hx S r e st q=>by
  refine db (hv _ _ _ _ S r e) λvs n ho hr=>Xa (Bn hr hx) λu hu sP=>?_;exact wpAny_pyNext_list_item st (Cb _ ho rfl _ rfl) hu λh' hit hs=>q u h' s.toks sP hit hs.extBut)
 (λs Z O bad Q E S r e st q=>by
  refine db (hv _ _ _ _ S r e) λvs n ho hr=>?_;have l:=ya.length hr;exact wpAny_pyNext_list_end hh st (Cb _ ho rfl _ rfl) (by simp[l]) λh' he=>q h' s.toks he)
 (λi s Q E st q=>wpAny_pyIter_listiter st q)
 (λi h' ⟨o,h1,h2,_⟩=>(Wa o _ h1 h2 (.inl rfl)))
theorem ZY{xs:List AV}(hh:A.handled=none)(e:sa Z a=some xs)(hl:∀Z',sa Z' a=bk Z' a)(S:SR prog w B bad O Z s.heap)(r:VR prog w s.heap bad O a v)(q:∀oI J,It prog w A B a v xs (λZ=>sa Z a=some xs) tg s.heap.objs.size [s.heap.objs.size] J->J 0 (s.heap.push oI)->P (.ref s.heap.objs.size) {s with heap:=s.heap.push oI}):wpAny (model prog w) A (pyIter v) P E s:=by
 have z:∃p vs n,v= .ref p/\s.heap.get? p=some {cls:= .type "list",data:= .seq (List.toArray vs) n}:=Dh (P:=λv=>∃p vs n,v= .ref p/\s.heap.get? p=some {cls:= .type "list",data:= .seq (List.toArray vs) n}) (hl Z▸e) S r λp vs n ho hv=>(ve p vs n rfl ho);refine Qa z λp vs n ez ho=>?_;clear z;clear r;subst ez;refine wpAny_pyIter_list (items:=vs.toArray) (Cb _ ho rfl _ rfl) (q _ _ (SK hh λh bad O Z S r e=>?_) (Kf _ (J2 _ rfl) rfl rfl));have z:=Dh (P:=λv=>∃p' vs n,v= .ref p'/\h.get? p'=some {cls:= .type "list",data:= .seq (List.toArray vs) n}/\ya prog w h bad O xs vs) (hl Z▸e) S r λp vs n ho hv=>(No p vs n rfl ho hv);refine Qa z λp' vs n e1 e2=>?_;clear z;injection e1 with e1
 subst e1;exact(Jh vs n e2)
theorem GM{xs:List AV}(r:VR prog w h bad O (.tup xs) (.ref p)):∃vs n,h.get? p=some {cls:= .type "tuple",data:= .seq (List.toArray vs) n}/\ya prog w h bad O xs vs:=by
 refine Wf r λp2 vs n e _ ho hv=>?_;clear r;injection e with e
 subst e;exact(sk vs n ho hv)
theorem nt{xs:List AV}(hh:A.handled=none)(e:sa Z a=some xs)(S:SR prog w B bad O Z s.heap)(r:VR prog w s.heap bad O a v)(q:∀oI J,It prog w A B a v xs (λZ=>sa Z a=some xs) tg s.heap.objs.size [s.heap.objs.size] J->J 0 (s.heap.push oI)->P (.ref s.heap.objs.size) {s with heap:=s.heap.push oI}):wpAny (model prog w) A (pyIter v) P E s:=by
 cases a with
 |ref j=>exact ZY hh e (λ_=>rfl) S r q|ba ys=>exact ZY hh e (λ_=>rfl) S r q|qn=>exact r.elim|tup ys=>
  refine Qa (id r) λp vs n ez tz=>?_;clear r;subst ez;refine Mm tz λf1 ho hv=>?_;clear tz;have e:=z0 e;subst e;refine wpAny_pyIter_tuple (items:=vs.toArray) (Cb _ ho rfl _ rfl) (q _ (λi h=>h.IsTupleIter s.heap.objs.size p i) (It.one (λi h h' st hk=>st.at hk) (λi x s' Z O bad Q E hx S r e st q=>db (GM r) λvs2 n2 ho2 cH=>Xa (Bn cH hx) λu hu sP=>wpAny_pyNext_tuple_item st (Cb _ ho2 rfl _ rfl) hu λh' hit hs=>q u h' s'.toks sP hit hs.extBut) (λs' Z O bad Q E S r e st q=>?_) (λi s' Q E st q=>wpAny_pyIter_tupleiter st q) (λi h' ⟨o,h1,h2,_⟩=>(Wa o _ h1 h2 (.inr (.inl rfl))))) (Kf _ (J2 _ rfl) rfl rfl))
  ·exact db (GM r) λvs2 n2 ho2 cH=>wpAny_pyNext_tuple_end hh st (Cb _ ho2 rfl _ rfl) ((List.getElem?_toArray ..).trans (List.getElem?_eq_none (D3 (ya.length cH).symm))) λh' he=>q h' s'.toks he
 |Gk lo hi=>
  refine Uc e λhs e=>?_;have e:=z0 e;subst e;refine xb r λp t1 t2 t3 ez tz=>?_;clear r;subst ez;refine kA tz λf1 ho=>?_;clear tz;unfold Ab at hs;have W:=Walks.range (prog:=prog) (w:=w) hh s.heap.objs.size lo 1 (hi-lo).toNat;refine wpAny_pyIter_range ho (small_one (by omega) (by omega) (by omega) (by omega)) (q _ (λi h=>IsRangeIter h s.heap.objs.size (lo+(i:Nat)*1) (((hi-lo).toNat:Int)-(i:Nat)) 1) (It.one (λi h h' st hk=>hk _ st) (λi x s' Z O bad Q E hx S r e st q=>?_) (λs' Z O bad Q E S r e st q=>?_) (λi s' Q E st q=>wpAny_pyIter_rangeiter st q) (λi h' st=>(Wa _ _ st rfl (.inr (.inr rfl))))) ?_)
  ·replace hx:=P4▸hx;refine Fc hx λk hk ek=>?_;obtain⟨iR,kL⟩:=B0.mp hk;have jn:i<(hi-lo).toNat:=by replace iR:=List.length_range▸iR;exact iR
   have hki:k=i:=by rw[List.getElem_range]at kL;exact kL.symm
   clear hx hk iR kL;subst hki ek;refine W.item k s' Q E jn st λu h' tk hP Yh hk=>q u h' tk ?_ Yh λb o hb e=>hk b o (λz=>hb (J0.mp z)) e;refine kE hP λt ez=>?_;clear hP;subst ez;exact⟨t,by rw[Int.mul_one]⟩
  ·rw[R0,List.length_range]at st;exact W.done s' Q E st λh' tk hk=>q h' tk λb o hb e=>hk b o (λz=>hb (J0.mp z)) e
  ·have e2:Builtin.Range.rangeSize lo hi 1=((hi-lo).toNat:Int):=by rw[rangeSize_one];split<;>omega
   refine rr e2 ?_;have e3:lo+((0:Nat):Int)*1=lo:=by omega
   have e4:((hi-lo).toNat:Int)-((0:Nat):Int)=((hi-lo).toNat:Int):=by rfl
   show IsRangeIter _ _ (lo+((0:Nat):Int)*1) (((hi-lo).toNat:Int)-((0:Nat):Int)) 1;exact rr e3<|rr e4<|J2 _ rfl
 |_=>exact ns e
inductive GV where
 |val (v:AV)
 |fn (a:Nat)
 |bi (k:Nat)
structure Tb where
 glob:Str->Option GV
 trk:Pos->Bool
 dm:Pos->Nat
abbrev Sc:=List (Str×NameKind)
noncomputable def Te(sc:Sc)(n:Str):Nat:=match sc.lookup n with|some .local=>0|some .cell=>0|some .free=>0|some .globalImplicit=>1|_=>2
noncomputable def pb:List Str->Str->Option Nat:=List.rec (λ_=>none) λm _ ih n=>(ih n).elim (if m=n then some 0 else none) λi=>some (i+1)
noncomputable def Vh(n:Str):Option Nat:=Ee.findIdx? (· ==n)
noncomputable def JS:Operator->Option Nat| .Add=>some 0| .Sub=>some 1| .Mult=>some 2| .FloorDiv=>some 3| .Mod=>some 4| .BitAnd=>some 5| .BitOr=>some 6| .RShift=>some 7|_=>none
noncomputable def Rp:CmpOp->Nat| .Eq=>0| .NotEq=>1| .Lt=>2| .LtE=>3| .Gt=>4| .GtE=>5| .Is=>6| .IsNot=>7| .In=>8| .NotIn=>9
set_option genInjectivity false in
set_option genSizeOf false in
inductive Vw where
 |name (x:Str)
 |call (f:PE) (as:List PE) (ks:List Keyword)
 |att (o:PE) (n:Str) (p:Pos)
 |const (c:Const)
 |tup (es:List PE)
 |slc (lo hi st:Option PE)
 |set|star|Hk
noncomputable def vw:PE->Vw| .Name x _=> .name x| .Call f as ks _=> .call f as ks| .Attribute o n p=> .att o n p| .Constant c _ _=> .const c| .Tuple es _ _=> .tup es| .Slice lo hi st _=> .slc lo hi st| .Set _ _ _=> .set| .Starred _ _=> .star|_=> .Hk
def DY(e:PE):Vw->Prop| .name x=>∃p,e= .Name x p| .call f as ks=>∃p,e= .Call f as ks p| .att o n p=>∃q,e= .Attribute o n q/\q=p| .const c=>∃k p,e= .Constant c k p| .tup es=>∃k p,e= .Tuple es k p| .slc lo hi st=>∃p,e= .Slice lo hi st p|_=>True
theorem pq(e:PE):DY e (vw e):=by
 cases e with|Name|Call|Slice=>exact⟨_,rfl⟩|Attribute=>exact(Na _ rfl rfl)|Constant|Tuple=>exact(Jh _ _ rfl)|_=>trivial
noncomputable def Yj(e:PE):Option Str:=match vw e with| .name x=>some x|_=>none
theorem Xj{x:Str}(h:Yj e=some x):∃p,e= .Name x p:=by
 have s:=pq e;unfold Yj at h;generalize vw e=v at h s;induction v with|name=>have e:=z0 h;clear h;subst e;exact s|_=>exact ns h
noncomputable def QB(e:PE):Option (PE×List PE×List Keyword):=match vw e with| .call f args kws=>some (f,args,kws)|_=>none
theorem sI{p:PE×List PE×List Keyword}(h:QB e=some p):∃q,e= .Call p.1 p.2.1 p.2.2 q:=by
 have s:=pq e;unfold QB at h;generalize vw e=v at h s;induction v with|call=>have e:=z0 h;clear h;subst e;exact s|_=>exact ns h
noncomputable def Nt(e:PE):Option Const:=match vw e with| .const c=>some c|_=>none
theorem zD{c:Const}(h:Nt e=some c):∃k p,e= .Constant c k p:=by
 have s:=pq e;unfold Nt at h;generalize vw e=v at h s;induction v with|const=>have e:=z0 h;clear h;subst e;exact s|_=>exact ns h
noncomputable def aF(e:PE):Option (List PE):=match vw e with| .tup es=>some es|_=>none
theorem GA(h:aF e=some es):∃k p,e= .Tuple es k p:=by
 have s:=pq e;unfold aF at h;generalize vw e=v at h s;induction v with|tup=>have e:=z0 h;clear h;subst e;exact s|_=>exact ns h
noncomputable def DQ(e:PE):Option (PE×Str×Pos):=match vw e with| .att o name UD=>some (o,name,UD)|_=>none
theorem sM{p:PE×Str×Pos}(h:DQ e=some p):e= .Attribute p.1 p.2.1 p.2.2:=by
 have s:=pq e;unfold DQ at h;generalize vw e=v at h s;induction v with|att=>have e:=z0 h;clear h;subst e;refine Xa s λ_ e ez=>?_;clear s;subst ez;exact e|_=>exact ns h
noncomputable def LC(e:PE):Option (Option PE×Option PE×Option PE):=match vw e with| .slc lo hi st=>some (lo,hi,st)|_=>none
theorem lK{p:Option PE×Option PE×Option PE}(h:LC e=some p):∃q,e= .Slice p.1 p.2.1 p.2.2 q:=by
 have s:=pq e;unfold LC at h;generalize vw e=v at h s;induction v with|slc=>have e:=z0 h;clear h;subst e;exact s|_=>exact ns h
noncomputable def Bf(e:PE):Bool:=match vw e with| .set=>false|_=>true
noncomputable def Qd(e:PE):Bool:=match vw e with| .star=>false|_=>true
noncomputable def rp(e:PE):Bool:=match QB e with
 |some p=>(Yj p.1).isNone|| !p.2.1.isEmpty|| !p.2.2.isEmpty
 |none=>true
noncomputable def ZH:Const->X| .none=> .lit .none| .bool b=> .lit (.bool b)| .int i=> .lit (.int i)| .str s=> .lit (.str s.cps.toList)|_=> .bad
noncomputable def Vj{α:Type}(o:Option α)(f:α->X):X:=match o with|some a=>f a|none=> .bad
noncomputable def eG{α:Type}(xs:List α)(f:α->X):X:=match xs with
 |[]=> .bad|x::r=>match r with
  |[]=>f x|_::_=> .bad
noncomputable def PX{α:Type}(xs:List α)(x:X):X:=match xs with|[]=>x|_::_=> .bad
noncomputable def qN:Const->Option AV| .str s=>some (.str s.cps.toList)| .int i=>some (.int i)|_=>none
noncomputable def KG(k:Option PE):Option AV:=(k.bind Nt).bind qN
noncomputable def Yi:List (Option PE)->Option (List AV)
 |[]=>some []|k::r=>match KG k,Yi r with
  |some a,some b=>some (a::b)|_,_=>none
noncomputable def kg:List PE->Option (List Str)
 |[]=>some []|e::r=>match Yj e,kg r with
  |some x,some xs=>some (x::xs)|_,_=>none
noncomputable def Mj(e:PE):Option (List Str×Nat):=match Yj e with|some x=>some ([x],0)|none=>((aF e).bind kg).bind λxs=>if xs.isEmpty=true then none else some (xs,xs.length)
noncomputable def Hp(scope:Scope)(sc:Sc)(ns xs:List Str):Bool:=
 decide (scope.kind= .function)&&decide xs.Nodup&&xs.all (λx=>decide (scope.names.lookup x=some .local))&&scope.names.all λp=>match p.2 with| .local=>(xs.contains p.1|| !ns.contains p.1)&&decide (scope.names.lookup p.1=some .local)| .cell=>false| .free=>(decide (sc.lookup p.1=some .cell)||decide (sc.lookup p.1=some .free))&& !(p.1==("__classdict__":Str))|_=>true
noncomputable def n0:Option GV->Option Nat|some (.bi k)=>some k|_=>none
noncomputable def Ml(T:Tb)(sc:Sc)(e:PE):Option PE:=(QB e).bind λp=>(Yj p.1).bind λen=>
 if(en==("__debug__":Str))=false/\Te sc en=1/\n0 (T.glob en)=some 7/\p.2.2.isEmpty=true/\p.2.1.length=1 then p.2.1.head? else none
noncomputable def Hn(T:Tb)(sc:Sc)(ns:List Str)(id:Str):X:=if(id==("__debug__":Str))=true then .bad else
 if Te sc id=0 then Vj (pb ns id) .var else if Te sc id=1 then Vj (T.glob id) λg=>match g with| .val v=> .lit v| .fn _=> .bad| .bi _=> .bad
 else .bad
noncomputable def IW(op:UnaryOp)(x:X):X:=match op with| .Not=> .not x| .USub=> .neg x| .Invert=> .bad| .UAdd=> .bad
noncomputable def PR(f:PE->X)(l:X)(Qs:List CmpOp)(rs:List PE):X:=match Qs,rs with
 |op::Qs,r::rs=>match Qs,rs with
  |[],[]=>if behindInMarks op r=true then .bad else .cmp (Rp op) l (f r)
  |RC::Qs,r2::rs=>match Qs,rs with
   |[],[]=>if behindInMarks RC r2=true then .bad else .Sm (Rp op) (Rp RC) l (f r) (f r2)
   |_::_,_=> .bad|[],_::_=> .bad
  |[],_::_=> .bad|_::_,[]=> .bad
 |[],_=> .bad|_::_,[]=> .bad
noncomputable def Jn(T:Tb)(sc:Sc)(f:PE->X)(fs:List PE->List X)(g:PE)(args:List PE)(pos:Pos):X:=match Yj g with
 |some x=>if(x==("__debug__":Str))=true then .bad else if Te sc x=1 then Vj (T.glob x) λg=>match g with
   | .fn a=> .call a (fs args)| .bi k=> .bi k (fs args)| .val _=> .bad
  else .bad
 |none=>Vj (DQ g) λp=>if rp p.1=true/\(p.2.2.endLine==pos.line)=true/\args.length<29 then Vj (Vh p.2.1) λk=> .Dc (f p.1) k (fs args)else .bad
noncomputable def QH(f:PE->X):Option PE->X|some e=>f e|none=> .lit .none
noncomputable def Tu(f:PE->X)(v i:PE):X:=match LC i with
 |some p=>if p.2.2.isNone=true then .slc (f v) (QH f p.1) (QH f p.2.1)else .bad
 |none=> .idx (f v) (f i)
noncomputable def oD(f:PE->X):List PE->X
 |[]=> .lit (.bool true)|c::cs=>match cs with
  |[]=>f c|_::_=> .bad
noncomputable def ZQ(T:Tb)(sc:Sc)(f:PE->X)(fs:List PE->List X)(k:Nat)(it:PE):X:=match Ml T sc it with
 |some t=>if k=0 then .bad else .af (eG (fs [t]) id)
 |none=>f it
mutual
noncomputable def tr(T:Tb):Nat->Sc->List Str->PE->X
 |0,_,_,_=> .bad|n+1,sc,ns,e=>match e with
  | .Constant c _ _=>ZH c| .Name id _=>Hn T sc ns id| .BoolOp op vs _=>XJ T n sc ns op vs| .BinOp l op r _=>Vj (JS op) λo=> .bin o (tr T n sc ns l) (tr T n sc ns r)| .UnaryOp op x _=>IW op (tr T n sc ns x)| .IfExp t a b _=> .za (tr T n sc ns t) (tr T n sc ns a) (tr T n sc ns b)| .Compare l Qs rs _=>PR (λe=>tr T n sc ns e) (tr T n sc ns l) Qs rs| .Call f args kws pos=>PX kws (Jn T sc (λe=>tr T n sc ns e) (λes=>Gn T n sc ns es) f args pos)| .Attribute o name _=>if rp o=true then Vj (Vh name) λk=> .attr (tr T n sc ns o) k else .bad
  | .Subscript v i _=>Tu (λe=>tr T n sc ns e) v i| .Tuple es _ _=> .tup (Gn T n sc ns es)| .List es pos=> .lst (T.trk pos) (Gn T n sc ns es)| .Dict ks vs pos=>Vj (Yi ks) λas=>if as.length=vs.length/\vs.length<=15 then .dct (T.dm pos) as (Gn T n sc ns vs)else .bad
  | .ListComp Ge gens scope _=>eG gens λg=>if g.is_async=0 then Vj (Mj g.target) λp=>
    if Hp scope sc ns p.1=true/\Bf g.iter=true then .comp (tr T n scope.names (ns++p.1) Ge) p.2 (ZQ T sc (λe=>tr T n sc ns e) (λes=>Gn T n sc ns es) p.2 g.iter) (oD (λe=>tr T n scope.names (ns++p.1) e) g.ifs)else .bad
   else .bad
  |_=> .bad
noncomputable def Gn(T:Tb):Nat->Sc->List Str->List PE->List X|0,_,_,_=>[.bad]|n+1,sc,ns,es=>if es.all Qd=true then es.map (λe=>tr T n sc ns e)else[.bad]
noncomputable def XJ(T:Tb):Nat->Sc->List Str->BoolOp->List PE->X
 |0,_,_,_,_=> .bad|n+1,sc,ns,op,vs=>match vs with
  |[]=> .bad|x::r=>match r with
   |[]=>tr T n sc ns x|_::_=>match op with
    | .And=> .and (tr T n sc ns x) (XJ T n sc ns op r)| .Or=> .or (tr T n sc ns x) (XJ T n sc ns op r)
end
structure Rm(n:Nat)(A:Around):Prop where
 dep:A.depth+2*n<=990
 un:A.units+12*n+200<=cLine
 han:A.handled=none
theorem Rm.lo(r:Rm n A)(h:m<=n):Rm m A:=⟨by have:=r.dep;exact Jc [_,_,_] 172624227672856998591752730543087909910446848 tO h this,by have:=r.un;lia,r.han⟩
structure ta(B:Heap)(bad:ie)(h:Heap):Prop where
 live:∀a,bad a->∃o,h.get? a=some o
 off:∀a,bad a->B.get? a=none
theorem ta.ext(b:ta B bad h)(x:Zc O O' h h'):ta B bad h':=⟨λa ha=>let⟨o,e⟩:=b.live a ha;x.live a o e,b.off⟩
def ja(w:World)(B:Heap)(n:Nat):CP:=λf args Z Q=>∀(A:Around)(s:Shared)(bad:ie)(O:Io)(vs:List Value),Rm n A->SR pw w B bad O Z s.heap->ta B bad s.heap->ya pw w s.heap bad O args vs->
 wpAny (model pw w) A (call (.ref f) vs) (aa pw w B bad O s Q) qb s
structure Bs(T:Tb)(w:World)(B:Heap)(K:Frag):Prop where
 mods:∃o,B.get? 1=some o
 IG:K.In B
 ko:yW K
 nolim:B.NoLimit
 gl:∃mg,B.Ns mainGlobals mg
 bl:∃mb,B.Ns builtinsNs mb
 val:∀n v,T.glob n=some (.val v)->∃u,nsIn K mainGlobals n=some (some u)/\VR pw w B (λ_=>False) [] v u
 fn:∀n f,T.glob n=some (.fn f)->nsIn K mainGlobals n=some (some (.ref f))/\keepIn K (.ref f)=true
 bi:∀n k,T.glob n=some (.bi k)->nsIn K mainGlobals n=some none/\nsIn K builtinsNs n=some (some (QD k))
 Dc:∀c n f,xo c n=some f->keepIn K (.ref f)=true
set_option tactic.hygienic true in
theorem Ov{mg:Str->Option Value}{n:Str}{r:Option Value}(X:K.In h)(G:h.Ns p mg)(e:nsIn K p n=some r):mg n=r:=by
 refine Wf G λo es ep ho hd _ hf=>?_;unfold nsIn at e;split at e
 ·rename_i c d zj n' sl q;have:=X _ _ q;rw[ho]at this;have e:=z0 this;clear ho this;subst e;rcases hd with⟨⟩
  rw[<-hf];unfold nsFind findBy;rw[<-Array.find?_toList];split at e
  ·rename_i en he;have e:=z0 e;subst e;rw[he];rfl
  ·rename_i he;split at e
   ·exact ns e
   ·have e:=z0 e;subst e;rw[he];rfl
 ·exact ns e
inductive nu(h:Heap)(env:Env)(n:Str)(v:Value):Prop
 |loc (m:Str->Option Value):env.kindOf n=some .local->h.Ns env.locals m->m n=some v->nu h env n v
 |cell (c:Addr):env.kindOf n=some .cell->env.cells.lookup n=some c->h.IsCell c (some v)->nu h env n v
 |free (c:Addr):env.kindOf n=some .free->env.cells.lookup n=some c->h.IsCell c (some v)->(n==("__classdict__":Str))=false->nu h env n v
structure FR(w:World)(B:Heap)(env:Env)(sc:Sc)(ns:List Str)(fr:Fr)(h:Heap)(bad:ie)(O:Io):Prop where
 kind:env.scope.kind= .function
 glob:env.globals=mainGlobals
 wm:env.builtins=builtinsNs
 names:∀n,Te env.scope.names n=Te sc n
 len:fr.length=ns.length
 val:∀n i a,Te sc n=0->pb ns n=some i->fr[i]? =some (some a)->∃v,nu h env n v/\VR pw w h bad O a v
 loc:∀n,sc.lookup n=some .local->env.kindOf n=some .local
 cell:∀n,sc.lookup n=some .cell->env.kindOf n=some .cell
 aM:∀n,sc.lookup n=some .cell\/sc.lookup n=some .free->(env.kindOf n=some .cell\/env.kindOf n=some .free)/\∃c,env.cells.lookup n=some c
 inj:∀n n' c,env.cells.lookup n=some c->env.cells.lookup n'=some c->n=n'
 sep:∀n,env.cells.lookup n≠some env.locals
 YH:∀n c,env.cells.lookup n=some c->∃v,h.IsCell c v
 Km:bad env.locals
 Tm:∀n c,env.cells.lookup n=some c->bad c
 RK:∃m,h.Ns env.locals m
theorem Al(env:Env)(n:Str):env.kindOf n=env.scope.names.lookup n:=rfl
section
variable{sc:Sc}{ns:List Str}{T:Tb}
theorem nu.step{n:Str}(H:nu h env n v)(k:∀a o,(a=env.locals\/∃n,env.cells.lookup n=some a)->h.get? a=some o->h'.get? a=some o):nu h' env n v:=by
 induction H with|loc m h1 h2 h3=>exact .loc m h1 (Ns.kept h2 λo e=>k _ o (.inl rfl) e) h3|cell c h1 h2 h3=>refine Xa h3 λo ho hd=>?_;clear h3;exact .cell c h1 h2 (Na o (k _ o (.inr ⟨n,h2⟩) ho) hd)|free c h1 h2 h3 h4=>refine Xa h3 λo ho hd=>?_;clear h3;exact .free c h1 h2 (Na o (k _ o (.inr ⟨n,h2⟩) ho) hd) h4
theorem FR.step(F:FR w B env sc ns fr h bad O)(S:SR pw w B bad O Z h)(x:Zc O O' h h'):FR w B env sc ns fr h' bad O':=by
 have nb:∀a,bad a->a∉uc O:=λa ha hm=>(S.off a hm).2.1 ha;have k:∀a o,(a=env.locals\/∃n,env.cells.lookup n=some a)->h.get? a=some o->h'.get? a=some o:=λa o ha e=>x.keep a o e (nb a (by
  rcases ha with rfl|⟨n,hn⟩
  ·exact F.Km
  ·exact F.Tm n a hn))
 refine⟨F.kind,F.glob,F.wm,F.names,F.len,λn i a h0 h1 h2=>Xa (F.val n i a h0 h1 h2) λv hv hr=>(Na v (hv.step k) (VR.keeps x.kp hr)),F.loc,F.cell,F.aM,F.inj,F.sep,λn c hc=>?_,F.Km,F.Tm,?_⟩
 ·exact db (F.YH n c hc) λv o ho hd=>⟨v,o,k _ o (.inr ⟨n,hc⟩) ho,hd⟩
 ·exact kE F.RK λm hm=>⟨m,Ns.kept hm λo e=>k _ o (.inl rfl) e⟩
inductive Cm(w:World)(B:Heap)(bad:ie)(O:Io)(s:Shared)(Q:List AV->AH->Prop)(vs:List Value)(s':Shared):Prop|mk (Qc:List AV) (Z':AH) (O':Io) (h':Heap) (tk:Nat) (e:s'={s with heap:=h',toks:=tk}) (x:Zc O O' s.heap h') (S:SR pw w B bad O' Z' h') (r:ya pw w h' bad O' Qc vs) (q:Q Qc Z')
inductive Nb(w:World)(B:Heap)(bad:ie)(O:Io)(s:Shared)(Q:Bool->AH->Prop)(b:Bool)(s':Shared):Prop|mk (Z':AH) (O':Io) (h':Heap) (tk:Nat) (e:s'={s with heap:=h',toks:=tk}) (x:Zc O O' s.heap h') (S:SR pw w B bad O' Z' h') (q:Q b Z')
theorem Cm.bind{Q:List AV->AH->Prop}{t:Sem (List Value)}{P:List Value->Shared->Prop}(h:wpAny (model pw w) A t (Cm w B bad O s Q) E s0)(k:∀Qc vs Z' O' h' tk,Zc O O' s.heap h'->SR pw w B bad O' Z' h'->ya pw w h' bad O' Qc vs->Q Qc Z'->P vs {s with heap:=h',toks:=tk}):wpAny (model pw w) A t P E s0:=
 C2 h (λv s' z=>match s',z with|_,⟨av,Z',O',h',tk,rfl,x,S,r,q⟩=>k av v Z' O' h' tk x S r q) λ_ _ z=>z
theorem Nb.bind{Q:Bool->AH->Prop}{t:Sem Bool}{P:Bool->Shared->Prop}(h:wpAny (model pw w) A t (Nb w B bad O s Q) E s0)(k:∀b Z' O' h' tk,Zc O O' s.heap h'->SR pw w B bad O' Z' h'->Q b Z'->P b {s with heap:=h',toks:=tk}):wpAny (model pw w) A t P E s0:=
 C2 h (λv s' z=>match s',z with|_,⟨Z',O',h',tk,rfl,x,S,q⟩=>k v Z' O' h' tk x S q) λ_ _ z=>z
theorem Nb.trans{Q:Bool->AH->Prop}{b:Bool}(x:Zc O O1 s.heap h1)(y:Nb w B bad O1 {s with heap:=h1,toks:=tk} Q b s'):Nb w B bad O s Q b s':=by obtain⟨Z',O',h',yC,rfl,e,S,q⟩:=y;exact⟨Z',O',h',yC,rfl,x.trans e,S,q⟩
theorem aa.lift{t:Sem Value}(x:Zc O O1 s.heap h1)(y:wpAny (model pw w) A t (aa pw w B bad O1 {s with heap:=h1,toks:=tk} Q) qb {s with heap:=h1,toks:=tk}):wpAny (model pw w) A t (aa pw w B bad O s Q) qb {s with heap:=h1,toks:=tk}:=C2 y (λ_ _ z=>aa.trans x z) λ_ _ z=>z
theorem Nb.lift{Q:Bool->AH->Prop}{t:Sem Bool}(x:Zc O O1 s.heap h1)(y:wpAny (model pw w) A t (Nb w B bad O1 {s with heap:=h1,toks:=tk} Q) qb {s with heap:=h1,toks:=tk}):wpAny (model pw w) A t (Nb w B bad O s Q) qb {s with heap:=h1,toks:=tk}:=C2 y (λ_ _ z=>Nb.trans x z) λ_ _ z=>z
theorem YJ{Q:Bool->AH->Prop}{t:Sem Value}(y:wpAny (model pw w) A t (aa pw w B bad O s λv Z=>Hb (Db Z v) λt=>Q t Z) qb s):wpAny (model pw w) A t (λv s'=>wpAny (model pw w) A (truthy v) (Nb w B bad O s Q) qb s') qb s:=
 aa.bind y λav v Z' O' h' tk x S r q=>let⟨_,ht,q⟩:=ib q;Ok (s:={s with heap:=h',toks:=tk}) ht S r λyC=>⟨Z',O',h',yC,rfl,x,S,q⟩
theorem KA{value:PE}{o i:Value}{Ty id:String}{l:List Value}{Q:Value->Shared->Prop}(hT:s.TypeIs o Ty)(hl:typeLookup (.type Ty) "__getitem__"=pure (some (.builtin id)))(hs:subscripted slice false o i=operate l (getItem o i))(h:wpAny (model pw w) A (getItem o i) Q E s):wpAny (model pw w) A (subscriptTail value slice o i) Q E s:=by
 unfold subscriptTail;refine E0<|rr (getitemInPython_of_ne hT.not_modules)<|E0 (wpAny_specialOf hT hl ?_);have fin:wpAny (model pw w) A (subscripted slice false o i) (λr s₃=>wpAny (model pw w) A (letTemporaryGo value o r>>=λ_=>pure r) Q E s₃) E s:=rr hs<|wpAny_operating (C2 h (λr s₃ h₃=>E0 (wpAny_letTemporaryGo (A2 h₃))) λ_ _ x=>x)
 first
  |exact A2 (E0 fin)
  |exact E0 (A2 (E0 fin))
  |exact E0 fin
noncomputable def kD(Z:AH)(a:AV):Bool:=(Td a).isSome|| !(Ah Z a==0)
theorem KU:∀k,k<4->k≠0->∃id,typeLookup (.type (FW k)) "__getitem__"=pure (some (.builtin id))|0,_,h=>absurd rfl h|1,_,_=>⟨_,slot_list_getitem.lookup⟩|2,_,_=>⟨_,slot_dict_getitem.lookup⟩|3,_,_=>⟨_,slot_str_getitem.lookup⟩|k+4,h,_=>absurd h (Nat.not_lt.mpr (D0 4 k))
theorem wB(e:kD Z a=true)(S:SR pw w B bad O Z s.heap)(r:VR pw w s.heap bad O a v):∃Ty id,s.TypeIs v Ty/\typeLookup (.type Ty) "__getitem__"=pure (some (.builtin id)):=by
 cases ht:Td a with
 |some xs=>have ht:=Nk ht;clear e;subst ht;exact am (P:=λv=>∃Ty id,s.TypeIs v Ty/\typeLookup (.type Ty) "__getitem__"=pure (some (.builtin id))) r λp vs n _ ho _=>(sk ("tuple") _ (Na _ ho rfl) slot_tuple_getitem.lookup)|none=>
  have hn:Ah Z a≠0:=λz=>by
   unfold kD at e;replace e:=z▸(ht▸e);exact Lf e
  have m:=fB hn S r;exact kE (KU _ m.lt hn) λid h=>(sk _ id m.ty h)
theorem vB(h:Z[j]? =some o)(ho:wG o≠0):kD Z (.ref j)=true:=by unfold kD;refine rr (oj h)<|rr (beq_false_of_ne ho) ?_;rfl
theorem YG{i r:AV}(e:jb Z a i=some r):kD Z a=true:=by
 cases a with
 |tup=>rfl|ba=>rfl|str=>rfl|rc=>rfl|ref j=>
  refine ga e λo ho e=>vB ho ?_;induction o with|inst=>exact ns e|_=>exact nofun
 |_=>exact ns e
theorem FF{lo r:AV}(e:Wi Z a lo hi=some r):kD Z a=true:=ga e λxs hx _=>by
 clear e;cases a with|ba=>rfl|ref j=>exact vB (HG hx) nofun|_=>exact ns hx
theorem IC(h:∀a b c d,slice≠ .Slice a b c d)(o i:Value):subscripted slice false o i=operate [o,i] (getItem o i):=by rcases slice with⟨⟩<;>first|rfl|exact absurd rfl (h _ _ _ _)
theorem Vk{r:List PE}(h:∀a b,e≠ .Starred a b)(env:Env):starEach (e::r) env=(false,eval e env)::starEach r env:=by rcases e with⟨⟩<;>first|rfl|exact absurd rfl (h _ _)
theorem Rl{n:Str}{k:Nat}(e:Vh n=some k):nm k=n/\k<32:=by unfold Vh at e;obtain⟨h1,h2,_⟩:=List.findIdx?_eq_some_iff_getElem.mp e;refine⟨?_,h1⟩;unfold nm;refine rr List.getD_eq_getElem?_getD<|rr (z3 h1) ?_;simpa using h2
end
noncomputable def zf:X->Bool| .not _=>false| .and _ _=>false| .or _ _=>false| .za _ _ _=>false| .cmp _ _ _=>false| .Sm _ _ _ _ _=>false|_=>true
theorem Ny{K:CP}(x:X)(fr:Fr)(Z:AH)(Q:Bool->AH->Prop)(hp:zf x=true)(h:Pb K x fr Z Q):dc K x fr Z (λv Z1=>Dn Z1 v Q):=by
 cases x with|not|and|or|za|cmp|Sm=>exact Lf hp|bad|neg|tup|lst|dct|slc|comp|af=>exact fE h|_=>exact h
structure Ev(T:Tb)(w:World)(B:Heap)(lvl:Nat)(n:Nat):Prop where
 ex:∀{sc:Sc}{ns:List Str}{e:PE}{env:Env}{fr:Fr}{Z:AH}{s:Shared}{O:Io}{bad:ie}{Q:AV->AH->Prop}{A:Around},Rm lvl A->FR w B env sc ns fr s.heap bad O->SR pw w B bad O Z s.heap->ta B bad s.heap->
  dc (ja w B lvl) (tr T n sc ns e) fr Z Q->wpAny (model pw w) A (eval e env) (aa pw w B bad O s Q) qb s
 te:∀{sc:Sc}{ns:List Str}{e:PE}{env:Env}{fr:Fr}{Z:AH}{s:Shared}{O:Io}{bad:ie}{Q:Bool->AH->Prop}{A:Around},Rm lvl A->FR w B env sc ns fr s.heap bad O->SR pw w B bad O Z s.heap->ta B bad s.heap->
  Pb (ja w B lvl) (tr T n sc ns e) fr Z Q->wpAny (model pw w) A (isTrue e env (eval e env)) (Nb w B bad O s Q) qb s
 ar:∀{sc:Sc}{ns:List Str}{es:List PE}{pos:Pos}{env:Env}{fr:Fr}{Z:AH}{s:Shared}{O:Io}{bad:ie}{Q:List AV->AH->Prop}{A:Around},Rm lvl A->FR w B env sc ns fr s.heap bad O->SR pw w B bad O Z s.heap->ta B bad s.heap->
  Nf (ja w B lvl) (Gn T n sc ns es) fr Z Q->wpAny (model pw w) A (spliced (backTo pos (starEach es env))) (Cm w B bad O s Q) qb s/\(backTo pos (starEach es env)).any (·.1)=false
 bo:∀{sc:Sc}{ns:List Str}{op:BoolOp}{es:List PE}{pos:Pos}{env:Env}{fr:Fr}{Z:AH}{s:Shared}{O:Io}{bad:ie}{Q:AV->AH->Prop}{A:Around},Rm lvl A->FR w B env sc ns fr s.heap bad O->SR pw w B bad O Z s.heap->ta B bad s.heap->
  dc (ja w B lvl) (XJ T n sc ns op es) fr Z Q->wpAny (model pw w) A (boolOp pos op (evalEach es env)) (aa pw w B bad O s Q) qb s
 bt:∀{sc:Sc}{ns:List Str}{op:BoolOp}{es:List PE}{env:Env}{fr:Fr}{Z:AH}{s:Shared}{O:Io}{bad:ie}{Q:Bool->AH->Prop}{A:Around},Rm lvl A->FR w B env sc ns fr s.heap bad O->SR pw w B bad O Z s.heap->ta B bad s.heap->
  Pb (ja w B lvl) (XJ T n sc ns op es) fr Z Q->wpAny (model pw w) A (allTrue op es env) (Nb w B bad O s Q) qb s
section
variable{T:Tb}{sc:Sc}{ns:List Str}
theorem Ev.nF(I:Ev T w B lvl n){a b:PE}{f:Value->Value->Sem Value}(rm:Rm lvl A)(F:FR w B env sc ns fr s.heap bad O)(S:SR pw w B bad O Z s.heap)(b0:ta B bad s.heap){G:AV->AV->AH->Prop}(h:dc (ja w B lvl) (tr T n sc ns a) fr Z λva Z1=>dc (ja w B lvl) (tr T n sc ns b) fr Z1 λvb Z2=>G va vb Z2)(k:∀va vb x y Z2 O2 h2 tk,Zc O O2 s.heap h2->SR pw w B bad O2 Z2 h2->ta B bad h2->FR w B env sc ns fr h2 bad O2->VR pw w h2 bad O2 va x->VR pw w h2 bad O2 vb y->G va vb Z2->wpAny (model pw w) A (f x y) P qb {s with heap:=h2,toks:=tk}):wpAny (model pw w) A (eval a env) (λx s1=>wpAny (model pw w) A (eval b env) (λy s2=>wpAny (model pw w) A (f x y) P qb s2) qb s1) qb s:=by refine aa.bind (I.ex rm F S b0 h) λva x Z1 O1 h1 nc x1 S1 r1 q1=>?_;have F1:=F.step S x1;have b1:=b0.ext x1;exact aa.bind (I.ex (s:={s with heap:=h1,toks:=nc}) rm F1 S1 b1 q1) λvb y Z2 O2 h2 jg x2 S2 r2 q2=>k va vb x y Z2 O2 h2 jg (x1.trans x2) S2 (b1.ext x2) (F1.step S1 x2) (VR.keeps x2.kp r1) r2 q2
theorem eC{o:PE}{r:Sem Value}(hb:rp o=true):attributeBase o name env r=r:=by
 cases o with
 |Call f as ks p=>
  cases f with
  |Name=>
   induction as with
   |cons=>rfl|nil=>induction ks with
    |cons=>rfl|nil=>exact Lf hb
  |_=>rfl
 |_=>rfl
theorem cG{op:Operator}{o:Nat}(h:JS op=some o):yO o=op:=by
 cases op with|Add|Sub|Mult|FloorDiv|Mod|BitAnd|BitOr|RShift=>exact C0 yO (z0 h).symm|_=>exact Mine.ns h
theorem Nl(op:CmpOp):nI (Rp op)=op:=by rcases op with⟨⟩<;>rfl
theorem bj(rm:Rm lvl A)(k:Nat)(h:k<=199):A.units+k<cLine:=by have:=rm.un;exact Jc [_,_,_] 7954996137663656041913202948857459786915057537805999554854683393 tO h this
theorem MH(I:Ev T w B lvl n){l r:PE}{op:Operator}{o:Nat}(ho:JS op=some o)(rm:Rm lvl A)(F:FR w B env sc ns fr s.heap bad O)(S:SR pw w B bad O Z s.heap)(b0:ta B bad s.heap)(h:dc (ja w B lvl) (.bin o (tr T n sc ns l) (tr T n sc ns r)) fr Z Q):wpAny (model pw w) A (eval (.BinOp l op r pos) env) (aa pw w B bad O s Q) qb s:=by refine wpAny_BinOp (I.nF (f:=λx y=>binaryOp op x y) rm F S b0 h λva vb x y Z2 O2 h2 tk x2 S2 b2 F2 r1 r2 q=>?_);exact Xa (ib q) λr e q=>rq (cG ho)<|aa.lift x2 (HI (s:={s with heap:=h2,toks:=tk}) e S2 b2.live r1 r2 q)
theorem Kw(Bb:Bs T w B K)(I:Ev T w B lvl n){l r:PE}(hm:behindInMarks op r=false)(rm:Rm lvl A)(F:FR w B env sc ns fr s.heap bad O)(S:SR pw w B bad O Z s.heap)(b0:ta B bad s.heap)(h:dc (ja w B lvl) (.cmp (Rp op) (tr T n sc ns l) (tr T n sc ns r)) fr Z Q):wpAny (model pw w) A (eval (.Compare l [op] [r] pos) env) (aa pw w B bad O s Q) qb s:=by refine wpAny_Compare1 (I.nF (f:=λx y=>compareOp op x y) rm F S b0 h λva vb x y Z2 O2 h2 tk x2 S2 b2 F2 r1 r2 q=>?_) hm;refine Xa (ib q) λr e q=>?_;have z:=Qt (s:={s with heap:=h2,toks:=tk}) (A:=A) (E:=qb) Bb.mods e S2 r1 r2 (bj rm 20 ((D0 _ _))) q;rw[Nl]at z;exact aa.lift x2 z
theorem Xo{o:Nat}{b:AV}{va:Value}{r:Bool}{P:Bool->Shared->Prop}(Bb:Bs T w B K)(rm:Rm lvl A)(e:Ta Z o a b=some r)(S:SR pw w B bad O Z s.heap)(ra:VR pw w s.heap bad O a va)(rb:VR pw w s.heap bad O b vb)(q:∀h' tk O' Z',Zc O O' s.heap h'->SR pw w B bad O' Z' h'->Z'=Z->P r {s with heap:=h',toks:=tk}):wpAny (model pw w) A (compareOp (nI o) va vb) (λc s'=>wpAny (model pw w) A (truthy c) P qb s') qb s:=by
 refine C2 (Qt (Q:=λv Z'=>v= .bool r/\Z'=Z) Bb.mods e S ra rb (bj rm 20 ((D0 _ _))) ⟨rfl,rfl⟩) (λc s' z=>?_) λ_ _ z=>z;obtain⟨av,Z',O',h',tk,rfl,x,S',r',rfl,e'⟩:=z;rcases r' with⟨⟩
 exact wpAny_truthy_bool (q h' tk O' Z' x S' e')
theorem Wu(Bb:Bs T w B K)(I:Ev T w B lvl n){l r:PE}(hm:behindInMarks op r=false)(rm:Rm lvl A)(F:FR w B env sc ns fr s.heap bad O)(S:SR pw w B bad O Z s.heap)(b0:ta B bad s.heap)(h:Pb (ja w B lvl) (.cmp (Rp op) (tr T n sc ns l) (tr T n sc ns r)) fr Z R):wpAny (model pw w) A (isTrue (.Compare l [op] [r] pos) env xA) (Nb w B bad O s R) qb s:=by refine wpAny_isTrue_Compare1 (C2 (I.ex rm F S b0 h) (λx s1 z=>?_) λ_ _ z=>z) hm;obtain⟨va,Z1,O1,h1,nc,rfl,x1,S1,r1,q1⟩:=z;have F1:=F.step S x1;have b1:=b0.ext x1;refine aa.bind (I.ex (s:={s with heap:=h1,toks:=nc}) rm F1 S1 b1 q1) λvb y Z2 O2 h2 jg x2 S2 r2 q2=>Xa (ib q2) λr e q=>?_;have z:=Xo (s:={s with heap:=h2,toks:=jg}) (P:=Nb w B bad O s R) Bb rm e S2 (VR.keeps x2.kp r1) r2 λh' tk O' Z' x S' e'=>⟨Z',O',h',tk,rfl,(x1.trans x2).trans x,S',e'▸q⟩;rw[Nl]at z;exact z
theorem Jw(I:Ev T w B lvl n){x:PE}(rm:Rm lvl A)(F:FR w B env sc ns fr s.heap bad O)(S:SR pw w B bad O Z s.heap)(b0:ta B bad s.heap)(h:dc (ja w B lvl) (.not (tr T n sc ns x)) fr Z Q):wpAny (model pw w) A (eval (.UnaryOp .Not x pos) env) (aa pw w B bad O s Q) qb s:=by refine wpAny_UnaryOp (aa.bind (I.ex rm F S b0 h) λva x Z1 O1 h1 nc x1 S1 r1 q1=>?_);exact Xa (ib q1) λt e q=>aa.lift x1 (BO (s:={s with heap:=h1,toks:=nc}) e S1 r1 q)
theorem Iw(I:Ev T w B lvl n){x:PE}(rm:Rm lvl A)(F:FR w B env sc ns fr s.heap bad O)(S:SR pw w B bad O Z s.heap)(b0:ta B bad s.heap)(h:dc (ja w B lvl) (.neg (tr T n sc ns x)) fr Z Q):wpAny (model pw w) A (eval (.UnaryOp .USub x pos) env) (aa pw w B bad O s Q) qb s:=by
 refine wpAny_UnaryOp (aa.bind (I.ex rm F S b0 h) λva x Z1 O1 h1 nc x1 S1 r1 q1=>?_);refine Xa (ib q1) λt e q=>?_;clear q1;cases va with
 |int i=>exact kE r1 λtk ez=>rr ez<|PySem.P.neg_int (aa.trans x1 (aa.now (s:={s with heap:=h1,toks:=nc}) S1 (VR.I _ _) (z0 (show some i=some t from e)▸q)))
 |_=>exact Mine.ns e
theorem JH(I:Ev T w B lvl n){a b:PE}(rm:Rm lvl A)(F:FR w B env sc ns fr s.heap bad O)(S:SR pw w B bad O Z s.heap)(b0:ta B bad s.heap)(h:dc (ja w B lvl) (.za (tr T n sc ns t) (tr T n sc ns a) (tr T n sc ns b)) fr Z Q):wpAny (model pw w) A (eval (.IfExp t a b pos) env) (aa pw w B bad O s Q) qb s:=by
 refine wpAny_IfExp (Nb.bind (I.te rm F S b0 h) λu Z1 O1 h1 nc x1 S1 q1=>?_);induction u with|true=>exact aa.lift x1 (I.ex (s:={s with heap:=h1,toks:=nc}) rm (F.step S x1) S1 (b0.ext x1) q1)|false=>exact aa.lift x1 (I.ex (s:={s with heap:=h1,toks:=nc}) rm (F.step S x1) S1 (b0.ext x1) q1)
theorem rF(I:Ev T w B lvl n){a b:PE}(rm:Rm lvl A)(F:FR w B env sc ns fr s.heap bad O)(S:SR pw w B bad O Z s.heap)(b0:ta B bad s.heap)(h:Pb (ja w B lvl) (.za (tr T n sc ns t) (tr T n sc ns a) (tr T n sc ns b)) fr Z R):wpAny (model pw w) A (isTrue (.IfExp t a b pos) env xA) (Nb w B bad O s R) qb s:=by
 rw[arm_isTrue_IfExp];refine E0 (Nb.bind (I.te rm F S b0 h) λu Z1 O1 h1 nc x1 S1 q1=>?_);induction u with|true=>exact Nb.lift x1 (I.te (s:={s with heap:=h1,toks:=nc}) rm (F.step S x1) S1 (b0.ext x1) q1)|false=>exact Nb.lift x1 (I.te (s:={s with heap:=h1,toks:=nc}) rm (F.step S x1) S1 (b0.ext x1) q1)
theorem SN(I:Ev T w B lvl n){x:PE}(rm:Rm lvl A)(F:FR w B env sc ns fr s.heap bad O)(S:SR pw w B bad O Z s.heap)(b0:ta B bad s.heap)(h:Pb (ja w B lvl) (.not (tr T n sc ns x)) fr Z R):wpAny (model pw w) A (isTrue (.UnaryOp .Not x pos) env xA) (Nb w B bad O s R) qb s:=wpAny_isTrue_Not (Nb.bind (I.te rm F S b0 h) λu Z1 O1 h1 nc x1 S1 q1=>⟨Z1,O1,h1,nc,rfl,x1,S1,q1⟩)
theorem HH(I:Ev T w B lvl n){k:Nat}(rm:Rm lvl A)(F:FR w B env sc ns fr s.heap bad O)(S:SR pw w B bad O Z s.heap)(b0:ta B bad s.heap)(h:dc (ja w B lvl) (.tup (Gn T n sc ns es)) fr Z Q):wpAny (model pw w) A (eval (.Tuple es k pos) env) (aa pw w B bad O s Q) qb s:=by refine wpAny_Tuple (C2 (I.ar rm F S b0 h).1 (λvs s1 z=>?_) λ_ _ z=>z);obtain⟨Qc,Z1,O1,h1,nc,rfl,x1,S1,r1,hl,q⟩:=z;have l:=ya.length r1;refine⟨by exact rq l<|pj hl,aa.trans x1 (aa.push (s:={s with heap:=h1,toks:=nc}) (av:= .tup Qc) S1 ?_ q)⟩;exact(Ob _ vs 0 rfl (Di (s:={s with heap:=h1,toks:=nc}) S1 (b0.ext x1).live) (J2 _ rfl) (ya.keeps (Kp.of_keep λa o e=>J1 _ e) r1))
theorem JL(I:Ev T w B lvl n){t:Bool}(rm:Rm lvl A)(F:FR w B env sc ns fr s.heap bad O)(S:SR pw w B bad O Z s.heap)(b0:ta B bad s.heap)(h:dc (ja w B lvl) (.lst t (Gn T n sc ns es)) fr Z Q):wpAny (model pw w) A (eval (.List es pos) env) (aa pw w B bad O s Q) qb s:=by
 refine wpAny_List (C2 (I.ar rm F S b0 h).1 (λvs s1 z=>?_) λ_ _ z=>z);obtain⟨Qc,Z1,O1,h1,nc,rfl,x1,S1,r1,hl,q⟩:=z;have l:=ya.length r1;have b1:=b0.ext x1;have fz:=Di (s:={s with heap:=h1,toks:=nc}) S1 b1.live;have r2:∀{O2:Io},(∀(i:Nat) p,O1[i]? =some p->O2[i]? =some p)->(∀a o,Fz bad O1 a->h1.get? a=some o->Fz bad O2 a)->ya pw w (h1.push {cls:= .type "list",data:= .seq vs.toArray}) bad O2 Qc vs:=
  λhi hf=>ya.keeps ⟨λa o _ e=>J1 _ e,hf,hi⟩ r1
 refine⟨by exact rq l<|pj hl,aa.trans (tk:=nc) x1 ?_⟩;induction t with
 |false=>refine aa.push (s:={s with heap:=h1,toks:=nc}) (av:= .ba Qc) S1 ?_ q;exact(Ob _ vs 0 rfl fz (J2 _ rfl) (r2 (λ_ _ h=>h) λ_ _ h _=>h))|true=>
  have DB:h1.get? h1.objs.size=none:=Nc h1;have ad:∀a,a∈uc [((h1.objs.size,none):Addr×Option Addr)]->a=h1.objs.size:=λa ha=>by simpa[uc]using ha
  obtain⟨S2,x2⟩:=SR.new (p:=(h1.objs.size,none)) (o':= .list Qc) (h':=h1.push {cls:= .type "list",data:= .seq vs.toArray}) S1 (λa o e=>J1 _ e)
   (λa ha=>by
    rcases ha with rfl|ha
    ·exact(aY DB _ (J2 _ rfl))
    ·exact Mine.ns ha)
   (by simp) (λa ha hb=>by
    rcases ha with rfl|ha
    ·exact fz.1 hb
    ·exact Mine.ns ha)
   ⟨rfl,vs,0,J2 _ rfl,r2 (λi p h=>by refine rr (C1 (B0.mp h).1) ?_;exact h) λa o hf e=>⟨hf.1,λhm=>by
    rw[Za]at hm;rcases D2.mp hm with hm|hm
    ·exact hf.2 hm
    ·replace e:=DB▸(ad a hm▸e);exact Mine.ns e⟩⟩
  refine⟨.ref Z1.length,_,_,_,nc,rfl,x2,S2,(Na (h1.objs.size,none) ?_ rfl),by simpa using q⟩;refine rq S1.len ?_;simp
theorem OL(Bb:Bs T w B K)(I:Ev T w B lvl n){o:PE}{k:Nat}(hb:rp o=true)(hk:Vh name=some k)(rm:Rm lvl A)(F:FR w B env sc ns fr s.heap bad O)(S:SR pw w B bad O Z s.heap)(b0:ta B bad s.heap)(h:dc (ja w B lvl) (.attr (tr T n sc ns o) k) fr Z Q):wpAny (model pw w) A (eval (.Attribute o name pos) env) (aa pw w B bad O s Q) qb s:=by refine kA (Rl hk) λe1 _=>?_;rw[arm_eval_Attribute];have sU:attributeBase o name env (eval o env)=eval o env:=eC hb;rw[sU];refine E0 (aa.bind (I.ex rm F S b0 h) λva x Z1 O1 h1 nc x1 S1 r1 q1=>?_);refine Xa (ib q1) λt e q=>E0 (wpAny_standAt (E0 (Y3 ?_)));refine rq e1 ?_;have X:K.In h1:=λa o hk=>S1.keep a o (Bb.IG a o hk);refine C2 (aa.lift x1 (rM (s:={s with heap:=h1,toks:=nc}) Bb.ko X e S1 r1 q)) (λr s2 z=>?_) λ_ _ z=>z;exact E0 (wpAny_letTemporaryGo (A2 z))
theorem TP(Bb:Bs T w B K)(I:Ev T w B lvl n){v i:PE}(hs:∀a b c d,i≠ .Slice a b c d)(rm:Rm lvl A)(F:FR w B env sc ns fr s.heap bad O)(S:SR pw w B bad O Z s.heap)(b0:ta B bad s.heap)(h:dc (ja w B lvl) (.idx (tr T n sc ns v) (tr T n sc ns i)) fr Z Q):wpAny (model pw w) A (eval (.Subscript v i pos) env) (aa pw w B bad O s Q) qb s:=by refine Subscript_ (I.nF (f:=λx y=>subscriptTail v i x y) rm F S b0 h λva vb x y Z2 O2 h2 tk x2 S2 b2 F2 r1 r2 q=>?_);exact Xa (ib q) λr e q=>db (wB (s:={s with heap:=h2,toks:=tk}) (YG e) S2 r1) λTy id hT hl=>KA hT hl (IC hs x y) (aa.lift x2 (XG (s:={s with heap:=h2,toks:=tk}) Bb.mods e S2 r1 r2 (bj rm 20 ((D0 _ _))) q))
end
section
variable{T:Tb}{sc:Sc}{ns:List Str}
theorem Xh(x:Str):Pa x.cps.toList=x:=by rfl
theorem KH{c:Const}{k:Nat}(S:SR pw w B bad O Z s.heap)(h:dc (ja w B lvl) (ZH c) fr Z Q):wpAny (model pw w) A (eval (.Constant c k pos) env) (aa pw w B bad O s Q) qb s:=by
 cases c with
 |none=>exact wpAny_Constant_none (aa.here S VR.N h)|bool b=>exact wpAny_Constant_bool (aa.here S (VR.Bo _) h)|int i=>exact wpAny_Constant_int (aa.now S (VR.I _ _) h)|str x=>
  refine PySem.wpAny_Constant_str (aa.now S ?_ h);have:=VR.S (prog:=pw) (w:=w) (bad:=bad) (O:=O) (h:=s.heap) x.cps.toList s.toks
  rwa [Xh]at this
 |_=>exact fE h
theorem Gl{names:Sc}{n:Str}(h:Te names n=1):names.lookup n=some .globalImplicit:=by
 unfold Te at h;generalize names.lookup n=o at h⊢;exact match o,h with|some .globalImplicit,_=>rfl
theorem CT(Bb:Bs T w B K){f:Str}{a:Nat}(hd:(f==("__debug__":Str))=false)(hk:Te sc f=1)(hg:T.glob f=some (.fn a))(F:FR w B env sc ns fr s.heap bad O)(S:SR pw w B bad O Z s.heap)(q:P (.ref a) s):wpAny (model pw w) A (eval (.Name f pos) env) P qb s:=by refine kA (Bb.fn f a hg) λe1 _=>kE Bb.gl λmg gH=>?_;have e2:=Ov Bb.IG gH e1;refine Name_function_global F.kind (by rw[Al];exact Gl (by rw[F.names,hk])) (loadGlobal_global (mg:=mg) ?_ e2 q) hd;exact rr F.glob<|gH.keeps S.keep
theorem TM(Bb:Bs T w B K){f:Str}{k:Nat}(hd:(f==("__debug__":Str))=false)(hk:Te sc f=1)(hg:T.glob f=some (.bi k))(F:FR w B env sc ns fr s.heap bad O)(S:SR pw w B bad O Z s.heap)(q:P (QD k) s):wpAny (model pw w) A (eval (.Name f pos) env) P qb s:=by refine kA (Bb.bi f k hg) λe1 e2=>kE Bb.gl λmg gH=>kE Bb.bl λmb hmb=>?_;exact Name_function_global F.kind (by rw[Al];exact Gl (by rw[F.names,hk])) (loadGlobal_builtin (mg:=mg) (mb:=mb) (rr F.glob<|gH.keeps S.keep) (Ov Bb.IG gH e1) (rr F.wm<|hmb.keeps S.keep) (Ov Bb.IG hmb e2) q) hd
theorem bP(Bb:Bs T w B K){f:Str}{v:AV}(hd:(f==("__debug__":Str))=false)(hk:Te sc f=1)(hg:T.glob f=some (.val v))(F:FR w B env sc ns fr s.heap bad O)(S:SR pw w B bad O Z s.heap)(b0:ta B bad s.heap)(q:Q v Z):wpAny (model pw w) A (eval (.Name f pos) env) (aa pw w B bad O s Q) qb s:=by
 refine Xa (Bb.val f v hg) λu e1 r=>kE Bb.gl λmg gH=>?_;have e2:=Ov Bb.IG gH e1;refine Name_function_global F.kind (by rw[Al];exact Gl (by rw[F.names,hk])) (loadGlobal_global (mg:=mg) (rr F.glob<|gH.keeps S.keep) e2 (aa.here S ?_ q)) hd
 ·refine VR.keeps ⟨λa o _ e=>S.keep a o e,λa o _ e=>⟨λha=>?_,λha=>?_⟩,λi p h=>by simp at h⟩ r
  ·replace e:=b0.off a ha▸e;exact Mine.ns e
  ·replace e:=(S.off a ha).1▸e;exact Mine.ns e
theorem aP{n:Str}(hd:(n==("__debug__":Str))=false)(hk:Te sc n=0)(hs:pb ns n=some i)(hf:fr[i]? =some (some a))(F:FR w B env sc ns fr s.heap bad O)(S:SR pw w B bad O Z s.heap)(q:Q a Z):wpAny (model pw w) A (eval (.Name n pos) env) (aa pw w B bad O s Q) qb s:=by
 refine Xa (F.val n i a hk hs hf) λv hv hr=>?_;have fin:aa pw w B bad O s Q v s:=aa.here S hr q;cases hv with|loc m h1 h2 h3=>exact wpAny_Name (wpAny_loadName_local F.kind h1 h2 h3 fin) hd|cell c h1 h2 h3=>exact wpAny_Name (wpAny_loadName_cell F.kind h1 h2 h3 fin) hd|free c h1 h2 h3 h4=>exact wpAny_Name (wpAny_loadName_free F.kind h1 h2 h3 fin h4) hd
noncomputable def rY:BoolOp->Bool->Bool| .And,t=> !t| .Or,t=>t
set_option backward.match.sparseCases true in
theorem aV(I:Ev T w B lvl n){op:BoolOp}(rm:Rm lvl A)(F:FR w B env sc ns fr s.heap bad O)(S:SR pw w B bad O Z s.heap)(b0:ta B bad s.heap)(h:dc (ja w B lvl) (XJ T (n+1) sc ns op es) fr Z Q):wpAny (model pw w) A (boolOp pos op (evalEach es env)) (aa pw w B bad O s Q) qb s:=by
 cases es with
 |nil=>exact fE h|cons x r=>
  cases r with
  |nil=>exact I.ex rm F S b0 h|cons y r=>
   have go:∀{G:AV->AH->Prop},dc (ja w B lvl) (tr T n sc ns x) fr Z G->(∀va v Z1 O1 h1,Zc O O1 s.heap h1->SR pw w B bad O1 Z1 h1->VR pw w h1 bad O1 va v->G va Z1->
     ∃t,Db Z1 va=some t/\(cond (rY op t) (Q va Z1) (dc (ja w B lvl) (XJ T n sc ns op (y::r)) fr Z1 Q)))->
     wpAny (model pw w) A (boolOp pos op (evalEach (x::y::r) env)) (aa pw w B bad O s Q) qb s:=by
    intro G hx hk;show wpAny (model pw w) A (do
     let v<-eval x env
     standAt pos
     let t<-holding [v] (truthy v)
     match op,t with
     | .And,false| .Or,true=>pure v|_,_=>boolOp pos op (evalEach (y::r) env)) _ _ s
    refine E0 (aa.bind (I.ex rm F S b0 hx) λva v Z1 O1 h1 nc x1 S1 r1 q1=>?_);refine Xa (hk va v Z1 O1 h1 x1 S1 r1 q1) λt ht q=>E0 (wpAny_standAt (E0 (Y3 (Ok (s:={s with heap:=h1,toks:=nc}) ht S1 r1 λtk=>?_))));have rest:∀{q':dc (ja w B lvl) (XJ T n sc ns op (y::r)) fr Z1 Q},wpAny (model pw w) A (boolOp pos op (evalEach (y::r) env)) (aa pw w B bad O s Q) qb {s with heap:=h1,toks:=tk}:=
     λ{q'}=>aa.lift x1 (I.bo (s:={s with heap:=h1,toks:=tk}) rm (F.step S x1) S1 (b0.ext x1) q')
    have done:Q va Z1->aa pw w B bad O s Q v {s with heap:=h1,toks:=tk}:=λq=>⟨va,Z1,O1,h1,tk,rfl,x1,S1,r1,q⟩;clear h hk;rcases op with⟨⟩<;>(clear ht;rcases t with⟨⟩)
    ·exact A2 (done q)
    ·exact rest (q':=q)
    ·exact rest (q':=q)
    ·exact A2 (done q)
   cases op with
   |And=>refine go h λva v Z1 O1 h1 x1 S1 r1 q=>Xa (ib q) λt ht q=>(Na t ht ?_);rcases t with⟨⟩<;>exact q
   |Or=>refine go h λva v Z1 O1 h1 x1 S1 r1 q=>Xa (ib q) λt ht q=>(Na t ht ?_);rcases t with⟨⟩<;>exact q
theorem ZU(I:Ev T w B lvl n){op:BoolOp}(rm:Rm lvl A)(F:FR w B env sc ns fr s.heap bad O)(S:SR pw w B bad O Z s.heap)(b0:ta B bad s.heap)(h:Pb (ja w B lvl) (XJ T (n+1) sc ns op es) fr Z R):wpAny (model pw w) A (allTrue op es env) (Nb w B bad O s R) qb s:=by
 cases es with
 |nil=>exact fE h|cons x r=>
  cases r with
  |nil=>
   have z:=I.te rm F S b0 h;clear h;cases op with
   |And=>
    refine wpAny_allTrue_And_cons (C2 z (λu s1 y=>?_) λ_ _ y=>y);rcases u with⟨⟩
    ·exact y
    ·exact wpAny_allTrue_And_nil y
   |Or=>
    refine wpAny_allTrue_Or_cons (C2 z (λu s1 y=>?_) λ_ _ y=>y);rcases u with⟨⟩
    ·exact wpAny_allTrue_Or_nil y
    ·exact y
  |cons y r=>
   cases op with
   |And=>
    refine wpAny_allTrue_And_cons (Nb.bind (I.te rm F S b0 h) λu Z1 O1 h1 nc x1 S1 q1=>?_);rcases u with⟨⟩
    ·exact⟨Z1,O1,h1,nc,rfl,x1,S1,q1⟩
    ·exact Nb.lift x1 (I.bt (s:={s with heap:=h1,toks:=nc}) rm (F.step S x1) S1 (b0.ext x1) q1)
   |Or=>
    refine wpAny_allTrue_Or_cons (Nb.bind (I.te rm F S b0 h) λu Z1 O1 h1 nc x1 S1 q1=>?_);rcases u with⟨⟩
    ·exact Nb.lift x1 (I.bt (s:={s with heap:=h1,toks:=nc}) rm (F.step S x1) S1 (b0.ext x1) q1)
    ·exact⟨Z1,O1,h1,nc,rfl,x1,S1,q1⟩
theorem jv:∀{es:List PE}(env:Env)(pos:Pos),es.all Qd=true->(backTo pos (starEach es env)).any (·.1)=false:=by
 intro es;induction es with|nil=>intro _ _ _;exact rfl|cons e r ih=>intro env pos h;rw[List.all_cons,M0]at h;rw[Vk (by rintro a b rfl;cases h.1)];show(false||(backTo pos (starEach r env)).any (·.1))=false;rw[ih env pos h.2];rfl
theorem UP(I:Ev T w B lvl n)(hs:es.all Qd=true)(rm:Rm lvl A)(F:FR w B env sc ns fr s.heap bad O)(S:SR pw w B bad O Z s.heap)(b0:ta B bad s.heap){Q:List AV->AH->Prop}(h:Nf (ja w B lvl) (es.map λe=>tr T n sc ns e) fr Z Q):wpAny (model pw w) A (spliced (backTo pos (starEach es env))) (Cm w B bad O s Q) qb s:=by
 induction es generalizing Z s O Q with
 |nil=>exact wpAny_items_nil ⟨[],Z,O,s.heap,s.toks,rfl,Zc.refl,S,rfl,h⟩|cons e r ih=>
  rw[List.all_cons,M0]at hs;have pg:∀a b,e≠ .Starred a b:=by rintro a b rfl;cases hs.1
  refine wpAny_items_cons (aa.bind (I.ex rm F S b0 h) λva v Z1 O1 h1 nc x1 S1 r1 q1=>?_) (Vk pg env);exact Cm.bind (ih (s:={s with heap:=h1,toks:=nc}) hs.2 (F.step S x1) S1 (b0.ext x1) q1) λQc vs Z2 O2 h2 jg x2 S2 r2 q2=>⟨va::Qc,Z2,O2,h2,jg,rfl,x1.trans x2,S2,(Wa v vs rfl (VR.keeps x2.kp r1) r2),q2⟩
theorem cV(I:Ev T w B lvl n)(rm:Rm lvl A)(F:FR w B env sc ns fr s.heap bad O)(S:SR pw w B bad O Z s.heap)(b0:ta B bad s.heap){Q:List AV->AH->Prop}(h:Nf (ja w B lvl) (Gn T (n+1) sc ns es) fr Z Q):wpAny (model pw w) A (spliced (backTo pos (starEach es env))) (Cm w B bad O s Q) qb s/\(backTo pos (starEach es env)).any (·.1)=false:=by
 have h:Nf (ja w B lvl) (if es.all Qd=true then es.map (λe=>tr T n sc ns e)else[.bad]) fr Z Q:=h;by_cases hs:es.all Qd=true
 ·replace h:=X0 hs▸h;exact⟨UP I hs rm F S b0 h,jv env pos hs⟩
 ·replace h:=Y0 hs▸h;exact fE h
theorem ML(Bb:Bs T w B K)(I:Ev T w B lvl n){l r:PE}(hm:behindInMarks RC r2=false)(rm:Rm lvl A)(F:FR w B env sc ns fr s.heap bad O)(S:SR pw w B bad O Z s.heap)(b0:ta B bad s.heap)(h:dc (ja w B lvl) (.Sm (Rp op) (Rp RC) (tr T n sc ns l) (tr T n sc ns r) (tr T n sc ns r2)) fr Z Q):wpAny (model pw w) A (eval (.Compare l [op,RC] [r,r2] pos) env) (aa pw w B bad O s Q) qb s:=by
 refine Compare_chain (aa.bind (I.ex rm F S b0 h) λva x Z1 O1 h1 nc x1 S1 r1 q1=>?_) hm;have F1:=F.step S x1;have b1:=b0.ext x1;refine chain_link (aa.bind (I.ex (s:={s with heap:=h1,toks:=nc}) rm F1 S1 b1 q1) λvb y Z2 O2 h2 jg x2 S2 rb q2=>?_);refine Xa (ib q2) λt e q=>?_;have z:=aa.bind (Qt (s:={s with heap:=h2,toks:=jg}) (A:=A) (E:=qb) (Q:=λv Z'=>v= .bool t/\Z'=Z2) Bb.mods e S2 (VR.keeps x2.kp r1) rb (bj rm 20 ((D0 _ _))) ⟨rfl,rfl⟩)
  (P:=λc s'=>wpAny (model pw w) A (truthy c) (λu s3=>if u=true then wpAny (model pw w) A (compareChain pos y [RC] [eval r2 env]) (aa pw w B bad O s Q) qb s3 else aa pw w B bad O s Q c s3) qb s') λav c Z3 O3 h3 Kn x3 S3 r3 e3=>?_
 ·rw[Nl]at z;exact z
 refine kA e3 λez tz=>?_;clear e3;subst ez;clear q2 e;subst tz;rcases r3 with⟨⟩
 refine wpAny_truthy_bool ?_;cases t with|false=>exact⟨.bool false,_,O3,h3,Kn,rfl,(x1.trans x2).trans x3,S3,rfl,q⟩|true=>have F3:=(F1.step S1 x2).step S2 x3;have b3:=(b1.ext x2).ext x3;refine chain_last (aa.bind (I.ex (s:={s with heap:=h3,toks:=Kn}) rm F3 S3 b3 q) λvc y2 Z4 O4 h4 jF x4 S4 r4 q4=>?_);refine Xa (ib q4) λu e2 q=>?_;have z:=Qt (s:={s with heap:=h4,toks:=jF}) (A:=A) (E:=qb) Bb.mods e2 S4 (VR.keeps (x3.trans x4).kp rb) r4 (bj rm 20 ((D0 _ _))) q;rw[Nl]at z;exact aa.lift (((x1.trans x2).trans x3).trans x4) z
theorem ZJ(Bb:Bs T w B K)(I:Ev T w B lvl n){l r:PE}(hm:behindInMarks RC r2=false)(rm:Rm lvl A)(F:FR w B env sc ns fr s.heap bad O)(S:SR pw w B bad O Z s.heap)(b0:ta B bad s.heap)(h:Pb (ja w B lvl) (.Sm (Rp op) (Rp RC) (tr T n sc ns l) (tr T n sc ns r) (tr T n sc ns r2)) fr Z R):wpAny (model pw w) A (isTrue (.Compare l [op,RC] [r,r2] pos) env xA) (Nb w B bad O s R) qb s:=by
 refine isTrue_chain (aa.bind (I.ex rm F S b0 h) λva x Z1 O1 h1 nc x1 S1 r1 q1=>?_) hm;have F1:=F.step S x1;have b1:=b0.ext x1;refine test_link (aa.bind (I.ex (s:={s with heap:=h1,toks:=nc}) rm F1 S1 b1 q1) λvb y Z2 O2 h2 jg x2 S2 rb q2=>?_);refine Xa (ib q2) λt e q=>?_;have z:=Xo (s:={s with heap:=h2,toks:=jg}) (P:=λu s3=>if u=true then wpAny (model pw w) A (testChain pos y [RC] [eval r2 env]) (Nb w B bad O s R) qb s3 else Nb w B bad O s R false s3) Bb rm e S2 (VR.keeps x2.kp r1) rb λh3 Kn O3 Z3 x3 S3 e3=>?_
 ·rw[Nl]at z;exact z
 clear q2 e;subst e3;cases t with|false=>exact⟨_,O3,h3,Kn,rfl,(x1.trans x2).trans x3,S3,q⟩|true=>have F3:=(F1.step S1 x2).step S2 x3;have b3:=(b1.ext x2).ext x3;refine test_last (aa.bind (I.ex (s:={s with heap:=h3,toks:=Kn}) rm F3 S3 b3 q) λvc y2 Z4 O4 h4 jF x4 S4 r4 q4=>?_);refine Xa (ib q4) λu e2 q=>?_;have z:=Xo (s:={s with heap:=h4,toks:=jF}) (P:=Nb w B bad O s R) Bb rm e2 S4 (VR.keeps (x3.trans x4).kp rb) r4 λh5 VQ O5 Z5 x5 S5 e5=>⟨Z5,O5,h5,VQ,rfl,(((x1.trans x2).trans x3).trans x4).trans x5,S5,e5▸q⟩;rw[Nl]at z;exact z
theorem Yw(Bb:Bs T w B K)(I:Ev T w B lvl n){f:Value}{first:List Value}(hk:∀h,K.In h->∃k,(k=Keeper.frame\/k=Keeper.machine\/k=Keeper.boundFrame)/\Looks (model pw w) h (keeperOf f) k)(rm:Rm lvl A)(F:FR w B env sc ns fr s.heap bad O)(S:SR pw w B bad O Z s.heap)(b0:ta B bad s.heap){G:List AV->AH->Prop}(h:Nf (ja w B lvl) (Gn T n sc ns es) fr Z G)(q:∀Qc vs Z1 O1 h1 tk,Zc O O1 s.heap h1->SR pw w B bad O1 Z1 h1->ta B bad h1->ya pw w h1 bad O1 Qc vs->G Qc Z1->wpAny (model pw w) A (call f (first++vs)) P qb {s with heap:=h1,toks:=tk}):wpAny (model pw w) A (callWith Oh f first (backTo pos (starEach es env)) []) P qb s:=by
 refine kA (I.ar (pos:=pos) rm F S b0 h) λz hp=>?_;have X:∀{h1:Heap}{O1:Io}{Z1:AH},SR pw w B bad O1 Z1 h1->K.In h1:=λS1 a o hk=>S1.keep a o (Bb.IG a o hk);have z':wpAny (model pw w) A (spliced (backTo pos (starEach es env))) (λvs s1=>K.In s1.heap/\wpAny (model pw w) A (call f (first++vs)) P qb s1) qb s:=Cm.bind z λQc vs Z1 O1 h1 nc x1 S1 r1 g=>⟨X S1,q Qc vs Z1 O1 h1 nc x1 S1 (b0.ext x1) r1 g⟩;refine callWith_of (P:=K.In) (by refine rr hp ?_;rfl) hk ?_;clear I z;cases es with
 |nil=>
  refine evalArgs_nil3 ⟨X S,?_⟩;have g:G [] Z:=by
   cases n with|zero=>exact fE h|succ n=>exact h
  exact q [] [] Z O s.heap s.toks Zc.refl S b0 rfl g
 |cons e r=>
  have he:backTo pos (starEach (e::r) env)=(false,eval e env)::backTo pos (starEach r env):=by
   have:∀a b,e≠ .Starred a b:=by
    rintro a b rfl;have:(backTo pos (starEach (.Starred a b::r) env)).any (·.1)=true:=by show(true||_)=true;rfl
    replace hp:=this▸hp;cases hp
   rw[Vk this];rfl
  rw[he]at z'⊢;exact evalArgs_plain z'
end
section
variable{T:Tb}{sc:Sc}{ns:List Str}
theorem NL(Bb:Bs T w B K)(I:Ev T w B lvl n){f:Str}{p:Pos}{a:Nat}(hd:(f==("__debug__":Str))=false)(hk:Te sc f=1)(hg:T.glob f=some (.fn a))(rm:Rm lvl A)(F:FR w B env sc ns fr s.heap bad O)(S:SR pw w B bad O Z s.heap)(b0:ta B bad s.heap)(h:dc (ja w B lvl) (.call a (Gn T n sc ns es)) fr Z Q):wpAny (model pw w) A (eval (.Call (.Name f p) es [] pos) env) (aa pw w B bad O s Q) qb s:=by refine Call_Name rfl (CT Bb hd hk hg F S (Yw (first:=[]) Bb I (keeps_K (Bb.fn f a hg).2) rm F S b0 h λQc vs Z1 O1 h1 tk x1 S1 b1 r1 g=>?_));exact aa.lift x1 (g A {s with heap:=h1,toks:=tk} bad O1 vs rm S1 b1 r1)
theorem dC(k:Nat)(M:Model)(h:Heap):∃q,(q=Keeper.frame\/q=Keeper.machine\/q=Keeper.boundFrame)/\Looks M h (keeperOf (QD k)) q:=by
 refine(Na .machine (.inr (.inl rfl)) (Looks.of_pure ?_));exact Kv (P:=λ(v _:Value)=>keeperOf v=pure Keeper.machine) (d2:= .type "str") rfl [_,_,_,_,_,_,_,_,_] [.builtin "len",.type "range",.builtin "sorted",.type "tuple",.type "list",.builtin "all",.builtin "any",.type "enumerate",.type "str"] rfl
  ⟨rfl,rfl,rfl,rfl,rfl,rfl,rfl,rfl,rfl,trivial⟩ k
theorem bV(Bb:Bs T w B K)(I:Ev T w B lvl n){f:Str}{p:Pos}{k:Nat}(hd:(f==("__debug__":Str))=false)(hk:Te sc f=1)(hg:T.glob f=some (.bi k))(rm:Rm lvl A)(F:FR w B env sc ns fr s.heap bad O)(S:SR pw w B bad O Z s.heap)(b0:ta B bad s.heap)(h:dc (ja w B lvl) (.bi k (Gn T n sc ns es)) fr Z Q):wpAny (model pw w) A (eval (.Call (.Name f p) es [] pos) env) (aa pw w B bad O s Q) qb s:=by refine Call_Name rfl (TM Bb hd hk hg F S (Yw (first:=[]) Bb I (λhh _=>dC k _ hh) rm F S b0 h λQc vs Z1 O1 h1 tk x1 S1 b1 r1 g=>?_));exact Xa (ib g) λr e q=>aa.lift x1 (FV (s:={s with heap:=h1,toks:=tk}) Bb.mods rm.han e S1 b1.live r1 (bj rm 20 ((D0 _ _))) q)
theorem Fn{G:List AV->AH->Prop}{KK:CP}(h:Nf KK (Gn T n sc ns es) fr Z G):es.all Qd=true:=by
 induction n with
 |zero=>exact fE h|succ n=>
  have h:Nf KK (if es.all Qd=true then es.map (λe=>tr T n sc ns e)else[.bad]) fr Z G:=h;by_cases hs:es.all Qd=true
  ·exact hs
  ·rw[Y0 hs]at h;exact fE h
theorem mD{va:AV}{c:Nat}(hi:Gb Z va=some (c,fs)):∃j,va= .ref j/\Z[j]? =some (.inst c fs):=by
 cases va with
 |ref j=>
  have hi:(match Z[j]? with|some (.inst c fs)=>some (c,fs)|_=>none)=some (c,fs):=hi;refine(Na j rfl ?_);generalize Z[j]? =o at hi⊢;induction o with
  |none=>exact ns hi|some o=>induction o with
   |inst=>rcases hi with⟨⟩;rfl
   |_=>exact ns hi
 |_=>exact ns hi
theorem IJ{va:AV}{k:Nat}{V:(List AV->AH->Prop)->Prop}{p:Nat×List (Nat×AV)}(hi:Gb Z va=some p)(h:Yl W k Z va V Q):Hb (Hg k p) λf=>V λvs Z2=>W f (va::vs) Z2 Q:=by unfold Yl at h;rw[hi]at h;exact h
theorem JJ{va:AV}{k:Nat}{V:(List AV->AH->Prop)->Prop}(hi:Gb Z va=none)(h:Yl W k Z va V Q):Ah Z va=Jp k/\Jp k≠0/\V λvs Z2=>Hb (Mc Z2 k va vs) λr=>Q r.1 r.2:=by unfold Yl at h;rw[hi]at h;exact h
theorem WH{k c f:Nat}(h:Hg k (c,fs)=some f):Jb k fs=none/\xo c k=some f:=by
 have h:(match Jb k fs with|none=>xo c k|some _=>none)=some f:=h;generalize Jb k fs=o at h⊢;induction o with|none=>exact⟨rfl,h⟩|some=>exact ns h
theorem HL(Bb:Bs T w B K)(I:Ev T w B lvl n){o:PE}{UD:Pos}{k:Nat}(hb:rp o=true)(hU:(UD.endLine==pos.line)=true)(Om:es.length<29)(hk:Vh name=some k)(rm:Rm lvl A)(F:FR w B env sc ns fr s.heap bad O)(S:SR pw w B bad O Z s.heap)(b0:ta B bad s.heap)(h:dc (ja w B lvl) (.Dc (tr T n sc ns o) k (Gn T n sc ns es)) fr Z Q):wpAny (model pw w) A (eval (.Call (.Attribute o name UD) es [] pos) env) (aa pw w B bad O s Q) qb s:=by
 refine kA (Rl hk) λe1 kU=>?_;rw[arm_eval_Call,eC hb];refine E0 (aa.bind (I.ex rm F S b0 h) λva v Z1 O1 h1 nc x1 S1 r1 q1=>?_);have F1:=F.step S x1;have b1:=b0.ext x1;have X1:K.In h1:=λa o hk=>S1.keep a o (Bb.IG a o hk);have fm:es.all Qd=true->methodCallForm (es.length+([]:List Keyword).length) (backTo pos (starEach es env)) (backToKw pos (keywordEach [] env))=true:=λhs=>by
  have h1:=jv (es:=es) env pos hs;have h2:(backTo pos (starEach es env)).all (λx=> !x.1)=true:=by rw[List.any_eq_false]at h1;rw[B2];intro x hx;exact Bool.not_eq_true' _▸Bool.eq_false_iff.mpr (h1 x hx)
  show(_&&_&&_)=true;rw[h2];have h3:decide (es.length+([]:List Keyword).length+(if(backToKw pos (keywordEach [] env)).isEmpty=true then 0 else 1)<30)=true:=by show decide (es.length+0+0<30)=true;exact Y2 ((A0 ‹_› (N0 rfl)))
  exact h3
 refine E0 (wpAny_standAt ?_);have hpos:methodCallPos true o env UD pos=pure pos:=by unfold methodCallPos;rw[hU];rfl
 have go:∀{f:Value}{first:List Value},es.all Qd=true->(∀{P:Value×List Value->Shared->Prop}{pl:Sem Bool},P (f,first) {s with heap:=h1,toks:=nc}->wpAny (model pw w) A (getMethod v name pl) P qb {s with heap:=h1,toks:=nc})->
   wpAny (model pw w) A (callWith pos f first (backTo pos (starEach es env)) []) (aa pw w B bad O s Q) qb {s with heap:=h1,toks:=nc}->
   wpAny (model pw w) A (methodCall o name UD pos env v (es.length+([]:List Keyword).length) (backTo pos (starEach es env)) (backToKw pos (keywordEach [] env))) (aa pw w B bad O s Q) qb {s with heap:=h1,toks:=nc}:=by
  intro f first hs hm hc
  unfold methodCall;rw[fm hs];refine E0 (Y3 (hm ?_));exact E0 (wpAny_of_eq hpos hc)
 clear hk h;cases hi:Gb Z1 va with
 |some p=>
  obtain⟨c,fs⟩:=p;have q1:=IJ hi q1;refine Xa (mD hi) λj hva hj=>?_;clear hi;subst hva;refine Xa r1 λpp hp ez=>?_;clear r1;subst ez;refine Xa (S1.at hj) λp' dR ho=>?_;rw[hp]at dR;have e:=z0 dR;clear dR;subst e;refine Dg ho λd m h2 hx hn g1 g2=>?_;clear ho;refine Xa (ib q1) λf hdf q1=>?_
  ·have⟨hgf,hmt⟩:=WH hdf;refine Mm (Bb.ko.Dc c k f hmt) λk1 k2 k3=>?_;have DB:m (nm k)=none:=by
    clear e1 hdf hmt k1 k2;cases hq:m (nm k)with|none=>rfl|some u=>refine db (g2 _ _ hq) λn' a' h5 h6=>?_;have:=qG k n' kU h6;clear kU hq h6;subst this;rw[hgf]at h5;exact Mine.ns h5
   refine Df (si hx hn.ns) λod II hod hlk=>go (f:= .ref f) (first:=[.ref pp.1]) (Fn q1) (λ{P pl} hP=>?_) ?_
   ·rw[<-e1];exact method_fn X1 II (plainGet_of k1).1 (plainGet_of k1).2 k2 (beq_iff_eq.mp k3) (by show(lookIn (nm k) od).map _=_;rw[hlk,DB];rfl) hP
   ·exact Yw (s:={s with heap:=h1,toks:=nc}) (first:=[.ref pp.1]) Bb I (keeps_K (Bb.Dc c k f hmt)) rm F1 S1 b1 q1 λQc vs Z2 O2 h2 tk x2 S2 b2 r2 g=>aa.lift (x1.trans x2) (g A {s with heap:=h2,toks:=tk} bad O2 (.ref pp.1::vs) rm S2 b2 (Wa _ _ rfl (Na pp ((x2.kp (bad:=bad)).ix _ _ hp) rfl) r2))
 |none=>
  have q1:=JJ hi q1;refine Mm q1 λhmk1 hmk2 q1=>?_;have hmk:Ah Z1 va=Jp k/\Jp k≠0:=⟨hmk1,hmk2⟩;refine go (f:= .builtin (yG k)) (first:=[v]) (Fn q1) (λ{P pl} hP=>?_) ?_
  ·rw[<-e1];exact uz (s:={s with heap:=h1,toks:=nc}) hmk.1 S1 r1 hmk.2 hP
  ·exact Yw (s:={s with heap:=h1,toks:=nc}) (first:=[v]) Bb I (λhh _=>(Na .machine (.inr (.inl rfl)) (Looks.of_pure rfl))) rm F1 S1 b1 q1 λQc vs Z2 O2 h2 tk x2 S2 b2 r2 g=>Xa (ib g) λr e' g=>aa.lift (x1.trans x2) (MK (s:={s with heap:=h2,toks:=tk}) Bb.mods e' S2 (VR.keeps x2.kp r1) r2 (bj rm 30 ((D0 _ _))) g)
end
def Kb(bad:ie)(l:List Addr):ie:=λa=>bad a\/a∈l
section
variable{T:Tb}{sc:Sc}{ns:List Str}
theorem SR.hide(S:SR pw w B bad O Z h)(hl:∀a∈l,h.get? a=none)(k:∀a o,h.get? a=some o->h'.get? a=some o):SR pw w B (Kb bad l) O Z h':=
 (S.ZA (bad':=Kb bad l) λa ha=>ha.imp id (hl a)).ext k
theorem VR.hide(r:VR pw w h bad O x v)(hl:∀a∈l,h.get? a=none)(k:∀a o,h.get? a=some o->h'.get? a=some o):VR pw w h' (Kb bad l) O x v:=
 VR.keeps (Kp.of_keep k) (VR.keeps (Kp.ZA (bad':=Kb bad l) λa ha=>ha.imp id (hl a)) r)
theorem FR.hide(F:FR w B env sc ns fr h bad O)(hl:∀a∈l,h.get? a=none)(k:∀a o,h.get? a=some o->h'.get? a=some o):FR w B env sc ns fr h' (Kb bad l) O:=by
 refine⟨F.kind,F.glob,F.wm,F.names,F.len,λn i a h0 h1 h2=>Xa (F.val n i a h0 h1 h2) λv hv hr=>(Na v (hv.step λa o _ e=>k a o e) (VR.hide hr hl k)),F.loc,F.cell,F.aM,F.inj,F.sep,λn c hc=>?_,.inl F.Km,λn c hc=> .inl (F.Tm n c hc),?_⟩
 ·exact db (F.YH n c hc) λv o ho hd=>⟨v,o,k _ o ho,hd⟩
 ·exact kE F.RK λm hm=>⟨m,Ns.kept hm λo e=>k _ o e⟩
theorem ta.hide(b:ta B bad h)(hB:∀a∈l,B.get? a=none)(hl:∀a∈l,∃o,h'.get? a=some o)(k:∀a o,h.get? a=some o->h'.get? a=some o):ta B (Kb bad l) h':=
 ⟨λa ha=>ha.elim (λha=>let⟨o,e⟩:=b.live a ha;⟨o,k a o e⟩) (hl a),λa ha=>ha.elim (b.off a) (hB a)⟩
theorem Cg(wk:∀a,bad a->bad' a)(k:∀a o,¬bad' a->h1.get? a=some o->h'.get? a=some o):Kp h1 h' bad' bad O O:=
 ⟨λa o hf e=>k a o hf.1 e,λa o hf _=>⟨λz=>hf.1 (wk a z),hf.2⟩,λ_ _ h=>h⟩
theorem SR.free(S:SR pw w B bad' O Z h1)(wk:∀a,bad a->bad' a)(hB:∀a,bad' a->B.get? a=none)(k:∀a o,¬bad' a->h1.get? a=some o->h'.get? a=some o):SR pw w B bad O Z h':=by
 refine⟨S.len,λi p o e1 e2=>(S.obj i p o e1 e2).keeps (Cg wk k) λo a ha e=>k a o (S.off a (ub e1 ha)).2.1 e,S.nodup,λa ha=>bw (S.off a ha) λx y o z=>(pD x (λq=>y (wk a q)) o (k a o y z)),λa o e=>?_⟩
 ·exact k a o (λz=>by replace e:=hB a z▸e;exact ns e) (S.keep a o e)
theorem Tl{a:Addr}(h:a∈uc [((d,none):Addr×Option Addr)]):a=d:=J0.mp h
theorem Co(hd:bad' d)(wk:∀a,bad a->bad' a)(k:∀a o,¬bad' a->h1.get? a=some o->h'.get? a=some o):Kp h1 h' bad' bad O (O++[(d,none)]):=
 ⟨λa o hf e=>k a o hf.1 e,λa o hf _=>⟨λz=>hf.1 (wk a z),λhm=>by
  rw[Za]at hm;rcases D2.mp hm with hm|hm
  ·exact hf.2 hm
  ·exact hf.1 (Tl hm▸hd)⟩,λi p h=>by refine rr (C1 (B0.mp h).1) ?_;exact h⟩
theorem SR.freeN(S:SR pw w B bad' O Z h1)(hd:bad' d)(hdb:¬bad d)(wk:∀a,bad a->bad' a)(hB:∀a,bad' a->B.get? a=none)(k:∀a o,¬bad' a->h1.get? a=some o->h'.get? a=some o)(n:OR pw w h' bad (O++[(d,none)]) (d,none) o)(lv:∃o,h'.get? d=some o):SR pw w B bad (O++[(d,none)]) (Z++[o]) h':=by
 have ad:∀a,a∈uc [((d,none):Addr×Option Addr)]->a=d:=λa=>Tl;refine⟨by simp[S.len],λi q o' e1 e2=>?_,?_,λa ha=>?_,λa o e=>?_⟩
 ·by_cases hi:i<O.length
  ·rw[C1 hi]at e1;rw[C1 (rq S.len hi)]at e2;exact(S.obj i q o' e1 e2).keeps (Co hd wk k) λo a ha e=>k a o (S.off a (ub e1 ha)).2.1 e
  ·have kH:i=O.length:=by have:=(B0.mp e1).1;simp at this;exact o4 (Fb [_,_] 501858347058176 tO this) (Fb [_,_] 302056448 tO hi)
   clear hi;subst kH;have e1':((d,none):Addr×Option Addr)=q:=by simpa using e1
   have e2':o=o':=by rw[S.len]at e2;simpa using e2
   clear e1;subst e1' e2';exact n
 ·rw[Za,List.nodup_append];refine(sf S.nodup (by simp[uc]) (λa h1 b h2 e=>?_));subst e;rw[ad a h2]at h1;exact(S.off d h1).2.1 hd
 ·rw[Za]at ha;rcases D2.mp ha with ha|ha
  ·exact bw (S.off a ha) λx y o z=>(pD x (λq=>y (wk a q)) o (k a o y z))
  ·exact rr (ad a ha)<|(sf (hB d hd) hdb lv)
 ·exact k a o (λz=>by rw[hB a z]at e;exact ns e) (S.keep a o e)
theorem Zc.under(k0:∀a o,h.get? a=some o->h0.get? a=some o)(x:Zc O O' h0 h1)(hl:∀a∈l,h.get? a=none)(k1:∀a o,a∉l->h1.get? a=some o->h'.get? a=some o)(lv:∀a o,h1.get? a=some o->∃o',h'.get? a=some o'):Zc O O' h h':=by
 refine Xa x.more λn ez hn=>?_;subst ez;refine⟨(Na n rfl (λa ha=>?_)),λa o e hi=>?_,λa o e=>?_⟩
 ·cases e:h.get? a with|none=>rfl|some o=>have:=hn a ha;replace this:=k0 a o e▸this;cases this
 ·exact k1 a o (λz=>by replace e:=hl a z▸e;exact ns e) (x.keep a o (k0 a o e) hi)
 ·exact kE (x.live a o (k0 a o e)) λo' e'=>lv a o' e'
theorem Zc.addN(x:Zc O O' h h')(hd:h.get? d=none):Zc O (O'++[(d,none)]) h h':=by
 refine Xa x.more λn ez hn=>?_;subst ez;refine⟨(Na (n++[(d,none)]) (by simp) (λa ha=>?_)),x.keep,x.live⟩;rw[Za]at ha;rcases D2.mp ha with ha|ha
 ·exact hn a ha
 ·exact rr (Tl ha)<|hd
theorem IH(Bb:Bs T w B K)(I:Ev T w B lvl n){v:PE}{lo hi:Option PE}(rm:Rm lvl A)(F:FR w B env sc ns fr s.heap bad O)(S:SR pw w B bad O Z s.heap)(b0:ta B bad s.heap)(h:dc (ja w B lvl) (.slc (tr T n sc ns v) (QH (λe=>tr T n sc ns e) lo) (QH (λe=>tr T n sc ns e) hi)) fr Z Q):wpAny (model pw w) A (eval (.Subscript v (.Slice lo hi none sp) pos) env) (aa pw w B bad O s Q) qb s:=by
 have bb:∀{e:Option PE}{s:Shared}{O:Io}{Z:AH}{G:AV->AH->Prop},FR w B env sc ns fr s.heap bad O->SR pw w B bad O Z s.heap->ta B bad s.heap->dc (ja w B lvl) (QH (λe=>tr T n sc ns e) e) fr Z G->
   wpAny (model pw w) A (evalPart e env) (aa pw w B bad O s G) qb s:=by
  intro e s O Z G F S b0 h;induction e with|none=>rw[evalPart_none];exact A2 (aa.here S VR.N h)|some e=>rw[evalPart_some];exact I.ex rm F S b0 h
 refine Subscript_ (aa.bind (I.ex rm F S b0 h) λva x Z1 O1 h1 nc x1 S1 r1 q1=>?_);have F1:=F.step S x1;have b1:=b0.ext x1;refine wpAny_Slice (aa.bind (bb (s:={s with heap:=h1,toks:=nc}) F1 S1 b1 q1) λvl y Z2 O2 h2 jg x2 S2 r2 q2=>?_);have F2:=F1.step S1 x2;have b2:=b1.ext x2;refine aa.bind (bb (s:={s with heap:=h2,toks:=jg}) F2 S2 b2 q2) λvh u Z3 O3 h3 Kn x3 S3 r3 q3=>?_;have b3:=b2.ext x3;rw[evalPart_none];refine A2<|Xa (ib q3) λr e q=>?_;have k:∀a o,h3.get? a=some o->(h3.push {cls:= .type "slice",data:= .fields #[y,u,.none]}).get? a=some o:=λa o e=>J1 _ e;have x4:Zc O3 O3 h3 (h3.push {cls:= .type "slice",data:= .fields #[y,u,.none]}):=Zc.of_keep k;have S4:=S3.ext k;have ra:=VR.keeps x4.kp (VR.keeps (x2.trans x3).kp r1);refine db (wB (s:={s with heap:=h3.push {cls:= .type "slice",data:= .fields #[y,u,.none]},toks:=Kn}) (FF e) S4 ra) λTy id hT hl=>?_;exact KA hT hl rfl (aa.lift (((x1.trans x2).trans x3).trans x4) (DF (s:={s with heap:=h3.push {cls:= .type "slice",data:= .fields #[y,u,.none]},toks:=Kn}) e S4 (b3.ext x4).live ra (VR.keeps x4.kp (VR.keeps x3.kp r2)) (VR.keeps x4.kp r3)
  (Heap.IsSliceOf.new h3 y u .none) q))
end
noncomputable def BS(env:Env)(pos:Pos):List (Option PE)->List PE->List (Sem Value×Sem Value)|some k::ks,v::vs=>(eval k env,(do let x<-eval v env;standAt pos;pure x))::BS env pos ks vs|_,_=>[]
theorem sj{k:Option PE}{r:List (Option PE)}(h:Yi (k::r)=some as):∃a bs,KG k=some a/\Yi r=some bs/\as=a::bs:=by
 have h:(match KG k,Yi r with|some a,some b=>some (a::b)|_,_=>none)=some as:=h;generalize KG k=o1 at h⊢;generalize Yi r=o2 at h⊢;induction o1 with
 |none=>exact ns h|some a=>
  induction o2 with|none=>exact ns h|some b=>exact(Wa a b rfl rfl ((z0 h).symm))
theorem Kq(env:Env)(pos:Pos):∀{ks:List (Option PE)}{vs:List PE}{as:List AV},Yi ks=some as->as.length=vs.length->(evalEachOpt ks env).zip ((evalEach vs env).map λv=>(do let x<-v;standAt pos;pure x:Sem Value))=(BS env pos ks vs).map (λp=>(some p.1,p.2))/\(BS env pos ks vs).length=vs.length
 |[],[],as,h,hl=>⟨rfl,rfl⟩|[],_::_,as,h,hl=>by have e:=z0 h;subst e;cases hl
 |k::ks,vs,as,h,hl=>by
  refine Je (sj h) λa bs h1 h2 ez=>?_;subst ez;induction vs with
  |nil=>cases hl|cons v vs=>
   induction k with|none=>exact ns h1|some e=>have⟨i1,i2⟩:=Kq env pos h2 (Nat.succ.inj hl);exact⟨C0 (_::·) i1,C0 (· +1) i2⟩
section
variable{T:Tb}{sc:Sc}{ns:List Str}
theorem fP{k:Option PE}(hk:KG (some e)=some a)(q:∀v tk,(∀h bad O,VR pw w h bad O a v)->P v {s with toks:=tk}):wpAny (model pw w) A (eval e env) P qb s:=by
 have hk:(Nt e).bind qN=some a:=hk;refine Xa (Option.bind_eq_some_iff.mp hk) λc hc hv=>?_;refine Cp (zD hc) λ_ _ ez=>?_;subst ez;induction c with|str x=>have e:=z0 hv;clear hv hk;clear hk;subst e;exact PySem.wpAny_Constant_str (q _ _ λh bad O=>⟨_,rfl⟩)|int i=>have e:=z0 hv;clear hv;clear hk;clear hk;subst e;exact wpAny_Constant_int (q _ _ λh bad O=>VR.I _ _)|_=>exact ns hv
theorem rO(I:Ev T w B lvl n)(rm:Rm lvl A):∀{ks:List (Option PE)}{vs:List PE}{as:List AV}{Z:AH}{s:Shared}{O:Io}{G:List AV->AH->Prop},Yi ks=some as->as.length=vs.length->FR w B env sc ns fr s.heap bad O->SR pw w B bad O Z s.heap->ta B bad s.heap->Nf (ja w B lvl) (vs.map λe=>tr T n sc ns e) fr Z G->wpAny (model pw w) A (evalPairs (BS env pos ks vs)) (λkvs s'=>(∀h bad O,ya pw w h bad O as (kvs.map (·.1)))/\Cm w B bad O s G (kvs.map (·.2)) s') qb s:=by
 intro ks;induction ks with
 |nil=>
  intro vs as Z s O G h hl F S b0 hw;have e:=z0 h;clear h;subst e;induction vs with|nil=>exact evalPairs_nil ⟨λ_ _ _=>rfl,[],Z,O,s.heap,s.toks,rfl,Zc.refl,S,rfl,hw⟩|cons=>cases hl
 |cons k ks ih=>
  intro vs as Z s O G h hl F S b0 hw;refine Je (sj h) λa bs h1 h2 ez=>?_;subst ez;induction vs with
  |nil=>cases hl|cons v vs=>
   induction k with|none=>exact Mine.ns h1|some e=>refine evalPairs_cons (fP (k:=some e) h1 λkv tk hkv=>?_);refine E0 (aa.bind (I.ex (s:={s with toks:=tk}) rm F S b0 hw) λva x Z1 O1 hh1 nc x1 S1 r1 q1=>?_);refine E0 (wpAny_standAt (A2 ?_));refine C2 (ih (s:={s with heap:=hh1,toks:=nc}) h2 (Nat.succ.inj hl) (F.step S x1) S1 (b0.ext x1) q1) (λkvs s2 z=>?_) λ_ _ z=>z;obtain⟨i1,Qc,Z2,O2,kR,jg,rfl,x2,S2,r2,q2⟩:=z;exact⟨λh bad O=>(Wa kv _ rfl (hkv h bad O) (i1 h bad O)),va::Qc,Z2,O2,kR,jg,rfl,x1.trans x2,S2,(Wa x _ rfl (VR.keeps x2.kp r1) r2),q2⟩
theorem Vu(h:bg (a::as)=some ts):∃t Ru,a= .str t/\bg as=some Ru/\ts=t::Ru:=
 ga h λt et h=>Fc h λRu e e2=>(Wa t Ru (zy et) e e2.symm)
theorem yB{ts:List Int}(h:Gf (a::as)=some ts):∃t Ru,a= .int t/\Gf as=some Ru/\ts=t::Ru:=
 ga h λt et h=>Fc h λRu e e2=>(Wa t Ru (ot et) e e2.symm)
theorem um:∀{kvs:List (Value×Value)}{as:List AV}{ts:List (List Nat)},bg as=some ts->ya pw w h bad O as (kvs.map (·.1))->Carries (strKind pw w) kvs ((ts.map Pa).zip (kvs.map (·.2)))
 |[],as,ts,h1,h2=>by
  induction as with|nil=>have e:=z0 h1;clear h1;subst e;trivial|cons=>refine db h2 λv q e _=>?_;clear h2;cases e
 |(k,v)::r,as,ts,h1,h2=>by
  induction as with
  |nil=>cases h2|cons a as=>
  refine Je h2 λv' q e r1 r2=>?_;clear h2;rcases e with⟨⟩
  refine db (Vu h1) λt Ru ez tz=>?_;clear h1;subst ez;refine kA tz λe1 QP=>?_;clear tz;subst QP;refine kE r1 λt ez=>?_;clear r1;subst ez;exact(sf (strKind_is pw w _ t) rfl (um e1 r2))
theorem vm:∀{kvs:List (Value×Value)}{as:List AV}{ts:List Int},Gf as=some ts->ya pw w h bad O as (kvs.map (·.1))->Carries (intKind pw w) kvs (ts.zip (kvs.map (·.2)))
 |[],as,ts,h1,h2=>by
  induction as with|nil=>have e:=z0 h1;clear h1;subst e;trivial|cons=>refine db h2 λv q e _=>?_;clear h2;cases e
 |(k,v)::r,as,ts,h1,h2=>by
  induction as with
  |nil=>cases h2|cons a as=>
  refine Je h2 λv' q e r1 r2=>?_;clear h2;rcases e with⟨⟩
  refine db (yB h1) λt Ru ez tz=>?_;clear h1;subst ez;refine kA tz λe1 QP=>?_;clear tz;subst QP;refine kE r1 λt ez=>?_;clear r1;subst ez;exact(sf (intKind_is pw w _ t) rfl (vm e1 r2))
theorem Pk:∀{as:List AV}{ts:List (List Nat)},bg as=some ts->ts.length=as.length:=by
 intro as;induction as with|nil=>intro ts h;have e:=z0 h;clear h;subst e;rfl|cons a as ih=>intro ts h;refine Je (Vu h) λt Ru _ e ez=>?_;clear h;subst ez;exact C0 (· +1) (ih e)
theorem Jo:∀{as:List AV}{ts:List Int},Gf as=some ts->ts.length=as.length:=by
 intro as;induction as with|nil=>intro ts h;have e:=z0 h;clear h;subst e;rfl|cons a as ih=>intro ts h;refine Je (yB h) λt Ru _ e ez=>?_;clear h;subst ez;exact C0 (· +1) (ih e)
end
section
variable{T:Tb}{sc:Sc}{ns:List Str}
noncomputable abbrev Gg:Obj:={cls:= .type "dict",data:= .dict #[]}
theorem ro(S:SR pw w B bad O Z h){a:Addr}(ha:h.get? a=none):B.get? a=none:=by
 cases e:B.get? a with|none=>rfl|some o=>replace ha:=S.keep a o e▸ha;cases ha
theorem Qv(h:ts.Nodup):(ts.map Pa).Nodup:=by rw[List.Nodup,List.pairwise_map];exact h.imp λhn e=>hn (Be e)
open Classical in
theorem Vo{kvs:List (Value×Value)}{r:AV×AH}(EU:B.get? 1≠none)(S:SR pw w B bad O Z s.heap)(b0:ta B bad s.heap)(EB:s.heap.get? d=none)(k0:∀a o,s.heap.get? a=some o->h0.get? a=some o)(x:Zc O O1 h0 h1)(S1:SR pw w B (Kb bad [d]) O1 Z1 h1)(rv:ya pw w h1 (Kb bad [d]) O1 Qc (kvs.map (·.2)))(sb:Heap.SameBut d h1 h2)(lv:∃o,h2.get? d=some o)(e:cg Z1 m as Qc=some r)(hm:(∀ts,bg as=some ts->ts.Nodup->(m=0\/m=2)->h2.DictOf (strKind pw w) d ((ts.map Pa).zip (kvs.map (·.2))))/\(∀ts,Gf as=some ts->ts.Nodup->m=1->h2.DictOf (intKind pw w) d (ts.zip (kvs.map (·.2))))/\(as=[]->m=3->h2.DictOfH (Ig pw w) d []))(q:Q r.1 r.2):aa pw w B bad O s Q (.ref d) {s with heap:=h2,toks:=tk}:=by
 have hdB:=ro S EB;have nbd:¬bad d:=λz=>by refine kE (b0.live d z) λo e=>?_;replace e:=EB▸e;exact ns e
 have dd:∀{P:Prop},Kb bad [d] d:= .inr (by simp);have wk:∀a,bad a->Kb bad [d] a:=λa h=> .inl h;have hB:∀a,Kb bad [d] a->B.get? a=none:=λa ha=>ha.elim (b0.off a) λhm=>rr (J0.mp hm) hdB;have k:∀a o,¬Kb bad [d] a->h1.get? a=some o->h2.get? a=some o:=λa o hn e=>(sb.2 a λz=>hn (.inr (by simp[z]))).trans e;have xx:Zc O O1 s.heap h2:=Zc.under k0 x (l:=[d]) (λa ha=>by exact rr (J0.mp ha) EB) (λa o hn e=>(sb.2 a λz=>hn (by simp[z])).trans e) λa o e=>by
  by_cases ha:a=d
  ·clear EB S1 rv sb hm hdB nbd dd wk hB k;subst ha;exact lv
  ·exact⟨o,(sb.2 a ha).trans e⟩
 have dn:d∉uc O1:=λz=>(S1.off d z).2.1 (.inr (by simp));have fz:Fz bad O1 d:=⟨nbd,dn⟩;have FP:d≠1\/True:= .inr trivial;have GE:∀o',OR pw w h2 bad (O1++[(d,none)]) (d,none) o'->r=(.ref Z1.length,Z1++[o'])->aa pw w B bad O s Q (.ref d) {s with heap:=h2,toks:=tk}:=λo' ho er=>by
  clear e;subst er;exact⟨.ref Z1.length,Z1++[o'],O1++[(d,none)],h2,tk,rfl,xx.addN EB,S1.freeN (dd (P:=True)) nbd wk hB k ho lv,(Na (d,none) (by refine rq S1.len ?_;simp) rfl),q⟩
 refine Uc e λhl e=>?_;have l:=ya.length rv
 match m with
 |0=>refine ga e λts ht e=>Uc e λhn e=>?_;have e:=z0 e;clear GE;subst e;have d1:d≠1:=λz=>EU (z▸hdB);exact⟨.rc ts Qc,Z1,O1,h2,tk,rfl,xx,S1.free wk hB k,by exact(sd d (kvs.map (·.2)) rfl d1 fz (hm.1 ts ht hn (.inl rfl)) (ya.keeps (Cg wk k) rv)),q⟩|1=>
  refine ga e λts ht e=>Uc e λhn e=>GE (.Ea (ts.zip Qc)) (Nm rfl (kvs.map (·.2)) ?_ ?_) (z0 e).symm
  ·have jn:ts.length=Qc.length:=by exact rr (Jo ht)<|rr hl rfl
   exact rr (List.map_fst_zip ((D3 ‹_›)))<|hm.2.1 ts ht hn rfl
  ·have jn:ts.length=Qc.length:=by exact rr (Jo ht)<|rr hl rfl
   exact rr (List.map_snd_zip ((D3 (Eq.symm ‹_›))))<|ya.keeps (Co (dd (P:=True)) wk k) rv
 |2=>
  refine ga e λts ht e=>Uc e λhn e=>GE (.gb (ts.zip Qc)) (Nm rfl (kvs.map (·.2)) ?_ ?_) (z0 e).symm
  ·have jn:ts.length=Qc.length:=by exact rr (Pk ht)<|rr hl rfl
   have e1:((ts.zip Qc).map λx=>Pa x.1)=ts.map Pa:=by
    have:=C0 (List.map Pa) (List.map_fst_zip (l₁:=ts) (l₂:=Qc) ((D3 ‹_›)))
    rwa [List.map_map]at this
   exact rr e1<|hm.1 ts ht hn (.inr rfl)
  ·have jn:ts.length=Qc.length:=by exact rr (Pk ht)<|rr hl rfl
   exact rr (List.map_snd_zip ((D3 (Eq.symm ‹_›))))<|ya.keeps (Co (dd (P:=True)) wk k) rv
 |3=>refine Uc e λhk e=>?_;have ha:as=[]:=List.isEmpty_iff.mp hk;clear hk;subst ha;have hv:Qc=[]:=List.length_eq_zero_iff.mp hl.symm;clear l hl;clear rv;subst hv;exact GE (.we []) (pt rfl [] (hm.2.2 rfl rfl) rfl rfl rfl) (z0 e).symm|m+4=>exact ns e
end
theorem vo{r:AV×AH}(e:cg Z m (a::as) Qc=some r):(a::as).length=Qc.length/\(((m=0\/m=2)/\∃ts,bg (a::as)=some ts/\ts.Nodup)\/(m=1/\∃ts,Gf (a::as)=some ts/\ts.Nodup)):=by
 refine Uc e λhl e=>⟨hl,?_⟩;cases m with
 |zero=>exact ga e λts ht e=>Uc e λhn _=> .inl (Nm (.inl rfl) ts ht hn)|succ m=>cases m with
  |zero=>exact ga e λts ht e=>Uc e λhn _=> .inr (Nm rfl ts ht hn)|succ m=>cases m with
   |zero=>exact ga e λts ht e=>Uc e λhn _=> .inl (Nm (.inr rfl) ts ht hn)|succ m=>cases m with
    |zero=>exact ns e|succ m=>exact ns e
theorem Pv{us:List Int}(h1:bg (a::as)=some ts)(h2:Gf (a::as)=some us):False:=
 ga h1 λt et _=>ga h2 λi ei _=>AV.noConfusion ((zy et).symm.trans (ot ei))
section
variable{T:Tb}{sc:Sc}{ns:List Str}
open Classical in
theorem KL(Bb:Bs T w B K)(I:Ev T w B lvl n){ks:List (Option PE)}{vs:List PE}(hk:Yi ks=some as)(hl:as.length=vs.length)(h15:vs.length<=15)(rm:Rm lvl A)(F:FR w B env sc ns fr s.heap bad O)(S:SR pw w B bad O Z s.heap)(b0:ta B bad s.heap)(h:dc (ja w B lvl) (.dct m as (vs.map λe=>tr T n sc ns e)) fr Z Q):wpAny (model pw w) A (eval (.Dict ks vs pos) env) (aa pw w B bad O s Q) qb s:=by
 have EU:B.get? 1≠none:=by refine kE Bb.mods λo e=>?_;refine rr e ?_;nofun
 have EB:s.heap.get? s.heap.objs.size=none:=Nc s.heap;have k0:∀a o,s.heap.get? a=some o->(s.heap.push Gg).get? a=some o:=λa o e=>J1 _ e;have lvd:(s.heap.push Gg).get? s.heap.objs.size=some Gg:=J2 _ rfl;have S0:SR pw w B (Kb bad [s.heap.objs.size]) O Z (s.heap.push Gg):=S.hide (λa ha=>by exact rr (J0.mp ha) EB) k0;have F0:FR w B env sc ns fr (s.heap.push Gg) (Kb bad [s.heap.objs.size]) O:=F.hide (λa ha=>by exact rr (J0.mp ha) EB) k0;have b1:ta B (Kb bad [s.heap.objs.size]) (s.heap.push Gg):=b0.hide (λa ha=>by exact rr (J0.mp ha)<|ro S EB) (λa ha=>by exact rr (J0.mp ha)<|⟨_,lvd⟩) k0;have dn0:s.heap.objs.size∉uc O:=λz=>(S0.off _ z).2.1 (.inr (by simp));induction ks with
 |nil=>
  have e:=z0 hk;clear hk;subst e;induction vs with
  |cons=>exact nomatch hl
  |nil=>
   refine Xa (ib h) λr e q=>wpAny_Dict_empty ?_;exact Vo (as:=[]) (Qc:=[]) (kvs:=[]) (tk:=s.toks) EU S b0 EB k0 Zc.refl S0 rfl (Heap.SameBut.refl _ _) ⟨_,lvd⟩ e
    (sf (λts ht hn _=>by exact rq (z0 ht)<|Heap.DictOf.new s.heap) (λts ht hn _=>by exact rq (z0 ht)<|Heap.DictOf.new s.heap) (λ_ _=>Heap.DictOfH.new s.heap)) q
 |cons k ks=>
  refine Je (sj hk) λa bs _ _ ez=>?_;subst ez;refine kA (Kq env pos hk hl) λsh1 sh2=>?_;have pg:BS env pos (k::ks) vs≠[]:=λz=>by replace sh2:=z▸sh2;simp only[j5]at sh2;replace hl:=sh2.symm▸hl;simp at hl
  have body:=rO I (pos:=pos) (s:={s with heap:=s.heap.push Gg}) rm hk hl F0 S0 b1 h;cases ht:bg (a::bs)with
  |some ts=>
   refine wpAny_Dict_pairs (knd:=strKind pw w) sh1 pg ((A0 (D3 ‹_›) ‹_›)) (C2 body (λkvs s1 z=>?_) λ_ _ z=>z);obtain⟨i1,Qc,Z1,O1,h1,nc,rfl,x1,S1,r1,q⟩:=z;refine Xa (ib q) λr e q=>kA (vo e) λln hc=>?_;have ZT:=Pk ht;have lr:=ya.length (i1 h1 bad O1);rw[R0]at lr;rcases hc with⟨hm,Ru,qw,hn⟩|⟨_,us,hu,_⟩
   ·replace qw:=ht▸qw;have e:=z0 qw;clear qw;subst e;refine(Kf _ (um ht (i1 h1 bad O1)) ?_ (λh2 oL sb=>?_))
    ·exact(yi _ (#[]) 0 (x1.keep _ _ lvd dn0) (sf rfl rfl rfl) rfl (λ_ he=>by simp at he) Pairs.nil List.nodup_nil)
    ·rw[merged_nil_of_nodup _ (rr (List.map_fst_zip (by simp;exact Jc [_,_,_] 76702498106180608 tO ZT lr))<|Qv hn)]at oL;refine Vo (kvs:=kvs) (h0:=s.heap.push Gg) EU S b0 EB k0 x1 S1 r1 sb ⟨_,oL.choose_spec.choose_spec.choose_spec.1⟩ e (sf (λRu qw ag _=>?_) (λus hu=>(Pv ht hu).elim) (λz=>by cases z)) q;replace qw:=ht▸qw;have e:=z0 qw;clear ag;clear qw;subst e;exact oL
   ·exact(Pv ht hu).elim
  |none=>
   refine wpAny_Dict_pairs (knd:=intKind pw w) sh1 pg ((A0 (D3 ‹_›) ‹_›)) (C2 body (λkvs s1 z=>?_) λ_ _ z=>z);obtain⟨i1,Qc,Z1,O1,h1,nc,rfl,x1,S1,r1,q⟩:=z;refine Xa (ib q) λr e q=>kA (vo e) λln hc=>?_;have lr:=ya.length (i1 h1 bad O1);rw[R0]at lr;rcases hc with⟨hm,Ru,qw,hn⟩|⟨hm,ts,hu,hn⟩
   ·replace qw:=ht▸qw;exact Mine.ns qw
   ·have ZT:=Jo hu;refine(Kf _ (vm hu (i1 h1 bad O1)) ?_ (λh2 oL sb=>?_))
    ·exact(yi _ (#[]) 0 (x1.keep _ _ lvd dn0) (sf rfl rfl rfl) rfl (λ_ he=>by simp at he) Pairs.nil List.nodup_nil)
    ·rw[merged_nil_of_nodup _ (rr (List.map_fst_zip (by simp;exact Jc [_,_,_] 144256484463674368 tO lr ZT)) hn)]at oL;refine Vo (kvs:=kvs) (h0:=s.heap.push Gg) EU S b0 EB k0 x1 S1 r1 sb ⟨_,oL.choose_spec.choose_spec.choose_spec.1⟩ e (sf (λRu qw=>by replace qw:=ht▸qw;exact Mine.ns qw) (λus hu' ag _=>?_) (λz=>by cases z)) q;replace hu':=hu▸hu';have e:=z0 hu';clear hu';clear ag;subst e;exact oL
end
theorem ij{m n:Str}{r:List Str}{o:Option Nat}(e:pb r n=o):pb (m::r) n=o.elim (if m=n then some 0 else none) λi=>some (i+1):=
 C0 (λo:Option Nat=>o.elim (if m=n then some 0 else none) λi=>some (i+1)) e
set_option tactic.hygienic true in
theorem Qj{ns:List Str}{n:Str}:∀{i:Nat},pb ns n=some i->ns[i]? =some n:=by
 induction ns with
 |nil=>exact λh=>ns h|cons m r ih=>
  intro i h;cases e:pb r n with|some j=>exact z0 ((ij e).symm.trans h)▸ih e|none=>exact Uc ((ij e).symm.trans h) λhm h=>z0 h▸C0 some hm
set_option tactic.hygienic true in
theorem vq{ns:List Str}{n:Str}:pb ns n=none↔n∉ns:=by
 induction ns with
 |nil=>exact⟨λ_=>y4,λ_=>rfl⟩|cons m r ih=>
  cases e:pb r n with|some i=>exact⟨λh=>ns (h.symm.trans (ij e)),λh=>ns ((ih.mpr λz=>h (B4 _ z)).symm.trans e)⟩|none=>exact⟨λh z=>(K1.mp z).elim (λz=>ns (h.symm.trans ((ij e).trans (X0 z.symm)))) (ih.mp e),λh=>(ij e).trans (Y0 λz:m=n=>h (z▸Q4))⟩
theorem jm{ns xs:List Str}{n:Str}:pb (ns++xs) n=(pb xs n).elim (pb ns n) λj=>some (ns.length+j):=by
 induction ns with
 |nil=>show pb xs n=_;cases pb xs n with
  |none=>rfl|some j=>exact C0 some (Nat.zero_add j).symm
 |cons m r ih=>
  refine(ij ih).trans ?_;cases pb xs n with|some j=>exact C0 some (Nat.add_right_comm _ _ _)|none=>rfl
theorem vn{c:Addr}{v:Option Value}(x:h.IsCell c v)(k:∀o,h.get? c=some o->h'.get? c=some o):h'.IsCell c v:=let⟨o,ho,hd⟩:=x;(Na o (k o ho) hd)
section
variable{T:Tb}{sc:Sc}{ns:List Str}
theorem Zc.under'(k0:∀a o,h.get? a=some o->h0.get? a=some o)(x:Zc O O' h0 h1)(hl:∀a∈l,h.get? a=none)(k1:∀a o,a∉l->h1.get? a=some o->h'.get? a=some o):Zc O O' h h':=by
 refine Xa x.more λn ez hn=>?_;subst ez;refine⟨(Na n rfl (λa ha=>?_)),λa o e hi=>?_,λa o e=>?_⟩
 ·cases e:h.get? a with|none=>rfl|some o=>have:=hn a ha;replace this:=k0 a o e▸this;cases this
 ·exact k1 a o (λz=>by replace e:=hl a z▸e;exact ns e) (x.keep a o (k0 a o e) hi)
 ·exact kE (x.live a o (k0 a o e)) λo' e'=>⟨o',k1 a o' (λz=>by replace e:=hl a z▸e;exact ns e) e'⟩
theorem FR.other(F:FR w B env sc ns fr h bad O)(k:∀a o,(¬bad a\/a=env.locals\/∃n,env.cells.lookup n=some a)->h.get? a=some o->h'.get? a=some o):FR w B env sc ns fr h' bad O:=by
 have kk:Kp h h' bad bad O O:=⟨λa o hf e=>k a o (.inl hf.1) e,λa o hf _=>hf,λ_ _ h=>h⟩;refine⟨F.kind,F.glob,F.wm,F.names,F.len,λn i a h0 h1 h2=>Xa (F.val n i a h0 h1 h2) λv hv hr=>(Na v (hv.step λa o ha e=>k a o (.inr ha) e) (VR.keeps kk hr)),F.loc,F.cell,F.aM,F.inj,F.sep,λn c hc=>?_,F.Km,F.Tm,?_⟩
 ·exact db (F.YH n c hc) λv o ho hd=>⟨v,o,k _ o (.inr (.inr ⟨n,hc⟩)) ho,hd⟩
 ·exact kE F.RK λm hm=>⟨m,Ns.kept hm λo e=>k _ o (.inr (.inl rfl)) e⟩
structure ic(w:World)(B:Heap)(env:Env)(sc:Sc)(ns:List Str)(fr:Fr)(bad:ie)(O:Io)(s s':Shared):Prop where
 sh:∃h' tk,s'={s with heap:=h',toks:=tk}
 fr:FR w B env sc ns fr s'.heap bad O
 keep:∀a o,a≠env.locals->(∀n,env.cells.lookup n=some a->sc.lookup n≠some .cell)->s.heap.get? a=some o->s'.heap.get? a=some o
 live:∀a o,s.heap.get? a=some o->∃o',s'.heap.get? a=some o'
theorem ic.nb{F:FR w B env sc ns fr h bad O}(x:ic w B env sc ns Ub bad O s s')(a:Addr)(o:Obj)(hb:¬bad a)(e:s.heap.get? a=some o):s'.heap.get? a=some o:=
 x.keep a o (λz=>hb (z▸F.Km)) (λn z _=>hb (F.Tm n a z)) e
theorem tH{b:AV}(h:(fr.set i (some a))[j]? =some (some b)):(i=j/\a=b/\i<fr.length)\/(i≠j/\fr[j]? =some (some b)):=by
 by_cases e:i=j
 ·subst e;replace h:=X0 rfl▸(List.getElem?_set▸h);exact Uc h λhl h=> .inl (sf rfl (z0 (z0 h)) hl)
 ·exact .inr ⟨e,by rwa [W0 e]at h⟩
theorem oh(F:FR w B env sc ns fr s.heap bad O){x:Str}(hx:sc.lookup x=some .local\/sc.lookup x=some .cell)(hi:pb ns x=some i)(r:VR pw w s.heap bad O a v){P:Unit->Shared->Prop}(q:∀s',ic w B env sc ns (fr.set i (some a)) bad O s s'->P () s'):wpAny (model pw w) A (storeName env x v) P E s:=by
 have hp:(env.scope.kind== .class||(env.scope.kind== .module&&env.locals !=env.globals))=false:=by refine rr F.kind ?_;rfl
 have Hk:∀{h':Heap}{y:Str}{u:Value},y≠x->nu s.heap env y u->(∀m,s.heap.Ns env.locals m->∀u,m y=some u->∃m',h'.Ns env.locals m'/\m' y=some u)->(∀c v,env.cells.lookup y=some c->s.heap.IsCell c v->h'.IsCell c v)->nu h' env y u:=by
  intro h' y u hy H kl kc;induction H with|loc m h1 h2 h3=>refine Xa (kl m h2 u h3) λm' a1 a2=>?_;exact .loc m' h1 a1 a2|cell c h1 h2 h3=>exact .cell c h1 h2 (kc c _ h2 h3)|free c h1 h2 h3 h4=>exact .free c h1 h2 (kc c _ h2 h3) h4
 have sl:∀{y j},pb ns y=some j->i=j->y=x:=λ{y j} hj e=>by
  subst e;have:=Qj hj;replace this:=Qj hi▸this;have e:=z0 this;clear hj this;subst e;rfl
 rcases hx with hx|hx
 ·refine kE F.RK λm hm=>wpAny_storeName_local (F.loc x hx) hm (λh' ag sb=>q _ ?_) hp;have kk:Kp s.heap h' bad bad O O:=⟨λb o hf e=>sb.extBut b o (λz=>hf.1 (z▸F.Km)) e,λ_ _ hf _=>hf,λ_ _ h=>h⟩;refine⟨(Jh h' _ rfl),⟨F.kind,F.glob,F.wm,F.names,by simp[F.len],λy j b h0 h1 h2=>?_,F.loc,F.cell,F.aM,F.inj,F.sep,λy c hc=>?_,F.Km,F.Tm,⟨_,ag⟩⟩,λb o hb _ e=>sb.extBut b o hb e,λb o e=>?_⟩
  ·rcases tH h2 with⟨e1,e2,_⟩|⟨e1,e2⟩
   ·have:=sl h1 e1;clear hi Hk sl;subst this e2;exact(Na v (.loc _ (F.loc _ hx) ag (by simp)) (VR.keeps kk r))
   ·refine Xa (F.val y j b h0 h1 e2) λu hu hr=>?_;have hy:y≠x:=λz=>by clear hx ag;clear Hk sl;subst z;replace h1:=hi▸h1;have e:=z0 h1;clear h1 h2 e2;subst e;exact e1 rfl
    refine(Na u (Hk hy hu (λm2 eR u2 e=>(Na _ ag ?_)) λc v hc hv=>vn hv λo e=>sb.extBut c o (λz=>F.sep y (z▸hc)) e) (VR.keeps kk hr));have:m2=m:=by
     refine Wf hm λo1 es1 ep1 a1 a2 _ a3=>?_;clear hm;refine Wf eR λo2 es2 ep2 b1 b2 _ b3=>?_;clear eR;replace b1:=a1▸b1;have e:=z0 b1;clear b1;subst e;replace b2:=a2▸b2;rcases b2 with⟨⟩
     funext k;exact rq (a3 k)<|rq (b3 k) rfl
    clear hm;clear ag;subst this;simp only[Y0 hy];exact e
  ·exact kE (F.YH y c hc) λv hv=>⟨v,vn hv λo e=>sb.extBut c o (λz=>F.sep y (z▸hc)) e⟩
  ·by_cases hb:b=env.locals
   ·clear e;subst hb;refine Qa ag λo _ _ ho _=>?_;clear ag;exact⟨o,ho⟩
   ·exact⟨o,sb.extBut b o hb e⟩
 ·refine YY (F.aM x (.inl hx)) λ_ c hc=>kE (F.YH x c hc) λv0 hv0=>wpAny_storeName_cell F.kind (F.cell x hx) hc hv0 (λh' ag sb=>q _ ?_);have hcb:=F.Tm x c hc;have kk:Kp s.heap h' bad bad O O:=⟨λb o hf e=>sb.extBut b o (λz=>hf.1 (z▸hcb)) e,λ_ _ hf _=>hf,λ_ _ h=>h⟩;have lc:env.locals≠c:=λz=>F.sep x (z▸hc);have co:∀{y c'},y≠x->env.cells.lookup y=some c'->c'≠c:=λ{y c'} hy h' z=>hy (F.inj y x c (z▸h') hc);refine kE F.RK λm hm=>?_;have hml:h'.Ns env.locals m:=Ns.kept hm λo e=>sb.extBut _ o lc e;refine⟨(Jh h' s.toks rfl),⟨F.kind,F.glob,F.wm,F.names,by simp[F.len],λy j b h0 h1 h2=>?_,F.loc,F.cell,F.aM,F.inj,F.sep,λy c' Pp=>?_,F.Km,F.Tm,⟨m,hml⟩⟩,λb o _ hb e=>sb.extBut b o (λz=>hb x (z▸hc) hx) e,λb o e=>?_⟩
  ·rcases tH h2 with⟨e1,e2,_⟩|⟨e1,e2⟩
   ·have:=sl h1 e1;clear co;clear hi;clear Hk sl;subst this e2;exact(Na v (.cell c (F.cell _ hx) hc ag) (VR.keeps kk r))
   ·refine Xa (F.val y j b h0 h1 e2) λu hu hr=>?_;have hy:y≠x:=λz=>by clear hc;clear hx co;clear Hk sl;subst z;replace h1:=hi▸h1;have e:=z0 h1;clear h1 h2 e2;subst e;exact e1 rfl
    exact(Na u (Hk hy hu (λm2 eR u2 e=>(Na m2 (Ns.kept eR λo e=>sb.extBut _ o lc e) e)) λc' v Pp hv=>vn hv λo e=>sb.extBut c' o (co hy Pp) e) (VR.keeps kk hr))
  ·by_cases hy:y=x
   ·clear hi hx co;clear Hk sl;subst hy;replace Pp:=hc▸Pp;have e:=z0 Pp;clear Pp;subst e;exact⟨_,ag⟩
   ·exact kE (F.YH y c' Pp) λv hv=>⟨v,vn hv λo e=>sb.extBut c' o (co hy Pp) e⟩
  ·by_cases hb:b=c
   ·clear hv0 sb hcb lc;clear hc;clear co;subst hb;refine Xa ag λo ho _=>?_;clear ag;exact⟨o,ho⟩
   ·exact⟨o,sb.extBut b o hb e⟩
end
noncomputable def Kg(cells:List (Str×Addr)):List (Str×NameKind)->List (Str×Addr)->Option (List (Str×Addr))|[],cs=>some cs|(n,k)::r,cs=>if(k== .free)=true then(cells.lookup n).bind λa=>Kg cells r ((n,a)::cs)else Kg cells r cs
set_option tactic.hygienic true in
theorem Bj(f:Str×NameKind->List (Str×Addr)->Sem (ForInStep (List (Str×Addr))))(hf:∀n k cs,f (n,k) cs=if(k==NameKind.free)=true then(cellOf env n>>=λa=>pure (ForInStep.yield ((n,a)::cs)))else pure (ForInStep.yield cs)):∀(names:List (Str×NameKind))(cs cl:List (Str×Addr)),Kg env.cells names cs=some cl->forIn names cs f=pure cl
 |[],cs,cl,h=>by have e:=z0 h;clear h;subst e;rfl
 |(n,k)::r,cs,cl,h=>by
  rw[List.forIn_cons,hf];by_cases hk:(k== .free)=true
  ·rw[X0 hk];refine ga ((X0 hk).symm.trans h) λa ha h=>?_;unfold cellOf;rw[ha];simp only[pure_bind];exact Bj f hf r _ _ h
  ·rw[Y0 hk];simp only[pure_bind];exact Bj f hf r _ _ ((Y0 hk).symm.trans h)
theorem cj{cl:List (Str×Addr)}(h:Kg env.cells scope.names []=some cl):closureFor scope env=pure cl:=by
 unfold closureFor;have g:=Bj (env:=env) (λx cs=>match x with
  |(name,kind)=>if(kind==NameKind.free)=true then(do let a<-cellOf env name;pure (ForInStep.yield ((name,a)::cs)))else pure (ForInStep.yield cs)) (λn k cs=>rfl) scope.names [] cl h
 show(forIn scope.names [] _>>=λx=>pure x)=_;exact(C0 (· >>=λx=>pure x) g).trans (pure_bind _ _)
set_option tactic.hygienic true in
theorem Jg:∀{names:List (Str×NameKind)}{cs cl:List (Str×Addr)},Kg cells names cs=some cl->(∀n c,cs.lookup n=some c->cells.lookup n=some c)->(∀n c,cl.lookup n=some c->cells.lookup n=some c)/\(∀n,(cs.lookup n).isSome=true\/(n,NameKind.free)∈names->∃c,cl.lookup n=some c)
 |[],cs,cl,h,h0=>by
  have e:=z0 h;clear h;subst e;refine⟨h0,λn hn=>?_⟩;rcases hn with hn|hn
  ·exact Option.isSome_iff_exists.mp hn
  ·cases hn
 |(m,k)::r,cs,cl,h,h0=>by
  by_cases hk:(k== .free)=true
  ·refine ga ((X0 hk).symm.trans h) λa ha h=>kA (Jg h (λn c hc=>?_)) λi1 i2=>?_
   ·rw[R4]at hc;cases e:n==m with
    |true=>replace hc:=e▸hc;exact rr (eq_of_beq e)<|rr ha hc
    |false=>replace hc:=e▸hc;exact h0 n c hc
   refine⟨i1,λn hn=>i2 n ?_⟩;rcases hn with hn|hn
   ·left;refine rr R4 ?_;cases n==m with|true=>rfl|false=>exact hn
   ·rcases K1.mp hn with e|hn
    ·exact .inl (by rw[(Prod.mk.inj e).1,R4,beq_self_eq_true];rfl)
    ·exact .inr hn
  ·refine kA (Jg ((Y0 hk).symm.trans h) h0) λi1 i2=>⟨i1,λn hn=>i2 n ?_⟩;rcases hn with hn|hn
   ·exact .inl hn
   ·rcases K1.mp hn with e|hn
    ·rcases e with⟨⟩;exact absurd rfl hk
    ·exact .inr hn
theorem Ph:∀{names:List (Str×NameKind)}{cs:List (Str×Addr)},(∀n,(n,NameKind.free)∈names->∃c,cells.lookup n=some c)->∃cl,Kg cells names cs=some cl
 |[],cs,_=>⟨cs,rfl⟩|(m,k)::r,cs,h=>by
  by_cases hk:(k== .free)=true
  ·exact kE (h m (eq_of_beq hk▸Q4)) λc hc=>kE (Ph λn hn=>h n (B4 _ hn)) λcl e=>⟨cl,(X0 hk).trans ((C0 (λo:Option Addr=>o.bind _) hc).trans e)⟩
  ·exact kE (Ph λn hn=>h n (B4 _ hn)) λcl e=>⟨cl,(Y0 hk).trans e⟩
theorem yf{env:Env}:∀{names:List (Str×NameKind)}{x:Str},(names.map λ(n,k)=>if(k==NameKind.free&&env.scope.kind== .function&&env.kindOf n==some .cell)then(n,NameKind.cell)else(n,k)).lookup x=(names.lookup x).map λk=>if(k==NameKind.free&&env.scope.kind== .function&&env.kindOf x==some .cell)=true then NameKind.cell else k
 |[],x=>rfl|(n,k)::r,x=>by
  have ih:=@yf env r x;show List.lookup x ((if(k==NameKind.free&&env.scope.kind== .function&&env.kindOf n==some .cell)=true then(n,NameKind.cell)else(n,k))::_)=_;cases hx:x==n with
  |true=>
   have:x=n:=by simpa using hx
   subst this;by_cases hc:(k==NameKind.free&&env.scope.kind== .function&&env.kindOf x==some .cell)=true
   ·refine rr (X0 hc) ?_;simp only[R4,hx,d5];exact rr (X0 hc) rfl
   ·refine rr (Y0 hc) ?_;simp only[R4,hx,d5];exact rr (Y0 hc) rfl
  |false=>
   by_cases hc:(k==NameKind.free&&env.scope.kind== .function&&env.kindOf n==some .cell)=true
   ·refine rr (X0 hc) ?_;simp only[R4,hx];exact ih
   ·refine rr (Y0 hc) ?_;simp only[R4,hx];exact ih
structure Cx(scope:Scope)(sc:Sc)(ns xs:List Str):Prop where
 kind:scope.kind= .function
 nd:xs.Nodup
 tgt:∀x∈xs,scope.names.lookup x=some .local
 loc:∀p∈scope.names,p.2= .local->(p.1∈xs\/p.1∉ns)/\scope.names.lookup p.1=some .local
 cell:∀p∈scope.names,p.2≠ .cell
 free:∀p∈scope.names,p.2= .free->(sc.lookup p.1=some .cell\/sc.lookup p.1=some .free)/\(p.1==("__classdict__":Str))=false
theorem SA{sc:Sc}{ns xs:List Str}(h:Hp scope sc ns xs=true):Cx scope sc ns xs:=by
 unfold Hp at h;simp only[M0,decide_eq_true_eq,B2]at h;obtain⟨⟨⟨h1,h2⟩,h3⟩,h4⟩:=h;refine⟨h1,h2,h3,λp hp e=>?_,λp hp e=>?_,λp hp e=>?_⟩
 ·have:=h4 p hp;replace this:=e▸this;simp only[M0,Bool.or_eq_true,Bool.not_eq_true',decide_eq_true_eq,List.contains_iff_mem,<-Bool.not_eq_true]at this;exact this
 ·have:=h4 p hp;replace this:=e▸this;exact Lf this
 ·have:=h4 p hp;replace this:=e▸this;simp only[M0,Bool.or_eq_true,decide_eq_true_eq,Bool.not_eq_true']at this;exact this
section
variable{T:Tb}{sc:Sc}{ns:List Str}
theorem eD{names:List (Str×NameKind)}{n:Str}{f:NameKind->NameKind}(hf:∀k,f k=k\/(k= .free/\f k= .cell)){l2:List (Str×NameKind)}(e:l2.lookup n=(names.lookup n).map f):Te l2 n=Te names n:=by
 unfold Te;refine rr e ?_;cases names.lookup n with
 |none=>rfl|some k=>
  rcases hf k with h|⟨h1,h2⟩
  ·simp only[d5,h]
  ·subst h1;simp only[d5,h2]
set_option tactic.hygienic true in
theorem FR.comp(F:FR w B env sc ns fr h bad O){xs:List Str}{cl:List (Str×Addr)}{C:Addr}{m:Str->Option Value}(so:Cx scope sc ns xs)(Br:Kg env.cells scope.names []=some cl)(hC:h.Ns C m)(bC:bad C)(nC:∀n,env.cells.lookup n≠some C):FR w B (compEnvC scope cl C env) scope.names (ns++xs) (fr++xs.map λ_=>none) h bad O:=by
 refine kA (Jg Br (λn c hc=>by exact Mine.ns hc)) λc1 c2=>?_;have rl:∀n,(compEnvC scope cl C env).kindOf n=(scope.names.lookup n).map λk=>if(k==NameKind.free&&env.scope.kind== .function&&env.kindOf n==some .cell)=true then NameKind.cell else k:=λn=>yf;have fk:∀n,((λk=>if(k==NameKind.free&&env.scope.kind== .function&&env.kindOf n==some .cell)=true then NameKind.cell else k) NameKind.free= .cell/\env.kindOf n=some .cell)\/((λk=>if(k==NameKind.free&&env.scope.kind== .function&&env.kindOf n==some .cell)=true then NameKind.cell else k) NameKind.free= .free):=λn=>by
  by_cases e:(NameKind.free==NameKind.free&&env.scope.kind== .function&&env.kindOf n==some .cell)=true
  ·left;refine⟨X0 e,?_⟩;simp only[M0,beq_iff_eq]at e;exact e.2
  ·right;exact Y0 e
 refine⟨so.kind,F.glob,F.wm,λn=>?_,by simp[F.len],λy i a h0 h1 h2=>?_,λn hn=>?_,λn hn=>?_,λn hn=>?_,λn n' c hc Pp=>?_,λn hn=>?_,λn c hc=>F.YH n c (c1 n c hc),bC,λn c hc=>F.Tm n c (c1 n c hc),⟨m,hC⟩⟩
 ·refine eD (f:=λk=>if(k==NameKind.free&&env.scope.kind== .function&&env.kindOf n==some .cell)=true then NameKind.cell else k) (λk=>?_) yf;by_cases e:(k==NameKind.free&&env.scope.kind== .function&&env.kindOf n==some .cell)=true
  ·right;simp only[M0,beq_iff_eq]at e;exact⟨e.1.1,X0 (by simp[e])⟩
  ·left;exact Y0 e
 ·replace h1:=jm▸h1;cases hj:pb xs y with
  |some j=>replace h1:=hj▸h1;rw[<-z0 h1,C3 (rr F.len<|Q1 _ _),P4]at h2;exact Fc h2 λ_ _ e=>Mine.ns e|none=>
   replace h1:=hj▸h1;replace h1:pb ns y=some i:=h1;have hnx:=vq.mp hj;have jn:i<fr.length:=by have:=Qj h1;have:=(B0.mp this).1;exact rr F.len this
   replace h2:=C1 jn▸h2;have hf:scope.names.lookup y=some .free:=by
    unfold Te at h0;cases e:scope.names.lookup y with
    |none=>replace h0:=e▸h0;cases h0|some k=>
     have hm:=mem_of_lookup_some e;induction k with|«local»=>exact((so.loc _ hm rfl).1.elim hnx λz=>z (A4 (Qj h1))).elim|cell=>exact absurd rfl (so.cell _ hm)|free=>rfl|globalExplicit=>replace h0:=e▸h0;cases h0|globalImplicit=>replace h0:=e▸h0;cases h0
   have hm:=mem_of_lookup_some hf;refine kA (so.free _ hm rfl) λhs qU=>?_;have lL:Te sc y=0:=by unfold Te;rcases hs with e|e<;>exact rr e rfl
   refine Xa (F.val y i a lL h1 h2) λv hv hr=>YY (F.aM y hs) λck c hc=>kE (c2 y (.inr hm)) λc' Pp=>?_;have ee:=c1 y c' Pp;replace ee:=hc▸ee;have e:=z0 ee;clear ee;subst e;have hvc:h.IsCell c (some v):=by
    induction hv with
    |loc m h1 h2 h3=>rcases ck with e|e<;>(replace e:=h1▸e;cases e)
    |cell c2 h1 h2 h3=>replace h2:=hc▸h2;have e:=z0 h2;clear h2;subst e;clear h2;exact h3|free c2 h1 h2 h3 h4=>replace h2:=hc▸h2;have e:=z0 h2;clear h2;subst e;clear h2;exact h3
   refine(Na v ?_ hr);have rk:=rl y;rw[hf,d5]at rk;rcases fk y with⟨e,_⟩|e
   ·exact .cell c (rk.trans (C0 some e)) Pp hvc
   ·exact .free c (rk.trans (C0 some e)) Pp hvc qU
 ·have rk:=rl n;rw[hn,d5]at rk;refine rr rk ?_;rfl
 ·exact absurd rfl (so.cell _ (mem_of_lookup_some hn))
 ·rcases hn with hn|hn
  ·exact absurd rfl (so.cell _ (mem_of_lookup_some hn))
  ·have rk:=rl n;rw[hn,d5]at rk;refine⟨?_,c2 n (.inr (mem_of_lookup_some hn))⟩;rcases fk n with⟨e,_⟩|e
   ·exact .inl (rk.trans (C0 some e))
   ·exact .inr (rk.trans (C0 some e))
 ·exact F.inj n n' c (c1 n c hc) (c1 n' c Pp)
 ·exact nC n (c1 n C hn)
end
theorem Jr{it t:Addr}(pg:t≠it):∀(n i:Nat)(s:Shared)(Q:List Value->Shared->Prop),s.heap.IsListIter it t i->s.heap.IsList t items->i+n<=items.size->(∀h',h'.IsListIter it t (i+n)->Heap.SameBut it s.heap h'->Q ((items.toList.drop i).take n) {s with heap:=h'})->wpAny (model pw w) A (draw (.ref it) n) Q E s
 |0,i,s,Q,hit,_,_,hQ=>by
  show wpAny _ _ (pure []) Q E s;exact A2 (by simpa using hQ s.heap hit (Heap.SameBut.refl ..))
 |n+1,i,s,Q,hit,ht,ig,hQ=>by
  have jn:i<items.size:=(Fb [_,_,_] 304298645522547713 tO ig);show wpAny _ _ (pyNext (.ref it)>>=_) Q E s;refine E0 (wpAny_pyNext_list_item hit ht (x:=items[i]) (by simp[jn]) λh₁ BP aU=>?_);refine E0 (Y3 (Jr pg n (i+1) _ _ BP (ht.extBut aU.extBut pg) (Fb [_,_,_] 19881679617890321207157504 tO ig) λh₂ hit₂ hs₂=>A2 ?_));have hd:items.toList.drop i=items[i]::items.toList.drop (i+1):=by simp[List.drop_eq_getElem_cons,jn]
  have:=hQ h₂ (rr (show i+(n+1)=i+1+n from(o4 (Lm [_,_] 1217125014124102400 tO) (Lm [_,_] 2055612580685177600 tO))) hit₂) (aU.trans hs₂);replace this:=List.take_succ_cons▸(hd▸this);exact this
theorem Lk{t:Addr}{Q:List Value->Shared->Prop}(hh:A.handled=none)(ht:s.heap.IsList t items)(hQ:∀h',Heap.ExtBut s.heap.objs.size s.heap h'->Q items.toList {s with heap:=h'}):wpAny (model pw w) A (unpackItems (.ref t) items.size none) Q E s:=by
 have jn:t≠s.heap.objs.size:=by refine Xa ht λo ho _=>?_;clear ht;exact H4 (o5 ho)
 unfold unpackItems;refine E0 ?_;unfold notIterableAtAll;refine E0 (wpAny_specialOf ht.typeIs slot_list_iter.lookup ?_);refine A2 ?_;simp only[Bool.false_eq_true,if_false];refine E0 (Y3 (wpAny_pyIter_list ht ?_));refine E0 (Y3 (Jr jn items.size 0 _ _ (Kf _ (J2 _ rfl) rfl rfl) (ht.push _) (Lm [_] 26368 tO) λh₁ BP aU=>?_));have nH:List.take items.size (List.drop 0 items.toList)=items.toList:=rr List.drop_zero<|List.take_of_length_le (by simp);refine rr nH<|rr (Y0 (by simp)) ?_;have ht₁:h₁.IsList t items:=(ht.push _).extBut aU.extBut jn;refine E0 (Y3 (wpAny_pyNext_list_end hh BP ht₁ (by simp) λh₂ he₂=>?_));simp only[Option.isSome_none,Bool.false_eq_true,if_false];refine A2 (hQ h₂ λb o hb e=>he₂ b o hb (aU.extBut b o hb (J1 _ e)))
theorem Bk{x1}{t:Addr}{Q:Unit->Shared->Prop}(hh:A.handled=none)(ht:s.heap.IsList t items)(hn:(assignEach TH env).length=items.size)(bU:(assignEach TH env).findIdx? (·.1)=none)(h:∀h',Heap.ExtBut s.heap.objs.size s.heap h'->wpAny (model pw w) A (assignInOrder ((assignEach TH env).map (·.2)) items.toList) Q E {s with heap:=h'}):wpAny (model pw w) A (assign (.Tuple TH x1 pos) env (.ref t)) Q E s:=by rw[arm_assign_Tuple];refine E0 (wpAny_standAt ?_);unfold unpack;exact rr hn<|rr bU<|E0 (Y3 (Lk hh ht h))
section
variable{T:Tb}{sc:Sc}{ns:List Str}
theorem ic.trans(x:ic w B env sc ns fr1 bad O s s1)(y:ic w B env sc ns fr2 bad O s1 s2):ic w B env sc ns fr2 bad O s s2:=by refine Cp x.sh λh1 nc e1=>Cp y.sh λh2 jg e2=>?_;subst e1;exact⟨(Jh h2 jg e2),y.fr,λa o h1 h2 e=>y.keep a o h1 h2 (x.keep a o h1 h2 e),λa o e=>let⟨o',e'⟩:=x.live a o e;y.live a o' e'⟩
theorem Rv{r:List PE}{xs:List Str}(h:kg (e::r)=some xs):∃x p ys,e= .Name x p/\kg r=some ys/\xs=x::ys:=by
 have h:(match Yj e,kg r with|some x,some xs=>some (x::xs)|_,_=>none)=some xs:=h;cases h1:Yj e with
 |none=>replace h:=h1▸h;exact ns h|some x=>
  refine kE (Xj h1) λp ez=>?_;subst ez;replace h:=h1▸h;cases h2:kg r with|none=>replace h:=h2▸h;exact ns h|some ys=>replace h:=h2▸h;exact(No x p ys rfl rfl ((z0 h).symm))
theorem nG{xs:List Str}(h:kg es=some xs):(assignEach es env).length=xs.length/\(assignEach es env).findIdx? (·.1)=none:=by
 induction es generalizing xs with|nil=>have e:=z0 h;subst e;clear h;exact⟨rfl,rfl⟩|cons e r ih=>refine Qa (Rv h) λx p ys ez tz=>?_;subst ez;refine kA tz λh2 QP=>?_;clear tz;subst QP;have⟨i1,i2⟩:=ih h2;refine⟨C0 (· +1) i1,?_⟩;show(((false,assign (.Name x p) env)::assignEach r env).findIdx? (·.1))=none;refine rr List.findIdx?_cons<|rr i2 ?_;rfl
theorem Oz:∀{es:List PE}{xs:List Str}{is:List Nat}{Qc:List AV}{us:List Value}{fr:Fr}{s:Shared}{P:Unit->Shared->Prop},FR w B env sc ns fr s.heap bad O->kg es=some xs->(∀x∈xs,sc.lookup x=some .local\/sc.lookup x=some .cell)->xs.map (pb ns)=is.map some->ya pw w s.heap bad O Qc us->Qc.length=xs.length->(∀s',ic w B env sc ns (Ps is Qc fr) bad O s s'->P () s')->wpAny (model pw w) A (assignInOrder ((assignEach es env).map (·.2)) us) P E s:=by
 intro es;induction es with
 |nil=>intro xs is Qc us fr s P F h hx hi hv hl q;have e:=z0 h;subst e;clear h;have:is=[]:=List.map_eq_nil_iff.mp hi.symm;subst this;have:Qc=[]:=List.length_eq_zero_iff.mp hl;subst this;have:=ya.length hv;have:us=[]:=List.length_eq_zero_iff.mp this.symm;subst this;exact A2 (q s ⟨(Jh s.heap s.toks rfl),F,λ_ _ _ _ e=>e,λ_ o e=>⟨o,e⟩⟩)|cons e r ih=>
  intro xs is Qc us fr s P F h hx hi hv hl q;refine Qa (Rv h) λx p ys ez tz=>?_;subst ez;refine kA tz λh2 QP=>?_;clear tz;subst QP;cases is with
  |nil=>exact nomatch hi
  |cons i is=>
   have hi:=List.cons.inj hi;cases Qc with
   |nil=>exact nomatch hl
   |cons a Qc=>refine db hv λu UQ ez tz=>?_;clear hv;subst ez;refine kA tz λr1 r2=>?_;clear tz;refine E0 (Y3 (wpAny_assign_Name (oh F (hx x (.head _)) hi.1 r1 λs1 st=>?_)));refine ih st.fr h2 (λy hy=>hx y (.tail _ hy)) hi.2 (ya.keeps ⟨λa o hf e=>ic.nb (F:=F) st a o hf.1 e,λ_ _ hf _=>hf,λ_ _ h=>h⟩ r2) (Nat.succ.inj hl) λs2 st2=>q s2 (st.trans st2)
theorem ic.grow(k:∀a o,s.heap.get? a=some o->h'.get? a=some o)(y:ic w B env sc ns Ub bad O {s with heap:=h'} s2):ic w B env sc ns Ub bad O s s2:=Cp y.sh λh2 jg e2=>⟨(Jh h2 jg e2),y.fr,λa o h1 h2 e=>y.keep a o h1 h2 (k a o e),λa o e=>y.live a o (k a o e)⟩
theorem Kk(hh:A.handled=none)(F:FR w B env sc ns fr s.heap bad O){k:Nat}{xs:List Str}{P:Unit->Shared->Prop}(h:kg es=some xs)(hx:∀x∈xs,sc.lookup x=some .local\/sc.lookup x=some .cell)(hi:xs.map (pb ns)=is.map some)(r:VR pw w s.heap bad O a v)(hp:xh a=some Qc)(hl:Qc.length=xs.length)(q:∀s',ic w B env sc ns (Ps is Qc fr) bad O s s'->P () s'):wpAny (model pw w) A (assign (.Tuple es k pos) env v) P E s:=by
 refine kA (nG (env:=env) h) λn1 n2=>?_;have go:∀{us:List Value}{h':Heap},ya pw w s.heap bad O Qc us->Heap.ExtBut s.heap.objs.size s.heap h'->wpAny (model pw w) A (assignInOrder ((assignEach es env).map (·.2)) us) P E {s with heap:=h'}:=λ{us h'} hv he=>by
  have k:∀a o,s.heap.get? a=some o->h'.get? a=some o:=λa o e=>he a o (H4 (o5 e)) e;exact Oz (s:={s with heap:=h'}) (F.other λa o _ e=>k a o e) h hx hi (ya.keeps (Kp.of_keep k) hv) hl λs' st=>q s' (ic.grow k st)
 unfold xh at hp;split at hp
 ·have e:=z0 hp;subst e;clear hp;refine Qa r λp vs m ez tz=>?_;clear r;subst ez;refine Mm tz λ_ ho hv=>?_;clear tz;have l:=ya.length hv;refine wpAny_assign_Tuple (items:=vs.toArray) hh (Cb _ ho rfl _ rfl) (by refine rr n1<|rr List.size_toArray ?_;exact Eq.trans (Eq.symm ‹_›) ‹_›) n2 λh' he=>go hv he
 ·have e:=z0 hp;subst e;clear hp;refine Qa r λp vs m ez tz=>?_;clear r;subst ez;refine Mm tz λ_ ho hv=>?_;clear tz;have l:=ya.length hv;refine Bk (items:=vs.toArray) hh (Cb _ ho rfl _ rfl) (by refine rr n1<|rr List.size_toArray ?_;exact Eq.trans (Eq.symm ‹_›) ‹_›) n2 λh' he=>go hv he
 ·exact Mine.ns hp
end
section
variable{R:Result->Shared->Prop}
def y0(w:World)(A:Around)(Ge:PE)(Ra:Value)(env:Env)(I:Shared->Prop):Bool->Shared->Prop:=λok s=>
 ok.casesOn (I s) (wpAny (model pw w) A (eval Ge env) (λx s4=>wpAny (model pw w) A (call (.builtin "list.append") [Ra,x]) (λ_ s5=>I s5) qb s4) qb s)
def wZ(w:World)(A:Around)(Ge:PE)(De:List PE)(Ra:Value)(env:Env)(I:Shared->Prop)(s:Shared):Prop:=
 wpAny (model pw w) A (forIn De true λc r=>if r=true then do let ok<-isTrue c env (eval c env);pure (ForInStep.yield ok)else pure (ForInStep.yield r)) (y0 w A Ge Ra env I) qb s
def NY(w:World)(A:Around)(Ge Qk:PE)(De:List PE)(it Ra:Value)(env:Env)(I R:Shared->Prop):Option Value->Shared->Prop:=λr s=>
 r.casesOn (R s) λv=>wpAny (model pw w) A (letOwnedTupleGo Qk it v) (λ_ s1=>wpAny (model pw w) A (assign Qk env v) (λ_ s2=>wZ w A Ge De Ra env I s2) qb s1) qb s
theorem Ot{Qk:PE}{it Ra:Value}(I:Nat->Shared->Prop)(turn:∀n s,I n s->wpAny (model pw w) A (pyNext it) (NY w A Ge Qk De it Ra env (λs=>∃m,m<n/\I m s) (R (.ok .next))) qb s)(n:Nat)(h:I n s):codeAny (model pw w) A (.compLoop (.ListComp Ge [⟨Qk,iter,De,0⟩] scope pos) 0 it Ra env) R s:=by
 refine codeAny_loop rfl I (λn s hI=>?_) n h;show wpAny _ A ((compTurn (.ListComp Ge [⟨Qk,iter,De,0⟩] scope pos) 0 it Ra env).onRaise (λx=>do noteFrame x env;theTreesLotGoes x)) _ _ s;refine wpAny_noted ?_;rw[compTurn_list];refine E0 (wpAny_standAt (E0 (C2 (turn n s hI) (λr s₁ h₁=>?_) λ_ _ h'=>h'.elim)));induction r with
 |none=>exact A2 h₁|some v=>
  refine E0 (C2 h₁ (λ_ s₁ h₁=>?_) λ_ _ h'=>h'.elim);refine E0 (C2 h₁ (λ_ s₂ h₂=>E0 (C2 h₂ (λok s₃ h₃=>?_) λ_ _ h'=>h'.elim)) λ_ _ h'=>h'.elim);induction ok with|false=>exact A2 ⟨rfl,h₃⟩|true=>exact E0 (E0 (C2 h₃ (λx s₄ h₄=>E0 (C2 h₄ (λ_ s₅ h₅=>A2 (A2 ⟨rfl,h₅⟩)) λ_ _ h'=>h'.elim)) λ_ _ h'=>h'.elim))
end
theorem BK:∀(Qc:List AV)(fr:Fr)(us:Fr),us.length=Qc.length->Ps ((List.range Qc.length).map (fr.length+·)) Qc (fr++us)=fr++Qc.map some:=by
 intro Qc;induction Qc with
 |nil=>intro fr us h;have:us=[]:=List.length_eq_zero_iff.mp h;clear h;subst this;rfl|cons a Qc ih=>
  intro fr us h;induction us with
  |nil=>simp at h|cons u us=>
   have ih:=ih (fr++[some a]) us (by simpa using h);rw[P2,List.range_succ_eq_map,K4,Ps,Nat.add_zero];have e1:(fr++u::us).set fr.length (some a)=(fr++[some a])++us:=by rw[List.set_append_right _ _ (K0 _)];simp
   rw[e1];have e2:(List.map (λx=>fr.length+x) (List.map Nat.succ (List.range Qc.length)))=(List.range Qc.length).map ((fr++[some a]).length+·):=by rw[List.map_map];refine List.map_congr_left λk _=>?_;simp only[Function.comp,A1,P2,j5];exact o4 (Lm [_,_] 1217125014124102400 tO) (Lm [_,_] 2055612580685177600 tO)
   rw[e2,ih];simp
theorem By:∀{xs:List Str}(pre:List Str),xs.Nodup->(∀x∈xs,x∉pre\/True)->xs.map (pb (pre++xs))=((List.range xs.length).map (pre.length+·)).map some:=by
 intro xs;induction xs with
 |nil=>intro pre _ _;exact rfl|cons x xs ih=>
  intro pre hn _;rw[P3]at hn;have ih:=ih (pre++[x]) hn.2 λ_ _=> .inr trivial;rw[P2,List.range_succ_eq_map,K4,K4,K4];congr 1
  ·refine rr jm ?_;have:pb (x::xs) x=some 0:=(ij (vq.mpr hn.1)).trans (X0 rfl);refine rr this ?_;rfl
  ·refine rr (show pre++x::xs=(pre++[x])++xs by simp)<|rr ih<|rr List.map_map<|rr List.map_map<|rr List.map_map<|List.map_congr_left λk _=>?_;simp only[Function.comp,A1,P2,j5];congr 1;exact Nat.add_right_comm _ _ _
section
variable{T:Tb}{sc:Sc}{ns:List Str}
theorem IA{xs:List Str}{k:Nat}(h:Mj e=some (xs,k)):(∃x p,e= .Name x p/\xs=[x]/\k=0)\/∃es m p,e= .Tuple es m p/\kg es=some xs/\k=xs.length/\¬k=0:=by
 unfold Mj at h;cases h1:Yj e with
 |some x=>replace h:=h1▸h;refine kE (Xj h1) λp ez=>?_;clear h1;subst ez;have h:=Prod.mk.inj (z0 h);exact .inl (Wa x p rfl h.1.symm h.2.symm)|none=>
  replace h:=h1▸h;refine ga h λys h2 h=>ga h2 λes h2 h3=>?_;refine Cp (GA h2) λm p ez=>?_;clear h2;clear h1;subst ez;refine .inr (ve es m p rfl ?_);induction ys with|nil=>exact ns h|cons y ys=>have h:=Prod.mk.inj (z0 h);exact rq h.1<|rq h.2<|(sf h3 rfl (λz=>nomatch z))
theorem QN(hh:A.handled=none){xs:List Str}{k:Nat}{us vs:Fr}{P:Unit->Shared->Prop}(F:FR w B Oc scope.names (ns++xs) (fr++us) s.heap bad O)(hu:us.length=xs.length)(so:Cx scope sc ns xs)(ht:Mj tg=some (xs,k))(hb:Th k x=some vs)(r:VR pw w s.heap bad O x u)(q:∀s',ic w B Oc scope.names (ns++xs) (fr++vs) bad O s s'->P () s'):wpAny (model pw w) A (assign tg Oc u) P E s:=by
 have fl:fr.length=ns.length:=by have:=F.len;simp only[A1]at this;exact o4 (Jc [_,_,_,_] 230810327720781433373696 tO hu this) (Jc [_,_,_,_] 228449216537215526568960 tO hu this)
 have sl:=By ns so.nd λ_ _=> .inr trivial;have pe:∀{Qc:List AV},Qc.length=xs.length->Ps ((List.range xs.length).map (ns.length+·)) Qc (fr++us)=fr++Qc.map some:=λ{Qc} hl=>rq fl<|rq hl<|BK Qc fr us (rr hu<|rr hl rfl);rcases IA ht with⟨y,p,rfl,rfl,rfl⟩|⟨es,m,p,rfl,hy,hk,lL⟩
 ·have hb:[some x]=vs:=z0 hb;subst hb;have s1:pb (ns++[y]) y=some ns.length:=(List.cons.inj sl).1;refine wpAny_assign_Name (oh F (.inl (so.tgt y (.head _))) s1 r λs' st=>q s' ?_);have e:Ps ((List.range [y].length).map (ns.length+·)) [x] (fr++us)=fr++[some x]:=pe (Qc:=[x]) rfl;exact e▸st
 ·unfold Th at hb;replace hb:=Y0 lL▸hb;cases x with
  |tup Qc=>refine Uc hb λhl e=>?_;have e:=z0 e;clear hb;subst e;clear e;have ln:Qc.length=xs.length:=hl.trans hk;exact Kk hh F hy (λz hz=> .inl (so.tgt z hz)) sl r (Qc:=Qc) rfl ln λs' st=>q s'<|rq (pe ln) st
  |_=>exact Mine.ns hb
end
abbrev Xw(vi:AV)(all:List AV):AH->Prop:=λZ2=>sa Z2 vi=some all
abbrev gm(W:CP)(k:Nat)(cx ex:X)(fr:Fr):AV->AH->(Option AV->AH->Prop)->Prop:=λx Z2 R=>Hb (Th k x) λvs=>
 Pb W cx (fr++vs) Z2 λt Z3=>if t=true then dc W ex (fr++vs) Z3 λv Z4=>R (some v) Z4 else R none Z3
structure CI(w:World)(B:Heap)(J:Nat->Heap->Prop)(D:Addr)(Oc:Env)(nm:Sc)(xJ:List Str)(fr:Fr)(xl:Nat)(bad:ie)(vi:AV)(v:Value)(h0:Heap)(O0:Io)(s0:Shared)(us:Fr)(i:Nat)(Ra:List AV)(Ki:List Value)(O:Io)(Z:AH)(s:Shared):Prop where
 sh:∃H tk,s={s0 with heap:=H,toks:=tk}
 ul:us.length=xl
 j:J i s.heap
 F:FR w B Oc nm xJ (fr++us) s.heap bad O
 S:SR pw w B bad O Z s.heap
 b:ta B bad s.heap
 x:Zc O0 O h0 s.heap
 r:VR pw w s.heap bad O vi v
 pl:s.heap.PlainList D Ki.toArray
 rs:ya pw w s.heap bad O Ra Ki
structure CF(w:World)(A:Around)(B:Heap)(J:Nat->Heap->Prop)(D Ia:Addr)(ls:List Addr)(Qf:AH->Prop)(tg:PE)(Oc:Env)(bad:ie)(vi:AV)(v:Value)(xs:List AV)(h0:Heap):Prop where
 W:It pw w A B vi v xs Qf tg Ia ls J
 bD:bad D
 bI:∀a∈ls,bad a
 DI:D∉ls
 DL:D≠Oc.locals
 IL:Oc.locals∉ls
 cD:∀n,Oc.cells.lookup n≠some D
 cI:∀n a,a∈ls->Oc.cells.lookup n≠some a
 fD:h0.get? D=none
 fI:∀a∈ls,h0.get? a=none
 fL:h0.get? Oc.locals=none
section
variable{J:Nat->Heap->Prop}{nm:Sc}{us:Fr}{xs:List AV}
theorem CI.eval(f:CF w A B J D Ia ls Qf tg Oc bad vi v xs h0)(c:CI w B J D Oc nm xJ fr xl bad vi v h0 O0 s0 us i Ra Ki O Z s)(x2:Zc O O2 s.heap h2)(S2:SR pw w B bad O2 Z2 h2):CI w B J D Oc nm xJ fr xl bad vi v h0 O0 s0 us i Ra Ki O2 Z2 {s with heap:=h2,toks:=tk}:=by refine Cp c.sh λH t ez=>?_;subst ez;have nb:∀a,bad a->a∉uc O:=λa ha hm=>(c.S.off a hm).2.1 ha;exact⟨(Jh h2 tk rfl),c.ul,f.W.frame _ _ _ c.j λb hb o e=>x2.keep _ o e (nb _ (f.bI b hb)),c.F.step c.S x2,S2,c.b.ext x2,c.x.trans x2,VR.keeps x2.kp c.r,c.pl.at λo e=>x2.keep _ o e (nb _ f.bD),ya.keeps x2.kp c.rs⟩
theorem rj(k:∀a o,¬bad a->h.get? a=some o->h'.get? a=some o):Kp h h' bad bad O O:=⟨λa o hf e=>k a o hf.1 e,λ_ _ hf _=>hf,λ_ _ h=>h⟩
end
section
variable{T:Tb}{sc:Sc}{ns:List Str}
inductive AW(w:World)(B:Heap)(J:Nat->Heap->Prop)(D:Addr)(Oc:Env)(nm:Sc)(xJ:List Str)(fr:Fr)(xl:Nat)(bad:ie)(vi:AV)(v:Value)(h0:Heap)(O0:Io)(s0:Shared)(g:Nat->List AV->AH->Prop)(len m:Nat)(s:Shared):Prop|mk (us:Fr) (i:Nat) (Ra:List AV) (Ki:List Value) (O:Io) (Z:AH) (c:CI w B J D Oc nm xJ fr xl bad vi v h0 O0 s0 us i Ra Ki O Z s) (e:i+m=len) (l:Ra.length<=i) (q:g i Ra Z)
theorem AW.k{J:Nat->Heap->Prop}{nm:Sc}{g:Nat->List AV->AH->Prop}{len:Nat}{P:Shared->Prop}(z:AW w B J D Oc nm xJ fr xl bad vi v h0 O0 s0 g len m s)(k:∀us i Ra Ki O Z H tk,CI w B J D Oc nm xJ fr xl bad vi v h0 O0 s0 us i Ra Ki O Z {s0 with heap:=H,toks:=tk}->i+m=len->Ra.length<=i->g i Ra Z->P {s0 with heap:=H,toks:=tk}):P s:=by
 cases z with|mk us i Ra Ki O Z c e l q=>refine Cp c.sh λH tk ez=>?_;subst ez;exact k us i Ra Ki O Z H tk c e l q
theorem CF.turn{J:Nat->Heap->Prop}{nm:Sc}(f:CF w A B J D Ia ls Qf tg Oc bad vi v all h0)(F:FR w B Oc nm xJ fr h1 bad O)(he:Ek ls h1 h):FR w B Oc nm xJ fr h bad O:=
 F.other λa o ha e=>he a o (λz=>by
  rcases ha with ha|ha|⟨n,ha⟩
  ·exact ha (f.bI a z)
  ·exact f.IL (ha▸z)
  ·exact f.cI n a z ha) e
section
variable{J:Nat->Heap->Prop}{xs:List Str}{k:Nat}{us:Fr}{R:Shared->Prop}{cx:X}{st:AV->AH->(Option AV->AH->Prop)->Prop}
theorem ED(I:Ev T w B lvl n)(rm:Rm lvl A)(pz:(De=[]/\cx= .lit (.bool true))\/(∃c,De=[c]/\cx=tr T n scope.names (ns++xs) c)\/cx= .bad)(vP:∀{x Z R},st x Z R->gm (ja w B lvl) k cx (tr T n scope.names (ns++xs) Ge) fr x Z R)(so:Cx scope sc ns xs)(ht:Mj tg=some (xs,k))(f:CF w A B J D Ia ls Qf tg Oc bad vi v all h0)(qr:qd all)(hR:∀h' tk Ra Ki O Z m,Zc O0 O h0 h'->SR pw w B bad O Z h'->h'.PlainList D Ki.toArray->ya pw w h' bad O Ra Ki->h'.Ns Oc.locals m->Q (.ba Ra) Z->R {s0 with heap:=h',toks:=tk})(c:CI w B J D Oc scope.names (ns++xs) fr xs.length bad vi v h0 O0 s0 us i Ra Ki O1 Z1 {s0 with heap:=h1,toks:=nc})(HE:i+m=all.length)(vD:Ra.length<=i)(hw:Sa Qf st (all.drop i) Ra Z1 Q):wpAny (model pw w) A (pyNext (.ref Ia)) (NY w A Ge tg De (.ref Ia) (.ref D) Oc (λs=>∃k,k<m/\AW w B J D Oc scope.names (ns++xs) fr xs.length bad vi v h0 O0 s0 (λi Ra Z=>Sa Qf st (all.drop i) Ra Z Q) all.length k s) R) qb {s0 with heap:=h1,toks:=nc}:=by
 cases m with
 |zero=>have lU:i=all.length:=HE;replace hw:=List.drop_length▸(lU▸hw);refine f.W.done _ Z1 O1 bad _ _ c.S c.r hw.1 (lU▸c.j) λh' tk he=>?_;have kk:∀a o,¬bad a->h1.get? a=some o->h'.get? a=some o:=λa o hb e=>he a o (λz=>hb (f.bI a z)) e;exact kE (f.turn c.F he).RK λm' cN=>hR h' tk Ra Ki O1 Z1 m' (Zc.under' (l:=ls) (λ_ _ e=>e) c.x f.fI λa o ha e=>he a o ha e) (c.S.free (λ_ h=>h) c.b.off kk) (c.pl.at λo e=>he _ o f.DI e) (ya.keeps (rj kk) c.rs) cN hw.2|succ m=>
  have jn:i<all.length:=HE▸Nat.lt_add_of_pos_right (Nat.succ_pos m);replace hw:=List.drop_eq_getElem_cons jn▸hw;refine f.W.item i all[i] _ Z1 O1 bad _ _ _ (λu s1 z=>z) (z3 jn) c.S c.b.live f.bI c.r hw.1 c.j λu h2 jg sP j2 he=>?_;refine Xa (ib (vP hw.2)) λvs hb dH=>QN (s:={s0 with heap:=h2,toks:=jg}) (P:=λ_ s=>wZ w A Ge De (.ref D) Oc _ s) rm.han (f.turn c.F he) c.ul so ht hb sP λs2 st2=>Cp st2.sh λh3 Kn ez=>?_;subst ez;have pB:∀a o,a≠Oc.locals->h2.get? a=some o->h3.get? a=some o:=λa o ha e=>st2.keep a o ha (λn hn z=>so.cell _ (mem_of_lookup_some z) rfl) e;have kk2:∀a o,¬bad a->h1.get? a=some o->h3.get? a=some o:=λa o hb e=>pB a o (λz=>hb (z▸c.F.Km)) (he a o (λz=>hb (f.bI a z)) e);have c2:CI w B J D Oc scope.names (ns++xs) fr xs.length bad vi v h0 O0 s0 vs (i+1) Ra Ki O1 Z1 {s0 with heap:=h3,toks:=Kn}:=by
   refine⟨(Jh h3 Kn rfl),?_,f.W.frame _ _ _ j2 λb hb o e=>pB _ o (λz=>f.IL (z▸hb)) e,st2.fr,c.S.free (λ_ h=>h) c.b.off kk2,⟨λa ha=>?_,c.b.off⟩,?_,VR.keeps (rj kk2) c.r,c.pl.at λo e=>pB _ o f.DL (he _ o f.DI e),ya.keeps (rj kk2) c.rs⟩
   ·have e1:=st2.fr.len;have e2:=c.F.len;rw[A1]at e1 e2;exact Nat.add_left_cancel (e1.trans (e2.symm.trans (C0 (fr.length+·) c.ul)))
   ·by_cases hN:a∈ls
    ·exact kE (f.W.live _ _ j2 a hN) λo ho=>st2.live _ o ho
    ·exact kE (c.b.live a ha) λo e=>st2.live _ o (he a o hN e)
   ·refine Zc.under' (l:=Oc.locals::ls) (λ_ _ e=>e) c.x (λa ha=>?_) λa o ha e=>pB a o (λz=>ha (z▸ .head _)) (he a o (λz=>ha (.tail _ z)) e);rcases K1.mp ha with rfl|ha
    ·exact f.fL
    ·exact f.fI a ha
  have hi1:i+1+m=all.length:=(Nat.succ_add_eq_add_succ i m).trans HE;have TR:wpAny (model pw w) A (forIn De true λc r=>if r=true then do let ok<-isTrue c Oc (eval c Oc);pure (ForInStep.yield ok)else pure (ForInStep.yield r))
    (Nb w B bad O1 {s0 with heap:=h3,toks:=Kn} λt Z3=>if t=true then dc (ja w B lvl) (tr T n scope.names (ns++xs) Ge) (fr++vs) Z3 λv Z4=>Sa Qf st (all.drop (i+1)) (Ra++(some v).toList) Z4 Q else Sa Qf st (all.drop (i+1)) (Ra++(none:Option AV).toList) Z3 Q) qb {s0 with heap:=h3,toks:=Kn}:=by
   rcases pz with⟨rfl,rfl⟩|⟨c',rfl,rfl⟩|rfl
   ·exact wpAny_tests_nil ⟨Z1,O1,h3,Kn,rfl,Zc.refl,c2.S,dH⟩
   ·exact wpAny_tests_one (I.te (s:={s0 with heap:=h3,toks:=Kn}) rm c2.F c2.S c2.b dH)
   ·exact(dH:False).elim
  refine Nb.bind TR λt Z3 O3 h4 jF x3 S3 q3=>?_;have c3:=CI.eval (tk:=jF) f c2 x3 S3;clear hR c;cases t with
  |false=>have q3:Sa Qf st (all.drop (i+1)) (Ra++[]) Z3 Q:=q3;rw[K2]at q3;exact Na m (Nat.lt_succ_self m) ⟨vs,i+1,Ra,Ki,O3,Z3,c3,hi1,Nat.le_succ_of_le vD,q3⟩|true=>
   refine aa.bind (I.ex (s:={s0 with heap:=h4,toks:=jF}) rm c3.F c3.S c3.b q3) λav y Z4 O4 h5 VQ x4 S4 r4 q4=>?_;have c4:=CI.eval (tk:=VQ) f c3 x4 S4;have hsz:Ki.toArray.size<=sizeLine:=rr List.size_toArray<|rq (ya.length c4.rs)<|pj (A0 vD (A0 (Nat.le_of_lt jn) qr));refine wpAny_list_append_plain (hsz:=hsz) c4.pl λh6 hp5 sb=>?_;have kk5:∀a o,¬bad a->h5.get? a=some o->h6.get? a=some o:=λa o hb e=>sb.extBut a o (λz=>hb (z▸f.bD)) e;refine Na m (Nat.lt_succ_self m) ⟨vs,i+1,Ra++[av],Ki++[y],O4,Z4,⟨(Jh h6 VQ rfl),c2.ul,f.W.frame _ _ _ c4.j λb hb o e=>sb.extBut _ o (λz=>f.DI (z▸hb)) e,c4.F.other λa o ha e=>sb.extBut a o (λz=>?_) e,c4.S.free (λ_ h=>h) c4.b.off kk5,⟨λa ha=>?_,c4.b.off⟩,
    Zc.under' (l:=[D]) (λ_ _ e=>e) c4.x (λa ha=>by exact rr (J0.mp ha) f.fD) λa o ha e=>sb.extBut a o (λz=>ha (J0.mpr z)) e,VR.keeps (rj kk5) c4.r,by simpa using hp5,?_⟩,hi1,by exact rr A1<|J4 vD,q4⟩
   ·clear c2 c3 c4 hp5 sb;subst z;rcases ha with ha|ha|⟨n,ha⟩
    ·exact ha f.bD
    ·exact f.DL ha
    ·exact f.cD n ha
   ·by_cases hN:a=D
    ·exact hN▸kE hp5 λn ho=>⟨_,ho⟩
    ·exact kE (c4.b.live a ha) λo e=>⟨o,sb.extBut a o hN e⟩
   ·exact ya.append (ya.keeps (rj kk5) c4.rs) (Wa y [] rfl (VR.keeps (rj kk5) r4) rfl)
theorem GD{R:Result->Shared->Prop}(I:Ev T w B lvl n)(rm:Rm lvl A)(pz:(De=[]/\cx= .lit (.bool true))\/(∃c,De=[c]/\cx=tr T n scope.names (ns++xs) c)\/cx= .bad)(so:Cx scope sc ns xs)(ht:Mj tg=some (xs,k))(f:CF w A B J D Ia ls Qf tg Oc bad vi v all h0)(c0:CI w B J D Oc scope.names (ns++xs) fr xs.length bad vi v h0 O0 s0 us 0 [] [] O Z s)(qr:qd all)(hw:Sa Qf (gm (ja w B lvl) k cx (tr T n scope.names (ns++xs) Ge) fr) all [] Z Q)(hR:∀h' tk Ra Ki O Z m,Zc O0 O h0 h'->SR pw w B bad O Z h'->h'.PlainList D Ki.toArray->ya pw w h' bad O Ra Ki->h'.Ns Oc.locals m->Q (.ba Ra) Z->R (.ok .next) {s0 with heap:=h',toks:=tk}):codeAny (model pw w) A (.compLoop (.ListComp Ge [⟨tg,iter,De,0⟩] scope pos) 0 (.ref Ia) (.ref D) Oc) R s:=
 Ot (λm=>AW w B J D Oc scope.names (ns++xs) fr xs.length bad vi v h0 O0 s0 (λi Ra Z=>Sa Qf (gm (ja w B lvl) k cx (tr T n scope.names (ns++xs) Ge) fr) (all.drop i) Ra Z Q) all.length m)
  (λm s' z=>z.k (P:=λs'=>wpAny (model pw w) A (pyNext (.ref Ia)) (NY w A Ge tg De (.ref Ia) (.ref D) Oc _ (R (.ok .next))) qb s') λus i Ra Ki O1 Z1 H tk c e l q=>ED I rm pz (λz=>z) so ht f qr hR c e l q) all.length
  ⟨us,0,[],[],O,Z,c0,Nat.zero_add _,K0 _,hw⟩
end
end
theorem ll(h:Bf it=true):∀x,foldedSetIterable it env x=pure x:=by
 intro x;cases it with|Set=>exact Lf h|_=>rfl
section
variable{T:Tb}{sc:Sc}{ns:List Str}
theorem Lr(I:Ev T w B lvl n)(rm:Rm lvl A){J:Nat->Heap->Prop}{xs:List Str}{k:Nat}{hI:Heap}{iF:Nat}{cx:X}{cl:List (Str×Addr)}{RR:Value->Addr->Result->Shared->Prop}(pz:(De=[]/\cx= .lit (.bool true))\/(∃c,De=[c]/\cx=tr T n scope.names (ns++xs) c)\/cx= .bad)(so:Cx scope sc ns xs)(ht:Mj tg=some (xs,k))(Br:Kg env.cells scope.names []=some cl)(F:FR w B env sc ns fr s.heap bad O)(S:SR pw w B bad O Z s.heap)(b0:ta B bad s.heap)(W:It pw w A B vi v all Qf tg Ia ls J)(jL:∀a∈ls,s.heap.get? a=none)(k0:∀a o,s.heap.get? a=some o->hI.get? a=some o)(j0:J 0 hI)(r:VR pw w s.heap bad O vi v)(qr:qd all)(hw:Sa Qf (gm (ja w B lvl) k cx (tr T n scope.names (ns++xs) Ge) fr) all [] Z Q)(hRR:∀l D C h' tk Ra Ki O' Z' m,(∀a∈l,s.heap.get? a=none)->D∈l->C∈l->D≠C->Zc O O' s.heap h'->SR pw w B (Kb bad l) O' Z' h'->h'.PlainList D Ki.toArray->ya pw w h' (Kb bad l) O' Ra Ki->h'.Ns C m->Q (.ba Ra) Z'->RR (.ref D) C (.ok .next) {s with heap:=h',toks:=tk}):wpAny (model pw w) A (newList []) (λRa s₃=>wpAny (model pw w) A (newFunctionEnv scope env.globals cl [] env.qual none .none (some env)) (λOc s₄=>codeAny (model pw w) A (.compStart (.ListComp Ge [⟨tg,iter,De,0⟩] scope pos) 0 (.ref Ia) Ra {Oc with scope:=relabel scope env}) (RR Ra Oc.locals) s₄) E s₃) E {s with heap:=hI,toks:=iF}:=by
 refine wpAny_newObj_type (wpAny_newFunctionEnv so.cell (by intro y hy;simp at hy) (λh₁ iL dL=>?_) so.kind);dsimp only at iL dL⊢;generalize hH2:hI.push {cls:= .type "list",dict:=none,data:= .seq ([]:List Value).toArray}=H2 at iL dL⊢;have hC1:H2.objs.size=hI.objs.size+1:=by rw[<-hH2,Heap.size_push]
 have wz:∀a,hI.objs.size<=a->hI.get? a=none:=λa ha=>by
  cases e:hI.get? a with|none=>rfl|some o'=>exact absurd (o5 e) (Nat.not_lt.mpr ha)
 have fresh:∀a,hI.objs.size<=a->s.heap.get? a=none:=λa ha=>by
  cases e:s.heap.get? a with|none=>rfl|some o'=>have:=wz a ha;replace this:=k0 a o' e▸this;cases this
 have up1:∀a o,hI.get? a=some o->h₁.get? a=some o:=λa o e=>dL.extBut a o (H4 (C4 (o5 e) (Fb [_,_] 501583746008064 tO hC1))) (J1 _ (hH2▸J1 _ e));have up:∀a o,s.heap.get? a=some o->h₁.get? a=some o:=λa o e=>up1 a o (k0 a o e);have lvI:=W.live _ _ j0;have nDC:hI.objs.size≠H2.objs.size:=rr hC1<|H4 (Lm [_] 59793409 tO);have nDI:hI.objs.size∉ls:=λz=>by refine kE (lvI _ z) λo e=>?_;replace e:=wz _ (K0 _)▸e;exact Mine.ns e
 have nIC:H2.objs.size∉ls:=λz=>by refine kE (lvI _ z) λo e=>?_;rw[wz _ (by exact rr hC1<|Q1 _ _)]at e;exact Mine.ns e
 have lD:H2.get? hI.objs.size=some {cls:= .type "list",dict:=none,data:= .seq ([]:List Value).toArray}:=hH2▸J2 _ rfl;generalize hDa:hI.objs.size=D at*;generalize hCa:H2.objs.size=C at*;have lvI1:∀a∈ls,∃o,h₁.get? a=some o:=λa ha=>let⟨o,ho⟩:=lvI a ha;⟨o,up1 _ _ ho⟩;have lvD:h₁.PlainList D #[]:=⟨0,dL.extBut _ _ nDC (J1 _ lD)⟩;have lvC:∃o,h₁.get? C=some o:=let⟨o,_,_,ho,_⟩:=iL;⟨o,ho⟩;have hl:∀a∈D::C::ls,s.heap.get? a=none:=λa ha=>by
  rcases K1.mp ha with rfl|ha
  ·exact fresh _ ((K0 _))
  ·rcases K1.mp ha with rfl|ha
   ·exact fresh _ (Fb [_,_] 501583746008064 tO hC1)
   ·exact jL a ha
 have F0:=F.hide (l:=D::C::ls) hl up;have S0:=S.hide (l:=D::C::ls) hl up;have B1:ta B (Kb bad (D::C::ls)) h₁:=b0.hide (λa ha=>ro S (hl a ha)) (λa ha=>by
  rcases K1.mp ha with rfl|ha
  ·refine kE lvD λn e=>?_;clear lvD;exact⟨_,e⟩
  ·rcases K1.mp ha with rfl|ha
   ·exact lvC
   ·exact lvI1 a ha) up
 have cf:∀a,a∈D::C::ls->∀n,env.cells.lookup n≠some a:=λa ha n hn=>by
  refine db (F.YH n a hn) λv o ho _=>?_;replace ho:=hl a ha▸ho;exact Mine.ns ho
 have cf2:∀a,a∈D::C::ls->∀n,cl.lookup n≠some a:=λa ha n hn=>cf a ha n ((Jg Br λn c hc=>by exact Mine.ns hc).1 n a hn);have FC:=FR.comp F0 so Br iL (C:=C) (.inr (by simp)) (cf C (by simp));have f:CF w A B J D Ia ls Qf tg (compEnvC scope cl C env) (Kb bad (D::C::ls)) vi v all s.heap:=
  ⟨W,.inr (by simp),λa ha=> .inr (by simp[ha]),nDI,nDC,nIC,cf2 D (by simp),λn a ha=>cf2 a (by simp[ha]) n,hl D (by simp),jL,hl C (by simp)⟩
 have c0:∀tk,CI w B J D (compEnvC scope cl C env) scope.names (ns++xs) fr xs.length (Kb bad (D::C::ls)) vi v s.heap O s (xs.map λ_=>none) 0 [] [] O Z {s with heap:=h₁,toks:=tk}:=λtk=>
  ⟨(Jh h₁ tk rfl),by simp,W.frame _ _ _ j0 λb hb o e=>up1 _ o e,FC,S0,B1,Zc.of_keep up,VR.hide r hl up,lvD,rfl⟩
 have lT:∀tk,codeAny (model pw w) A (.compLoop (.ListComp Ge [⟨tg,iter,De,0⟩] scope pos) 0 (.ref Ia) (.ref D) (compEnvC scope cl C env)) (RR (.ref D) C) {s with heap:=h₁,toks:=tk}:=λtk=>
  GD (h0:=s.heap) I rm pz so ht f (c0 tk) qr hw λh' yC Ra Ki O' Z' m x S' pl rs hn q=>hRR (D::C::ls) D C h' yC Ra Ki O' Z' m hl (by simp) (by simp) nDC x S' pl rs hn q
 exact codeAny_compStart_list (lT _) (W.self 0 _ _ _ (W.frame _ _ _ j0 λb hb o e=>up1 _ o e) (lT _))
theorem zr{xs:List Str}(so:Cx scope sc ns xs):∀x∈scope.names,x.2= .local->scope.names.lookup x.1=some .local:=λx hx e=>(so.loc x hx e).2
theorem PB(F:FR w B env sc ns fr s.heap bad O){xs:List Str}(so:Cx scope sc ns xs):∃cl,Kg env.cells scope.names []=some cl:=
 Ph λn hn=>(F.aM n (so.free _ hn rfl).1).2
inductive Up(w:World)(B:Heap)(A:Around)(bad:ie)(O:Io)(s:Shared)(tg:PE)(step:(AH->Prop)->List AV->AH->Prop):Value->Shared->Prop
 |mk (vi:AV) (v:Value) (Ia:Addr) (ls:List Addr) (J:Nat->Heap->Prop) (hI:Heap) (iF:Nat) (Z1:AH) (O1:Io) (h1:Heap) (all:List AV) (Qf:AH->Prop) (x:Zc O O1 s.heap h1) (S:SR pw w B bad O1 Z1 h1) (W:It pw w A B vi v all Qf tg Ia ls J) (jL:∀a∈ls,h1.get? a=none)
  (k:∀a o,h1.get? a=some o->hI.get? a=some o) (j:J 0 hI) (r:VR pw w h1 bad O1 vi v) (qr:qd all) (hw:step Qf all Z1):Up w B A bad O s tg step (.ref Ia) {s with heap:=hI,toks:=iF}
@[elab_as_elim] theorem Up.k{step:(AH->Prop)->List AV->AH->Prop}{it:Value}(z:Up w B A bad O s tg step it s2)(g:∀vi v Ia ls J hI iF Z1 O1 h1 all Qf,Zc O O1 s.heap h1->SR pw w B bad O1 Z1 h1->It pw w A B vi v all Qf tg Ia ls J->(∀a∈ls,h1.get? a=none)->(∀a o,h1.get? a=some o->hI.get? a=some o)->J 0 hI->VR pw w h1 bad O1 vi v->qd all->step Qf all Z1->P (.ref Ia) {s with heap:=hI,toks:=iF}):P it s2:=by
 induction z with|mk vi v Ia ls J hI iF Z1 O1 h1 all Qf x S W jL k j r qr hw=>exact g vi v Ia ls J hI iF Z1 O1 h1 all Qf x S W jL k j r qr hw
theorem Lw(I:Ev T w B lvl n){xs:List Str}{k:Nat}{cx:X}(pz:(De=[]/\cx= .lit (.bool true))\/(∃c,De=[c]/\cx=tr T n scope.names (ns++xs) c)\/cx= .bad)(cL:Hp scope sc ns xs=true)(CB:Bf iter=true)(ht:Mj tg=some (xs,k))(rm:Rm lvl A)(F:FR w B env sc ns fr s.heap bad O)(S:SR pw w B bad O Z s.heap)(b0:ta B bad s.heap)(h:wpAny (model pw w) A (eval iter env) (λv s1=>wpAny (model pw w) A (pyIter v) (Up w B A bad O s tg λQf all Z1=>Sa Qf (gm (ja w B lvl) k cx (tr T n scope.names (ns++xs) Ge) fr) all [] Z1 Q) qb s1) qb s):wpAny (model pw w) A (eval (.ListComp Ge [⟨tg,iter,De,0⟩] scope pos) env) (aa pw w B bad O s Q) qb s:=by
 have so:=SA cL;refine kE (PB F so) λcl Br=>?_;rw[eval_ListComp];refine wpAny_comprehension_free (use:=none) rfl (ll CB) (cj Br) so.kind (zr so) (C2 h (λx s1 z=>C2 z (λit s2 z=>?_) λ_ _ e=>e) λ_ _ e=>e);refine Up.k z λvi v Ia ls J hI iF Z1 O1 h1 all Qf x1 S1 W jL k0 j0 r1 qr hw=>?_;have F1:=F.step S x1;have b1:=b0.ext x1;refine Lr (s:={s with heap:=h1,toks:=iF}) (RR:=λRa C=>compPost (model pw w) A qb none (aa pw w B bad O s Q) Ra C) I rm pz so ht Br F1 S1 b1 W jL k0 j0 r1 qr hw ?_;intro l D C h' tk Ra Ki O' Z' m hl hD hC hDC x S' pl rs hn q;refine(Na m hn (λh'' sb=>?_));have hB:∀a,Kb bad l a->B.get? a=none:=λa ha=>ha.elim (b1.off a) λhm=>ro S1 (hl a hm);have kk:∀a o,¬Kb bad l a->h'.get? a=some o->h''.get? a=some o:=λa o hb e=>sb.extBut a o (λz=>hb (.inr (z▸hC))) e;have wk:∀a,bad a->Kb bad l a:=λa ha=> .inl ha;have nD:¬bad D:=λz=>by refine kE (b1.live D z) λo e=>?_;rw[hl D hD]at e;exact Mine.ns e
 refine kE pl λm2 hp=>?_;clear pl;refine⟨.ba Ra,Z',O',h'',tk,rfl,x1.trans (Zc.under' (l:=l) (λ_ _ e=>e) x hl λa o ha e=>sb.extBut a o (λz=>ha (z▸hC)) e),S'.free wk hB kk,?_,q⟩;exact(Ob D Ki m2 rfl ⟨nD,λz=>(S'.off D z).2.1 (.inr hD)⟩ (sb.extBut D _ hDC hp) (ya.keeps (Cg wk kk) rs))
theorem LL(Bb:Bs T w B K)(I:Ev T w B lvl n){xs:List Str}{k:Nat}{cx:X}(pz:(De=[]/\cx= .lit (.bool true))\/(∃c,De=[c]/\cx=tr T n scope.names (ns++xs) c)\/cx= .bad)(cL:Hp scope sc ns xs=true)(CB:Bf iter=true)(ht:Mj tg=some (xs,k))(rm:Rm lvl A)(F:FR w B env sc ns fr s.heap bad O)(S:SR pw w B bad O Z s.heap)(b0:ta B bad s.heap)(h:dc (ja w B lvl) (.comp (tr T n scope.names (ns++xs) Ge) k (tr T n sc ns iter) cx) fr Z Q):wpAny (model pw w) A (eval (.ListComp Ge [⟨tg,iter,De,0⟩] scope pos) env) (aa pw w B bad O s Q) qb s:=by refine Lw I pz cL CB ht rm F S b0 (aa.bind (I.ex (Q:=λvi Z1=>Hb (sa Z1 vi) λall=>qd all/\Sa (λZ2=>sa Z2 vi=some all) (gm (ja w B lvl) k cx (tr T n scope.names (ns++xs) Ge) fr) all [] Z1 Q) rm F S b0 h) λvi y Z1 O1 h1 nc x1 S1 r1 q1=>?_);refine Df (ib q1) λall e qr hw=>nt (tg:=tg) (s:={s with heap:=h1,toks:=nc}) rm.han e S1 r1 λoI J W j0=>?_;exact(Up.mk (s:=s) vi y _ _ J _ nc Z1 O1 h1 all _ x1 S1 W (λa ha=>by exact rr (J0.mp ha)<|Nc _) (λa o e=>J1 _ e) j0 r1 qr hw)
end
theorem YF{α:Type}{Q:α->Shared->Prop}{a:α}(h:∀b,Q b s):wpAny (model prog w) A (pure a) Q E s:=A2 (h a)
set_option tactic.hygienic true in
theorem Ch(l:Addr)(items:Array Value)(n:Nat)(dct:Option Addr)(sl:Array (Option Value)):Meets (Builtin.«enumerate.__new__» ⟨[.type "enumerate",.ref l],[]⟩) (λ_ R s=>s.heap.get? l=some {cls:= .type "tuple",dict:=dct,data:= .seq items n,slots:=sl}/\R (.ok (.ret (.ref (s.heap.push {cls:= .type "tuple_iterator",data:= .fields #[.ref l,.int 0 0]}).objs.size))) {s with heap:=(s.heap.push {cls:= .type "tuple_iterator",data:= .fields #[.ref l,.int 0 0]}).push {cls:= .type "enumerate",data:= .fields #[.none,.bool false,.ref s.heap.objs.size,rawInt 0,.none,.none]}}):=
 .of_wp λprog w A R s h=>by
  obtain⟨hp,g,d,tk,os⟩:=s;refine kA h λhl h=>?_;have hsub:=sub_enumerate;have hL:Heap.IsTuple (Shared.heap ⟨hp,g,d,tk,os⟩) l items:=(Cb _ hl rfl n rfl)
  wp_walk using AutoSeq1.wpAny_loadPart' hl
  refine wpAny_stack_any λst=>YF λb=>?_;cases b
  ·wp_walk using AutoSeq1.wpAny_loadPart' hl,wpAny_pyIter_tuple hL
   exact(Na _ rfl h)
  ·wp_walk using AutoSeq1.wpAny_loadPart' hl,wpAny_pyIter_tuple hL
   exact(Na _ rfl h)
theorem Rh{l:Addr}{Q:Value->Shared->Prop}(hL:s.heap.IsTuple l items)(h:∀h',IsEnum h' (s.heap.objs.size+1) s.heap.objs.size 0 .none->h'.IsTupleIter s.heap.objs.size l 0->(∀b o,s.heap.get? b=some o->h'.get? b=some o)->Q (.ref (s.heap.objs.size+1)) {s with heap:=h'}):wpAny (model prog w) A (call (.type "enumerate") [.ref l]) Q E s:=by
 obtain⟨⟨c,dct,dt,sl⟩,hl,hc,n,hd⟩:=hL;replace hc:c= .type "tuple":=hc;replace hd:dt= .seq items n:=hd;subst hc hd;refine callType_new F.called_enumerate (N0 rfl) (F.typeCall_enumerate_1 _) (F.newCall_enumerate_1 _) (λobj=>F.args_object_init_2 obj _) F.entry_enumerate_new
  (Ch l items n dct sl) ⟨hl,?_⟩
 have hz:(s.heap.push {cls:= .type "tuple_iterator",data:= .fields #[.ref l,.int 0 0]}).objs.size=s.heap.objs.size+1:=Heap.size_push ..;show _/\_;refine rr hz ?_;have he:IsEnum ((s.heap.push {cls:= .type "tuple_iterator",data:= .fields #[.ref l,.int 0 0]}).push
   {cls:= .type "enumerate",data:= .fields #[.none,.bool false,.ref s.heap.objs.size,rawInt 0,.none,.none]}) (s.heap.objs.size+1) s.heap.objs.size 0 .none:=by
  have:=J2 (s.heap.push {cls:= .type "tuple_iterator",data:= .fields #[.ref l,.int 0 0]})
   (o:={cls:= .type "enumerate",data:= .fields #[.none,.bool false,.ref s.heap.objs.size,rawInt 0,.none,.none]}) rfl
  replace this:=hz▸this;exact this
 refine⟨(Na _ he rfl),h _ he (Kf _ (J1 _ (J2 _ rfl)) rfl rfl) λb o x=>J1 _ (J1 _ x)⟩
theorem Zj{it l:Addr}{items}{x:Value}{Q:Value->Shared->Prop}(hit:s.heap.IsTupleIter it l i)(hl:s.heap.IsTuple l items)(hx:items[i]? =some x)(hQ:∀h',h'.IsTupleIter it l (i+1)->Heap.SameBut it s.heap h'->Q x {s with heap:=h'}):wpAny (model prog w) A (Builtin.SmallTypes.nextOf (.ref it)) Q E s:=by
 refine Df (id hit) λo ho hc hd=>?_;refine VM hl λol hol _ nl hdl=>?_;clear hl;unfold Builtin.SmallTypes.nextOf;refine E0 (wpAny_callSpecial?_slot (name:=Str.ofString "__next__") hit.typeIs F.slot_tuple_iterator_next
  (wpAny_call_entry F.slot_tuple_iterator_next hit.typeIs F.entry_tuple_iterator_next ?_ (F.args_tuple_iterator_next_1 _)))
 show wpAny _ _ (field (.ref it) 0>>=_) _ _ s;refine E0 (wpAny_field ho hd (x:= .ref l) rfl ?_);show wpAny _ _ (if(Value.ref l==Value.none)=true then _ else _) _ _ s;refine rr (Y0 (show¬((Value.ref l==Value.none)=true)from Q2)) ?_;show wpAny _ _ (field (.ref it) 1>>=_) _ _ s;refine E0 (wpAny_field ho hd (x:= .int i 0) rfl ?_);show wpAny _ _ (seqItems? (.ref l)>>=_) _ _ s;refine E0 (wpAny_seqItems hol hdl ?_);simp only[Int.toNat_natCast,hx];refine E0 (wpAny_setField ho hd (by simp) (A2 (Na x rfl (A2 (hQ _ ?_ (Heap.SameBut.update ..))))));exact⟨_,Heap.get?_update_self _ ho (Obj.isFreed_of_fields (Obj.data_mapFields hd _)),(Obj.cls_mapFields ..).trans hc,by
  rw[Obj.data_mapFields hd];simp[rawInt]⟩
theorem ql{it l:Addr}{items}{Q:Value->Shared->Prop}(hh:A.handled=none)(hit:s.heap.IsTupleIter it l i)(hl:s.heap.IsTuple l items)(hx:items[i]? =none)(hE:∀h' e,Heap.ExtBut it s.heap h'->(∃o,h'.get? e=some o/\o.cls= .type "StopIteration")->E (.ref e) {s with heap:=h'}):wpAny (model prog w) A (Builtin.SmallTypes.nextOf (.ref it)) Q E s:=by
 refine Df (id hit) λo ho hc hd=>?_;refine VM hl λol hol _ nl hdl=>?_;clear hl;unfold Builtin.SmallTypes.nextOf;refine E0 (wpAny_callSpecial?_slot (name:=Str.ofString "__next__") hit.typeIs F.slot_tuple_iterator_next
  (wpAny_call_entry F.slot_tuple_iterator_next hit.typeIs F.entry_tuple_iterator_next ?_ (F.args_tuple_iterator_next_1 _)))
 show wpAny _ _ (field (.ref it) 0>>=_) _ _ s;refine E0 (wpAny_field ho hd (x:= .ref l) rfl ?_);show wpAny _ _ (if(Value.ref l==Value.none)=true then _ else _) _ _ s;refine rr (Y0 (show¬((Value.ref l==Value.none)=true)from Q2)) ?_;show wpAny _ _ (field (.ref it) 1>>=_) _ _ s;refine E0 (wpAny_field ho hd (x:= .int i 0) rfl ?_);show wpAny _ _ (seqItems? (.ref l)>>=_) _ _ s;refine E0 (wpAny_seqItems hol hdl ?_);simp only[Int.toNat_natCast,hx];refine E0 (wpAny_rule (E0 (wpAny_setField ho hd (by simp) ?_)));show wpAny _ _ (newExc (.type "StopIteration") []>>=_) _ _ _;refine E0 ?_;simp only[newExc,newTuple];refine E0 (wpAny_newObj_type ?_ (by size_fits));refine E0 (m:=firstArgMember _ _) (wpAny_of_eq (a:=Value.none) (by first|rfl|(simp only[firstArgMember];rfl)) ?_);refine wpAny_newObj_type ?_ (by size_fits);simp only[raiseNew];refine E0 (wpAny_handled ?_)
 first|refine rr (show A.in1.handled=none from hh) ?_|rw[hh]
 refine E0 (A2 (wpAny_throw ?_));exact hE _ _ (((Heap.SameBut.update ..).extBut.push _).push _) (Na _ (J2 _ rfl) rfl)
theorem UH(hh:A.handled=none)(it l:Addr)(pg:l≠it)(items:Array Value):Draws prog w A it [it,l] items.size (λi v=>items[i]? =some v) (λi h=>h.IsTupleIter it l i/\h.IsTuple l items)where
 live:=λ_ _ st=>let⟨o,ho,_⟩:=st.1;⟨o,ho⟩
 frame:=λ_ _ _ st hk=>⟨st.1.at λo e=>hk it (by simp) o e,st.2.at λo e=>hk l (by simp) o e⟩
 item:=λi s Q E hi st hQ=>Zj st.1 st.2 (x:=items[i]) (by simp[hi]) λh' hit' yr=>hQ _ h' s.toks (by simp[hi]) ⟨hit',st.2.extBut yr.extBut pg⟩ yr
 done:=λs Q E st hE=>ql hh st.1 st.2 (by simp) hE
theorem Ir:∀(xs:List AV)(k i:Nat),(Nh k xs)[i]? =xs[i]?.map λy=> .tup [.int ((k+i:Nat):Int),y]
 |[],_,_=>rfl|x::xs,k,0=>rfl|x::xs,k,i+1=>by
  simp only[Nh,List.getElem?_cons_succ,Ir xs (k+1) i];exact rr (show k+1+i=k+(i+1)from(o4 (Lm [_,_] 2055612580685177600 tO) (Lm [_,_] 1217125014124102400 tO))) rfl
theorem xD:∀(xs:List AV)(k:Nat),(Nh k xs).length=xs.length:=by
 intro xs;induction xs with|nil=>intro _;exact rfl|cons x xs ih=>intro k;simp only[Nh,P2,ih]
theorem QL(hh:A.handled=none){it e:Addr}{xs:List AV}{x1:Nat}(pg:e≠it)(hpi:p≠it)(hpe:p≠e):It prog w A B (.tup xs) (.ref p) (Nh 0 xs) Qf (.Tuple TH x1 pos) e [e,it] (λi h=>(∃gG,IsEnum h e it i gG)/\h.IsTupleIter it p i)where
 frame:=λi h h' st hk=>⟨st.1.imp λgG he=>hk e (by simp) _ he,st.2.at λo x=>hk it (by simp) o x⟩
 item:=λi x s Z O bad P Q E hP hx S lv hb r _ st q=>by
  refine Wf r λp' vs m e1 f ho hr=>?_;clear r;rcases e1 with⟨⟩
  rw[Ir]at hx;refine Xa (Option.map_eq_some_iff.mp hx) λy hy ez=>?_;clear hx;subst ez;refine Xa (Bn hr hy) λu hu hyu=>?_;obtain⟨⟨gG,he⟩,hit⟩:=st;have hi:i<vs.toArray.size:=(Array.getElem?_eq_some_iff.mp hu).1;have hT:s.heap.IsTuple p vs.toArray:=(Cb _ ho rfl _ rfl);refine wpAny_pyNext_enum_itemD (UH (A:=A.in1) hh it p hpi vs.toArray) he ⟨hit,hT⟩ hi pg (by simp[pg,i4 hpe]) λx' h' tk hPx Wg yr ht hz hk=>hP _ _ (wpAny_letOwnedTupleGo_enum Wg λh2 vt gL=>?_);rw[hu]at hPx;have e:=z0 hPx;clear hPx Wg;subst e;have Ge:e<s.heap.objs.size:=o5 he;have ilt:it<s.heap.objs.size:=by refine Xa hit λo ho _=>?_;clear hit;exact o5 ho
  have k2:Ek [e,it] s.heap h2:=λb o hb e'=>(gL.2 b (λz=>hb (by simp[z]))).trans (hk b o (λz=>hb (by simp[z])) (λz=>hb (by simp[z])) e');have nn:s.heap.get? s.heap.objs.size=none:=Nc _;refine q _ h2 (tk+1) (Ob s.heap.objs.size [.int i tk,u] 0 rfl ⟨λz=>?_,λz=>?_⟩ ((gL.2 _ (Nat.ne_of_gt Ge)).trans ht) ⟨_,_,rfl,⟨tk,by simp⟩,_,_,rfl,VR.keeps (Ek.kp k2 hb) hyu,rfl⟩) ⟨⟨_,by simpa using vt⟩,yr.1.at λo x=>(gL.2 _ (i4 pg)).trans x⟩ k2
  ·refine kE (lv _ z) λo e'=>?_;rw[nn]at e';exact ns e'
  ·refine bw (S.off _ z) λ_ _ o e'=>?_;rw[nn]at e';exact ns e'
 done:=λs Z O bad Q E S r _ st q=>by
  refine Wf r λp' vs m e1 f ho hr=>?_;clear r;rcases e1 with⟨⟩
  obtain⟨⟨gG,he⟩,hit⟩:=st;have l:=ya.length hr;have hT:s.heap.IsTuple p vs.toArray:=(Cb _ ho rfl _ rfl);have hs:(Nh 0 xs).length=vs.toArray.size:=by rw[xD,l];simp
  rw[hs]at hit he;exact wpAny_pyNext_enum_endD (UH (A:=A.in1) hh it p hpi vs.toArray) he ⟨hit,hT⟩ λh' hx=>q h' s.toks λb o hb y=>hx b o (λz=>hb (by simp[z])) y
 self:=λi s Q E st q=>by
  obtain⟨⟨gG,he⟩,_⟩:=st;exact wpAny_pyIter_enum he q
 live:=λi h st b hb=>by
  obtain⟨⟨gG,he⟩,o,ho,_⟩:=st;rcases K1.mp hb with rfl|hb
  ·exact⟨_,he⟩
  ·exact rr (J0.mp hb)<|⟨o,ho⟩
section
variable{T:Tb}{sc:Sc}{ns:List Str}
def FP:List AV->(AV->Prop)->Prop|[v],F=>F v|_,_=>False
theorem EP{vs:List AV}{G:AV->Prop}(h:FP vs G):∃v,vs=[v]/\G v:=by
 induction vs with
 |nil=>exact fE h|cons v r=>induction r with
  |nil=>exact(Na v rfl h)|cons=>exact fE h
theorem LH(Bb:Bs T w B K)(I:Ev T w B lvl n){xs:List Str}{k:Nat}{en:Str}{np ip:Pos}{cx:X}(hd:(en==("__debug__":Str))=false)(hk:Te sc en=1)(hg:T.glob en=some (.bi 7))(pz:(De=[]/\cx= .lit (.bool true))\/(∃c,De=[c]/\cx=tr T n scope.names (ns++xs) c)\/cx= .bad)(cL:Hp scope sc ns xs=true)(ht:Mj tg=some (xs,k))(lL:k≠0)(rm:Rm lvl A)(F:FR w B env sc ns fr s.heap bad O)(S:SR pw w B bad O Z s.heap)(b0:ta B bad s.heap)(h:Nf (ja w B lvl) (Gn T n sc ns [t]) fr Z λvs Z1=>FP vs λv=>Hb (Td v) λys=>Hb (sa Z1 (.qn ys)) λall=>qd all/\Sa (λZ2=>sa Z2 (.qn ys)=some all) (gm (ja w B lvl) k cx (tr T n scope.names (ns++xs) Ge) fr) all [] Z1 Q):wpAny (model pw w) A (eval (.ListComp Ge [⟨tg,.Call (.Name en np) [t] [] ip,De,0⟩] scope pos) env) (aa pw w B bad O s Q) qb s:=by
 obtain⟨tes,nc,tpos,rfl⟩:∃a b c,tg= .Tuple a b c:=by
  rcases IA ht with⟨_,_,_,_,e⟩|⟨es,m,p,e,_⟩
  ·exact absurd e lL
  ·exact(yj es m p e)
 refine Lw I pz cL rfl ht rm F S b0<|Call_Name rfl (TM Bb hd hk hg F S (Yw (first:=[]) Bb I (λhh _=>dC 7 _ hh) rm F S b0 h λQc vs Z1 O1 h1 tk x1 S1 b1 r1 g=>?_))
 ·refine Xa (EP g) λv ev g=>?_;subst ev;refine Xa (ib g) λys e g=>Df (ib g) λall ea qr hw=>?_;have ea:all=Nh 0 ys:=(z0 ea).symm;subst ea;have e:v= .tup ys:=by clear r1;rcases v with⟨⟩<;>first|((first|exact Mine.ns e|(have e:=z0 e;subst e;clear e));done)|((have e:=z0 e;clear ea qr hw;subst e;clear e);rfl)
  subst e;refine Je r1 λu r e2 ru e3=>?_;clear r1;rcases e3 with⟨⟩
  have e2:vs=[u]:=e2;subst e2;have ru':=ru;refine Qa ru λq us m ez tz=>?_;clear ru;clear e2;subst ez;refine Mm tz λfz ho hv=>?_;clear tz;have hT:h1.IsTuple q us.toArray:=(Cb _ ho rfl _ rfl);have qlt:q<h1.objs.size:=o5 ho;refine Rh (s:={s with heap:=h1,toks:=tk}) hT λh2 he hit kL=>wpAny_pyIter_enum he<|(Up.mk (s:=s) _ _ _ _ _ h2 tk Z1 O1 h1 _ _ x1 S1 (QL rm.han (p:=q) (it:=h1.objs.size) (e:=h1.objs.size+1) (Nat.succ_ne_self _) (H4 qlt) (H4 (Nat.lt_succ_of_lt qlt))) ?_ kL ⟨⟨_,he⟩,hit⟩ ru' qr hw);intro a ha;cases ea:h1.get? a with
  |none=>rfl|some o=>
   have:=o5 ea;simp only[K1,y4,or_false]at ha;rcases ha with rfl|rfl
   ·exact absurd this (Nat.not_lt.mpr (Y4 _))
   ·exact absurd this (Nat.lt_irrefl _)
end
section
variable{T:Tb}{sc:Sc}{ns:List Str}
theorem Jl{f:PE->X}(De:List PE):(De=[]/\oD f De= .lit (.bool true))\/(∃c,De=[c]/\oD f De=f c)\/oD f De= .bad:=by
 cases De with
 |nil=>exact .inl ⟨rfl,rfl⟩|cons c r=>cases r with
  |nil=>exact .inr (.inl (Na c rfl rfl))|cons=>exact .inr (.inr rfl)
section
variable{G:Prop}{α:Type}
theorem Ri{o:Option α}{f:α->X}(h:dc W (Vj o f) fr Z Q)(k:∀a,o=some a->dc W (f a) fr Z Q->G):G:=by
 cases o with|none=>exact fE h|some a=>exact k a rfl h
theorem As [Decidable c]{x:X}(h:dc W (if c then x else .bad) fr Z Q)(k:c->dc W x fr Z Q->G):G:=by
 by_cases hc:c
 ·rw[X0 hc]at h;exact k hc h
 ·rw[Y0 hc]at h;exact fE h
theorem yA{b:Bool}{x:X}(h:dc W (if b=true then .bad else x) fr Z Q)(k:b=false->dc W x fr Z Q->G):G:=by
 cases b with|true=>exact fE h|false=>exact k rfl h
end
theorem yD(h:Ml T sc it=some t):∃en np ip,it= .Call (.Name en np) [t] [] ip/\(en==("__debug__":Str))=false/\Te sc en=1/\T.glob en=some (.bi 7):=by
 unfold Ml at h;refine ga h λp hp h2=>ga h2 λen hn h3=>Uc h3 λhc h4=>?_;clear h h2 h3;refine kE (sI hp) λip ez=>?_;clear hp;subst ez;obtain⟨f,as,ks⟩:=p;refine kE (Xj hn) λnp hn=>?_;subst hn;have e1:ks=[]:=List.isEmpty_iff.mp hc.2.2.2.1;clear hn;subst e1;refine kE (List.length_eq_one_iff.mp hc.2.2.2.2) λa ha=>?_;subst ha;have h5:a=t:=z0 h4;clear h4;subst h5;refine(Ob en np ip rfl hc.1 hc.2.1 ?_);have hg:=hc.2.2.1;generalize T.glob en=o at hg;cases o with
 |none=>exact Mine.ns hg|some g=>cases g with
  |bi k=>exact C0 (λk=>some (GV.bi k)) (z0 hg)|_=>exact Mine.ns hg
theorem VJ(t:PE):∃x,Gn T n sc ns [t]=[x]:=by
 cases n with
 |zero=>exact⟨_,rfl⟩|succ n=>
  show∃x,(if[t].all Qd=true then[tr T n sc ns t]else[.bad])=[x];split
  ·exact⟨_,rfl⟩
  ·exact⟨_,rfl⟩
theorem VU(Bb:Bs T w B K){id:Str}{p:Pos}(F:FR w B env sc ns fr s.heap bad O)(S:SR pw w B bad O Z s.heap)(b0:ta B bad s.heap)(h:dc (ja w B lvl) (Hn T sc ns id) fr Z Q):wpAny (model pw w) A (eval (.Name id p) env) (aa pw w B bad O s Q) qb s:=by
 unfold Hn at h;refine yA h λhd h=>?_;by_cases hk:Te sc id=0
 ·rw[X0 hk]at h;exact Ri h λi hs h=>Xa (ib h) λa e q=>aP hd hk hs (Option.join_eq_some_iff.mp e) F S q
 ·rw[Y0 hk]at h;refine As h λhk h=>Ri h λg hg h=>?_;cases g with|val v=>exact bP Bb hd hk hg F S b0 h|fn=>exact fE h|bi=>exact fE h
theorem YU(Bb:Bs T w B K)(I:Ev T w B lvl n){f:PE}{args:List PE}(rm:Rm lvl A)(F:FR w B env sc ns fr s.heap bad O)(S:SR pw w B bad O Z s.heap)(b0:ta B bad s.heap)(h:dc (ja w B lvl) (Jn T sc (λe=>tr T n sc ns e) (λes=>Gn T n sc ns es) f args pos) fr Z Q):wpAny (model pw w) A (eval (.Call f args [] pos) env) (aa pw w B bad O s Q) qb s:=by
 unfold Jn at h;cases hn:Yj f with
 |some x=>
  rw[hn]at h;refine kE (Xj hn) λp ez=>?_;clear hn;subst ez;refine yA h λhd h=>As h λhk h=>Ri h λg hg h=>?_;cases g with|val=>exact fE h|fn a=>exact NL Bb I hd hk hg rm F S b0 h|bi k=>exact bV Bb I hd hk hg rm F S b0 h
 |none=>rw[hn]at h;refine Ri h λp hp h=>As h λhc h=>Ri h λk hk h=>?_;rw[sM hp];exact HL Bb I hc.1 hc.2.1 hc.2.2 hk rm F S b0 h
theorem fO{i:PE}(h:LC i=none)(a b c:Option PE)(d:Pos):i≠ .Slice a b c d:=λe=>by
 rw[e]at h;cases h
theorem UU(Bb:Bs T w B K)(I:Ev T w B lvl n){v i:PE}(rm:Rm lvl A)(F:FR w B env sc ns fr s.heap bad O)(S:SR pw w B bad O Z s.heap)(b0:ta B bad s.heap)(h:dc (ja w B lvl) (Tu (λe=>tr T n sc ns e) v i) fr Z Q):wpAny (model pw w) A (eval (.Subscript v i pos) env) (aa pw w B bad O s Q) qb s:=by
 unfold Tu at h;cases hs:LC i with
 |some p=>
  rw[hs]at h;refine kE (lK hs) λsp ez=>?_;clear hs;subst ez;obtain⟨lo,hi,st⟩:=p;refine As h λhn h=>?_;cases st with|none=>exact IH Bb I rm F S b0 h|some=>exact Lf hn
 |none=>rw[hs]at h;exact TP Bb I (fO hs) rm F S b0 h
theorem XU(Bb:Bs T w B K)(I':∀m,m+1=n->Ev T w B lvl m){ks:List (Option PE)}{vs:List PE}(rm:Rm lvl A)(F:FR w B env sc ns fr s.heap bad O)(S:SR pw w B bad O Z s.heap)(b0:ta B bad s.heap)(h:dc (ja w B lvl) (Vj (Yi ks) λas=>if as.length=vs.length/\vs.length<=15 then .dct m as (Gn T n sc ns vs)else .bad) fr Z Q):wpAny (model pw w) A (eval (.Dict ks vs pos) env) (aa pw w B bad O s Q) qb s:=by
 refine Ri h λas hk h=>As h λhc h=>?_;have vP:=Fn (n:=n) h;cases n with|zero=>exact fE h|succ n=>refine KL (m:=m) Bb (I' n rfl) hk hc.1 hc.2 rm F S b0 ?_;have h:Nf (ja w B lvl) (if vs.all Qd=true then vs.map (λe=>tr T n sc ns e)else[.bad]) fr Z _:=h;rw[X0 vP]at h;exact h
theorem WU(Bb:Bs T w B K)(I:Ev T w B lvl n){gens:List Comprehension}(rm:Rm lvl A)(F:FR w B env sc ns fr s.heap bad O)(S:SR pw w B bad O Z s.heap)(b0:ta B bad s.heap)(h:dc (ja w B lvl) (eG gens λg=>if g.is_async=0 then Vj (Mj g.target) λp=>if Hp scope sc ns p.1=true/\Bf g.iter=true then .comp (tr T n scope.names (ns++p.1) Ge) p.2 (ZQ T sc (λe=>tr T n sc ns e) (λes=>Gn T n sc ns es) p.2 g.iter) (oD (λe=>tr T n scope.names (ns++p.1) e) g.ifs)else .bad else .bad) fr Z Q):wpAny (model pw w) A (eval (.ListComp Ge gens scope pos) env) (aa pw w B bad O s Q) qb s:=by
 cases gens with
 |nil=>exact fE h|cons g r=>
  cases r with
  |cons=>exact fE h|nil=>
   obtain⟨tg,it,De,isa⟩:=g;refine As h λh0 h=>Ri h λp ht h=>As h λhc h=>?_;have h0:isa=0:=h0;subst h0;obtain⟨xs,k⟩:=p;clear h0;cases he:Ml T sc it with
   |none=>unfold ZQ at h;rw[he]at h;exact LL Bb I (Jl _) hc.1 hc.2 ht rm F S b0 h|some t=>
    unfold ZQ at h;rw[he]at h;refine Qa (yD he) λen np ip ez tz=>?_;clear he;subst ez;refine Mm tz λhd hk hg=>?_;clear tz;by_cases lL:k=0
    ·have h:dc (ja w B lvl) (if k=0 then .bad else .af (eG (Gn T n sc ns [t]) id)) fr Z _:=h;rw[X0 lL]at h;exact fE h
    ·have h:dc (ja w B lvl) (if k=0 then .bad else .af (eG (Gn T n sc ns [t]) id)) fr Z _:=h;rw[Y0 lL]at h;refine LH Bb I hd hk hg (Jl _) hc.1 ht lL rm F S b0<|kE (VJ (T:=T) (n:=n) (sc:=sc) (ns:=ns) t) λy hy=>?_;rw[hy]at h⊢;exact h
theorem nN(Bb:Bs T w B K)(I:Ev T w B lvl n)(I':∀m,m+1=n->Ev T w B lvl m)(rm:Rm lvl A)(F:FR w B env sc ns fr s.heap bad O)(S:SR pw w B bad O Z s.heap)(b0:ta B bad s.heap)(h:dc (ja w B lvl) (tr T (n+1) sc ns e) fr Z Q):wpAny (model pw w) A (eval e env) (aa pw w B bad O s Q) qb s:=by
 cases e with
 |Constant=>exact KH S h|Name=>exact VU Bb F S b0 h|BoolOp=>rw[arm_eval_BoolOp];exact I.bo rm F S b0 h|BinOp=>exact Ri h λo ho h=>MH I ho rm F S b0 h|UnaryOp op=>
  cases op with|Not=>exact Jw I rm F S b0 h|USub=>exact Iw I rm F S b0 h|_=>exact fE h
 |IfExp=>exact JH I rm F S b0 h|Compare l Qs rs p=>
  cases Qs with
  |nil=>exact fE h|cons op Qs=>cases rs with
   |nil=>exact fE h|cons r rs=>cases Qs with
    |nil=>cases rs with
     |nil=>exact yA h λhm h=>Kw Bb I hm rm F S b0 h|cons=>exact fE h
    |cons RC Qs=>cases rs with
     |nil=>exact fE h|cons r2 rs=>cases Qs with
      |nil=>cases rs with
       |nil=>exact yA h λhm h=>ML Bb I hm rm F S b0 h|cons=>exact fE h
      |cons=>exact fE h
 |Call f as ks p=>
  cases ks with|nil=>exact YU Bb I rm F S b0 h|cons=>exact fE h
 |Attribute=>exact As h λhb h=>Ri h λk hk h=>OL Bb I hb hk rm F S b0 h|Subscript=>exact UU Bb I rm F S b0 h|Tuple=>exact HH I rm F S b0 h|List=>exact JL I rm F S b0 h|Dict=>exact XU Bb I' rm F S b0 h|ListComp=>exact WU Bb I rm F S b0 h|_=>exact fE h
noncomputable def HR:PE->Bool| .BoolOp _ _ _=>true| .UnaryOp op _ _=>decide (op= .Not)| .IfExp _ _ _ _=>true| .Compare _ _ _ _=>true|_=>false
theorem xg{α:Type}{o:Option α}{f:α->X}(h:∀a,zf (f a)=true):zf (Vj o f)=true:=by
 cases o with|none=>rfl|some a=>exact h a
theorem km [Decidable c]{x:X}(h:zf x=true):zf (if c then x else .bad)=true:=by
 by_cases hc:c
 ·rw[X0 hc];exact h
 ·rw[Y0 hc];rfl
theorem WF [Decidable c]{x:X}(h:zf x=true):zf (if c then .bad else x)=true:=by
 by_cases hc:c
 ·rw[X0 hc];rfl
 ·rw[Y0 hc];exact h
theorem eF(h:HR e=false):zf (tr T (n+1) sc ns e)=true:=by
 cases e with
 |BoolOp|IfExp|Compare=>cases h|UnaryOp op=>cases op with
  |Not=>cases h|_=>rfl
 |Constant c=>clear h;rcases c with⟨⟩<;>rfl
 |Name id=>
  show zf (Hn T sc ns id)=true;unfold Hn;refine WF ?_;by_cases hk:Te sc id=0
  ·rw[X0 hk];exact xg λ_=>rfl
  ·rw[Y0 hk];exact km (xg λg=>by rcases g with⟨⟩<;>rfl)
 |BinOp=>exact xg λ_=>rfl|Call f as ks p=>clear h;cases ks with
  |cons=>rfl|nil=>
   show zf (Jn T sc (λe=>tr T n sc ns e) (λes=>Gn T n sc ns es) f as p)=true;unfold Jn;cases Yj f with|some=>exact WF (km (xg λg=>by rcases g with⟨⟩<;>rfl))|none=>exact xg λ_=>km (xg λ_=>rfl)
 |Attribute=>exact km (xg λ_=>rfl)|Subscript v i p=>
  show zf (Tu (λe=>tr T n sc ns e) v i)=true;unfold Tu;cases LC i with|some=>exact km rfl|none=>rfl
 |Dict=>exact xg λ_=>km rfl|ListComp e gens=>clear h;cases gens with
  |nil=>rfl|cons g r=>cases r with
   |nil=>exact km (xg λ_=>km rfl)|cons=>rfl
 |_=>rfl
theorem NE{G:Prop}{b:Bool}{x:X}(h:Pb W (if b=true then .bad else x) fr Z R)(k:b=false->Pb W x fr Z R->G):G:=by
 cases b with|true=>exact fE h|false=>exact k rfl h
theorem TU(Bb:Bs T w B K)(I:Ev T w B lvl n)(I':∀m,m+1=n->Ev T w B lvl m)(rm:Rm lvl A)(F:FR w B env sc ns fr s.heap bad O)(S:SR pw w B bad O Z s.heap)(b0:ta B bad s.heap)(h:Pb (ja w B lvl) (tr T (n+1) sc ns e) fr Z R):wpAny (model pw w) A (isTrue e env (eval e env)) (Nb w B bad O s R) qb s:=by
 have pl:HR e=false->wpAny (model pw w) A (eval e env) (λv s'=>wpAny (model pw w) A (truthy v) (Nb w B bad O s R) qb s') qb s:=λhp=>
  YJ (nN Bb I I' rm F S b0 (Ny _ _ _ _ (eF hp) h))
 cases e with
 |BoolOp=>exact wpAny_isTrue_BoolOp (I.bt rm F S b0 h)|UnaryOp op x pos=>cases op with
  |Not=>exact SN I rm F S b0 h|_=>exact wpAny_isTrue_value (pl rfl)
 |IfExp=>exact rF I rm F S b0 h|Compare l Qs rs pos=>
  clear pl;cases Qs with
  |nil=>exact fE h|cons op Qs=>cases rs with
   |nil=>exact fE h|cons r rs=>cases Qs with
    |nil=>cases rs with
     |nil=>exact NE h λhm h=>Wu Bb I hm rm F S b0 h|cons=>exact fE h
    |cons RC Qs=>cases rs with
     |nil=>exact fE h|cons r2 rs=>cases Qs with
      |nil=>cases rs with
       |nil=>exact NE h λhm h=>ZJ Bb I hm rm F S b0 h|cons=>exact fE h
      |cons=>exact fE h
 |_=>exact wpAny_isTrue_value (pl rfl)
theorem ev(Bb:Bs T w B K):∀n,Ev T w B lvl n/\∀m,m+1=n->Ev T w B lvl m
 |0=>⟨⟨λrm F S b0 h=>fE h,λrm F S b0 h=>fE h,λrm F S b0 h=>fE h,λrm F S b0 h=>fE h,λrm F S b0 h=>fE h⟩,λm h=>nomatch h⟩|n+1=>by
  refine kA (ev Bb n) λI I'=>?_;exact⟨⟨λrm F S b0 h=>nN Bb I I' rm F S b0 h,λrm F S b0 h=>TU Bb I I' rm F S b0 h,λrm F S b0 h=>cV I rm F S b0 h,λrm F S b0 h=>aV I rm F S b0 h,λrm F S b0 h=>ZU I rm F S b0 h⟩,λm h=>by rcases h with⟨⟩;exact I⟩
end
structure XS(env:Env)(O O':Io)(h h':Heap):Prop where
 more:∃n,O'=O++n/\∀a,a∈uc n->h.get? a=none
 keep:∀a o,h.get? a=some o->a∉uc O->a≠env.locals->(∀n,env.cells.lookup n≠some a)->h'.get? a=some o
 live:∀a o,h.get? a=some o->∃o',h'.get? a=some o'
theorem XS.of(x:Zc O O' h h'):XS env O O' h h':=⟨x.more,λa o e hi _ _=>x.keep a o e hi,x.live⟩
theorem XS.refl:XS env O O h h:=XS.of Zc.refl
theorem XS.trans(x:XS env O O1 h h1)(y:XS env O1 O2 h1 h2):XS env O O2 h h2:=by
 refine Xa x.more λn ez hn=>?_;subst ez;refine Xa y.more λm ez hm=>?_;subst ez;refine⟨(Na (n++m) (by simp) (λa ha=>?_)),λa o e hi hl hc=>?_,λa o e=>?_⟩
 ·rw[Za]at ha;rcases D2.mp ha with ha|ha
  ·exact hn a ha
  ·cases e:h.get? a with|none=>rfl|some o=>refine kE (x.live a o e) λo' e'=>?_;rw[hm a ha]at e';exact ns e'
 ·refine y.keep a o (x.keep a o e hi hl hc) (λz=>?_) hl hc;rw[Za]at z;rcases D2.mp z with z|z
  ·exact hi z
  ·rw[hn a z]at e;exact ns e
 ·exact kE (x.live a o e) λo' e'=>y.live a o' e'
theorem ic.xs{sc:Sc}{ns:List Str}(st:ic w B env sc ns fr bad O s s'):XS env O O s.heap s'.heap:=
 ⟨(Na [] (by simp) (by simp[uc])),λa o e _ hl hc=>st.keep a o hl (λn hn=>absurd hn (hc n)) e,st.live⟩
def xz(w:World)(h:Heap)(bad:ie)(O:Io):Flow->Fl->Prop| .next,.next=>True| .brk,.brk=>True| .cont,.cont=>True| .ret v,.ret a=>VR pw w h bad O a v|_,_=>False
inductive Ma(w:World)(B:Heap)(env:Env)(sc:Sc)(ns:List Str)(bad:ie)(O:Io)(s:Shared)(Q:SQ)(f:Flow)(s':Shared):Prop|mk (fl:Fl) (Ub:Fr) (Z':AH) (O':Io) (h':Heap) (tk:Nat) (e:s'={s with heap:=h',toks:=tk}) (x:XS env O O' s.heap h') (S:SR pw w B bad O' Z' h') (F:FR w B env sc ns Ub h' bad O') (o:xz w h' bad O' f fl) (q:Q fl Ub Z')
section
variable{T:Tb}{sc:Sc}{ns:List Str}{Q:SQ}
theorem ta.xs(b:ta B bad h)(x:XS env O O' h h'):ta B bad h':=⟨λa ha=>let⟨o,e⟩:=b.live a ha;x.live a o e,b.off⟩
theorem Ma.trans{f:Flow}(x:XS env O O1 s.heap h1)(y:Ma w B env sc ns bad O1 {s with heap:=h1,toks:=tk} Q f s'):Ma w B env sc ns bad O s Q f s':=by obtain⟨fl,Ub,Z',O',h',yC,e0,e,S,F,o,q⟩:=y;exact⟨fl,Ub,Z',O',h',yC,e0,x.trans e,S,F,o,q⟩
theorem Ma.bind{t:Sem Flow}{P:Flow->Shared->Prop}(h:wpAny (model pw w) A t (Ma w B env sc ns bad O s Q) E s0)(k:∀f fl Ub Z' O' h' tk,XS env O O' s.heap h'->SR pw w B bad O' Z' h'->FR w B env sc ns Ub h' bad O'->xz w h' bad O' f fl->Q fl Ub Z'->P f {s with heap:=h',toks:=tk}):wpAny (model pw w) A t P E s0:=
 C2 h (λf s' z=>match s',z with|_,⟨fl,Ub,Z',O',h',tk,rfl,x,S,F,o,q⟩=>k f fl Ub Z' O' h' tk x S F o q) λ_ _ z=>z
theorem Ma.lift{t:Sem Flow}(x:XS env O O1 s.heap h1)(y:wpAny (model pw w) A t (Ma w B env sc ns bad O1 {s with heap:=h1,toks:=tk} Q) qb {s with heap:=h1,toks:=tk}):wpAny (model pw w) A t (Ma w B env sc ns bad O s Q) qb {s with heap:=h1,toks:=tk}:=C2 y (λ_ _ z=>Ma.trans x z) λ_ _ z=>z
theorem ic.sr(F:FR w B env sc ns fr s.heap bad O)(S:SR pw w B bad O Z s.heap)(b0:ta B bad s.heap)(st:ic w B env sc ns Ub bad O s s'):SR pw w B bad O Z s'.heap:=
 S.free (λ_ h=>h) b0.off λa o hb e=>ic.nb (F:=F) st a o hb e
theorem JC(I:Ev T w B lvl n)(rm:Rm lvl A)(F:FR w B env sc ns fr s.heap bad O)(S:SR pw w B bad O Z s.heap)(b0:ta B bad s.heap)(h:Wm (ja w B lvl) (.ret (tr T n sc ns e)) fr Z Q):wpAny (model pw w) A (exec (.Return (some e) pos) env) (Ma w B env sc ns bad O s Q) qb s:=by refine wpAny_Return_some (aa.bind (I.ex rm F S b0 h) λa v Z1 O1 h1 nc x1 S1 r1 q1=>?_);exact⟨.ret a,fr,Z1,O1,h1,nc,rfl,XS.of x1,S1,F.step S x1,r1,q1⟩
theorem UC(e:uo a=true)(r:VR pw w h bad O a v):∀p,v≠ .ref p:=by
 cases a with
 |none|bool=>exact λp z=>nomatch (show _=_ from r).symm.trans z
 |int|str=>exact λp z=>by refine kE r λt ez=>?_;clear r;subst ez;exact nomatch z
 |_=>exact Lf e
end
noncomputable def Yc(sc:Sc)(x:Str):Bool:=decide (sc.lookup x=some .local)||decide (sc.lookup x=some .cell)
noncomputable def Ym:PE->Bool| .ListComp _ _ _ _=>false| .SetComp _ _ _ _=>false| .DictComp _ _ _ _ _=>false|_=>true
theorem Qe{sc:Sc}{x:Str}(h:Yc sc x=true):sc.lookup x=some .local\/sc.lookup x=some .cell:=by unfold Yc at h;exact(Bool.or_eq_true_iff.mp h).imp N0 N0
section
variable{T:Tb}{sc:Sc}{ns:List Str}{Q:SQ}
theorem jK(I:Ev T w B lvl n)(hc:Ym e=true)(rm:Rm lvl A)(F:FR w B env sc ns fr s.heap bad O)(S:SR pw w B bad O Z s.heap)(b0:ta B bad s.heap)(h:Wm (ja w B lvl) (.exp (tr T n sc ns e)) fr Z Q):wpAny (model pw w) A (exec (.Expr e pos) env) (Ma w B env sc ns bad O s Q) qb s:=by
 have hi:interactive env=false:=by unfold interactive;refine rr F.kind ?_;rfl
 refine wpAny_Expr (C2 (I.ex rm F S b0 h) (λv s1 z=>?_) λ_ _ z=>z) hi (by clear h;rcases e with⟨⟩<;>first|rfl|(exact Lf hc;done));obtain⟨a,Z1,O1,h1,nc,rfl,x1,S1,r1,hn,q1⟩:=z;have hv:=UC hn r1;have fin:Ma w B env sc ns bad O s Q .next {s with heap:=h1,toks:=nc}:=⟨.next,fr,Z1,O1,h1,nc,rfl,XS.of x1,S1,F.step S x1,trivial,q1⟩;clear r1;rcases v with⟨⟩<;>first|exact(hv _ rfl).elim|exact fin
theorem mv(I:Ev T w B lvl n){x:Str}{p:Pos}(hs:swapsWith e (some (.Name x p)) pos.line env=pure false)(hx:Yc sc x=true)(hi:pb ns x=some i)(rm:Rm lvl A)(F:FR w B env sc ns fr s.heap bad O)(S:SR pw w B bad O Z s.heap)(b0:ta B bad s.heap)(h:Wm (ja w B lvl) (.asg i (tr T n sc ns e)) fr Z Q):wpAny (model pw w) A (exec (.Assign [.Name x p] e pos) env) (Ma w B env sc ns bad O s Q) qb s:=by refine wpAny_Assign_Name (C2 (I.ex rm F S b0 h) (λv s1 z=>?_) λ_ _ z=>z) hs;obtain⟨a,Z1,O1,h1,nc,rfl,x1,S1,r1,q1⟩:=z;have F1:=F.step S x1;refine oh (s:={s with heap:=h1,toks:=nc}) F1 (Qe hx) hi r1 λs2 st=>?_;have S2:=ic.sr F1 S1 (b0.ext x1) st;have xs:=st.xs;refine Cp st.sh λh2 jg ez=>?_;subst ez;exact⟨.next,_,Z1,O1,h2,jg,rfl,(XS.of x1).trans xs,S2,st.fr,trivial,q1⟩
theorem jS(I:Ev T w B lvl n){a:List Stmt}{ca cb:List C}(rm:Rm lvl A)(F:FR w B env sc ns fr s.heap bad O)(S:SR pw w B bad O Z s.heap)(b0:ta B bad s.heap)(ha:∀{fr Z s O Q},FR w B env sc ns fr s.heap bad O->SR pw w B bad O Z s.heap->ta B bad s.heap->oe (ja w B lvl) ca fr Z Q->wpAny (model pw w) A (execs a env) (Ma w B env sc ns bad O s Q) qb s)(hb:∀{fr Z s O Q},FR w B env sc ns fr s.heap bad O->SR pw w B bad O Z s.heap->ta B bad s.heap->oe (ja w B lvl) cb fr Z Q->wpAny (model pw w) A (execs b env) (Ma w B env sc ns bad O s Q) qb s)(h:Wm (ja w B lvl) (.za (tr T n sc ns t) ca cb) fr Z Q):wpAny (model pw w) A (exec (.If t a b pos) env) (Ma w B env sc ns bad O s Q) qb s:=by
 refine wpAny_If (Nb.bind (I.te rm F S b0 h) λu Z1 O1 h1 nc x1 S1 q1=>?_);have F1:=F.step S x1;have b1:=b0.ext x1;induction u with|true=>exact Ma.lift (XS.of x1) (ha (s:={s with heap:=h1,toks:=nc}) F1 S1 b1 q1)|false=>exact Ma.lift (XS.of x1) (hb (s:={s with heap:=h1,toks:=nc}) F1 S1 b1 q1)
end
section
variable{T:Tb}{sc:Sc}{ns:List Str}{Q:SQ}
theorem FR.free(F:FR w B env sc ns fr h1 bad' O)(wk:∀a,bad a->bad' a)(lb:bad env.locals)(cb:∀n c,env.cells.lookup n=some c->bad c)(k:∀a o,(¬bad' a\/a=env.locals\/∃n,env.cells.lookup n=some a)->h1.get? a=some o->h'.get? a=some o):FR w B env sc ns fr h' bad O:=by
 have kk:Kp h1 h' bad' bad O O:=Cg wk λa o hb e=>k a o (.inl hb) e;refine⟨F.kind,F.glob,F.wm,F.names,F.len,λn i a h0 h1 h2=>Xa (F.val n i a h0 h1 h2) λv hv hr=>(Na v (hv.step λa o ha e=>k a o (.inr ha) e) (VR.keeps kk hr)),F.loc,F.cell,F.aM,F.inj,F.sep,λn c hc=>?_,lb,cb,?_⟩
 ·exact db (F.YH n c hc) λv o ho hd=>⟨v,o,k _ o (.inr (.inr ⟨n,hc⟩)) ho,hd⟩
 ·exact kE F.RK λm hm=>⟨m,Ns.kept hm λo e=>k _ o (.inr (.inl rfl)) e⟩
theorem zF(I:Ev T w B lvl n){xs:List Str}{k:Nat}{cx:X}{x:Str}{p:Pos}(pz:(De=[]/\cx= .lit (.bool true))\/(∃c,De=[c]/\cx=tr T n scope.names (ns++xs) c)\/cx= .bad)(cL:Hp scope sc ns xs=true)(CB:Bf iter=true)(ht:Mj tg=some (xs,k))(ZM:swapsWith (.ListComp Ge [⟨tg,iter,De,0⟩] scope Oh) (some (.Name x p)) pos.line env=pure true)(hx:Yc sc x=true)(hi:pb ns x=some i)(rm:Rm lvl A)(F:FR w B env sc ns fr s.heap bad O)(S:SR pw w B bad O Z s.heap)(b0:ta B bad s.heap)(h:wpAny (model pw w) A (eval iter env) (λv s1=>wpAny (model pw w) A (pyIter v) (Up w B A bad O s tg λQf all Z1=>Sa Qf (gm (ja w B lvl) k cx (tr T n scope.names (ns++xs) Ge) fr) all [] Z1 λa Z1=>Q .next (fr.set i (some a)) Z1) qb s1) qb s):wpAny (model pw w) A (exec (.Assign [.Name x p] (.ListComp Ge [⟨tg,iter,De,0⟩] scope Oh) pos) env) (Ma w B env sc ns bad O s Q) qb s:=by
 have so:=SA cL;refine kE (PB F so) λcl Br=>rr (exec_Assign_Name_used _ _ _ _ ZM)<|E0 (wpAny_standAt (E0 ?_));show wpAny _ A (do let _<-comprehension (.ListComp Ge [⟨tg,iter,De,0⟩] scope Oh) scope env _ (newList []) false (eval iter env) (some (assign (.Name x p) env))) _ _ s;refine E0 (C2 (wpAny_comprehension_free (use:=some (assign (.Name x p) env)) (Q:=λ_ s'=>Ma w B env sc ns bad O s Q .next s') rfl (ll CB) (cj Br) so.kind (zr so)
  (C2 h (λy s1 z=>C2 z (λit s2 z=>?_) λ_ _ e=>e) λ_ _ e=>e)) (λ_ s' hq=>A2 (A2 hq)) λ_ _ e=>e)
 refine Up.k z λvi v Ia ls J hI iF Z1 O1 h1 all Qf x1 S1 W jL k0 j0 r1 qr hw=>?_;have F1:=F.step S x1;have b1:=b0.ext x1;refine Lr (s:={s with heap:=h1,toks:=iF}) (RR:=λRa C=>compPost (model pw w) A qb (some (assign (.Name x p) env)) (λ_ s'=>Ma w B env sc ns bad O s Q .next s') Ra C) I rm pz so ht Br F1 S1 b1 W jL k0 j0 r1 qr hw ?_;intro l D C h' tk Ra Ki O' Z' m hl hD hC hDC xx S' pl rs hn q;have hfC:∀a∈[C],h1.get? a=none:=λa ha=>by exact rr (J0.mp ha)<|hl C hC
 have F2:FR w B env sc ns fr h' (Kb bad [C]) O':=(F1.hide (l:=[C]) hfC λ_ _ e=>e).step (S1.hide (l:=[C]) hfC λ_ _ e=>e) xx;have wk:∀a,Kb bad [C] a->Kb bad l a:=λa ha=>ha.imp id λz=>by exact rr (J0.mp z) hC
 have hB:∀a,Kb bad l a->B.get? a=none:=λa ha=>ha.elim (b1.off a) λhm=>ro S1 (hl a hm);have S2:SR pw w B (Kb bad [C]) O' Z' h':=S'.free wk hB λ_ _ _ e=>e;have nD:¬bad D:=λz=>by refine kE (b1.live D z) λo e=>?_;replace e:=hl D hD▸e;exact Mine.ns e
 have nD2:¬Kb bad [C] D:=λz=>z.elim nD λz=>hDC (J0.mp z);refine kE pl λm2 hp=>?_;clear pl;have r2:VR pw w h' (Kb bad [C]) O' (.ba Ra) (.ref D):=(Ob D Ki m2 rfl ⟨nD2,λz=>(S'.off D z).2.1 (.inr hD)⟩ hp (ya.keeps (Cg wk λ_ _ _ e=>e) rs));have CL:C≠env.locals:=λz=>by
  refine xb F1.RK λm3 o _ _ ho _=>?_;replace ho:=hl C hC▸(z.symm▸ho);exact Mine.ns ho
 have CC:∀n,env.cells.lookup n≠some C:=λn z=>by
  refine db (F1.YH n C z) λv o ho _=>?_;replace ho:=hl C hC▸ho;exact Mine.ns ho
 refine wpAny_assign_Name (oh (s:={s with heap:=h',toks:=tk}) F2 (Qe hx) hi r2 λs2 st=>?_);have b2:ta B (Kb bad [C]) h':=⟨λa ha=>ha.elim (λha=>(b1.ext xx).live a ha) λz=>by
  refine rr (J0.mp z) ?_;refine Qa hn λo _ _ ho _=>?_;clear hn;exact⟨o,ho⟩,λa ha=>hB a (wk a ha)⟩
 have S3:=ic.sr F2 S2 b2 st;have xs:=st.xs;have kC:=λo e=>st.keep C o CL (λn z=>absurd z (CC n)) e;refine Cp st.sh λh2 jg ez=>?_;subst ez;refine(Na m (Ns.kept hn kC) (λh3 sb=>?_));have kk:∀a o,¬Kb bad [C] a->h2.get? a=some o->h3.get? a=some o:=λa o hb e=>sb.extBut a o (λz=>hb (.inr (by simp[z]))) e;refine⟨.next,_,Z',O',h3,jg,rfl,?_,S3.free (λa h=> .inl h) b2.off kk,FR.free st.fr (λa h=> .inl h) F.Km F.Tm λa o ha e=>sb.extBut a o (λz=>?_) e,trivial,q⟩
 ·have x3:=(XS.of (env:=env) xx).trans xs;refine(XS.of x1).trans ⟨x3.more,λa o e hi gy hc=>sb.extBut a o (λz=>?_) (x3.keep a o e hi gy hc),λa o e=>?_⟩
  ·replace e:=hl C hC▸(z▸e);exact Mine.ns e
  ·refine kE (x3.live a o e) λo' e'=>?_;exact⟨o',sb.extBut a o' (λz=>by replace e:=hl C hC▸(z▸e);exact Mine.ns e) e'⟩
 ·clear hC hDC hn hfC F2 wk S2 nD2 r2 b2 st S3 kC sb kk;subst z;rcases ha with ha|ha|⟨n,ha⟩
  ·exact ha (.inr (by simp))
  ·exact CL ha
  ·exact CC n ha
theorem AF(I:Ev T w B lvl n){xs:List Str}{k:Nat}{cx:X}{x:Str}{p:Pos}(pz:(De=[]/\cx= .lit (.bool true))\/(∃c,De=[c]/\cx=tr T n scope.names (ns++xs) c)\/cx= .bad)(cL:Hp scope sc ns xs=true)(CB:Bf iter=true)(ht:Mj tg=some (xs,k))(ZM:swapsWith (.ListComp Ge [⟨tg,iter,De,0⟩] scope Oh) (some (.Name x p)) pos.line env=pure true)(hx:Yc sc x=true)(hi:pb ns x=some i)(rm:Rm lvl A)(F:FR w B env sc ns fr s.heap bad O)(S:SR pw w B bad O Z s.heap)(b0:ta B bad s.heap)(h:dc (ja w B lvl) (.comp (tr T n scope.names (ns++xs) Ge) k (tr T n sc ns iter) cx) fr Z λa Z1=>Q .next (fr.set i (some a)) Z1):wpAny (model pw w) A (exec (.Assign [.Name x p] (.ListComp Ge [⟨tg,iter,De,0⟩] scope Oh) pos) env) (Ma w B env sc ns bad O s Q) qb s:=by refine zF I pz cL CB ht ZM hx hi rm F S b0 (aa.bind (I.ex rm F S b0 h) λvi y Z1 O1 h1 nc x1 S1 r1 q1=>?_);refine Df (ib q1) λall e qr hw=>nt (tg:=tg) (s:={s with heap:=h1,toks:=nc}) rm.han e S1 r1 λoI J W j0=>?_;exact(Up.mk (s:=s) vi y _ _ J _ nc Z1 O1 h1 all _ x1 S1 W (λa ha=>by exact rr (J0.mp ha)<|Nc _) (λa o e=>J1 _ e) j0 r1 qr hw)
end
theorem ju{Q:Flow->Shared->Prop}(ZM:swapsWith e (some t) pos.line env=pure false)(vP:swappedStores [t] e env=pure none)(CB:(assignEach [t] env)=[(false,assign t env)])(h:wpAny (model pw w) A (eval e env) (λv s1=>wpAny (model pw w) A (assign t env v) (λ_=>Q .next) E s1) E s):wpAny (model pw w) A (exec (.Assign [t] e pos) env) Q E s:=by rw[arm_exec_Assign];refine E0 (wpAny_standAt ?_);rw[show swapsWithSole [t] e pos.line env=pure false from ZM,vP,CB];simp only[pure_bind,Bool.false_eq_true,if_false];refine E0 (C2 h (λv s1 z=>?_) λ_ _ z=>z);show wpAny _ A (do assignAll v [assign t env];pure Flow.next) _ _ _;exact E0 (C2 z (λ_ s2 z=>A2 z) λ_ _ z=>z)
theorem DC{k:Nat}{p:Pos}{l:Nat}:swapsWith e (some (.Tuple es k p)) l env=pure false:=by unfold swapsWith;split<;>rfl
theorem xy{o:PE}{a:Str}{p:Pos}{l:Nat}:swapsWith e (some (.Attribute o a p)) l env=pure false:=by unfold swapsWith;split<;>rfl
theorem EC{o i:PE}{p:Pos}{l:Nat}:swapsWith e (some (.Subscript o i p)) l env=pure false:=by unfold swapsWith;split<;>rfl
section
variable{T:Tb}{sc:Sc}{ns:List Str}{Q:SQ}
noncomputable def kG(e:PE):Bool:=(aF e).isNone
theorem JA{v:AV}{G:Prop}(e:mh is v fr=some fr2)(k:∀xs,xh v=some xs->xs.length=is.length->Ps is xs fr=fr2->G):G:=by
 unfold mh at e;cases h:xh v with|none=>rw[h]at e;exact Mine.ns e|some xs=>rw[h]at e;exact Uc e λc e=>k xs h c (z0 e)
theorem yF(I:Ev T w B lvl n){k:Nat}{tp:Pos}{xs:List Str}(he:kG e=true)(hn:kg es=some xs)(hx:∀x∈xs,Yc sc x=true)(hi:xs.map (pb ns)=is.map some)(rm:Rm lvl A)(F:FR w B env sc ns fr s.heap bad O)(S:SR pw w B bad O Z s.heap)(b0:ta B bad s.heap)(h:Wm (ja w B lvl) (.Ck is (tr T n sc ns e)) fr Z Q):wpAny (model pw w) A (exec (.Assign [.Tuple es k tp] e pos) env) (Ma w B env sc ns bad O s Q) qb s:=by
 refine ju DC (by clear h;cases e with
 |Tuple=>exact Lf he|_=>rfl) rfl (aa.bind (I.ex rm F S b0 h) λa v Z1 O1 h1 nc x1 S1 r1 q1=>?_)
 have F1:=F.step S x1;refine Xa (ib q1) λfr2 e2 q=>JA e2 λQc hp hl e3=>?_
 ··clear e2;subst e3;have ln:Qc.length=xs.length:=by have:=C0 List.length hi;simp only[R0]at this;exact Eq.trans ‹_› (Eq.symm ‹_›)
   refine Kk (s:={s with heap:=h1,toks:=nc}) rm.han F1 hn (λx hxm=>Qe (hx x hxm)) hi r1 hp ln λs2 st=>?_;have S2:=ic.sr F1 S1 (b0.ext x1) st;have xs:=st.xs;refine Cp st.sh λh2 jg ez=>?_;subst ez;exact⟨.next,_,Z1,O1,h2,jg,rfl,(XS.of x1).trans xs,S2,st.fr,trivial,q⟩
end
section
variable{T:Tb}{sc:Sc}{ns:List Str}{Q:SQ}
theorem kK(Bb:Bs T w B K)(I:Ev T w B lvl n){o:PE}{ap:Pos}{k:Nat}(hk:Vh name=some k)(rm:Rm lvl A)(F:FR w B env sc ns fr s.heap bad O)(S:SR pw w B bad O Z s.heap)(b0:ta B bad s.heap)(h:Wm (ja w B lvl) (.Xd (tr T n sc ns o) k (tr T n sc ns e)) fr Z Q):wpAny (model pw w) A (exec (.Assign [.Attribute o name ap] e pos) env) (Ma w B env sc ns bad O s Q) qb s:=by refine ju xy (by clear h;rcases e with⟨⟩<;>rfl) rfl (aa.bind (I.ex rm F S b0 h) λa v Z1 O1 h1 nc x1 S1 r1 q1=>?_);have F1:=F.step S x1;have b1:=b0.ext x1;rw[arm_assign_Attribute];refine E0 (Y3 (aa.bind (I.ex (s:={s with heap:=h1,toks:=nc}) rm F1 S1 b1 q1) λb ov Z2 O2 h2 jg x2 S2 r2 q2=>?_));refine Xa (ib q2) λZ3 e3 q=>?_;have X:K.In h2:=λa o hk=>S2.keep a o (Bb.IG a o hk);have F2:=F1.step S1 x2;refine kA (Rl hk) λen _=>?_;have z:=Ey (s:={s with heap:=h2,toks:=jg}) (A:=A) (E:=qb) Bb.ko X e3 S2 r2 (VR.keeps x2.kp r1);rw[en]at z;refine E0 (wpAny_standAt (E0 (Y3 (C2 z (λ_ s3 z=>wpAny_release' ?_) λ_ _ z=>z))));refine db z λh3 Kn ez tz=>?_;clear z;subst ez;refine kA tz λx3 S3=>?_;clear tz;exact⟨.next,fr,Z3,O2,h3,Kn,rfl,XS.of ((x1.trans x2).trans x3),S3,F2.step S2 x3,trivial,q⟩
noncomputable def zh:PE->Bool| .Slice _ _ _ _=>false|_=>true
theorem aO(Bb:Bs T w B K)(I:Ev T w B lvl n){o i:PE}(hs:zh i=true)(rm:Rm lvl A)(F:FR w B env sc ns fr s.heap bad O)(S:SR pw w B bad O Z s.heap)(b0:ta B bad s.heap)(h:Wm (ja w B lvl) (.ue (tr T n sc ns o) (tr T n sc ns i) (tr T n sc ns e)) fr Z Q):wpAny (model pw w) A (exec (.Assign [.Subscript o i sp] e pos) env) (Ma w B env sc ns bad O s Q) qb s:=by refine ju EC (by clear h;rcases e with⟨⟩<;>rfl) rfl (aa.bind (I.ex rm F S b0 h) λa v Z1 O1 h1 nc x1 S1 r1 q1=>?_);have F1:=F.step S x1;have b1:=b0.ext x1;rw[arm_assign_Subscript];refine E0 (Y3 (aa.bind (I.ex (s:={s with heap:=h1,toks:=nc}) rm F1 S1 b1 q1) λb ov Z2 O2 h2 jg x2 S2 r2 q2=>?_));have F2:=F1.step S1 x2;have b2:=b1.ext x2;refine E0 (Y3 (aa.bind (I.ex (s:={s with heap:=h2,toks:=jg}) rm F2 S2 b2 q2) λc iv Z3 O3 h3 Kn x3 S3 r3 q3=>?_));have F3:=F2.step S2 x3;refine Xa (ib q3) λZ4 e4 q=>?_;have z:=wq (s:={s with heap:=h3,toks:=Kn}) (A:=A) (E:=qb) e4 S3 (VR.keeps x3.kp r2) r3 (VR.keeps (x2.trans x3).kp r1) (bj rm 20 ((D0 _ _)));refine E0 (wpAny_standAt (E0 (Y3 (C2 z (λ_ s4 z=>wpAny_release' ?_) λ_ _ z=>z))));refine db z λh4 jF ez tz=>?_;clear z;subst ez;refine kA tz λx4 S4=>?_;clear tz;exact⟨.next,fr,Z4,O3,h4,jF,rfl,XS.of (((x1.trans x2).trans x3).trans x4),S4,F3.step S3 x4,trivial,q⟩
end
section
variable{T:Tb}{sc:Sc}{ns:List Str}{Q:SQ}
theorem TD{i:PE}{ov iv GE:Value}{P:Flow->Shared->Prop}(hs:zh i=true)(h:wpAny (model pw w) A (setItem ov iv GE) (λ_=>P .next) E s):wpAny (model pw w) A (augStore i ov iv GE) P E s:=by
 have main:wpAny (model pw w) A (augStore (.Name "" ⟨0,0,0,0⟩) ov iv GE) P E s:=E0 (Y3 (C2 h (λ_ s2 z=>E0 (wpAny_release' (A2 z))) λ_ _ z=>z));cases i with|Slice _ _ _ _=>exact Lf hs|_=>exact main
theorem LQ{op:Nat}{b r:AV}{G:Prop}(e:RI op a b=some r)(k:∀x y,a= .int x->b= .int y->op=0->r= .int (x+y)->G):G:=by
 cases a with
 |int x=>cases b with
  |int y=>exact Uc e λh e=>k x y rfl rfl h (z0 e).symm|_=>exact Mine.ns e
 |_=>exact Mine.ns e
set_option tactic.hygienic true in
theorem bO(Bb:Bs T w B K)(I:Ev T w B lvl n){o i:PE}{op:Operator}{k:Nat}(ho:JS op=some k)(hs:zh i=true)(rm:Rm lvl A)(F:FR w B env sc ns fr s.heap bad O)(S:SR pw w B bad O Z s.heap)(b0:ta B bad s.heap)(h:Wm (ja w B lvl) (.SD (tr T n sc ns o) (tr T n sc ns i) k (tr T n sc ns e)) fr Z Q):wpAny (model pw w) A (exec (.AugAssign (.Subscript o i sp) op e pos) env) (Ma w B env sc ns bad O s Q) qb s:=by
 rw[arm_exec_AugAssign_3];refine E0 (wpAny_standAt (E0 (aa.bind (I.ex rm F S b0 h) λb ov Z1 O1 h1 nc x1 S1 r1 q1=>?_)));have F1:=F.step S x1;have b1:=b0.ext x1;refine E0 (Y3 (aa.bind (I.ex (s:={s with heap:=h1,toks:=nc}) rm F1 S1 b1 q1) λc iv Z2 O2 h2 jg x2 S2 r2 q2=>?_));have F2:=F1.step S1 x2;have b2:=b1.ext x2;refine Xa (ib q2) λgG eo q2=>E0 (Y3 (E0 (wpAny_standAt (E0 (C2 (XG (Q:=λv Z'=>v=gG/\Z'=Z2) (s:={s with heap:=h2,toks:=jg}) Bb.mods eo S2 (VR.keeps x2.kp r1) r2 (bj rm 20 ((D0 _ _))) ⟨rfl,rfl⟩) (λu s3 z=>?_) λ_ _ z=>z)))));obtain⟨av,Z3,O3,h3,Kn,rfl,x3,S3,r3,rfl,rfl⟩:=z;have F3:=F2.step S2 x3;have b3:=b2.ext x3;refine E0 (Y3 (aa.bind (I.ex (s:={s with heap:=h3,toks:=Kn}) rm F3 S3 b3 q2) λa v Z4 O4 h4 jF x4 S4 r4 q4=>?_));have F4:=F3.step S3 x4;refine Xa (ib q4) λGE en q4=>Xa (ib q4) λZ5 e5 q=>?_;have r3':=VR.keeps x4.kp r3;refine LQ en λx y ea eb hk er=>?_;have hop:op= .Add:=by have:=cG ho;rw[<-this,hk];rfl
 rw[ea]at r3';rw[eb]at r4;rw[er]at e5;refine kE r3' λt1 ez=>kE r4 λt2 ez2=>?_;rw[ez,ez2,hop];refine E0 (wpAny_standAt (wpAny_operating (wpAny_iadd_int (E0 (wpAny_standAt (TD hs ?_))))));have z:=wq (s:={s with heap:=h4,toks:=jF+1}) (A:=A) (E:=qb) (v:= .int (x+y) jF) e5 S4 (VR.keeps ((x2.trans x3).trans x4).kp r1) (VR.keeps (x3.trans x4).kp r2) (VR.I _ _) (bj rm 20 ((D0 _ _)));refine C2 z (λ_ s6 z=>?_) λ_ _ z=>z;refine db z λh5 VQ ez tz=>?_;clear z;subst ez;refine kA tz λx5 S5=>?_;clear tz;exact⟨.next,fr,Z5,O4,h5,VQ,rfl,XS.of ((((x1.trans x2).trans x3).trans x4).trans x5),S5,F4.step S4 x5,trivial,q⟩
end
section
variable{T:Tb}{sc:Sc}{ns:List Str}{Q:SQ}
theorem xz.keeps{f:Flow}(k:Kp h h' bad' bad O O')(o:xz w h bad' O f fl):xz w h' bad O' f fl:=by rcases f with⟨⟩<;>rcases fl with⟨⟩<;>first|exact o|exact VR.keeps k o
def QQ(I:Shared->Prop)(R:Flow->Shared->Prop):Flow->Shared->Prop:=λf s=>f.casesOn (I s) (R .next s) (I s) λv=>R (.ret v) s
def tZ(w:World)(A:Around)(body:List Stmt)(env:Env)(I:Shared->Prop)(R:Flow->Shared->Prop):Bool->Shared->Prop:=λb s=>b.casesOn (R .next s) (wpAny (model pw w) A (execs body env) (QQ I R) qb s)
theorem KJ{zC:PE}{R:Result->Shared->Prop}(I:Nat->Shared->Prop)(turn:∀n s,I n s->wpAny (model pw w) A (isTrue zC env (eval zC env)) (tZ w A body env (λs=>∃m,m<n/\I m s) λf s=>R (.ok f) s) qb s)(n:Nat)(h:I n s):codeAny (model pw w) A (.whileLoop zC body [] env) R s:=
 codeAny_whileLoop I (λn s hi=>C2 (turn n s hi) (λb s2 z=>by
  induction b with
  |false=>exact wpAny_execs_nil z|true=>exact C2 z (λf s3 y=>by rcases f with⟨⟩<;>exact y) λ_ _ z=>z.elim) λ_ _ z=>z.elim) n h
inductive TI(w:World)(B:Heap)(env:Env)(sc:Sc)(ns:List Str)(bad:ie)(O:Io)(s:Shared)(g:Fr->AH->Prop):Shared->Prop|mk (Ub:Fr) (Z':AH) (O':Io) (h':Heap) (tk:Nat) (x:XS env O O' s.heap h') (S:SR pw w B bad O' Z' h') (F:FR w B env sc ns Ub h' bad O') (q:g Ub Z'):TI w B env sc ns bad O s g {s with heap:=h',toks:=tk}
theorem TI.k{P:Shared->Prop}(z:TI w B env sc ns bad O s g s')(k:∀Ub Z' O' h' tk,XS env O O' s.heap h'->SR pw w B bad O' Z' h'->FR w B env sc ns Ub h' bad O'->g Ub Z'->P {s with heap:=h',toks:=tk}):P s':=by
 induction z with|mk Ub Z' O' h' tk x S F q=>exact k Ub Z' O' h' tk x S F q
theorem TI.trans(x:XS env O O1 s.heap h1)(y:TI w B env sc ns bad O1 {s with heap:=h1,toks:=tk} g s'):TI w B env sc ns bad O s g s':=
 y.k (P:=TI w B env sc ns bad O s g) λUb Z' O' h' yC x' S F q=>⟨Ub,Z',O',h',yC,x.trans x',S,F,q⟩
theorem Ma.lp{f:Flow}{I:Shared->Prop}{R:Flow->Shared->Prop}(z:Ma w B env sc ns bad O s (Xq g Q) f s1)(k1:TI w B env sc ns bad O s g s1->I s1)(k2:∀f,Ma w B env sc ns bad O s Q f s1->R f s1):QQ I R f s1:=by
 induction z with
 |mk fl Ub Z' O' h' tk e x S F o q=>
  subst e;induction f with
  |next=>rcases fl with⟨⟩<;>first|exact o.elim|exact k1 ⟨Ub,Z',O',h',tk,x,S,F,q⟩
  |cont=>rcases fl with⟨⟩<;>first|exact o.elim|exact k1 ⟨Ub,Z',O',h',tk,x,S,F,q⟩
  |brk=>rcases fl with⟨⟩<;>first|exact o.elim|exact k2 .next ⟨.next,Ub,Z',O',h',tk,rfl,x,S,F,trivial,q⟩
  |ret v=>rcases fl with⟨⟩<;>first|exact o.elim|exact k2 (.ret v) ⟨.ret _,Ub,Z',O',h',tk,rfl,x,S,F,o,q⟩
theorem OE(I:Ev T w B lvl n){W:Fr->AH->SQ->Prop}{R:Result->Shared->Prop}(rm:Rm lvl A)(F:FR w B env sc ns fr s.heap bad O)(S:SR pw w B bad O Z s.heap)(b0:ta B bad s.heap)(hb:∀{fr Z s O Q},FR w B env sc ns fr s.heap bad O->SR pw w B bad O Z s.heap->ta B bad s.heap->W fr Z Q->wpAny (model pw w) A (execs b env) (Ma w B env sc ns bad O s Q) qb s)(hR:∀f s',Ma w B env sc ns bad O s Q f s'->R (.ok f) s')(m:Nat)(h:Ij (Pb (ja w B lvl) (tr T n sc ns t)) W m fr Z Q):codeAny (model pw w) A (.whileLoop t b [] env) R s:=
 KJ (λm=>TI w B env sc ns bad O s λfr Z=>Ij (Pb (ja w B lvl) (tr T n sc ns t)) W m fr Z Q) (λm s' z=>z.k (P:=λs'=>wpAny (model pw w) A (isTrue t env (eval t env)) (tZ w A b env (λs=>∃k,k<m/\TI w B env sc ns bad O _ (λfr Z=>Ij (Pb (ja w B lvl) (tr T n sc ns t)) W k fr Z Q) s) λf s=>R (.ok f) s) qb s') λfr1 Z1 O1 h1 nc x1 S1 F1 hw=>by
  have b1:=b0.xs x1;induction m with
  |zero=>exact hw.elim|succ m=>
   refine Nb.bind (I.te (s:={s with heap:=h1,toks:=nc}) rm F1 S1 b1 hw) λu Z2 O2 h2 jg x2 S2 q2=>?_;have F2:=F1.step S1 x2;have DN:=x1.trans (XS.of x2);induction u with
   |false=>exact hR .next _ ⟨.next,fr1,Z2,O2,h2,jg,rfl,DN,S2,F2,trivial,q2⟩|true=>
    exact C2 (hb (s:={s with heap:=h2,toks:=jg}) F2 S2 (b1.ext x2) q2) (λf s3 z=>z.lp (λy=>Na m (Nat.lt_succ_self m) (TI.trans DN y)) λf y=>hR f s3 (Ma.trans DN y)) λ_ _ z=>z) m ⟨fr,Z,O,s.heap,s.toks,XS.refl,S,F,h⟩
theorem xF(I:Ev T w B lvl n){cb:List C}(rm:Rm lvl A)(F:FR w B env sc ns fr s.heap bad O)(S:SR pw w B bad O Z s.heap)(b0:ta B bad s.heap)(hb:∀{fr Z s O Q},FR w B env sc ns fr s.heap bad O->SR pw w B bad O Z s.heap->ta B bad s.heap->oe (ja w B lvl) cb fr Z Q->wpAny (model pw w) A (execs b env) (Ma w B env sc ns bad O s Q) qb s)(h:Wm (ja w B lvl) (.Hu (tr T n sc ns t) cb) fr Z Q):wpAny (model pw w) A (exec (.While t b [] pos) env) (Ma w B env sc ns bad O s Q) qb s:=
 kE h λm h=>wpAny_While (OE I (W:=oe (ja w B lvl) cb) rm F S b0 hb (λ_ _ z=>z) m h)
end
section
variable{T:Tb}{sc:Sc}{ns:List Str}{Q:SQ}
theorem Ma.free{f:Flow}{tk0:Nat}(x0:XS env O O0 s.heap h0)(hl:∀a∈l,s.heap.get? a=none)(F:FR w B env sc ns fr s.heap bad O)(b0:ta B bad s.heap)(hB:∀a∈l,B.get? a=none)(z:Ma w B env sc ns (Kb bad l) O0 {s with heap:=h0,toks:=tk0} Q f s'):Ma w B env sc ns bad O s Q f s':=by obtain⟨fl,Ub,Z',O',h',tk,rfl,x,S,F',o,q⟩:=z;have hb:∀a,Kb bad l a->B.get? a=none:=λa ha=>ha.elim (b0.off a) (hB a);exact⟨fl,Ub,Z',O',h',tk,rfl,x0.trans x,S.free (λa h=> .inl h) hb (λ_ _ _ e=>e),FR.free F' (λa h=> .inl h) F.Km F.Tm (λ_ _ _ e=>e),xz.keeps (Cg (λa h=> .inl h) λ_ _ _ e=>e) o,q⟩
theorem XS.new(x:XS env O O' h0 h1)(hl:∀a∈l,h0.get? a=none)(k:∀a o,a∉l->h1.get? a=some o->h'.get? a=some o):XS env O O' h0 h':=
 ⟨x.more,λa o e hi hL hc=>k a o (λz=>by replace e:=hl a z▸e;exact ns e) (x.keep a o e hi hL hc),λa o e=>let⟨o',e'⟩:=x.live a o e;⟨o',k a o' (λz=>by replace e:=hl a z▸e;exact ns e) e'⟩⟩
theorem XS.kp(x:XS env O O' h h')(F:FR w B env sc ns fr h bad O):Kp h h' bad bad O O':=by
 refine Xa x.more λn ez hn=>?_;subst ez;refine⟨λa o hf e=>x.keep a o e hf.2 (λz=>hf.1 (z▸F.Km)) λn z=>hf.1 (F.Tm n a z),λa o hf e=>⟨hf.1,λz=>?_⟩,λi p h=>by refine rr (C1 (B0.mp h).1) ?_;exact h⟩;rw[Za]at z;rcases D2.mp z with z|z
 ·exact hf.2 z
 ·rw[hn a z]at e;exact Mine.ns e
def MY(w:World)(A:Around)(tg:PE)(it:Value)(b:List Stmt)(env:Env)(I:Shared->Prop)(R:Flow->Shared->Prop):Option Value->Shared->Prop:=λr s=>
 r.casesOn (R .next s) λv=>wpAny (model pw w) A (letOwnedTupleGo tg it v) (λ_ s1=>wpAny (model pw w) A (assign tg env v) (λ_ s2=>wpAny (model pw w) A (execs b env) (QQ I R) qb s2) qb s1) qb s
theorem wL{it:Value}{R:Result->Shared->Prop}(I:Nat->Shared->Prop)(turn:∀n s,I n s->wpAny (model pw w) A (pyNext it) (MY w A tg it b env (λs=>∃m,m<n/\I m s) λf s=>R (.ok f) s) qb s)(n:Nat)(h:I n s):codeAny (model pw w) A (.forLoop tg it b [] env) R s:=
 codeAny_forLoop_any I (λn s hi=>C2 (turn n s hi) (λr s2 z=>by
  induction r with
  |none=>exact wpAny_execs_nil z|some v=>exact C2 z (λ_ _ z=>C2 z (λ_ _ z=>C2 z (λf s3 y=>by rcases f with⟨⟩<;>exact y) λ_ _ z=>z.elim) λ_ _ z=>z.elim) λ_ _ z=>z.elim) λ_ _ z=>z.elim) n h
structure zW(B:Heap)(env:Env)(Ia:Addr)(h:Heap):Prop where
 hl:∀a∈[Ia],h.get? a=none
 hB:∀a∈[Ia],B.get? a=none
 lI:env.locals≠Ia
 cI:∀n,env.cells.lookup n≠some Ia
inductive qR(w:World)(B:Heap)(env:Env)(sc:Sc)(ns:List Str)(bad:ie)(O:Io)(s:Shared)(vi:AV)(v:Value)(J:Nat->Heap->Prop)(g:Nat->Fr->AH->Prop)(len m:Nat):Shared->Prop
 |mk (i:Nat) (Ub:Fr) (Z':AH) (O':Io) (h':Heap) (tk:Nat) (x:XS env O O' s.heap h') (S:SR pw w B bad O' Z' h') (F:FR w B env sc ns Ub h' bad O') (b:ta B bad h') (r:VR pw w h' bad O' vi v) (j:J i h') (e:i+m=len) (q:g i Ub Z'):
  qR w B env sc ns bad O s vi v J g len m {s with heap:=h',toks:=tk}
theorem qR.k{J:Nat->Heap->Prop}{g:Nat->Fr->AH->Prop}{len:Nat}{P:Shared->Prop}(z:qR w B env sc ns bad O s vi v J g len m s')(k:∀i Ub Z' O' h' tk,XS env O O' s.heap h'->SR pw w B bad O' Z' h'->FR w B env sc ns Ub h' bad O'->ta B bad h'->VR pw w h' bad O' vi v->J i h'->i+m=len->g i Ub Z'->P {s with heap:=h',toks:=tk}):P s':=by
 induction z with|mk i Ub Z' O' h' tk x S F b r j e q=>exact k i Ub Z' O' h' tk x S F b r j e q
theorem zW.turn{G:Prop}(f:zW B env Ia h0)(x:XS env O O' h0 h1)(S:SR pw w B (Kb bad [Ia]) O' Z h1)(F:FR w B env sc ns fr h1 (Kb bad [Ia]) O')(b:ta B (Kb bad [Ia]) h1)(he:Ek [Ia] h1 h2)(k:XS env O O' h0 h2->SR pw w B (Kb bad [Ia]) O' Z h2->FR w B env sc ns fr h2 (Kb bad [Ia]) O'->Kp h1 h2 (Kb bad [Ia]) (Kb bad [Ia]) O' O'->G):G:=by
 have kk:∀a o,¬Kb bad [Ia] a->h1.get? a=some o->h2.get? a=some o:=λa o hb e=>he a o (λz=>hb (.inr z)) e;refine k (XS.new x f.hl λa o ha e=>he a o ha e) (S.free (λ_ h=>h) b.off kk) (F.other λa o ha e=>he a o (λz=>?_) e) (rj kk);have z:=J0.mp z;clear S F b he k kk;subst z;rcases ha with ha|ha|⟨n,ha⟩
 ·exact ha (.inr (J0.mpr rfl))
 ·exact f.lI ha.symm
 ·exact f.cI n ha
theorem xH{J:Nat->Heap->Prop}{R:Flow->Shared->Prop}(f:zW B env Ia s.heap)(F:FR w B env sc ns fr s.heap bad O)(b0:ta B bad s.heap)(W:It pw w A B vi v all (Xw vi all) tg Ia [Ia] J)(body:∀{bad fr Z s O Q x u}{P:Flow->Shared->Prop},FR w B env sc ns fr s.heap bad O->SR pw w B bad O Z s.heap->ta B bad s.heap->VR pw w s.heap bad O x u->cb x fr Z Q->(∀f s',Ma w B env sc ns bad O s Q f s'->P f s')->wpAny (model pw w) A (assign tg env u) (λ_ s2=>wpAny (model pw w) A (execs b env) P qb s2) qb s)(hR:∀f s',Ma w B env sc ns bad O s Q f s'->R f s')(x1:XS env O O1 s.heap h1)(S1:SR pw w B (Kb bad [Ia]) O1 Z1 h1)(F1:FR w B env sc ns fr1 h1 (Kb bad [Ia]) O1)(b1:ta B (Kb bad [Ia]) h1)(r1:VR pw w h1 (Kb bad [Ia]) O1 vi v)(j1:J i h1)(HE:i+m=all.length)(hw:Eb (Xw vi all) cb (all.drop i) fr1 Z1 Q):wpAny (model pw w) A (pyNext (.ref Ia)) (MY w A tg (.ref Ia) b env (λs'=>∃k,k<m/\qR w B env sc ns (Kb bad [Ia]) O s vi v J (λi fr Z=>Eb (Xw vi all) cb (all.drop i) fr Z Q) all.length k s') R) qb {s with heap:=h1,toks:=nc}:=by
 have bI:Kb bad [Ia] Ia:= .inr (J0.mpr rfl);induction m with
 |zero=>have lU:i=all.length:=HE;replace hw:=List.drop_length▸(lU▸hw);exact W.done _ Z1 O1 _ _ _ S1 r1 hw.1 (lU▸j1) λh2 jg he=>f.turn x1 S1 F1 b1 he λx2 S2 F2 _=>hR _ _ (Ma.free (tk0:=jg) x2 f.hl F b0 f.hB ⟨.next,fr1,Z1,O1,h2,jg,rfl,XS.refl,S2,F2,trivial,hw.2⟩)|succ m=>
  have jn:i<all.length:=HE▸Nat.lt_add_of_pos_right (Nat.succ_pos m);replace hw:=List.drop_eq_getElem_cons jn▸hw;refine W.item i all[i] _ Z1 O1 _ _ _ _ (λu s1 z=>z) (z3 jn) S1 b1.live (λa ha=>J0.mp ha▸bI) r1 hw.1 j1 λu h2 jg sP j2 he=>f.turn x1 S1 F1 b1 he λx2 S2 F2 k2=>?_;have b2:ta B (Kb bad [Ia]) h2:=⟨λa ha=>by
   by_cases hN:a∈[Ia]
   ·exact W.live _ _ j2 a hN
   ·exact kE (b1.live a ha) λo e=>⟨o,he a o hN e⟩,b1.off⟩
  refine body (s:={s with heap:=h2,toks:=jg}) F2 S2 b2 sP hw.2 λf' s3 z=>z.lp (λy=>Na m (Nat.lt_succ_self m) (y.k (P:=qR w B env sc ns (Kb bad [Ia]) O s vi v J (λi fr Z=>Eb (Xw vi all) cb (all.drop i) fr Z Q) all.length m) λfr3 Z3 O3 h3 Kn x3 S3 F3 g=>
   ⟨i+1,fr3,Z3,O3,h3,Kn,x2.trans x3,S3,F3,b2.xs x3,VR.keeps (x3.kp F2) (VR.keeps k2 r1),W.frame _ _ _ j2 λb hb o e=>?_,(Nat.succ_add_eq_add_succ i m).trans HE,g⟩)) λf' y=>hR _ _ (Ma.free (tk0:=jg) x2 f.hl F b0 f.hB y)
  rw[J0.mp hb]at e⊢;exact x3.keep Ia o e (λz=>(S2.off _ z).2.1 bI) (i4 f.lI) f.cI
theorem yH(rm:Rm lvl A){iter:PE}{J:Nat->Heap->Prop}{oI:Obj}{R:Result->Shared->Prop}(F:FR w B env sc ns fr s.heap bad O)(S:SR pw w B bad O Z s.heap)(b0:ta B bad s.heap)(W:It pw w A B vi v all (Xw vi all) tg s.heap.objs.size [s.heap.objs.size] J)(j0:J 0 (s.heap.push oI))(r:VR pw w s.heap bad O vi v)(body:∀{bad fr Z s O Q x u}{P:Flow->Shared->Prop},FR w B env sc ns fr s.heap bad O->SR pw w B bad O Z s.heap->ta B bad s.heap->VR pw w s.heap bad O x u->cb x fr Z Q->(∀f s',Ma w B env sc ns bad O s Q f s'->P f s')->wpAny (model pw w) A (assign tg env u) (λ_ s2=>wpAny (model pw w) A (execs b env) P qb s2) qb s)(hw:Eb (Xw vi all) cb all fr Z Q)(hR:∀f s',Ma w B env sc ns bad O s Q f s'->R (.ok f) s'):codeAny (model pw w) A (.forLoop tg (.ref s.heap.objs.size) b [] env) R {s with heap:=s.heap.push oI}:=by
 have hl:∀a∈[s.heap.objs.size],s.heap.get? a=none:=λa ha=>by refine rr (J0.mp ha) ?_;exact Nc _
 have up:∀a o,s.heap.get? a=some o->(s.heap.push oI).get? a=some o:=λa o e=>J1 _ e;have f:zW B env s.heap.objs.size s.heap:=⟨hl,λa ha=>ro S (hl a ha),λz=>by
  refine xb F.RK λm o _ _ ho _=>?_;rw[z,Nc]at ho;exact Mine.ns ho,λn z=>by
  refine db (F.YH n _ z) λu o ho _=>?_;rw[Nc]at ho;exact Mine.ns ho⟩
 refine wL (λm=>qR w B env sc ns (Kb bad [s.heap.objs.size]) O s vi v J (λi fr Z=>Eb (Xw vi all) cb (all.drop i) fr Z Q) all.length m) (λm s' z=>z.k (P:=λs'=>wpAny (model pw w) A (pyNext (.ref s.heap.objs.size)) (MY w A tg (.ref s.heap.objs.size) b env _ _) qb s')
  λi fr1 Z1 O1 h1 nc x1 S1 F1 b1 r1 j1 HE hw=>xH f F b0 W body hR x1 S1 F1 b1 r1 j1 HE hw) all.length
  ⟨0,fr,Z,O,s.heap.push oI,s.toks,XS.of (Zc.of_keep up),S.hide hl up,F.hide hl up,b0.hide f.hB (λa ha=>W.live _ _ j0 a ha) up,VR.hide r hl up,j0,Nat.zero_add _,hw⟩
end
noncomputable def Xk(ns:List Str):List Str->Option (List Nat)
 |[]=>some []|x::r=>match pb ns x,Xk ns r with
  |some i,some is=>some (i::is)|_,_=>none
theorem pv{ns:List Str}:∀{xs:List Str}{is:List Nat},Xk ns xs=some is->xs.map (pb ns)=is.map some:=by
 intro xs;induction xs with
 |nil=>intro is h;have e:=z0 h;clear h;subst e;rfl|cons x r ih=>
  intro is h;have h:(match pb ns x,Xk ns r with|some i,some is=>some (i::is)|_,_=>none)=some is:=h;refine rr K4 ?_;cases hi:pb ns x with
  |none=>replace h:=hi▸h;exact Mine.ns h|some i=>cases hj:Xk ns r with
   |none=>replace h:=hj▸(hi▸h);exact Mine.ns h|some js=>replace h:=hj▸(hi▸h);have e:=z0 h;clear h;clear h;subst e;refine rr (ih hj) ?_;rfl
noncomputable def XY:PE->Option (List Comprehension×Scope×Pos)| .ListComp _ gens scope Oh=>some (gens,scope,Oh)|_=>none
noncomputable def ki(e:PE):Option (PE×Scope×Pos):=(XY e).bind λp=>if p.1.length=1/\(p.1.all λg=>g.is_async==0)=true then p.1.head?.map λg=>(g.iter,p.2)else none
noncomputable def yy(sc:Sc)(x:Str)(p:Pos)(scope:Scope)(Oh:Pos):Bool:=decide (sc.lookup x=some .local)&&(p.line==Oh.line)&& !(scope.names.any λ(n,k)=>n==x&&(k== .local||k== .cell))
noncomputable def Jm{α:Type}(o:Option α)(f:α->C):C:=match o with|some a=>f a|none=> .bad
noncomputable def KS{α:Type}(xs:List α)(f:α->C):C:=match xs with
 |[]=> .bad|x::r=>match r with
  |[]=>f x|_::_=> .bad
noncomputable def VY{α:Type}(xs:List α)(x:C):C:=match xs with|[]=>x|_::_=> .bad
noncomputable def bS:PE->Option (PE×PE)| .Subscript o i _=>some (o,i)|_=>none
theorem gK{p:PE×PE}(h:bS e=some p):∃q,e= .Subscript p.1 p.2 q:=by
 cases e with|Subscript=>have e:=z0 h;clear h;subst e;exact⟨_,rfl⟩|_=>exact Mine.ns h
theorem cP{p:List Comprehension×Scope×Pos}(h:XY e=some p):∃Ge,e= .ListComp Ge p.1 p.2.1 p.2.2:=by
 cases e with|ListComp=>have e:=z0 h;clear h;subst e;exact⟨_,rfl⟩|_=>exact Mine.ns h
noncomputable def PN(T:Tb)(sc:Sc)(ns:List Str)(x:Str)(p:Pos)(a a':X)(e:PE):C:=Jm (pb ns x) λi=>if Yc sc x=true then(match ki e with
 |some q=>if sc.lookup x=some .cell then .asg i a else if yy sc x p q.2.1 q.2.2=true/\(Ml T sc q.1).isNone=true then .asg i a' else .bad
 |none=>if Ym e=true then .asg i a else .bad)else .bad
noncomputable def MR(T:Tb)(sc:Sc)(ns:List Str)(f:PE->X)(a':X)(t e:PE):C:=match t with
 | .Name x p=>PN T sc ns x p (f e) a' e| .Tuple es _ _=>Jm (kg es) λxs=>Jm (Xk ns xs) λis=>if kG e=true/\xs.all (Yc sc)=true then .Ck is (f e)else .bad
 | .Attribute o name _=>Jm (Vh name) λk=> .Xd (f o) k (f e)| .Subscript o i _=>if zh i=true then .ue (f o) (f i) (f e)else .bad
 |_=> .bad
noncomputable def fF(sc:Sc)(ns:List Str)(f:PE->X)(t it:PE)(b:List C):C:=match Yj t with
 |some x=>Jm (pb ns x) λi=>if Yc sc x=true/\Bf it=true then .Xe i (f it) b else .bad
 |none=>Jm (aF t) λes=>Jm (kg es) λxs=>Jm (Xk ns xs) λis=>if Bf it=true/\xs.all (Yc sc)=true then .ng is (f it) b else .bad
mutual
noncomputable def NR(T:Tb):Nat->Sc->List Str->Stmt->C
 |0,_,_,_=> .bad|n+1,sc,ns,s=>match s with
  | .Return o _=>Jm o λe=> .ret (tr T n sc ns e)| .Expr e _=>if Ym e=true then .exp (tr T n sc ns e)else .bad
  | .Assign ts e _=>KS ts λt=>MR T sc ns (λe=>tr T n sc ns e) (tr T (n+1) sc ns e) t e| .AugAssign t op e _=>Jm (bS t) λp=>Jm (JS op) λk=>if zh p.2=true then .SD (tr T n sc ns p.1) (tr T n sc ns p.2) k (tr T n sc ns e)else .bad
  | .If t a b _=> .za (tr T n sc ns t) (Gp T n sc ns a) (Gp T n sc ns b)| .While t b r _=>VY r (.Hu (tr T n sc ns t) (Gp T n sc ns b))| .For t it b r _=>VY r (fF sc ns (λe=>tr T n sc ns e) t it (Gp T n sc ns b))| .Break _=> .brk| .Continue _=> .cont| .Pass _=> .pass|_=> .bad
noncomputable def Gp(T:Tb):Nat->Sc->List Str->List Stmt->List C|0,_,_,_=>[.bad]|n+1,sc,ns,ss=>ss.map λs=>NR T n sc ns s
end
structure Sx(T:Tb)(w:World)(B:Heap)(lvl:Nat)(n:Nat):Prop where
 ex:∀{sc:Sc}{ns:List Str}{e:Stmt}{env:Env}{fr:Fr}{Z:AH}{s:Shared}{O:Io}{bad:ie}{Q:SQ}{A:Around},Rm lvl A->FR w B env sc ns fr s.heap bad O->SR pw w B bad O Z s.heap->ta B bad s.heap->
  Wm (ja w B lvl) (NR T n sc ns e) fr Z Q->wpAny (model pw w) A (exec e env) (Ma w B env sc ns bad O s Q) qb s
 exs:∀{sc:Sc}{ns:List Str}{e:List Stmt}{env:Env}{fr:Fr}{Z:AH}{s:Shared}{O:Io}{bad:ie}{Q:SQ}{A:Around},Rm lvl A->FR w B env sc ns fr s.heap bad O->SR pw w B bad O Z s.heap->ta B bad s.heap->
  oe (ja w B lvl) (Gp T n sc ns e) fr Z Q->wpAny (model pw w) A (execs e env) (Ma w B env sc ns bad O s Q) qb s
section
variable{T:Tb}{sc:Sc}{ns:List Str}{Q:SQ}
theorem MA(I:Ev T w B lvl n)(CB:Bf it=true)(rm:Rm lvl A)(F:FR w B env sc ns fr s.heap bad O)(S:SR pw w B bad O Z s.heap)(b0:ta B bad s.heap)(body:∀{bad fr Z s O Q x u}{P:Flow->Shared->Prop},FR w B env sc ns fr s.heap bad O->SR pw w B bad O Z s.heap->ta B bad s.heap->VR pw w s.heap bad O x u->cb x fr Z Q->(∀f s',Ma w B env sc ns bad O s Q f s'->P f s')->wpAny (model pw w) A (assign tg env u) (λ_ s2=>wpAny (model pw w) A (execs b env) P qb s2) qb s)(h:dc (ja w B lvl) (tr T n sc ns it) fr Z λvi Z1=>Hb (sa Z1 vi) λxs=>qd xs/\Eb (Xw vi xs) cb xs fr Z1 Q):wpAny (model pw w) A (exec (.For tg it b [] pos) env) (Ma w B env sc ns bad O s Q) qb s:=by refine wpAny_For (aa.bind (I.ex rm F S b0 h) λvi v Z1 O1 h1 nc x1 S1 r1 q1=>?_) (ll CB);refine Df (ib q1) λall e qr hw=>?_;have F1:=F.step S x1;have b1:=b0.ext x1;exact nt (tg:=tg) (s:={s with heap:=h1,toks:=nc}) rm.han e S1 r1 λoI J W j0=>yH (iter:=it) (s:={s with heap:=h1,toks:=nc}) rm F1 S1 b1 W j0 r1 body hw λf s' z=>Ma.trans (XS.of x1) z
theorem KF(I:∀{e:Stmt}{fr:Fr}{Z:AH}{s:Shared}{O:Io}{Q:SQ},FR w B env sc ns fr s.heap bad O->SR pw w B bad O Z s.heap->ta B bad s.heap->Wm (ja w B lvl) (NR T n sc ns e) fr Z Q->wpAny (model pw w) A (exec e env) (Ma w B env sc ns bad O s Q) qb s):∀{e:List Stmt}{fr:Fr}{Z:AH}{s:Shared}{O:Io}{Q:SQ},FR w B env sc ns fr s.heap bad O->SR pw w B bad O Z s.heap->ta B bad s.heap->oe (ja w B lvl) (e.map λs=>NR T n sc ns s) fr Z Q->wpAny (model pw w) A (execs e env) (Ma w B env sc ns bad O s Q) qb s
 |[],fr,Z,s,O,Q,F,S,b0,h=>by
  simp only[List.map_nil,oe]at h;exact wpAny_execs_nil ⟨.next,fr,Z,O,s.heap,s.toks,rfl,XS.refl,S,F,trivial,h⟩
 |c::cs,fr,Z,s,O,Q,F,S,b0,h=>by
  simp only[K4,oe]at h;refine wpAny_execs_cons (Ma.bind (I F S b0 h) λf fl fr1 Z1 O1 h1 nc x1 S1 F1 o q=>?_);induction f with
  |next=>
   induction fl with|next=>exact Ma.lift x1 (KF I (s:={s with heap:=h1,toks:=nc}) F1 S1 (b0.xs x1) q)|_=>exact fE o
  |brk=>
   induction fl with|brk=>exact⟨.brk,fr1,Z1,O1,h1,nc,rfl,x1,S1,F1,trivial,q⟩|_=>exact fE o
  |cont=>
   induction fl with|cont=>exact⟨.cont,fr1,Z1,O1,h1,nc,rfl,x1,S1,F1,trivial,q⟩|_=>exact fE o
  |ret v=>
   induction fl with|ret=>exact⟨.ret _,fr1,Z1,O1,h1,nc,rfl,x1,S1,F1,o,q⟩|_=>exact fE o
end
section
variable{T:Tb}{sc:Sc}{ns:List Str}{Q:SQ}
section
variable{G:Prop}{α:Type}
theorem fj{o:Option α}{f:α->C}(h:Wm W (Jm o f) fr Z Q)(k:∀a,o=some a->Wm W (f a) fr Z Q->G):G:=by
 induction o with|none=>exact fE h|some a=>exact k a rfl h
theorem zV [Decidable c]{x y:C}(h:Wm W (if c then x else y) fr Z Q)(k:c->Wm W x fr Z Q->G)(k2:¬c->Wm W y fr Z Q->G):G:=by
 by_cases hc:c
 ·rw[X0 hc]at h;exact k hc h
 ·rw[Y0 hc]at h;exact k2 hc h
theorem Zt [Decidable c]{x:C}(h:Wm W (if c then x else .bad) fr Z Q)(k:c->Wm W x fr Z Q->G):G:=by
 by_cases hc:c
 ·rw[X0 hc]at h;exact k hc h
 ·rw[Y0 hc]at h;exact fE h
end
theorem Ao{x:Str}{p:Pos}{l:Nat}(h2:Ym e=true):swapsWith e (some (.Name x p)) l env=pure false:=by
 cases e with|ListComp|SetComp|DictComp=>exact Lf h2|_=>rfl
theorem gu(h:env.scope.kind= .function):env.blockKind= .function:=by unfold Env.blockKind;rw[h];rfl
theorem Ts(h:ki e=some (it,scope,Oh)):∃Ge tg De,e= .ListComp Ge [⟨tg,it,De,0⟩] scope Oh:=by unfold ki at h;refine ga h λp hp h2=>Uc h2 λhc h3=>Fc h3 λg hg h4=>?_;refine kE (cP hp) λGe ez=>?_;clear h hp;subst ez;clear h2 h3;obtain⟨gens,q⟩:=p;refine kE (List.length_eq_one_iff.mp hc.1) λg' e'=>?_;have e':gens=[g']:=e';subst e';have h0:(g'.is_async==0&&true)=true:=hc.2;rw[T4]at h0;have h1:g'=g:=z0 hg;clear hg;subst h1;clear hc e';obtain⟨tg,it',De,isa⟩:=g';have h0:isa=0:=eq_of_beq h0;subst h0;refine kA (Prod.mk.inj h4) λez h5=>?_;clear h4;subst ez;subst h5;exact(yj Ge tg De rfl)
theorem HC{x:Str}{p:Pos}(F:FR w B env sc ns fr h bad O)(e:yy sc x p scope Oh=true):swapsWith (.ListComp Ge [⟨tg,it,De,0⟩] scope Oh) (some (.Name x p)) pos.line env=pure true:=by
 unfold yy at e;simp only[M0,decide_eq_true_eq]at e;obtain⟨⟨e1,e2⟩,e3⟩:=e;unfold swapsWith;have hk:(env.kindOf x==some .local)=true:=by rw[F.loc x e1];rfl
 have hb:(env.blockKind== .function)=true:=by rw[gu F.kind];rfl
 have hp:(p.line==(PySem.Expr.ListComp Ge [⟨tg,it,De,0⟩] scope Oh).pos.line)=true:=e2;simp only[hk,hb,hp,e3,T4]
theorem GC{x:Str}{p:Pos}(F:FR w B env sc ns fr h bad O)(e:sc.lookup x=some .cell):swapsWith (.ListComp Ge [⟨tg,it,De,0⟩] scope Oh) (some (.Name x p)) pos.line env=pure false:=by
 unfold swapsWith;have hk:(env.kindOf x==some .local)=false:=by rw[F.cell x e];rfl
 simp only[hk,Bool.and_false,Bool.false_and]
theorem iC{xs:List Str}(h:xs.all (Yc sc)=true):∀x∈xs,Yc sc x=true:=B2.mp h
theorem iS(Bb:Bs T w B K)(I:Ev T w B lvl n){x:Str}{p:Pos}(rm:Rm lvl A)(F:FR w B env sc ns fr s.heap bad O)(S:SR pw w B bad O Z s.heap)(b0:ta B bad s.heap)(h:Wm (ja w B lvl) (PN T sc ns x p (tr T n sc ns e) (tr T (n+1) sc ns e) e) fr Z Q):wpAny (model pw w) A (exec (.Assign [.Name x p] e pos) env) (Ma w B env sc ns bad O s Q) qb s:=by
 unfold PN at h;refine fj h λi hi h=>Zt h λhx h=>?_;cases hl:ki e with|none=>rw[hl]at h;exact Zt h λhc h=>mv I (Ao hc) hx hi rm F S b0 h|some q=>rw[hl]at h;obtain⟨it,scope,Oh⟩:=q;refine XX (Ts hl) λGe tg De ez=>?_;clear hl;subst ez;refine zV h (λBr h=>mv I (GC F Br) hx hi rm F S b0 h) λBr h=>Zt h λZM h=>?_;have hp:Ml T sc it=none:=Option.isNone_iff_eq_none.mp ZM.2;have h:dc (ja w B lvl) (Vj (Mj tg) λp=>if Hp scope sc ns p.1=true/\Bf it=true then .comp (tr T n scope.names (ns++p.1) Ge) p.2 (ZQ T sc (λe=>tr T n sc ns e) (λes=>Gn T n sc ns es) p.2 it) (oD (λe=>tr T n scope.names (ns++p.1) e) De)else .bad) fr Z _:=h;refine Ri h λp ht h=>As h λhc h=>?_;unfold ZQ at h;rw[hp]at h;exact AF I (Jl _) hc.1 hc.2 ht (HC F ZM.1) hx hi rm F S b0 h
theorem gS(Bb:Bs T w B K)(I:Ev T w B lvl n)(rm:Rm lvl A)(F:FR w B env sc ns fr s.heap bad O)(S:SR pw w B bad O Z s.heap)(b0:ta B bad s.heap)(h:Wm (ja w B lvl) (MR T sc ns (λe=>tr T n sc ns e) (tr T (n+1) sc ns e) t e) fr Z Q):wpAny (model pw w) A (exec (.Assign [t] e pos) env) (Ma w B env sc ns bad O s Q) qb s:=by
 cases t with|Name=>exact iS Bb I rm F S b0 h|Tuple=>exact fj h λxs hn h=>fj h λis hi h=>Zt h λhc h=>yF I hc.1 hn (iC hc.2) (pv hi) rm F S b0 h|Attribute=>exact fj h λk hk h=>kK Bb I hk rm F S b0 h|Subscript=>exact Zt h λhs h=>aO Bb I hs rm F S b0 h|_=>exact fE h
theorem kS(Bb:Bs T w B K)(I:Ev T w B lvl n)(J:Sx T w B lvl n)(rm:Rm lvl A)(F:FR w B env sc ns fr s.heap bad O)(S:SR pw w B bad O Z s.heap)(b0:ta B bad s.heap)(h:Wm (ja w B lvl) (fF sc ns (λe=>tr T n sc ns e) t it (Gp T n sc ns b)) fr Z Q):wpAny (model pw w) A (exec (.For t it b [] pos) env) (Ma w B env sc ns bad O s Q) qb s:=by
 unfold fF at h;have fin:∀{bad:ie}{fr Ub:Fr}{Z:AH}{s s2:Shared}{O:Io}{Q:SQ}{P:Flow->Shared->Prop},FR w B env sc ns fr s.heap bad O->SR pw w B bad O Z s.heap->ta B bad s.heap->oe (ja w B lvl) (Gp T n sc ns b) Ub Z Q->
   (∀f s',Ma w B env sc ns bad O s Q f s'->P f s')->ic w B env sc ns Ub bad O s s2->wpAny (model pw w) A (execs b env) P qb s2:=λF S b0 h hP st=>by
  have S2:=ic.sr F S b0 st;have xs:=st.xs;have F2:=st.fr;refine Cp st.sh λh2 jg ez=>?_;clear st;subst ez;exact C2 (J.exs rm F2 S2 (b0.xs xs) h) (λf s' z=>hP f s' (Ma.trans xs z)) λ_ _ z=>z
 cases hn:Yj t with
 |some x=>rw[hn]at h;refine kE (Xj hn) λp ez=>?_;clear hn;subst ez;exact fj h λi hi h=>Zt h λhc h=>MA I hc.2 rm F S b0 (λ{bad fr Z s O Q x u P} F S b0 r h hP=>wpAny_assign_Name (oh F (Qe hc.1) hi r λs2 st=>fin F S b0 h hP st)) h|none=>
  rw[hn]at h;refine fj h λes he h1=>fj h1 λxs hn2 h2=>fj h2 λis hi h3=>Zt h3 λhc h4=>?_;clear h h1 h2 h3;refine Cp (GA he) λm p ez=>?_;clear he;clear hn;subst ez;have hi:=pv hi;refine MA I hc.1 rm F S b0 (λ{bad fr Z s O Q x u P} F S b0 r h hP=>?_) h4;refine Xa (ib h) λfr2 e2 h=>JA e2 λQc hp hl e3=>?_;clear e2;subst e3;have ln:Qc.length=xs.length:=by have:=C0 List.length hi;rw[R0,R0]at this;exact hl.trans this.symm
  exact Kk rm.han F hn2 (λx hxm=>Qe (iC hc.2 x hxm)) hi r hp ln λs2 st=>fin F S b0 h hP st
theorem eS(Bb:Bs T w B K)(I:Ev T w B lvl n)(J:Sx T w B lvl n){e:Stmt}(rm:Rm lvl A)(F:FR w B env sc ns fr s.heap bad O)(S:SR pw w B bad O Z s.heap)(b0:ta B bad s.heap)(h:Wm (ja w B lvl) (NR T (n+1) sc ns e) fr Z Q):wpAny (model pw w) A (exec e env) (Ma w B env sc ns bad O s Q) qb s:=by
 cases e with
 |Return o=>induction o with
  |none=>exact fE h|some e=>exact JC I rm F S b0 h
 |Expr=>exact Zt h λhc h=>jK I hc rm F S b0 h|Assign ts=>induction ts with
  |nil=>exact fE h|cons t r=>induction r with
   |cons=>exact fE h|nil=>exact gS Bb I rm F S b0 h
 |AugAssign=>refine fj h λp hp h1=>fj h1 λk ho h2=>Zt h2 λhs h3=>?_;refine kE (gK hp) λq ez=>?_;clear h hp;subst ez;exact bO Bb I ho hs rm F S b0 h3|If=>exact jS I rm F S b0 (λF S b0 h=>J.exs rm F S b0 h) (λF S b0 h=>J.exs rm F S b0 h) h|While t b r=>induction r with
  |nil=>exact xF I rm F S b0 (λF S b0 h=>J.exs rm F S b0 h) h|cons=>exact fE h
 |For t it b r=>induction r with
  |nil=>exact kS Bb I J rm F S b0 h|cons=>exact fE h
 |Break=>exact wpAny_Break ⟨.brk,fr,Z,O,s.heap,s.toks,rfl,XS.refl,S,F,trivial,h⟩|Continue=>exact wpAny_Continue ⟨.cont,fr,Z,O,s.heap,s.toks,rfl,XS.refl,S,F,trivial,h⟩|Pass=>exact wpAny_Pass ⟨.next,fr,Z,O,s.heap,s.toks,rfl,XS.refl,S,F,trivial,h⟩|_=>exact fE h
theorem sx(Bb:Bs T w B K):∀n,Sx T w B lvl n
 |0=>⟨λrm F S b0 h=>fE h,λrm F S b0 h=>fE h⟩|n+1=>by
  have I:=(ev (lvl:=lvl) Bb n).1;have J:=sx Bb n;exact⟨λrm F S b0 h=>eS Bb I J rm F S b0 h,λrm F S b0 h=>KF (λF S b0 h=>J.ex rm F S b0 h) F S b0 h⟩
end
set_option backward.match.sparseCases true
noncomputable def PT:NameKind->Bool| .local=>true| .cell=>true|_=>false
noncomputable def My(ps:List Str)(names:Sc):List Str:=(names.filter λp=>PT p.2&& !ps.contains p.1).map (·.1)
noncomputable def Ry(ps:List Str)(names:Sc):List Str:=ps++My ps names
noncomputable def Dt(ps:List Str)(names:Sc)(args:List AV):Fr:=args.map some++(My ps names).map λ_=>none
noncomputable def Et(ps:List Str)(scope:Scope):Bool:=
 decide (scope.kind= .function)&& !scope.isCoroutine&& !scope.isGenerator&&decide ps.Nodup&&ps.all (λx=>decide (scope.names.lookup x=some .local)||decide (scope.names.lookup x=some .cell))&&scope.names.all λp=>match p.2 with| .free=>false|_=>true
structure Uz(ps:List Str)(scope:Scope):Prop where
 kind:scope.kind= .function
 co:scope.isCoroutine=false
 gen:scope.isGenerator=false
 nd:ps.Nodup
 par:∀x∈ps,scope.names.lookup x=some .local\/scope.names.lookup x=some .cell
 nofree:∀p∈scope.names,p.2≠ .free
theorem Gr{ps:List Str}(h:Et ps scope=true):Uz ps scope:=by unfold Et at h;simp only[M0,decide_eq_true_eq,Bool.not_eq_true',B2,Bool.or_eq_true]at h;obtain⟨⟨⟨⟨⟨h1,h2⟩,h3⟩,h4⟩,h5⟩,h6⟩:=h;exact⟨h1,h2,h3,h4,h5,λp hp e=>by have:=h6 p hp;replace this:=e▸this;exact Lf this⟩
theorem Lg:∀{names:List (Str×NameKind)}{k:Nat}{Ra:List (Str×Addr)}{n:Str},((n,NameKind.cell)∈names\/(Ra.lookup n).isSome=true)->((cellsFrom k names Ra).lookup n).isSome=true
 |[],k,Ra,n,h=>by
  rcases h with h|h
  ·cases h
  ·exact h
 |(m,kd)::r,k,Ra,n,h=>by
  unfold cellsFrom;split
  ·refine Lg ?_;rcases h with h|h
   ·rcases K1.mp h with e|h
    ·right;rw[(Prod.mk.inj e).1,R4,beq_self_eq_true];rfl
    ·exact .inl h
   ·right;refine rr R4 ?_;cases n==m with|true=>rfl|false=>exact h
  ·rename_i hk;refine Lg ?_;rcases h with h|h
   ·rcases K1.mp h with e|h
    ·rcases e with⟨⟩;exact absurd rfl hk
    ·exact .inl h
   ·exact .inr h
theorem xm:∀{bs:List (Str×Value)}{m:Str->Option Value}{n:Str},n∉bs.map (·.1)->bindL kf bs m n=m n
 |[],_,_,_=>rfl|(k,v)::r,m,n,h=>by
  unfold bindL;simp only[K4,K1,not_or]at h;refine rr (xm h.2) ?_;split
  ·exact Y0 h.1
  ·rfl
theorem ym:∀{bs:List (Str×Value)}{m:Str->Option Value}{n:Str},n∉bs.map (·.1)->bindC kf bs m n=m n
 |[],_,_,_=>rfl|(k,v)::r,m,n,h=>by
  unfold bindC;simp only[K4,K1,not_or]at h;refine rr (ym h.2) ?_;split
  ·rfl
  ·exact Y0 h.1
theorem gh(ps:List Str)(vs:List Value)(h:ps.length=vs.length):(ps.zip vs).map (·.1)=ps:=List.map_fst_zip (D3 h)
theorem mx:∀{ps:List Str}{vs:List Value}{m:Str->Option Value}{n:Str}{i:Nat}{v:Value},ps.Nodup->ps.length=vs.length->ps[i]? =some n->vs[i]? =some v->kf n=some .local->bindL kf (ps.zip vs) m n=some v
 |[],_,_,_,_,_,_,_,h,_,_=>by simp at h
 |p::ps,[],_,_,_,_,_,h,_,_,_=>by simp at h
 |p::ps,u::vs,m,n,i,v,nd,hl,hp,hv,hk=>by
  refine kA (P3.mp nd) λn1 n2=>?_;have ln:ps.length=vs.length:=by simpa using hl
  show bindL kf (ps.zip vs) _ n=some v;induction i with
  |zero=>simp only[List.getElem?_cons_zero,Option.some.injEq]at hp hv;subst hp hv;refine rr (xm (by rw[gh _ _ ln];exact n1))<|rr (X0 hk) ?_;simp
  |succ i=>exact mx n2 ln (by simpa using hp) (by simpa using hv) hk
theorem ox:∀{ps:List Str}{vs:List Value}{m:Str->Option Value}{n:Str}{i:Nat}{v:Value},ps.Nodup->ps.length=vs.length->ps[i]? =some n->vs[i]? =some v->kf n≠some .local->bindC kf (ps.zip vs) m n=some v
 |[],_,_,_,_,_,_,_,h,_,_=>by simp at h
 |p::ps,[],_,_,_,_,_,h,_,_,_=>by simp at h
 |p::ps,u::vs,m,n,i,v,nd,hl,hp,hv,hk=>by
  refine kA (P3.mp nd) λn1 n2=>?_;have ln:ps.length=vs.length:=by simpa using hl
  show bindC kf (ps.zip vs) _ n=some v;induction i with
  |zero=>simp only[List.getElem?_cons_zero,Option.some.injEq]at hp hv;subst hp hv;refine rr (ym (by rw[gh _ _ ln];exact n1))<|rr (Y0 hk) ?_;simp
  |succ i=>exact ox n2 ln (by simpa using hp) (by simpa using hv) hk
noncomputable def xf:Fl->AV| .ret v=>v|_=> .none
theorem Bl{names:Sc}{n:Str}{k:NameKind}(h:names.lookup n=some k):(n,k)∈names:=mem_of_lookup h
section
variable{T:Tb}{sc:Sc}{ns:List Str}
theorem Rm.deeper(rm:Rm (lvl+1) A)(env:Env):Rm lvl (A.deeper env):=⟨by show A.depth+1+2*lvl<=990;have:=rm.dep;exact Fb [_,_] 22095895931442105307567282858476983118317249280 tO this,by show A.units+3+12*lvl+200<=cLine;have:=rm.un;exact Fb [_,_] 4270806031383964567503467302231178503292298523133662313260758092336620288 tO this,rm.han⟩
theorem FR.start{ps:List Str}{L a:Addr}{m cm:Str->Option Value}(hs:Uz ps fd.scope)(hg:fd.globals=mainGlobals)(hb:fd.builtins=builtinsNs)(hv:ya pw w h bad O args Ld)(hl:args.length=ps.length)(X:InCallC s (callEnvC fd L a).locals m (callEnvC fd L a).cells cm {s with heap:=h})(hL:bad L)(hc:∀n c,(callEnvC fd L a).cells.lookup n=some c->bad c)(em:m=bindL (callEnvC fd L a).kindOf (ps.zip Ld) λ_=>none)(ec:cm=bindC (callEnvC fd L a).kindOf (ps.zip Ld) λ_=>none):FR w B (callEnvC fd L a) fd.scope.names (Ry ps fd.scope.names) (Dt ps fd.scope.names args) h bad O:=by
 have lv:=ya.length hv;have ko:∀n,(callEnvC fd L a).kindOf n=fd.scope.names.lookup n:=λn=>rfl;have cs:∀n,fd.scope.names.lookup n=some .cell->∃c,(callEnvC fd L a).cells.lookup n=some c:=λn hn=>Option.isSome_iff_exists.mp (Lg (.inl (Bl hn)));refine⟨hs.kind,hg,hb,λ_=>rfl,by simp[Dt,Ry,hl],λn i av h0 h1 h2=>?_,λ_ e=>e,λ_ e=>e,λn hn=>?_,λn n' c h1 h2=>name_of_addr X.apart (mem_of_lookup h1) (mem_of_lookup h2),λn e=>?_,λn c e=>⟨_,X.cell n c e⟩,hL,hc,⟨_,X.toInCall.ns⟩⟩
 ·have hi:i<args.length:=by
   rcases Nat.lt_or_ge i args.length with hi|hi
   ·exact hi
   ·unfold Dt at h2;rw[C3 (by simpa using hi),P4]at h2;exact Xa (Option.map_eq_some_iff.mp h2) λ_ _ e=>ns e
  have e1:=Qj h1;unfold Ry at e1;rw[C1 ((C4 ‹_› (D3 ‹_›)))]at e1;unfold Dt at h2;rw[C1 (by simpa using hi),P4]at h2;refine Xa (Option.map_eq_some_iff.mp h2) λa' ha e=>?_;have e:=z0 e;clear h2;subst e;clear e;refine Xa (ya.get hv i _ ha) λv gn hr=>(Na v ?_ hr);have hk:fd.scope.names.lookup n=some .local\/fd.scope.names.lookup n=some .cell:=hs.par n (A4 e1);rcases hk with hk|hk
  ·exact .loc m (by rw[ko,hk]) X.toInCall.ns (by refine rr em ?_;exact mx hs.nd ((Eq.trans (Eq.symm ‹_›) ‹_›)) e1 gn (by rw[ko,hk]))
  ·refine kE (cs n hk) λc Pp=> .cell c (by rw[ko,hk]) Pp ?_;have:=X.cell n c Pp;rw[ec,ox hs.nd ((Eq.trans (Eq.symm ‹_›) ‹_›)) e1 gn (by rw[ko,hk];decide)]at this;exact this
 ·rcases hn with hn|hn
  ·exact⟨.inl hn,cs n hn⟩
  ·exact absurd rfl (hs.nofree _ (Bl hn))
 ·exact Nat.lt_irrefl _ (X.above n _ (mem_of_lookup e))
noncomputable def yS:Flow->Value| .ret v=>v|_=> .none
theorem zK{f:Flow}(k:Kp h h' bad' bad O O')(o:xz w h bad' O f fl):VR pw w h' bad O' (xf fl) (yS f):=by rcases f with⟨⟩<;>rcases fl with⟨⟩<;>first|exact o.elim|exact rfl|exact VR.keeps k o
theorem AK(f:Flow):(match f with| .ret v=>v|_=> .none)=yS f:=by rcases f with⟨⟩<;>rfl
theorem yL(Bb:Bs T w B K){a:Nat}{ps:List Str}(rm:Rm (lvl+1) A)(S:SR pw w B bad O Z s.heap)(b0:ta B bad s.heap)(hs:Uz ps fd.scope)(hg:fd.globals=mainGlobals)(hb:fd.builtins=builtinsNs)(hv:ya pw w s.heap bad O args Ld)(hl:args.length=ps.length)(X:InCallC s (callEnvC fd s.heap.objs.size a).locals (bindL (callEnvC fd s.heap.objs.size a).kindOf (ps.zip Ld) λ_=>none) (callEnvC fd s.heap.objs.size a).cells (bindC (callEnvC fd s.heap.objs.size a).kindOf (ps.zip Ld) λ_=>none) s1)(n:Nat)(h:oe (ja w B lvl) (Gp T n fd.scope.names (Ry ps fd.scope.names) body) (Dt ps fd.scope.names args) Z (λfl _ Z'=>Q (xf fl) Z')):wpAny (model pw w) (A.deeper (callEnvC fd s.heap.objs.size a)) (execs body (callEnvC fd s.heap.objs.size a)) (λf s'=>aa pw w B bad O s Q (match f with| .ret v=>v|_=> .none) s') qb s1:=by
 refine db X.done λh1 nc ez up=>?_;subst ez;generalize oU:callEnvC fd s.heap.objs.size a=env at*;have eL:env.locals=s.heap.objs.size:=by rw[<-oU];rfl
 have fresh:∀a,s.heap.objs.size<=a->s.heap.get? a=none:=λa ha=>by
  cases e:s.heap.get? a with|none=>rfl|some o=>exact absurd (o5 e) (Nat.not_lt.mpr ha)
 obtain⟨l,fR⟩:∃l:List Addr,∀c,c∈l↔c=env.locals\/∃n,env.cells.lookup n=some c:=by refine⟨env.locals::(env.cells.map (·.1)).filterMap (λn=>env.cells.lookup n),λc=>?_⟩;rw[K1,List.mem_filterMap];refine or_congr Iff.rfl ⟨λ⟨n,_,h⟩=>⟨n,h⟩,λ⟨n,h⟩=>(Na n (List.mem_map.mpr (Na (n,c) (mem_of_lookup h) rfl)) h)⟩
 have hlf:∀a∈l,s.heap.get? a=none:=λc hc=>by
  rcases(fR c).mp hc with rfl|⟨n,hn⟩
  ·rw[eL];exact Nc _
  ·have:=X.above n c (mem_of_lookup hn);rw[eL]at this;exact fresh _ (Nat.le_of_lt this)
 have hll:∀a∈l,∃o,h1.get? a=some o:=λc hc=>by
  rcases(fR c).mp hc with rfl|⟨n,hn⟩
  ·exact Qa X.toInCall.ns λo _ _ ho _=>⟨o,ho⟩
  ·exact Xa (X.cell n c hn) λo ho _=>⟨o,ho⟩
 have hlB:∀a∈l,B.get? a=none:=λa ha=>ro S (hlf a ha);have S1:=S.hide hlf up;have b1:=b0.hide hlB hll up;have v1:ya pw w h1 (Kb bad l) O args Ld:=ya.keeps (Kp.of_keep up) (ya.keeps (Kp.ZA (bad':=Kb bad l) λa ha=>ha.imp id (hlf a)) hv);have F1:FR w B env fd.scope.names (Ry ps fd.scope.names) (Dt ps fd.scope.names args) h1 (Kb bad l) O:=by subst oU;exact FR.start (s:={s with heap:=s.heap}) (cm:=bindC (callEnvC fd s.heap.objs.size a).kindOf (ps.zip Ld) λ_=>none) hs hg hb v1 hl ⟨⟨(Jh h1 s.toks rfl),X.toInCall.ns,X.toInCall.keep,X.toInCall.fresh⟩,X.cell,X.apart,X.above⟩ (.inr ((fR _).mpr (.inl eL.symm))) (λn c hc=> .inr ((fR _).mpr (.inr ⟨n,hc⟩))) rfl rfl
 refine Ma.bind ((sx (lvl:=lvl) Bb n).exs (s:={s with heap:=h1,toks:=nc}) (rm.deeper _) F1 S1 b1 h) λf fl Ub Z' O' h' tk x S' F' o q=>?_;have hB:∀a,Kb bad l a->B.get? a=none:=λa ha=>ha.elim (b0.off a) (hlB a);have wk:∀a,bad a->Kb bad l a:=λ_ h=> .inl h;have e:Zc O O' s.heap h':=by
  refine Xa x.more λn ez hn=>?_;clear S' F' o;subst ez;have nl:∀a o,s.heap.get? a=some o->a∉l:=λa o e z=>by rw[hlf a z]at e;exact ns e
  refine⟨(Na n rfl (λa ha=>?_)),λa o e hi=>x.keep a o (up a o e) hi (λz=>nl a o e ((fR a).mpr (.inl z))) (λn z=>nl a o e ((fR a).mpr (.inr ⟨n,z⟩))),λa o e=>x.live a o (up a o e)⟩;cases e:s.heap.get? a with|none=>rfl|some o=>have:=hn a ha;rw[up a o e]at this;cases this
 have rv:=zK (Cg (h':=h') (O:=O') wk λ_ _ _ e=>e) o;rw[AK];exact⟨xf fl,Z',O',h',tk,rfl,e,S'.free wk hB λ_ _ _ e=>e,rv,q⟩
def KY(P:Value->Shared->Prop):Result->Shared->Prop:=λr s'=>match r with| .ok (.ret v)=>P v s'|_=>False
def ge(w:World)(B:Heap)(n:Nat):CP:=λf args Z Q=>∀(A:Around)(s:Shared)(bad:ie)(O:Io)(vs:List Value),Rm n A->SR pw w B bad O Z s.heap->ta B bad s.heap->ya pw w s.heap bad O args vs->
 codeAny (model pw w) A (.call (.ref f) ⟨vs,[]⟩) (KY (aa pw w B bad O s Q)) s
theorem ge.call{f:Nat}(h:ge w B lvl f args Z Q):ja w B lvl f args Z Q:=λA s bad O vs rm S b0 hv=>
 wpAny_call (codeAny_mono (h A s bad O vs rm S b0 hv) λr s' z=>by
  induction r with
  |error e=>exact z.elim|ok v=>rcases v with⟨⟩<;>first|exact z|exact z.elim)
theorem ja.mono{f:Nat}(h:ja w B lvl f args Z Q)(hq:∀v Z',Q v Z'->Q' v Z'):ja w B lvl f args Z Q':=
 λA s bad O vs rm S b0 hv=>C2 (h A s bad O vs rm S b0 hv) (λ_ _ z=>aa.mono z hq) λ_ _ z=>z
theorem ja.up{f:Nat}(h:ja w B lvl f args Z Q)(hm:lvl<=m):ja w B m f args Z Q:=
 λA s bad O vs rm S b0 hv=>h A s bad O vs (rm.lo hm) S b0 hv
theorem Tt{R:Result->Shared->Prop}{a:Addr}{o:Obj}{args:Args}{VB:List (Str×Value)}(dU:A.depth<recursionLimit)(ho:s.heap.get? a=some o)(pU:o.data= .func fd)(hlim:s.heap.NoLimit)(qU:s.heap.CodeRec fd.code fd.qualname)(yw:fd.body= .stmts body)(Aw:BindsTo s fd args VB)(GP:fd.closure=[])(iU:∀x∈VB,fd.scope.names.lookup x.1=some .local\/(fd.scope.names.lookup x.1=some .cell/\((cellsFrom (s.heap.objs.size+1) fd.scope.names []).lookup x.1).isSome=true))(h:∀s₁,InCallC s (callEnvC fd s.heap.objs.size a).locals (bindL (callEnvC fd s.heap.objs.size a).kindOf VB λ_=>none) (callEnvC fd s.heap.objs.size a).cells (bindC (callEnvC fd s.heap.objs.size a).kindOf VB λ_=>none) s₁->wpAny (model pw w) (A.deeper (callEnvC fd s.heap.objs.size a)) (execs body (callEnvC fd s.heap.objs.size a)) (λf s'=>R (.ok (.ret (match f with| .ret v=>v|_=> .none))) s') (λe s'=>wpAny (model pw w) (A.deeper (callEnvC fd s.heap.objs.size a)) («leaving» (callEnvC fd s.heap.objs.size a) e) (λ_ s''=>R (.error e) s'') (λe' s''=>R (.error e') s'') s') s₁)(hco:fd.scope.isCoroutine=false)(hgen:fd.scope.isGenerator=false)(hk:fd.scope.kind= .function):codeAny (model pw w) A (.call (.ref a) args) R s:=by refine codeAny_call_function dU ho pU hco hgen yw qU (Aw _ _ _ _ ?_);refine rr GP<|wpAny_newFunctionEnv_cells hk iU λenv he s' x=>?_;subst he;exact⟨hlim.keeps x.toInCall.keep,codeAny_func (h s' x)⟩
theorem zL(Bb:Bs T w B K){a:Nat}{oc:Value}{od:Option Addr}{osl:Array (Option Value)}{ps:List Str}(ho:K.lookup a=some ⟨oc,od,.func fd,osl⟩)(qU:codeIn K fd.code fd.qualname=true)(yw:fd.body= .stmts body)(GP:fd.closure=[])(hsc:Et ps fd.scope=true)(hg:fd.globals=mainGlobals)(hb:fd.builtins=builtinsNs)(Aw:∀(s:Shared)(Ld:List Value),K.In s.heap->Ld.length+SL.length=ps.length->BindsTo s fd ⟨Ld,[]⟩ (ps.zip (Ld++SL)))(hd:∀h bad O,ya pw w h bad O DJ SL)(hl:args.length+DJ.length=ps.length)(n:Nat)(h:oe (ja w B lvl) (Gp T n fd.scope.names (Ry ps fd.scope.names) body) (Dt ps fd.scope.names (args++DJ)) Z (λfl _ Z'=>Q (xf fl) Z')):ge w B (lvl+1) a args Z Q:=by
 intro A s bad O vs rm S b0 hv;have hs:=Gr hsc;have X:K.In s.heap:=λa o hk=>S.keep a o (Bb.IG a o hk);have lv:=ya.length hv;have ld:=ya.length (hd s.heap bad O);refine Tt (by have:=rm.dep;show A.depth<1000;exact Fb [_,_] 160768802244580767783680369455556609 tO this) (X _ _ ho) rfl (Bb.nolim.keeps S.keep) (codeRec_of X qU) yw (Aw s vs X (o4 (Lp [_,_,_,_,_] 714298663454589647715456549632 tO hl lv ld) (Lp [_,_,_,_,_] 1348121621274622600345154543616 tO hl lv ld))) GP (λx hx=>?_) (λs1 Y=>?_) hs.co hs.gen hs.kind
 ·have hm:x.1∈ps:=(gh ps (vs++SL) (by simp;exact o4 (Lp [_,_,_,_,_] 1348121621274622600345154543616 tO hl lv ld) (Lp [_,_,_,_,_] 714298663454589647715456549632 tO hl lv ld)))▸List.mem_map_of_mem hx;rcases hs.par _ hm with e|e
  ·exact .inl e
  ·exact .inr ⟨e,Lg (.inl (Bl e))⟩
 ·exact C2 (yL Bb rm S b0 hs hg hb (ya.append hv (hd s.heap bad O)) (by simp;assumption) Y n h) (λ_ _ z=>z) λ_ _ z=>z.elim
theorem Rm.make(rm:Rm (lvl+1) A){C:Addr}:Rm lvl (A.under (.builtin "type.__call__" ⟨.ref C::Ld,[]⟩)):=
 ⟨by rw[depth_under_make];have:=rm.dep;exact Fb [_,_] 22095895931442105307567282858476983118317249280 tO this,by rw[units_under_make];have:=rm.un;exact Fb [_,_] 4270806031383964567503467302231178503292298523133662313260758090189136640 tO this,rm.han⟩
set_option tactic.hygienic true in
theorem Yo(Bb:Bs T w B K){C fI:Nat}(mk:makesIn K C=true)(hi:findIn K (.ref C) "__init__"=some (some (.ref fI)))(hf:typeIn K (.ref fI)=some (.type "function"))(h:ge w B lvl fI (.ref Z.length::args) (Z++[.inst C []]) λv Z'=>v= .none/\Q (.ref Z.length) Z'):ge w B (lvl+1) C args Z Q:=by
 intro A s bad O vs rm S b0 hv;have X:K.In s.heap:=λa o hk=>S.keep a o (Bb.IG a o hk);obtain⟨hh,g,d,t,os⟩:=s;refine make_core (makes_of X mk) (looks_findIn X hi) (λself=>bind_fn X self hf) (.inl rfl) ?_;have k:∀b o,hh.get? b=some o->((hh.push emptyDict).push (instObj C hh.objs.size)).get? b=some o:=λb o e=>J1 _ (J1 _ e);have sz:(hh.push emptyDict).objs.size=hh.objs.size+1:=Heap.size_push ..;have g1:((hh.push emptyDict).push (instObj C hh.objs.size)).get? hh.objs.size=some emptyDict:=J1 _ (J2 _ rfl);have g2:((hh.push emptyDict).push (instObj C hh.objs.size)).get? (hh.objs.size+1)=some (instObj C hh.objs.size):=rq sz<|J2 _ rfl;have fresh:∀a,hh.objs.size<=a->hh.get? a=none:=λa ha=>by
  cases e:hh.get? a with|none=>rfl|some o=>exact absurd (o5 e) (Nat.not_lt.mpr ha)
 have hn:((hh.push emptyDict).push (instObj C hh.objs.size)).Ns1 hh.objs.size λ_=>none:=(kw _ (#[]) _ g1 rfl (λe he=>by simp at he) (by simp[UniqKeys]) (λ_=>rfl));have nb:∀a,hh.objs.size<=a->¬bad a:=λa ha z=>by refine kE (b0.live a z) λo e=>?_;replace e:=fresh a ha▸e;exact ns e
 have WO:O.length=Z.length:=S.len;obtain⟨S1,x1⟩:=SR.new (p:=(hh.objs.size+1,some hh.objs.size)) (o':= .inst C []) S k (λa ha=>by
   rcases ha with rfl|ha
   ·exact(aY (fresh _ (by simp)) _ g2)
   ·have e:=z0 ha;clear ha;subst e;exact(aY (fresh _ (by simp)) _ g1)) (by simp) (λa ha=>by
   rcases ha with rfl|ha
   ·exact nb _ (by simp)
   ·have e:=z0 ha;clear ha;subst e;exact nb _ (by simp)) (sd _ _ rfl g2 hn (λn a ha=>by simp[Jb]at ha) (λs v hv=>by exact ns hv))
 have hx:VR pw w ((hh.push emptyDict).push (instObj C hh.objs.size)) bad (O++[(hh.objs.size+1,some hh.objs.size)]) (.ref Z.length) (.ref (hh.objs.size+1)):=(Na (hh.objs.size+1,some hh.objs.size) (by refine rq WO ?_;simp) rfl);refine codeAny_mono (h (A.under (.builtin "type.__call__" ⟨.ref C::vs,[]⟩)) ⟨(hh.push emptyDict).push (instObj C hh.objs.size),g,d,t,os⟩ bad _ (.ref (hh.objs.size+1)::vs) rm.make S1 (b0.ext x1) (Wa _ _ rfl hx (ya.keeps x1.kp hv))) λr s' z=>?_;induction r with
 |error e=>exact z.elim|ok v=>
  rcases v with⟨⟩<;>first|exact z.elim|skip
  rename_i v;obtain⟨av,Z',O',h',tk,rfl,x2,S2,r2,rfl,q⟩:=z;exact⟨r2,.ref Z.length,Z',O',h',tk,rfl,x1.trans x2,S2,VR.keeps x2.kp hx,q⟩
end
set_option backward.match.sparseCases false
mutual
noncomputable def qg(k:Nat):AV->Bool| .tup xs=>Ye k xs| .ba xs=>Ye k xs| .rc _ vs=>Ye k vs| .node _ a ks _ _ _=>qg k a&&Ye k ks| .qn xs=>Ye k xs| .ref i=>decide (i<k)|_=>true
noncomputable def Ye(k:Nat):List AV->Bool|[]=>true|x::xs=>qg k x&&Ye k xs
end
noncomputable def LI(k:Nat):AO->Bool| .list xs=>Ye k xs| .Ea kvs=>Ye k (kvs.map (·.2))| .gb kvs=>Ye k (kvs.map (·.2))| .we kvs=>Ye k (kvs.map (·.1))&&Ye k (kvs.map (·.2))| .inst _ fs=>fs.all λp=>qg k p.2
noncomputable def pV(k:Nat)(fs:List (Nat×AV)):Option AV:=((Jb 0 fs).bind re).bind λa=>(Jb 1 fs).bind λb=>((Jb 2 fs).bind lN).bind λks=>((Jb 3 fs).bind re).bind λf=>((Jb 4 fs).bind re).bind λt=>
 ((Jb 5 fs).bind re).bind λd=>if qg k b=true/\Ye k ks=true then some (.node a b ks f t d)else none
noncomputable def aQ(k:Nat)(o:AO):Option AV:=o.casesOn (λxs=>if Ye k xs=true then some (.ba xs)else none) (λ_=>none) (λ_=>none) (λ_=>none) (λc fs=>if c=38 then pV k fs else none)
noncomputable def ZP(k:Nat)(Z:AH)(v:AV):Option AV:=if qg k v=true then some v else(UF v).bind λi=>Z[i]?.bind (aQ k)
theorem rL{x:Int}{G:Prop}(e:(Jb n fs).bind re=some x)(k:Jb n fs=some (.int x)->G):G:=ga e λ_ e1 e2=>k (e1.trans (C0 some (ot e2)))
theorem mY{x:List AV}{G:Prop}(e:(Jb n fs).bind lN=some x)(k:Jb n fs=some (.ba x)->G):G:=ga e λ_ e1 e2=>k (e1.trans (C0 some (KB e2)))
theorem bQ{k:Nat}{v:AV}{G:Prop}(e:pV k fs=some v)(g:∀a b ks f t d,Jb 0 fs=some (.int a)->Jb 1 fs=some b->Jb 2 fs=some (.ba ks)->Jb 3 fs=some (.int f)->Jb 4 fs=some (.int t)->Jb 5 fs=some (.int d)->qg k b=true->Ye k ks=true-> .node a b ks f t d=v->G):G:=
 ga e λa e0 e=>ga e λb e1 e=>ga e λks e2 e=>ga e λf e3 e=>ga e λt e4 e=>ga e λd e5 e=>Uc e λh e=>
  rL e0 λe0=>mY e2 λe2=>rL e3 λe3=>rL e4 λe4=>rL e5 λe5=>g a b ks f t d e0 e1 e2 e3 e4 e5 h.1 h.2 (z0 e)
theorem WP{k:Nat}{v v':AV}{G:Prop}(e:ZP k Z v=some v')(k1:qg k v=true->v=v'->G)(k2:∀i o,¬i<k->v= .ref i->Z[i]? =some o->aQ k o=some v'->G):G:=by
 by_cases h:qg k v=true
 ·exact k1 h (z0 ((X0 h).symm.trans e))
 ·refine ga ((Y0 h).symm.trans e) λi e1 e=>ga e λo e2 e=>k2 i o (λz=>h ?_) (Xn e1) e2 e;exact rr (Xn e1)<|Y2 z
def vZ(Z:AH)(Q:AV->AH->Prop)(v:AV)(Z':AH):Prop:=
 ∃v',ZP Z.length Z' v=some v'/\(∀(i:Nat) o,i<Z.length->Z'[i]? =some o->Z[i]? =some o\/LI Z.length o=true)/\Q v' (Z'.take Z.length)
mutual
theorem VR.qg:∀{x:AV}{v:Value},VR prog w h bad O x v->qg O.length x=true
 | .none,_,_=>rfl| .bool _,_,_=>rfl| .int _,_,_=>rfl| .str _,_,_=>rfl| .tup xs,v,hx=>by
  refine Qa hx λa vs n ez tz=>?_;clear hx;subst ez;refine Mm tz λhf ho hs=>?_;clear tz;exact ya.qg hs
 | .ba xs,v,hx=>by
  refine Qa hx λa vs n ez tz=>?_;clear hx;subst ez;refine Mm tz λhf ho hs=>?_;clear tz;exact ya.qg hs
 | .rc ks xs,v,hx=>by
  refine db hx λa vs ez tz=>?_;clear hx;subst ez;refine wj tz λh1 hf hd hs=>?_;clear tz;exact ya.qg hs
 | .Wc kvs,v,hx=>rfl| .node _ x ks _ _ _,v,hx=>Um.k (P:=λ_=>(Mine.qg O.length x&&Ye O.length ks)=true) hx λa dx m va l vs n tk tf tt td f1 f2 f3 h1 h2 m0 m1 tP m2 h3 hs m3 m4 m5=>qy (VR.qg tP) (ya.qg hs)| .Gk _ _,v,hx=>rfl| .qn _,_,hx=>hx.elim| .ref i,v,hx=>by
  refine Xa hx λp hp ez=>?_;clear hx;subst ez;exact Y2 (B0.mp hp).1
theorem ya.qg:∀{xs:List AV}{vs:List Value},ya prog w h bad O xs vs->Ye O.length xs=true
 |[],_,hx=>rfl|x::xs,vs,hx=>by
  refine db hx λv r ez tz=>?_;clear hx;subst ez;refine kA tz λh1 h2=>?_;clear tz;exact qy (VR.qg h1) (ya.qg h2)
end
theorem jf{k:Nat}{a:Addr}(hf:Fz bad O a):Fz bad (O.take k) a:=⟨hf.1,λz=>hf.2 (by
 refine Xa (k5.mp z) λp hp ha=>?_;exact k5.mpr (Na p (List.mem_of_mem_take hp) ha))⟩
mutual
theorem VR.cut{k:Nat}:∀{x:AV}{v:Value},Mine.qg k x=true->VR prog w h bad O x v->VR prog w h bad (O.take k) x v
 | .none,_,_,hx=>hx| .bool _,_,_,hx=>hx| .int _,_,_,hx=>hx| .str _,_,_,hx=>hx| .tup xs,v,hb,hx=>by
  refine Qa hx λa vs n ez tz=>?_;clear hx;subst ez;refine Mm tz λhf ho hs=>?_;clear tz;exact(Ob a vs n rfl (jf hf) ho (ya.cut hb hs))
 | .ba xs,v,hb,hx=>by
  refine Qa hx λa vs n ez tz=>?_;clear hx;subst ez;refine Mm tz λhf ho hs=>?_;clear tz;exact(Ob a vs n rfl (jf hf) ho (ya.cut hb hs))
 | .rc ks xs,v,hb,hx=>by
  refine db hx λa vs ez tz=>?_;clear hx;subst ez;refine wj tz λh1 hf hd hs=>?_;clear tz;exact(sd a vs rfl h1 (jf hf) hd (ya.cut hb hs))
 | .Wc kvs,v,hb,hx=>by
  refine db hx λa vs ez tz=>?_;clear hx;subst ez;refine wj tz λh1 hf hd hs=>?_;clear tz;exact(sd a vs rfl h1 (jf hf) hd hs)
 | .node _ x ks _ _ _,v,hb,hx=>by
  exact Um.k (P:=VR prog w h bad (O.take k) (.node _ x ks _ _ _)) hx λa dx m va l vs n tk tf tt td f1 f2 f3 h1 h2 m0 m1 tP m2 h3 hs m3 m4 m5=>
   Um.mk a dx m va l vs n tk tf tt td (jf f1) (jf f2) (jf f3) h1 h2 m0 m1 (VR.cut (zx hb) tP) m2 h3 (ya.cut (Am hb) hs) m3 m4 m5
 | .Gk _ _,v,_,hx=>by
  refine xb hx λa t1 t2 t3 ez tz=>?_;clear hx;subst ez;refine kA tz λhf ho=>?_;clear tz;exact(Vc a t1 t2 t3 rfl (jf hf) ho)
 | .qn _,_,_,hx=>hx| .ref i,v,hb,hx=>by
  refine Xa hx λp hp ez=>?_;clear hx;subst ez;exact(Na p (rr List.getElem?_take<|rr (X0 (N0 hb)) hp) rfl)
theorem ya.cut{k:Nat}:∀{xs:List AV}{vs:List Value},Ye k xs=true->ya prog w h bad O xs vs->ya prog w h bad (O.take k) xs vs
 |[],_,_,hx=>hx|x::xs,vs,hb,hx=>by
  refine db hx λv r ez tz=>?_;clear hx;subst ez;refine kA tz λh1 h2=>?_;clear tz;exact(Wa v r rfl (VR.cut (zx hb) h1) (ya.cut (Am hb) h2))
end
theorem rH(h:Jb n fs=some a):∃p∈fs,p.2=a:=by
 induction fs with
 |nil=>exact ns h|cons q r ih=>
  induction q with
  |mk m v=>
   by_cases e:m=n
   ·exact Na _ Q4 (z0 ((X0 e).symm.trans h))
   ·exact Xa (ih ((Y0 e).symm.trans h)) λp hp e=>Na p (B4 _ hp) e
def wQ(k:Nat):AO->Prop| .inst _ fs=>∀n a,Jb n fs=some a->qg k a=true|o=>LI k o=true
theorem LI.r{k:Nat}(h:LI k o=true):wQ k o:=by
 induction o with|inst c fs=>intro n a ha;refine Xa (rH ha) λp hp ez=>?_;clear ha;subst ez;exact B2.mp h p hp|_=>exact h
theorem OR.qg{p:Addr×Option Addr}:∀{o:AO},OR prog w h bad O p o->wQ O.length o
 | .list xs,hx=>by
  refine gk hx λe vs n ho hs=>?_;clear hx;exact ya.qg hs
 | .Ea kvs,hx=>by
  refine Eh hx λe vs hd hs=>?_;clear hx;exact ya.qg hs
 | .gb kvs,hx=>by
  refine Eh hx λe vs hd hs=>?_;clear hx;exact ya.qg hs
 | .we kvs,hx=>by
  refine vj hx λe xs hd hk bR gL=>?_;clear hx;exact(M0 _ _).mpr ⟨ya.qg bR,ya.qg gL⟩
 | .inst c fs,hx=>by
  refine Dg hx λd m e ho hn h1 h2=>?_;clear hx;intro n a ha;exact Xa (h1 n a ha) λv hv hr=>VR.qg hr
theorem OR.cut{k:Nat}{p:Addr×Option Addr}:∀{o:AO},wQ k o->OR prog w h bad O p o->OR prog w h bad (O.take k) p o
 | .list xs,hb,hx=>by
  refine gk hx λe vs n ho hs=>?_;clear hx;exact(ow e vs n ho (ya.cut hb hs))
 | .Ea kvs,hb,hx=>by
  refine Eh hx λe vs hd hs=>?_;clear hx;exact(Nm e vs hd (ya.cut hb hs))
 | .gb kvs,hb,hx=>by
  refine Eh hx λe vs hd hs=>?_;clear hx;exact(Nm e vs hd (ya.cut hb hs))
 | .we kvs,hb,hx=>by
  refine vj hx λe xs hd hk bR gL=>?_;clear hx;have hb:=(M0 _ _).mp hb;exact(pt e xs hd hk (ya.cut hb.1 bR) (ya.cut hb.2 gL))
 | .inst c fs,hb,hx=>by
  refine Dg hx λd m e ho hn h1 h2=>?_;clear hx;refine(sd d m e ho hn (λn a ha=>?_) h2);exact Xa (h1 n a ha) λv hv hr=>(Na v hv (VR.cut (hb n a ha) hr))
theorem Ej{k:Nat}{p:Addr×Option Addr}{a:Addr}(hn:(uc O).Nodup)(hp:O[i]? =some p)(hi:¬i<k)(ha:a=p.1\/p.2=some a):a∉uc (O.take k):=λz=>by
 refine Xa (k5.mp z) λq hq hqa=>kE (List.mem_iff_getElem?.mp hq) λj hj=>?_;have hjk:j<k:=by
  by_cases e:j<k
  ·exact e
  ·replace hj:=Y0 e▸(List.getElem?_take▸hj);exact ns hj
 replace hj:=X0 hjk▸(List.getElem?_take▸hj);have ap:=Bm hn hp hj (Nat.ne_of_gt (Jc [_,_,_] 144186124057773057 tO hi hjk)) a ha;refine ap ?_;rcases K1.mp hqa with e|e
 ·exact .inl e
 ·exact .inr (by simpa using e)
theorem aa.cut(S:SR pw w B bad O Z s.heap)(z:aa pw w B bad O s (vZ Z Q) v s'):aa pw w B bad O s Q v s':=by
 obtain⟨av,Z',O',h',tk,rfl,x,S',r,v',hc,hO,q⟩:=z;refine Xa x.more λn ez hn=>?_;subst ez;have lk:Z.length=O.length:=S.len.symm;have et:(O++n).take O.length=O:=by simp
 have IE:(O++n).take Z.length=O:=rr lk et;refine⟨v',Z'.take Z.length,O,h',tk,rfl,⟨(Na [] (by simp) (by simp[uc])),x.keep,x.live⟩,⟨?_,λi p o e1 e2=>?_,S.nodup,λa ha=>?_,S'.keep⟩,?_,q⟩
 ·have:=S'.len;simp only[A1]at this;refine rr List.length_take ?_;lia
 ·have hi:i<Z.length:=by exact rr lk<|(B0.mp e1).1
  replace e2:=X0 hi▸(List.getElem?_take▸e2);have e3:(O++n)[i]? =some p:=rr (C1 ((C4 ‹_› (D3 ‹_›)))) e1;have o1:=S'.obj i p o e3 e2;refine rq IE<|OR.cut ?_ o1;rcases hO i o hi e2 with e|e
  ·have:=OR.qg (S.obj i p o e1 e);exact rr lk this
  ·exact LI.r e
 ·exact Mm (S'.off a (by rw[Za];exact List.mem_append_left _ ha)) λy1 y2 y3=>(sf y1 y2 y3)
 ·refine rq IE<|WP hc (λhb e=>e▸VR.cut hb r) λi o hi ei hs e=>?_;clear hc;subst ei;refine Xa r λp hp ez=>?_;clear r;subst ez;clear q;induction o with|list xs=>refine Uc e λhbx e=>z0 e▸?_;exact gk (S'.obj i p _ hp hs) λe vs m ho hv=>(Ob p.1 vs m rfl ⟨(S'.off p.1 (ub hp (.inl rfl))).2.1,Ej S'.nodup hp hi (.inl rfl)⟩ ho (ya.cut hbx hv))|inst c fs=>refine Uc e λhc3 e=>bQ e λa b ks f t d g0 g1 g2 g3 g4 g5 hb1 tU ev=>?_;clear e;clear e;subst ev;subst hc3;refine Dg (S'.obj i p _ hp hs) λdx m e ho CB h1 h2=>VK (h1 0 _ g0) λu0 m0 t0 r0=>Xa (h1 1 _ g1) λu1 m1 r1=>gD (h1 2 _ g2) λu2 m2 l vs z2 r2 fl hl hv=>VK (h1 3 _ g3) λu3 m3 t3 r3=>VK (h1 4 _ g4) λu4 m4 t4 r4=>VK (h1 5 _ g5) λu5 m5 t5 r5=>?_;have o1:=λa ha=>(S'.off a (ub hp ha)).2.1;exact Um.mk p.1 dx m u1 l vs z2 t0 t3 t4 t5 ⟨o1 _ (.inl rfl),Ej S'.nodup hp hi (.inl rfl)⟩ ⟨o1 _ (.inr e),Ej S'.nodup hp hi (.inr e)⟩ (jf fl) ho CB.ns (r0▸m0) m1 (VR.cut hb1 r1) (r2▸m2) hl (ya.cut tU hv) (r3▸m3) (r4▸m4) (r5▸m5)|_=>exact ns e
theorem ge.cut{f:Nat}(h:Ye Z.length args=true->ge w B lvl f args Z (vZ Z Q)):ge w B lvl f args Z Q:=by
 intro A s bad O vs rm S b0 hv;have hb:=ya.qg hv;replace hb:=S.len▸hb;refine codeAny_mono (h hb A s bad O vs rm S b0 hv) λr s' z=>?_;induction r with|error e=>exact z.elim|ok v=>rcases v with⟨⟩<;>first|exact z.elim|exact aa.cut S z
noncomputable def KP(P:Params):Frag:=(List.range 851).filterMap λa=>(((FB P).get a).bind alive).map λo=>(a,o)
theorem om{β:Type}:∀{l:List (Nat×β)}{a:Nat}{b:β},l.lookup a=some b->(a,b)∈l
 |(k,v)::r,n,c,h=>by
  rw[R4]at h;cases hb:n==k with
  |true=>rw[hb]at h;have e:=z0 h;clear h;subst e;exact rr (beq_iff_eq.mp hb)<|Q4
  |false=>rw[hb]at h;exact B4 _ (om h)
theorem VI(P:Params):(KP P).In (H1 P):=λa o h=>by
 have hm:=om h;refine Xa (List.mem_filterMap.mp hm) λb hb e=>Xa (Option.map_eq_some_iff.mp e) λo' Wg e=>?_;rcases e with⟨⟩
 exact Xa (Option.bind_eq_some_iff.mp Wg) λo2 h2 h3=>(abs_get (by simpa using hb) h2).trans h3
noncomputable def Ji:List (Nat×Nat):=(List.range 6).map (λn=>(38,n))++(List.range 10).map (λn=>(190,n+11))++(List.range 5).map (λn=>(551,n+6))
theorem Ak{c:Nat}(h:Ud c n=true):(c,n)∈Ji:=by
 unfold Ud at h;simp only[Bool.or_eq_true,M0,beq_iff_eq,decide_eq_true_eq]at h;unfold Ji;simp only[D2,List.mem_map,List.mem_range,Prod.mk.injEq];rcases h with(⟨rfl,h⟩|⟨rfl,h⟩)|⟨rfl,h⟩
 ·exact .inl (.inl (Kf n ((D4 ‹_› (N0 rfl))) rfl rfl))
 ·exact .inl (.inr (Kf (n-11) (by lia) rfl (P1 (Fb [_] 3238407450400 tO h.1))))
 ·exact .inr (Kf (n-6) (by lia) rfl (P1 (Fb [_] 1864017910560 tO h.1)))
noncomputable def qi:Option (Option Value)->Bool|some none=>true|_=>false
theorem xj{x:Option (Option Value)}(h:qi x=true):x=some none:=by
 unfold qi at h;split at h
 ·rfl
 ·exact Lf h
noncomputable def gi:List (Nat×Nat×Nat):=[(190,21,187),(190,22,180),(551,23,499),(551,26,506),(551,24,513),(551,25,520)]
theorem tm{α:Type}{p:Prop} [Decidable p]{a b:Option α}{r:α}{G:Prop}(e:(if p then a else b)=some r)(k1:p->a=some r->G)(k2:b=some r->G):G:=by
 by_cases h:p
 ·replace e:=X0 h▸e;exact k1 h e
 ·replace e:=Y0 h▸e;exact k2 e
theorem Sq{c f c' n' f':Nat}(m:(c',n',f')∈gi)(e1:c=c')(e2:n=n')(e3:some f'=some f):(c,n,f)∈gi:=rr e1<|rr e2<|rq (z0 e3) m
theorem ak{c f:Nat}(h:xo c n=some f):(c,n,f)∈gi:=
 tm h (λe h=>tm h (λe2=>Sq (.head _) e e2) λh=>tm h (λe2=>Sq (.tail _ (.head _)) e e2) ns)
  λh=>tm h (λe h=>tm h (λe2=>Sq (.tail _ (.tail _ (.head _))) e e2) λh=>tm h (λe2=>Sq (.tail _ (.tail _ (.tail _ (.head _)))) e e2)
   λh=>tm h (λe2=>Sq (.tail _ (.tail _ (.tail _ (.tail _ (.head _))))) e e2) λh=>tm h (λe2=>Sq (.tail _ (.tail _ (.tail _ (.tail _ (.tail _ (.head _)))))) e e2) ns) ns
section
variable(P:Params)
theorem eP:Ji.all (λp=>plainGet (KP P) p.1 (nm p.2)&&hasDictIn (KP P) p.1&&qi (findIn (KP P) (.ref p.1) (nm p.2)))=true:=by kernel_rfl
theorem dP:Ji.all (λp=>(findIn (KP P) (.ref p.1) "__setattr__"==some (some (.builtin "object.__setattr__")))&&plainOver (KP P) p.1&&qi (takerIn (KP P) p.1 (nm p.2)))=true:=by kernel_rfl
theorem nB:gi.all (λp=>plainGet (KP P) p.1 (nm p.2.1)&&(findIn (KP P) (.ref p.1) (nm p.2.1)==some (some (.ref p.2.2)))&&isFn (KP P) (.ref p.2.2)&&keepIn (KP P) (.ref p.2.2))=true:=by kernel_rfl
theorem ko:yW (KP P):=by
 refine⟨λc n h=>?_,λc n h=>?_,λc n f h=>?_⟩
 ·have:=B2.mp (eP P) _ (Ak h);simp only[M0]at this;exact(sf this.1.1 this.1.2 (xj this.2))
 ·have:=B2.mp (dP P) _ (Ak h);simp only[M0,beq_iff_eq]at this;exact(sf this.1.1 this.1.2 (xj this.2))
 ·have:=B2.mp (nB P) _ (ak h);simp only[M0,beq_iff_eq]at this;exact(sf this.1.1.1 this.1.1.2 this.1.2)
theorem aD(c n f:Nat)(h:xo c n=some f):keepIn (KP P) (.ref f)=true:=by have:=B2.mp (nB P) _ (ak h);simp only[M0]at this;exact this.2
theorem pL:∃o,(H1 P).get? 1=some o:=by
 have h:((H1 P).get? 1).isSome=true:=by kernel_rfl
 exact Option.isSome_iff_exists.mp h
end
end
noncomputable def dk(f:Nat):Nat->List Nat->List Nat:=f.rec (λ_ a=>a) λ_ ih n a=>bif Nat.beq n 0 then a else ih (n/256) (n%256::a)
noncomputable def MP:List (Nat×Nat):=[(0x5f6c61775f6e6f6465,688),(0x5f6c61775f736179,737),(0x5f6c61775f636f6e64,723),(0x5f6c61775f6d6179,772),(0x7475726e5f636f6e64,643),(0x5f6c61775f72756e,758),(0x5f6c61775f74616b65,681),(0x7075745f74657374,596),(0x62617265,56),(0x5f6c61775f7374657073,695),(0x5f6c61775f70617468,702),(0x7465737465645f6b6579,91),(0x70617274735f6f66,208),(0x7475726e5f706c61696e,674),(0x756e696f6e,248),(0x5f6c61775f77616c6b,709),(0x66616d696c79,302),(0x5f6c61775f74656c6c73,765),(0x5f6c61775f776f7264,744),(0x696e6e6572,563),(0x7475726e5f657175616c,615),(0x5f6c61775f747970656f66,730),(0x5f6c61775f7269676874,798),(0x5f6c61775f656e76,784),(0x686f6c6465725f6b6579,570),(0x636861696e5f686f6c6473,577),(0x69735f6e756c6c6973685f66616d696c79,309),(0x6d61795f62655f6e756c6c697368,428),(0x6d656d6265725f6e616d65,70),(0x77686f6c655f6f665f726f77,215),(0x6c69746572616c5f6b6579,63),(0x636f6e6365726e73,584),(0x7265665f6b6579,84),(0x7461726765745f6b657973,471),(0x7475726e5f6d6973736564,662),(0x7475726e5f686974,655),(0x5f6c61775f6c656166,716),(0x7061747465726e5f6c6561766573,459),(0x41736b6572,551),(0x69735f7468657265,589),(0x72656d6f76655f6e756c6c697368,452),(0x696e746572,420),(0x5f6c61775f6c697374,791),(0x746f705f6f66,243),(0x6a6f696e5f626f6f6c73,229),(0x73746179735f626573696465,236),(0x69735f7472757468,648),(0x6e6f745f6e756c6c697368,447),(0x5f6c61775f68697473,831),(0x5f6c61775f74616b656e,838),(0x5f6c61775f636c61757365,817),(0x5f6c61775f636c617573655f6e6f6465,824),(0x726567756c61725f7477696e,222),(0x726f6f745f6b6579,77),(0x686173,49),(0x5f6c61775f72756e5f6c656166,751),(0x7475726e5f62696e617279,622),(0x7475726e5f6c6f676963,629),(0x7475726e5f676976656e,636),(0x547970655461626c65,190),(0x5f6c61775f776f726c64,777),(0x5f6c61775f77686f6c65,803),(0x5f6c61775f7468657265,810),(0x5f6c61775f737769746368,843),(0x4e6f6465,38),(0x747970656f665f776f7264,603),(0x736574735f77697468696e,608),(0x7461726765745f6e6f646573,466),(0x7475726e5f63617365,667)]
noncomputable def LP:List (Nat×Int):=[(0x554e4b4e4f574e,1),(0x4b5f504152454e,33),(0x4b5f434841494e,20),(0x4b5f535452,2),(0x414e59,0),(0x4e45564552,2),(0x4b5f4e4f4e4e554c4c,32),(0x4b5f554e415259,21),(0x4b5f42494e415259,23),(0x4c5f54525545,5),(0x535452494e47,6),(0x4b5f4d454d424552,16),(0x4b5f4e554d,1),(0x4e554c4c54,5),(0x554e444546,4),(0x454d505459,11),(0x4e554d424552,7),(0x4b5f494e444558,17),(0x4b5f41535349474e,25),(0x595f554e494f4e,6),(0x46414d5f4f54484552,0),(0x4b5f4e414d45,8),(0x46414d5f554e444546,5),(0x4c5f46414c5345,6),(0x564f4944,3),(0x4b5f54525545,4),(0x46414d5f4e554c4c,4),(0x46414d5f564f4944,6),(0x4b5f54504c,3),(0x4b5f43414c4c,18),(0x595f4f424a,8),(0x455252,13),(0x46414d5f424f4f4c,3),(0x595f494e544552,7),(0x4b5f43415345,51),(0x4c5f43415345,8),(0x4b5f4c4f474943,24),(0x465f4f5054434841494e,1),(0x515f545950454f46,2),(0x515f455155414c,3),(0x46414c53455f54,8),(0x545255455f54,9),(0x515f50524544,7),(0x4b5f46554e43,27),(0x4b5f434c415353,61),(0x4b5f555044415445,22),(0x595f4b4559,1),(0x595f424f4f4c,2),(0x46414d5f4f424a,7),(0x46414d5f535452,1),(0x46414d5f4e554d,2),(0x595f504152414d,10),(0x595f494e444558,15),(0x595f434f4e44,16),(0x595f414c494153,19),(0x595f4d4150504544,17),(0x4b5f54484953,9),(0x4b5f53484f5254,14),(0x4d41585f554e494f4e,400),(0x515f494e,5),(0x515f494e5354414e4345,6),(0x595f4e554d,4),(0x595f454e554d,5),(0x595f535452,3),(0x595f54504c,18),(0x4b5f42494e44,36),(0x4b5f4153,29),(0x4b5f534154495346494553,31),(0x4b5f4f424a504154,34),(0x4b5f415252504154,35),(0x4b5f535749544348,50),(0x4b5f46414c5345,5),(0x4c5f534554,4),(0x4c5f43414c4c,7),(0x4c5f4a4f494e,2),(0x515f5452555448,1),(0x4b5f564152,41),(0x4b5f4c495354,71),(0x46524553485f46,14),(0x46524553485f54,15),(0x515f5448455245,4)]
noncomputable def GB:List (List Nat×GV):=MP.map (λp=>(dk 40 p.1 [],.fn p.2))++(LP.map (λp=>(dk 40 p.1 [],.val (.int p.2)))++List.map (λp=>(dk 40 p.1 [],p.2)) [
 (0x6c656e,.bi 0),
 (0x72616e6765,.bi 1),
 (0x737472,.bi 8),
 (0x616c6c,.bi 5),
 (0x736f72746564,.bi 2),
 (0x656e756d6572617465,.bi 7),
 (0x4f424a4543545f524f5753,.val (.tup [.int 8,.int 9,.int 11,.int 12,.int 13])),
 (0x4b45595f46414d494c494553,.val (.Wc [(3,6),(4,5),(5,4),(6,1),(7,2),(10,7)])),
 (0x7475706c65,.bi 3),
 (0x46495253545f524f5753,.val (.tup [.tup [.int 1,.str [97,110,121]],.tup [.int 1,.str [117,110,107,110,111,119,110]],.tup [.int 1,.str [110,101,118,101,114]],.tup [.int 1,.str [118,111,105,100]],.tup [.int 1,.str [117,110,100,101,102,105,110,101,100]],.tup [.int 1,.str [110,117,108,108]],.tup [.int 1,.str [115,116,114,105,110,103]],.tup [.int 1,.str [110,117,109,98,101,114]],.tup [.int 2,.int 0,.int 0],.tup [.int 2,.int 1,.int 0],.tup [.int 1,.str [111,98,106,101,99,116]],.tup [.int 8,.tup [],.tup [],.tup [],.tup [],.tup [],.int 0],.tup [.int 6,.tup [.int 8,.int 9]],.tup [.int 1,.str [101,114,114,111,114]],.tup [.int 2,.int 0,.int 1],.tup [.int 2,.int 1,.int 1]])),
 (0x54525554485f5349474e53,.val (.tup [.str [61,61,61],.str [33,61,61],.str [61,61],.str [33,61],.str [60],.str [62],.str [60,61],.str [62,61],.str [105,110],.str [105,110,115,116,97,110,99,101,111,102]])),
 (0x4d41524b45445f524f5753,.val (.tup [.int 2,.int 3,.int 4,.int 5,.int 8])),
 (0x616e79,.bi 6),
 (0x6c697374,.bi 4)])
noncomputable def ON:List (Nat×Nat):=[(163,20),(165,21),(166,22),(167,24),(168,21),(480,10),(481,12),(604,14),(692,10),(949,11),(968,15),(1054,11),(1065,8)]
noncomputable def iV:List (Nat×Nat×Nat):=[(164,21,3),(169,23,1),(170,23,1),(223,10,1),(504,21,1),(829,11,0),(832,11,0),(895,8,2),(895,36,1),(902,77,0),(904,18,0),(904,30,0),(916,89,0),(921,11,1),(921,51,0),(922,11,2)]
noncomputable def TT:Tb where
 glob n:=GB.lookup n.cps.toList
 trk p:=ON.any λx=>x.1==p.line&&x.2==p.col
 dm p:=match iV.find? λx=>x.1==p.line&&x.2.1==p.col with|some x=>x.2.2|none=>0
variable{a nl np:Nat}{d:Data}{ih:AV->Value->Bool}
section
open PySem.Calls PySem.SeqAt
theorem Xy:∀{ps:List Str}{vs:List Value},ps.Nodup->ps.length=vs.length->ps.filterMap (λn=>((ps.zip vs).lookup n).map (n,·))=ps.zip vs:=by
 intro ps vs nd hl;have gen:∀(qs:List Str)(us:List Value),qs.length=us.length->qs.Nodup->(∀q∈qs,∀(i:Nat),qs[i]? =some q->(ps.zip vs).lookup q=us[i]?)->qs.filterMap (λn=>((ps.zip vs).lookup n).map (n,·))=qs.zip us:=by
  intro qs;induction qs with
  |nil=>intro us _ _ _;rfl|cons q qs ih=>
   intro us hl nd h;induction us with
   |nil=>cases hl|cons u us=>
    have h0:(ps.zip vs).lookup q=some u:=h q (by simp) 0 rfl;rw[List.filterMap_cons,h0];simp only[d5,List.zip_cons_cons];rw[ih us (by simpa using hl) (P3.mp nd).2 λq' hq' i hi=>by
     have:=h q' (by simp[hq']) (i+1) (by simpa using hi);simpa using this]
 refine gen ps vs hl nd λq hq i hi=>?_;clear gen;induction ps generalizing vs i with
 |nil=>simp at hi|cons p ps ih=>
  induction vs with
  |nil=>cases hl|cons v vs=>
   simp only[List.zip_cons_cons,R4];induction i with
   |zero=>simp at hi;subst hi;simp|succ i=>
    have kH:ps[i]? =some q:=by simpa using hi
    have hm:q∈ps:=A4 kH;have pg:q≠p:=λz=>(P3.mp nd).1 (z▸hm);have:(q==p)=false:=by simpa using pg
    rw[this];simpa using ih (P3.mp nd).2 (by simpa using hl) hm i kH
theorem Ug:∀{ps:List Str}{vs:List Value}{n:Str},ps.length=vs.length->n∈ps->((ps.zip vs).lookup n).isNone=false
 |p::ps,[],n,hl,_=>by cases hl
 |p::ps,v::vs,n,hl,hn=>by
  rw[List.zip_cons_cons,R4];cases e:n==p with|true=>rfl|false=>exact Ug (Nat.succ.inj hl) ((K1.mp hn).elim (λz=>absurd (beq_iff_eq.mpr z) (by rw[e];exact Q2)) id)
theorem Kz{ps:List Str}(h1:fd.params.posonlyargs=[])(h2:fd.params.args.map (·.arg)=ps)(h3:fd.params.kwonlyargs=[])(h4:fd.params.vararg=none)(h5:fd.params.kwarg=none)(h6:fd.defaults= .none)(nd:ps.Nodup)(hl:Ld.length=ps.length):bindArgs fd ⟨Ld,[]⟩=pure (ps.zip Ld):=by
 induction fd with|mk a b c d e f g h i j k l m n bu=>
 cases c with|mk p1 p2 p3 p4 p5 p6 p7=>
 rcases h1 with⟨⟩;rcases h2 with⟨⟩;rcases h3 with⟨⟩;rcases h4 with⟨⟩;rcases h5 with⟨⟩;rcases h6 with⟨⟩;have hl:Ld.length=(p2.map Arg.arg).length:=hl;have nd:(p2.map Arg.arg).Nodup:=nd;have c1:¬(decide (Ld.length>((p2.map Arg.arg).length:Nat))&&true)=true:=by rw[hl,T4,decide_eq_true_eq];exact Nat.lt_irrefl _
 have c2:¬(!(((p2.map Arg.arg).take ((p2.map Arg.arg).length-(List.drop (0-(p2.map Arg.arg).length) ([]:List Value)).length)).filter λn=>(((p2.map Arg.arg).zip Ld).lookup n).isNone).isEmpty)=true:=by rw[Bool.not_eq_true,Bool.not_eq_false',List.isEmpty_iff,List.filter_eq_nil_iff];intro n hn;rw[Ug hl.symm (List.mem_of_mem_take hn)];exact Q2
 have hz:(List.drop ((p2.map Arg.arg).length-(List.drop (0-(p2.map Arg.arg).length) ([]:List Value)).length) (p2.map Arg.arg)).zip (List.drop (0-(p2.map Arg.arg).length) ([]:List Value))=[]:=by rw[List.drop_nil,List.zip_nil_right]
 refine(Y0 c1:ite _ _ _=_).trans ((Y0 c2:ite _ _ _=_).trans ((C0 (λdz=>(forIn dz _ _>>=_:Sem _)) hz).trans ?_));refine(?_:(pure (((p2.map Arg.arg)++[]).filterMap λn=>(((p2.map Arg.arg).zip Ld).lookup n).map λx=>(n,x)):Sem _)=_);rw[K2,Xy nd hl.symm]
noncomputable def PJ(v:Value):Option Int:=v.casesOn none none none (λ_=>none) (λi _=>some i) (λ_ _=>none) (λ_ _=>none) (λ_ _=>none) (λ_=>none) (λ_=>none) (λ_=>none)
noncomputable def AR(v:Value):Option Str:=v.casesOn none none none (λ_=>none) (λ_ _=>none) (λ_ _=>none) (λs _=>some s) (λ_ _=>none) (λ_=>none) (λ_=>none) (λ_=>none)
noncomputable def IN(v:Value):Option Addr:=v.casesOn none none none (λ_=>none) (λ_ _=>none) (λ_ _=>none) (λ_ _=>none) (λ_ _=>none) (λ_=>none) (λ_=>none) some
noncomputable def qS(d:Data):Option (List Value×Nat):=d.casesOn none (λ_=>none) (λa m=>some (a.toList,m)) (λ_ _=>none) (λ_ _ _=>none) (λ_ _=>none) (λ_=>none) (λ_=>none) (λ_=>none) (λ_=>none) none
noncomputable def jV(d:Data):Option (Array DictEntry×Nat):=d.casesOn none (λ_=>none) (λ_ _=>none) (λa m=>some (a,m)) (λ_ _ _=>none) (λ_ _=>none) (λ_=>none) (λ_=>none) (λ_=>none) (λ_=>none) none
noncomputable def vO(o:Obj)(t:String):Bool:=(o.cls== .type t)&&o.dict.isNone&&o.slots.size==0
theorem Ds{i:Int}(h:PJ v=some i):∃t,v= .int i t:=by
 cases v with|int j t=>exact⟨t,C0 (Value.int · t) (z0 h)⟩|_=>exact ns h
theorem OJ{s:Str}(h:AR v=some s):∃t,v= .str s t:=by
 cases v with|str j t=>exact⟨t,C0 (Value.str · t) (z0 h)⟩|_=>exact ns h
theorem CA{a:Addr}(h:IN v=some a):v= .ref a:=by
 cases v with|ref b=>exact C0 Value.ref (z0 h)|_=>exact ns h
theorem uK{p:List Value×Nat}(h:qS d=some p):d= .seq p.1.toArray p.2:=by
 cases d with|seq a m=>rw[<-z0 h]|_=>exact ns h
theorem UL{p:Array DictEntry×Nat}(h:jV d=some p):d= .dict p.1 p.2:=by
 cases d with|dict a m=>rw[<-z0 h]|_=>exact ns h
theorem VA{o:Obj}{t:String}(h:vO o t=true)(e:o.data=d):o={cls:= .type t,data:=d}:=by
 have h:=(M0 _ _).mp h;have h1:=(M0 _ _).mp h.1;induction o with|mk c q dd sl=>exact congr (congr (congr (C0 Obj.mk (eq_of_beq h1.1)) (Option.isNone_iff_eq_none.mp h1.2)) e) (Array.eq_empty_of_size_eq_zero (eq_of_beq h.2))
noncomputable def ER(K:Frag)(ih:AV->Value->Bool)(xs:List AV)(u:Value):Bool:=((IN u).bind λa=>(K.lookup a).bind λo=>(qS o.data).map λp=>vO o "tuple"&&xs.length==p.1.length&&(xs.zip p.1).all λp=>ih p.1 p.2)==some true
noncomputable def ET(p:DictEntry×Int×Int):Bool:=PJ p.1.key==some p.2.1&&PJ p.1.val==some p.2.2&&p.1.hash==hashInt p.2.1
noncomputable def lV(K:Frag)(kvs:List (Int×Int))(u:Value):Bool:=((IN u).bind λa=>(K.lookup a).bind λo=>(jV o.data).map λp=>a !=1&&(vO o "dict"&&(decide (kvs.map (·.1)).Nodup&&(p.1.toList.length==kvs.length&&(p.1.toList.zip kvs).all ET))))==some true
noncomputable def DW(K:Frag)(ih:AV->Value->Bool)(v:AV)(u:Value):Bool:=v.casesOn false (λ_=>false) (λi=>PJ u==some i) (λs=>AR u==some (Pa s)) (λxs=>ER K ih xs u) (λ_=>false) (λ_ _=>false) (λkvs=>lV K kvs u) (λ_ _ _ _ _ _=>false) (λ_ _=>false) (λ_=>false) (λ_=>false)
noncomputable def SE(K:Frag):Nat->AV->Value->Bool:=Nat.rec (DW K λ_ _=>false) λ_ ih=>DW K ih
theorem MJ:∀{xs:List AV}{vs:List Value},xs.length=vs.length->(∀p∈xs.zip vs,VR pw w h bad O p.1 p.2)->ya pw w h bad O xs vs:=by
 intro xs;induction xs with
 |nil=>intro vs hl _;cases vs with
  |nil=>exact rfl|cons=>exact absurd hl.symm (Nat.succ_ne_zero _)
 |cons x xs ih=>intro vs hl h;cases vs with
  |nil=>exact absurd hl (Nat.succ_ne_zero _)|cons v vs=>exact Wa v vs rfl (h (x,v) Q4) (ih (Nat.succ.inj hl) λp hp=>h p (B4 _ hp))
theorem oZ(a:Addr):Fz (λ_=>False) [] a:=⟨id,by simp[uc]⟩
theorem Mv:∀{es:List DictEntry}{kvs:List (Int×Int)},es.length=kvs.length->(∀p∈es.zip kvs,∃t v t',p.1.key= .int p.2.1 t/\p.1.val=v/\v= .int p.2.2 t'/\p.1.hash=hashInt p.2.1)->∃vs,Pairs (intKind pw w) es ((kvs.map (·.1)).zip vs)/\IntsAre vs (kvs.map (·.2))/\vs.length=kvs.length/\∀e∈es,∃k,(intKind pw w).is k e.key=true/\e.hash=(intKind pw w).hash k
 |[],[],_,_=>(aH [] .nil .nil rfl (λe he=>by cases he))|e::es,(k,x)::kvs,hl,h=>by
  refine Wf (h (e,(k,x)) (by simp)) λt v t' h1 h2 h3 h4=>?_;refine aw (Mv (es:=es) (kvs:=kvs) (by simpa using hl) λp hp=>h p (by simp[hp])) λvs p i l q=>?_;have hk:(intKind pw w).is k e.key=true:=by rw[h1];exact intKind_is pw w k t
  refine(aH (v::vs) (.cons hk h2 p) ?_ (by simp[l]) (λe' he=>?_))
  ·subst h3;exact .cons _ _ i
  ·rcases K1.mp he with rfl|he
   ·exact(Na k hk h4)
   ·exact q e' he
set_option tactic.hygienic true in
theorem yZ(X:K.In B){kvs:List (Int×Int)}(h:lV K kvs u=true):VR pw w B (λ_=>False) [] (.Wc kvs) u:=
 ga (eq_of_beq h) λa ea h=>ga h λo eo h=>Fc h λp ep h=>by
  have h:=(M0 _ _).mp h;have h2:=(M0 _ _).mp h.2;have h3:=(M0 _ _).mp h2.2;have h4:=(M0 _ _).mp h3.2;have hl:=eq_of_beq h4.1;have nH:=B2.mp h4.2;refine aw (Mv (w:=w) hl λp hp=>?_) λvs hp hi hvl hk=>?_
  ·have z:=(M0 _ _).mp (nH p hp);have z1:=(M0 _ _).mp z.1;exact kE (Ds (eq_of_beq z1.1)) λt h1=>kE (Ds (eq_of_beq z1.2)) λt' h2=>Ob t _ t' h1 rfl h2 (eq_of_beq z.2)
  ·rw[CA ea];refine sd a vs rfl (bne_iff_ne.mp h.1) (oZ a) (yi _ p.1 p.2 ((X _ _ eo).trans (C0 some (VA h2.1 (UL ep)))) (sf rfl rfl rfl) rfl (λe he=>hk e (Array.mem_toList_iff.mpr he)) hp ?_) hi;rw[List.map_fst_zip (D3 (by rw[R0,hvl]))];exact N0 h3.1
theorem xZ(X:K.In B)(h0:∀v u,ih v u=true->VR pw w B (λ_=>False) [] v u){xs:List AV}(h:ER K ih xs u=true):VR pw w B (λ_=>False) [] (.tup xs) u:=
 ga (eq_of_beq h) λa ea h=>ga h λo eo h=>Fc h λp ep h=>by
  have h:=(M0 _ _).mp h;have h1:=(M0 _ _).mp h.1;have nH:=B2.mp h.2;rw[CA ea];exact Ob a p.1 p.2 rfl (oZ a) ((X _ _ eo).trans (C0 some (VA h1.1 (uK ep)))) (MJ (eq_of_beq h1.2) λp hp=>h0 _ _ (nH p hp))
theorem TE(X:K.In B)(h0:∀v u,ih v u=true->VR pw w B (λ_=>False) [] v u)(v:AV)(u:Value)(h:DW K ih v u=true):VR pw w B (λ_=>False) [] v u:=by
 cases v with|int i=>exact Ds (eq_of_beq h)|str s=>exact OJ (eq_of_beq h)|tup xs=>exact xZ X h0 h|Wc kvs=>exact yZ X h|_=>exact Lf h
set_option tactic.hygienic true in
theorem RE(X:K.In B)(n:Nat):∀(v:AV)(u:Value),SE K n v u=true->VR pw w B (λ_=>False) [] v u:=by
 induction n with|zero=>exact TE X λ_ _=>Lf|succ n ih=>exact TE X ih
noncomputable def jN(K:Frag)(p:List Nat×GV):Bool:=match p.2 with| .val v=>((nsIn K mainGlobals (Pa p.1)).bind λo=>o.map (SE K 6 v))==some true| .fn f=>nsIn K mainGlobals (Pa p.1)==some (some (.ref f))&&keepIn K (.ref f)| .bi k=>qi (nsIn K mainGlobals (Pa p.1))&&nsIn K builtinsNs (Pa p.1)==some (some (QD k))
theorem jB{β:Type}:∀{l:List (List Nat×β)}{a:List Nat}{b:β},l.lookup a=some b->(a,b)∈l
 |(k,v)::r,n,c,h=>by
  rw[R4]at h;cases hb:n==k with|true=>rw[hb]at h;have e:=z0 h;subst e;clear h;rw[beq_iff_eq.mp hb];exact Q4|false=>rw[hb]at h;exact B4 _ (jB h)
section
variable(P:Params)
theorem qL:GB.all (jN (KP P))=true:=by kernel_rfl
theorem GU:(H1 P).isNs mainGlobals=true:=by kernel_rfl
theorem HU:(H1 P).isNs builtinsNs=true:=by kernel_rfl
theorem FU:(H1 P).isNs cStatics=true:=by kernel_rfl
theorem IP:(H1 P).nsMap cStatics "sys.recursionlimit"=none:=by kernel_rfl
theorem zt{n:Str}{g:GV}(h:TT.glob n=some g):jN (KP P) (n.cps.toList,g)=true:=B2.mp (qL P) _ (jB h)
set_option tactic.hygienic true in
theorem bs(w:World):Bs TT w (H1 w.params) (KP w.params)where
 mods:=pL _
 IG:=VI _
 ko:=ko _
 nolim:=(Na _ (.of_isNs (FU _)) (IP _))
 gl:=⟨_,.of_isNs (GU _)⟩
 bl:=⟨_,.of_isNs (HU _)⟩
 val:=λn v h=>by
  have g:=zt w.params h;replace g:(((nsIn (KP w.params) mainGlobals (Pa n.cps.toList)).bind λo=>o.map (SE (KP w.params) 6 v))==some true)=true:=g;rw[Xh]at g;exact ga (eq_of_beq g) λo eo g=>Fc g λu eu g=>Na u (eo.trans (C0 some eu)) (RE (VI _) _ _ _ g)
 fn:=λn f h=>by
  have g:=zt w.params h;replace g:(nsIn (KP w.params) mainGlobals (Pa n.cps.toList)==some (some (.ref f))&&keepIn (KP w.params) (.ref f))=true:=g;rw[Xh]at g;exact⟨eq_of_beq ((M0 _ _).mp g).1,((M0 _ _).mp g).2⟩
 bi:=λn k h=>by
  have g:=zt w.params h;replace g:(qi (nsIn (KP w.params) mainGlobals (Pa n.cps.toList))&&nsIn (KP w.params) builtinsNs (Pa n.cps.toList)==some (some (QD k)))=true:=g;rw[Xh]at g;exact⟨xj ((M0 _ _).mp g).1,eq_of_beq ((M0 _ _).mp g).2⟩
 Dc:=aD _
end
@[irreducible] noncomputable def Cd(P:Params)(a:Nat):FuncData:=match(KP P).lookup a with|some ⟨_,_,.func fd,_⟩=>fd|_=>default
noncomputable def Iz(fd:FuncData):List Stmt:=match fd.body with| .stmts b=>b|_=>[]
noncomputable def Ag(fd:FuncData):List Str:=fd.params.args.map (·.arg)
noncomputable def NU(P:Params)(a np nl:Nat)(plain:Bool):Bool:=(match(KP P).lookup a with|some ⟨_,_,.func _,_⟩=>true|_=>false)&&codeIn (KP P) (Cd P a).code (Cd P a).qualname&&
 (match(Cd P a).body with| .stmts _=>true|_=>false)&&(Cd P a).closure.isEmpty&&Et (Ag (Cd P a)) (Cd P a).scope&&((Cd P a).globals==mainGlobals)&&((Cd P a).builtins==builtinsNs)&&
 (Cd P a).params.posonlyargs.isEmpty&&(Cd P a).params.kwonlyargs.isEmpty&&(Cd P a).params.vararg.isNone&&(Cd P a).params.kwarg.isNone&&(!plain||((Cd P a).defaults== .none))&&((Ag (Cd P a)).length==np)&&((My (Ag (Cd P a)) (Cd P a).scope.names).length==nl)
noncomputable def WJ(P:Params)(a:Nat):List C:=Gp TT 60 (Cd P a).scope.names (Ry (Ag (Cd P a)) (Cd P a).scope.names) (Iz (Cd P a))
noncomputable def Lh(args:List AV)(nl:Nat):Fr:=args.map some++List.replicate nl none
set_option tactic.hygienic true in
theorem HB{body:List C}{plain:Bool}(hB:NU w.params a np nl plain=true)(hb:WJ w.params a=body)(hd:∀h bad O,ya pw w h bad O DJ SL)(Aw:∀(s:Shared)(Ld:List Value),(KP w.params).In s.heap->Ld.length+SL.length=np->BindsTo s (Cd w.params a) ⟨Ld,[]⟩ ((Ag (Cd w.params a)).zip (Ld++SL)))(hl:args.length+DJ.length=np)(h:oe (ja w (H1 w.params) lvl) body (Lh (args++DJ) nl) Z (λfl _ Z'=>Q (xf fl) Z')):ge w (H1 w.params) (lvl+1) a args Z Q:=by
 unfold NU at hB;simp only[M0,beq_iff_eq,List.isEmpty_iff]at hB;obtain⟨⟨⟨⟨⟨⟨⟨⟨⟨⟨⟨⟨⟨b1,b2⟩,b3⟩,b4⟩,b5⟩,b6⟩,b7⟩,b8⟩,b9⟩,b10⟩,b11⟩,b12⟩,b13⟩,b14⟩:=hB;obtain⟨oc,od,osl,ho⟩:∃oc od osl,(KP w.params).lookup a=some ⟨oc,od,.func (Cd w.params a),osl⟩:=by
  split at b1
  ·rename_i x1 x2 fd x4 ho;exact(yj x1 x2 x4 (by rw[ho];congr;unfold Cd;rw[ho]))
  ·exact Lf b1
 have yw:(Cd w.params a).body= .stmts (Iz (Cd w.params a)):=by
  unfold Iz;split at b3
  ·rename_i b hb;rw[hb]
  ·exact Lf b3
 refine zL (bs w) ho b2 yw b4 b5 b6 b7 (λs Ld X hv=>Aw s Ld X (by rw[hv];exact b13)) hd (by rw[hl];exact b13.symm) 60 ?_;have:Dt (Ag (Cd w.params a)) (Cd w.params a).scope.names (args++DJ)=Lh (args++DJ) nl:=by unfold Dt Lh;rw[List.map_const',b14]
 rw[this];show oe _ (WJ w.params a) _ _ _;rw[hb];exact h
theorem CH{body:List C}(hB:NU w.params a np nl true=true)(hb:WJ w.params a=body)(hl:args.length=np)(h:oe (ja w (H1 w.params) lvl) body (Lh args nl) Z (λfl _ Z'=>Q (xf fl) Z')):ge w (H1 w.params) (lvl+1) a args Z Q:=by refine HB (DJ:=[]) (SL:=[]) hB hb (λ_ _ _=>rfl) (λs Ld X hv=>?_) (by simpa using hl) (by simpa using h);unfold NU at hB;simp only[M0,beq_iff_eq,List.isEmpty_iff,Option.isNone_iff_eq_none,Bool.not_true,Bool.false_or]at hB;obtain⟨⟨⟨⟨⟨⟨⟨⟨⟨⟨⟨⟨⟨b1,b2⟩,b3⟩,b4⟩,b5⟩,b6⟩,b7⟩,b8⟩,b9⟩,b10⟩,b11⟩,b12⟩,b13⟩,b14⟩:=hB;rw[K2];exact BindsTo.of_eq (Kz b8 rfl b9 b10 b11 b12 (Gr b5).nd (by rw[b13];simpa using hv))
noncomputable abbrev tQ(P:Params)(a n l:Nat)(b:Bool)(c:List C):Prop:=(NU P a n l b,WJ P a)=(true,c)
end
variable{a b cnt:Int}{use:List (Int×AV)}{v:AV}
section
abbrev V(n:Nat):X:= .var n
abbrev I(n:Int):X:= .lit (.int n)
abbrev U(s:List Nat):X:= .lit (.str s)
abbrev V0:=V 0
abbrev V1:=V 1
abbrev V2:=V 2
abbrev V3:=V 3
abbrev V4:=V 4
abbrev V5:=V 5
abbrev V6:=V 6
abbrev V7:=V 7
abbrev V8:=V 8
abbrev V9:=V 9
abbrev Vr:=V 10
abbrev lC:=V 11
abbrev Sp:=V 12
abbrev I0:=I 0
abbrev I1:=I 1
abbrev I2:=I 2
abbrev I3:=I 3
abbrev I4:=I 4
abbrev I5:=I 5
abbrev I6:=I 6
abbrev I7:=I 7
abbrev I8:=I 8
abbrev qC:=I 16
abbrev U0:=U []
abbrev U1:=U [110,111,116]
abbrev U2:=U [117]
abbrev U3:=U [100]
abbrev U4:=U [117,110,100,101,102,105,110,101,100]
abbrev U5:=U [97,110,100]
abbrev U6:=U [116,121,112,101,111,102]
abbrev U7:=U [105,110]
abbrev U8:=U [107,101,121]
abbrev U9:=U [97,115,107,101,114]
abbrev gW:=U [98,101,104,105,110,100]
abbrev fW:=U [111,98,106,101,99,116]
abbrev eW:=U [108,105,116]
abbrev dW:=U [112,97,114,101,110]
abbrev cW:=U [118,97,108,115]
abbrev bW:=U [119,111,114,100]
abbrev wW:=U [115,116,114,105,110,103]
abbrev vW:=U [98,97,110,103]
abbrev uW:=U [108,101,115,115]
abbrev tW:=U [115,101,116]
abbrev sW:=U [109,111,118,101,100]
abbrev rW:=U [104,101,97,100,115]
abbrev qW:=U [110,117,109]
abbrev pW:=U [107,105,110,100]
abbrev HY:=U [99,111,117,110,116]
abbrev GY:=U [110,117,109,98,101,114]
abbrev FY:=U [98,111,111,108,101,97,110]
abbrev EY:=U [119,104,111,108,101]
variable(P:Params)
theorem GZ:tQ P 35 6 0 true [.Xd V0 0 V1,.Xd V0 1 V2,.Xd V0 2 V3,.Xd V0 3 V4,.Xd V0 4 V5,.Xd V0 5 I0]:=by kernel_rfl
theorem FZ:tQ P 49 2 0 true [.ret (.cmp 1 (.bin 5 (.attr V0 3) V1) I0)]:=by kernel_rfl
theorem EZ:tQ P 56 1 0 true [.Hu (.cmp 0 (.attr V0 0) (I 33)) [.asg 0 (.idx (.attr V0 2) I0)],.ret V0]:=by kernel_rfl
theorem DZ:tQ P 63 1 0 true [.asg 0 (.call 56 [V0]),.za (.cmp 0 (.attr V0 0) I2) [.ret (.attr V0 1)] [],.za (.cmp 0 (.attr V0 0) I1) [.ret (.bi 8 [.attr V0 1])] [],.za (.and (.cmp 0 (.attr V0 0) I3) (.not (.attr V0 2))) [.ret (.idx (.attr V0 1) I0)] [],.ret (.lit .none)]:=by kernel_rfl
theorem CZ:tQ P 70 1 0 true [.za (.cmp 0 (.attr V0 0) qC) [.ret (.attr V0 1)] [],.ret (.call 63 [.idx (.attr V0 2) I1])]:=by kernel_rfl
theorem BZ:tQ P 77 2 1 true [.za (.cmp 0 (.attr V0 0) (I 9)) [.ret (U [116,104,105,115])] [],.za (.and (.cmp 1 (.attr V0 0) I8) (.cmp 1 (.attr V0 0) (I 14))) [.ret U0] [],.asg 2 (.Dc V1 30 [.attr V0 5,I0]),.za (.cmp 0 V2 I0) [.ret U0] [],.ret (.bin 0 (U [115]) (.bi 8 [V2]))]:=by kernel_rfl
theorem AZ:tQ P 84 2 3 true [.asg 2 U0,.Hu (.lit (.bool true)) [.za (.cmp 8 (.attr V0 0) (.tup [(I 33),(I 32),(I 20)])) [.asg 0 (.idx (.attr V0 2) I0)] [.za (.cmp 8 (.attr V0 0) (.tup [qC,(I 17)])) [.asg 3 (.call 70 [V0]),.za (.or (.cmp 6 V3 (.lit .none)) (.cmp 8 (U [46]) V3)) [.ret U0] [],.asg 2 (.bin 0 (.bin 0 (U [46]) V3) V2),.asg 0 (.idx (.attr V0 2) I0)] [.brk]]],.asg 4 (.call 77 [V0,V1]),.za (.cmp 0 V4 U0) [.ret U0] [],.ret (.bin 0 V4 V2)]:=by kernel_rfl
theorem zZ:tQ P 91 2 0 true [.Hu (.lit (.bool true)) [.za (.cmp 8 (.attr V0 0) (.tup [(I 33),(I 32),(I 20)])) [.asg 0 (.idx (.attr V0 2) I0)] [.za (.and (.cmp 0 (.attr V0 0) (I 25)) (.cmp 8 (.attr V0 1) (.tup [(U [61]),(U [38,38,61]),(U [124,124,61]),(U [63,63,61])]))) [.asg 0 (.idx (.attr V0 2) I0)] [.ret (.call 84 [V0,V1])]]]]:=by kernel_rfl
noncomputable abbrev oM:List C:=[.Xd V0 11 (.lst true []),.Xd V0 12 (.dct 3 [] []),.Xd V0 13 (.lst true [.lit .none]),.Xd V0 14 (.lst true []),.Xd V0 15 (.lst true []),.Xd V0 16 (.lst true []),.Xd V0 17 (.dct 1 [] []),.Xd V0 18 (.dct 1 [] []),.Xd V0 19 I0,.Xd V0 20 I0,.Xe 1 (.lit (.tup [.tup [.int 1,.str [97,110,121]],.tup [.int 1,.str [117,110,107,110,111,119,110]],.tup [.int 1,.str [110,101,118,101,114]],.tup [.int 1,.str [118,111,105,100]],.tup [.int 1,.str [117,110,100,101,102,105,110,101,100]],.tup [.int 1,.str [110,117,108,108]],.tup [.int 1,.str [115,116,114,105,110,103]],.tup [.int 1,.str [110,117,109,98,101,114]],.tup [.int 2,.int 0,.int 0],.tup [.int 2,.int 1,.int 0],.tup [.int 1,.str [111,98,106,101,99,116]],.tup [.int 8,.tup [],.tup [],.tup [],.tup [],.tup [],.int 0],.tup [.int 6,.tup [.int 8,.int 9]],.tup [.int 1,.str [101,114,114,111,114]],.tup [.int 2,.int 0,.int 1],.tup [.int 2,.int 1,.int 1]])) [.exp (.Dc V0 21 [V1])]]
theorem JX:tQ P 173 1 1 true oM:=by kernel_rfl
theorem IX:tQ P 187 2 1 true [.za (.cmp 8 V1 (.attr V0 12)) [.ret (.idx (.attr V0 12) V1)] [],.asg 2 (.bi 0 [.attr V0 11]),.exp (.Dc (.attr V0 11) 27 [V1]),.ue (.attr V0 12) V1 V2,.ret V2]:=by kernel_rfl
theorem HX:tQ P 208 2 1 true [.za (.cmp 0 V1 I2) [.ret (.tup [])] [],.asg 2 (.idx (.attr V0 11) V1),.za (.cmp 0 (.idx V2 I0) I6) [.ret (.idx V2 I1)] [],.ret (.tup [V1])]:=by kernel_rfl
theorem ZR:tQ P 215 1 1 true [.asg 1 (.idx V0 I0),.za (.or (.cmp 0 V1 I3) (.cmp 0 V1 (I 18))) [.ret I6] [],.za (.cmp 0 V1 I4) [.ret I7] [],.za (.cmp 0 V1 I5) [.ret (.za .bad I6 I7)] [],.ret (.neg I1)]:=by kernel_rfl
theorem GX:tQ P 222 2 1 true [.asg 2 (.idx (.attr V0 11) V1),.za (.and (.cmp 8 (.idx V2 I0) (.lit (.tup [.int 2,.int 3,.int 4,.int 5,.int 8]))) (.cmp 0 (.idx V2 (.neg I1)) I1)) [.ret (.Dc (.attr V0 12) 30 [.bin 0 (.slc V2 (.lit .none) (.neg I1)) (.tup [I0]),.neg I1])] [],.ret (.neg I1)]:=by kernel_rfl
theorem FX:tQ P 229 1 0 true [.za (.and (.or (.cmp 8 I8 V0) (.cmp 8 (I 14) V0)) (.or (.cmp 8 (I 9) V0) (.cmp 8 (I 15) V0))) [.ue V0 I8 I1,.ue V0 (I 9) I1] []]:=by kernel_rfl
theorem EX:tQ P 236 3 0 true [.za (.cmp 8 (.call 222 [V0,V2]) V1) [.ret (.lit (.bool false))] [],.ret (.cmp 9 (.call 215 [.idx (.attr V0 11) V2]) V1)]:=by kernel_rfl
theorem DX:tQ P 243 1 1 true [.Xe 1 (.tup [I0,(I 13),I1]) [.za (.cmp 8 V1 V0) [.ret V1] []],.ret (.neg I1)]:=by kernel_rfl
theorem CX:tQ P 248 2 5 true [.asg 2 (.dct 1 [] []),.Xe 3 V1 [.Xe 4 (.call 208 [V0,V3]) [.ue V2 V4 I1]],.asg 5 (.call 243 [V2]),.za (.cmp 5 V5 I0) [.ret V5] [],.exp (.call 229 [V2]),.asg 6 (.comp V7 0 (.bi 2 [V2]) (.call 236 [V0,V2,V7])),.za (.not V6) [.ret I2] [],.za (.cmp 0 (.bi 0 [V6]) I1) [.ret (.idx V6 I0)] [],.za (.cmp 4 (.bi 0 [V6]) (I 400)) [.bad] [],.ret (.Dc V0 21 [.tup [I6,.bi 3 [V6]]])]:=by kernel_rfl
theorem BX:tQ P 302 2 3 true [.asg 2 (.idx (.attr V0 11) V1),.asg 3 (.idx V2 I0),.za (.cmp 0 V3 I1) [.ret (.Dc (.lit (.Wc [(3,6),(4,5),(5,4),(6,1),(7,2),(10,7)])) 30 [V1,I0])] [],.za (.cmp 0 V3 I2) [.ret I3] [],.za (.cmp 8 V3 (.lit (.tup [.int 8,.int 9,.int 11,.int 12,.int 13]))) [.ret I7] [],.za (.cmp 0 V3 I6) [.ret .bad] [],.za (.cmp 0 V3 I7) [.ret .bad] [],.asg 4 (.call 215 [V2]),.za (.cmp 2 V4 I0) [.ret I0] [],.ret (.za (.cmp 0 V4 I6) I1 I2)]:=by kernel_rfl
theorem AX:tQ P 309 1 0 true [.ret (.or (.cmp 0 V0 I4) (.or (.cmp 0 V0 I5) (.cmp 0 V0 I6)))]:=by kernel_rfl
theorem zX:tQ P 420 2 3 true [.Xe 2 (.tup [I2,I0,(I 13)]) [.za (.cmp 8 V2 V1) [.ret V2] []],.asg 3 I1,.Xe 4 (.bi 1 [.bi 0 [V1]]) [.za (.cmp 9 (.idx V1 V4) (.slc V1 (.lit .none) V4)) [.asg 3 .bad] []],.ret V3]:=by kernel_rfl
noncomputable abbrev BQ:List C:=[.Xe 3 (.call 208 [V0,V1]) [.asg 4 (.idx (.attr V0 11) V3),.za (.or (.cmp 0 V3 I1) (.or (.cmp 0 V3 I0) (.call 309 [.call 302 [V0,V3]]))) [.ret (.lit (.bool true))] [],.za (.cmp 0 (.idx V4 I0) (I 10)) [.asg 5 (.idx (.attr V0 14) (.idx V4 I1)),.za (.or (.cmp 2 V5 I0) (.or (.cmp 4 V2 (I 20)) (.call 428 [V0,V5,.bin 0 V2 I1]))) [.ret (.lit (.bool true))] []] [.za (.or (.cmp 0 (.idx V4 I0) (I 15)) (.or (.cmp 0 (.idx V4 I0) qC) (.cmp 0 (.idx V4 I0) (I 19)))) [.ret (.lit (.bool true))] [.za (.and (.cmp 0 (.idx V4 I0) I7) .bad) [.ret (.lit (.bool true))] [.za (.and (.cmp 0 (.idx V4 I0) (I 17)) .bad) [.ret (.lit (.bool true))] []]]]],.ret (.lit (.bool false))]
theorem yX:tQ P 428 3 3 false BQ:=by kernel_rfl
theorem xX:tQ P 447 2 0 true [.za (.cmp 0 V1 I1) [.ret (I 11)] [],.za (.call 309 [.call 302 [V0,V1]]) [.ret I2] [],.za (.call 428 [V0,V1]) [.ret (.call 420 [V0,.tup [V1,(I 11)]])] [],.ret V1]:=by kernel_rfl
theorem wX:tQ P 452 2 0 true [.ret (.call 248 [V0,.comp (.call 447 [V0,V2]) 0 (.call 208 [V0,V1]) (.lit (.bool true))])]:=by kernel_rfl
theorem vX:tQ P 485 3 0 true [.Xd V0 6 V1,.Xd V0 7 V2,.Xd V0 8 (.dct 1 [] []),.Xd V0 9 I0,.Xd V0 10 I0]:=by kernel_rfl
theorem uX:tQ P 520 2 0 true [.ret (.call 248 [.attr V0 6,V1])]:=by kernel_rfl
theorem tX:tQ P 563 1 0 true [.Hu (.cmp 8 (.attr V0 0) (.tup [(I 33),(I 20),(I 32)])) [.asg 0 (.idx (.attr V0 2) I0)],.ret V0]:=by kernel_rfl
theorem sX:tQ P 570 2 1 true [.asg 0 (.call 563 [V0]),.za (.and (.cmp 1 (.attr V0 0) qC) (.cmp 1 (.attr V0 0) (I 17))) [.ret (.tup [U0,U0])] [],.asg 2 (.call 70 [V0]),.za (.cmp 6 V2 (.lit .none)) [.ret (.tup [U0,U0])] [],.ret (.tup [.call 91 [.idx (.attr V0 2) I0,V1],V2])]:=by kernel_rfl
theorem rX:tQ P 577 3 0 true [.asg 0 (.call 563 [V0]),.Hu (.cmp 8 (.attr V0 0) (.tup [qC,(I 17),(I 18)])) [.za (.and (.call 49 [V0,I1]) (.cmp 0 (.call 91 [.idx (.attr V0 2) I0,V2]) V1)) [.ret (.lit (.bool true))] [],.asg 0 (.call 563 [.idx (.attr V0 2) I0])],.ret (.lit (.bool false))]:=by kernel_rfl
theorem qX:tQ P 584 3 0 true [.za (.cmp 0 (.call 91 [V1,.attr V0 7]) V2) [.ret (.lit (.bool true))] [],.ret (.or (.cmp 0 (.idx (.call 570 [V1,.attr V0 7]) I0) V2) (.call 577 [V1,V2,.attr V0 7]))]:=by kernel_rfl
theorem pX:tQ P 589 3 2 true [.asg 3 (.idx V1 I0),.za (.cmp 0 V3 I2) [.ret (.cmp 1 V2 (.cmp 0 (.idx V1 I1) U4))] [],.za (.and (.cmp 1 V3 I3) (.cmp 1 V3 I7)) [.ret V2] [],.asg 4 (.comp (.call 302 [V0,V5]) 0 (.call 208 [V0,.idx V1 I1]) (.lit (.bool true))),.za (.cmp 0 V3 I7) [.ret (.and V2 (.not (.or (.cmp 8 I5 V4) (.or (.cmp 8 I6 V4) (.cmp 8 I0 V4)))))] [],.za (.not V2) [.ret (.and (.cmp 0 (.bi 0 [V4]) I1) (.or (.cmp 0 (.idx V4 I0) I5) (.and (.cmp 0 (.idx V4 I0) I4) (.not (.idx V1 I2)))))] [],.za (.or (.cmp 8 I5 V4) (.or (.cmp 8 I6 V4) (.cmp 8 I0 V4))) [.ret (.lit (.bool false))] [],.ret (.or (.idx V1 I2) (.cmp 9 I4 V4))]:=by kernel_rfl
theorem oX:tQ P 596 6 2 true [.za (.cmp 0 (.call 91 [V1,.attr V0 7]) V3) [.ret .bad] [],.Ck [6,7] (.call 570 [V1,.attr V0 7]),.za (.cmp 0 V6 V3) [.asg 4 .bad] [],.za (.and (.call 577 [V1,V3,.attr V0 7]) (.call 589 [.attr V0 6,V2,V5])) [.asg 4 (.call 452 [.attr V0 6,V4])] [],.ret V4]:=by kernel_rfl
theorem nX:tQ P 603 2 0 true [.asg 0 (.call 56 [V0]),.asg 1 (.call 56 [V1]),.za (.and (.cmp 0 (.attr V0 0) (I 21)) (.cmp 0 (.attr V0 1) U6)) [.za (.cmp 0 (.attr V1 0) I2) [.ret (.tup [.idx (.attr V0 2) I0,.attr V1 1])] [],.za (.and (.cmp 0 (.attr V1 0) I3) (.not (.attr V1 2))) [.ret (.tup [.idx (.attr V0 2) I0,.idx (.attr V1 1) I0])] []] [],.ret (.tup [.lit .none,U0])]:=by kernel_rfl
theorem mX:tQ P 608 3 2 true [.asg 3 (.lst true [V1]),.Hu V3 [.asg 4 (.Dc V3 28 []),.za (.or (.cmp 8 (.attr V4 0) (.tup [(I 25),(I 22)])) (.and (.cmp 0 (.attr V4 0) (I 21)) (.cmp 0 (.attr V4 1) (U [100,101,108,101,116,101])))) [.za (.or (.Dc V0 23 [V4,V2]) (.Dc V0 24 [V4,V2])) [.ret (.lit (.bool true))] []] [],.za (.and (.cmp 1 (.attr V4 0) (I 27)) (.cmp 1 (.attr V4 0) (I 61))) [.exp (.Dc V3 29 [.comp V5 0 (.attr V4 2) (.cmp 7 V5 (.lit .none))])] []],.ret (.lit (.bool false))]:=by kernel_rfl
theorem lX:tQ P 615 7 6 true [.ng [7,8] (.tup [.tup [V1,V2],.tup [V2,V1]]) [.Ck [9,10] (.call 603 [V7,V8]),.za (.cmp 7 V9 (.lit .none)) [.ret (.call 596 [V0,V9,.tup [I2,Vr],V4,V5,V6])] []],.ng [7,8,11] (.tup [.tup [V1,V2,.lit (.bool true)],.tup [V2,V1,.lit (.bool false)]]) [.za (.and lC (.call 608 [V0,V2,V4])) [.cont] [],.za (.call 584 [V0,V7,V4]) [.asg 12 .bad,.za (.cmp 1 Sp (.neg I1)) [.asg 5 (.call 596 [V0,V7,.tup [I3,Sp,V3],V4,V5,V6])] []] []],.ret V5]:=by kernel_rfl
theorem TN:tQ P 622 5 4 true [.Ck [5,6] (.attr V1 2),.za (.or (.cmp 0 (.attr V1 1) (U [61,61,61])) (.cmp 0 (.attr V1 1) (U [61,61]))) [.ret (.call 615 [V0,V5,V6,.cmp 0 (.attr V1 1) (U [61,61,61]),V2,V3,V4])] [],.za (.or (.cmp 0 (.attr V1 1) (U [33,61,61])) (.cmp 0 (.attr V1 1) (U [33,61]))) [.ret (.call 615 [V0,V5,V6,.cmp 0 (.attr V1 1) (U [33,61,61]),V2,V3,.not V4])] [],.asg 7 (.call 63 [V5]),.za (.and (.cmp 0 (.attr V1 1) U7) (.cmp 7 V7 (.lit .none))) [.ret (.call 596 [V0,V6,.tup [I5,V7],V2,V3,V4])] [],.za (.and (.cmp 0 (.attr V1 1) (U [105,110,115,116,97,110,99,101,111,102])) (.call 584 [V0,V5,V2])) [.asg 8 .bad,.za (.cmp 1 V8 (.neg I1)) [.ret (.call 596 [V0,V5,.tup [I6,V8],V2,V3,V4])] []] [],.ret V3]:=by kernel_rfl
theorem YR:tQ P 629 5 4 true [.za (.cmp 0 (.attr V1 1) (U [63,63])) [.ret V3] [],.Ck [5,6] (.attr V1 2),.asg 7 (.cmp 0 (.attr V1 1) (U [38,38])),.asg 8 (.call 643 [V0,V6,V2,.call 643 [V0,V5,V2,V3,V7],V4]),.za (.cmp 0 V4 V7) [.ret V8] [],.ret (.call 248 [.attr V0 6,.tup [.call 643 [V0,V5,V2,V3,.not V7],V8]])]:=by kernel_rfl
theorem kX:tQ P 636 5 1 true [.asg 5 (.call 91 [.idx (.attr V1 2) I0,.attr V0 7]),.za (.or (.cmp 0 V5 U0) (.or (.cmp 0 V2 V5) (.Dc V2 31 [.bin 0 V5 (U [46])]))) [.ret V3] [],.ret (.call 643 [V0,.idx (.attr V1 2) I1,V2,V3,V4])]:=by kernel_rfl
theorem jX:tQ P 643 5 0 true [.asg 1 (.call 56 [V1]),.za (.and (.cmp 0 (.attr V1 0) (I 21)) (.cmp 0 (.attr V1 1) (U [33]))) [.ret (.call 643 [V0,.idx (.attr V1 2) I0,V2,V3,.not V4])] [],.za (.cmp 0 (.attr V1 0) (I 23)) [.ret (.call 622 [V0,V1,V2,V3,V4])] [],.za (.cmp 0 (.attr V1 0) (I 24)) [.ret (.call 629 [V0,V1,V2,V3,V4])] [],.za (.or (.cmp 0 (.attr V1 0) (I 18)) (.cmp 0 (.attr V1 0) (I 20))) [.asg 3 .bad] [],.za (.and (.cmp 0 (.attr V1 0) (I 25)) (.cmp 0 (.attr V1 1) (U [61]))) [.asg 3 (.call 636 [V0,V1,V2,V3,V4])] [],.asg 3 (.call 596 [V0,V1,.tup [I1],V2,V3,V4]),.za (.cmp 0 (.attr V1 0) I8) [.ret .bad] [],.ret V3]:=by kernel_rfl
theorem iX:tQ P 648 2 1 true [.asg 1 (.call 56 [V1]),.za (.cmp 0 (.attr V1 0) (I 23)) [.ret (.cmp 8 (.attr V1 1) (.lit (.tup [.str [61,61,61],.str [33,61,61],.str [61,61],.str [33,61],.str [60],.str [62],.str [60,61],.str [62,61],.str [105,110],.str [105,110,115,116,97,110,99,101,111,102]])))] [],.za (.and (.cmp 0 (.attr V1 0) (I 21)) (.cmp 0 (.attr V1 1) (U [33]))) [.ret (.lit (.bool true))] [],.asg 2 .bad,.za (.or (.cmp 0 V2 (.neg I1)) (.cmp 0 V2 I2)) [.ret (.lit (.bool false))] [],.ret (.bi 5 [.comp (.cmp 0 (.call 302 [.attr V0 6,V3]) I3) 0 (.call 208 [.attr V0 6,V2]) (.lit (.bool true))])]:=by kernel_rfl
theorem XR:tQ P 655 6 0 true [.za (.and (.cmp 0 (.attr (.call 56 [.idx (.attr V1 2) I0]) 0) I4) (.or V5 (.call 648 [V0,V2]))) [.ret (.call 643 [V0,V2,V3,V4,V5])] [],.ret (.call 615 [V0,.idx (.attr V1 2) I0,V2,.lit (.bool true),V3,V4,V5])]:=by kernel_rfl
theorem hX:tQ P 662 5 1 true [.Xe 5 V2 [.za (.cmp 7 V5 (.lit .none)) [.asg 4 (.call 655 [V0,V1,V5,V3,V4,.lit (.bool false)])] []],.ret V4]:=by kernel_rfl
theorem gX:tQ P 667 5 6 true [.Ck [5,6] V2,.asg 7 (.comp (.idx (.attr lC 2) I0) 0 (.slc (.attr V1 2) I1 (.lit .none)) (.lit (.bool true))),.asg 8 (.lst true []),.Xe 9 (.bi 1 [V5,V6]) [.za (.cmp 7 (.idx V7 V9) (.lit .none)) [.asg 10 (.call 662 [V0,V1,.slc V7 (.lit .none) V9,V3,V4]),.exp (.Dc V8 27 [.call 655 [V0,V1,.idx V7 V9,V3,Vr,.lit (.bool true)]])] []],.za (.or (.cmp 0 V5 V6) (.bi 6 [.comp (.cmp 6 lC (.lit .none)) 0 (.slc V7 V5 V6) (.lit (.bool true))])) [.exp (.Dc V8 27 [.call 662 [V0,V1,V7,V3,V4]])] [],.ret (.Dc V0 25 [V8])]:=by kernel_rfl
theorem cK:tQ P 674 6 0 true [.za (.cmp 0 V1 I8) [.ret (.call 667 [V0,V2,V3,V4,V5])] [],.za (.or (.cmp 0 V1 I5) (.cmp 0 V1 I6)) [.za (.cmp 0 V3 (.tup [I1])) [.ret (.call 596 [V0,V2,.tup [I4],V4,V5,.cmp 0 V1 I5])] [],.ret (.call 643 [V0,V2,V4,V5,.cmp 0 V1 I5])] [],.ret V5]:=by kernel_rfl
theorem WR:tQ P 681 2 2 true [.asg 2 (.idx V0 I0),.ue V0 I0 (.bin 0 V2 I1),.asg 3 (.za (.cmp 2 V2 (.bi 0 [.idx V0 I1])) (.idx (.idx V0 I1) V2) (.bin 0 (.bin 2 V2 I3) I1)),.ret (.bin 4 V3 V1)]:=by kernel_rfl
theorem fX:tQ P 688 5 1 true [.SD V0 HY 0 I1,.asg 5 (.call 38 [V1,V2,V3,V4,.idx V0 HY]),.Xd V5 5 (.idx V0 HY),.ret V5]:=by kernel_rfl
theorem eX:tQ P 695 1 7 true [.asg 1 (.call 681 [.idx V0 U3,(I 15120)]),.asg 2 (.bin 4 V1 I7),.asg 3 (.tup [.idx (U [109,109,109,105,110,99]) (.bin 4 (.bin 3 V1 (I 35)) I6),.idx (U [109,109,109,105,110,99]) (.bin 4 (.bin 3 V1 (I 210)) I6)]),.asg 4 (.bin 4 (.bin 3 V1 (I 1260)) I3),.asg 5 (.idx (.tup [I0,I1,I2,I0,I0]) (.bin 4 (.bin 3 V1 I7) I5)),.asg 6 (.za (.cmp 0 (.idx V0 gW) I0) (.lst false []) (.lst false [.tup [.idx (U [109,105]) (.bin 3 V1 (I 7560)),(U [97]),.or (.cmp 0 V2 I4) (.and (.cmp 1 V2 I6) (.cmp 0 (.bin 4 (.bin 3 V1 (I 3780)) I2) I1)),I0]])),.asg 7 (.tup [.idx V3 I1,(U [98]),.cmp 0 V4 I1,.za (.cmp 0 V4 I2) I2 I0]),.za (.cmp 2 V2 I3) [.ret (.tup [I1,.bin 0 V6 (.lst false [.tup [.idx V3 I0,(U [97]),.lit (.bool true),V5],V7])])] [],.za (.cmp 0 V2 I3) [.ret (.tup [I1,.bin 0 V6 (.lst false [.tup [.idx (U [99,110]) (.bin 4 (.bin 3 V1 (I 35)) I2),(U [97]),.lit (.bool true),V5]])])] [],.za (.cmp 0 V2 I4) [.ret (.tup [I1,.bin 0 V6 (.lst false [.tup [.idx V3 I0,(U [97]),.lit (.bool false),V5],.tup [.idx V3 I1,(U [98]),.lit (.bool true),.idx V7 I3]])])] [],.za (.cmp 0 V2 I5) [.ret (.tup [I2,.za (.cmp 0 V4 I2) (.lst false []) (.lst false [.tup [.idx V3 I0,(U [97]),.cmp 0 (.bin 4 (.bin 3 V1 (I 35)) I2) I0,V5],V7])])] [],.ret (.tup [I1,.bin 0 V6 (.lst false [.tup [.idx V3 I0,(U [97]),.lit (.bool false),V5],.tup [.idx V3 I1,(U [98]),.lit (.bool false),.idx V7 I3]])])]:=by kernel_rfl
noncomputable abbrev OV:List C:=[.asg 3 (.call 688 [V0,I8,.idx (U [120,121]) (.bin 1 V1 I1),.lst false [],I0]),.ue (.idx V0 (U [117,115,101])) (.attr V3 5) V1,.asg 4 (.lit (.bool false)),.ng [5,6,7,8] V2 [.asg 9 (.za V7 I1 I0),.asg 4 (.or V4 V7),.za (.cmp 0 V5 (U [109])) [.asg 3 (.call 688 [V0,qC,V6,.lst false [V3],V9])] [.za (.cmp 0 V5 (U [99])) [.asg 3 (.call 688 [V0,(I 18),U0,.lst false [V3,.call 688 [V0,(I 71),U0,.lst false [],I0],.lit .none],V9])] [.asg 3 (.call 688 [V0,(I 17),U0,.lst false [V3,.call 688 [V0,.za (.cmp 0 V5 (U [105])) I2 I8,V6,.lst false [],I0]],V9])]],.za (.cmp 0 V8 I1) [.asg 3 (.call 688 [V0,(I 32),U0,.lst false [V3],I0])] [],.za (.cmp 0 V8 I2) [.za V4 [.asg 3 (.call 688 [V0,(I 20),U0,.lst false [V3],I0])] [],.asg 4 (.lit (.bool false)),.asg 3 (.call 688 [V0,(I 33),U0,.lst false [V3],I0])] []],.ret (.za V4 (.call 688 [V0,(I 20),U0,.lst false [V3],I0]) V3)]
theorem dX:tQ P 702 3 7 true OV:=by kernel_rfl
noncomputable abbrev NV:List C:=[.asg 3 (.idx V0 V1),.asg 4 (.lit (.bool true)),.ng [5,6,7,8] V2 [.za (.and V4 (.cmp 8 (.idx V3 I0) (.tup [U2,(U [110])]))) [.za (.not V7) [.ret (.lit .none)] [],.asg 3 (.tup [U2]),.asg 4 (.lit (.bool false))] [.za (.and V4 (.cmp 0 V5 (U [99]))) [.za (.cmp 1 (.idx V3 I0) (U [102])) [.ret (.lit .none)] [],.asg 3 (.idx V3 I1)] [.za V4 [.asg 3 (.za (.cmp 0 (.idx V3 I0) (U [111])) (.Dc (.idx V3 I1) 30 [V6,.tup [U2]]) (.tup [U2]))] []]],.za (.cmp 0 V8 I2) [.asg 4 (.lit (.bool true))] []],.ret V3]
theorem bX:tQ P 709 3 6 true NV:=by kernel_rfl
theorem aX:tQ P 716 2 2 true [.asg 2 (.tup [U4,wW,fW,U4,GY,(U [102,117,110,99,116,105,111,110]),FY,(U [115,121,109,98,111,108]),(U [98,105,103,105,110,116]),(U [111,116,104,101,114])]),.asg 3 (.bin 4 V1 I8),.za (.cmp 2 V3 I4) [.ret (.tup [U6,.call 695 [V0],.idx V2 (.bin 4 (.bin 3 V1 I8) (I 10)),.bin 4 (.bin 3 V1 (I 80)) (I 32)])] [],.za (.cmp 0 V3 I4) [.ret (.tup [U7,.call 695 [V0],.idx (U [107,98]) (.bin 4 (.bin 3 V1 I8) I2)])] [],.za (.cmp 0 V3 I5) [.ret (.tup [vW,.call 695 [V0]])] [],.za (.cmp 0 V3 I6) [.ret (.za (.cmp 0 (.bin 4 (.bin 3 V1 qC) I2) I0) (.tup [uW,.bin 4 (.bin 3 V1 I8) I2,I1]) (.tup [eW,.bin 4 (.bin 3 V1 I8) I2]))] [],.ret (.tup [(U [115,97,109,101]),.tup [I2,.lst false [.tup [(U [109]),(U [97]),.cmp 0 (.bin 4 (.bin 3 V1 I8) I2) I0,I0],.tup [(U [109]),(U [98]),.lit (.bool false),I0]]],.bin 4 (.bin 3 V1 qC) I6,.cmp 0 (.bin 4 (.bin 3 V1 (I 96)) I2) I0])]:=by kernel_rfl
theorem UR:tQ P 723 2 2 true [.asg 2 (.call 681 [.idx V0 U3,(I 30720)]),.asg 3 (.bin 4 V2 (I 12)),.za (.or (.cmp 0 V1 I0) (.cmp 4 V3 I6)) [.ret (.call 716 [V0,.bin 3 V2 (I 12)])] [],.za (.cmp 0 V3 I0) [.ret (.tup [U1,.call 723 [V0,.bin 1 V1 I1]])] [],.za (.cmp 2 V3 I5) [.ret (.tup [.za (.cmp 2 V3 I3) U5 (U [111,114]),.call 723 [V0,.bin 1 V1 I1],.call 723 [V0,.bin 1 V1 I1]])] [],.za (.cmp 0 V3 I5) [.za (.cmp 0 (.bin 4 (.bin 3 V2 (I 12)) I2) I0) [.ret (.tup [dW,.call 723 [V0,.bin 1 V1 I1]])] [],.ret (.tup [(U [110,117,108]),.tup [U1,.call 723 [V0,.bin 1 V1 I1]],.tup [eW,I1]])] [],.ret (.tup [tW,.za (.and (.cmp 0 (.idx V0 gW) I1) (.cmp 0 (.bin 4 (.bin 3 V2 (I 12)) I3) I0)) I1 I2,.tup [U1,.call 723 [V0,.bin 1 V1 I1]]])]:=by kernel_rfl
theorem ZW:tQ P 730 3 1 true [.asg 3 (.call 688 [V0,(I 21),U6,.lst false [.call 702 [V0,.idx V1 I0,.idx V1 I1]],I0]),.ret (.za V2 (.call 688 [V0,(I 33),U0,.lst false [V3],I0]) V3)]:=by kernel_rfl
theorem Uk:tQ P 737 2 6 true [.asg 2 (.idx V1 I0),.za (.cmp 0 V2 U6) [.asg 3 (.idx V1 I3),.asg 4 (.call 730 [V0,.idx V1 I1,.cmp 0 (.bin 3 V3 qC) I1]),.asg 5 (.za (.cmp 0 (.bin 4 (.bin 3 V3 I8) I2) I0) (.call 688 [V0,I2,.idx V1 I2,.lst false [],I0]) (.call 688 [V0,I3,.tup [.idx V1 I2],.lst false [],I0])),.ret (.call 688 [V0,(I 23),.idx (.tup [(U [61,61,61]),(U [33,61,61]),(U [61,61]),(U [33,61])]) (.bin 4 V3 I4),.za (.cmp 0 (.bin 4 (.bin 3 V3 I4) I2) I1) (.lst false [V5,V4]) (.lst false [V4,V5]),I0])] [],.za (.cmp 0 V2 U7) [.ret (.call 688 [V0,(I 23),U7,.lst false [.call 688 [V0,I2,.idx V1 I2,.lst false [],I0],.call 702 [V0,.idx (.idx V1 I1) I0,.idx (.idx V1 I1) I1]],I0])] [],.za (.cmp 0 V2 vW) [.ret (.call 688 [V0,(I 32),U0,.lst false [.call 702 [V0,.idx (.idx V1 I1) I0,.idx (.idx V1 I1) I1]],I0])] [],.za (.cmp 0 V2 (U [115,97,109,101])) [.asg 6 (.lst false [.call 702 [V0,.idx (.idx V1 I1) I0,.idx (.idx V1 I1) I1],.call 688 [V0,I1,.idx V1 I2,.lst false [],I0]]),.ret (.call 688 [V0,(I 23),.za (.idx V1 I3) (U [61,61,61]) (U [33,61,61]),V6,I0])] [],.za (.or (.cmp 0 V2 uW) (.cmp 0 V2 (U [115,117,109]))) [.asg 6 (.lst false [.call 688 [V0,I1,.idx V1 I1,.lst false [],I0],.call 688 [V0,I1,.idx V1 I2,.lst false [],I0]]),.ret (.call 688 [V0,(I 23),.za (.cmp 0 V2 uW) (U [60]) (U [43]),V6,I0])] [],.za (.cmp 0 V2 eW) [.ret (.call 688 [V0,.za (.cmp 0 (.idx V1 I1) I1) I4 I5,U0,.lst false [],I0])] [],.za (.cmp 0 V2 U1) [.ret (.call 688 [V0,(I 21),(U [33]),.lst false [.call 737 [V0,.idx V1 I1]],I0])] [],.za (.cmp 0 V2 dW) [.ret (.call 688 [V0,(I 33),U0,.lst false [.call 737 [V0,.idx V1 I1]],I0])] [],.za (.cmp 0 V2 tW) [.ret (.call 688 [V0,(I 25),(U [61]),.lst false [.call 702 [V0,.idx V1 I1,.lst false []],.call 737 [V0,.idx V1 I2]],I0])] [],.asg 7 (.idx (.dct 0 [.str [97,110,100],.str [111,114],.str [110,117,108]] [(U [38,38]),(U [124,124]),(U [63,63])]) V2),.ret (.call 688 [V0,(I 24),V7,.lst false [.call 737 [V0,.idx V1 I1],.call 737 [V0,.idx V1 I2]],I0])]:=by kernel_rfl
theorem YW:tQ P 744 1 0 true [.ret (.idx (.dct 0 [.str [117],.str [110],.str [98],.str [100],.str [115],.str [111],.str [102]] [U4,fW,FY,GY,wW,fW,(U [102,117,110,99,116,105,111,110])]) (.idx V0 I0))]:=by kernel_rfl
theorem uF:tQ P 751 2 2 true [.asg 2 (.idx V1 I0),.za (.cmp 0 V2 eW) [.ret (.idx V1 I1)] [],.za (.cmp 0 V2 uW) [.ret (.za (.cmp 2 (.idx V1 I1) (.idx V1 I2)) I1 I0)] [],.za (.cmp 0 V2 (U [115,117,109])) [.ret I0] [],.asg 3 (.call 709 [.idx V0 cW,.idx (.idx V1 I1) I0,.idx (.idx V1 I1) I1]),.za (.cmp 6 V3 (.lit .none)) [.ret (.lit .none)] [],.za (.cmp 0 V2 U6) [.ret (.za (.cmp 0 (.cmp 0 (.call 744 [V3]) (.idx V1 I2)) (.cmp 0 (.bin 4 (.idx V1 I3) I2) I0)) I1 I0)] [],.za (.cmp 0 V2 (U [115,97,109,101])) [.ret (.za (.cmp 0 (.cmp 0 V3 (.tup [U3,.idx V1 I2])) (.idx V1 I3)) I1 I0)] [],.za (.cmp 0 V2 U7) [.za (.and (.cmp 1 (.idx V3 I0) (U [111])) (.cmp 1 (.idx V3 I0) (U [102]))) [.ret (.lit .none)] [],.ret (.za (.and (.cmp 0 (.idx V3 I0) (U [111])) (.cmp 8 (.idx V1 I2) (.idx V3 I1))) I1 I0)] [],.za (.cmp 8 (.idx V3 I0) (.tup [U2,(U [110])])) [.ret I0] [],.ret (.za (.and (.cmp 8 (.idx V3 I0) (.tup [(U [98]),U3,(U [115])])) (.cmp 8 (.idx V3 I1) (.tup [I0,U0]))) I0 I1)]:=by kernel_rfl
theorem Tk:tQ P 758 2 2 true [.asg 2 (.idx V1 I0),.za (.cmp 0 V2 U1) [.asg 3 (.call 758 [V0,.idx V1 I1]),.ret (.za (.cmp 6 V3 (.lit .none)) (.lit .none) (.bin 1 I1 V3))] [],.za (.or (.cmp 0 V2 dW) (.cmp 0 V2 (U [110,117,108]))) [.ret (.call 758 [V0,.idx V1 I1])] [],.za (.or (.cmp 0 V2 U5) (.cmp 0 V2 (U [111,114]))) [.asg 3 (.call 758 [V0,.idx V1 I1]),.ret (.za (.cmp 0 V3 (.za (.cmp 0 V2 U5) I1 I0)) (.call 758 [V0,.idx V1 I2]) V3)] [],.za (.cmp 0 V2 tW) [.asg 3 (.call 758 [V0,.idx V1 I2]),.za (.cmp 7 V3 (.lit .none)) [.ue (.idx V0 cW) (.idx V1 I1) (.tup [(U [98]),V3]),.ue V0 sW (.or (.idx V0 sW) (.cmp 0 (.idx V1 I1) I1))] [],.ret V3] [],.ret (.call 751 [V0,V1])]:=by kernel_rfl
theorem XW:tQ P 765 2 0 true [.ret (.and (.cmp 0 (.idx V1 I0) I1) (.idx (.idx (.idx V1 I1) (.idx V0 gW)) I2))]:=by kernel_rfl
theorem Sk:tQ P 772 2 6 true [.asg 2 (.idx V1 I0),.za (.and (.cmp 8 V2 (.tup [U6,U7,vW])) (.call 765 [V0,.idx V1 I1])) [.ret (.za (.and (.cmp 0 V2 U6) (.cmp 0 (.cmp 0 (.idx V1 I2) U4) (.cmp 0 (.bin 4 (.idx V1 I3) I2) I0))) I1 I2)] [],.za (.cmp 0 V2 U1) [.ret (.idx (.tup [I0,I2,I1,I3]) (.call 772 [V0,.idx V1 I1]))] [],.za (.cmp 0 V2 dW) [.ret (.call 772 [V0,.idx V1 I1])] [],.za (.and (.cmp 0 V2 tW) (.cmp 0 (.idx V1 I1) I2)) [.ret (.call 772 [V0,.idx V1 I2])] [],.za (.or (.cmp 0 V2 U5) (.cmp 0 V2 (U [111,114]))) [.asg 3 (.call 772 [V0,.idx V1 I1]),.asg 4 (.call 772 [V0,.idx V1 I2]),.asg 5 (.za (.cmp 0 V2 U5) I1 I2),.asg 6 (.bin 1 I3 V5),.asg 7 (.bin 5 V3 V6),.za (.bin 5 V3 V5) [.asg 7 (.bin 6 V7 V4)] [],.ret V7] [],.ret I3]:=by kernel_rfl
noncomputable abbrev MV:List C:=[.asg 2 (.dct 2 [.str [100],.str [99,111,117,110,116],.str [117,115,101],.str [116,97,98]] [V1,I0,.dct 1 [] [],V0]),.asg 3 (.call 681 [V1,(I 20480)]),.ue V2 gW (.bin 4 V3 I2),.ue V2 U8 (.za (.cmp 0 (.bin 4 V3 I2) I0) (U [115,49]) (U [115,49,46,97])),.ue V2 U9 (.call 551 [V0,.idx V2 (U [117,115,101])]),.asg 4 (.Dc V0 21 [.tup [I8,.tup [.tup [(U [97]),I1,I0,I0]],.tup [],.tup [],.tup [],.tup [],I0]]),.asg 5 (.Dc V0 21 [.tup [I8,.tup [.tup [(U [102]),I1,I0,I0]],.tup [],.tup [],.tup [],.tup [],I0]]),.asg 6 (.tup [.tup [(U [115]),(U [122])],.tup [U2],.tup [U3,I5],.tup [(U [110])],.tup [(U [98]),I0],.tup [(U [115]),U0],.tup [(U [111]),.dct 0 [.str [107]] [.tup [U3,I1]]],.tup [(U [102]),.tup [U3,I0]]]),.asg 7 (.idx V6 (.bin 4 (.bin 3 V3 I2) I8)),.asg 8 (.tup [(U [111]),.dct 0 [.str [97],.str [98]] [.tup [(U [111]),.dct 0 [.str [98],.str [97]] [V7,.tup [U2]]],V7]]),.asg 9 (.bin 4 (.bin 3 V3 qC) (I 128)),.asg 10 (.comp (V 13) 2 (.af (.tup [V4,I5,I4,V5,I6,I7,I3])) (.cmp 0 (.bin 5 (.bin 7 V9 Sp) I1) I1)),.za (.cmp 0 Vr (.lst false [])) [.asg 10 (.lst false [V4,I5,I4])] [],.za (.cmp 0 (.bin 3 V3 (I 2048)) I1) [.asg 10 (.lst false [I1])] [],.za (.cmp 0 (.bin 3 V3 (I 2048)) I2) [.asg 10 (.lst false [I0])] [],.ue V2 (U [116]) (.call 248 [V0,Vr]),.ue V2 EY (.bi 2 [Vr]),.ue V2 (U [115,111,108,105,100]) (.za (.cmp 0 Vr (.lst false [I1])) (.lst false [(I 11)]) (.comp Sp 0 (.idx V2 EY) (.cmp 9 Sp (.tup [I5,I4,I3])))),.asg 11 (.tup [.tup [I5,.tup [(U [110])]],.tup [I4,.tup [U2]],.tup [I3,.tup [U2]],.tup [V4,V8],.tup [V4,.tup [(U [111]),.dct 0 [] []]],.tup [V5,.tup [(U [102]),V7]],.tup [I6,.tup [(U [115]),(U [113])]],.tup [I7,.tup [U3,I0]]]),.ue V2 rW (.comp Sp 0 lC (.or (.cmp 8 (.idx Sp I0) Vr) (.cmp 8 (.idx Vr I0) (.tup [I1,I0])))),.ue V2 (U [121]) (.idx (.tup [V8,.tup [(U [110])],.tup [U2],.tup [(U [115]),U0]]) (.bin 4 (.bin 3 V3 I4) I4)),.ret V2]
theorem WW:tQ P 777 2 10 true MV:=by kernel_rfl
theorem VW:tQ P 784 2 1 true [.asg 2 (.dct 1 [.int 1,.int 2] [.za (.cmp 0 (.idx V0 gW) I0) V1 (.tup [(U [111]),.dct 0 [.str [97]] [V1]]),.idx V0 (U [121])]),.ret (.dct 2 [.str [118,97,108,115],.str [109,111,118,101,100]] [V2,.lit (.bool false)])]:=by kernel_rfl
theorem UW:tQ P 791 2 0 true [.za (.cmp 0 V1 I2) [.ret (.lst false [])] [],.ret (.za (.cmp 0 (.idx (.idx (.attr V0 11) V1) I0) I6) (.bi 4 [.idx (.idx (.attr V0 11) V1) I1]) (.lst false [V1]))]:=by kernel_rfl
noncomputable abbrev LV:List C:=[.asg 4 (.call 791 [.idx V0 (U [116,97,98]),V1]),.za (.cmp 1 V4 (.za V2 (.idx V0 EY) (.idx V0 (U [115,111,108,105,100])))) [.ret (.lit (.bool false))] [],.ng [5,6] V3 [.za (.cmp 0 V4 (.lst false [(I 11)])) [.za (.cmp 8 (.idx V6 I0) (.tup [U2,(U [110])])) [.ret (.lit (.bool false))] []] [.za (.and (.cmp 9 V4 (.tup [.lst false [I1],.lst false [I0]])) (.cmp 9 V5 V4)) [.ret (.lit (.bool false))] []]],.ret (.lit (.bool true))]
theorem TW:tQ P 798 4 3 true LV:=by kernel_rfl
noncomputable abbrev yQ:List C:=[.asg 1 (.call 723 [V0,I2]),.asg 2 (.call 681 [.idx V0 U3,I3]),.asg 3 (.call 737 [V0,V1]),.asg 4 (.tup [U1,.tup [U1,V1]]),.za (.cmp 0 V2 I1) [.asg 4 (.tup [dW,V1])] [],.za (.and (.cmp 0 V2 I2) (.cmp 8 (.idx V1 I0) (.tup [U5,(U [111,114])]))) [.asg 4 (.tup [U1,.tup [.za (.cmp 0 (.idx V1 I0) U5) (U [111,114]) U5,.tup [U1,.idx V1 I1],.tup [U1,.idx V1 I2]]])] [],.asg 5 (.call 737 [V0,V4]),.asg 6 (.call 772 [V0,V1]),.asg 7 (.lst true []),.ng [8,9] (.idx V0 rW) [.asg 10 (.call 784 [V0,V9]),.asg 11 (.call 758 [Vr,V1]),.za (.and (.cmp 7 lC (.lit .none)) (.not (.idx Vr sW))) [.exp (.Dc V7 27 [.tup [lC,V8,V9]])] []],.ng [12,11] (.tup [.tup [I5,I1],.tup [I6,I0]]) [.asg 13 (.call 674 [.idx V0 U9,Sp,V3,.tup [],.idx V0 U8,.idx V0 (U [116])]),.asg 14 (.comp (.tup [(V 16),(V 17)]) 3 V7 (.cmp 0 (V 15) lC)),.za (.not (.call 798 [V0,(V 13),.cmp 1 (.bin 5 V6 (.bin 1 I2 lC)) I0,(V 14)])) [.ret (.lit (.bool false))] [],.za (.cmp 1 (.call 674 [.idx V0 U9,Sp,V5,.tup [],.idx V0 U8,.idx V0 (U [116])]) (V 13)) [.ret (.lit (.bool false))] []],.asg 12 (.idx (.tup [I4,I7,I2]) V2),.ret (.cmp 0 (.call 674 [.idx V0 U9,Sp,V3,.tup [],.idx V0 U8,.idx V0 (U [116])]) (.idx V0 (U [116])))]
theorem SW:tQ P 803 1 14 true yQ:=by kernel_rfl
noncomputable abbrev JV:List C:=[.asg 1 (.call 695 [V0]),.asg 2 (.call 702 [V0,.idx V1 I0,.idx V1 I1]),.Xe 3 (.tup [I5,I6]) [.asg 4 (.lst true []),.ng [5,6] (.idx V0 rW) [.asg 7 (.call 709 [.idx (.call 784 [V0,V6]) cW,.idx V1 I0,.idx V1 I1]),.za (.and (.cmp 7 V7 (.lit .none)) (.cmp 0 (.cmp 9 (.idx V7 I0) (.tup [U2,(U [110])])) (.cmp 0 V3 I5))) [.exp (.Dc V4 27 [.tup [V5,V6]])] []],.asg 8 (.call 674 [.idx V0 U9,V3,V2,.tup [I1],.idx V0 U8,.idx V0 (U [116])]),.za (.not (.call 798 [V0,V8,.or (.cmp 0 V3 I6) (.not (.call 765 [V0,V1])),V4])) [.ret (.lit (.bool false))] []],.ret (.lit (.bool true))]
theorem RW:tQ P 810 1 8 true JV:=by kernel_rfl
theorem QW:tQ P 817 2 3 true [.asg 2 (.tup [wW,U4,fW,GY,FY]),.asg 3 (.call 681 [.idx V0 U3,(I 30720)]),.za (.cmp 0 V1 I0) [.ret (.za (.cmp 2 (.bin 4 (.bin 3 V3 I5) I6) I5) (.tup [bW,.idx V2 (.bin 4 V3 I5)]) (.tup [qW]))] [],.za (.cmp 0 V1 I1) [.ret (.tup [pW,.call 695 [V0]])] [],.za (.cmp 0 (.bin 4 V3 I7) I5) [.ret (.tup [(U [115,117,109]),I1,I1])] [],.asg 4 (.za (.cmp 4 (.bin 4 V3 I7) I1) (.call 716 [V0,.bin 3 V3 I7]) (.tup [U1,.call 723 [V0,I1]])),.ret (.za (.cmp 8 (.idx V4 I0) (.tup [vW,eW])) (.tup [U1,V4]) V4)]:=by kernel_rfl
theorem OW:tQ P 824 3 1 true [.za (.cmp 6 V2 (.lit .none)) [.ret (.call 688 [V0,(I 51),U0,.lst false [.lit .none],I0])] [],.za (.cmp 0 (.idx V2 I0) bW) [.asg 3 (.call 688 [V0,I2,.idx V2 I1,.lst false [],I0])] [.za (.cmp 0 (.idx V2 I0) qW) [.asg 3 (.call 688 [V0,I1,I7,.lst false [],I0])] [.za (.cmp 0 (.idx V2 I0) pW) [.asg 3 (.call 730 [V0,.idx V2 I1,.lit (.bool false)])] [.asg 3 (.call 737 [V0,V2])]]],.ret (.call 688 [V0,(I 51),U0,.lst false [V3],I0])]:=by kernel_rfl
theorem NW:tQ P 831 3 0 true [.za (.or (.cmp 6 V2 (.lit .none)) (.or (.cmp 0 (.idx V2 I0) qW) (.and (.cmp 0 (.idx V2 I0) bW) (.not (.call 765 [V0,.idx V1 I1]))))) [.ret (.za (.cmp 6 V2 (.lit .none)) I2 I3)] [],.za (.cmp 0 (.idx V2 I0) bW) [.ret (.za (.cmp 0 (.idx V2 I1) U4) I1 I2)] [],.za (.cmp 0 (.idx V2 I0) pW) [.ret (.za (.not (.call 765 [V0,.idx V2 I1])) I3 (.za (.cmp 0 (.idx V1 I1) U4) I1 I2))] [],.ret (.call 772 [V0,V2])]:=by kernel_rfl
noncomputable abbrev nM:List C:=[.asg 4 (.idx V2 I1),.za (.cmp 0 (.idx V2 I0) I0) [.asg 5 (.call 709 [.idx V1 cW,.idx (.idx V2 I1) I0,.idx (.idx V2 I1) I1]),.za (.cmp 6 V5 (.lit .none)) [.ret (.lit .none)] [],.asg 4 (.call 744 [V5])] [],.Xe 6 (.bi 1 [.bi 0 [V3]]) [.asg 7 (.idx V3 V6),.za (.or (.cmp 6 V7 (.lit .none)) (.cmp 0 (.idx V7 I0) qW)) [.cont] [],.za (.cmp 0 (.idx V7 I0) bW) [.asg 8 (.za (.cmp 0 (.idx V7 I1) V4) I1 I0)] [.za (.cmp 0 (.idx V7 I0) pW) [.asg 5 (.call 709 [.idx V1 cW,.idx (.idx V7 I1) I0,.idx (.idx V7 I1) I1]),.asg 8 (.za (.cmp 6 V5 (.lit .none)) (.lit .none) (.za (.cmp 0 (.call 744 [V5]) V4) I1 I0))] [.asg 8 (.call 758 [V1,V7])]],.za (.cmp 6 V8 (.lit .none)) [.ret (.lit .none)] [],.za (.cmp 0 V8 I1) [.ret V6] []],.ret (.za (.cmp 8 (.lit .none) V3) (.Dc V3 12 [.lit .none]) (.neg I1))]
theorem MW:tQ P 838 4 5 true nM:=by kernel_rfl
noncomputable abbrev xQ:List C:=[.asg 1 (.call 681 [.idx V0 U3,(I 7200)]),.asg 2 (.bin 4 V1 I3),.asg 3 (.bin 0 I1 (.bin 4 (.bin 3 V1 I3) I4)),.asg 4 (.bin 4 (.bin 3 V1 (I 12)) (.bin 0 V3 I1)),.asg 5 (.bin 0 V4 (.bin 4 (.bin 3 V1 (I 60)) (.bin 0 (.bin 1 V3 V4) I1))),.asg 6 (.bin 4 (.bin 3 V1 (I 300)) I6),.asg 7 (.za (.cmp 0 V2 I0) (.call 695 [V0]) (.idx (.tup [U4,wW,fW]) (.bin 4 (.bin 3 V1 (I 1800)) I3))),.asg 8 (.tup [V2,V7]),.asg 10 (.comp (.za (.cmp 0 (V 20) V6) (.lit .none) (.call 817 [V0,V2])) 0 (.bi 1 [V3]) (.lit (.bool true))),.za (.cmp 0 V2 I0) [.asg 11 (.call 730 [V0,V7,.cmp 0 (.bin 4 (.bin 3 V1 (I 1800)) I2) I1])] [.za (.cmp 0 V2 I1) [.asg 11 (.call 688 [V0,I2,V7,.lst false [],I0])] [.asg 11 (.call 688 [V0,(I 33),U0,.lst false [.call 688 [V0,I4,U0,.lst false [],I0]],I0])]],.asg 11 (.call 688 [V0,(I 50),U0,.bin 0 (.lst false [lC]) (.comp (.call 824 [V0,V2,(V 20)]) 0 Vr (.lit (.bool true))),I0]),.asg 12 (.comp (.call 831 [V0,V8,(V 20)]) 0 Vr (.lit (.bool true))),.asg 13 (.bi 5 [.comp (.cmp 1 (.bin 5 (V 20) I2) I0) 0 Sp (.lit (.bool true))]),.asg 14 (.and (V 13) (.or (.cmp 0 V4 V5) (.cmp 8 (.lit .none) (.slc Vr V4 V5)))),.Xe 9 (.bi 1 [V4,V5]) [.za (.and (.bin 5 (.idx Sp V9) I1) (.bi 5 [.comp (.cmp 1 (.bin 5 (V 20) I2) I0) 0 (.slc Sp (.lit .none) V9) (.lit (.bool true))])) [.asg 14 (.lit (.bool true))] []],.asg 15 (.lst true []),.ng [16,17] (.idx V0 rW) [.asg 18 (.call 784 [V0,(V 17)]),.asg 9 (.call 838 [V0,(V 18),V8,Vr]),.za (.and (.cmp 7 V9 (.lit .none)) (.and (.not (.idx (V 18) sW)) (.or (.Sm 3 2 V4 V9 V5) (.and (.cmp 0 V9 (.neg I1)) (.cmp 0 V4 V5))))) [.exp (.Dc (V 15) 27 [.tup [(V 16),(V 17)]])] []],.asg 19 (.call 674 [.idx V0 U9,I8,lC,.tup [V4,V5],.idx V0 U8,.idx V0 (U [116])]),.ret (.call 798 [V0,(V 19),(V 14),(V 15)])]
theorem LW:tQ P 843 1 19 true xQ:=by kernel_rfl
noncomputable abbrev IV:List C:=[.asg 0 (.slc V0 (.lit .none) (I 63)),.asg 1 (.call 190 []),.asg 2 (.lst true [I0,V0]),.Xe 3 (.bi 1 [.bin 0 I1 (.bin 3 (.bi 0 [V0]) qC)]) [.asg 4 (.call 777 [V1,V2]),.za (.or (.not (.call 803 [V4])) (.or (.not (.call 810 [V4])) (.not (.call 843 [V4])))) [.ret (.lit (.bool false))] []],.ret (.lit (.bool true))]
theorem JW:tQ P 850 1 4 true IV:=by kernel_rfl
abbrev Tx:=List Nat
inductive Nd where
 |str (s:Tx)
 |Ti (s:Tx)
 |num (k:Int)
 |lit (b:Bool)
 |lst
 |name (r:Nat) (a:Tx)
 |wrap (k:Nat) (x:Nd)
 |mem (n:Tx) (x:Nd) (o:Bool)
 |idx (x i:Nd) (o:Bool)
 |call (x:Nd) (o:Bool)
 |Mk (s:Tx) (x:Nd)
 |bin (s:Tx) (l r:Nd)
 |log (s:Tx) (l r:Nd)
 |yn (l r:Nd)
noncomputable def Lu:Nat->Int|0=>33|1=>32|_=>20
noncomputable def Nd.kind:Nd->Int
 | .str _=>2| .Ti _=>3| .num _=>1| .lit b=>if b=true then 4 else 5
 | .lst=>71| .name _ _=>8| .wrap k _=>Lu k| .mem _ _ _=>16| .idx _ _ _=>17| .call _ _=>18| .Mk _ _=>21| .bin _ _ _=>23| .log _ _ _=>24| .yn _ _=>25
noncomputable def Mh(o:Bool):Int:=if o=true then 1 else 0
def Lb(use:List (Int×AV))(cnt:Int):Nd->AV->Prop
 | .str s,v=>∃t d,v= .node 2 (.str s) [] 0 t d| .Ti s,v=>∃t d,v= .node 3 (.tup [.str s]) [] 0 t d| .num k,v=>∃t d,v= .node 1 (.int k) [] 0 t d/\0<=k/\k<10| .lit b,v=>∃t d,v= .node (if b=true then 4 else 5) (.str []) [] 0 t d| .lst,v=>∃t d,v= .node 71 (.str []) [] 0 t d| .name r a,v=>∃t d,v= .node 8 (.str a) [] 0 t d/\d<=cnt/\Pf d use=if r=0 then none else some (.int r)
 | .wrap k x,v=>∃t d xv,v= .node (Lu k) (.str []) [xv] 0 t d/\Lb use cnt x xv| .mem n x o,v=>∃t d xv,v= .node 16 (.str n) [xv] (Mh o) t d/\Lb use cnt x xv| .idx x i o,v=>∃t d xv iv,v= .node 17 (.str []) [xv,iv] (Mh o) t d/\Lb use cnt x xv/\Lb use cnt i iv| .call x o,v=>∃t d xv lv,v= .node 18 (.str []) [xv,lv,.none] (Mh o) t d/\Lb use cnt x xv| .Mk s x,v=>∃t d xv,v= .node 21 (.str s) [xv] 0 t d/\Lb use cnt x xv| .bin s l r,v=>∃t d lv rv,v= .node 23 (.str s) [lv,rv] 0 t d/\Lb use cnt l lv/\Lb use cnt r rv| .log s l r,v=>∃t d lv rv,v= .node 24 (.str s) [lv,rv] 0 t d/\Lb use cnt l lv/\Lb use cnt r rv| .yn l r,v=>∃t d lv rv,v= .node 25 (.str [61]) [lv,rv] 0 t d/\Lb use cnt l lv/\Lb use cnt r rv
def zN(cnt:Int)(use QJ:List (Int×AV)):Prop:=∀d,d<=cnt->Pf d QJ=Pf d use
theorem Lb.up{QJ:List (Int×AV)}{qV:Int}(h:zN cnt use QJ)(hc:cnt<=qV){x:Nd}:∀{v:AV},Lb use cnt x v->Lb QJ qV x v:=by
 induction x with|name r a=>exact λz=>Je z λt d e h1 h2=>Wa t d e (Int.le_trans h1 hc) ((h d h1).trans h2)|wrap k x ih=>exact λz=>Qa z λt d xv e h1=>ve t d xv e (ih h1)|mem n x o ih=>exact λz=>Qa z λt d xv e h1=>ve t d xv e (ih h1)|Mk s x ih=>exact λz=>Qa z λt d xv e h1=>ve t d xv e (ih h1)|call x o ih=>exact λz=>xb z λt d xv lv e h1=>ZG t d xv lv e (ih h1)|idx x i o ih oP=>exact λz=>xb z λt d xv iv e h1=>Vc t d xv iv e (ih h1.1) (oP h1.2)|bin s l r ih oP=>exact λz=>xb z λt d xv iv e h1=>Vc t d xv iv e (ih h1.1) (oP h1.2)|log s l r ih oP=>exact λz=>xb z λt d xv iv e h1=>Vc t d xv iv e (ih h1.1) (oP h1.2)|yn l r ih oP=>exact λz=>xb z λt d xv iv e h1=>Vc t d xv iv e (ih h1.1) (oP h1.2)|_=>exact λz=>z
theorem Lb.node{x:Nd}(z:Lb use cnt x v):∃a ks f t d,v= .node x.kind a ks f t d:=by
 induction x with|num=>exact db z λt d e _=>Jf _ _ _ t d e|name=>exact db z λt d e _=>Jf _ _ _ t d e|wrap=>exact Qa z λt d _ e _=>Jf _ _ _ t d e|mem=>exact Qa z λt d _ e _=>Jf _ _ _ t d e|Mk=>exact Qa z λt d _ e _=>Jf _ _ _ t d e|call=>exact xb z λt d _ _ e _=>Jf _ _ _ t d e|idx=>exact xb z λt d _ _ e _=>Jf _ _ _ t d e|bin=>exact xb z λt d _ _ e _=>Jf _ _ _ t d e|log=>exact xb z λt d _ _ e _=>Jf _ _ _ t d e|yn=>exact xb z λt d _ _ e _=>Jf _ _ _ t d e|_=>exact Cp z λt d e=>Jf _ _ _ t d e
abbrev KW(w:World)(n:Nat):CP:=ja w (H1 w.params) n
def ye(vi:AV)(xs:List AV):AH->Prop:=λZ2=>sa Z2 vi=some xs
@[simp] theorem Qh(xs:List AV):ye (.ba xs) xs Z=True:=eq_true rfl
@[simp] theorem Dz(xs:List AV):ye (.tup xs) xs Z=True:=eq_true rfl
theorem Ho{xs:List AV}(h:Z[i]? =some (.list xs)):sa Z (.ref i)=some xs:=qj h
theorem Uh{c:Nat}(h:Z[i]? =some (.inst c fs))(hc:Ud c n=true):Ze Z n (.ref i)=Jb n fs:=(ud h).trans (X0 hc)
@[simp] theorem rV{a b:AV}:Ta Z 8 a b=ST Z a b:=rfl
@[simp] theorem gB{a:AV}:Bc a []=some false:=rfl
theorem Uq(o:Option Bool):o.map (false||·)=o:=by rcases o with⟨⟩<;>rfl
@[simp] theorem Wy:Bc (.int a) (.int b::ys)=(Bc (.int a) ys).map (decide (b=a)||·):=rfl
@[simp] theorem yo{a b:List Nat}:Bc (.str a) (.str b::ys)=(Bc (.str a) ys).map (decide (b=a)||·):=rfl
@[simp] theorem JO{b:List Nat}:Bc (.str b) (.int a::ys)=Bc (.str b) ys:=Uq _
@[simp] theorem MO:Bc .none (.none::ys)=(Bc .none ys).map (true||·):=rfl
@[simp] theorem LO{b:List AV}:Bc .none (.tup b::ys)=Bc .none ys:=Uq _
theorem xn{a b:List Nat}(h:a.length+b.length<=Ab):wc Z 0 (.str a) (.str b)=some (.str (a++b)):=X0 h
theorem YB{a b:List AV}(h:a.length+b.length<=Ab):wc Z 0 (.ba a) (.ba b)=some (.ba (a++b)):=X0 h
theorem XB(h:a.natAbs<=Ab/\b.natAbs<=Ab):wc Z 2 (.int a) (.int b)=some (.int (a*b)):=X0 h
theorem Mg(h:0<b/\b<=Ab/\0<=a/\a<=Ab):wc Z 3 (.int a) (.int b)=some (.int (a/b)):=X0 h
theorem WB(h:0<=a/\0<=b/\a<=Ab/\b<=Ab):wc Z 5 (.int a) (.int b)=some (.int ((a.toNat&&&b.toNat:Nat):Int)):=X0 h
theorem lM(h:0<=a/\0<=b/\a<=Ab/\b<=64):wc Z 7 (.int a) (.int b)=some (.int ((a.toNat>>>b.toNat:Nat):Int)):=X0 h
theorem qf{xs:List AV}{k:Nat}(h:k<=Ab):Oq xs (k:Int)=xs[k]? :=by unfold Oq;refine rr (X0 ((E4 _)))<|rr (X0 ((Int.ofNat_le.mpr ‹_›))) ?_;simp
theorem Hf{xs:List AV}{k:Int}(h:Z[i]? =some (.list xs)):jb Z (.ref i) (.int k)=Oq xs k:=ud h
theorem jr{xs:List (Int×AV)}{k:Int}(h:Z[i]? =some (.Ea xs)):jb Z (.ref i) (.int k)=Pf k xs:=ud h
theorem Da{xs:List (List Nat×AV)}{k:List Nat}(h:Z[i]? =some (.gb xs)):jb Z (.ref i) (.str k)=Oi k xs:=ud h
theorem wD{xs:List (Int×AV)}{k:Int}{d:AV}(h:Z[i]? =some (.Ea xs)):rn Z (.ref i) (.int k) d=some ((Pf k xs).getD d):=ud h
theorem xa(h:n<=1000):n<=Ab:=by unfold Ab;exact A0 ‹_› (N0 rfl)
noncomputable def Qp:Nd->Nat| .wrap _ x=>Qp x+1| .mem _ x _=>Qp x+1| .idx x _ _=>Qp x+1| .call x _=>Qp x+1| .yn l _=>Qp l+1|_=>0
noncomputable def Hc:Nd->Nd| .wrap 0 x=>Hc x|x=>x
end
variable{A:List (Nat×AV)->Prop}{B:Prop}{H W sc:List Int}{K:CP}{R cs es ks r0 r1 r2 rows Ba zq st Yh je:List AV}{a ex h lv rv tv v0 v1 v2 xv:AV}{a0 a1 a2 a3 f0 mN FL EL BL f2 f3 f4 f5 f6 f7 f8 f9 x0 x1 LE x2 x4 x5 x6 x7 x8:Option AV}{at_ c d dd f p bb t tt:Int}{b b1 lg held run yes:Bool}{di ei hi high qc la lc lc' li oi ri Ed ti ui xi:Nat}{kvs:List (Int×AV)}{l x y:Nd}{s u:Tx}{s1 s2 Z0 Z3 Zb:AH}
section
open PySem.Calls
theorem yx{x m:Int}(h:0<m):wc Z 4 (.int x) (.int m)=some (.int (x%m)):=X0 h
theorem vp{x m:Int}(h0:0<=x)(h1:x<100000)(h2:0<m)(h3:m<=100000):wc Z 3 (.int x) (.int m)=some (.int (x/m)):=Mg (Kh h2 (by unfold Ab;exact Int.le_trans ‹_› (N0 rfl)) h0 (by unfold Ab;lia))
@[irreducible] def At(K:CP)(c:J)(st:List AV)(fr:Fr)(Z:AH)(S:SQ):Prop:=oa K c st fr Z S
section
variable{k a b:J}{vs:List AV}{S:SQ}{u x y:AV}{o:Nat}{t:Bool}
theorem Xb(h:At K k st fr Z S):oa K k st fr Z S:=by unfold At at h;exact h
theorem yb(h:oa K k st fr Z S):At K k st fr Z S:=by unfold At;exact h
theorem Aa{α:Type}{o:Option α}{v:α}{Q:α->Prop}(e:o=some v)(h:Q v):Hb o Q:=by rw[e];exact h
theorem Ka(h:S .next fr Z):At K .fin st fr Z S:=yb h
theorem LT(h:S .brk fr Z):At K .brk st fr Z S:=yb h
theorem dg(h:S .cont fr Z):At K .cont st fr Z S:=yb h
theorem na(h:S (.ret v) fr Z):At K .ret (v::st) fr Z S:=yb h
theorem Gh(h:At K k (v::st) fr Z S):At K (.lit v k) st fr Z S:=by unfold At at*;exact h
theorem Ua(e:Wh fr i=some v)(h:At K k (v::st) fr Z S):At K (.load i k) st fr Z S:=yb (Aa e (Xb h))
theorem Fa(e:wc Z o x y=some v)(h:At K k (v::st) fr Z S):At K (.bin o k) (y::x::st) fr Z S:=yb (Aa (Q:=λv=>oa K k (v::st) fr Z S) e (Xb h))
theorem ik{z:Int}(h:At K k (.int (-z)::st) fr Z S):At K (.neg k) (.int z::st) fr Z S:=by unfold At at*;exact h
theorem PG(e:Db Z x=some t)(h:At K k (.bool (!t)::st) fr Z S):At K (.not k) (x::st) fr Z S:=yb (Aa (Q:=λt=>oa K k (.bool (!t)::st) fr Z S) e (Xb h))
theorem tB(e:Db Z x=some true)(h:At K a st fr Z S):At K (.and a k) (x::st) fr Z S:=yb (Aa (Q:=λt=>if t=true then oa K a st fr Z S else oa K k (x::st) fr Z S) e (Xb h))
theorem uB(e:Db Z x=some false)(h:At K k (x::st) fr Z S):At K (.and a k) (x::st) fr Z S:=yb (Aa (Q:=λt=>if t=true then oa K a st fr Z S else oa K k (x::st) fr Z S) e (Xb h))
theorem OG(e:Db Z x=some true)(h:At K k (x::st) fr Z S):At K (.or a k) (x::st) fr Z S:=yb (Aa (Q:=λt=>if t=true then oa K k (x::st) fr Z S else oa K a st fr Z S) e (Xb h))
theorem bz(e:Db Z x=some false)(h:At K a st fr Z S):At K (.or a k) (x::st) fr Z S:=yb (Aa (Q:=λt=>if t=true then oa K k (x::st) fr Z S else oa K a st fr Z S) e (Xb h))
theorem QG(e:Db Z x=some t)(h1:t=true->At K a st fr Z S)(h2:t=false->At K k (x::st) fr Z S):At K (.and a k) (x::st) fr Z S:=by
 induction t with|true=>exact tB e (h1 rfl)|false=>exact uB e (h2 rfl)
theorem iD(e:Db Z x=some t)(h1:t=true->At K k (x::st) fr Z S)(h2:t=false->At K a st fr Z S):At K (.or a k) (x::st) fr Z S:=by
 induction t with|true=>exact OG e (h1 rfl)|false=>exact bz e (h2 rfl)
theorem aj(e:Ta Z o x y=some t)(h:At K k (.bool t::st) fr Z S):At K (.cmp o k) (y::x::st) fr Z S:=yb (Aa (Q:=λt=>oa K k (.bool t::st) fr Z S) e (Xb h))
theorem Iu(e:Ta Z o x y=some true)(h:At K a st fr Z S):At K (.jc o a b) (y::x::st) fr Z S:=yb (Aa (Q:=λt=>if t=true then oa K a st fr Z S else oa K b st fr Z S) e (Xb h))
theorem Dd(e:Ta Z o x y=some false)(h:At K b st fr Z S):At K (.jc o a b) (y::x::st) fr Z S:=yb (Aa (Q:=λt=>if t=true then oa K a st fr Z S else oa K b st fr Z S) e (Xb h))
theorem Pc(e:Ta Z o x y=some t)(h1:t=true->At K a st fr Z S)(h2:t=false->At K b st fr Z S):At K (.jc o a b) (y::x::st) fr Z S:=by
 induction t with|true=>exact Iu e (h1 rfl)|false=>exact Dd e (h2 rfl)
theorem NT(e:Ta Z o x y=some true)(h:At K a (y::st) fr Z S):At K (.jc2 o a b) (y::x::st) fr Z S:=yb (Aa (Q:=λt=>if t=true then oa K a (y::st) fr Z S else oa K b st fr Z S) e (Xb h))
theorem OT(e:Ta Z o x y=some false)(h:At K b st fr Z S):At K (.jc2 o a b) (y::x::st) fr Z S:=yb (Aa (Q:=λt=>if t=true then oa K a (y::st) fr Z S else oa K b st fr Z S) e (Xb h))
theorem NZ(e:Ta Z o x y=some t)(h1:t=true->At K a (y::st) fr Z S)(h2:t=false->At K b st fr Z S):At K (.jc2 o a b) (y::x::st) fr Z S:=by
 induction t with|true=>exact NT e (h1 rfl)|false=>exact OT e (h2 rfl)
theorem jD(e:Db Z x=some true)(h:At K a st fr Z S):At K (.jt a b) (x::st) fr Z S:=yb (Aa (Q:=λt=>if t=true then oa K a st fr Z S else oa K b st fr Z S) e (Xb h))
theorem XK(e:Db Z x=some false)(h:At K b st fr Z S):At K (.jt a b) (x::st) fr Z S:=yb (Aa (Q:=λt=>if t=true then oa K a st fr Z S else oa K b st fr Z S) e (Xb h))
theorem Mp(e:Db Z x=some t)(h1:t=true->At K a st fr Z S)(h2:t=false->At K b st fr Z S):At K (.jt a b) (x::st) fr Z S:=by
 induction t with|true=>exact jD e (h1 rfl)|false=>exact XK e (h2 rfl)
theorem IT(e:gf n [] st=some (vs,Yh))(l:Nat.ble vs.length 1000=true)(h:At K k (.tup vs::Yh) fr Z S):At K (.tup n k) st fr Z S:=
 yb (Aa (Q:=λp:List AV×List AV=>p.1.length<=Ab/\oa K k (.tup p.1::p.2) fr Z S) e ⟨xa (j3 l),Xb h⟩)
theorem ZX(e:gf n [] st=some (vs,Yh))(l:Nat.ble vs.length 1000=true)(h:At K k (.ba vs::Yh) fr Z S):At K (.lst false n k) st fr Z S:=
 yb (Aa (Q:=λp:List AV×List AV=>p.1.length<=Ab/\if false=true then oa K k (.ref Z.length::p.2) fr (Z++[AO.list p.1]) S else oa K k (.ba p.1::p.2) fr Z S) e ⟨xa (j3 l),Xb h⟩)
theorem Eo(e:gf n [] st=some (vs,Yh))(l:Nat.ble vs.length 1000=true)(h:At K k (.ref Z.length::Yh) fr (Z++[.list vs]) S):At K (.lst true n k) st fr Z S:=
 yb (Aa (Q:=λp:List AV×List AV=>p.1.length<=Ab/\if true=true then oa K k (.ref Z.length::p.2) fr (Z++[AO.list p.1]) S else oa K k (.ba p.1::p.2) fr Z S) e ⟨xa (j3 l),Xb h⟩)
theorem WM(e:gf n [] st=some (vs,Yh))(d:cg Z m ks vs=some (v,Z'))(h:At K k (v::Yh) fr Z' S):At K (.dct m ks n k) st fr Z S:=
 yb (Aa (Q:=λp:List AV×List AV=>Hb (cg Z m ks p.1) λr=>oa K k (r.1::p.2) fr r.2 S) e (Aa (Q:=λr=>oa K k (r.1::Yh) fr r.2 S) d (Xb h)))
theorem Rb(e:Ze Z n x=some v)(h:At K k (v::st) fr Z S):At K (.attr n k) (x::st) fr Z S:=yb (Aa (Q:=λv=>oa K k (v::st) fr Z S) e (Xb h))
theorem qa(e:jb Z x y=some v)(h:At K k (v::st) fr Z S):At K (.idx k) (y::x::st) fr Z S:=yb (Aa (Q:=λv=>oa K k (v::st) fr Z S) e (Xb h))
theorem gr(e:Wi Z x y u=some v)(h:At K k (v::st) fr Z S):At K (.slc k) (u::y::x::st) fr Z S:=yb (Aa (Q:=λv=>oa K k (v::st) fr Z S) e (Xb h))
theorem Hh(e:gf n [] st=some (vs,Yh))(h:K m vs Z λv Z=>At K k (v::Yh) fr Z S):At K (.call m n k) st fr Z S:=
 yb (Aa (Q:=λp:List AV×List AV=>K m p.1 Z λv Z=>oa K k (v::p.2) fr Z S) e (by simpa only[At]using h))
theorem dw{p:Nat×List (Nat×AV)}{f:Nat}(e:Gb Z x=some p)(d:Hg m p=some f)(h:At K b (.int f::x::st) fr Z S):At K (.mth m b) (x::st) fr Z S:=by refine yb ?_;show(match Gb Z x with|some p=>_|none=>_);rw[e];exact Aa (Q:=λf:Nat=>oa K b (.int f::x::st) fr Z S) d (Xb h)
theorem Zi(e:Gb Z x=none)(d:Ah Z x=Jp m/\Jp m≠0)(h:At K b (.none::x::st) fr Z S):At K (.mth m b) (x::st) fr Z S:=by refine yb ?_;show(match Gb Z x with|some p=>_|none=>_);rw[e];exact(sf d.1 d.2 (Xb h))
theorem ew(e:gf n [] st=some (vs,.int f::u::Yh))(h:K f.toNat (u::vs) Z λv Z=>At K k (v::Yh) fr Z S):At K (.yJ m n k) st fr Z S:=
 yb (Aa (Q:=λp:List AV×List AV=>match p.2 with
  | .int f::a::st=>K f.toNat (a::p.1) Z λv Z=>oa K k (v::st) fr Z S| .none::a::st=>Hb (Mc Z m a p.1) λr=>oa K k (r.1::st) fr r.2 S|_=>False) e (by simpa only[At]using h))
theorem Fh(e:gf n [] st=some (vs,.none::u::Yh))(d:Mc Z m u vs=some (v,Z'))(h:At K k (v::Yh) fr Z' S):At K (.yJ m n k) st fr Z S:=
 yb (Aa (Q:=λp:List AV×List AV=>match p.2 with
  | .int f::a::st=>K f.toNat (a::p.1) Z λv Z=>oa K k (v::st) fr Z S| .none::a::st=>Hb (Mc Z m a p.1) λr=>oa K k (r.1::st) fr r.2 S|_=>False) e (Aa (Q:=λr=>oa K k (r.1::Yh) fr r.2 S) d (Xb h)))
theorem Ef(e:gf n [] st=some (vs,Yh))(d:og Z m vs=some v)(h:At K k (v::Yh) fr Z S):At K (.bi m n k) st fr Z S:=
 yb (Aa (Q:=λp:List AV×List AV=>Hb (og Z m p.1) λv=>oa K k (v::p.2) fr Z S) e (Aa (Q:=λv=>oa K k (v::Yh) fr Z S) d (Xb h)))
theorem jP{xs:List AV}(e:Td x=some xs)(h:At K k (.qn xs::st) fr Z S):At K (.af k) (x::st) fr Z S:=yb (Aa (Q:=λxs=>oa K k (.qn xs::st) fr Z S) e (Xb h))
theorem sB(h:At K k st (fr.set i (some x)) Z S):At K (.sto i k) (x::st) fr Z S:=by unfold At at*;exact h
theorem eg(e:mh is x fr=some Ub)(h:At K k st Ub Z S):At K (.Ck is k) (x::st) fr Z S:=yb (Aa (Q:=λfr=>oa K k st fr Z S) e (Xb h))
theorem zc(e:setAttr Z y n x=some Z')(h:At K k st fr Z' S):At K (.Xd n k) (y::x::st) fr Z S:=yb (Aa (Q:=λZ=>oa K k st fr Z S) e (Xb h))
theorem fe(e:Ad Z y u x=some Z')(h:At K k st fr Z' S):At K (.ue k) (u::y::x::st) fr Z S:=yb (Aa (Q:=λZ=>oa K k st fr Z S) e (Xb h))
theorem MT(e:jb Z x y=some v)(h:At K k (v::y::x::st) fr Z S):At K (.aug k) (y::x::st) fr Z S:=yb (Aa (Q:=λv=>oa K k (v::y::x::st) fr Z S) e (Xb h))
theorem kP{w:AV}(d:RI o v u=some w)(e:Ad Z x y w=some Z')(h:At K k st fr Z' S):At K (.qM o k) (u::v::y::x::st) fr Z S:=
 yb (Aa (Q:=λw=>Hb (Ad Z x y w) λZ=>oa K k st fr Z S) d (Aa (Q:=λZ=>oa K k st fr Z S) e (Xb h)))
theorem KT(e:uo x=true)(h:At K k st fr Z S):At K (.exp k) (x::st) fr Z S:=yb ⟨e,Xb h⟩
theorem Ue(P:AV->Prop)(h:∀v,P v->At K k (v::st) fr Z S)(h2:(∀v,P v->At K k (v::st) fr Z S)->At K a Yh Ub Z' S):At K a Yh Ub Z' S:=h2 h
theorem an(P:Fr->Prop)(h:∀fr,P fr->At K k st fr Z S)(h2:(∀fr,P fr->At K k st fr Z S)->At K a Yh Ub Z' S):At K a Yh Ub Z' S:=h2 h
theorem gt(P:AV->AH->Prop)(h:∀v Z,P v Z->At K k (v::st) fr Z S)(h2:(∀v Z,P v Z->At K k (v::st) fr Z S)->At K a Yh Ub Z' S):At K a Yh Ub Z' S:=h2 h
def Gy(K:CP)(k:J)(st:List AV)(S:SQ):SQ:=Gm (λfr Z=>At K k st fr Z S) S
def IB(K:CP)(i:Nat)(b:J):AV->Fr->AH->SQ->Prop:=λx fr Z R=>At K b [] (fr.set i (some x)) Z R
def vz(K:CP)(is:List Nat)(b:J):AV->Fr->AH->SQ->Prop:=λx fr Z R=>Hb (mh is x fr) λfr=>At K b [] fr Z R
def Ku(K:CP)(n:Nat)(b:J)(fr:Fr):AV->AH->(Option AV->AH->Prop)->Prop:=λx Z R=>Hb (Th n x) λvs=>At K b [] (fr++vs) Z (sR R)
theorem HT(n:Nat)(h:Ij (λfr Z R=>At K a [] fr Z (cF R)) (λfr Z R=>At K b [] fr Z R) n fr Z (Gy K k st S)):At K (.Hu a b k) st fr Z S:=
 yb ⟨n,by simpa only[At,Gy]using h⟩
theorem Ve{xs:List AV}(e:sa Z x=some xs)(l:xs.length<=Ab)(h:Eb (ye x xs) (IB K i b) xs fr Z (Gy K k st S)):At K (.Xe i b k) (x::st) fr Z S:=
 yb (Aa (Q:=λxs=>qd xs/\Eb (λZ=>sa Z x=some xs) (λx fr Z R=>oa K b [] (fr.set i (some x)) Z R) xs fr Z (Gm (λfr Z=>oa K k st fr Z S) S)) e ⟨l,by unfold Gy IB at h;simp only[At]at h;exact h⟩)
theorem Eg{xs:List AV}(e:sa Z x=some xs)(l:xs.length<=Ab)(h:Eb (ye x xs) (vz K is b) xs fr Z (Gy K k st S)):At K (.ng is b k) (x::st) fr Z S:=
 yb (Aa (Q:=λxs=>qd xs/\Eb (λZ=>sa Z x=some xs) (λx fr Z R=>Hb (mh is x fr) λfr=>oa K b [] fr Z R) xs fr Z (Gm (λfr Z=>oa K k st fr Z S) S)) e ⟨l,by unfold Gy vz at h;simp only[At]at h;exact h⟩)
theorem Wd{xs:List AV}(e:sa Z x=some xs)(l:xs.length<=Ab)(h:Sa (ye x xs) (Ku K n b fr) xs [] Z λv Z=>At K k (v::st) fr Z S):At K (.comp n b k) (x::st) fr Z S:=
 yb (Aa (Q:=λxs=>qd xs/\Sa (λZ=>sa Z x=some xs) (λx Z R=>Hb (Th n x) λvs=>oa K b [] (fr++vs) Z (sR R)) xs [] Z λv Z=>oa K k (v::st) fr Z S) e ⟨l,by unfold Ku at h;simp only[At]at h;exact h⟩)
end
set_option genInjectivity false in
structure Zs where
 c:J
 st:List AV
 fr:Fr
 Z:AH
noncomputable def pS{R:Type}(x:Option AV)(fr:Fr):Nat->(Fr->Option R)->Option R:=fr.rec (λ_ _=>none) λa fr ih i k=>i.casesOn (k (x::fr)) λi=>ih i λr=>k (a::r)
noncomputable def Ip{R:Type}(st:List AV)(f:AV->List AV->Option R):Option R:=st.casesOn none f
noncomputable def Hv{R:Type}(st:List AV)(f:AV->AV->List AV->Option R):Option R:=st.casesOn none λb st=>st.casesOn none λa st=>f b a st
noncomputable def QX{R:Type}(m:Nat)(Z:AH)(a:AV)(r:Option R):Option R:=(Gb Z a).casesOn (bif Nat.beq (Ah Z a) (Jp m)then bif Nat.beq (Jp m) 0 then none else r else none) λ_=>none
noncomputable def SX{R:Type}(f:AV)(r:Option R):Option R:=f.casesOn r (λ_=>none) (λ_=>none) (λ_=>none) (λ_=>none) (λ_=>none) (λ_ _=>none) (λ_=>none) (λ_ _ _ _ _ _=>none) (λ_ _=>none) (λ_=>none) λ_=>none
noncomputable def Im{R:Type}(n:Nat)(st:List AV)(f:List AV->List AV->Option R):Option R:=(gf n [] st).casesOn none λp=>p.casesOn f
noncomputable def SF{R:Type}(o:Option (AV×AH))(f:AV->AH->Option R):Option R:=o.casesOn none λp=>p.casesOn f
noncomputable def nR(c:J)(st:List AV)(fr:Fr)(Z:AH):Option Zs:=
 c.casesOn none none none none none
  (λv k=>some ⟨k,v::st,fr,Z⟩)
  (λi k=>(Wh fr i).bind λv=>some ⟨k,v::st,fr,Z⟩)
  (λo k=>Hv st λb a st=>(wc Z o a b).bind λv=>some ⟨k,v::st,fr,Z⟩)
  (λ_=>none)
  (λk=>Ip st λa st=>(Db Z a).bind λt=>some ⟨k,.bool (!t)::st,fr,Z⟩)
  (λb k=>Ip st λa st=>(Db Z a).bind λt=>t.casesOn (some ⟨k,a::st,fr,Z⟩) (some ⟨b,st,fr,Z⟩))
  (λb k=>Ip st λa st=>(Db Z a).bind λt=>t.casesOn (some ⟨b,st,fr,Z⟩) (some ⟨k,a::st,fr,Z⟩))
  (λo k=>Hv st λb a st=>(Ta Z o a b).bind λv=>some ⟨k,.bool v::st,fr,Z⟩)
  (λo x y=>Hv st λb a st=>(Ta Z o a b).bind λt=>t.casesOn (some ⟨y,st,fr,Z⟩) (some ⟨x,st,fr,Z⟩))
  (λo x y=>Hv st λb a st=>(Ta Z o a b).bind λt=>t.casesOn (some ⟨y,st,fr,Z⟩) (some ⟨x,b::st,fr,Z⟩))
  (λx y=>Ip st λa st=>(Db Z a).bind λt=>t.casesOn (some ⟨y,st,fr,Z⟩) (some ⟨x,st,fr,Z⟩))
  (λn k=>Im n st λvs st=>bif Nat.ble vs.length 1000 then some ⟨k,.tup vs::st,fr,Z⟩else none)
  (λt n k=>t.casesOn (Im n st λvs st=>bif Nat.ble vs.length 1000 then some ⟨k,.ba vs::st,fr,Z⟩else none) none)
  (λm ks n k=>Im n st λvs st=>SF (cg Z m ks vs) λv Z=>some ⟨k,v::st,fr,Z⟩)
  (λn k=>Ip st λa st=>(Ze Z n a).bind λv=>some ⟨k,v::st,fr,Z⟩)
  (λk=>Hv st λb a st=>(jb Z a b).bind λv=>some ⟨k,v::st,fr,Z⟩)
  (λ_=>none) (λ_ _ _=>none)
  (λm b=>Ip st λa st=>QX m Z a (some ⟨b,.none::a::st,fr,Z⟩))
  (λm n k=>Im n st λvs st=>Hv st λf a st=>SX f (SF (Mc Z m a vs) λv Z=>some ⟨k,v::st,fr,Z⟩))
  (λf n k=>Im n st λvs st=>(og Z f vs).bind λv=>some ⟨k,v::st,fr,Z⟩)
  (λ_ _ _=>none)
  (λk=>Ip st λa st=>(Td a).bind λxs=>some ⟨k,.qn xs::st,fr,Z⟩)
  (λi k=>Ip st λa st=>pS (some a) fr i λfr=>some ⟨k,st,fr,Z⟩)
  (λ_ _=>none) (λ_ _=>none) (λ_=>none) (λ_=>none) (λ_ _=>none)
  (λk=>Ip st λa st=>bif uo a then some ⟨k,st,fr,Z⟩else none)
  (λ_ _ _=>none) (λ_ _ _=>none) (λ_ _ _=>none)
noncomputable def rz:Nat->Zs->Option Zs:=Nat.rec some λ_ ih z=>z.casesOn λc st fr Z=>(nR c st fr Z).casesOn none ih
section
variable{c c' k:J}{vs:List AV}{S:SQ}
theorem RA{R:Type}{x:Option AV}{r:R}:∀{fr:Fr}{i:Nat}{f:Fr->Option R},pS x fr i f=some r->f (fr.set i x)=some r|[],_,_,e=>ns e|_::_,0,_,e=>e|_::fr,i+1,_,e=>RA (fr:=fr) (i:=i) e
theorem zg{R:Type}{r:R}{f:AV->List AV->Option R}{G:Prop}(e:Ip st f=some r)(k:∀a s,st=a::s->f a s=some r->G):G:=by
 induction st with|nil=>exact ns e|cons a s=>exact k a s rfl e
theorem jl{R:Type}{r:R}{f:AV->AV->List AV->Option R}{G:Prop}(e:Hv st f=some r)(k:∀b a s,st=b::a::s->f b a s=some r->G):G:=by
 induction st with
 |nil=>exact ns e|cons b s=>induction s with
  |nil=>exact ns e|cons a s=>exact k b a s rfl e
theorem tx{R:Type}{r:R}{x y:Option R}{G:Prop}(e:(bif b then x else y)=some r)(k1:b=true->x=some r->G)(k2:b=false->y=some r->G):G:=by
 induction b with|true=>exact k1 rfl e|false=>exact k2 rfl e
theorem qF{R:Type}{r:R}{x y:Option R}{G:Prop}(e:(b.casesOn y x:Option R)=some r)(k1:b=true->x=some r->G)(k2:b=false->y=some r->G):G:=by
 induction b with|true=>exact k1 rfl e|false=>exact k2 rfl e
theorem eT{R:Type}{r:R}{f:AV}{x:Option R}{G:Prop}(e:SX f x=some r)(k:f= .none->x=some r->G):G:=by
 cases f with|none=>exact k rfl e|_=>exact ns e
theorem YS{R:Type}{r:R}{f:AV}{x:Option R}{G:Prop}(e:QX m Z f x=some r)(k:Gb Z f=none->Ah Z f=Jp m/\Jp m≠0->x=some r->G):G:=by
 unfold QX at e;cases h:Gb Z f with|some p=>rw[h]at e;exact ns e|none=>rw[h]at e;exact tx e (λh1 e=>tx e (λ_ e=>ns e) λh2 e=>k h ⟨Nat.eq_of_beq_eq_true h1,Nat.ne_of_beq_eq_false h2⟩ e) λ_ e=>ns e
theorem Zn{R:Type}{r:R}{f:List AV->List AV->Option R}{G:Prop}(e:Im n st f=some r)(k:∀vs s,gf n [] st=some (vs,s)->f vs s=some r->G):G:=by
 unfold Im at e;cases h:gf n [] st with|none=>rw[h]at e;exact ns e|some p=>rw[h]at e;exact k p.1 p.2 h e
theorem RF{R:Type}{r:R}{o:Option (AV×AH)}{f:AV->AH->Option R}{G:Prop}(e:SF o f=some r)(k:∀v s,o=some (v,s)->f v s=some r->G):G:=by
 induction o with|none=>exact ns e|some p=>exact k p.1 p.2 rfl e
theorem QR{z:Zs}(h:At K z.c z.st z.fr z.Z S)(c st fr Z)(e:some (Zs.mk c st fr Z)=some z):At K c st fr Z S:=by cases z0 e;exact h
theorem JP{z:Zs}(h:At K z.c z.st z.fr z.Z S)(e:nR c st fr Z=some z):At K c st fr Z S:=by
 have t:=QR h;induction c with
 |lit v k=>exact Gh (t _ _ _ _ e)|load i k=>exact ga e λ_ e1 e=>Ua e1 (t _ _ _ _ e)|bin o k=>exact jl e λ_ _ _ es e=>ga e λ_ e1 e=>es▸Fa e1 (t _ _ _ _ e)|not k=>exact zg e λ_ _ es e=>ga e λ_ e1 e=>es▸PG e1 (t _ _ _ _ e)|and b k=>exact zg e λ_ _ es e=>ga e λ_ e1 e=>es▸qF e (λh e=>tB (e1.trans (C0 some h)) (t _ _ _ _ e)) λh e=>uB (e1.trans (C0 some h)) (t _ _ _ _ e)|or b k=>exact zg e λ_ _ es e=>ga e λ_ e1 e=>es▸qF e (λh e=>OG (e1.trans (C0 some h)) (t _ _ _ _ e)) λh e=>bz (e1.trans (C0 some h)) (t _ _ _ _ e)|cmp o k=>exact jl e λ_ _ _ es e=>ga e λ_ e1 e=>es▸aj e1 (t _ _ _ _ e)|jc o x y=>exact jl e λ_ _ _ es e=>ga e λ_ e1 e=>es▸qF e (λh e=>Iu (e1.trans (C0 some h)) (t _ _ _ _ e)) λh e=>Dd (e1.trans (C0 some h)) (t _ _ _ _ e)|jc2 o x y=>exact jl e λ_ _ _ es e=>ga e λ_ e1 e=>es▸qF e (λh e=>NT (e1.trans (C0 some h)) (t _ _ _ _ e)) λh e=>OT (e1.trans (C0 some h)) (t _ _ _ _ e)|jt x y=>exact zg e λ_ _ es e=>ga e λ_ e1 e=>es▸qF e (λh e=>jD (e1.trans (C0 some h)) (t _ _ _ _ e)) λh e=>XK (e1.trans (C0 some h)) (t _ _ _ _ e)|tup n k=>exact Zn (show Im n st (λvs st=>bif Nat.ble vs.length 1000 then some ⟨k,.tup vs::st,fr,Z⟩else none)=some z from e) λ_ _ e1 e=>tx e (λh e=>IT e1 h (t _ _ _ _ e)) λ_ e=>ns e|lst tr n k=>
  induction tr with|true=>exact ns e|false=>exact Zn (show Im n st (λvs st=>bif Nat.ble vs.length 1000 then some ⟨k,.ba vs::st,fr,Z⟩else none)=some z from e) λ_ _ e1 e=>tx e (λh e=>ZX e1 h (t _ _ _ _ e)) λ_ e=>ns e
 |dct m ks n k=>exact Zn (show Im n st (λvs st=>SF (cg Z m ks vs) λv Z=>some ⟨k,v::st,fr,Z⟩)=some z from e) λ_ _ e1 e=>RF e λ_ _ e2 e=>WM e1 e2 (t _ _ _ _ e)|attr n k=>exact zg e λ_ _ es e=>ga e λ_ e1 e=>es▸Rb e1 (t _ _ _ _ e)|idx k=>exact jl e λ_ _ _ es e=>ga e λ_ e1 e=>es▸qa e1 (t _ _ _ _ e)|mth m b=>exact zg e λ_ _ es e=>YS e λh1 h2 e=>es▸Zi h1 h2 (t _ _ _ _ e)|yJ m n k=>exact Zn (show Im n st (λvs st=>Hv st λf a st=>SX f (SF (Mc Z m a vs) λv Z=>some ⟨k,v::st,fr,Z⟩))=some z from e) λ_ _ e1 e=>jl e λ_ _ _ es e=>eT e λef e=>RF e λ_ _ e2 e=>Fh (e1.trans (C0 some (Prod.ext rfl (ef▸es)))) e2 (t _ _ _ _ e)|bi f n k=>exact Zn (show Im n st (λvs st=>(og Z f vs).bind λv=>some ⟨k,v::st,fr,Z⟩)=some z from e) λ_ _ e1 e=>ga e λ_ e2 e=>Ef e1 e2 (t _ _ _ _ e)|af k=>exact zg e λ_ _ es e=>ga e λ_ e1 e=>es▸jP e1 (t _ _ _ _ e)|sto i k=>exact zg e λ_ _ es e=>es▸sB (t _ _ _ _ (RA e))|exp k=>exact zg e λ_ _ es e=>tx e (λh e=>es▸KT h (t _ _ _ _ e)) λ_ e=>ns e|_=>exact ns e
theorem So{z':Zs}(h:At K z'.c z'.st z'.fr z'.Z S):∀{n:Nat}{z:Zs},rz n z=some z'->At K z.c z.st z.fr z.Z S
 |0,z,e=>z0 e▸h|n+1,⟨c,st,fr,Z⟩,e=>ga (f:=rz n) (show(nR c st fr Z).bind (rz n)=some z' by
   cases e0:nR c st fr Z with
   |none=>rw[show rz (n+1) ⟨c,st,fr,Z⟩=(nR c st fr Z).casesOn none (rz n)from rfl,e0]at e;exact ns e|some z=>rw[show rz (n+1) ⟨c,st,fr,Z⟩=(nR c st fr Z).casesOn none (rz n)from rfl,e0]at e;exact e) λ_ e1 e=>JP (So h (n:=n) e) e1
theorem JT(n:Nat)(e:rz n ⟨c,st,fr,Z⟩=some ⟨c',Yh,Ub,Z'⟩)(h:At K c' Yh Ub Z' S):At K c st fr Z S:=So (z':=⟨c',Yh,Ub,Z'⟩) h e
theorem YX(n:Nat)(e:rz n ⟨c,st,fr,Z⟩=some ⟨.ret,v::Yh,Ub,Z'⟩)(h:S (.ret v) Ub Z'):At K c st fr Z S:=JT n e (na h)
end
section
variable{c:J}{S:SQ}
def Kt(K:CP)(k:J)(st:List AV)(fr:Fr)(S:SQ):AV->AH->Prop:=λv Z=>At K k (v::st) fr Z S
def gA(K:CP)(S:SQ)(o:Option Zs):Prop:=o.casesOn False λz=>z.casesOn λc st fr Z=>At K c st fr Z S
def mP(c:J)(f:Nat->Nat->J->Prop):Prop:=match c with| .call m i k=>f m i k|_=>False
def gC(K:CP)(S:SQ)(o:Option Zs):Prop:=o.casesOn False λz=>z.casesOn λc st fr Z=>mP c λm i k=>(gf i [] st).casesOn False λp=>p.casesOn λvs st=>K m vs Z (Kt K k st fr S)
def QT(c:J)(P:Prop):Prop:=match c with| .ret=>P|_=>False
def gR(S:SQ)(o:Option Zs):Prop:=o.casesOn False λz=>z.casesOn λc st fr Z=>QT c (st.casesOn False λv _=>S (.ret v) fr Z)
theorem jA(n:Nat)(h:gA K S (rz n ⟨c,st,fr,Z⟩)):At K c st fr Z S:=by
 unfold gA at h;cases e:rz n ⟨c,st,fr,Z⟩with
 |none=>rw[e]at h;exact h.elim|some z=>rw[e]at h;exact So (z':=z) h e
theorem jR(n:Nat)(h:gR S (rz n ⟨c,st,fr,Z⟩)):At K c st fr Z S:=by
 unfold gR at h;cases e:rz n ⟨c,st,fr,Z⟩with
 |none=>rw[e]at h;exact h.elim|some z=>
  rw[e]at h;refine So (z':=z) ?_ e;induction z with
  |mk c st fr Z=>induction c with
   |ret=>induction st with
    |nil=>exact h.elim|cons v st=>exact na h
   |_=>exact h.elim
theorem jC(n:Nat)(h:gC K S (rz n ⟨c,st,fr,Z⟩)):At K c st fr Z S:=by
 unfold gC at h;cases e:rz n ⟨c,st,fr,Z⟩with
 |none=>rw[e]at h;exact h.elim|some z=>
  rw[e]at h;refine So (z':=z) ?_ e;induction z with
  |mk c st fr Z=>induction c with
   |call m i k=>
    replace h:(gf i [] st).casesOn False (λp=>p.casesOn λvs st=>K m vs Z (Kt K k st fr S)):=h;cases e2:gf i [] st with|none=>rw[e2]at h;exact h.elim|some p=>rw[e2]at h;exact Hh e2 h
   |_=>exact h.elim
end
def Rq(Q:AV->AH->Prop):SQ:=λfl _ Z=>Q (xf fl) Z
theorem Ja{a:Nat}{body:List C}(hB:tQ w.params a np nl true body)(hl:args.length=np)(h:At (KW w lvl) (cS body .fin) [] (Lh args nl) Z (Rq Q)):ge w (H1 w.params) (lvl+1) a args Z Q:=
 CH (C0 Prod.fst hB) (C0 Prod.snd hB) hl (wv (K:=KW w lvl) (λf vs Z P Q h z=>ja.mono z h) body (Xb h) (λ_ _ z=>z) (λ_ _ _ _ z=>z))
theorem Me{a:Nat}{body:List C}(k:Nat)(hB:tQ w.params a np nl true body)(hl:args.length=np)(hn:k+1<=n)(h:∀m,n=m+k+1->At (KW w (m+k)) (cS body .fin) [] (Lh args nl) Z (Rq Q)):KW w n a args Z Q:=
 kE (B3 hn) λm e=>by rw[e];exact(Ja hB hl (h m e)).call
section
variable{a b k:J}{S:SQ}
def WA(K:CP)(a b:J)(n:Nat)(fr:Fr)(Z:AH)(S:SQ):Prop:=Ij (λfr Z R=>At K a [] fr Z (cF R)) (λfr Z R=>At K b [] fr Z R) n fr Z S
def WN(K:CP)(a b:J)(n:Nat)(S:SQ):SQ:=Xq (λfr Z=>WA K a b n fr Z S) S
theorem az(n:Nat)(h:WA K a b n fr Z (Gy K k st S)):At K (.Hu a b k) st fr Z S:=HT n h
theorem ky(h:∀T:SQ,(At K b [] fr Z (WN K a b n S)->T .next fr Z)->(S .next fr Z->T .cont fr Z)->At K a [] fr Z T):WA K a b (n+1) fr Z S:=
 h (cF λt Z1=>if t=true then At K b [] fr Z1 (WN K a b n S)else S .next fr Z1) (λz=>z) λz=>z
theorem jh(h:WA K a b n fr Z S):At K .fin st fr Z (WN K a b n S):=Ka h
theorem wR(h:S .next fr Z):At K .brk st fr Z (WN K a b n S):=LT h
end
noncomputable def xt(s:Tx):Bool:= !(PySem.Builtin.Str.occurrences ⟨s.toArray⟩ ⟨[46].toArray⟩ 0 s.length 1).isEmpty
noncomputable def Ic:Nd->Nat
 | .str s=>s.length+1| .Ti s=>s.length+1| .num _=>2| .name r _=>if r<10 then 2 else 10000
 | .wrap _ x=>Ic x+1| .mem n x _=>n.length+Ic x+2| .idx x i _=>Ic x+Ic i+2| .call x _=>Ic x+1| .Mk _ x=>Ic x+1| .bin _ l r=>Ic l+Ic r+1| .log _ l r=>Ic l+Ic r+1| .yn l r=>Ic l+Ic r+1| .lit _=>1| .lst=>1
noncomputable def yT:Nd->Option Tx| .str s=>some s| .num k=>some [48+k.toNat]| .Ti s=>some s|_=>none
noncomputable def Jd(x:Nd):Option Tx:=yT (Hc x)
noncomputable def Vf:Nd->Option Tx| .mem n _ _=>some n| .idx _ i _=>Jd i|_=>none
noncomputable def wg:Nd->Tx
 | .name r _=>if r=0 then[]else[115,48+r]
 |_=>[]
noncomputable def Hm(tail:Tx):Nd->Tx
 | .wrap _ x=>Hm tail x| .mem n x _=>if xt n=true then[]else Hm ([46]++n++tail) x
 | .idx x i _=>match Jd i with
  |none=>[]|some n=>if xt n=true then[]else Hm ([46]++n++tail) x
 | .name r _=>if r=0 then[]else[115,48+r]++tail
 |_=>[]
noncomputable def rg:Nd->Tx| .wrap _ x=>rg x| .yn l _=>rg l|x=>Hm [] x
noncomputable def Ce:Nd->Nd| .wrap _ x=>Ce x|x=>x
noncomputable def uw(x:Nd):Tx×Tx:=match Ce x with
 | .mem n y _=>(rg y,n)| .idx y i _=>match Jd i with
  |some n=>(rg y,n)|none=>([],[])
 |_=>([],[])
noncomputable def Va(key:Tx):Nd->Bool
 | .wrap _ x=>Va key x| .mem _ y o=>(o&&decide (rg y=key))||Va key y
 | .idx y _ o=>(o&&decide (rg y=key))||Va key y
 | .call y o=>(o&&decide (rg y=key))||Va key y
 |_=>false
theorem Vs(h:n<=100000):n<=Ab:=A0 h (N0 rfl)
noncomputable def qB(l:List Int)(k:Int):Bool:=l.any λa=>decide (a=k)
section
variable{S:SQ}
theorem gg{a b:Int}(h:decide (a=b)=false):Ta Z 0 (.int a) (.int b)=some false:=C0 some h
theorem BV{k:Int}(hf:f=0\/f=1)(q:Q (.bool (decide (f=1))) Z):KW w (n+1) 49 [.node k a ks f t d,.int 1] Z Q:=by
 refine(Ja (FZ _) rfl ?_).call;refine jA 3 ?_;refine Fa (WB (by rcases hf with rfl|rfl<;>decide)) ?_;rcases hf with rfl|rfl
 ·exact jA 2<|na<|q
 ·exact jA 2<|na<|q
theorem RD:∀x:Nd,(∃y,x= .wrap 0 y)\/decide (x.kind=33)=false/\Hc x=x| .wrap 0 y=> .inl ⟨y,rfl⟩| .lit true=> .inr ⟨rfl,rfl⟩| .lit false=> .inr ⟨rfl,rfl⟩| .wrap 1 y=> .inr ⟨rfl,rfl⟩| .wrap (_+2) y=> .inr ⟨rfl,rfl⟩| .str _| .Ti _| .num _| .lst| .name _ _| .mem _ _ _| .idx _ _ _| .call _ _| .Mk _ _| .bin _ _ _| .log _ _ _| .yn _ _=> .inr ⟨rfl,rfl⟩
theorem Rr:∀(m:Nat){x:Nd}{v:AV},Lb use cnt x v->Qp x<m->(∀v',Lb use cnt (Hc x) v'->S .next [some v'] Z)->WA K (cT (.cmp 0 (.attr V0 0) (I 33)) .fin .cont) (cS [.asg 0 (.idx (.attr V0 2) I0)] .fin) m [some v] Z S
 |0,_,_,_,h,_=>absurd h (Nat.not_lt_zero _)|m+1,x,v,r,h,q=>by
  refine ky λT ht hf=>?_;rcases RD x with⟨y,rfl⟩|⟨e,hb⟩
  ·refine Qa r λt d xv ez h1=>?_;clear r;clear hf;subst ez;refine jA 4<|Ka (ht ?_);exact jA 5<|jh (Rr m h1 (R3 h) q)
  ·have q:=q v (rr hb r);refine Vd (Lb.node r) λa ks f t d ez=>?_;clear r ht;subst ez;exact jA 3<|Dd (gg e) (dg (hf q))
theorem Dj(r:Lb use cnt x v)(q:∀v',Lb use cnt (Hc x) v'->Q v' Z):KW w (n+1) 56 [v] Z Q:=by refine(Ja (EZ _) rfl ?_).call;refine az (Qp x+1) (Rr _ r (Nat.lt_succ_self _) λv' r'=>?_);show At _ _ _ _ _ _;exact jR 1<|q v' r'
theorem Xu:∀x:Nd,Ic (Hc x)<=Ic x| .wrap 0 x=>Nat.le_succ_of_le (Xu x)| .wrap (_+1) _| .str _| .Ti _| .num _| .lit _| .lst| .name _ _| .mem _ _ _| .idx _ _ _| .call _ _| .Mk _ _| .bin _ _ _| .log _ _ _| .yn _ _=>K0 _
theorem Vv:∀y:Nd,(∃s,y= .str s)\/(∃s,y= .Ti s)\/(∃k,y= .num k)\/(decide (y.kind=2)=false/\decide (y.kind=1)=false/\decide (y.kind=3)=false)/\yT y=none| .str s=> .inl ⟨s,rfl⟩| .Ti s=> .inr (.inl ⟨s,rfl⟩)| .num k=> .inr (.inr (.inl ⟨k,rfl⟩))| .lit true| .lit false| .wrap 0 _| .wrap 1 _| .wrap (_+2) _| .lst| .name _ _| .mem _ _ _| .idx _ _ _| .call _ _| .Mk _ _| .bin _ _ _| .log _ _ _| .yn _ _=> .inr (.inr (.inr ⟨(sf rfl rfl rfl),rfl⟩))
theorem Yy(h:Jd x=some s):s.length<=Ic x:=by
 refine A0 ?_ (Xu x);unfold Jd at h;rcases Vv (Hc x)with⟨u,e⟩|⟨u,e⟩|⟨u,e⟩|⟨_,e⟩
 ·rw[e]at h⊢;cases h;exact Y4 _
 ·rw[e]at h⊢;cases h;exact Y4 _
 ·rw[e]at h⊢;cases h;exact Y4 _
 ·replace h:=e▸h;cases h
noncomputable def HS:Option Tx->AV|some s=> .str s|none=> .none
theorem Gw{k:Int}(h0:0<=k)(h:k<10):og Z 8 [.int k]=some (.str [48+k.toNat]):=by show Option.map _ (EH k)=_;rw[EH,X0 ⟨h0,h⟩];rfl
theorem Ii(r:Lb use cnt x v)(q:Q (HS (Jd x)) Z):KW w (n+2) 63 [v] Z Q:=by
 refine(Ja (DZ _) rfl ?_).call;refine jC 1<|Dj r λv' r'=>?_;unfold Jd at q;generalize Hc x=y at r' q;rcases Vv y with⟨s,rfl⟩|⟨s,rfl⟩|⟨k,rfl⟩|⟨⟨e1,e2,e3⟩,e⟩
 ·refine Cp r' λt d ez=>?_;clear r';subst ez;exact jA 7<|na<|q
 ·refine Cp r' λt d ez=>?_;clear r';subst ez;exact jA 20<|na<|q
 ·refine db r' λt d ez tz=>?_;clear r';subst ez;refine kA tz λh0 h1=>?_;clear tz;refine jA 11<|Ef rfl (Gw h0 h1) (na q)
 ·replace q:=e▸q;refine Vd (Lb.node r') λa ks f t d ez=>?_;clear r';subst ez;exact jA 4<|Dd (gg e1)<|jA 3<|Dd (gg e2)<|jA 3<|Dd (gg e3)<|jR 1<|q
theorem ax(hx:(∃m y o,x= .mem m y o)\/∃y i o,x= .idx y i o)(r:Lb use cnt x v)(q:Q (HS (Vf x)) Z):KW w (n+3) 70 [v] Z Q:=by
 refine(Ja (CZ _) rfl ?_).call;rcases hx with⟨m,y,o,rfl⟩|⟨y,i,o,rfl⟩
 ·refine Qa r λt d xv ez _=>?_;clear r;subst ez;exact jR 6<|q
 ·refine xb r λt d xv iv ez tz=>?_;clear r;subst ez;refine kA tz λ_ ri=>?_;clear tz;exact jC 8<|Ii ri (na q)
theorem Cq:∀x:Nd,(∃r a,x= .name r a)\/decide (x.kind=9)=false/\decide (x.kind=8)=false/\decide (x.kind=14)=false/\wg x=[]| .name r a=> .inl (Jh r a rfl)| .lit true| .lit false| .wrap 0 _| .wrap 1 _| .wrap (_+2) _| .str _| .Ti _| .num _| .lst| .mem _ _ _| .idx _ _ _| .call _ _| .Mk _ _| .bin _ _ _| .log _ _ _| .yn _ _=> .inr (Kh rfl rfl rfl rfl)
theorem WC{a b:Int}(h:decide (a=b)=false):Ta Z 1 (.int a) (.int b)=some true:=C0 (λt=>some !t) h
theorem NI{xs:List (Int×AV)}(h:Z[i]? =some (.Ea xs)):Gb Z (.ref i)=none/\Ah Z (.ref i)=2:=⟨by simp only[Gb,h],oj h⟩
theorem jQ(hx:Ic x<=2000)(r:Lb use cnt x v)(hu:Z[ui]? =some (.Ea use))(q:Q (.str (wg x)) Z):KW w (n+1) 77 [v,.ref ui] Z Q:=by
 refine(Ja (BZ _) rfl ?_).call;rcases Cq x with⟨rt,a,rfl⟩|⟨e1,e2,e3,e⟩
 ·refine db r λt d ez tz=>?_;clear r;subst ez;refine kA tz λ_ hg=>?_;clear tz;have hr:rt<10:=Nat.lt_of_not_le λh=>by have hx:(if rt<10 then 2 else 10000)<=2000:=hx;replace hx:=Y0 (Nat.not_lt.mpr h)▸hx;exact absurd hx (N0 rfl)
  refine jA 9 ?_;refine Zi (NI hu).1 ⟨(NI hu).2,by decide⟩<|jA 3<|Fh rfl (v:= .int rt) (Z':=Z) ?_ ?_
  ·show Option.map _ (rn Z (.ref ui) (.int d) (.int 0))=_;refine rr (wD hu)<|rr hg ?_;by_cases h0:rt=0
   ·clear hx q hg hr;subst h0;rfl
   ·refine rr (Y0 h0) ?_;rfl
  refine jA 3<|Pc rfl (λe=>?_) λe=>?_
  ·have:rt=0:=Int.ofNat.inj (N0 e);clear e;clear hx hg hr;subst this;exact jR 1<|q
  ·have h0:¬rt=0:=λz=>by clear q;clear hx hg hr;subst z;cases e
   refine jA 2<|Ef rfl (Gw (E4 _) (Int.ofNat_lt.mpr hr))<|Fa (xn (by show 2<=Ab;decide)) (na ?_);have q:Q (.str (if rt=0 then[]else[115,48+rt])) Z:=q;replace q:=Y0 h0▸q;exact q
 ·replace q:=e▸q;refine Vd (Lb.node r) λa ks f t d ez=>?_;clear r;subst ez;exact jA 3<|Dd (gg e1)<|jA 3<|Iu (WC e2)<|jA 3<|Iu (WC e3)<|jR 1<|q
theorem ZK:Ta Z 8 (.str [46]) (.str s)=some (xt s):=rfl
theorem nk{k a b:Int}:Ta Z 8 (.int k) (.tup [.int a,.int b,.int c])=some (qB [a,b,c] k):=rfl
theorem VG{k a b:Int}:Ta Z 8 (.int k) (.tup [.int a,.int b])=some (qB [a,b] k):=rfl
theorem TF:∀x:Nd,(∃k y,x= .wrap k y)\/(((∃m y o,x= .mem m y o)\/∃y i o,x= .idx y i o))\/qB [33,32,20] x.kind=false/\qB [16,17] x.kind=false/\∀tail,Hm tail x=if wg x=[]then[]else wg x++tail
 | .wrap k y=> .inl (Jh k y rfl)| .mem m y o=> .inr (.inl (.inl (yj m y o rfl)))| .idx y i o=> .inr (.inl (.inr (yj y i o rfl)))| .name r a=> .inr (.inr ⟨rfl,rfl,λtail=>by
  show(if r=0 then[]else[115,48+r]++tail)=if(if r=0 then[]else[115,48+r])=[]then[]else(if r=0 then[]else[115,48+r])++tail;by_cases h:r=0
  ·exact rr (X0 h)<|rr (X0 h)<|rr (X0 rfl) rfl
  ·exact rr (Y0 h)<|rr (Y0 h)<|rr (Y0 (λz=>nomatch z)) rfl⟩)
 | .lit true| .lit false| .str _| .Ti _| .num _| .lst| .call _ _| .Mk _ _| .bin _ _ _| .log _ _ _| .yn _ _=> .inr (.inr (sf rfl rfl (λ_=>rfl)))
theorem Jk:∀k,qB [33,32,20] (Lu k)=true/\qB [33,20,32] (Lu k)=true/\qB [16,17,18] (Lu k)=false|0|1|_+2=>(sf rfl rfl rfl)
theorem NO(hx:(∃m y o,x= .mem m y o)\/∃y i o,x= .idx y i o)(r:Lb use cnt x v):∃y k a yv ks f t d,v= .node k a (yv::ks) f t d/\(k=16\/k=17)/\Lb use cnt y yv/\Qp x=Qp y+1/\(∀m,Vf x=some m->m.length+Ic y+2<=Ic x)/\(Vf x=none->∀tail,Hm tail x=[])/\∀m,Vf x=some m->∀tail,Hm tail x=if xt m=true then[]else Hm ([46]++m++tail) y:=by
 rcases hx with⟨m,y,o,rfl⟩|⟨y,i,o,rfl⟩
 ·refine Qa r λt d xv ez h1=>?_;clear r;subst ez;exact(Vg y _ _ xv _ _ t d rfl (.inl rfl) h1 rfl (λu h=>(by cases h;exact K0 _)) (λh=>nomatch (show some m=none from h)) (λu h tail=>by cases h;rfl))
 ·refine xb r λt d xv iv ez tz=>?_;clear r;subst ez;refine kA tz λh1 _=>?_;clear tz;refine(Vg y _ _ xv _ _ t d rfl (.inr rfl) h1 rfl (λu h=>?_) (λh tail=>?_) (λu h tail=>?_))
  ·have:=Yy h;show u.length+Ic y+2<=Ic y+Ic i+2;exact Fb [_,_,_] 19342890109687496407278336 tO this
  ·have h:Jd i=none:=h;show(match Jd i with|none=>_|some n=>_)=_;exact rr h rfl
  ·have h:Jd i=some u:=h;show(match Jd i with|none=>_|some n=>_)=_;exact rr h rfl
noncomputable abbrev OX:List C:=[(.za (.cmp 8 (.attr V0 0) (.tup [(I 33),(I 32),(I 20)])) [(.asg 0 (.idx (.attr V0 2) I0))] [(.za (.cmp 8 (.attr V0 0) (.tup [qC,(I 17)])) [(.asg 3 (.call 70 [V0])),(.za (.or (.cmp 6 V3 (.lit .none)) (.cmp 8 (.lit (.str [46])) V3)) [(.ret (.lit (.str [])))] []),(.asg 2 (.bin 0 (.bin 0 (.lit (.str [46])) V3) V2)),(.asg 0 (.idx (.attr V0 2) I0))] [.brk])])]
theorem Wn:∀(m:Nat){x:Nd}{v:AV}{tail:Tx}{x3:Option AV},Lb use cnt x v->Qp x<m->2*Ic x+tail.length<=4000->(∀fr,Hm tail x=[]->S (.ret (.str [])) fr Z)->(∀x' v' bm vJ,Lb use cnt x' v'->Ic x'<=Ic x->bm.length<=4000->(Hm tail x=if wg x'=[]then[]else wg x'++bm)->S .next [some v',some (.ref ui),some (.str bm),vJ,none] Z)->WA (KW w (n+3)) (cT (.lit (.bool true)) .fin .cont) (cS OX .fin) m [some v,some (.ref ui),some (.str tail),x3,none] Z S
 |0,_,_,_,_,_,h,_,_,_=>absurd h (Nat.not_lt_zero _)|m+1,x,v,tail,x3,r,h,hz,q1,q2=>by
  refine ky λT ht hf=>jA 2<|Ka (ht ?_);rcases TF x with⟨k,y,rfl⟩|hx|⟨e1,e2,e⟩
  ·refine Qa r λt d xv ez h1=>?_;clear r;clear ht hf;subst ez;refine jA 6<|Iu (nk.trans (C0 some (Jk k).1))<|jA 5 ?_;exact jh (Wn m h1 (R3 h) (by have hz:2*(Ic y+1)+tail.length<=4000:=hz;exact Fb [_,_] 2722812595838093247057453047568112017305344 tO hz) q1 λx' v' bm vJ a b=>q2 x' v' bm vJ a (Nat.le_succ_of_le b))
  ·have r0:=r;refine uj (NO hx r) λy k a yv ks f t d ez tz=>?_;clear r;clear ht hf;subst ez;refine iP tz λhk h1 hd hl hn hs=>?_;clear tz;have e1:qB [33,32,20] k=false/\qB [16,17] k=true:=by rcases hk with rfl|rfl<;>exact⟨rfl,rfl⟩
   refine jA 6<|Dd (nk.trans (C0 some e1.1))<|jA 5<|Iu (VG.trans (C0 some e1.2))<|jC 1<|ax hx r0 ?_;cases hm:Vf x with
   |none=>exact jR 5<|q1 _ (hn hm _)
   |some nm=>
    have hs:=hs nm hm;have hl:=hl nm hm;refine jA 6<|Pc ZK (λe=>jR 1<|q1 _ ((hs _).trans (X0 e))) λe=>?_
    ·have hs:=λtail=>(hs tail).trans (Y0 (Bool.eq_false_iff.mp e));refine jA 2<|Fa (xn (Vs (by show 1+nm.length<=_;exact Jc [_,_,_,_] 6663329554493531463272603028785628019460650033660094208 tO hz hl)))<|jA 1 ?_;refine Fa (xn (Vs (by refine rr A1 ?_;show(1+nm.length)+_<=_;exact Jc [_,_,_,_] 13100351199188056982226934767495475079729615293341788594944 tO hz hl))) ?_;refine jA 6 ?_;exact jh (Wn m h1 (Jc [_,_,_] 137874364047024226411021313 tO h hd) (by show 2*Ic y+List.length ((46::nm)++tail)<=4000;refine rr A1 ?_;show _+(nm.length+1+_)<=_;exact Jc [_,_,_,_] 81272543054645100199278118804167474342805843364998634841567227648 tO hz hl) (λfr e=>q1 fr ((hs _).trans e)) λx' v' bm vJ a b c d=>q2 x' v' bm vJ a (Jc [_,_,_,_] 7253573677740648472577024 tO hl b) c ((hs _).trans d))
  ·have q:=q2 x v tail x3 r (K0 _) ((A0 (D0 _ _) ‹_›)) (e tail);refine Vd (Lb.node r) λa ks f t d ez=>?_;clear r;clear ht hf;subst ez;exact jA 6<|Dd (nk.trans (C0 some e1))<|jA 5<|Dd (VG.trans (C0 some e2))<|wR q
theorem xV(hx:Ic x<=1000)(r:Lb use cnt x v)(hu:Z[ui]? =some (.Ea use))(q:Q (.str (Hm [] x)) Z):KW w (n+4) 84 [v,.ref ui] Z Q:=by
 refine(Ja (AZ _) rfl ?_).call;refine jA 2 ?_;refine az (Qp x+1) (Wn _ r (Nat.lt_succ_self _) (by show 2*Ic x+0<=_;exact A0 (Nat.mul_le_mul_left _ ‹_›) (N0 rfl)) (λfr e=>?_) λx' v' bm vJ r' hz hl e=>?_)
 ·replace q:=e▸q;exact q
 ·show At _ _ _ _ _ _;refine jC 2<|jQ (A0 hz (A0 hx (N0 rfl))) r' hu ?_;replace q:=e▸q;refine jA 3<|Pc rfl (λe=>?_) λe=>?_
  ·replace q:=X0 (N0 e)▸q;exact jR 1<|q
  ·replace q:=Y0 (Y1 e)▸q;have hrl:(wg x').length<=2:=by
    rcases Cq x' with⟨r,a,rfl⟩|⟨_,_,_,e⟩
    ·show(if r=0 then[]else[115,48+r]).length<=2;split
     ·decide
     ·exact K0 2
    ·refine rr e ?_;decide
   exact jA 2<|Fa (xn (Vs ((A0 (Nat.add_le_add ‹_› ‹_›) (N0 rfl))))) (na q)
end
section
variable{S:SQ}
theorem bF:∀x:Nd,(∃k y,x= .wrap k y)\/(∃l r,x= .yn l r)\/qB [33,32,20] x.kind=false/\decide (x.kind=25)=false/\rg x=Hm [] x| .wrap k y=> .inl (Jh k y rfl)| .yn l r=> .inr (.inl (Jh l r rfl))| .lit true| .lit false| .str _| .Ti _| .num _| .lst| .name _ _| .mem _ _ _| .idx _ _ _| .call _ _| .Mk _ _| .bin _ _ _| .log _ _ _=> .inr (.inr (sf rfl rfl rfl))
noncomputable abbrev GW:List C:=[(.za (.cmp 8 (.attr V0 0) (.tup [(I 33),(I 32),(I 20)])) [(.asg 0 (.idx (.attr V0 2) I0))] [(.za (.and (.cmp 0 (.attr V0 0) (I 25)) (.cmp 8 (.attr V0 1) (.tup [(.lit (.str [61])),(.lit (.str [38,38,61])),(.lit (.str [124,124,61])),(.lit (.str [63,63,61]))]))) [(.asg 0 (.idx (.attr V0 2) I0))] [(.ret (.call 84 [V0,V1]))])])]
theorem Cn(hu:Z[ui]? =some (.Ea use)):∀(m:Nat){x:Nd}{v:AV},Lb use cnt x v->Qp x<m->Ic x<=1000->(∀fr,S (.ret (.str (rg x))) fr Z)->WA (KW w (n+4)) (cT (.lit (.bool true)) .fin .cont) (cS GW .fin) m [some v,some (.ref ui)] Z S
 |0,_,_,_,h,_,_=>absurd h (Nat.not_lt_zero _)|m+1,x,v,r,h,hz,q=>by
  refine ky λT ht hf=>jA 2<|Ka (ht ?_);rcases bF x with⟨k,y,rfl⟩|⟨l,y,rfl⟩|⟨e1,e2,e⟩
  ·refine Qa r λt d xv ez h1=>?_;clear r;clear ht hf;subst ez;exact jA 6<|Iu (nk.trans (C0 some (Jk k).1))<|jA 5<|jh (Cn hu m h1 (R3 h) (Nat.le_of_succ_le hz) q)
  ·refine xb r λt d lv rv ez tz=>?_;clear r;clear ht hf;subst ez;refine kA tz λh1 h2=>?_;clear tz;have hz:Ic l+Ic y+1<=1000:=hz;exact jA 24<|jh (Cn hu m h1 (R3 h) (Fb [_,_] 39646336645617352693863104669696 tO hz) q)
  ·have r0:=r;refine Vd (Lb.node r) λa ks f t d ez=>?_;clear r;clear ht hf;subst ez;exact jA 6<|Dd (nk.trans (C0 some e1))<|jA 3<|Dd (gg e2)<|jC 2<|xV hz r0 hu<|na<|rq e<|q _
theorem Sh(hx:Ic x<=1000)(r:Lb use cnt x v)(hu:Z[ui]? =some (.Ea use))(q:Q (.str (rg x)) Z):KW w (n+5) 91 [v,.ref ui] Z Q:=by refine(Ja (zZ _) rfl ?_).call;exact az (Qp x+1) (Cn hu _ r (Nat.lt_succ_self _) hx λfr=>q)
theorem cz:∀x:Nd,(∃k y,x= .wrap k y)\/qB [33,20,32] x.kind=false/\Ce x=x| .wrap k y=> .inl (Jh k y rfl)| .yn _ _| .lit true| .lit false| .str _| .Ti _| .num _| .lst| .name _ _| .mem _ _ _| .idx _ _ _| .call _ _| .Mk _ _| .bin _ _ _| .log _ _ _=> .inr ⟨rfl,rfl⟩
theorem Lo:∀(m:Nat){x:Nd}{v:AV},Lb use cnt x v->Qp x<m->(∀v',Lb use cnt (Ce x) v'->S .next [some v'] Z)->WA K (cT (.cmp 8 (.attr V0 0) (.tup [(I 33),(I 20),(I 32)])) .fin .cont) (cS [(.asg 0 (.idx (.attr V0 2) I0))] .fin) m [some v] Z S
 |0,_,_,_,h,_=>absurd h (Nat.not_lt_zero _)|m+1,x,v,r,h,q=>by
  refine ky λT ht hf=>?_;rcases cz x with⟨k,y,rfl⟩|⟨e,hb⟩
  ·refine Qa r λt d xv ez h1=>?_;clear r;clear hf;subst ez;refine jA 6<|Iu (nk.trans (C0 some (Jk k).2.1)) (Ka (ht ?_));exact jA 5<|jh (Lo m h1 (R3 h) q)
  ·have q:=q v (rr hb r);refine Vd (Lb.node r) λa ks f t d ez=>?_;clear r ht;subst ez;exact jA 6<|Dd (nk.trans (C0 some e)) (dg (hf q))
theorem Yt(r:Lb use cnt x v)(q:∀v',Lb use cnt (Ce x) v'->Q v' Z):KW w (n+1) 563 [v] Z Q:=by refine(Ja (tX _) rfl ?_).call;refine az (Qp x+1) (Lo _ r (Nat.lt_succ_self _) λv' r'=>?_);show At _ _ _ _ _ _;exact jR 1<|q v' r'
theorem jk(key:Tx):∀x:Nd,Ic (Ce x)<=Ic x/\Qp (Ce x)<=Qp x/\(∀k y,Ce x≠ .wrap k y)/\Va key (Ce x)=Va key x| .wrap k x=>let⟨a,b,c,d⟩:=jk key x;(Kh (Nat.le_succ_of_le a) (Nat.le_succ_of_le b) c d)| .yn _ _| .lit _| .str _| .Ti _| .num _| .lst| .name _ _| .mem _ _ _| .idx _ _ _| .call _ _| .Mk _ _| .bin _ _ _| .log _ _ _=>(Kh (K0 _) (K0 _) (λ_ _ h=>nomatch h) rfl)
noncomputable def sw:Nd->Tx×Tx
 | .mem n y _=>(rg y,n)| .idx y i _=>match Jd i with
  |some n=>(rg y,n)|none=>([],[])
 |_=>([],[])
theorem rD:∀y:Nd,((∃m z o,y= .mem m z o)\/∃z i o,y= .idx z i o)\/decide (y.kind=16)=false/\decide (y.kind=17)=false/\sw y=([],[])| .mem m z o=> .inl (.inl (yj m z o rfl))| .idx z i o=> .inl (.inr (yj z i o rfl))| .wrap 0 _| .wrap 1 _| .wrap (_+2) _| .yn _ _| .lit true| .lit false| .str _| .Ti _| .num _| .lst| .name _ _| .call _ _| .Mk _ _| .bin _ _ _| .log _ _ _=> .inr (sf rfl rfl rfl)
theorem fH(hy:(∃m z o,y= .mem m z o)\/∃z i o,y= .idx z i o)(r:Lb use cnt y v):∃z k a zv ks f t d,v= .node k a (zv::ks) f t d/\(k=16\/k=17)/\Lb use cnt z zv/\Ic z<=Ic y/\(Vf y=none->sw y=([],[]))/\∀m,Vf y=some m->sw y=(rg z,m):=by
 rcases hy with⟨m,z,o,rfl⟩|⟨z,i,o,rfl⟩
 ·refine Qa r λt d xv ez h1=>?_;clear r;subst ez;exact(Bd z _ _ xv _ _ t d rfl (.inl rfl) h1 (by show _<=m.length+Ic z+2;exact Lm [_,_] 95564881920 tO) (λh=>nomatch (show some m=none from h)) (λu h=>by cases h;rfl))
 ·refine xb r λt d xv iv ez tz=>?_;clear r;subst ez;refine kA tz λh1 _=>?_;clear tz;refine(Bd z _ _ xv _ _ t d rfl (.inr rfl) h1 (by show _<=Ic z+Ic i+2;exact Lm [_,_] 95597387776 tO) (λh=>?_) (λu h=>?_))
  ·have h:Jd i=none:=h;show(match Jd i with|some n=>_|none=>_)=_;exact rr h rfl
  ·have h:Jd i=some u:=h;show(match Jd i with|some n=>_|none=>_)=_;exact rr h rfl
theorem bx(hx:Ic x<=1000)(r:Lb use cnt x v)(hu:Z[ui]? =some (.Ea use))(q:Q (.tup [.str (uw x).1,.str (uw x).2]) Z):KW w (n+6) 570 [v,.ref ui] Z Q:=by
 refine(Ja (sX _) rfl ?_).call;refine jC 1<|Yt r λv' r'=>?_;have hz:=(jk [] x).1;have q:Q (.tup [.str (sw (Ce x)).1,.str (sw (Ce x)).2]) Z:=q;generalize Ce x=y at*;rcases rD y with hy|⟨e1,e2,e⟩
 ·have r0:=r';refine uj (fH hy r') λz k a zv ks f t d ez tz=>?_;clear r';subst ez;refine NG tz λhk h1 hs e0 e1=>?_;clear tz;refine jA 4 ?_;have go:KW w (n+5) 70 [.node k a (zv::ks) f t d] Z λu Z=>At (KW w (n+5)) (.sto 2 (cS [(.za (.cmp 6 V2 (.lit .none)) [(.ret (.tup [(.lit (.str [])),(.lit (.str []))]))] []),(.ret (.tup [(.call 91 [(.idx (.attr V0 2) I0),V1]),V2]))] .fin)) [u] [some (.node k a (zv::ks) f t d),some (.ref ui),none] Z (λfl _ Z'=>Q (xf fl) Z'):=by
   refine ax hy r0 ?_;cases hm:Vf y with
   |none=>replace q:=e0 hm▸q;exact jR 7<|q
   |some nm=>replace q:=e1 nm hm▸q;exact jC 9<|Sh (A0 hs (A0 hz hx)) h1 hu<|jR 2<|q
  rcases hk with rfl|rfl
  ·exact jA 2<|Hh rfl<|go
  ·exact jA 6<|Hh rfl<|go
 ·replace q:=e▸q;refine Vd (Lb.node r') λa ks f t d ez=>?_;clear r';subst ez;exact jA 4<|Iu (WC e1)<|jA 3<|Iu (WC e2)<|jR 3<|q
theorem JB(o:Bool):(Mh o=0\/Mh o=1)/\decide (Mh o=1)=o:=match o with|true=>⟨.inr rfl,rfl⟩|false=>⟨.inl rfl,rfl⟩
theorem Ez(key:Tx):∀x:Nd,(∃k y,x= .wrap k y)\/((∃m y o,x= .mem m y o)\/(∃y i o,x= .idx y i o)\/∃y o,x= .call y o)\/qB [16,17,18] x.kind=false/\Va key x=false| .wrap k y=> .inl (Jh k y rfl)| .mem m z o=> .inr (.inl (.inl (yj m z o rfl)))| .idx z i o=> .inr (.inl (.inr (.inl (yj z i o rfl))))| .call z o=> .inr (.inl (.inr (.inr (Jh z o rfl))))| .yn _ _| .lit true| .lit false| .str _| .Ti _| .num _| .lst| .name _ _| .Mk _ _| .bin _ _ _| .log _ _ _=> .inr (.inr ⟨rfl,rfl⟩)
theorem pI{key:Tx}(hx:(∃m y o,x= .mem m y o)\/(∃y i o,x= .idx y i o)\/∃y o,x= .call y o)(r:Lb use cnt x v):∃y o k a yv ks t d,v= .node k a (yv::ks) (Mh o) t d/\qB [16,17,18] k=true/\Lb use cnt y yv/\Qp x=Qp y+1/\Ic y<=Ic x/\Va key x=((o&&decide (rg y=key))||Va key y):=by
 rcases hx with⟨m,y,o,rfl⟩|⟨y,i,o,rfl⟩|⟨y,o,rfl⟩
 ·refine Qa r λt d xv ez h1=>?_;clear r;subst ez;exact(Bd y o _ _ xv _ t d rfl rfl h1 rfl (by show _<=m.length+Ic y+2;exact Lm [_,_] 95564881920 tO) rfl)
 ·refine xb r λt d xv iv ez tz=>?_;clear r;subst ez;refine kA tz λh1 _=>?_;clear tz;exact(Bd y o _ _ xv _ t d rfl rfl h1 rfl (by show _<=Ic y+Ic i+2;exact Lm [_,_] 95597387776 tO) rfl)
 ·refine xb r λt d xv lv ez h1=>?_;clear r;subst ez;exact(Bd y o _ _ xv _ t d rfl rfl h1 rfl (Y4 _) rfl)
theorem Zo{key:Tx}(hu:Z[ui]? =some (.Ea use)):∀(m:Nat){x:Nd}{v:AV},Lb use cnt x v->Qp x<m->Ic x<=1000->(∀k y,x≠ .wrap k y)->(Va key x=true->∀fr,S (.ret (.bool true)) fr Z)->(Va key x=false->∀fr,S .next fr Z)->WA (KW w (n+5)) (cT (.cmp 8 (.attr V0 0) (.tup [qC,(I 17),(I 18)])) .fin .cont) (cS [(.za (.and (.call 49 [V0,I1]) (.cmp 0 (.call 91 [(.idx (.attr V0 2) I0),V2]) V1)) [(.ret (.lit (.bool true)))] []),(.asg 0 (.call 563 [(.idx (.attr V0 2) I0)]))] .fin) m [some v,some (.str key),some (.ref ui)] Z S
 |0,_,_,_,h,_,_,_,_=>absurd h (Nat.not_lt_zero _)|m+1,x,v,r,h,hz,nw,q1,q2=>by
  refine ky λT ht hf=>?_;rcases Ez key x with⟨k,y,e⟩|hx|⟨e1,e2⟩
  ·exact absurd e (nw k y)
  ·refine uj (pI (key:=key) hx r) λy o k a yv ks t d ez tz=>?_;subst ez;refine NG tz λhk ry hd hzy e=>?_;clear tz;have hzy:=A0 hzy hz;refine jA 6<|Iu (nk.trans (C0 some hk)) (Ka (ht ?_));have tail:Va key x=Va key y->KW w (n+5) 563 [yv] Z λv Z=>At (KW w (n+5)) (.sto 0 (cS [] .fin)) [v] [some (.node k a (yv::ks) (Mh o) t d),some (.str key),some (.ref ui)] Z (WN (KW w (n+5)) (cT (.cmp 8 (.attr V0 0) (.tup [qC,(I 17),(I 18)])) .fin .cont) (cS [(.za (.and (.call 49 [V0,I1]) (.cmp 0 (.call 91 [(.idx (.attr V0 2) I0),V2]) V1)) [(.ret (.lit (.bool true)))] []),(.asg 0 (.call 563 [(.idx (.attr V0 2) I0)]))] .fin) m S):=λec=>Yt ry λv' r'=>wj (jk key y) λl2 l1 l4 l3=>jA 1<|jh (Zo hu m r' (Lp [_,_,_,_] 1947116411811755140422005101233153 tO h hd l1) (A0 l2 hzy) l4 (rr l3<|rq ec q1) (rr l3<|rq ec q2));refine jC 2<|BV (JB o).1<|rr ((JB o).2) ?_;induction o with
   |false=>refine jA 5 ?_;exact Hh rfl<|tail e
   |true=>
    refine jC 6<|Sh hzy ry hu<|jA 1<|Pc rfl (λe3=>?_) λe3=>?_
    ·exact jR 1<|q1 (by refine rr e<|rr e3 ?_;rfl) _
    ·exact jC 4<|tail (by refine rr e<|rr e3 ?_;rfl)
  ·refine Vd (Lb.node r) λa ks f t d ez=>?_;clear r ht;subst ez;exact jA 6<|Dd (nk.trans (C0 some e1)) (dg (hf (q2 e2 _)))
theorem SB{key:Tx}(hx:Ic x<=1000)(r:Lb use cnt x v)(hu:Z[ui]? =some (.Ea use))(q:Q (.bool (Va key x)) Z):KW w (n+6) 577 [v,.str key,.ref ui] Z Q:=by
 refine(Ja (rX _) rfl ?_).call;refine jC 1<|Yt r λv' r'=>wj (jk key x) λl1 _ nw l3=>jA 1<|az (Qp (Ce x)+1) (Zo hu _ r' (Nat.lt_succ_self _) (A0 l1 hx) nw (λe fr=>?_) λe fr=>?_)
 ·replace e:=l3▸e;replace q:=e▸q;exact q
 ·replace e:=l3▸e;replace q:=e▸q;show At _ _ _ _ _ _;exact jR 1<|q
end
structure G where
 (wi di ui ti ri xi ai:Nat)
 (bh:Nat)
 (key:Tx)
noncomputable def ia(ps:List Int):List AV:=ps.map .int
noncomputable def Fp(ps:List Int):AV:= .tup [.int 6,.tup (ia ps)]
noncomputable def SH:AV:= .tup [.int 8,.tup [],.tup [],.tup [],.tup [],.tup [],.int 0]
noncomputable def Af(c:Nat):AV:= .tup [.int 8,.tup [.tup [.str [c],.int 1,.int 0,.int 0]],.tup [],.tup [],.tup [],.tup [],.int 0]
noncomputable def Bq:Int->AV|0=> .tup [.int 1,.str [97,110,121]]|1=> .tup [.int 1,.str [117,110,107,110,111,119,110]]|3=> .tup [.int 1,.str [118,111,105,100]]|4=> .tup [.int 1,.str [117,110,100,101,102,105,110,101,100]]|5=> .tup [.int 1,.str [110,117,108,108]]|6=> .tup [.int 1,.str [115,116,114,105,110,103]]|7=> .tup [.int 1,.str [110,117,109,98,101,114]]|11=>SH|16=>Af 97|_=>Af 102
noncomputable def Lc:List Int:=[0,1,3,4,5,6,7,11,16,17]
noncomputable def Gd:Nat->List AV->List (AV×AV)|_,[]=>[]|k,r::rs=>(r,.int (k:Nat))::Gd (k+1) rs
structure TL(g:G)(rows:List AV)(Z:AH):Prop where
 ti:∃fs,Z[g.ti]? =some (.inst 190 fs)/\Jb 11 fs=some (.ref g.ri)/\Jb 12 fs=some (.ref g.xi)/\Jb 21 fs=none/\Jb 22 fs=none
 ri:Z[g.ri]? =some (.list rows)
 xi:Z[g.xi]? =some (.we (Gd 0 rows))
 keys:∀r∈rows,Zf r=true
 len:rows.length<=1000
 nd:rows.Nodup
structure Vb(rows:List AV):Prop where
 row:∀p∈Lc,rows[p.toNat]? =some (Bq p)
 two:∀ps,rows[2]? ≠some (Fp ps)
structure xd(g:G)(Z Z':AH):Prop where
 len:Z.length<=Z'.length
 at':∀i,i<Z.length->i≠g.ri->i≠g.xi->Z'[i]? =Z[i]?
theorem xd.refl{g:G}:xd g Z Z:=⟨K0 _,λ_ _ _ _=>rfl⟩
theorem xd.trans{g:G}(x:xd g Z Z1)(y:xd g Z1 Z2):xd g Z Z2:=
 ⟨A0 x.len y.len,λi h h1 h2=>(y.at' i (by have:=x.len;exact C4 ‹_› ‹_›) h1 h2).trans (x.at' i h h1 h2)⟩
theorem xd.get{g:G}(x:xd g Z Z')(h:Z[i]? =some o)(h1:i≠g.ri)(h2:i≠g.xi):Z'[i]? =some o:=(x.at' i (B0.mp h).1 h1 h2).trans h
structure tb(Z Z':AH):Prop where
 len:Z.length<=Z'.length
 at':∀i,i<Z.length->Z'[i]? =Z[i]?
theorem tb.trans(x:tb Z Z1)(y:tb Z1 Z2):tb Z Z2:=⟨A0 x.len y.len,λi h=>(y.at' i (by have:=x.len;exact C4 ‹_› ‹_›)).trans (x.at' i h)⟩
theorem tb.get(x:tb Z Z')(h:Z[i]? =some o):Z'[i]? =some o:=(x.at' i (B0.mp h).1).trans h
theorem tb.push(o:AO):tb Z (Z++[o]):=⟨by simp,λi h=>C1 h⟩
theorem tb.keep{g:G}(x:tb Z Z'):xd g Z Z':=⟨x.len,λi h _ _=>x.at' i h⟩
theorem TL.grow{g:G}(t:TL g rows Z)(x:tb Z Z'):TL g rows Z':=
 ⟨let⟨fs,h,r⟩:=t.ti;(Na fs (x.get h) r),x.get t.ri,x.get t.xi,t.keys,t.len,t.nd⟩
theorem TL.ne{g:G}(t:TL g rows Z):g.ti≠g.ri/\g.ti≠g.xi/\g.ri≠g.xi:=by
 refine Xa t.ti λfs h _=>?_;have h1:=t.ri;have h2:=t.xi;refine(sf (λe=>?_) (λe=>?_) (λe=>?_))
 ·replace h:=h1▸(e▸h);cases h
 ·replace h:=h2▸(e▸h);cases h
 ·replace h1:=h2▸(e▸h1);cases h1
theorem Do{x:AV}(h:Zf x=true):Gc x x=true:=(rf x x h).mpr rfl
theorem Dw:∀{rows:List AV}{k:Nat}{row:AV},(∀r∈rows,Zf r=true)->rows.Nodup->Zf row=true->(∀i,rows[i]? =some row->getD row (Gd k rows)=some (.int ((k+i:Nat):Int)))/\(row∉rows->getD row (Gd k rows)=none)
 |[],k,row,hk,nd,hr=>⟨λi h=>by simp at h,λ_=>rfl⟩|r::rs,k,row,hk,nd,hr=>by
  refine kA (P3.mp nd) λn1 n2=>?_;have ih:=Dw (rows:=rs) (k:=k+1) (row:=row) (λx hx=>hk x (by simp[hx])) n2 hr;have hkr:=hk r (by simp);have c:getD row (Gd k (r::rs))=if Gc r row=true then some (.int (k:Nat))else getD row (Gd (k+1) rs):=rfl;by_cases e:r=row
  ·clear hr ih;subst e;refine rr c<|rr (Do hkr)<|⟨λi h=>?_,λh=>absurd (by simp) h⟩;induction i with|zero=>simp|succ i=>exact absurd (A4 (by simpa using h)) n1
  ·have:Gc r row=false:=Bool.eq_false_iff.mpr λh=>e ((rf r row hkr).mp h);refine rr c<|rr this<|rr (Y0 Q2)<|⟨λi h=>?_,λh=>ih.2 λz=>h (B4 _ z)⟩;induction i with|zero=>simp at h;exact absurd h e|succ i=>refine rr (ih.1 i (by simpa using h)) ?_;congr 2;lia
theorem yq:∀{l:List (AV×AV)}{k v:AV},getD k l=none->Un k v l=l++[(k,v)]
 |[],k,v,_=>rfl|(a,u)::r,k,v,h=>by
  by_cases hk:Gc a k=true
  ·exact ns (h.symm.trans (X0 hk))
  ·exact(Y0 hk:Un k v ((a,u)::r)=_).trans (C0 (_::·) (yq ((Y0 hk).symm.trans h)))
theorem Mo:∀(rows:List AV)(k:Nat)(r:AV),Gd k (rows++[r])=Gd k rows++[(r,.int ((k+rows.length:Nat):Int))]:=by
 intro rows;induction rows with|nil=>intro k r;exact rfl|cons x xs ih=>intro k r;exact C0 (_::·) ((ih (k+1) r).trans (by refine rr (Nat.add_right_comm k 1 xs.length) ?_;rfl))
theorem jw:∀(rows:List AV)(k:Nat),(Gd k rows).length=rows.length:=by
 intro rows;induction rows with|nil=>intro _;exact rfl|cons x xs ih=>intro k;exact C0 Nat.succ (ih (k+1))
theorem VD(k:AV)(kvs:List (AV×AV)):(kvs.any λkv=>Gc kv.1 k)=(getD k kvs).isSome:=by
 induction kvs with
 |nil=>rfl|cons p r ih=>
  induction p with
  |mk a u=>
   show(Gc a k||r.any λkv=>Gc kv.1 k)=_;refine rr ih ?_;by_cases h:Gc a k=true
   ·refine rr (show getD k ((a,u)::r)=some u from X0 h)<|rr h ?_;rfl
   ·refine rr (show getD k ((a,u)::r)=getD k r from Y0 h)<|rr (Bool.eq_false_iff.mpr h) ?_;rfl
section
variable{g:G}
theorem CG{xs:List AV}(h:Z[i]? =some (.list xs))(hl:xs.length<=Ab):og Z 0 [.ref i]=some (.int xs.length):=by show(Se (mB Z i)).map _=_;refine rr (qj h) ?_;show Option.map _ (if xs.length<=Ab then some xs else none)=_;refine rr (X0 hl) ?_;rfl
theorem Qz(h:Z[i]? =some (.list ys))(hl:ys.length<=Ab):Mc Z 27 (.ref i) [v]=some (.none,Z.set i (.list (ys++[v]))):=by show((mB Z i).bind λys=>if ys.length<=Ab then some (AV.none,Z.set i (.list (ys++[v])))else none)=_;exact rr (qj h)<|X0 hl
theorem zd(t:TL g rows Z):Ze Z 11 (.ref g.ti)=some (.ref g.ri):=Df t.ti λfs h h1 _=>rr (Uh h (N0 rfl))<|rr h1 rfl
theorem qq(t:TL g rows Z):Ze Z 12 (.ref g.ti)=some (.ref g.xi):=aw t.ti λfs h _ h1 _=>rr (Uh h (N0 rfl))<|rr h1 rfl
theorem xI(t:TL g rows Z)(hk:Kd ks=true)(hd:be ks<=7)(hl:rows.length<1000)(q1:∀i:Nat,rows[i]? =some (.tup ks)->Q (.int (i:Int)) Z)(q2: .tup ks∉rows->∀Z',TL g (rows++[.tup ks]) Z'->xd g Z Z'->Z'.length=Z.length->Q (.int (rows.length:Int)) Z'):KW w (n+1) 187 [.ref g.ti,.tup ks] Z Q:=by
 refine(Ja (IX _) rfl ?_).call;have gd:=Dw (k:=0) t.keys t.nd (row:= .tup ks) hk;have HE:Ta Z 8 (.tup ks) (.ref g.xi)=some (getD (.tup ks) (Gd 0 rows)).isSome:=by rw[rV];refine(ud t.xi).trans ((X0 ⟨hk,hd⟩).trans ?_);show some _=_;rw[VD]
 have hg:jb Z (.ref g.xi) (.tup ks)=getD (.tup ks) (Gd 0 rows):=(ud t.xi).trans (X0 ⟨hk,hd⟩);refine jA 2<|Rb (qq t) ?_;by_cases hm: .tup ks∈rows
 ·refine kE (List.mem_iff_getElem?.mp hm) λi hi=>?_;have e:=gd.1 i hi;rw[Nat.zero_add]at e;exact Iu (HE.trans (by rw[e];rfl))<|jA 1<|Rb (qq t)<|jA 1<|qa (hg.trans e) (na (q1 i hi))
 ·have e:=gd.2 hm;refine Mm t.ne λne1 ne2 ne3=>aw t.ti λfs hf hf1 hf2 hf3=>?_;have rl:g.ri<Z.length:=(B0.mp t.ri).1;have xl:g.xi<Z.length:=(B0.mp t.xi).1;have hf':(Z.set g.ri (.list (rows++[.tup ks])))[g.ti]? =some (.inst 190 fs):=(W0 (i4 ne1)).trans hf;have hx':(Z.set g.ri (.list (rows++[.tup ks])))[g.xi]? =some (.we (Gd 0 rows)):=(W0 ne3).trans t.xi;refine Dd (HE.trans (by rw[e];rfl))<|jA 1<|Rb (zd t)<|Ef rfl (CG t.ri (xa t.len))<|jA 2<|Rb (zd t) ?_;refine Zi (by simp only[Gb,t.ri]) ⟨oj t.ri,by decide⟩<|jA 1<|Fh rfl (v:= .none) (Z':=Z.set g.ri (.list (rows++[.tup ks]))) (Qz t.ri (xa t.len))<|jA 3<|Rb ((Uh hf' (N0 rfl)).trans hf2)<|jA 1<|fe (Z':=(Z.set g.ri (.list (rows++[.tup ks]))).set g.xi (.we (Gd 0 (rows++[.tup ks])))) ?_ ?_
  ·refine(ud hx').trans ((X0 (sf (by rw[jw];exact xa t.len) hk hd)).trans ?_);rw[yq e,Mo,Nat.zero_add]
  refine jR 1 ?_;refine q2 hm _ ⟨(aH fs ((W0 (i4 ne2)).trans hf') hf1 hf2 hf3),(W0 (i4 ne3)).trans (E3 rl),E3 (by refine rr T3 ?_;exact xl),λr hr=>?_,?_,?_⟩ ⟨by refine rr T3<|rr T3 ?_;exact K0 _,λi hi h1 h2=>(W0 (i4 h2)).trans (W0 (i4 h1))⟩ (rr T3<|rr T3 rfl)
  ·rcases D2.mp hr with hr|hr
   ·exact t.keys r hr
   ·exact rr (J0.mp hr)<|hk
  ·exact rr A1<|hl
  ·rw[List.nodup_append];refine(sf t.nd (P3.mpr ⟨y4,List.nodup_nil⟩) (λa ha b hb e=>hm ?_));rw[J0.mp hb]at e;exact e▸ha
end
inductive PD(rows:List AV):Int->List Int->Prop
 |nil:PD rows 2 []
 |one (p:Int):p∈Lc->PD rows p [p]
 |many (ps:List Int) (i:Nat):2<=ps.length->(∀p∈ps,p∈Lc)->i≠2->rows[i]? =some (Fp ps)->PD rows i ps
theorem PD.grow{ps:List Int}(h:PD rows t ps)(k:∀(i:Nat) r,rows[i]? =some r->Ba[i]? =some r):PD Ba t ps:=match h with| .nil=> .nil| .one _ hp=> .one _ hp| .many _ i a b c d=> .many _ i a b c (k _ _ d)
theorem PD.ok{ps:List Int}(h:PD rows t ps):∀p∈ps,p∈Lc:=match h with
 | .nil=>λp hp=>nomatch hp
 | .one _ hp=>λp h=>rr (J0.mp h) hp| .many _ i a b c d=>b
theorem qo{P:Int->Prop}(h0:P 0)(h1:P 1)(h3:P 3)(h4:P 4)(h5:P 5)(h6:P 6)(h7:P 7)(h11:P 11)(h16:P 16)(h17:P 17)(h:p∈Lc):P p:=by have k:∀x∈Lc,P x:=Q3.mpr ⟨h0,Q3.mpr ⟨h1,Q3.mpr ⟨h3,Q3.mpr ⟨h4,Q3.mpr ⟨h5,Q3.mpr ⟨h6,Q3.mpr ⟨h7,Q3.mpr ⟨h11,Q3.mpr ⟨h16,Q3.mpr ⟨h17,List.forall_mem_nil _⟩⟩⟩⟩⟩⟩⟩⟩⟩⟩;exact k p h
theorem Nv(h:p∈Lc):p=0\/p=1\/p=3\/p=4\/p=5\/p=6\/p=7\/p=11\/p=16\/p=17:=by simpa only[Lc,K1,y4,or_false]using h
theorem zO(h:p∈Lc):((p.toNat:Nat):Int)=p/\p.toNat<=17:=qo (P:=λp=>((p.toNat:Nat):Int)=p/\p.toNat<=17) (N0 rfl) (N0 rfl) (N0 rfl) (N0 rfl) (N0 rfl) (N0 rfl) (N0 rfl) (N0 rfl) (N0 rfl) (N0 rfl) h
noncomputable def zk(p:Int):Int:=if p=3 then 6 else if p=4 then 5 else if p=5 then 4 else if p=6 then 1 else if p=7 then 2 else if p=11\/p=16\/p=17 then 7 else 0
noncomputable def yh(p:Int):Bool:=decide (p=3)||(decide (p=4)||decide (p=5))
noncomputable def Vy(p:Int):Int:=if p=1 then 11 else if yh p=true then 2 else p
inductive JY(p:Int):Prop
 |word (s:Tx) (e:Bq p= .tup [.int 1,.str s]) (f:((To p [(3,6),(4,5),(5,4),(6,1),(7,2),(10,7)]).map AV.int).getD (.int 0)= .int (zk p))
 |obj (a b c d e:AV) (r:Bq p= .tup [.int 8,a,b,c,d,e,.int 0]) (f:zk p=7) (n:decide (p=0)=false)
theorem wh(h:p∈Lc):JY p:=
 qo (.word _ rfl rfl) (.word _ rfl rfl) (.word _ rfl rfl) (.word _ rfl rfl) (.word _ rfl rfl) (.word _ rfl rfl) (.word _ rfl rfl) (.obj _ _ _ _ _ rfl rfl rfl) (.obj _ _ _ _ _ rfl rfl rfl) (.obj _ _ _ _ _ rfl rfl rfl) h
section
variable{g:G}
theorem Iy(t:TL g rows Z){r:AV}(h:rows[i]? =some r):jb Z (.ref g.ri) (.int (i:Int))=some r:=by have hl:=(B0.mp h).1;have:=t.len;exact rr (Hf t.ri)<|rr (qf (xa (Jc [_,_] 9911576598343067127867505928192 tO hl this)))<|rr h rfl
theorem vg(t:TL g rows Z)(b:Vb rows)(h:p∈Lc):jb Z (.ref g.ri) (.int p)=some (Bq p):=by
 have:=Iy t (b.row p h)
 rwa [(zO h).1]at this
theorem Vt{ps:List Int}(T:TL g rows Z)(b:Vb rows)(d:PD rows t ps)(q:Q (.tup (ia ps)) Z):KW w (n+1) 208 [.ref g.ti,.int t] Z Q:=by
 refine(Ja (HX _) rfl ?_).call;cases d with
 |nil=>refine jA 4 ?_;exact na<|q
 |one _ hp=>
  refine jA 2 ?_;have h2:decide (t=2)=false:=qo (P:=λt=>decide (t=2)=false) rfl rfl rfl rfl rfl rfl rfl rfl rfl rfl hp;refine Dd (gg h2)<|jA 1<|Rb (zd T)<|jA 1 ?_;cases wh hp with
  |word s e _=>exact qa ((vg T b hp).trans (C0 some e))<|jR 8<|q
  |obj _ _ _ _ _ e _=>exact qa ((vg T b hp).trans (C0 some e))<|jR 8<|q
 |many _ i h2 aN hi hr=>exact jA 2<|Dd (gg (D1 λz=>hi (Int.ofNat.inj z)))<|jA 1<|Rb (zd T)<|jA 1<|qa (Iy T hr)<|jR 9<|q
theorem cM(hp:p∈Lc)(q:Q (.int (-1)) Z):KW w (n+1) 215 [Bq p] Z Q:=by
 cases wh hp with
 |word s e _=>refine rr e<|(Ja (ZR _) rfl ?_).call;exact jA 17<|ik<|na q
 |obj _ _ _ _ _ e _=>refine rr e<|(Ja (ZR _) rfl ?_).call;exact jA 17<|ik<|na q
theorem EK{x y z u b:AV}:Oq [x,y,z,u,v,a,b] (-1)=some b:=by unfold Oq;refine rr (Y0 (N0 rfl))<|rr (X0 ⟨by decide,(by decide:(0:Int)<= -1+(7:Nat))⟩) ?_;rfl
theorem gQ(T:TL g rows Z)(b:Vb rows)(hp:p∈Lc)(q:Q (.int (-1)) Z):KW w (n+1) 222 [.ref g.ti,.int p] Z Q:=by
 refine(Ja (GX _) rfl ?_).call;refine jA 1<|Rb (zd T)<|jA 1 ?_;cases wh hp with
 |word s e _=>refine qa ((vg T b hp).trans (C0 some e)) ?_;exact jA 7<|ik<|na q
 |obj _ _ _ _ _ e _=>refine qa ((vg T b hp).trans (C0 some e)) ?_;refine jA 8<|ik ?_;refine qa EK ?_;exact jA 3<|ik<|na q
theorem gw{k:Int}(h:Z[i]? =some (.Ea kvs)):Ta Z 8 (.int k) (.ref i)=some (decide (k∈kvs.map (·.1))):=by rw[rV];refine(ud h).trans ?_;show some _=some _;congr 1;rw[Bool.eq_iff_iff];simp
theorem DO{k:Int}(h:Z[i]? =some (.Ea kvs)):Ta Z 9 (.int k) (.ref i)=some !(decide (k∈kvs.map (·.1))):=by have e:UT false Z (.int k) (.ref i)=Ta Z 8 (.int k) (.ref i):=(ud h).trans (ud h).symm;show(UT false Z (.int k) (.ref i)).map (!·)=_;refine rr e<|rr (gw h) ?_;rfl
theorem mG{k:Int}(h:Z[i]? =some (.Ea kvs))(n:k∉kvs.map (·.1)):Ta Z 8 (.int k) (.ref i)=some false:=(gw h).trans (C0 some (D1 n))
theorem nQ(h:Z[i]? =some (.Ea kvs))(h8:(8:Int)∉kvs.map (·.1))(h14:(14:Int)∉kvs.map (·.1))(q:Q .none Z):KW w (n+1) 229 [.ref i] Z Q:=by refine(Ja (FX _) rfl ?_).call;exact jA 2<|Dd (mG h h8)<|jA 2<|Dd (mG h h14) (Ka q)
theorem fM(T:TL g rows Z)(b:Vb rows)(hp:p∈Lc)(h:Z[i]? =some (.Ea kvs))(hm:(-1:Int)∉kvs.map (·.1))(q:Q (.bool true) Z):KW w (n+2) 236 [.ref g.ti,.ref i,.int p] Z Q:=by refine(Ja (EX _) rfl ?_).call;exact jC 2<|gQ T b hp<|jA 1<|Dd (mG h hm)<|jA 1<|Rb (zd T)<|jA 1<|qa (vg T b hp)<|jC 0<|cM hp<|jA 1<|aj ((DO h).trans (C0 (λb=>some !b) (D1 hm))) (na q)
noncomputable def gF(ks:List Int):Int:=if 0∈ks then 0 else if 13∈ks then 13 else if 1∈ks then 1 else-1
theorem vV(h:Z[i]? =some (.Ea kvs))(q:Q (.int (gF (kvs.map (·.1)))) Z):KW w (n+1) 243 [.ref i] Z Q:=by
 refine(Ja (DX _) rfl ?_).call;refine jA 4 ?_;have q:Q (.int (if 0∈kvs.map (·.1)then 0 else if 13∈kvs.map (·.1)then 13 else if 1∈kvs.map (·.1)then 1 else-1)) Z:=q;refine Ve rfl (N0 rfl)<|⟨rfl,?_⟩;show At _ _ _ _ _ _;refine jA 2<|Pc (gw h) (λe=>?_) λe=>?_
 ·replace q:=X0 (N0 e)▸q;exact Ua rfl<|na<|q
 replace q:=Y0 (Y1 e)▸q;refine Ka ⟨rfl,?_⟩;show At _ _ _ _ _ _;refine jA 2<|Pc (gw h) (λe=>?_) λe=>?_
 ·replace q:=X0 (N0 e)▸q;exact Ua rfl<|na<|q
 replace q:=Y0 (Y1 e)▸q;refine Ka ⟨rfl,?_⟩;show At _ _ _ _ _ _;refine jA 2<|Pc (gw h) (λe=>?_) λe=>?_
 ·replace q:=X0 (N0 e)▸q;exact Ua rfl<|na<|q
 replace q:=Y0 (Y1 e)▸q;refine Ka ⟨rfl,?_⟩;show At _ _ _ _ _ _;exact jA 1<|ik (na q)
theorem fx(T:TL g rows Z)(b:Vb rows)(hp:p∈Lc)(q:Q (.int (zk p)) Z):KW w (n+1) 302 [.ref g.ti,.int p] Z Q:=by
 refine(Ja (BX _) rfl ?_).call;refine jA 1<|Rb (zd T)<|jA 1 ?_;cases wh hp with
 |word s e f=>exact qa ((vg T b hp).trans (C0 some e))<|YX 13 rfl<|rr f q
 |obj _ _ _ _ _ e f=>replace q:=f▸q;exact qa ((vg T b hp).trans (C0 some e))<|jR 15<|q
theorem yI(q:Q (.bool (decide (f=4)||(decide (f=5)||decide (f=6)))) Z):KW w (n+1) 309 [.int f] Z Q:=by
 refine(Ja (AX _) rfl ?_).call;refine jA 3<|iD rfl (λe=>?_) λe=>?_
 ·rw[e]at q⊢;exact na q
 rw[e,Bool.false_or]at q;refine jA 3<|iD rfl (λe=>?_) λe=>?_
 ·rw[e]at q⊢;exact na q
 rw[e]at q;exact jR 3<|q
theorem Hw(hp:p∈Lc):(decide (zk p=4)||(decide (zk p=5)||decide (zk p=6)))=yh p:=qo (P:=λp=>(decide (zk p=4)||(decide (zk p=5)||decide (zk p=6)))=yh p) rfl rfl rfl rfl rfl rfl rfl rfl rfl rfl hp
theorem hM(q:Q (.int 0) Z):KW w (n+1) 420 [.ref g.ti,.tup [.int 0,.int 11]] Z Q:=by refine(Ja (zX _) rfl ?_).call;refine jA 4<|Ve rfl (N0 rfl)<|⟨rfl,?_⟩;show At _ _ _ _ _ _;refine jA 3<|Ka ⟨rfl,?_⟩;show At _ _ _ _ _ _;exact jR 4<|q
end
noncomputable def JM(P:Params):Value:=match(Cd P 428).defaults with| .ref T=>(match(KP P).lookup T with|some ⟨_,_,.seq items _,_⟩=>items.toList.headD .none|_=> .none)|_=> .none
theorem HV(P:Params)(S:Setting)(x y:Value):peek (KP P) S (bindArgs (Cd P 428) ⟨[x,y],[]⟩)=some ((Ag (Cd P 428)).zip ([x,y]++[JM P])):=by kernel_rfl
theorem gV(P:Params):(match JM P with| .int i _=>i==0|_=>false)=true:=by kernel_rfl
theorem iz{v:Value}(h:(match v with| .int i _=>i==0|_=>false)=true):∃t,v= .int 0 t:=by
 induction v with|int i t=>exact⟨t,by rw[beq_iff_eq.mp h]⟩|_=>exact Lf h
theorem BR{α:Type}{P:List α->Prop}:∀{l:List α},l.length=2->(∀x y,P [x,y])->P l|[x,y],_,k=>k x y
section
variable{g:G}
theorem xL{a:Nat}{body:List C}{tk:Value}(k:tQ w.params a 3 nl false body)(hd:∀h bad O,ya pw w h bad O [.int 0] [tk])(hb:∀S x y,peek (KP w.params) S (bindArgs (Cd w.params a) ⟨[x,y],[]⟩)=some ((Ag (Cd w.params a)).zip ([x,y]++[tk])))(hl:args.length=2)(h:oe (ja w (H1 w.params) lvl) body (Lh (args++[.int 0]) nl) Z (λfl _ Z'=>Q (xf fl) Z')):ge w (H1 w.params) (lvl+1) a args Z Q:=
 HB (DJ:=[.int 0]) (SL:=[tk]) (C0 Prod.fst k) (C0 Prod.snd k) hd (λs Ld X hv=>BR (P:=λLd=>BindsTo s (Cd w.params a) ⟨Ld,[]⟩ ((Ag (Cd w.params a)).zip (Ld++[tk]))) (Nat.succ.inj hv) λx y=>kp_binds X λS=>hb S x y) (C0 (· +1) hl) h
theorem ZL{b:AV}(h:At (KW w n) (cS BQ .fin) [] [some a,some b,some (.int 0),none,none,none] Z (λfl _ Z'=>Q (xf fl) Z')):KW w (n+1) 428 [a,b] Z Q:=
 (xL (yX _) (λ_ _ _=>Wa _ _ rfl (iz (gV w.params)) rfl) (HV w.params) rfl
  (wv (K:=KW w n) (λf vs Z P Q h z=>ja.mono z h) BQ (Xb h) (λ_ _ z=>z) (λ_ _ _ _ z=>z))).call
theorem gM(T:TL g rows Z)(b:Vb rows)(hp:p∈Lc)(hn:yh p=false)(h1:p≠1)(q:Q (.bool (decide (p=0))) Z):KW w (n+2) 428 [.ref g.ti,.int p] Z Q:=by
 refine ZL<|jC 2<|Vt T b (.one p hp)<|Ve rfl (xa (by show 1<=1000;decide))<|⟨rfl,?_⟩;show At _ _ _ _ _ _;refine jA 1<|Rb (zd T)<|jA 1<|qa (vg T b hp)<|jA 3<|Dd (gg (D1 h1))<|jA 2<|Pc rfl (λe=>?_) λe=>?_
 ·rw[e]at q;exact jR 1<|q
 rw[e]at q;refine jC 2<|fx T b hp<|jC 0<|yI ?_;rw[Hw hp,hn];cases wh hp with
 |word s r _=>rw[r];refine jA 31<|Ka ⟨rfl,?_⟩;show At _ _ _ _ _ _;exact jR 1<|q
 |obj _ _ _ _ _ r _=>rw[r];refine jA 31<|Ka ⟨rfl,?_⟩;show At _ _ _ _ _ _;exact jR 1<|q
theorem qY(T:TL g rows Z)(b:Vb rows)(hp:p∈Lc)(q:Q (.int (Vy p)) Z):KW w (n+3) 447 [.ref g.ti,.int p] Z Q:=by
 refine(Ja (xX _) rfl ?_).call;have q:Q (.int (if p=1 then 11 else if yh p=true then 2 else p)) Z:=q;refine jA 2<|Pc rfl (λe=>?_) λe=>?_
 ·rw[X0 (N0 e)]at q;exact jR 1<|q
 have h1:=Y1 e;rw[Y0 h1]at q;refine jC 2<|fx T b hp<|jC 0<|yI ?_;rw[Hw hp];refine Mp rfl (λhn=>?_) λhn=>?_
 ·rw[X0 hn]at q;exact jR 1<|q
 rw[hn]at q;refine jC 2<|gM T b hp hn h1<|Mp rfl (λe=>?_) λe=>?_
 ·have h0:=N0 e;subst h0;exact jC 4<|hM (na q)
 ·exact jR 1<|q
noncomputable def Cc(ps:List Int)(kvs:List (Int×AV)):List (Int×AV):=ps.foldl (λk p=>qe p (.int 1) k) kvs
theorem xq(p:Int)(v:AV):∀kvs:List (Int×AV),(qe p v kvs).map (·.1)=if p∈kvs.map (·.1)then kvs.map (·.1)else kvs.map (·.1)++[p]
 |[]=>(Y0 y4).symm|(a,u)::r=>by
  by_cases h:a=p
  ·rw[show qe p v ((a,u)::r)=(a,v)::r from X0 h];exact(X0 (h▸Q4)).symm
  ·rw[show qe p v ((a,u)::r)=(a,u)::qe p v r from Y0 h,K4,xq p v r];by_cases m:p∈r.map (·.1)
   ·rw[X0 m];exact(X0 (B4 _ m)).symm
   ·rw[Y0 m];exact(Y0 λz=>(K1.mp z).elim (λz=>h z.symm) m).symm
theorem uh(p:Int)(v:AV):∀kvs:List (Int×AV),(qe p v kvs).length<=kvs.length+1
 |[]=>K0 _|(a,u)::r=>by
  show(if a=p then(a,v)::r else(a,u)::qe p v r).length<=_;split
  ·exact Y4 _
  ·exact J4 (uh p v r)
theorem Ur:∀(ps:List Int)(kvs:List (Int×AV)),(Cc ps kvs).length<=kvs.length+ps.length
 |[],kvs=>K0 _|q::ps,kvs=>by
  have ln:(qe q (.int 1) kvs).length<=kvs.length+1:=uh q _ kvs;have:=Ur ps (qe q (.int 1) kvs);show(Cc ps (qe q (.int 1) kvs)).length<=_;simp only[P2];exact Jc [_,_,_,_] 171766656952227592230263561707520 tO ln this
theorem Og:∀(ps:List Int)(kvs:List (Int×AV)),(kvs.map (·.1)).Nodup->((Cc ps kvs).map (·.1)).Nodup/\(∀x,x∈(Cc ps kvs).map (·.1)↔x∈kvs.map (·.1)\/x∈ps)/\(Cc ps kvs).length<=kvs.length+ps.length
 |[],kvs,h=>(sf h (λx=>by simp[Cc]) (Q1 _ _))|p::ps,kvs,h=>by
  have hk:=xq p (.int 1) kvs;have hl:(qe p (.int 1) kvs).length<=kvs.length+1:=uh p _ kvs;have hnd:((qe p (.int 1) kvs).map (·.1)).Nodup:=by
   rw[hk];split
   ·exact h
   ·rename_i hn;rw[List.nodup_append];exact(sf h (by simp) (λa ha b hb e=>hn (by rw[J0.mp hb]at e;exact e▸ha)))
  refine Mm (Og ps _ hnd) λi1 i2 i3=>?_;refine(sf i1 (λx=>?_) (by simp only[P2];show(Cc ps (qe p (.int 1) kvs)).length<=_;exact Jc [_,_,_,_] 171766656952227592230263561707520 tO hl i3));show x∈(Cc ps (qe p (.int 1) kvs)).map (·.1)↔_;rw[i2,hk];split
  ·rename_i hm;simp only[K1];constructor
   ·rintro(h|h)
    ·exact .inl h
    ·exact .inr (.inr h)
   ·rintro(h|h|h)
    ·exact .inl h
    ·subst h;exact .inl hm
    ·exact .inr h
  ·simp only[D2,K1,y4,false_or,or_false,or_assoc]
noncomputable def Li(fl:List Int):List Int:=if 0∈fl then[0]else if 1∈fl then[1]else Ib ((Cc fl []).map (·.1))
noncomputable abbrev EW:List C:=[(.Xe 4 (.call 208 [V0,V3]) [(.ue V2 V4 I1)])]
theorem ff:(Z++[o])[Z.length]? =some o:=by rw[C3 (K0 _),Nat.sub_self];rfl
theorem NC{l:List AV}{x:AV}:(l++[x])[l.length]? =some x:=by rw[C3 (K0 _),Nat.sub_self];rfl
theorem sg:(Z++[o]).set Z.length o'=Z++[o']:=by rw[List.set_append_right _ _ (K0 _),Nat.sub_self];rfl
theorem Fg(ps:List Int):(ia ps).length=ps.length:=R0 _
theorem VE{S:SQ}:∀(ps:List Int){ps0:List AV}{kvs:List (Int×AV)}{x4:Option AV},kvs.length+ps.length<=1000->(∀uJ,S .next [some (.ref g.ti),some vi,some (.ref Z.length),some (.int t),uJ,none,none] (Z++[.Ea (Cc ps kvs)]))->Eb (ye (.tup ps0) ps0) (IB K 4 (cS [(.ue V2 V4 I1)] .fin)) (ia ps) [some (.ref g.ti),some vi,some (.ref Z.length),some (.int t),x4,none,none] (Z++[.Ea kvs]) S
 |[],ps0,kvs,x4,hl,h=>⟨rfl,h x4⟩|p::ps,ps0,kvs,x4,hl,h=>by
  refine⟨rfl,?_⟩;show At _ _ _ _ _ _;have hl:kvs.length+(ps.length+1)<=1000:=hl;have ln:=uh p (.int 1) kvs;refine jA 3<|fe (Z':=Z++[.Ea (qe p (.int 1) kvs)]) ?_ ?_
  ·refine(ud (ff ..)).trans ((X0 (xa ((A0 (Q1 _ _) ‹_›)))).trans ?_);rw[sg]
  exact Ka (VE ps (Jc [_,_,_] 2669798116342676090153471008046217932448467238552320 tO hl ln) h)
theorem DA{S:SQ}(b:Vb rows)(T:TL g rows Z)(We:∀Z',tb Z Z'->sa Z' vi=some je):∀(l:List (Int×List Int)){kvs:List (Int×AV)}{x3 x4:Option AV},(∀p∈l,PD rows p.1 p.2)->kvs.length+(l.flatMap (·.2)).length<=1000->(∀ps∈l,ps.2.length<=1000)->(∀vJ uJ,S .next [some (.ref g.ti),some vi,some (.ref Z.length),vJ,uJ,none,none] (Z++[.Ea (Cc (l.flatMap (·.2)) kvs)]))->Eb (ye vi je) (IB (KW w (n+1)) 3 (cS EW .fin)) (ia (l.map (·.1))) [some (.ref g.ti),some vi,some (.ref Z.length),x3,x4,none,none] (Z++[.Ea kvs]) S
 |[],kvs,x3,x4,hd,hl,_,h=>⟨We _ (tb.push _),h x3 x4⟩|p::l,kvs,x3,x4,hd,hl,ln,h=>by
  refine⟨We _ (tb.push _),?_⟩;show At _ _ _ _ _ _;have hl:kvs.length+(p.2++l.flatMap (·.2)).length<=1000:=hl;rw[A1]at hl;have hp:=ln p (.head _);refine jC 2<|Vt (T.grow (tb.push _)) b (hd p (.head _))<|Ve rfl (by rw[Fg];exact xa hp) (VE p.2 (Fb [_,_,_] 1268683109949173794192830463247104 tO hl) λuJ=>?_);show At _ _ _ _ _ _;refine Ka (DA b T We l (λq hq=>hd q (.tail _ hq)) ?_ (λq hq=>ln q (.tail _ hq)) λvJ x4''=>?_)
  ·have:=Ur p.2 kvs;exact Jc [_,_,_,_] 4510102719839870234296163950233219943523130835712 tO hl this
  ·have:=h vJ x4'';rw[List.flatMap_cons,Cc,List.foldl_append]at this;exact this
theorem Si{vs:Fr}(hl:fr.length=m)(hi:i<m)(h:Wh fr i=some v):Wh (fr++vs) i=some v:=by unfold Wh at*;rw[C1 (by exact Jc [_,_,_] 144186124041028609 tO hl hi)];exact h
theorem Jj(hl:fr.length=m):Wh (fr++[some v]) m=some v:=by unfold Wh;rw[C3 ((D3 ‹_›)),hl,Nat.sub_self];rfl
theorem Ou{V:AV->AH->Prop}{ii:Nat}(b:Vb rows)(T:TL g rows Z)(hi:Z[ii]? =some (.Ea kvs))(hm:(-1:Int)∉kvs.map (·.1))(h0:Wh fr 0=some (.ref g.ti))(h2:Wh fr 2=some (.ref ii))(h7:fr.length=7):∀(ps:List Int)(Ra:List AV),(∀p∈ps,p∈Lc)->V (.ba (Ra++ia ps)) Z->Sa (ye (.ba je) je) (Ku (KW w (n+2)) 0 (cT (.call 236 [V0,V2,V7]) (cX V7 .ret) .cont) fr) (ia ps) Ra Z V
 |[],Ra,hp,h=>⟨rfl,by rw[show ia []=[]from rfl,K2]at h;exact h⟩|p::ps,Ra,hp,h=>by
  refine⟨rfl,Aa rfl ?_⟩;exact Ua (Si h7 (N0 rfl) h0)<|Ua (Si h7 (N0 rfl) h2)<|Ua (Jj h7)<|jC 0<|fM T b (hp p (.head _)) hi hm<|jA 1<|Ua (Jj h7)<|na<|Ou b T hi hm h0 h2 h7 ps _ (λq hq=>hp q (.tail _ hq)) (by rw[A3];exact h)
theorem lB:∀{l m:List Int},l.Nodup->(∀x∈l,x∈m)->l.length<=m.length
 |[],m,_,_=>c5 _|x::l,m,nd,h=>by
  refine kA (P3.mp nd) λn1 n2=>?_;have hx:=h x (by simp);have:=lB (l:=l) (m:=m.erase x) n2 λy hy=>(List.mem_erase_of_ne (λ(e:y=x)=>n1 (by rw[<-e];exact hy))).mpr (h y (by simp[hy]));rw[List.length_erase_of_mem hx]at this;have:=List.length_pos_of_mem hx;simp only[P2];exact Nat.add_le_of_le_sub ‹_› ‹_›
theorem Ko(x y:Int):∀l,x∈fg y l↔x=y\/x∈l
 |[]=>⟨λh=> .inl (J0.mp h),λh=>h.elim (λh=>J0.mpr h) λh=>absurd h y4⟩|z::l=>by
  by_cases h:y<=z
  ·rw[show fg y (z::l)=y::z::l from X0 h];exact K1
  ·rw[show fg y (z::l)=z::fg y l from Y0 h,K1,Ko x y l,K1];exact or_left_comm
theorem lf(x:Int):∀l,x∈Ib l↔x∈l|[]=>Iff.rfl|y::l=>(Ko x y _).trans ((or_congr_right (lf x l)).trans K1.symm)
theorem fw(y:Int):∀l,(fg y l).length=l.length+1
 |[]=>rfl|z::l=>by
  by_cases h:y<=z
  ·exact C0 List.length (X0 h:fg y (z::l)=_)
  ·exact(C0 List.length (Y0 h:fg y (z::l)=_)).trans (C0 Nat.succ (fw y l))
theorem Wk:∀l,(Ib l).length=l.length|[]=>rfl|y::l=>(fw y _).trans (C0 Nat.succ (Wk l))
theorem JG(ps:List Int):Kd (ia ps)=true:=by
 induction ps with|nil=>rfl|cons p ps ih=>exact ih
theorem dD(ps:List Int):be (ia ps)=0:=by
 induction ps with|nil=>rfl|cons p ps ih=>exact(Nat.zero_max _).trans ih
theorem FG(l:List Int)(h:l.length<=1000)(Z:AH):og Z 0 [.ba (ia l)]=some (.int l.length):=by have hl:(ia l).length=l.length:=R0 _;show Option.map _ (if(ia l).length<=Ab then some (ia l)else none)=_;rw[X0 (hl▸xa h)];exact C0 (λk:Nat=>some (AV.int k)) hl
theorem Su{xs:List AV}(h:xs.length<=Ab):Db Z (.ba xs)=some !xs.isEmpty:=X0 h
theorem wn{l:List (Int×List Int)}(T:TL g rows Z)(b:Vb rows)(hd:∀p∈l,PD rows p.1 p.2)(hl:(l.flatMap (·.2)).length<=1000)(ln:∀ps∈l,ps.2.length<=1000)(hll:l.length<=1000)(hr:rows.length<1000)(We:∀Z',tb Z Z'->sa Z' vi=some (ia (l.map (·.1))))(q:∀Ba Z' t,(Ba=rows\/Ba=rows++[Fp (Li (l.flatMap (·.2)))])->PD Ba t (Li (l.flatMap (·.2)))->TL g Ba Z'->xd g Z Z'->Q (.int t) Z'):KW w (n+3) 248 [.ref g.ti,vi] Z Q:=by
 refine(Ja (CX _) rfl ?_).call;refine WM rfl (v:= .ref Z.length) (Z':=Z++[.Ea []]) rfl<|jA 2<|Ve (We _ (tb.push _)) (by rw[Fg,R0];exact xa hll) (DA b T We l hd (by rw[j5,Nat.zero_add];exact hl) ln λx3 x4=>?_);show At _ _ _ _ _ _;generalize hfl:l.flatMap (·.2)=fl at*;have aN:∀p∈fl,p∈Lc:=λp hp=>by
  rw[<-hfl]at hp;exact Xa (k5.mp hp) λx hx hp=>(hd x hx).ok p hp
 have T1:=T.grow (tb.push (.Ea (Cc fl [])));have kp:xd g Z (Z++[AO.Ea (Cc fl [])]):=(tb.push _).keep;have hi:(Z++[AO.Ea (Cc fl [])])[Z.length]? =some (.Ea (Cc fl [])):=ff;clear We hd ln hl hll;generalize Z++[AO.Ea (Cc fl [])]=Z1 at*;refine Mm (Og fl [] List.nodup_nil) λknd Xs klen=>?_;have Xs:∀x,x∈(Cc fl []).map (·.1)↔x∈fl:=λx=>(Xs x).trans ⟨λh=>h.elim (λh=>nomatch h) id,.inr⟩;have no:∀{x:Int},x∉Lc->x∉(Cc fl []).map (·.1):=λhx z=>hx (aN _ ((Xs _).mp z));refine jC 1<|vV hi<|jA 3 ?_;have q:∀Ba Z' t,(Ba=rows\/Ba=rows++[Fp (if 0∈fl then[0]else if 1∈fl then[1]else Ib ((Cc fl []).map (·.1)))])->PD Ba t (if 0∈fl then[0]else if 1∈fl then[1]else Ib ((Cc fl []).map (·.1)))->TL g Ba Z'->xd g Z Z'->Q (.int t) Z':=q;by_cases f0:(0:Int)∈fl
 ·rw[show gF ((Cc fl []).map (·.1))=0 from X0 ((Xs 0).mpr f0)];rw[X0 f0]at q;exact jR 2<|q rows _ 0 (.inl rfl) (.one 0 (N0 rfl)) T1 kp
 have e0:gF ((Cc fl []).map (·.1))=if 1∈(Cc fl []).map (·.1)then 1 else-1:=(Y0 λz=>f0 ((Xs 0).mp z)).trans (Y0 (no (N0 rfl)));rw[Y0 f0]at q;by_cases f1:(1:Int)∈fl
 ·rw[e0.trans (X0 ((Xs 1).mpr f1))];rw[X0 f1]at q;exact jR 2<|q rows _ 1 (.inl rfl) (.one 1 (N0 rfl)) T1 kp
 rw[e0.trans (Y0 λz=>f1 ((Xs 1).mp z))];rw[Y0 f1]at q;refine jC 2<|nQ hi (no (N0 rfl)) (no (N0 rfl))<|jA 2 ?_;have zP:(Cc fl []).length<=10:=by have:=lB knd (λx hx=>aN x ((Xs x).mp hx));rw[R0]at this;exact this
 refine Ef rfl (v:= .ba (ia (Ib ((Cc fl []).map (·.1))))) ?_ ?_
 ·exact(C0 (λo=>Option.bind o _) (ud hi)).trans (X0 (by rw[R0];exact A0 ‹_› (N0 rfl)))
 have ksm:∀p∈Ib ((Cc fl []).map (·.1)),p∈Lc:=λp hp=>aN p ((Xs p).mp ((lf p _).mp hp));have ksl:(Ib ((Cc fl []).map (·.1))).length<=10:=by rw[Wk,R0];exact zP
 have fU:=no (x:= -1) (N0 rfl);generalize Ib ((Cc fl []).map (·.1))=ks at*;refine Wd rfl (by rw[Fg];exact xa ((A0 ‹_› (N0 rfl)))) (Ou b T1 hi fU rfl rfl rfl ks [] ksm ?_);rw[List.nil_append];refine jA 2 ?_;have hln:=FG ks ((A0 ‹_› (N0 rfl))) Z1
 match ks with
 |[]=>exact jR 2<|q rows _ 2 (.inl rfl) .nil T1 kp
 |[a]=>exact jD (Su (by rw[Fg];exact xa ((Nat.succ_pos _))))<|jA 1<|Ef rfl hln<|jR 5<|q rows _ a (.inl rfl) (.one a (ksm a (.head _))) T1 kp
 |a::c::ks=>
  have ksl:ks.length+2<=10:=ksl;refine jD (Su (by rw[Fg];exact xa (by show ks.length+2<=_;exact A0 ‹_› (N0 rfl))))<|jA 1<|Ef rfl hln<|jA 3<|Ef rfl hln<|jA 1<|Dd (C0 some (D1 λz=>?_)) ?_
  ·have:(400:Int)<((ks.length+2:Nat):Int):=z;lia
  refine jA 1<|MG T1.ti λfs t1 t2 t3 t4 t5=>dw (p:=(190,fs)) (f:=187) (by simp only[Gb,t1]) (by simp only[Hg,t4];rfl)<|jA 2<|Ef rfl (v:= .tup (ia (a::c::ks))) ?_ ?_
  ·show Option.map _ (if _ then _ else _)=_;rw[X0 (by rw[Fg];exact xa (by show ks.length+2<=_;exact A0 ‹_› (N0 rfl)))];rfl
  refine jA 1<|ew rfl<|xI T1 (by simp only[Kd,Zf,JG,Bool.and_self]) (by simp only[be,Ys,dD];decide) hr (λi BJ=>?_) λhm Z' T2 k2 l2=>?_
  ·refine na ?_;exact q rows _ i (.inl rfl) (.many _ i (D0 _ _) ksm (λz=>by
    subst z;exact b.two _ BJ) BJ) T1 kp
  ·have hrl:¬rows.length=2:=λz=>by
    have:=(B0.mp (b.row 17 (N0 rfl))).1;rw[z]at this;exact absurd this (N0 rfl)
   exact na<|q _ Z' rows.length (.inr rfl) (.many _ _ (D0 _ _) ksm hrl NC) T2 (kp.trans k2)
theorem cB{V:AV->AH->Prop}(b:Vb rows)(T:TL g rows Z)(h0:Wh fr 0=some (.ref g.ti))(h7:fr.length=2):∀(ps:List Int)(Ra:List AV),(∀p∈ps,p∈Lc)->V (.ba (Ra++ia (ps.map Vy))) Z->Sa (ye (.tup je) je) (Ku (KW w (n+3)) 0 (cT (.lit (.bool true)) (cX (.call 447 [V0,V2]) .ret) .cont) fr) (ia ps) Ra Z V
 |[],Ra,hp,h=>⟨rfl,by rw[show ia ([].map Vy)=[]from rfl,K2]at h;exact h⟩|p::ps,Ra,hp,h=>by
  refine⟨rfl,Aa rfl ?_⟩;exact jA 2<|Ua (Si h7 (N0 rfl) h0)<|Ua (Jj h7)<|jC 0<|qY T b (hp p (.head _))<|na<|cB b T h0 h7 ps _ (λq hq=>hp q (.tail _ hq)) (by rw[A3];exact h)
noncomputable def QM(p:Int):List Int:=if p=1 then[11]else if yh p=true then[]else[p]
noncomputable def Tc(ps:List Int):List Int:=Li (ps.flatMap QM)
theorem VS(h:p∈Lc):PD rows (Vy p) (QM p):=
 qo (P:=λp=>PD rows (Vy p) (QM p)) (.one 0 (N0 rfl)) (.one 11 (N0 rfl)) .nil .nil .nil (.one 6 (N0 rfl)) (.one 7 (N0 rfl)) (.one 11 (N0 rfl)) (.one 16 (N0 rfl)) (.one 17 (N0 rfl)) h
theorem dB(p:Int):(QM p).length<=1:=by
 unfold QM;split
 ·exact K0 _
 ·split
  ·exact c5 _
  ·exact K0 _
theorem Uo{α:Type}{f:α->List Int}{k:Nat}(hf:∀p,(f p).length<=k):∀ps:List α,(ps.flatMap f).length<=k*ps.length
 |[]=>c5 _|p::ps=>by
  rw[List.flatMap_cons,A1];have:=hf p;have:=Uo hf ps;show _<=k*(ps.length+1);rw[Nat.mul_succ];exact Jc [_,_,_,_] 153477514175685570102016 tO ‹_› this
theorem wV{ps:List Int}(T:TL g rows Z)(b:Vb rows)(d:PD rows t ps)(hl:ps.length<=100)(hr:rows.length<1000)(q:∀Ba Z' t',(Ba=rows\/Ba=rows++[Fp (Tc ps)])->PD Ba t' (Tc ps)->TL g Ba Z'->xd g Z Z'->Q (.int t') Z'):KW w (n+4) 452 [.ref g.ti,.int t] Z Q:=by
 refine(Ja (wX _) rfl ?_).call;refine jC 3<|Vt T b d ?_;have aN:=d.ok;refine Wd rfl (by rw[Fg];exact xa ((A0 ‹_› (N0 rfl)))) (cB b T rfl rfl ps [] aN ?_);refine jC 0 ?_;have hfm:(ps.map λp=>(Vy p,QM p)).flatMap (·.2)=ps.flatMap QM:=List.flatMap_map _ _ _;have hl1:=Uo dB ps;refine wn (l:=ps.map λp=>(Vy p,QM p)) T b (λx hx=>?_) (by rw[hfm];exact Jc [_,_] 5522942332627530372760699513992100734976 tO hl hl1) (λx hx=>?_) (by rw[R0];exact A0 ‹_› (N0 rfl)) hr (λZ' _=>?_) λBa Z' t' h1 h2 h3 h4=>?_
 ·refine Xa (List.mem_map.mp hx) λp hp ez=>?_;subst ez;exact VS (aN p hp)
 ·refine Xa (List.mem_map.mp hx) λp hp ez=>?_;subst ez;exact A0 (dB p) (N0 rfl)
 ·rw[List.map_map];rfl
 ·rw[hfm]at h1 h2;exact na<|q Ba Z' t' h1 h2 h3 h4
end
structure oW(W:List Int):Prop where
 len:W.length<=100
 slen:(Tc W).length<=100
 ss:Tc (Tc W)=Tc W
 un:∀bs:List Bool,bs≠[]->Li (bs.flatMap λb=>if b=true then W else Tc W)=if bs.any id=true then W else Tc W
noncomputable def wb(W:List Int)(b:Bool):List Int:=if b=true then W else Tc W
structure NS(g:G)(use:List (Int×AV))(W:List Int)(r0 rows:List AV)(Z:AH):Prop where
 T:TL g rows Z
 b:Vb rows
 ui:Z[g.ui]? =some (.Ea use)
 ai:∃fs,Z[g.ai]? =some (.inst 551 fs)/\Jb 6 fs=some (.ref g.ti)/\Jb 7 fs=some (.ref g.ui)/\Jb 23 fs=none/\Jb 24 fs=none/\Jb 25 fs=none
 ex:∃ex,rows=r0++ex/\∀r∈ex,r=Fp W\/r=Fp (Tc W)
 r0:r0.length<=900
 W:oW W
structure Go(g:G)(rows Ba:List AV)(Z Z':AH):Prop where
 more:∃ex,Ba=rows++ex
 keep:xd g Z Z'
theorem Go.refl{g:G}:Go g rows rows Z Z:=⟨⟨[],(K2 _).symm⟩,xd.refl⟩
theorem Go.trans{g:G}{r3:List AV}{s3:AH}(x:Go g r1 r2 s1 s2)(y:Go g r2 r3 s2 s3):Go g r1 r3 s1 s3:=by refine kE x.more λe1 h1=>kE y.more λe2 h2=>?_;exact⟨⟨e1++e2,by rw[h2,h1,A3]⟩,x.keep.trans y.keep⟩
theorem Go.get{g:G}(x:Go g r1 r2 s1 s2)(i:Nat)(r:AV)(h:r1[i]? =some r):r2[i]? =some r:=kE x.more λe1 h1=>rr h1<|rr (C1 (B0.mp h).1) h
theorem RJ{W1 W2:AV}:∀{ex:List AV},ex.Nodup->(∀r∈ex,r=W1\/r=W2)->ex.length<=2
 |[],_,_=>c5 _|[a],_,_=>Y4 _|[a,b],_,_=>K0 _|a::b::c::r,nd,h=>by
  have⟨n1,nd⟩:=P3.mp nd;have⟨n2,_⟩:=P3.mp nd;have ab:a≠b:=λe=>n1 (e▸ .head _);have ac:a≠c:=λe=>n1 (e▸ .tail _ (.head _));have bc:b≠c:=λe=>n2 (e▸ .head _);have ha:=h a (.head _);have hb:=h b (.tail _ (.head _));have hc:=h c (.tail _ (.tail _ (.head _)));exact ha.elim (λha=>hb.elim (λhb=>absurd (ha.trans hb.symm) ab) λhb=>hc.elim (λhc=>absurd (ha.trans hc.symm) ac) λhc=>absurd (hb.trans hc.symm) bc)
   λha=>hb.elim (λhb=>hc.elim (λhc=>absurd (hb.trans hc.symm) bc) λhc=>absurd (ha.trans hc.symm) ac) λhb=>absurd (ha.trans hb.symm) ab
section
variable{g:G}
theorem NS.rlen(N:NS g use W r0 rows Z):rows.length<1000:=by refine Xa N.ex λex e h=>?_;have nd:=N.T.nd;rw[e,List.nodup_append]at nd;have:=RJ nd.2.1 h;have:=N.r0;rw[e,A1];exact Jc [_,_] 292330369698166284091342314503439105 tO ‹_› this
theorem Ca{o1 o2:AO}(h1:Z[i]? =some o1)(h2:Z[j]? =some o2)(h:o1≠o2):i≠j:=λe=>h (z0 (h1.symm.trans (e▸h2)))
theorem NS.next(N:NS g use W r0 rows Z)(T:TL g Ba Z')(k:xd g Z Z')(hr:Ba=rows\/∃b,Ba=rows++[Fp (wb W b)]):NS g use W r0 Ba Z'/\Go g rows Ba Z Z':=
 have mo:∃ex,Ba=rows++ex:=hr.elim (λh=>⟨[],h.trans (K2 _).symm⟩) λ⟨b,h⟩=>⟨_,h⟩;have G1:Go g rows Ba Z Z':=⟨mo,k⟩
 ⟨⟨T,⟨λp hp=>G1.get _ _ (N.b.row p hp),λps h=>N.b.two ps (by
   have hl:17<rows.length:=(B0.mp (N.b.row 17 (N0 rfl))).1;refine kE mo λex e=>?_;rw[e,C1 ((A0 (D0 _ _) ‹_›))]at h;exact h)⟩,k.get N.ui (Ca N.ui N.T.ri AO.noConfusion) (Ca N.ui N.T.xi AO.noConfusion),match N.ai with|⟨fs,ha,h6⟩=>(Na fs (k.get ha (Ca ha N.T.ri AO.noConfusion) (Ca ha N.T.xi AO.noConfusion)) h6),
  match N.ex,hr with
  |⟨ex,e,h⟩,.inl hr=>(Na ex (hr.trans e) h)|⟨ex,e,h⟩,.inr ⟨b,hr⟩=>⟨ex++[Fp (wb W b)],by rw[hr,e,A3],λr hm=>(D2.mp hm).elim (h r) λhm=>by
   refine rr (J0.mp hm) ?_;exact match b with|true=> .inl rfl|false=> .inr rfl⟩,N.r0,N.W⟩,G1⟩
theorem zn(N:NS g use W r0 rows Z):Ze Z 6 (.ref g.ai)=some (.ref g.ti):=Df N.ai λfs h h1 _=>rr (Uh h (N0 rfl))<|rr h1 rfl
theorem Ng(N:NS g use W r0 rows Z):Ze Z 7 (.ref g.ai)=some (.ref g.ui):=aw N.ai λfs h _ h1 _=>rr (Uh h (N0 rfl))<|rr h1 rfl
def Id(g:G)(use:List (Int×AV))(W:List Int)(r0 rows:List AV)(Z:AH)(b:Bool)(Q:AV->AH->Prop):Prop:=
 ∀Ba Z' t',NS g use W r0 Ba Z'->Go g rows Ba Z Z'->PD Ba t' (wb W b)->Q (.int t') Z'
theorem gs(h:oW W):∀b,(wb W b).length<=100|true=>h.len|false=>h.slen
theorem kQ(N:NS g use W r0 rows Z)(d:PD rows t (wb W b))(q:Id g use W r0 rows Z false Q):KW w (n+4) 452 [.ref g.ti,.int t] Z Q:=by
 have e:Tc (wb W b)=Tc W:=match b with|true=>rfl|false=>N.W.ss
 refine wV N.T N.b d (gs N.W b) N.rlen λBa Z' t' hr hd T' k=>?_;rw[e]at hr hd;have⟨N',G'⟩:=N.next T' k (hr.imp id λh=>⟨false,h⟩);exact q Ba Z' t' N' G' hd
theorem eQ{t1 t2:Int}{b2:Bool}(N:NS g use W r0 rows Z)(d1:PD rows t1 (wb W b1))(d2:PD rows t2 (wb W b2))(q:Id g use W r0 rows Z (b1||b2) Q):KW w (n+3) 248 [.ref g.ti,.tup [.int t1,.int t2]] Z Q:=by
 have e:Li ([(t1,wb W b1),(t2,wb W b2)].flatMap (·.2))=wb W (b1||b2):=by have:=N.W.un [b1,b2] (λh=>nomatch h);replace this:=(show[b1,b2].any id=(b1||b2)from C0 (b1||·) (Bool.or_false _))▸this;exact this
 have l1:=gs N.W b1;have l2:=gs N.W b2;refine wn (l:=[(t1,wb W b1),(t2,wb W b2)]) N.T N.b (Q3.mpr ⟨d1,Q3.mpr ⟨d2,List.forall_mem_nil _⟩⟩) (by show(wb W b1++(wb W b2++[])).length<=_;rw[A1,K2];exact A0 (Nat.add_le_add ‹_› ‹_›) (N0 rfl))
  (Q3.mpr ⟨A0 l1 (N0 rfl),Q3.mpr ⟨A0 l2 (N0 rfl),List.forall_mem_nil _⟩⟩) (by decide:2<=1000) N.rlen (λZ' _=>rfl) λBa Z' t' hr hd T' k=>?_
 rw[e]at hr hd;have⟨N',G'⟩:=N.next T' k (hr.imp id λh=>⟨_,h⟩);exact q Ba Z' t' N' G' hd
end
inductive hW where
 |ty (s:Tx)
 |Hk (k:Int) (r:List AV)
noncomputable def KR:hW->AV| .ty s=> .tup [.int 2,.str s]| .Hk k r=> .tup (.int k::r)
noncomputable abbrev Hd:Tx:=[117,110,100,101,102,105,110,101,100]
noncomputable def HA:hW->Bool->Bool| .ty s,yes=>yes !=decide (s=Hd)| .Hk _ _,yes=>yes
def JR:hW->Prop| .ty _=>True| .Hk k _=>k=1\/k=4\/k=5
section
variable{g:G}
theorem LD{tab:AV}{ts:hW}(h:JR ts)(q:Q (.bool (HA ts yes)) Z):KW w (n+1) 589 [tab,KR ts,.bool yes] Z Q:=by
 refine(Ja (pX _) rfl ?_).call;induction ts with
 |ty s=>refine jA 14 ?_;exact na<|q
 |Hk k r=>rcases h with rfl|rfl|rfl<;>((refine jA 14 ?_;refine na ?_);exact q)
theorem Hi{ts:hW}(N:NS g use W r0 rows Z)(hx:Ic x<=1000)(r:Lb use cnt x v)(h1:rg x≠g.key)(h2:(uw x).1≠g.key)(ZT:JR ts)(d:PD rows t (wb W b))(q:Id g use W r0 rows Z (b&& !(Va g.key x&&HA ts yes)) Q):KW w (n+7) 596 [.ref g.ai,v,KR ts,.str g.key,.int t,.bool yes] Z Q:=by
 refine(Ja (oX _) rfl ?_).call;refine jA 2<|Rb (Ng N)<|jC 0<|Sh hx r N.ui<|jA 1<|Dd (C0 some (D1 h1))<|jA 2<|Rb (Ng N)<|jC 0<|bx hx r N.ui<|eg rfl<|jA 2<|Dd (C0 some (D1 h2))<|jA 3<|Rb (Ng N)<|jC 0<|SB hx r N.ui<|Mp rfl (λhc=>?_) λhc=>?_
 ·refine jA 1<|Rb (zn N)<|jC 2<|LD ZT<|Mp rfl (λht=>?_) λht=>?_
  ·rw[hc,ht,Bool.and_self,Bool.not_true,Bool.and_false]at q;exact jA 1<|Rb (zn N)<|jC 1<|kQ N d λBa Z' t' N' G' d'=>jR 2<|q Ba Z' t' N' G' d'
  ·rw[hc,ht,Bool.and_false,Bool.not_false,T4]at q;exact jR 1<|q rows Z t N Go.refl d
 ·rw[hc,Bool.false_and,Bool.not_false,T4]at q;exact jR 1<|q rows Z t N Go.refl d
noncomputable def kW(x:Nd):Nd->Option (Nd×Tx)| .str u=>some (x,u)| .Ti u=>some (x,u)|_=>none
noncomputable def QY(r:Nd):Nd->Option (Nd×Tx)
 | .Mk s x=>if s=[116,121,112,101,111,102]then kW x r else none
 |_=>none
noncomputable def LN(l r:Nd):Option (Nd×Tx):=QY (Hc r) (Hc l)
theorem WE(x:Nd):∀y:Nd,(∃s,y= .str s)\/(∃s,y= .Ti s)\/(decide (y.kind=2)=false/\decide (y.kind=3)=false)/\kW x y=none| .str s=> .inl ⟨s,rfl⟩| .Ti s=> .inr (.inl ⟨s,rfl⟩)| .num _| .lit true| .lit false| .wrap 0 _| .wrap 1 _| .wrap (_+2) _| .lst| .name _ _| .mem _ _ _| .idx _ _ _| .call _ _| .Mk _ _| .bin _ _ _| .log _ _ _| .yn _ _=> .inr (.inr ⟨⟨rfl,rfl⟩,rfl⟩)
theorem Qu(r:Nd):∀y:Nd,(∃s x,y= .Mk s x)\/decide (y.kind=21)=false/\QY r y=none| .Mk s x=> .inl (Jh s x rfl)| .str _| .Ti _| .num _| .lit true| .lit false| .wrap 0 _| .wrap 1 _| .wrap (_+2) _| .lst| .name _ _| .mem _ _ _| .idx _ _ _| .call _ _| .bin _ _ _| .log _ _ _| .yn _ _=> .inr ⟨rfl,rfl⟩
theorem RB{r:Nd}(hl:Lb use cnt l lv)(hr:Lb use cnt r rv)(q1:LN l r=none->Q (.tup [.none,.str []]) Z)(q2:∀x u xv,LN l r=some (x,u)->Lb use cnt x xv->Q (.tup [xv,.str u]) Z):KW w (n+2) 603 [lv,rv] Z Q:=by
 refine(Ja (nX _) rfl ?_).call;refine jC 1<|Dj hl λlv' gy=>jC 2<|Dj hr λrv' wP=>?_;unfold LN at q1 q2;generalize Hc l=a at*;generalize Hc r=c at*;rcases Qu c a with⟨s,x,rfl⟩|⟨e,e0⟩
 ·refine Qa gy λt d xv ez hx=>?_;clear gy;subst ez;have q1:(if s=[116,121,112,101,111,102]then kW x c else none)=none->_:=q1;have q2:∀y u yv,(if s=[116,121,112,101,111,102]then kW x c else none)=some (y,u)->Lb use cnt y yv->_:=q2;refine jA 8<|Pc rfl (λe=>?_) λe=>?_
  ·rw[X0 (N0 e)]at q1 q2;rcases WE x c with⟨u,rfl⟩|⟨u,rfl⟩|⟨⟨e1,e2⟩,e3⟩
   ·refine Cp wP λt2 d2 ez=>?_;subst ez;exact jR 11<|q2 x u xv rfl hx
   ·refine Cp wP λt2 d2 ez=>?_;clear wP;subst ez;exact jR 20<|q2 x u xv rfl hx
   ·refine Vd (Lb.node wP) λa ks f t2 d2 ez=>?_;clear wP;subst ez;exact jA 3<|Dd (gg e1)<|jA 3<|Dd (gg e2)<|jR 3<|q1 e3
  ·replace q1:=Y0 (Y1 e)▸q1;exact jR 3<|q1 rfl
 ·refine Vd (Lb.node gy) λa ks f t2 d2 ez=>?_;clear gy;subst ez;exact jA 4<|Dd (gg e)<|jR 3<|q1 e0
end
structure mC(key:Tx)(x:Nd):Prop where
 sz:Ic x<=1000
 t:rg x≠key
 h:(uw x).1≠key
def aG(x:Nd):Prop:=(∃k,x= .num k)\/∃s a b,x= .bin s (.num a) (.num b)
section
variable{g:G}
theorem LA{a b:Tx}(h:a≠b):Ta Z 0 (.str a) (.str b)=some false:=C0 some (D1 h)
theorem bp(N:NS g use W r0 rows Z)(o:mC g.key x)(hc:Va g.key x=false)(r:Lb use cnt x v)(q:Q (.bool false) Z):KW w (n+7) 584 [.ref g.ai,v,.str g.key] Z Q:=by refine(Ja (qX _) rfl ?_).call;exact jA 2<|Rb (Ng N)<|jC 0<|Sh o.sz r N.ui<|jA 1<|Dd (LA o.t)<|jA 2<|Rb (Ng N)<|jC 0<|bx o.sz r N.ui<|jA 4<|bz (C0 some (D1 o.h))<|jA 3<|Rb (Ng N)<|jC 0<|SB o.sz r N.ui<|rr hc<|na q
noncomputable abbrev lW:List C:=[(.asg 4 (.Dc V3 28 [])),(.za (.or (.cmp 8 (.attr V4 0) (.tup [(I 25),(I 22)])) (.and (.cmp 0 (.attr V4 0) (I 21)) (.cmp 0 (.attr V4 1) (.lit (.str [100,101,108,101,116,101]))))) [(.za (.or (.Dc V0 23 [V4,V2]) (.Dc V0 24 [V4,V2])) [(.ret (.lit (.bool true)))] [])] []),(.za (.and (.cmp 1 (.attr V4 0) (I 27)) (.cmp 1 (.attr V4 0) (I 61))) [(.exp (.Dc V3 29 [(.comp V5 0 (.attr V4 2) (.cmp 7 V5 (.lit .none)))]))] [])]
theorem DS(st:List AV)(x:AV)(h:st.length<=100):Mc (Z++[.list (st++[x])]) 28 (.ref Z.length) []=some (x,Z++[.list st]):=by show((mB (Z++[.list (st++[x])]) Z.length).bind λys=>if ys.length<=Ab then(ys.getLast?).map λy=>(y,(Z++[AO.list (st++[x])]).set Z.length (.list ys.dropLast))else none)=_;refine rr (qj (ff ..)) ?_;refine(X0 (xa (by refine rr A1 ?_;show st.length+1<=_;exact D4 ‹_› (N0 rfl)))).trans ?_;refine rr List.getLast?_concat<|rr List.dropLast_concat<|rr sg ?_;rfl
theorem SU(st l:List AV)(h:st.length+l.length<=1000):Mc (Z++[.list st]) 29 (.ref Z.length) [.ba l]=some (.none,Z++[.list (st++l)]):=by show((mB (Z++[.list st]) Z.length).bind λys=>if ys.length+l.length<=Ab then some (AV.none,(Z++[AO.list st]).set Z.length (.list (ys++l)))else none)=_;exact rr (qj (ff ..))<|(X0 (xa h)).trans<|rr sg rfl
theorem Xm{S:SQ}{k:Int}(hk:k=1\/k=23)(hks:ks=[]\/∃k1 a1 s1 f1 t1 d1 k2 a2 s2 f2 t2 d2,ks=[.node k1 a1 s1 f1 t1 d1,.node k2 a2 s2 f2 t2 d2])(hl:st.length<=100)(h:∀uJ,WA K (cT V3 .fin .cont) (cS lW .fin) m [x0,x1,x2,some (.ref Z.length),uJ] (Z++[.list (st++ks)]) S):WA K (cT V3 .fin .cont) (cS lW .fin) (m+1) [x0,x1,x2,some (.ref Z.length),x4] (Z++[.list (st++[.node k a ks f t d])]) S:=by
 have io:∀l,Gb (Z++[.list l]) (.ref Z.length)=none:=λl=>by simp only[Gb,ff]
 have mo:∀l,Ah (Z++[.list l]) (.ref Z.length)=1:=λl=>oj (ff ..);refine ky λT ht hf=>jA 1<|jD (?_:Db (Z++[.list (st++[.node k a ks f t d])]) (.ref Z.length)=_) (Ka (ht ?_))
 ·refine(C0 (λo=>Option.bind o qx) (qj (ff ..))).trans ((X0 (xa (by refine rr A1 ?_;show st.length+1<=_;exact D4 ‹_› (N0 rfl)))).trans ?_);refine rr (List.isEmpty_eq_false_iff.mpr (List.append_ne_nil_of_right_ne_nil _ (z4 _ _))) ?_;rfl
 refine jA 1 ?_;refine Zi (io _) ⟨mo _,by decide⟩<|Fh rfl (DS st _ hl) ?_;have e:qB [25,22] k=false/\decide (k=21)=false/\decide (k=27)=false/\decide (k=61)=false:=by rcases hk with rfl|rfl<;>exact(Kh rfl rfl rfl rfl)
 refine jA 6<|Dd (VG.trans (C0 some e.1))<|jA 3<|Dd (gg e.2.1)<|jA 3<|Iu (WC e.2.2.1)<|jA 3<|Iu (WC e.2.2.2)<|jA 1 ?_;refine Zi (io _) ⟨mo _,by decide⟩<|jA 2 ?_;have fin:At K (OD [] (.yJ 29 1 (.exp (cS [] .fin)))) [.ba ks,.none,.ref Z.length] [x0,x1,x2,some (.ref Z.length),some (.node k a ks f t d)] (Z++[.list st]) (WN K (cT V3 .fin .cont) (cS lW .fin) m S):=by
  have l2:ks.length<=2:=by
   rcases hks with rfl|⟨k1,a1,s1,f1,t1,d1,k2,a2,s2,f2,t2,d2,rfl⟩
   ·exact c5 _
   ·exact K0 2
  exact Fh rfl (SU st ks ((A0 (Nat.add_le_add ‹_› ‹_›) (N0 rfl))))<|jA 1<|jh (h _)
 rcases hks with rfl|⟨k1,a1,s1,f1,t1,d1,k2,a2,s2,f2,t2,d2,rfl⟩
 ·exact Wd rfl (N0 rfl) ⟨rfl,fin⟩
 ·refine Wd rfl (by decide:2<=Ab) ⟨rfl,Aa rfl ?_⟩;refine jR 4<|⟨rfl,Aa rfl ?_⟩;exact jR 4<|⟨rfl,fin⟩
theorem wF{S:SQ}(h:S .next [x0,x1,x2,some (.ref Z.length),x4] (Z++[.list []])):WA K (cT V3 .fin .cont) (cS lW .fin) (m+1) [x0,x1,x2,some (.ref Z.length),x4] (Z++[.list []]) S:=by refine ky λT ht hf=>jA 1<|XK (?_:Db (Z++[.list []]) (.ref Z.length)=_) (dg (hf h));exact C0 (λo=>Option.bind o qx) (qj (ff ..))
theorem iQ(hp:aG x)(r:Lb use cnt x v)(q:∀Z',tb Z Z'->Q (.bool false) Z'):KW w (n+1) 608 [.ref g.ai,v,.str g.key] Z Q:=by
 refine(Ja (mX _) rfl ?_).call;refine jA 1<|Eo rfl rfl<|jA 1 ?_;have fin:∀fr,At (KW w n) (cS [(.ret (.lit (.bool false)))] .fin) [] fr (Z++[.list []]) (λfl _ Z'=>Q (xf fl) Z'):=λfr=>jR 1<|q _ (tb.push _);rcases hp with⟨k,rfl⟩|⟨s,a,b,rfl⟩
 ·refine db r λt d ez _=>?_;clear r;subst ez;exact az 2 (Xm (st:=[]) (.inl rfl) (.inl rfl) (N0 rfl) λuJ=>wF (fin _))
 ·refine xb r λt d lv rv ez tz=>?_;clear r;subst ez;refine kA tz λhl hr=>?_;clear tz;refine db hl λt1 d1 ez _=>?_;clear hl;subst ez;refine db hr λt2 d2 ez _=>?_;clear hr;subst ez;refine az 4 (Xm (st:=[]) (.inr rfl) (.inr (Np _ _ _ _ _ _ _ _ _ _ _ _ rfl)) (N0 rfl) λuJ=>?_);exact Xm (st:=[.node 1 (.int a) [] 0 t1 d1]) (.inl rfl) (.inl rfl) (by decide:1<=100) λuJ=>Xm (st:=[]) (.inl rfl) (.inl rfl) (N0 rfl) λuJ=>wF (fin _)
theorem NS.grow(N:NS g use W r0 rows Z)(x:tb Z Z'):NS g use W r0 rows Z'/\Go g rows rows Z Z':=N.next (N.T.grow x) x.keep (.inl rfl)
noncomputable def Nw(l r:Nd):Option (Nd×Tx):=match LN l r with|some p=>some p|none=>LN r l
structure Hx(key:Tx)(l r:Nd):Prop where
 tw:∀x u,Nw l r=some (x,u)->mC key x
 no:Nw l r=none->aG r/\mC key l/\Va key l=false/\mC key r/\Va key r=false
noncomputable def Pd(key:Tx)(l r:Nd)(yes:Bool):Bool:=match Nw l r with|some (x,u)=> !(Va key x&&HA (.ty u) yes)|none=>true
theorem au{r:Nd}{sv:AV}(N:NS g use W r0 rows Z)(hl:Lb use cnt l lv)(hr:Lb use cnt r rv)(ok:Hx g.key l r)(d:PD rows t (wb W b))(q:Id g use W r0 rows Z (b&&Pd g.key l r yes) Q):KW w (n+8) 615 [.ref g.ai,lv,rv,sv,.str g.key,.int t,.bool yes] Z Q:=by
 refine(Ja (lX _) rfl ?_).call;have kN:∀{x:Nd}{u:Tx}{xv y1 y2:AV}{c:J}{S:SQ},Nw l r=some (x,u)->Lb use cnt x xv->(∀v fr Z',Q v Z'->S (.ret v) fr Z')->
   At (KW w (n+7)) (cC (.za (.cmp 7 V9 (.lit .none)) [(.ret (.call 596 [V0,V9,(.tup [I2,Vr]),V4,V5,V6]))] []) c) [] [some (.ref g.ai),some lv,some rv,some sv,some (.str g.key),some (.int t),some (.bool yes),some y1,some y2,some xv,some (.str u),none,none] Z S:=by
  intro x u xv y1 y2 c S he hx hS;refine Vd (Lb.node hx) λ_ _ _ _ _ ez=>?_;subst ez;refine jC 11 ?_;have o:=ok.tw x u he;have e:Pd g.key l r yes= !(Va g.key x&&HA (.ty u) yes):=by unfold Pd;exact rr he rfl
  replace q:=e▸q;exact Hi (ts:= .ty u) N o.sz hx o.t o.h trivial d λBa Z' t' N' G' d'=>na<|hS _ _ _ (q Ba Z' t' N' G' d')
 refine jA 7<|Eg rfl (by decide:2<=Ab) ⟨rfl,Aa rfl ?_⟩;refine(?_:At _ _ _ [_,_,_,_,_,_,_,_,_,_,_,_,_] _ _);refine jC 2<|RB hl hr (λe1=>?_) λx u xv e1 hx=>?_
 ·refine eg rfl<|(?_:At _ _ _ [_,_,_,_,_,_,_,_,_,_,_,_,_] _ _);refine jA 3<|Ka ⟨rfl,Aa rfl ?_⟩;refine(?_:At _ _ _ [_,_,_,_,_,_,_,_,_,_,_,_,_] _ _);refine jC 2<|RB hr hl (λe2=>?_) λx u xv e2 hx=>?_
  ·have en:Nw l r=none:=by unfold Nw;exact rr e1<|rr e2 rfl
   refine NG (ok.no en) λpr ol cl orr cr=>?_;have eb:Pd g.key l r yes=true:=by unfold Pd;exact rr en rfl
   rw[eb,T4]at q;refine eg rfl<|(?_:At _ _ _ [_,_,_,_,_,_,_,_,_,_,_,_,_] _ _);refine jA 3<|Ka ⟨rfl,?_⟩;show At _ _ _ _ _ _;refine jA 9<|Eg rfl (by decide:2<=Ab) ⟨rfl,Aa rfl ?_⟩;refine(?_:At _ _ _ [_,_,_,_,_,_,_,_,_,_,_,_,_] _ _);refine jC 5<|iQ pr hr λZ1 g1=>?_;have⟨N1,G1⟩:=N.grow g1;refine jC 4<|bp N1 ol cl hl<|jA 1<|Ka ⟨rfl,Aa rfl ?_⟩;refine(?_:At _ _ _ [_,_,_,_,_,_,_,_,_,_,_,_,_] _ _);refine jC 5<|bp N1 orr cr hr<|jA 1<|Ka ⟨rfl,?_⟩;show At _ _ _ _ _ _;exact jR 1<|q rows Z1 t N1 G1 d
  ·have en:Nw l r=some (x,u):=by unfold Nw;exact rr e1<|rr e2 rfl
   exact eg (Ub:=[_,_,_,_,_,_,_,_,_,_,_,_,_]) rfl (kN en hx λv fr Z' h=>h)
 ·have en:Nw l r=some (x,u):=by unfold Nw;exact rr e1 rfl
  exact eg (Ub:=[_,_,_,_,_,_,_,_,_,_,_,_,_]) rfl (kN en hx λv fr Z' h=>h)
end
structure Xr where
 (sort:Nat) (name:Tx) (opt:Bool) (Ed:Nat)
structure Mf where
 (root:Nat) (steps:List Xr)
set_option genCtorIdx false in
inductive ob where
 |gc (p:Mf) (word:Tx) (qc:Nat)
 |isin (p:Mf) (k:Tx)
 |bang (p:Mf)
 |less (a b:Int)
 |sum (a b:Int)
 |lit (b:Bool)
 |same (p:Mf) (k:Int) (eq:Bool)
 |not (c:ob)
 |par (c:ob)
 |nul (c d:ob)
 |and (c d:ob)
 |or (c d:ob)
 |set (k:Nat) (c:ob)
noncomputable def fv(xr:Nd×Bool)(s:Xr):Nd×Bool:=
 let run:=xr.2||s.opt
 let y:=if s.sort=109 then .mem s.name xr.1 s.opt else if s.sort=99 then .call xr.1 s.opt else .idx xr.1 (if s.sort=105 then .str s.name else .name 0 s.name) s.opt;let y:=if s.Ed=1 then .wrap 1 y else y
 if s.Ed=2 then(.wrap 0 (if run=true then .wrap 2 y else y),false)else(y,run)
noncomputable def NM(r:Nat):Nd:= .name r [119+r]
noncomputable def La(p:Mf):Nd:=let xr:=p.steps.foldl fv (NM p.root,false);if xr.2=true then .wrap 2 xr.1 else xr.1
noncomputable abbrev EA:Tx:=[116,121,112,101,111,102]
noncomputable def Zd(k:Nat):Tx:=if k%4=0 then[61,61,61]else if k%4=1 then[33,61,61]else if k%4=2 then[61,61]else[33,61]
noncomputable def Re(p:Mf)(held:Bool):Nd:=if held=true then .wrap 0 (.Mk EA (La p))else .Mk EA (La p)
noncomputable def Qb:ob->Nd
 | .gc p u qc=>let l:=Re p (decide (qc/16=1));let r:=if qc/8%2=0 then Nd.str u else .Ti u;if qc/4%2=1 then .bin (Zd qc) r l else .bin (Zd qc) l r
 | .isin p k=> .bin [105,110] (.str k) (La p)| .bang p=> .wrap 1 (La p)| .same p k e=> .bin (if e=true then[61,61,61]else[33,61,61]) (La p) (.num k)| .less a b=> .bin [60] (.num a) (.num b)| .sum a b=> .bin [43] (.num a) (.num b)| .lit b=> .lit b| .not c=> .Mk [33] (Qb c)| .par c=> .wrap 0 (Qb c)| .nul c d=> .log [63,63] (Qb c) (Qb d)| .and c d=> .log [38,38] (Qb c) (Qb d)| .or c d=> .log [124,124] (Qb c) (Qb d)| .set k c=> .yn (La ⟨k,[]⟩) (Qb c)
noncomputable def Nj(key:Tx)(p:Mf):Bool:=Va key (La p)
noncomputable def Xc(key:Tx):ob->Bool->Bool
 | .gc p u qc,yes=> !Nj key p||(yes==(decide (u=Hd)==decide (qc%2=0)))
 | .isin p _,yes=> !Nj key p|| !yes
 | .bang p,yes=> !Nj key p|| !yes
 | .not c,yes=>Xc key c (!yes)| .par c,yes=>Xc key c yes| .set k c,yes=>if k=2 then Xc key c yes else true
 | .and a c,true=>Xc key a true&&Xc key c true| .and a c,false=>Xc key a false||(Xc key a true&&Xc key c false)
 | .or a c,false=>Xc key a false&&Xc key c false| .or a c,true=>Xc key a true||(Xc key a false&&Xc key c true)
 |_,_=>true
def FJ(key:Tx)(p:Mf):Prop:=mC key (La p)
def ds(key:Tx):ob->Prop| .gc p _ qc=>FJ key p| .isin p k=>FJ key p| .bang p=>FJ key p/\Ic (La p)<=900| .same p _ _=>FJ key p/\Va key (La p)=false| .not c=>ds key c| .par c=>ds key c| .nul _ _=>True| .and c d=>ds key c/\ds key d| .or c d=>ds key c/\ds key d| .set k c=>Ic (Qb c)<=900/\((k=2/\ds key c)\/(k=1/\key=[115,49,46,97]))|_=>True
noncomputable def fh:ob->Nat| .not c=>fh c+1| .par c=>fh c| .and c d=>max (fh c) (fh d)+1| .or c d=>max (fh c) (fh d)+1| .nul c d=>1| .set _ c=>fh c+1|_=>0
section
variable{g:G}
theorem gp{r:Nd}{neg:Bool}(hs:(neg=false/\(s=[61,61,61]\/s=[61,61]))\/(neg=true/\(s=[33,61,61]\/s=[33,61])))(N:NS g use W r0 rows Z)(hr:Lb use cnt (.bin s l r) v)(ok:Hx g.key l r)(d:PD rows t (wb W b))(q:Id g use W r0 rows Z (b&&Pd g.key l r (yes !=neg)) Q):KW w (n+9) 622 [.ref g.ai,v,.str g.key,.int t,.bool yes] Z Q:=by
 refine(Ja (TN _) rfl ?_).call;refine xb hr λt1 d1 lv rv ez tz=>?_;clear hr;subst ez;refine kA tz λhl hr=>?_;refine jA 2<|eg (Ub:=[_,_,_,_,_,_,_,_,_]) rfl ?_;have go:∀{y:Bool}{sv:AV},y=(yes !=neg)->KW w (n+8) 615 [.ref g.ai,lv,rv,sv,.str g.key,.int t,.bool y] Z λv Z'=>Q v Z':=λe=>au N hl hr ok d (e▸q);have e0:yes=(yes !=false):=by cases yes<;>rfl
 have e1:(!yes)=(yes !=true):=by cases yes<;>rfl
 rcases hs with⟨rfl,rfl|rfl⟩|⟨rfl,rfl|rfl⟩
 ·exact jA 14<|Hh rfl<|(go e0).mono λv Z' z=>na z
 ·exact jA 18<|Hh rfl<|(go e0).mono λv Z' z=>na z
 ·exact jA 22<|PG rfl<|Hh rfl<|(go e1).mono λv Z' z=>na z
 ·exact jA 26<|PG rfl<|Hh rfl<|(go e1).mono λv Z' z=>na z
theorem EI{k:Tx}{r:Nd}(N:NS g use W r0 rows Z)(hr:Lb use cnt (.bin [105,110] (.str k) r) v)(o:mC g.key r)(d:PD rows t (wb W b))(q:Id g use W r0 rows Z (b&& !(Va g.key r&&yes)) Q):KW w (n+9) 622 [.ref g.ai,v,.str g.key,.int t,.bool yes] Z Q:=by refine(Ja (TN _) rfl ?_).call;refine xb hr λt1 d1 lv rv ez tz=>?_;subst ez;refine kA tz λhl hr=>?_;exact jA 2<|eg (Ub:=[_,_,_,_,_,_,_,_,_]) rfl<|jC 17<|Ii hl<|jC 16<|(Hi (n:=n+1) (ts:= .Hk 5 [.str k]) N o.sz hr o.t o.h (.inr (.inr rfl)) d q).mono λv Z' z=>na z
theorem gx{a:Int}{r:Nd}(hs:s=[60]\/s=[43])(N:NS g use W r0 rows Z)(hr:Lb use cnt (.bin s (.num a) r) v)(d:PD rows t (wb W b))(q:Id g use W r0 rows Z b Q):KW w (n+9) 622 [.ref g.ai,v,.str g.key,.int t,.bool yes] Z Q:=by
 refine(Ja (TN _) rfl ?_).call;refine xb hr λt1 d1 lv rv ez tz=>?_;clear hr;subst ez;refine kA tz λhl hr=>?_;clear tz;have q':=q rows Z t N Go.refl d;refine jA 2<|eg (Ub:=[_,_,_,_,_,_,_,_,_]) rfl ?_;rcases hs with rfl|rfl
 ·exact jC 17<|Ii hl<|jR 10<|q'
 ·exact jC 17<|Ii hl<|jR 10<|q'
end
theorem Jt{p:Mf}{r:Nd}(hr:r= .str u\/r= .Ti u):Nw (Re p held) r=some (La p,u)/\Nw r (Re p held)=some (La p,u):=by cases held<;>rcases hr with rfl|rfl<;>exact⟨rfl,rfl⟩
theorem jo{key:Tx}(hk:key≠[])(hx:(∃k,x= .num k)\/(∃b,x= .lit b)):mC key x:=by
 rcases hx with⟨k,rfl⟩|⟨b,rfl⟩
 ·exact⟨(by decide:2<=1000),i4 hk,i4 hk⟩
 ·exact⟨(by decide:1<=1000),i4 hk,i4 hk⟩
theorem XE(x:Nd)(k:Int):LN x (.num k)=none:=by
 unfold LN;rcases Qu (Hc (.num k)) (Hc x)with⟨s,y,e⟩|⟨_,e⟩
 ·refine rr e ?_;show(if s=_ then _ else none)=_;split<;>rfl
 ·exact e
theorem NB(x:Nd)(k:Int):Nw x (.num k)=none:=by unfold Nw;rw[XE];rfl
section
variable{g:G}
noncomputable abbrev OP(g:G)(v:AV)(t:Int)(yes:Bool):Fr:=[some (.ref g.ai),some v,some (.str g.key),some (.int t),some (.bool yes)]
noncomputable abbrev kI:List C:=[(.asg 3 (.call 596 [V0,V1,(.tup [I1]),V2,V3,V4])),(.za (.cmp 0 (.attr V1 0) I8) [(.ret .bad)] []),(.ret V3)]
theorem Sw(N:NS g use W r0 rows Z)(r:Lb use cnt y v)(hk:decide (y.kind=8)=false)(o:mC g.key y)(d:PD rows t (wb W b))(q:Id g use W r0 rows Z (b&& !(Va g.key y&&yes)) Q):At (KW w (n+7)) (cS kI .fin) [] (OP g v t yes) Z (λfl _ Z'=>Q (xf fl) Z'):=by refine jC 7<|Hi (ts:= .Hk 1 []) N o.sz r o.t o.h (.inl rfl) d λBa Z' t' N' G' d'=>?_;refine Vd (Lb.node r) λa ks f tt dd ez=>?_;clear r;subst ez;exact jA 4<|Dd (gg hk)<|jR 1<|q Ba Z' t' N' G' d'
noncomputable abbrev Uw:List C:=(.za (.and (.cmp 0 (.attr V1 0) (I 21)) (.cmp 0 (.attr V1 1) (.lit (.str [33])))) [(.ret (.call 643 [V0,(.idx (.attr V1 2) I0),V2,V3,(.not V4)]))] [])::(.za (.cmp 0 (.attr V1 0) (I 23)) [(.ret (.call 622 [V0,V1,V2,V3,V4]))] [])::(.za (.cmp 0 (.attr V1 0) (I 24)) [(.ret (.call 629 [V0,V1,V2,V3,V4]))] [])::(.za (.or (.cmp 0 (.attr V1 0) (I 18)) (.cmp 0 (.attr V1 0) (I 20))) [(.asg 3 .bad)] [])::(.za (.and (.cmp 0 (.attr V1 0) (I 25)) (.cmp 0 (.attr V1 1) (.lit (.str [61])))) [(.asg 3 (.call 636 [V0,V1,V2,V3,V4]))] [])::kI
def jd(w:World)(g:G)(use:List (Int×AV))(cnt:Int)(W:List Int)(r0:List AV)(c:ob):Prop:=
 ∀(n:Nat)(Z:AH)(Q:AV->AH->Prop)(rows:List AV)(x:Nd)(v:AV)(yes b:Bool)(t:Int),12+2*fh c<=n->NS g use W r0 rows Z->Hc x=Hc (Qb c)->Lb use cnt x v->PD rows t (wb W b)->
  Id g use W r0 rows Z (b&&Xc g.key c yes) Q->KW w n 643 [.ref g.ai,v,.str g.key,.int t,.bool yes] Z Q
theorem He{c:ob}(h:∀(n:Nat)(Z:AH)(Q:AV->AH->Prop)(rows:List AV)(v:AV)(yes b:Bool)(t:Int),11+2*fh c<=n->NS g use W r0 rows Z->Lb use cnt (Hc (Qb c)) v->PD rows t (wb W b)->Id g use W r0 rows Z (b&&Xc g.key c yes) Q->At (KW w n) (cS Uw .fin) [] (OP g v t yes) Z (λfl _ Z'=>Q (xf fl) Z')):jd w g use cnt W r0 c:=by intro n Z Q rows x v yes b t hn N hx r d q;obtain⟨m,rfl⟩:∃m,n=m+1:=⟨n-1,((P1 (Fb [_,_] 1178648358711985952 tO hn)).symm)⟩;refine(Ja (jX _) rfl ?_).call;refine jC 1<|(Dj (n:=0) r λv' r'=>?_).up (Fb [_,_] 2154285738552454987908896 tO hn);replace r':=hx▸r';exact sB (h m Z Q rows v' yes b t (Fb [_,_] 9040676214807379228319016150784 tO hn) N r' d q)
theorem qh{r:Nd}(r:Lb use cnt (.bin s l r) v)(h:KW w n 622 [.ref g.ai,v,.str g.key,.int t,.bool yes] Z Q):At (KW w n) (cS Uw .fin) [] (OP g v t yes) Z (λfl _ Z'=>Q (xf fl) Z'):=by refine xb r λt1 d1 lv rv ez tz=>?_;clear r;subst ez;refine kA tz λhl hr=>?_;exact jC 13<|h.mono λv Z' z=>na z
theorem cv{r:Nd}(r:Lb use cnt (.log s l r) v)(h:KW w n 629 [.ref g.ai,v,.str g.key,.int t,.bool yes] Z Q):At (KW w n) (cS Uw .fin) [] (OP g v t yes) Z (λfl _ Z'=>Q (xf fl) Z'):=by refine xb r λt1 d1 lv rv ez tz=>?_;clear r;subst ez;refine kA tz λhl hr=>?_;clear tz;exact jC 17<|h.mono λv Z' z=>na z
theorem tq(hn:7<=n)(N:NS g use W r0 rows Z)(r:Lb use cnt y v)(hy:(∃x,y= .wrap 1 x)\/∃b,y= .lit b)(o:mC g.key y)(d:PD rows t (wb W b))(q:Id g use W r0 rows Z (b&& !(Va g.key y&&yes)) Q):At (KW w n) (cS Uw .fin) [] (OP g v t yes) Z (λfl _ Z'=>Q (xf fl) Z'):=by
 obtain⟨m,rfl⟩:∃m,n=m+7:=⟨n-7,((P1 ‹_›).symm)⟩;have hk:(decide (y.kind=8)=false/\decide (y.kind=21)=false/\decide (y.kind=23)=false)/\decide (y.kind=24)=false/\decide (y.kind=18)=false/\decide (y.kind=20)=false/\decide (y.kind=25)=false:=by
  rcases hy with⟨x,rfl⟩|⟨b,rfl⟩
  ·exact(mr (sf rfl rfl rfl) rfl rfl rfl rfl)
  ·cases b<;>exact(mr (sf rfl rfl rfl) rfl rfl rfl rfl)
 have fin:=Sw (w:=w) (n:=m) N r hk.1.1 o d q;refine Vd (Lb.node r) λa ks f tt dd ez=>?_;clear r;subst ez;exact jA 3<|Dd (gg hk.1.2.1)<|jA 3<|Dd (gg hk.1.2.2)<|jA 3<|Dd (gg hk.2.1)<|jA 3<|Dd (gg hk.2.2.1)<|jA 3<|Dd (gg hk.2.2.2.1)<|jA 3<|Dd (gg hk.2.2.2.2) fin
theorem uv(qc:Nat):(decide (qc%2=1)=false/\(Zd qc=[61,61,61]\/Zd qc=[61,61]))\/decide (qc%2=1)=true/\(Zd qc=[33,61,61]\/Zd qc=[33,61]):=by
 unfold Zd;by_cases h:qc%4=0
 ·exact rr (X0 h)<| .inl ⟨D1 (by lia),.inl rfl⟩
 refine rr (Y0 h) ?_;by_cases h1:qc%4=1
 ·exact rr (X0 h1)<| .inr ⟨Y2 (by lia),.inl rfl⟩
 refine rr (Y0 h1) ?_;by_cases h2:qc%4=2
 ·exact rr (X0 h2)<| .inl ⟨D1 (by lia),.inr rfl⟩
 exact rr (Y0 h2)<| .inr ⟨Y2 (by lia),.inr rfl⟩
theorem Pw{p:Mf}(ok:FJ g.key p):jd w g use cnt W r0 (.gc p u qc):=by
 refine He λn Z Q rows v yes b t hn N r d q=>?_;have hn:9<=n:=(A0 (D0 _ _) ‹_›);obtain⟨m,rfl⟩:∃m,n=m+9:=⟨n-9,((P1 ‹_›).symm)⟩;have go:∀{l r':Nd},Nw l r'=some (La p,u)->Lb use cnt (.bin (Zd qc) l r') v->At (KW w (m+9)) (cS Uw .fin) [] (OP g v t yes) Z (λfl _ Z'=>Q (xf fl) Z'):=by
  intro l r' he hr;have pR:Hx g.key l r':=⟨λx u' e=>by replace e:=he▸e;cases e;exact ok,λe=>by replace e:=he▸e;cases e⟩;refine qh hr (gp (uv qc) N hr pR d ?_);have e:Pd g.key l r' (yes !=decide (qc%2=1))=Xc g.key (.gc p u qc) yes:=by
   unfold Pd;refine rr he ?_;show(!(Va g.key (La p)&&((yes !=decide (qc%2=1)) !=decide (u=Hd))))=(!Va g.key (La p)||(yes==(decide (u=Hd)==decide (qc%2=0))));have h2:decide (qc%2=0)= !decide (qc%2=1):=by
    by_cases h:qc%2=1
    ·exact rr (Y2 h)<|D1 (Nat.ne_of_gt (Fb [_] 15668580713249 tO h))
    ·exact rr (D1 h)<|Y2 (by lia)
   refine rr h2 ?_;cases Va g.key (La p)<;>cases yes<;>cases decide (qc%2=1)<;>cases decide (u=Hd)<;>rfl
  exact rr e q
 have r:Lb use cnt (Hc (if qc/4%2=1 then Nd.bin (Zd qc) (if qc/8%2=0 then .str u else .Ti u) (Re p (decide (qc/16=1)))else .bin (Zd qc) (Re p (decide (qc/16=1))) (if qc/8%2=0 then .str u else .Ti u))) v:=r;have hr:(if qc/8%2=0 then Nd.str u else .Ti u)= .str u\/(if qc/8%2=0 then Nd.str u else .Ti u)= .Ti u:=by
  split
  ·exact .inl rfl
  ·exact .inr rfl
 have e:=Jt (p:=p) (held:=decide (qc/16=1)) hr;by_cases h:qc/4%2=1
 ·replace r:=X0 h▸r;exact go e.2 r
 ·replace r:=Y0 h▸r;exact go e.1 r
theorem BD{p:Mf}{k:Tx}(ok:FJ g.key p):jd w g use cnt W r0 (.isin p k):=by
 refine He λn Z Q rows v yes b t hn N r d q=>?_;obtain⟨m,rfl⟩:∃m,n=m+9:=⟨n-9,((P1 (Fb [_,_] 1178639562618971936 tO hn)).symm)⟩;refine qh r (EI N r ok d ?_);have e:(!(Va g.key (La p)&&yes))=Xc g.key (.isin p k) yes:=by show _=(!Va g.key (La p)|| !yes);cases Va g.key (La p)<;>cases yes<;>rfl
 exact rr e q
theorem CD{p:Mf}(ok:FJ g.key p/\Ic (La p)<=900):jd w g use cnt W r0 (.bang p):=by
 refine He λn Z Q rows v yes b t hn N r d q=>?_;have o:mC g.key (.wrap 1 (La p)):=⟨A0 (J4 ok.2) (N0 rfl),ok.1.t,ok.1.h⟩;refine tq (y:= .wrap 1 (La p)) ((A0 (D0 _ _) ‹_›)) N r (.inl ⟨_,rfl⟩) o d ?_;have e:(!(Va g.key (La p)&&yes))=Xc g.key (.bang p) yes:=by show _=(!Va g.key (La p)|| !yes);cases Va g.key (La p)<;>cases yes<;>rfl
 show Id g use W r0 rows Z (b&& !(Va g.key (La p)&&yes)) Q;exact rr e q
theorem Qw{a:Int}{cc:ob}(hs:s=[60]\/s=[43])(hc:Qb cc= .bin s (.num a) (.num c))(hm:∀yes,Xc g.key cc yes=true):jd w g use cnt W r0 cc:=by refine He λn Z Q rows v yes b t hn N r d q=>?_;obtain⟨m,rfl⟩:∃m,n=m+9:=⟨n-9,((P1 (Fb [_,_] 1178639562618971936 tO hn)).symm)⟩;rw[hc]at r;refine qh r (gx hs N r d ?_);rw[hm,T4]at q;exact q
theorem AD{p:Mf}{k:Int}{e:Bool}(hk:g.key≠[])(ok:FJ g.key p/\Va g.key (La p)=false):jd w g use cnt W r0 (.same p k e):=by
 refine He λn Z Q rows v yes b t hn N r d q=>?_;obtain⟨m,rfl⟩:∃m,n=m+9:=⟨n-9,((P1 (Fb [_,_] 1178639562618971936 tO hn)).symm)⟩;have en:=NB (La p) k;have pR:Hx g.key (La p) (.num k):=⟨λx u h=>by(rw[en]at h;cases h),λ_=>(mr (.inl ⟨k,rfl⟩) ok.1 ok.2 (jo hk (.inl ⟨k,rfl⟩)) rfl)⟩;have e2:∀y,Pd g.key (La p) (.num k) y=true:=λy=>by unfold Pd;rw[en]
 have q':∀y,Id g use W r0 rows Z (b&&Pd g.key (La p) (.num k) y) Q:=λy=>by rw[e2];exact q
 cases e
 ·exact qh r (gp (neg:=true) (.inr ⟨rfl,.inl rfl⟩) N r pR d (q' _))
 ·exact qh r (gp (neg:=false) (.inl ⟨rfl,.inl rfl⟩) N r pR d (q' _))
theorem jI{l:Bool}(hk:g.key≠[]):jd w g use cnt W r0 (.lit l):=
 He λn Z Q rows v yes b t hn N r d q=>tq (y:= .lit l) ((A0 (D0 _ _) ‹_›)) N r (.inr ⟨_,rfl⟩) (jo hk (.inr ⟨_,rfl⟩)) d q
theorem iI{c:ob}(ih:jd w g use cnt W r0 c):jd w g use cnt W r0 (.not c):=by refine He λn Z Q rows v yes b t hn N r d q=>?_;refine Qa r λt1 d1 xv ez hx=>?_;clear r;subst ez;have hn:11+2*(fh c+1)<=n:=hn;have:=ih n Z Q rows _ xv (!yes) b t (Fb [_,_] 5352968894618020905647877809920 tO hn) N rfl hx d q;exact jC 17<|this.mono λv Z' z=>na z
theorem dI{c:ob}(ih:jd w g use cnt W r0 c):jd w g use cnt W r0 (.par c):=
 λn Z Q rows x v yes b t hn N hx r d q=>ih n Z Q rows x v yes b t hn N hx r d q
theorem gI{c e:ob}:jd w g use cnt W r0 (.nul c e):=by refine He λn Z Q rows v yes b t hn N r d q=>?_;obtain⟨m,rfl⟩:∃m,n=m+1:=⟨n-1,((P1 (Fb [_,_] 1178639562618963744 tO hn)).symm)⟩;refine cv r ?_;refine xb r λt1 d1 lv rv ez tz=>?_;clear r;subst ez;refine kA tz λhl hr=>?_;clear tz;refine(Ja (YR _) rfl ?_).call;refine jR 5 ?_;exact q rows Z t N Go.refl (by rw[show Xc g.key (.nul c e) yes=true from rfl,T4];exact d)
theorem Rw{a c cc:ob}{on:Bool}(hs:(on=true/\s=[38,38])\/(on=false/\s=[124,124]))(hc:Qb cc= .log s (Qb a) (Qb c))(hdp:fh cc=max (fh a) (fh c)+1)(hm:∀yes,Xc g.key cc yes=if yes=on then Xc g.key a on&&Xc g.key c yes else Xc g.key a (!on)||(Xc g.key a on&&Xc g.key c yes))(aR:jd w g use cnt W r0 a)(Ik:jd w g use cnt W r0 c):jd w g use cnt W r0 cc:=by
 refine He λn Z Q rows v yes b t hn N r d q=>?_;replace r:=hc▸r;replace hn:=hdp▸hn;obtain⟨m,rfl⟩:∃m,n=m+1:=⟨n-1,((P1 (Fb [_,_] 67358311703208439842592 tO hn)).symm)⟩;refine cv r ?_;refine xb r λt1 d1 lv rv ez tz=>?_;clear r;subst ez;refine kA tz λhl hr=>?_;clear tz;refine(Ja (YR _) rfl ?_).call;have e63:s≠[63,63]:=by rcases hs with⟨_,rfl⟩|⟨_,rfl⟩<;>decide
 have eon:decide (s=[38,38])=on:=by rcases hs with⟨rfl,rfl⟩|⟨rfl,rfl⟩<;>rfl
 refine jA 3<|Dd (LA e63)<|jA 2<|eg (Ub:=[_,_,_,_,_,_,_,_,_]) rfl<|jA 3<|aj (C0 some eon)<|jC 9<|aR m Z _ rows _ lv on b t (Jc [_,_,_] 2787614713709417798260944381812291747079936 tO hn (i5 _ _)) N rfl hl d λCv Z1 s1 N1 G1 d1=>jC 1<|Ik m Z1 _ Cv _ rv yes _ s1 (Jc [_,_,_] 2787614713709417798260944381812291747079936 tO hn (Nat.le_max_right _ _)) N1 rfl hr d1 λUj Z2 s2 N2 G2 d2=>jA 3 ?_;have cN:=hm yes;refine Pc rfl (λhy=>?_) λhy=>?_
 ·replace cN:=X0 (eq_of_beq hy)▸cN;refine jR 1<|q Uj Z2 s2 N2 (G1.trans G2) ?_;rw[cN,<-Bool.and_assoc];exact d2
 ·replace cN:=Y0 (ne_of_beq_false hy)▸cN;refine jA 1<|Rb (zn N2)<|jC 6<|aR m Z2 _ Uj _ lv (!on) b t (Jc [_,_,_] 2787614713709417798260944381812291747079936 tO hn (i5 _ _)) N2 rfl hl (d.grow (G1.trans G2).get) λAq Z3 s3 N3 G3 d3=>jC 2<|(eQ (n:=0) N3 d3 (d2.grow G3.get) λvS Z4 s4 N4 G4 d4=>?_).up (Fb [_,_] 70591663817249129977882873632 tO hn);refine na<|q vS Z4 s4 N4 (((G1.trans G2).trans G3).trans G4) ?_;rw[cN,Bool.and_or_distrib_left,<-Bool.and_assoc];exact d4
def Dm(key:Tx):Prop:=key=[115,49]\/key=[115,49,46,97]
theorem Dm.ne{key:Tx}(h:Dm key):key≠[]/\key≠[115,50]/\(decide (0+[115,50,46].length<=key.length)&&PySem.Builtin.Str.subAt ⟨key.toArray⟩ ⟨[115,50,46].toArray⟩ 0)=false:=by rcases h with rfl|rfl<;>exact(sf (N0 rfl) (N0 rfl) rfl)
theorem aI{k:Nat}{c:ob}(hk:Dm g.key)(ok:ds g.key (.set k c))(ih:k=2->jd w g use cnt W r0 c):jd w g use cnt W r0 (.set k c):=by
 refine He λn Z Q rows v yes b t hn N r d q=>?_;have hn:11+2*(fh c+1)<=n:=hn;obtain⟨m,rfl⟩:∃m,n=m+13:=⟨n-13,((P1 (Fb [_,_] 67358311703208439854880 tO hn)).symm)⟩;have hr0:=r;refine xb r λt1 d1 lv rv ez tz=>?_;clear r;subst ez;refine kA tz λhl hr=>?_;clear tz;have key:=hk.ne;have k12:k=1\/k=2:=ok.2.elim (λh=> .inr h.1) λh=> .inl h.1;have tkk:rg (La ⟨k,[]⟩)=[115,48+k]/\Ic (La ⟨k,[]⟩)=2:=by rcases k12 with rfl|rfl<;>exact⟨rfl,rfl⟩
 have opd:mC g.key (.yn (La ⟨k,[]⟩) (Qb c)):=by
  refine⟨?_,?_,i4 key.1⟩
  ·show Ic (La ⟨k,[]⟩)+Ic (Qb c)+1<=1000;have:=ok.1;exact Jc [_,_] 9579091938863193598985773583766924583680 tO tkk.2 this
  ·show rg (La ⟨k,[]⟩)≠g.key;rw[tkk.1];rcases ok.2 with⟨rfl,_⟩|⟨rfl,h2⟩
   ·exact i4 key.2.1
   ·rw[h2];decide
 have fin:∀{Ba:List AV}{Z':AH}{t':Int}{b':Bool},NS g use W r0 Ba Z'->PD Ba t' (wb W b')->Id g use W r0 Ba Z' b' Q->
   At (KW w (m+13)) (cS kI .fin) [] (OP g (.node 25 (.str [61]) [lv,rv] 0 t1 d1) t' yes) Z' (λfl _ Z'=>Q (xf fl) Z'):=λN' d' q'=>
  Sw (w:=w) (n:=m+6) (y:= .yn (La ⟨k,[]⟩) (Qb c)) N' hr0 rfl opd d' (by rw[show Va g.key (.yn (La ⟨k,[]⟩) (Qb c))=false from rfl,Bool.false_and,Bool.not_false,T4];exact q')
 refine jC 33 ?_;refine(Ja (kX _) rfl ?_).call;refine jA 5<|Rb (Ng N)<|jC 0<|(Sh (n:=0) (by rw[tkk.2];decide) hl N.ui ?_).up ((D0 _ _));rw[tkk.1];refine jA 6 ?_;rcases ok.2 with⟨rfl,PS⟩|⟨rfl,jU⟩
 ·exact Dd (LA key.2.1)<|jA 6<|XK (C0 some key.2.2)<|jC 8<|ih rfl (m+12) Z _ rows _ rv yes b t (Fb [_,_] 75041575754622691333609403944493695526656 tO ‹_›) N rfl hr d λCv Z1 s1 N1 G1 d1=>na (show At _ _ _ _ _ _ from sB (fin N1 d1 λUj Z2 s2 N2 G2 d2=>q Uj Z2 s2 N2 (G1.trans G2) d2))
 ·refine Dd (LA (by rw[jU];decide))<|jA 6<|jD (C0 some (?_:_=true)) ?_
  ·rw[jU];rfl
  exact Ua rfl (na (show At _ _ _ _ _ _ from sB (fin N d λUj Z2 s2 N2 G2 d2=>q Uj Z2 s2 N2 G2 (by rw[show Xc g.key (.set 1 c) yes=true from rfl,T4];exact d2))))
theorem Tw(hk:Dm g.key)(c:ob):ds g.key c->jd w g use cnt W r0 c:=by
 have FT:=hk.ne.1;induction c with|gc p u qc=>exact λok=>Pw ok|isin p k=>exact λok=>BD ok|bang p=>exact λok=>CD ok|less a c=>exact λ_=>Qw (.inl rfl) rfl λ_=>rfl|sum a c=>exact λ_=>Qw (.inr rfl) rfl λ_=>rfl|lit l=>exact λ_=>jI FT|same p k e=>exact λok=>AD FT ok|not c ih=>exact λok=>iI (ih ok)|par c ih=>exact λok=>dI (ih ok)|nul c d _ _=>exact λ_=>gI|and a c aR Ik=>exact λok=>Rw (on:=true) (.inl ⟨rfl,rfl⟩) rfl rfl (λyes=>by cases yes<;>rfl) (aR ok.1) (Ik ok.2)|or a c aR Ik=>exact λok=>Rw (on:=false) (.inr ⟨rfl,rfl⟩) rfl rfl (λyes=>by cases yes<;>rfl) (aR ok.1) (Ik ok.2)|set k c ih=>exact λok=>aI hk ok λh=>ih (ok.2.elim (λz=>z.2) λz=>absurd (z.1.symm.trans h) (N0 rfl))
end
section
variable{g:G}
def Gx(w:World)(g:G)(use:List (Int×AV))(W:List Int)(r0:List AV)(sv:AV)(xv:AV)(bit:Bool->Bool):Prop:=
 ∀(n:Nat)(Z:AH)(Q:AV->AH->Prop)(rows:List AV)(a:AV)(ks:List AV)(f tt dd:Int)(yes b:Bool)(t:Int),40<=n->NS g use W r0 rows Z->PD rows t (wb W b)->Id g use W r0 rows Z (b&&bit yes) Q->
  KW w n 655 [.ref g.ai,.node 50 a (sv::ks) f tt dd,xv,.str g.key,.int t,.bool yes] Z Q
theorem mz{s:Nd}{sv:AV}(hs:Lb use cnt s sv)(hx:Lb use cnt x xv)(hk:(Hc s).kind≠4)(ok:Hx g.key s x):Gx w g use W r0 sv xv (Pd g.key s x):=by intro n Z Q rows a ks f tt dd yes b t hn N d q;refine kE (B3 (A0 (by decide:9<=40) hn)) λm ez=>?_;clear hn;subst ez;refine(Ja (XR _) rfl ?_).call;refine jC 4<|Dj hs λv' r'=>?_;refine Vd (Lb.node r') λa' ks' f' t' d' ez=>?_;clear r';subst ez;exact jA 2<|Dd (gg (D1 hk))<|jC 10<|(au N hs hx ok d q).mono λv Z' z=>na z
noncomputable def NN:Nd->Bool| .bin s _ _=>([[61,61,61],[33,61,61],[61,61],[33,61],[60],[62],[60,61],[62,61],[105,110],[105,110,115,116,97,110,99,101,111,102]]:List Tx).any λa=>decide (a=s)| .Mk s _=>decide (s=[33])|_=>false
noncomputable def En(x:Nd):Bool:=NN (Hc x)
theorem KD(hx:Lb use cnt x v)(hk:(∃s l r,Hc x= .bin s l r)\/∃y,Hc x= .Mk [33] y)(q:Q (.bool (En x)) Z):KW w (n+2) 648 [av,v] Z Q:=by
 refine(Ja (iX _) rfl ?_).call;refine jC 1<|Dj hx λv' r'=>?_;unfold En at q;rcases hk with⟨s,l,r,e⟩|⟨y,e⟩
 ·rw[e]at r' q;refine xb r' λt1 d1 lv rv ez tz=>?_;clear r';subst ez;refine kA tz λ_ _=>?_;clear tz;exact jR 9<|q
 ·rw[e]at r' q;refine Qa r' λt1 d1 xv ez _=>?_;clear r';subst ez;exact jR 14<|q
theorem jH{s:Nd}{sv:AV}{c:ob}(hk:Dm g.key)(hs:Lb use cnt s sv)(hx:Lb use cnt (Qb c) xv)(hs4:Hc s= .lit true)(ok:ds g.key c)(hd:fh c<=10)(ht:((∃s l r,Hc (Qb c)= .bin s l r)\/∃y,Hc (Qb c)= .Mk [33] y)/\(En (Qb c)=false->Hx g.key s (Qb c)/\Pd g.key s (Qb c) false=Xc g.key c false)):Gx w g use W r0 sv xv (Xc g.key c):=by
 intro n Z Q rows a ks f tt dd yes b t hn N d q;have hn2:13+2*fh c<=n:=(Jc [_,_] 1329228008415775595178630931516155648 tO hd hn);refine kE (B3 (A0 (by decide:9<=40) hn)) λm ez=>?_;clear hn2;subst ez;refine(Ja (XR _) rfl ?_).call;refine jC 4<|Dj hs λv' r'=>?_;replace r':=hs4▸r';refine Cp r' λt' d' ez=>?_;clear r';subst ez;have go:KW w (m+8) 643 [.ref g.ai,xv,.str g.key,.int t,.bool yes] Z λv Z'=>Q v Z':=Tw hk c ok (m+8) Z Q rows (Qb c) xv yes b t (Jc [_,_] 13962705638286673261518844609327606062059513600 tO hd hn) N rfl hx d q;induction yes with
 |true=>exact jC 10<|go.mono λv Z' z=>na z
 |false=>refine jC 7<|(KD (n:=m+6) hx ht.1 ?_);exact Mp rfl (λhtr=>jC 5<|go.mono λv Z' z=>na z) λhtr=>kA (ht.2 htr) λpR eb=>jC 10<|(au N hs hx pR d (rr eb q)).mono λv Z' z=>na z
abbrev ze:=List (Option (AV×(Bool->Bool)))
noncomputable def uf:Option (AV×(Bool->Bool))->AV|some (v,_)=>v|none=> .none
noncomputable def eN:Option (AV×(Bool->Bool))->Bool->Bool|some (_,f),y=>f y|none,_=>true
noncomputable def Sg(T:ze):Bool:=T.all λo=>eN o false
structure mu(w:World)(g:G)(use:List (Int×AV))(W:List Int)(r0:List AV)(sv:AV)(T:ze):Prop where
 hit:∀v f,some (v,f)∈T->Gx w g use W r0 sv v f
 no:∀v f,some (v,f)∈T->isNone v=false
 len:T.length<=100
noncomputable abbrev pZ(g:G)(a sv:AV)(ks:List AV)(f tt dd:Int)(xs:List AV)(t:Int)(x5:Option AV):Fr:=[some (.ref g.ai),some (.node 50 a (sv::ks) f tt dd),some (.ba xs),some (.str g.key),some (.int t),x5]
theorem yl{sv:AV}(hm:40<=m):∀(T:ze){Z:AH}{S:SQ}{rows:List AV}{b:Bool}{t:Int}{x5:Option AV},mu w g use W r0 sv T->NS g use W r0 rows Z->PD rows t (wb W b)->(∀Ba Z' t' x5',NS g use W r0 Ba Z'->Go g rows Ba Z Z'->PD Ba t' (wb W (b&&Sg T))->S .next (pZ g a sv ks f tt dd je t' x5') Z')->Eb (ye (.ba je) je) (IB (KW w m) 5 (cS [(.za (.cmp 7 V5 (.lit .none)) [(.asg 4 (.call 655 [V0,V1,V5,V3,V4,(.lit (.bool false))]))] [])] .fin)) (T.map uf) (pZ g a sv ks f tt dd je t x5) Z S
 |[],Z,S,rows,b,t,x5,ok,N,d,q=>⟨rfl,q rows Z t x5 N Go.refl (by rw[show Sg []=true from rfl,T4];exact d)⟩|o::T,Z,S,rows,b,t,x5,ok,N,d,q=>by
  have ok':mu w g use W r0 sv T:=⟨λv f h=>ok.hit v f (.tail _ h),λv f h=>ok.no v f (.tail _ h),Nat.le_of_succ_le ok.len⟩;refine⟨rfl,?_⟩;show At _ _ _ _ _ _;induction o with
  |none=>exact jA 3<|Ka (yl hm T ok' N d q)
  |some p=>have hv:=ok.no p.1 p.2 (.head _);refine jA 2<|Iu (C0 (λb=>some !b) hv)<|jC 6<|ok.hit p.1 p.2 (.head _) m Z _ rows a ks f tt dd false b t hm N d λCv Z1 t1 N1 G1 d1=>jA 1<|Ka (yl hm T ok' N1 d1 λBa Z' t' x5' N' G' d'=>q Ba Z' t' x5' N' (G1.trans G') ?_);rw[Bool.and_assoc]at d';exact d'
theorem Zw{sv:AV}{T:ze}(hn:40<=n)(ok:mu w g use W r0 sv T)(N:NS g use W r0 rows Z)(d:PD rows t (wb W b))(q:Id g use W r0 rows Z (b&&Sg T) Q):KW w (n+1) 662 [.ref g.ai,.node 50 a (sv::ks) f tt dd,.ba (T.map uf),.str g.key,.int t] Z Q:=by refine(Ja (hX _) rfl ?_).call;refine jA 1 ?_;refine Ve rfl (by rw[R0];exact xa (A0 ok.len (N0 rfl))) (yl hn T ok N d λBa Z' t' x5' N' G' d'=>?_);show At _ _ _ _ _ _;exact jR 1<|q Ba Z' t' N' G' d'
theorem FI{l:List (Int×Bool)}(N:NS g use W r0 rows Z)(hi:Z[oi]? =some (.list (ia (l.map (·.1)))))(hl:l.length<=10)(h0:l≠[])(hd:∀p∈l,PD rows p.1 (wb W p.2))(q:Id g use W r0 rows Z (l.any (·.2)) Q):KW w (n+4) 520 [.ref g.ai,.ref oi] Z Q:=by
 refine(Ja (uX _) rfl ?_).call;refine jA 1<|Rb (zn N)<|jC 1 ?_;have l1:=gs N.W;have em:(l.map λp=>(p.1,wb W p.2)).flatMap (·.2)=l.flatMap λp=>wb W p.2:=List.flatMap_map _ _ _;have e:Li ((l.map λp=>(p.1,wb W p.2)).flatMap (·.2))=wb W (l.any (·.2)):=by have:=N.W.un (l.map (·.2)) (λh=>h0 (List.map_eq_nil_iff.mp h));rw[List.flatMap_map,List.any_map]at this;exact rr em this
 have Om:(l.flatMap λp=>wb W p.2).length<=100*l.length:=Uo (λp=>l1 p.2) l;refine wn (l:=l.map λp=>(p.1,wb W p.2)) N.T N.b (λp hp=>?_) (by rw[em];lia) (λp hp=>?_) (by rw[R0];exact A0 ‹_› (N0 rfl)) N.rlen (λZ' hg=>?_) λBa Z' t' hr xw T' k=>?_
 ·refine Xa (List.mem_map.mp hp) λx hx ez=>?_;clear hp;subst ez;exact hd x hx
 ·refine Xa (List.mem_map.mp hp) λx hx ez=>?_;clear hp;subst ez;exact A0 (l1 x.2) (N0 rfl)
 ·refine rr (Ho (hg.get hi))<|rr List.map_map ?_;rfl
 ·rw[e]at hr xw;have⟨N',G'⟩:=N.next T' k (hr.imp id λh=>⟨_,h⟩);exact na<|q Ba Z' t' N' G' xw
end
def Ei:List AV->ze->Prop|[],[]=>True|c::cs,o::T=>(∃a f t d,c= .node 51 a [uf o] f t d)/\Ei cs T|_,_=>False
noncomputable def Yg(b:Bool)(T:ze)(i:Nat):Option Bool:=match T[i]? with|some (some (_,f))=>some (b&&Sg (T.take i)&&f true)|_=>none
noncomputable def Cf(T:ze):Bool:=T.any λo=>o.isNone
noncomputable def Pe(b:Bool)(T:ze)(low high:Nat):List Bool:=
 (List.range' low (high-low)).filterMap (Yg b T)++if(decide (low=high)||Cf ((T.drop low).take (high-low)))=true then[b&&Sg T]else[]
section
variable{g:G}
theorem Mr{V:AV->AH->Prop}(hf:fr.length=11):∀(cs:List AV)(T:ze)(Ra:List AV),Ei cs T->V (.ba (Ra++T.map uf)) Z->Sa (ye (.ba je) je) (Ku K 0 (cT (.lit (.bool true)) (cX (.idx (.attr lC 2) I0) .ret) .cont) fr) cs Ra Z V
 |[],[],Ra,h,q=>⟨rfl,by rw[List.map_nil,K2]at q;exact q⟩|c::cs,o::T,Ra,⟨⟨a,f,t,d,e⟩,h2⟩,q=>by
  subst e;refine⟨rfl,Aa rfl ?_⟩;exact jA 2<|Ua (Jj hf)<|jR 3<|Mr hf cs T _ h2 (by rw[A3];exact q)
theorem Mt{d k:Nat}(h:k<=n)(h2:n<=1000):Xg n d (.int k)=some k:=by show(if _ then some (min k n)else none)=_;exact rr (X0 ⟨E4 _,Int.ofNat_le.mpr (xa (A0 h h2))⟩)<|rr (Nat.min_eq_left h) rfl
theorem Cy{xs:List AV}{lo hi:AV}{l h:Nat}(e1:Xg xs.length 0 lo=some l)(e2:Xg xs.length xs.length hi=some h)(h1:xs.length<=1000)(h2:l<=h):Wi Z (.ba xs) lo hi=some (.ba ((xs.drop l).take (h-l))):=by show((Xg xs.length 0 lo).bind λl=>(Xg xs.length xs.length hi).bind λh=>if xs.length<=Ab/\l<=h then some (AV.ba ((xs.drop l).take (h-l)))else none)=_;exact rr e1<|rr e2<|X0 ⟨xa h1,h2⟩
theorem OA{xs:List AV}(h:xs.length<=1000)(hi:i<=j)(hj:j<=xs.length):Wi Z (.ba xs) (.int i) (.int j)=some (.ba ((xs.drop i).take (j-i))):=Cy (Mt (A0 hi hj) h) (Mt hj h) h hi
theorem EF{xs:List AV}(h:xs.length<=1000)(hi:i<=xs.length):Wi Z (.ba xs) .none (.int i)=some (.ba (xs.take i)):=Cy rfl (Mt hi h) h (c5 _)
theorem GF{x:AV}{xs:List AV}(h:xs.length<=900):Wi Z (.ba (x::xs)) (.int 1) .none=some (.ba xs):=by have h2:(x::xs).length<=1000:=A0 (J4 h) (N0 rfl);exact(Cy (xs:=x::xs) (lo:= .int (1:Nat)) (Mt (J4 (c5 _)) h2) rfl h2 (J4 (c5 _))).trans<|C0 (λl=>some (AV.ba l)) (List.take_of_length_le (K0 _))
structure Tp(W:List Int)(oi:Nat)(g:G)(rows:List AV)(Z:AH)(l:List (Int×Bool)):Prop where
 at':Z[oi]? =some (.list (ia (l.map (·.1))))
 pd:∀p∈l,PD rows p.1 (wb W p.2)
 r:oi≠g.ri
 x:oi≠g.xi
theorem Tp.go{l:List (Int×Bool)}(o:Tp W oi g rows Z l)(G1:Go g rows Ba Z Z'):Tp W oi g Ba Z' l:=
 ⟨G1.keep.get o.at' o.r o.x,λp hp=>(o.pd p hp).grow G1.get,o.r,o.x⟩
theorem NS.other(N:NS g use W r0 rows Z)(n1:i≠g.ti)(n2:i≠g.ri)(n3:i≠g.xi)(n4:i≠g.ai)(n5:i≠g.ui):NS g use W r0 rows (Z.set i o):=
 match N.T.ti,N.ai with|⟨fs,h1,h2⟩,⟨fa,a1,a2⟩=>⟨⟨(Na fs ((W0 n1).trans h1) h2),(W0 n2).trans N.T.ri,(W0 n3).trans N.T.xi,N.T.keys,N.T.len,N.T.nd⟩,N.b,(W0 n5).trans N.ui,(Na fa ((W0 n4).trans a1) a2),N.ex,N.r0,N.W⟩
theorem NS.sK{l l':List AV}(N:NS g use W r0 rows Z)(h:Z[oi]? =some (.list l))(hr:oi≠g.ri):NS g use W r0 rows (Z.set oi (.list l')):=
 match N.T.ti,N.ai with|⟨fs,h1,_⟩,⟨fa,a1,_⟩=>N.other (Ca h h1 AO.noConfusion) hr (Ca h N.T.xi AO.noConfusion) (Ca h a1 AO.noConfusion) (Ca h N.ui AO.noConfusion)
theorem Go.setB(G1:Go g zq rows Zb Z)(hb:Zb.length<=oi):Go g zq rows Zb (Z.set oi o):=
 ⟨G1.more,⟨by exact rr T3<|G1.keep.len,λi hi h1 h2=>(W0 (i4 (H4 (C4 hi hb)))).trans (G1.keep.at' i hi h1 h2)⟩⟩
theorem Zm{l:List AV}(h:Z[oi]? =some (.list l)):Gb Z (.ref oi)=none/\Ah Z (.ref oi)=1:=⟨by simp only[Gb,h],oj h⟩
theorem tN{l:List AV}(h:Z[oi]? =some (.list l))(hl:l.length<=1000):Mc Z 27 (.ref oi) [v]=some (.none,Z.set oi (.list (l++[v]))):=Qz h (xa hl)
theorem Tp.app{l:List (Int×Bool)}(o:Tp W oi g rows Z l)(d:PD rows t (wb W b)):Tp W oi g rows (Z.set oi (.list (ia (l.map (·.1))++[.int t]))) (l++[(t,b)]):=
 ⟨(E3 (B0.mp o.at').1).trans (by rw[List.map_append,ia,ia,List.map_append];rfl),λp hp=>(D2.mp hp).elim (o.pd p) λhp=>by
  exact rr (J0.mp hp)<|d,o.r,o.x⟩
theorem mu.take{sv:AV}{T:ze}(ok:mu w g use W r0 sv T)(i:Nat):mu w g use W r0 sv (T.take i):=
 ⟨λv f h=>ok.hit v f (List.mem_of_mem_take h),λv f h=>ok.no v f (List.mem_of_mem_take h),A0 (List.length_take_le' _ _) ok.len⟩
noncomputable abbrev uH(g:G)(T:ze)(oi:Nat)(nd ex:AV)(t:Int)(lo hi:AV)(x9 Ep:Option AV):Fr:=[some (.ref g.ai),some nd,some ex,some (.str g.key),some (.int t),some lo,some hi,some (.ba (T.map uf)),some (.ref oi),x9,Ep]
theorem Ol{sv:AV}{T:ze}{lo hi:AV}(hm:42<=m+1)(ok:mu w g use W r0 sv T)(We:∀Z',ye vi je Z')(hb:Zb.length<=oi)(d:PD zq t (wb W b)):∀(is:List Nat){Z:AH}{S:SQ}{rows:List AV}{l:List (Int×Bool)}{x9 Ep:Option AV},(∀i∈is,i<T.length)->l.length+is.length<=100->NS g use W r0 rows Z->Go g zq rows Zb Z->Tp W oi g rows Z l->(∀Ba Z' l' tR ME,NS g use W r0 Ba Z'->Go g zq Ba Zb Z'->Tp W oi g Ba Z' l'->l'.map (·.2)=l.map (·.2)++is.filterMap (Yg b T)->l'.length<=l.length+is.length->S .next (uH g T oi (.node 50 a (sv::ks) f tt dd) ex t lo hi tR ME) Z')->Eb (ye vi je) (IB (KW w (m+1)) 9 (cS [(.za (.cmp 7 (.idx V7 V9) (.lit .none)) [(.asg 10 (.call 662 [V0,V1,(.slc V7 (.lit .none) V9),V3,V4])),(.exp (.Dc V8 27 [(.call 655 [V0,V1,(.idx V7 V9),V3,Vr,(.lit (.bool true))])]))] [])] .fin)) (is.map λi=> .int (i:Nat)) (uH g T oi (.node 50 a (sv::ks) f tt dd) ex t lo hi x9 Ep) Z S
 |[],Z,S,rows,l,x9,Ep,kH,hl,N,G0,o,q=>⟨We _,q rows Z l x9 Ep N G0 o (K2 _).symm (K0 _)⟩|i::is,Z,S,rows,l,x9,Ep,kH,hl,N,G0,o,q=>by
  have hl:l.length+(is.length+1)<=100:=hl;refine⟨We _,?_⟩;show At _ _ _ _ _ _;have hiT:=kH i (.head _);have Om:=ok.len;have BJ:∀j∈is,j<T.length:=λj hj=>kH j (.tail _ hj);have mR:(T.map uf).length<=1000:=by rw[R0];exact A0 ‹_› (N0 rfl)
  obtain⟨p,hp⟩:∃p,T[i]? =some p:=⟨T[i],z3 hiT⟩;have mL:Oq (T.map uf) (i:Int)=some (uf p):=by refine rr (qf (xa (Jc [_,_] 998408315488329148593811515392 tO hiT Om)))<|rr P4<|rr hp ?_;rfl
  refine jA 2<|qa mL<|jA 1 ?_;induction p with
  |none=>
   have e:Yg b T i=none:=by unfold Yg;exact rr hp rfl
   refine jA 1 ?_;refine Ka (Ol hm ok We hb d is BJ ((Nat.le_of_lt ‹_›)) N G0 o λBa Z' l' tR ME N' G' o' qz gy=>q Ba Z' l' tR ME N' G' o' ?_ (by show _<=l.length+(is.length+1);exact Nat.le_succ_of_le ‹_›));exact rr qz<|rr (List.filterMap_cons_none e) rfl
  |some p=>
   have e:Yg b T i=some (b&&Sg (T.take i)&&p.2 true):=by unfold Yg;exact rr hp rfl
   have eU:some (p.1,p.2)∈T:=A4 hp;have hlL:(ia (l.map (·.1))).length<=1000:=by rw[Fg,R0];exact A0 (Q1 _ _) (A0 ‹_› (N0 rfl))
   refine Iu (C0 (λb=>some !b) (ok.no p.1 p.2 eU))<|jA 5 ?_;refine gr (EF mR (by rw[R0];exact Nat.le_of_lt ‹_›))<|rq List.map_take<|jC 2<|Zw (Fb [_] 9252581731067425904267223053148992 tO hm) (ok.take i) N (d.grow G0.get) λCv Z1 t1 N1 G1 d1=>?_;have o1:=o.go G1;refine jA 2 ?_;refine Zi (Zm o1.at').1 ⟨(Zm o1.at').2,by decide⟩<|jA 4<|qa mL<|jC 3<|ok.hit p.1 p.2 eU (m+1) Z1 _ Cv a ks f tt dd true _ t1 ((A0 (D0 _ _) ‹_›)) N1 d1 λUj Z2 t2 N2 G2 d2=>?_;have o2:=o1.go G2;refine Fh rfl (tN o2.at' hlL)<|jA 1<|Ka (Ol (l:=l++[(t2,(b&&Sg (T.take i))&&p.2 true)]) hm ok We hb d is BJ (by refine rr A1 ?_;show _+1+_<=_;exact Fb [_,_] 134005111739078662601141943661503734528 tO hl) (N2.sK o2.at' o2.r) (((G0.trans G1).trans G2).setB hb) (o2.app d2) λBa Z' l' tR ME N' G' o' qz gy=>q Ba Z' l' tR ME N' G' o' ?_ ?_)
   ·rw[qz,List.filterMap_cons_some e,List.map_append,A3];rfl
   ·replace gy:=A1▸gy;have gy:l'.length<=l.length+1+is.length:=gy;show _<=l.length+(is.length+1);exact Fb [_,_,_] 19881686319246558177058816 tO gy
theorem Pq{V:AV->AH->Prop}(hf:fr.length=11):∀(T:ze)(Ra:List AV),(∀v f,some (v,f)∈T->isNone v=false)->V (.ba (Ra++T.map λo=> .bool o.isNone)) Z->Sa (ye (.ba je) je) (Ku K 0 (cT (.lit (.bool true)) (cX (.cmp 6 lC (.lit .none)) .ret) .cont) fr) (T.map uf) Ra Z V
 |[],Ra,h,q=>⟨rfl,by rw[List.map_nil,K2]at q;exact q⟩|o::T,Ra,h,q=>by
  refine⟨rfl,Aa rfl ?_⟩;have e2:isNone (uf o)=o.isNone:=match o,h with|none,_=>rfl|some p,h=>h p.1 p.2 (.head _)
  exact jA 2<|Ua (Jj hf)<|jA 1<|aj (C0 some e2)<|na<|Pq hf T _ (λv f hv=>h v f (.tail _ hv)) (by rw[A3];exact q)
theorem zm:∀T:ze,XD (T.map λo=>AV.bool o.isNone)=some (Cf T)
 |[]=>rfl|o::T=>by
  show Option.map _ (XD (T.map λo=>AV.bool o.isNone))=_;refine rr (zm T) ?_;rfl
theorem UA:∀{cs:List AV}{T:ze},Ei cs T->cs.length=T.length|[],[],_=>rfl|c::cs,o::T,h=>C0 (· +1) (UA h.2)
theorem pQ{sv:AV}{T:ze}{low:Nat}(hn:45<=n)(ok:mu w g use W r0 sv T)(hT:T.length<=8)(gN:Ei cs T)(h1:low<=high)(h2:high<=T.length)(N:NS g use W r0 rows Z)(d:PD rows t (wb W b))(pg:Pe b T low high≠[])(q:Id g use W r0 rows Z ((Pe b T low high).any id) Q):KW w n 667 [.ref g.ai,.node 50 a (sv::cs) f tt dd,.tup [.int low,.int high],.str g.key,.int t] Z Q:=by
 obtain⟨m,rfl⟩:∃m,n=m+4+1:=B3 (A0 (by decide:5<=45) hn);refine(Ja (gX _) rfl ?_).call;have csl:=UA gN;have mR:(T.map uf).length=T.length:=R0 _;refine jA 1<|eg (Ub:=[_,_,_,_,_,_,_,_,_,_,_]) rfl<|jA 4<|gr (GF (Jc [_,_] 9922949053483974584692795392 tO hT csl))<|Wd rfl (xa (Jc [_,_] 9922949053483974584696072192 tO hT csl)) (Mr rfl cs T [] gN ?_);rw[List.nil_append];refine jA 1<|Eo rfl rfl<|jA 3 ?_;have hit:∀Z':AH,sa Z' (.Gk low high)=some ((List.range' low (high-low)).map λi=> .int (i:Nat)):=λZ'=>by
  show(if _ then some ((List.range (((high:Int)-low).toNat)).map _)else none)=_;rw[X0 ⟨xa (by lia),xa ((A0 ‹_› (A0 ‹_› (N0 rfl))))⟩,show((high:Int)-(low:Int)).toNat=high-low by lia,List.range'_eq_map_range,List.map_map];rfl
 refine Ef rfl (v:= .Gk low high) (X0 ⟨xa (by lia),xa ((A0 ‹_› (A0 ‹_› (N0 rfl))))⟩) ?_;have⟨N1,G1⟩:=N.grow (tb.push (.list []));have len:∀{i:Nat}{o:AO},Z[i]? =some o->Z.length≠i:=λh e=>absurd (B0.mp h).1 (e▸Nat.lt_irrefl _);have o1:Tp W Z.length g rows (Z++[.list []]) []:=⟨ff,(λp hp=>nomatch hp),len N.T.ri,len N.T.xi⟩;refine Ve (hit _) (by rw[R0,List.length_range'];exact xa (Lp [_,_,_] 166154143820990858240507286236981248 tO hT h2 (Nat.sub_le _ _))) (Ol (m:=m+3) (b:=b) (Zb:=Z) (zq:=rows) (Fb [_] 326265612192619951722904882007737339184062442304 tO hn) ok (λZ'=>hit Z') (K0 _) d (List.range' low (high-low)) (λi hi=>by have:=List.mem_range'_1.mp hi;lia) (by rw[List.length_range'];show 0+_<=_;exact Lp [_,_,_] 5444538984726228442824942754447033919232 tO hT h2 (Nat.sub_le _ _)) N1 G1 o1 λUj Z2 l x9 Ep N2 G2 o2 hb hl=>?_);rw[List.length_range']at hl;have hb:l.map (·.2)=(List.range' low (high-low)).filterMap (Yg b T):=hb;have hl:l.length<=0+(high-low):=hl;have q:Id g use W r0 rows Z (((List.range' low (high-low)).filterMap (Yg b T)++if(decide (low=high)||Cf ((T.drop low).take (high-low)))=true then[b&&Sg T]else[]).any id) Q:=q;have pg:((List.range' low (high-low)).filterMap (Yg b T)++if(decide (low=high)||Cf ((T.drop low).take (high-low)))=true then[b&&Sg T]else[])≠[]:=pg;rw[<-hb]at q pg;show At _ _ _ (uH g T Z.length (.node 50 a (sv::cs) f tt dd) (.tup [.int low,.int high]) t (.int low) (.int high) x9 Ep) _ _;generalize zw:(l.map (·.2)++if(decide (low=high)||Cf ((T.drop low).take (high-low)))=true then[b&&Sg T]else[])=kx at q pg;have tail:∀{Aq:List AV}{Z3:AH}{l3:List (Int×Bool)},NS g use W r0 Aq Z3->Go g rows Aq Z Z3->Tp W Z.length g Aq Z3 l3->l3.map (·.2)=kx->l3.length<=10->
   At (KW w (m+4)) (cS [(.ret (.Dc V0 25 [V8]))] .fin) [] (uH g T Z.length (.node 50 a (sv::cs) f tt dd) (.tup [.int low,.int high]) t (.int low) (.int high) x9 Ep) Z3 (λfl _ Z'=>Q (xf fl) Z'):=by
  intro Aq Z3 l3 N3 G3 o3 hb3 hl3;exact WK N3.ai λfa a1 a2 a3 a4 a5 a6=>jA 1<|dw (p:=(551,fa)) (f:=520) (by simp only[Gb,a1]) (by simp only[Hg,a6];rfl)<|jA 1<|ew rfl<|FI N3 o3.at' hl3 (λz=>pg (by rw[<-hb3,z];rfl)) o3.pd λBa Z' t' N' G' d'=>na<|q Ba Z' t' N' (G3.trans G')<|rq hb3<|rr List.any_map<|d'
 have go:(decide (low=high)||Cf ((T.drop low).take (high-low)))=true->At (KW w (m+4)) (cS [(.exp (.Dc V8 27 [(.call 662 [V0,V1,V7,V3,V4])])),(.ret (.Dc V0 25 [V8]))] .fin) [] (uH g T Z.length (.node 50 a (sv::cs) f tt dd) (.tup [.int low,.int high]) t (.int low) (.int high) x9 Ep) Z2 (λfl _ Z'=>Q (xf fl) Z'):=by
  intro hc;rw[hc,X0 rfl]at zw;have hlL:(ia (l.map (·.1))).length<=1000:=by rw[Fg,R0];exact YQ [_,_,_,_] 47812980165453568065740040174021265504723036160 tO hT h2 hl (Nat.sub_le _ _)
  refine jA 1 ?_;refine Zi (Zm o2.at').1 ⟨(Zm o2.at').2,by decide⟩<|jC 5<|Zw (n:=m+3) (Fb [_] 9956836309589231925137478376418690442765120 tO hn) ok N2 (d.grow G2.get) λAq Z3 t3 N3 G3 d3=>?_;have o3:=o2.go G3;refine Fh rfl (tN o3.at' hlL)<|jA 1 ?_;exact tail (N3.sK o3.at' o3.r) ((G2.trans G3).setB (K0 _)) (o3.app d3) (by refine rr List.map_append ?_;exact zw) (by rw[A1];show _+1<=_;exact YQ [_,_,_,_] 11673090860706437516049814495610672101753600 tO hT h2 hl (Nat.sub_le _ _))
 refine jA 2<|Pc rfl (λe=>?_) λe=>?_
 ·have e:low=high:=Int.ofNat.inj (N0 e);exact go (by rw[Y2 e];rfl)
 have yP:decide (low=high)=false:=D1 λz=>Y1 e (C0 _ z);rw[yP,Bool.false_or]at go zw;refine jA 3<|gr (OA (Jc [_,_] 9922949053483974584696072192 tO hT mR) h1 (Jc [_,_,_] 146508567191553024 tO h2 mR)) ?_;rw[<-List.map_drop,<-List.map_take];refine Wd rfl (by rw[R0];exact xa (by refine rr List.length_take<|rr List.length_drop ?_;exact YQ [_,_,_,_] 1459136355499860828542542228890890716604416 tO hT h2 (Nat.min_le_left _ _) (Nat.sub_le _ _))) (Pq rfl _ [] (λv f hv=>ok.no v f (List.mem_of_mem_drop (List.mem_of_mem_take hv))) ?_);rw[List.nil_append];refine Ef rfl (v:= .bool (Cf ((T.drop low).take (high-low)))) ?_ ?_
 ·show((Se (some (((T.drop low).take (high-low)).map λo=>AV.bool o.isNone))).bind λys=>(XD ys).map AV.bool)=_;rw[show∀l:List AV,l.length<=Ab->Se (some l)=some l from λl h=>X0 h]
  ·show Option.map _ (XD _)=_;rw[zm];rfl
  ·rw[R0];exact xa (by refine rr List.length_take<|rr List.length_drop ?_;exact YQ [_,_,_,_] 1459136355499860828542542228890890716604416 tO hT h2 (Nat.min_le_left _ _) (Nat.sub_le _ _))
 refine Mp rfl (λhc=>go hc) λhc=>?_;rw[hc,Y0 (λh=>nomatch h),K2]at zw;exact tail N2 G2 o2 zw (YQ [_,_,_,_] 356234462301832199586481155261556155392 tO hT h2 hl (Nat.sub_le _ _))
end
section
variable{g:G}
theorem ao{c:ob}{k:Int}(dN:k=5\/k=6)(hn:13+2*fh c<=n)(hk:Dm g.key)(ok:ds g.key c)(N:NS g use W r0 rows Z)(r:Lb use cnt (Qb c) v)(d:PD rows t (wb W b))(q:Id g use W r0 rows Z (b&&Xc g.key c (decide (k=5))) Q):KW w n 674 [.ref g.ai,.int k,v,.tup [],.str g.key,.int t] Z Q:=by
 obtain⟨m,rfl⟩:∃m,n=m+1:=⟨n-1,((P1 (Fb [_,_] 1178657154805008160 tO hn)).symm)⟩;refine(Ja (cK _) rfl ?_).call;have go:∀{y:Bool},y=decide (k=5)->KW w m 643 [.ref g.ai,v,.str g.key,.int t,.bool y] Z λv Z'=>Q v Z':=λe=>Tw hk c ok m Z Q rows (Qb c) v _ b t (Fb [_,_] 9040676214844272716466435286784 tO hn) N rfl r d (e▸q);rcases dN with rfl|rfl
 ·exact jC 17<|(go rfl).mono λv Z' z=>na z
 ·exact jC 20<|(go rfl).mono λv Z' z=>na z
theorem Iv{p:Mf}{k:Int}(dN:k=5\/k=6)(ok:FJ g.key p)(N:NS g use W r0 rows Z)(r:Lb use cnt (La p) v)(d:PD rows t (wb W b))(q:Id g use W r0 rows Z (b&& !(Nj g.key p&&decide (k=5))) Q):KW w (n+8) 674 [.ref g.ai,.int k,v,.tup [.int 1],.str g.key,.int t] Z Q:=by
 refine(Ja (cK _) rfl ?_).call;have go:∀{y:Bool},y=decide (k=5)->KW w (n+7) 596 [.ref g.ai,v,.tup [.int 4],.str g.key,.int t,.bool y] Z λv Z'=>Q v Z':=λe=>Hi (ts:= .Hk 4 []) N ok.sz r ok.t ok.h (.inr (.inl rfl)) d (e▸q);rcases dN with rfl|rfl
 ·exact jC 19<|(go rfl).mono λv Z' z=>na z
 ·exact jC 22<|(go rfl).mono λv Z' z=>na z
theorem Oy{sv:AV}{T:ze}{low:Nat}(hn:46<=n)(ok:mu w g use W r0 sv T)(hT:T.length<=8)(gN:Ei cs T)(h1:low<=high)(h2:high<=T.length)(N:NS g use W r0 rows Z)(d:PD rows t (wb W b))(pg:Pe b T low high≠[])(q:Id g use W r0 rows Z ((Pe b T low high).any id) Q):KW w n 674 [.ref g.ai,.int 8,.node 50 a (sv::cs) f tt dd,.tup [.int low,.int high],.str g.key,.int t] Z Q:=by obtain⟨m,rfl⟩:∃m,n=m+1:=⟨n-1,((P1 (Fb [_] 12867724117792 tO hn)).symm)⟩;refine(Ja (cK _) rfl ?_).call;exact jC 8<|(pQ ((Nat.le_of_lt_succ ‹_›)) ok hT gN h1 h2 N d pg q).mono λv Z' z=>na z
theorem Jv{k:Int}{t:AV}(hk:k=4\/k=7\/k=2)(q:Q t Z):KW w (n+1) 674 [.ref g.ai,.int k,v,ex,.str g.key,t] Z Q:=by refine(Ja (cK _) rfl ?_).call;rcases hk with rfl|rfl|rfl<;>((refine jA 10 ?_;refine na ?_);exact q)
end
structure WD where
 (t:Int) (W:List Int) (heads:List AV) (y:AV)
noncomputable abbrev sD:Tx:=[100]
noncomputable abbrev ug:Tx:=[99,111,117,110,116]
noncomputable abbrev Av:Tx:=[117,115,101]
noncomputable abbrev Hy:Tx:=[116,97,98]
noncomputable abbrev Bv:Tx:=[98,101,104,105,110,100]
noncomputable abbrev mO:Tx:=[107,101,121]
noncomputable abbrev uS:Tx:=[97,115,107,101,114]
noncomputable abbrev sT:Tx:=[116]
noncomputable abbrev kO:Tx:=[119,104,111,108,101]
noncomputable abbrev lO:Tx:=[115,111,108,105,100]
noncomputable abbrev nO:Tx:=[104,101,97,100,115]
noncomputable abbrev sY:Tx:=[121]
noncomputable def Nu(g:G)(D:WD)(c:Int):List (Tx×AV):=
 [(sD,.ref g.di),(ug,.int c),(Av,.ref g.ui),(Hy,.ref g.ti),(Bv,.int g.bh),(mO,.str g.key),(uS,.ref g.ai),(sT,.int D.t),(kO,.ba (ia D.W)),(lO,.ba (ia (Tc D.W))),(nO,.ba D.heads),(sY,D.y)]
structure St where
 (use:List (Int×AV)) (c:Int) (at_:Int) (rows:List AV)
structure LS(g:G)(D:WD)(sc:List Int)(r0:List AV)(s:St)(lc la:Nat)(Z:AH):Prop where
 N:NS g s.use D.W r0 s.rows Z
 wi:Z[g.wi]? =some (.gb (Nu g D s.c))
 di:Z[g.di]? =some (.list [.int s.at_,.ba (ia sc)])
 dr:g.di≠g.ri
 tM:0<=s.at_
 atb:s.at_+la<=100000
 c0:0<=s.c
 cb:s.c+lc<=100000
 fresh:∀d,s.c<d->Pf d s.use=none
 oy:(s.use.length:Int)<=s.c
 sc:sc.length<=63
 nr:∀k,Ye k D.heads=true/\qg k D.y=true
structure Lx(g:G)(s s':St)(Z Z':AH):Prop where
 use:zN s.c s.use s'.use
 c0:s.c<=s'.c
 rows:∃ex,s'.rows=s.rows++ex
 len:Z.length<=Z'.length
 keep:∀i,i<Z.length->i≠g.wi->i≠g.di->i≠g.ui->i≠g.ri->i≠g.xi->Z'[i]? =Z[i]?
theorem Lx.refl{g:G}{s:St}:Lx g s s Z Z:=⟨λ_ _=>rfl,Int.le_refl _,⟨[],(K2 _).symm⟩,K0 _,λ_ _ _ _ _ _ _=>rfl⟩
theorem Lx.trans{g:G}{s1 s2 s3:St}(x:Lx g s1 s2 Z1 Z2)(y:Lx g s2 s3 Z2 Z3):Lx g s1 s3 Z1 Z3:=
 ⟨λd hd=>(y.use d (Int.le_trans hd x.c0)).trans (x.use d hd),Int.le_trans x.c0 y.c0,match x.rows,y.rows with|⟨e1,h1⟩,⟨e2,h2⟩=>⟨e1++e2,by rw[h2,h1,A3]⟩,A0 x.len y.len,
  λi hi a b c d e=>(y.keep i (C4 hi x.len) a b c d e).trans (x.keep i hi a b c d e)⟩
theorem Lx.nd{g:G}{s s':St}(x:Lx g s s' Z Z')(r:Lb s.use s.c y v):Lb s'.use s'.c y v:=Lb.up x.use x.c0 r
section
variable{g:G}{D:WD}{s:St}
structure o0(g:G):Prop where
 wd:g.wi≠g.di
 wu:g.wi≠g.ui
 wt:g.wi≠g.ti
 wr:g.wi≠g.ri
 wx:g.wi≠g.xi
 wa:g.wi≠g.ai
 du:g.di≠g.ui
 dt:g.di≠g.ti
 dx:g.di≠g.xi
 da:g.di≠g.ai
 ut:g.ui≠g.ti
 ur:g.ui≠g.ri
 ux:g.ui≠g.xi
 ua:g.ui≠g.ai
theorem LS.ne(L:LS g D sc r0 s lc la Z):o0 g:=
 have w:=L.wi;have d:=L.di;have u:=L.N.ui;have r:=L.N.T.ri;have x:=L.N.T.xi
 match L.N.T.ti,L.N.ai with|⟨_,t,_⟩,⟨_,a,_⟩=>⟨Ca w d AO.noConfusion,Ca w u AO.noConfusion,Ca w t AO.noConfusion,Ca w r AO.noConfusion,Ca w x AO.noConfusion,Ca w a AO.noConfusion,Ca d u AO.noConfusion,Ca d t AO.noConfusion,Ca d x AO.noConfusion,Ca d a AO.noConfusion,Ca u t AO.noConfusion,Ca u r AO.noConfusion,Ca u x AO.noConfusion,Ca u a AO.noConfusion⟩
theorem LS.low(L:LS g D sc r0 s lc la Z){la':Nat}(h:lc'<=lc)(h':la'<=la):LS g D sc r0 s lc' la' Z:=
 ⟨L.N,L.wi,L.di,L.dr,L.tM,Int.le_trans (Int.add_le_add_left (Int.ofNat_le.mpr h') _) L.atb,L.c0,Int.le_trans (Int.add_le_add_left (Int.ofNat_le.mpr h) _) L.cb,L.fresh,L.oy,L.sc,L.nr⟩
theorem LS.setW(L:LS g D sc r0 s (lc+1) la Z):LS g D sc r0 {s with c:=s.c+1} lc la (Z.set g.wi (.gb (Nu g D (s.c+1))))/\Lx g s {s with c:=s.c+1} Z (Z.set g.wi (.gb (Nu g D (s.c+1)))):=
 have wl:g.wi<Z.length:=(B0.mp L.wi).1;have n:=L.ne;have h1:s.c<=s.c+1:=Int.le_of_lt (Int.lt_succ s.c)
 ⟨⟨L.N.other n.wt n.wr n.wx n.wa n.wu,E3 wl,(W0 n.wd).trans L.di,L.dr,L.tM,L.atb,Int.le_trans L.c0 h1,by have:=L.cb;show s.c+1+lc<=100000;lia,λd hd=>L.fresh d (Int.lt_of_le_of_lt h1 hd),Int.le_trans L.oy h1,L.sc,L.nr⟩,
  λ_ _=>rfl,h1,⟨[],(K2 _).symm⟩,D3 (T3).symm,λi _ h2 _ _ _ _=>W0 (i4 h2)⟩
theorem LS.setD(L:LS g D sc r0 s lc (la+1) Z):LS g D sc r0 {s with at_:=s.at_+1} lc la (Z.set g.di (.list [.int (s.at_+1),.ba (ia sc)]))/\Lx g s {s with at_:=s.at_+1} Z (Z.set g.di (.list [.int (s.at_+1),.ba (ia sc)])):=
 have dl:g.di<Z.length:=(B0.mp L.di).1;have n:=L.ne
 ⟨⟨L.N.other n.dt L.dr n.dx n.da n.du,(W0 (i4 n.wd)).trans L.wi,E3 dl,L.dr,Int.le_trans L.tM (Int.le_of_lt (Int.lt_succ s.at_)),by have:=L.atb;show s.at_+1+la<=100000;lia,L.c0,L.cb,L.fresh,L.oy,L.sc,L.nr⟩,
  λ_ _=>rfl,Int.le_refl _,⟨[],(K2 _).symm⟩,D3 (T3).symm,λi _ _ h2 _ _ _=>W0 (i4 h2)⟩
theorem Bi(k d:Int)(v:AV):∀kvs:List (Int×AV),Pf d (qe k v kvs)=if d=k then some v else Pf d kvs
 |[]=>by
  by_cases h:d=k
  ·exact rr (X0 h)<|X0 h.symm
  ·exact rr (Y0 h)<|Y0 (i4 h)
 |(a,u)::r=>by
  by_cases h:a=k
  ·refine rr (show qe k v ((a,u)::r)=(a,v)::r from X0 h) ?_;by_cases h2:a=d
   ·exact rr (X0 (h2▸h:d=k))<|X0 h2
   ·exact rr (Y0 (λz=>h2 (h.trans z.symm):¬d=k))<|(Y0 h2:Pf d ((a,v)::r)=_).trans (Y0 h2:Pf d ((a,u)::r)=_).symm
  ·refine rr (show qe k v ((a,u)::r)=(a,u)::qe k v r from Y0 h) ?_;by_cases h2:a=d
   ·exact rr (Y0 (λz=>h (h2.trans z):¬d=k))<|(X0 h2:Pf d ((a,u)::qe k v r)=_).trans (X0 h2:Pf d ((a,u)::r)=_).symm
   ·exact rr (show Pf d ((a,u)::r)=Pf d r from Y0 h2)<|(Y0 h2:Pf d ((a,u)::qe k v r)=_).trans (Bi k d v r)
theorem Us(sc:List Int)(h:sc.length<=63)(Z:AH):og Z 0 [.ba (ia sc)]=some (.int sc.length):=by have hl:(ia sc).length=sc.length:=R0 _;show Option.map _ (if(ia sc).length<=Ab then some (ia sc)else none)=_;exact rr (X0 (hl▸xa (A0 h (N0 rfl))))<|C0 (λk:Nat=>some (AV.int k)) hl
theorem iO(L:LS g D sc r0 s lc la Z)(x:Int):Ad Z (.ref g.di) (.int 0) (.int x)=some (Z.set g.di (.list [.int x,.ba (ia sc)])):=(ud L.di).trans rfl
theorem iG(h:sc.length<=63){a:Int}(h0:0<=a)(h1:a<sc.length):∃y:Int,Oq (ia sc) a=some (.int y):=by refine kE (Int.eq_ofNat_of_zero_le h0) λk ez=>?_;clear h0;subst ez;refine⟨sc[k],?_⟩;rw[qf (xa (by lia)),ia,P4,z3 ((Int.ofNat_lt.mp ‹_›))];rfl
theorem Pl{m:Int}(hm:0<m)(L:LS g D sc r0 s lc (la+1) Z)(q:∀x s' Z',0<=x->x<m->LS g D sc r0 s' lc la Z'->Lx g s s' Z Z'->Q (.int x) Z'):KW w (n+1) 681 [.ref g.di,.int m] Z Q:=by
 refine(Ja (WR _) rfl ?_).call;have⟨L',X⟩:=L.setD;have fin:∀y:Int,Q (.int (y%m)) (Z.set g.di (.list [.int (s.at_+1),.ba (ia sc)])):=λy=>q _ _ _ (j4 _ (Int.ne_of_gt hm)) (H3 _ hm) L' X;refine jA 2<|qa (Hf L.di)<|jA 6<|fe (iO L _)<|jA 3<|qa (Hf L'.di)<|Ef rfl (Us sc L.sc _)<|Pc rfl (λe=>kE (iG L.sc L.tM (N0 e)) λy hy=>jA 2<|qa (Hf L'.di)<|jA 1<|qa hy<|jA 3<|Fa (yx hm)<|na (fin y)) λe=>?_
 ·exact jA 2<|Fa (XB ⟨by have:=L.tM;have:=L.atb;unfold Ab;lia,by decide⟩)<|jA 5<|Fa (yx hm)<|na (fin _)
theorem Ql(k:Nat):∀l:List Int,Ye k (ia l)=true|[]=>rfl|x::l=>Ql k l
theorem RT{k:Nat}(h:Z[i]? =some (.inst 38 fs))(hk:Ud 38 k=true):setAttr Z (.ref i) k v=some (Z.set i (.inst 38 (Sj k v fs))):=(ud h).trans (X0 hk)
theorem OM(fs:List (Nat×AV)):(Z++[AO.inst 38 fs])[Z.length]? =some (.inst 38 fs):=by rw[C3 (K0 _),Nat.sub_self];rfl
theorem jj{k:Nat}(hk:Ud 38 k=true):setAttr (Z++[AO.inst 38 fs]) (.ref Z.length) k v=some (Z++[.inst 38 (Sj k v fs)]):=rr (RT (OM fs) hk)<|rr sg rfl
theorem IO(P:Params):makesIn (KP P) 38=true/\findIn (KP P) (.ref 38) "__init__"=some (some (.ref 35))/\typeIn (KP P) (.ref 35)=some (.type "function"):=by
 have h:(makesIn (KP P) 38&&(findIn (KP P) (.ref 38) "__init__"==some (some (.ref 35)))&&(typeIn (KP P) (.ref 35)==some (.type "function")))=true:=by kernel_rfl
 simp only[M0,beq_iff_eq]at h;exact(sf h.1.1 h.1.2 h.2)
noncomputable def Uy(k a ks f t d:AV):List (Nat×AV):=[(0,k),(1,a),(2,ks),(3,f),(4,t),(5,d)]
theorem rQ{k ks f t:AV}(q:Q (.ref Z.length) (Z++[.inst 38 (Uy k a ks f t (.int 0))])):ge w (H1 w.params) (n+2) 38 [k,a,ks,f,t] Z Q:=by refine Mm (IO w.params) λh1 h2 h3=>Yo (bs w) h1 h2 h3 (Ja (GZ _) rfl ?_);exact jA 2<|zc (jj rfl)<|jA 2<|zc (jj rfl)<|jA 2<|zc (jj rfl)<|jA 2<|zc (jj rfl)<|jA 2<|zc (jj rfl)<|jA 2<|zc (jj rfl)<|Ka ⟨rfl,q⟩
theorem Ws(h:Z[g.wi]? =some (.gb (Nu g D c))):jb Z (.ref g.wi) (.str ug)=some (.int c):=Da h
theorem qK(h:Z[g.wi]? =some (.gb (Nu g D c)))(d:Int):Ad Z (.ref g.wi) (.str ug) (.int d)=some (Z.set g.wi (.gb (Nu g D d))):=(ud h).trans rfl
theorem lG{k:Int}(hl:Z1.length=Z.length)(ha:qg Z.length a=true)(hk:Ye Z.length ks=true):ZP Z.length (Z1++[.inst 38 (Uy (.int k) a (.ba ks) (.int f) (.int t) (.int d))]) (.ref Z1.length)=some (.node k a ks f t d):=by have h:¬qg Z.length (.ref Z1.length)=true:=λh=>absurd (N0 h) (by refine rr hl ?_;exact Nat.lt_irrefl _);refine(Y0 h).trans ?_;show((Z1++[AO.inst 38 (Uy (.int k) a (.ba ks) (.int f) (.int t) (.int d))])[Z1.length]?.bind (aQ Z.length))=_;rw[OM];exact(X0 ⟨ha,hk⟩:(if qg Z.length a=true/\Ye Z.length ks=true then some (AV.node k a ks f t d)else none)=_)
theorem Ga{k:Int}(L:LS g D sc r0 s (lc+1) la Z)(q:LS g D sc r0 {s with c:=s.c+1} lc la (Z.set g.wi (.gb (Nu g D (s.c+1))))->Lx g s {s with c:=s.c+1} Z (Z.set g.wi (.gb (Nu g D (s.c+1))))->Q (.node k a ks f (s.c+1) (s.c+1)) (Z.set g.wi (.gb (Nu g D (s.c+1))))):KW w (n+3) 688 [.ref g.wi,.int k,a,.ba ks,.int f] Z Q:=by
 refine(ge.cut λrU=>Ja (fX _) rfl ?_).call;have⟨L',X⟩:=L.setW;have q:=q L' X;refine jA 2<|MT (Ws L.wi)<|jA 1<|kP rfl (qK L.wi _)<|jA 6<|qa (Ws L'.wi) ?_;generalize hσ:Z.set g.wi (.gb (Nu g D (s.c+1)))=Z1 at*;have l1:Z1.length=Z.length:=by refine rq hσ ?_;exact T3
 have wl:g.wi<Z1.length:=(B0.mp L'.wi).1;refine jC 0<|(rQ (n:=n) ?_).call;refine jA 3 ?_;refine qa (Ws (c:=s.c+1) (by refine rr (C1 wl) ?_;exact L'.wi)) ?_;refine jA 1<|zc (jj rfl)<|jR 1 ?_;have hb:qg Z.length a=true/\Ye Z.length ks=true:=⟨zx (Am (Am rU)),zx (Am (Am (Am rU)))⟩;refine(Kf (.node k a ks f (s.c+1) (s.c+1)) (lG l1 hb.1 hb.2) (λi o BJ e=>?_) ?_)
 ·rw[C1 (l1▸BJ)]at e;by_cases hiw:i=g.wi
  ·right;rw[hiw,L'.wi]at e;cases e;have:=L.nr Z.length;have lt:∀{i:Nat}{o:AO},Z[i]? =some o->i<Z.length:=λh=>(B0.mp h).1;exact Xa L.N.T.ti λ_ t1 _=>Xa L.N.ai λ_ a1 _=>qy (Y2 (lt L.di)) (qy rfl (qy (Y2 (lt L.N.ui)) (qy (Y2 (lt t1)) (qy rfl (qy rfl (qy (Y2 (lt a1)) (qy rfl (qy (Ql _ _) (qy (Ql _ _) (qy this.1 (qy this.2 rfl)))))))))))
  ·left;rw[<-hσ,W0 (i4 hiw)]at e;exact e
 ·rw[<-l1,List.take_left']
  ·exact q
  ·rfl
end
noncomputable def vf(s:Xr):AV:= .tup [.str [s.sort],.str s.name,.bool s.opt,.int s.Ed]
noncomputable def de(p:Mf):AV:= .tup [.int p.root,.ba (p.steps.map vf)]
def wf(c:Nat):Prop:=c=109\/c=105\/c=110\/c=99
def Yk(r:List Xr):Prop:=(∃c1 o1 h1 c2 o2 h2,r=[⟨c1,[97],o1,h1⟩,⟨c2,[98],o2,h2⟩]/\wf c1/\wf c2/\h1<=2/\(h2=0\/h2=2))\/∃c h,r=[⟨c,[97],true,h⟩]/\(c=99\/c=110)/\h<=2
def iu(bh:Nat)(b:List Xr):Prop:=(bh=0/\b=[])\/(bh=1/\∃c o,b=[⟨c,[97],o,0⟩]/\(c=109\/c=105))
def Oa(bh:Nat)(p:Mf):Prop:=(p.root=1/\∃b r,p.steps=b++r/\iu bh b/\Yk r)\/(p.root=2/\(p.steps=[]\/Yk p.steps))
section
variable{g:G}{D:WD}{s:St}
theorem RM{k:Int}(h0:0<=k)(h1:k<6):∃c,wf c/\∀Z:AH,jb Z (.str [109,109,109,105,110,99]) (.int k)=some (.str [c]):=by
 have:k=0\/k=1\/k=2\/k=3\/k=4\/k=5:=by lia
 rcases this with rfl|rfl|rfl|rfl|rfl|rfl
 ·exact(Na 109 (.inl rfl) (λZ=>rfl))
 ·exact(Na 109 (.inl rfl) (λZ=>rfl))
 ·exact(Na 109 (.inl rfl) (λZ=>rfl))
 ·exact(Na 105 (.inr (.inl rfl)) (λZ=>rfl))
 ·exact(Na 110 (.inr (.inr (.inl rfl))) (λZ=>rfl))
 ·exact(Na 99 (.inr (.inr (.inr rfl))) (λZ=>rfl))
theorem py{k:Int}{a b:Nat}(h0:0<=k)(h1:k<2):∃c,(c=a\/c=b)/\∀Z:AH,jb Z (.str [a,b]) (.int k)=some (.str [c]):=by
 have:k=0\/k=1:=by lia
 rcases this with rfl|rfl
 ·exact(Na a (.inl rfl) (λZ=>rfl))
 ·exact(Na b (.inr rfl) (λZ=>rfl))
theorem nK{k:Int}(h0:0<=k)(h1:k<5):∃c:Nat,c<=2/\∀Z:AH,jb Z (.tup [.int 0,.int 1,.int 2,.int 0,.int 0]) (.int k)=some (.int c):=by
 have:k=0\/k=1\/k=2\/k=3\/k=4:=by lia
 rcases this with rfl|rfl|rfl|rfl|rfl
 ·exact(Na 0 ((D0 _ _)) (λ_=>rfl))
 ·exact(Na 1 ((Nat.succ_pos _)) (λ_=>rfl))
 ·exact(Na 2 ((D0 _ _)) (λ_=>rfl))
 ·exact(Na 0 ((D0 _ _)) (λ_=>rfl))
 ·exact(Na 0 ((D0 _ _)) (λ_=>rfl))
theorem Zq(L:LS g D sc r0 s lc la Z):jb Z (.ref g.wi) (.str sD)=some (.ref g.di):=Da L.wi
theorem TK(L:LS g D sc r0 s lc la Z):jb Z (.ref g.wi) (.str Av)=some (.ref g.ui):=Da L.wi
theorem ni(L:LS g D sc r0 s lc la Z):jb Z (.ref g.wi) (.str Bv)=some (.int g.bh):=Da L.wi
theorem Gi(Le:g.bh=0\/g.bh=1)(L:LS g D sc r0 s lc (la+1) Z)(q:∀p s' Z',Oa g.bh p->LS g D sc r0 s' lc la Z'->Lx g s s' Z Z'->Q (de p) Z'):KW w (n+2) 695 [.ref g.wi] Z Q:=by
 refine(Ja (eX _) rfl ?_).call;refine jA 2<|qa (Zq L)<|jC 1<|Pl (N0 rfl) L λx s' Z' h0 h1 L' X=>?_;have h2:x<100000:=(Int.lt_of_lt_of_le ‹_› (N0 rfl));have q:=λp hp=>q p s' Z' hp L' X;refine Xa (RM (k:=x/35%6) (j4 _ (N0 rfl)) (H3 _ (N0 rfl))) λc1 hc1 e1=>Xa (RM (k:=x/210%6) (j4 _ (N0 rfl)) (H3 _ (N0 rfl))) λc2 hc2 e2=>Xa (nK (k:=x/7%5) (j4 _ (N0 rfl)) (H3 _ (N0 rfl))) λsh cU e3=>Xa (py (a:=109) (b:=105) (k:=x/7560) (Int.ediv_nonneg h0 (N0 rfl)) (by lia)) λc3 hc3 e4=>Xa (py (a:=99) (b:=110) (k:=x/35%2) (j4 _ (N0 rfl)) (H3 _ (N0 rfl))) λc4 hc4 e5=>?_;have dv:∀(m:Int),0<m->m<=100000->wc Z' 3 (.int x) (.int m)=some (.int (x/m)):=λm a b=>vp h0 h2 a b;refine jA 8<|Fa (dv 35 (N0 rfl) (N0 rfl))<|jA 2<|qa (e1 Z')<|jA 3<|Fa (dv 210 (N0 rfl) (N0 rfl))<|jA 2<|qa (e2 Z')<|jA 4<|Fa (dv 1260 (N0 rfl) (N0 rfl))<|jA 11<|Fa (dv 7 (N0 rfl) (N0 rfl))<|jA 2<|qa (e3 Z')<|jA 3<|qa (ni L')<|jA 1 ?_;have fin:∀bl r:List Xr,iu g.bh bl->Yk r->Q (.tup [.int 1,.ba (bl.map vf++r.map vf)]) Z':=λbl r hb hr=>by
  have:=q ⟨1,bl++r⟩ (.inl (bH rfl bl r rfl hb hr));rw[de,List.map_append]at this;exact this
 refine Ue (k:=?k) (st:=?st) (fr:=?fr) (Z:=?s) (λv=>∃bl,iu g.bh bl/\v= .ba (bl.map vf)) ?rest λz=>?main
 case main=>
  rcases Le with h|h
  ·rw[h];refine jA 2 ?_;exact z _ (Na [] (.inl ⟨h,rfl⟩) rfl)
  ·rw[h];refine jA 4<|Fa (dv 7560 (N0 rfl) (N0 rfl))<|qa (e4 Z')<|jA 4<|Ue (k:=?k2) (st:=?st2) (fr:=?fr2) (Z:=?s2) (λv=>∃o,v= .bool o) ?rest2 λz=>?main2
   case main2=>
    refine iD rfl (λ_=>?_) λ_=>?_
    ·exact z _ ⟨_,rfl⟩
    refine jA 3<|QG rfl (λ_=>?_) λ_=>?_
    ·exact jA 2<|Fa (dv 3780 (N0 rfl) (N0 rfl))<|jA 4<|z _ ⟨_,rfl⟩
    ·exact z _ ⟨_,rfl⟩
   rintro _ ⟨o,rfl⟩;refine jA 3 ?_;exact z _ (Na ([⟨c3,[97],o,0⟩]) (.inr (ow h c3 o rfl hc3)) rfl)
 rintro _ ⟨bl,HP,rfl⟩;have hbl1:bl.length<=1:=by rcases HP with⟨_,rfl⟩|⟨_,_,_,rfl,_⟩<;>simp
 have cat:∀r:List AV,Nat.ble r.length 2=true->wc Z' 0 (.ba (bl.map vf)) (.ba r)=some (.ba (bl.map vf++r)):=λr hr=>YB (by simp only[R0];exact xa (by have:=j3 hr;exact A0 (Nat.add_le_add ‹_› ‹_›) (N0 rfl)));refine jA 10<|Ue (k:=?k3) (st:=?st3) (fr:=?fr3) (Z:=?s3) (λv=>∃h:Nat,(h=0\/h=2)/\v= .int h) ?rest3 λz=>?main3
 case main3=>
  refine Pc rfl (λ_=>?_) (λ_=>?_)
  ·refine Gh ?_;exact z _ (Na 2 (.inr rfl) rfl)
  ·refine Gh ?_;exact z _ (Na 0 (.inl rfl) rfl)
 rintro _ ⟨h2,kR,rfl⟩;refine jA 4<|Pc rfl (λ_=>jA 11<|Fa (cat _ rfl)<|jR 1<|fin bl [⟨c1,[97],true,sh⟩,⟨c2,[98],_,h2⟩] HP (.inl (Ke c1 _ sh c2 _ h2 rfl hc1 hc2 cU kR))) (λ_=>?_);refine jA 2<|Pc rfl (λ_=>jA 5<|Fa (dv 35 (N0 rfl) (N0 rfl))<|jA 2<|qa (e5 Z')<|jA 5<|Fa (cat _ rfl)<|jR 1<|fin bl [⟨c4,[97],true,sh⟩] HP (.inr (Wa c4 sh rfl hc4 cU))) (λ_=>?_);refine jA 2<|Pc rfl (λ_=>jA 19<|Fa (cat _ rfl)<|jR 1<|fin bl [⟨c1,[97],false,sh⟩,⟨c2,[98],true,h2⟩] HP (.inl (Ke c1 _ sh c2 _ h2 rfl hc1 hc2 cU kR))) (λ_=>?_);refine jA 2<|Pc rfl (λ_=>?_) (λ_=>?_)
 ·exact jA 3<|Pc rfl (λ_=>jR 2<|q ⟨2,[]⟩ (.inr ⟨rfl,.inl rfl⟩)) (λ_=>jA 6<|Fa (dv 35 (N0 rfl) (N0 rfl))<|jR 9<|q ⟨2,[⟨c1,[97],_,sh⟩,⟨c2,[98],_,h2⟩]⟩ (.inr ⟨rfl,.inr (.inl (Ke c1 _ sh c2 _ h2 rfl hc1 hc2 cU kR))⟩))
 exact jA 19<|Fa (cat _ rfl)<|jR 1<|fin bl [⟨c1,[97],false,sh⟩,⟨c2,[98],false,h2⟩] HP (.inl (Ke c1 _ sh c2 _ h2 rfl hc1 hc2 cU kR))
end
section
variable{g:G}{D:WD}{s:St}
noncomputable def iB(s:St)(r:Nat):St:={s with use:=qe s.c (.int r) s.use}
theorem LS.mark(L:LS g D sc r0 s lc la Z)(r:Nat)(hn:Pf s.c s.use=none)(hl:(s.use.length:Int)+1<=s.c):LS g D sc r0 (iB s r) lc la (Z.set g.ui (.Ea (iB s r).use)):=
 have n:=L.ne;have ul:g.ui<Z.length:=(B0.mp L.N.ui).1
 match L.N.T.ti,L.N.ai with
 |⟨fs,h1,h2⟩,⟨fa,a1,a2⟩=>⟨⟨⟨(Na fs ((W0 n.ut).trans h1) h2),(W0 n.ur).trans L.N.T.ri,(W0 n.ux).trans L.N.T.xi,L.N.T.keys,L.N.T.len,L.N.T.nd⟩,L.N.b,E3 ul,(Na fa ((W0 n.ua).trans a1) a2),L.N.ex,L.N.r0,L.N.W⟩,
  (W0 (i4 n.wu)).trans L.wi,(W0 (i4 n.du)).trans L.di,L.dr,L.tM,L.atb,L.c0,L.cb,λd hd=>(Bi s.c d _ s.use).trans ((Y0 (Int.ne_of_gt hd)).trans (L.fresh d hd)),by have:=uh s.c (.int r) s.use;show((qe s.c _ s.use).length:Int)<=s.c;lia,L.sc,L.nr⟩
noncomputable def Tg:Option C->List C|some (.ng _ _ b)=>b|some (.Xe _ _ b)=>b|_=>[]
noncomputable abbrev XA:List C:=Tg OV[3]?
noncomputable def LM(y:Nd)(run:Bool)(Ed:Nat):Nd×Bool:=
 let y:=if Ed=1 then .wrap 1 y else y
 if Ed=2 then(.wrap 0 (if run=true then .wrap 2 y else y),false)else(y,run)
variable{S:SQ}
theorem OC{f1:Option AV}(hs:Ed<=2)(L:LS g D sc r0 s (lc+2) la Z)(r:Lb s.use s.c y v)(q:∀s' Z' v',LS g D sc r0 s' lc la Z'->Lx g s s' Z Z'->Lb s'.use s'.c (LM y run Ed).1 v'->S .next [some (.ref g.wi),f1,f2,some v',some (.bool (LM y run Ed).2),f5,f6,f7,some (.int Ed),f9] Z'):At (KW w (n+3)) (cS (XA.drop 3) .fin) [] [some (.ref g.wi),f1,f2,some v,some (.bool run),f5,f6,f7,some (.int Ed),f9] Z S:=by
 cases Ed with
 |zero=>exact jA 6<|Ka (q s Z v (L.low (Q1 _ 2) (K0 _)) Lx.refl r)
 |succ Ed=>cases Ed with
  |zero=>exact jC 9<|Ga L λL1 X1=>jA 4<|Ka (q _ _ _ (L1.low (Q1 _ 1) (K0 _)) X1 (ve _ _ _ rfl (X1.nd r)))
  |succ Ed=>cases Ed with
   |zero=>
    refine jA 7 ?_;induction run with
    |true=>exact jC 7<|Ga L λL1 X1=>jC 9<|Ga L1 λL2 X2=>jA 1<|Ka (q _ _ _ L2 (X1.trans X2) ⟨_,_,_,rfl,_,_,_,rfl,(X1.trans X2).nd r⟩)
    |false=>exact jC 9<|Ga L λL1 X1=>jA 1<|Ka (q _ _ _ (L1.low (Q1 _ 1) (K0 _)) X1 (ve _ _ _ rfl (X1.nd r)))
   |succ=>exact absurd hs (Nat.not_le.mpr (D0 3 _))
noncomputable def RX(y:Nd)(s:Xr):Nd:=if s.sort=109 then .mem s.name y s.opt else if s.sort=99 then .call y s.opt else .idx y (if s.sort=105 then .str s.name else .name 0 s.name) s.opt
theorem PC{a:Xr}{f1:Option AV}(ha:wf a.sort)(hs:a.Ed<=2)(L:LS g D sc r0 s (lc+4) la Z)(r:Lb s.use s.c y v)(q:∀s' Z' v' f5 f6 f7 f8 f9,LS g D sc r0 s' lc la Z'->Lx g s s' Z Z'->Lb s'.use s'.c (fv (y,run) a).1 v'->S .next [some (.ref g.wi),f1,f2,some v',some (.bool (fv (y,run) a).2),f5,f6,f7,f8,f9] Z'):vz (KW w (n+3)) [5,6,7,8] (cS XA .fin) (vf a) [some (.ref g.wi),f1,f2,some v,some (.bool run),f5,f6,f7,f8,f9] Z S:=by
 refine Aa rfl<|jA 1<|Ue (k:=?k1) (st:=?st1) (fr:=?fr1) (Z:=?s1) (λv=>v= .int (Mh a.opt)) ?rest1 λz=>?main1
 case main1=>
  refine Mp rfl (λe=>?_) λe=>?_
  ·refine Gh ?_;exact z _ (by exact C0 (λo=>AV.int (Mh o)) e.symm)
  ·refine Gh ?_;exact z _ (by exact C0 (λo=>AV.int (Mh o)) e.symm)
 rintro _ rfl;refine jA 2<|Ue (k:=?k2) (st:=?st2) (fr:=?fr2) (Z:=?s2) (λv=>v= .bool (run||a.opt)) ?rest2 λz=>?main2
 case main2=>
  refine iD rfl (λe=>?_) λe=>?_
  ·exact z (.bool run) (by rw[e,Bool.true_or])
  ·exact Ua rfl<|z (.bool a.opt) (by rw[e,Bool.false_or])
 rintro _ rfl;have fin:∀s1 Z1 v1 f9,LS g D sc r0 s1 (lc+2) la Z1->Lx g s s1 Z Z1->Lb s1.use s1.c (RX y a) v1->At (KW w (n+3)) (cS (XA.drop 3) .fin) [] [some (.ref g.wi),f1,f2,some v1,some (.bool (run||a.opt)),some (.str [a.sort]),some (.str a.name),some (.bool a.opt),some (.int a.Ed),f9] Z1 S:=
  λs1 Z1 v1 f9 L1 X1 r1=>OC hs L1 r1 λs2 Z2 v2 L2 X2 r2=>q s2 Z2 v2 _ _ _ _ _ L2 (X1.trans X2) r2
 clear hs q;obtain⟨so,nm,op,sh⟩:=a;refine jA 3 ?_;rcases ha with h|h|h|h
 ·cases h;exact jC 7<|Ga L λL1 X1=>jA 1<|fin _ _ _ _ (L1.low (Q1 _ 1) (K0 _)) X1 (ve _ _ _ rfl (X1.nd r))
 ·cases h;exact jC 16<|Ga L λL1 X1=>jC 2<|Ga L1 λL2 X2=>jA 1<|fin _ _ _ _ L2 (X1.trans X2) ⟨_,_,_,_,rfl,(X1.trans X2).nd r,_,_,rfl⟩
 ·cases h;exact jC 16<|Ga L λL1 X1=>jC 2<|Ga L1 λL2 X2=>jA 1<|fin _ _ _ _ L2 (X1.trans X2) ⟨_,_,_,_,rfl,(X1.trans X2).nd r,_,_,rfl,Int.le_of_lt (Int.lt_succ _),L.fresh _ (Int.lt_succ _)⟩
 ·cases h;exact jC 13<|Ga L λL1 X1=>jC 3<|Ga L1 λL2 X2=>jA 1<|fin _ _ _ _ L2 (X1.trans X2) (ZG _ _ _ _ rfl ((X1.trans X2).nd r))
theorem QC(hc:∀Z,ye vi je Z){f1:Option AV}:∀(st:List Xr){s:St}{Z:AH}{y:Nd}{v:AV}{run:Bool}{f5 f6 f7 f8 f9:Option AV},(∀a∈st,wf a.sort/\a.Ed<=2)->LS g D sc r0 s (lc+4*st.length) la Z->Lb s.use s.c y v->(∀s' Z' v' f5 f6 f7 f8 f9,LS g D sc r0 s' lc la Z'->Lx g s s' Z Z'->Lb s'.use s'.c (st.foldl fv (y,run)).1 v'->S .next [some (.ref g.wi),f1,f2,some v',some (.bool (st.foldl fv (y,run)).2),f5,f6,f7,f8,f9] Z')->Eb (ye vi je) (vz (KW w (n+3)) [5,6,7,8] (cS XA .fin)) (st.map vf) [some (.ref g.wi),f1,f2,some v,some (.bool run),f5,f6,f7,f8,f9] Z S:=by
 intro st;induction st with
 |nil=>intro s Z y v run _ _ _ _ _ _ L r q;exact⟨hc Z,q s Z v _ _ _ _ _ L Lx.refl r⟩|cons a st ih=>
  intro s Z y v run _ _ _ _ _ h L r q;exact⟨hc Z,PC (lc:=lc+4*st.length) (h a (.head _)).1 (h a (.head _)).2 L r λs1 Z1 v1 _ _ _ _ _ L1 X1 r1=>
    ih (λb hb=>h b (.tail _ hb)) L1 r1 λs2 Z2 v2 _ _ _ _ _ L2 X2 r2=>q s2 Z2 v2 _ _ _ _ _ L2 (X1.trans X2) r2⟩
theorem lQ{p:Mf}(hp:p.root=1\/p.root=2)(vP:∀a∈p.steps,wf a.sort/\a.Ed<=2)(hl:p.steps.length<=3)(L:LS g D sc r0 s (lc+14) la Z)(q:∀s' Z' v,LS g D sc r0 s' lc la Z'->Lx g s s' Z Z'->Lb s'.use s'.c (La p) v->Q v Z'):KW w (n+4) 702 [.ref g.wi,.int p.root,.ba (p.steps.map vf)] Z Q:=by
 refine(Ja (dX _) rfl ?_).call;refine jA 6 ?_;refine qa (v:= .str [119+p.root]) (by rcases hp with h|h<;>refine rr h ?_<;>rfl) ?_;refine jC 2<|Ga L λL1 X1=>jA 4<|qa (TK L1)<|jA 2 ?_;have hs:Ad (Z.set g.wi (.gb (Nu g D (s.c+1)))) (.ref g.ui) (.int (s.c+1)) (.int p.root)=some ((Z.set g.wi (.gb (Nu g D (s.c+1)))).set g.ui (.Ea (qe (s.c+1) (.int p.root) s.use))):=(ud L1.N.ui).trans (X0 (by unfold Ab;have:=L.oy;have:=L.cb;lia));refine fe hs ?_;have L2:=L1.mark p.root (L.fresh _ (Int.lt_succ _)) (Int.add_le_add_right L.oy 1);have ne:∀{d:Int},d<=s.c->¬d=s.c+1:=λh z=>Int.lt_irrefl _ (Int.lt_of_le_of_lt h (z▸Int.lt_succ s.c));have X2:Lx g s (iB {s with c:=s.c+1} p.root) Z ((Z.set g.wi (.gb (Nu g D (s.c+1)))).set g.ui (.Ea (qe (s.c+1) (.int p.root) s.use))):=
  ⟨λd hd=>(Bi _ d _ s.use).trans (Y0 (ne hd)),X1.c0,X1.rows,D3 (rr T3<|rr T3 rfl),λi hi h1 h2 h3 h4 h5=>(W0 (i4 h3)).trans (W0 (i4 h1))⟩
 have r2:Lb (iB {s with c:=s.c+1} p.root).use (s.c+1) (NM p.root) (.node 8 (.str [119+p.root]) [] 0 (s.c+1) (s.c+1)):=
  (Wa _ _ rfl (Int.le_refl _) ((Bi _ _ _ s.use).trans ((X0 rfl).trans (Y0 (by lia)).symm)))
 refine jA 3 ?_;refine Eg rfl (by rw[R0];exact xa (A0 hl (N0 rfl)))<|QC (lc:=lc+1) (λZ=>(Qh _).symm▸trivial) p.steps (v:= .node 8 (.str [119+p.root]) [] 0 (s.c+1) (s.c+1)) (run:=false) vP (L2.low (by show lc+1+4*p.steps.length<=lc+13;exact Fb [_,_] 4682170943517259716757578496 tO hl) (K0 _)) r2 λs3 Z3 v3 _ _ _ _ _ L3 X3 r3=>?_;refine show At _ _ _ _ _ _ from ?_
 refine jA 1 ?_;have X23:=X2.trans X3;refine Mp rfl (λe=>?_) λe=>?_
 ·refine jC 6<|Ga L3 λL4 X4=>na<|q _ _ _ L4 (X23.trans X4) ?_;rw[La,X0 e];exact(ve _ _ _ rfl (X4.nd r3))
 ·refine jR 1<|q _ _ _ (L3.low (Q1 _ 1) (K0 _)) X23 ?_;rw[La,Y0 (by exact rr e Q2)];exact r3
end
def PW(p:Mf):Prop:=(p.root=1\/p.root=2)/\(∀a∈p.steps,wf a.sort/\a.Ed<=2)/\p.steps.length<=3
theorem Yk.pw{r:List Xr}(h:Yk r):(∀a∈r,wf a.sort/\a.Ed<=2)/\r.length<=2:=by
 rcases h with⟨c1,o1,h1,c2,o2,h2,rfl,a,b,c,d⟩|⟨c,h,rfl,a,b⟩
 ·refine⟨λx hx=>?_,K0 2⟩;rcases K1.mp hx with rfl|hx
  ·exact⟨a,c⟩
  ·refine rr (J0.mp hx) ?_;exact⟨b,by show h2<=2;lia⟩
 ·refine⟨λx hx=>?_,by show 1<=2;decide⟩;refine rr (J0.mp hx) ?_;exact⟨by rcases a with a|a<;>simp only[wf,a]<;>decide,b⟩
theorem Oa.pw{bh:Nat}{p:Mf}(h:Oa bh p):PW p:=by
 rcases h with⟨h1,b,r,h2,h3,h4⟩|⟨h1,h2⟩
 ·have z:=h4.pw;refine(sf (.inl h1) (λa ha=>?_) ?_)
  ·replace ha:=h2▸ha;rcases D2.mp ha with ha|ha
   ·rcases h3 with⟨_,rfl⟩|⟨_,c,o,rfl,hc⟩
    ·cases ha
    ·refine rr (J0.mp ha) ?_;exact⟨by rcases hc with a|a<;>simp only[wf,a]<;>decide,c5 _⟩
   ·exact z.1 a ha
  ·refine rr h2<|rr A1 ?_;have:b.length<=1:=by rcases h3 with⟨_,rfl⟩|⟨_,_,_,rfl,_⟩<;>simp
   have:=z.2;exact A0 (Nat.add_le_add ‹_› ‹_›) (N0 rfl)
 ·refine⟨.inr h1,?_⟩;rcases h2 with h2|h2
  ·exact rr h2<|⟨λa ha=>absurd ha y4,by decide⟩
  ·exact⟨h2.pw.1,by have:=h2.pw.2;exact A0 ‹_› (N0 rfl)⟩
noncomputable abbrev SV:Tx:=[116,121,112,101,111,102]
noncomputable abbrev sZ:Tx:=[105,110]
noncomputable abbrev Ax:Tx:=[98,97,110,103]
noncomputable abbrev wN:Tx:=[115,97,109,101]
noncomputable abbrev xN:Tx:=[108,101,115,115]
noncomputable abbrev TV:Tx:=[115,117,109]
noncomputable abbrev SI:Tx:=[108,105,116]
noncomputable abbrev YV:Tx:=[110,111,116]
noncomputable abbrev VV:Tx:=[112,97,114,101,110]
noncomputable abbrev UV:Tx:=[115,101,116]
noncomputable abbrev Rz:Tx:=[97,110,100]
noncomputable abbrev MQ:Tx:=[111,114]
noncomputable abbrev XV:Tx:=[110,117,108]
noncomputable def zb:ob->AV| .gc p u qc=> .tup [.str SV,de p,.str u,.int qc]| .isin p k=> .tup [.str sZ,de p,.str k]| .bang p=> .tup [.str Ax,de p]| .less a b=> .tup [.str xN,.int a,.int b]| .sum a b=> .tup [.str TV,.int a,.int b]| .lit b=> .tup [.str SI,.int (if b=true then 1 else 0)]| .same p k e=> .tup [.str wN,de p,.int k,.bool e]| .not c=> .tup [.str YV,zb c]| .par c=> .tup [.str VV,zb c]| .nul c d=> .tup [.str XV,zb c,zb d]| .and c d=> .tup [.str Rz,zb c,zb d]| .or c d=> .tup [.str MQ,zb c,zb d]| .set k c=> .tup [.str UV,.int k,zb c]
def Ex:ob->Prop| .gc p _ qc=>PW p/\qc<32| .isin p _=>PW p| .bang p=>PW p| .less a b=>(0<=a/\a<10)/\0<=b/\b<10| .sum a b=>(0<=a/\a<10)/\0<=b/\b<10| .lit _=>True| .same p k _=>PW p/\0<=k/\k<10| .not c=>Ex c| .par c=>Ex c| .nul c d=>Ex c/\Ex d| .and c d=>Ex c/\Ex d| .or c d=>Ex c/\Ex d| .set k c=>(k=1\/k=2)/\Ex c
noncomputable def Kc:ob->Nat| .not c=>Kc c+1| .par c=>Kc c+1| .nul c d=>Kc c+Kc d+1| .and c d=>Kc c+Kc d+1| .or c d=>Kc c+Kc d+1| .set _ c=>Kc c+20|_=>20
noncomputable def zi:ob->Nat| .not c=>zi c+1| .par c=>zi c+1| .nul c d=>max (zi c) (zi d)+1| .and c d=>max (zi c) (zi d)+1| .or c d=>max (zi c) (zi d)+1| .set _ c=>zi c+1|_=>0
section
variable{g:G}{D:WD}{s:St}{S:SQ}
def pC(g:G)(D:WD)(sc:List Int)(r0:List AV)(s:St)(Z:AH)(lc la:Nat)(y:Nd)(Q:AV->AH->Prop):Prop:=
 ∀s' Z' v,LS g D sc r0 s' lc la Z'->Lx g s s' Z Z'->Lb s'.use s'.c y v->Q v Z'
theorem LS.eq(L:LS g D sc r0 s lc la Z)(h:lc=lc'):LS g D sc r0 s lc' la Z:=h▸L
theorem LS.drop(k:Nat)(L:LS g D sc r0 s (lc+k) la Z):LS g D sc r0 s lc la Z:=L.low (Q1 _ _) (K0 _)
theorem Pr{p:Mf}(hp:PW p)(L:LS g D sc r0 s (lc+14) la Z)(q:pC g D sc r0 s Z lc la (La p) Q):KW w (n+4) 702 [.ref g.wi,.int p.root,.ba (p.steps.map vf)] Z Q:=
 lQ hp.1 hp.2.1 hp.2.2 L q
theorem tI{p:Mf}(hp:PW p)(L:LS g D sc r0 s (lc+16) la Z)(q:pC g D sc r0 s Z lc la (Re p held) Q):KW w (n+5) 730 [.ref g.wi,de p,.bool held] Z Q:=by
 refine(Ja (ZW _) rfl ?_).call;refine jC 10<|Pr (lc:=lc+2) hp L λs1 Z1 v1 L1 X1 r1=>jC 2<|Ga L1 λL2 X2=>jA 2 ?_;have r2:Lb s1.use (s1.c+1) (.Mk EA (La p)) (.node 21 (.str EA) [v1] 0 (s1.c+1) (s1.c+1)):=(ve _ _ _ rfl (X2.nd r1));refine Mp rfl (λe=>?_) λe=>?_
 ·replace q:=e▸q;exact jC 6<|Ga L2 λL3 X3=>na<|q _ _ _ L3 ((X1.trans X2).trans X3) (ve _ _ _ rfl (X3.nd r2))
 ·replace q:=e▸q;exact jR 1<|q _ _ _ (L2.drop 1) (X1.trans X2) r2
theorem tL{h:Nat}:∀Z:AH,jb Z (.tup [.str [61,61,61],.str [33,61,61],.str [61,61],.str [33,61]]) (.int ((h:Int)%4))=some (.str (Zd h)):=λZ=>by
 have:h%4=0\/h%4=1\/h%4=2\/h%4=3:=by lia
 have e:((h:Int)%4)=((h%4:Nat):Int):=by rfl
 rw[e,Zd];rcases this with h|h|h|h<;>rw[h]<;>rfl
theorem Fs(lc:Nat)(c d:ob):lc+(Kc c+Kc d+1)=lc+1+Kc d+Kc c:=(o4 (Lm [_,_,_] 1286587504724058248577792 tO) (Lm [_,_,_] 2154682030439469712958208 tO))
theorem fy{h k:Nat}(hn:h+1+k<=n)(e:n=m+1):h+k<=m:=Nat.le_of_succ_le_succ (A0 (D3 (Nat.add_right_comm h k 1)) (A0 hn (D3 e)))
theorem vI(c:ob):∀{n lc:Nat}{s:St}{Z:AH}{Q:AV->AH->Prop},Ex c->zi c+7<=n->LS g D sc r0 s (lc+Kc c) la Z->pC g D sc r0 s Z lc la (Qb c) Q->KW w n 737 [.ref g.wi,zb c] Z Q:=by
 induction c with
 |gc p u qc=>
  intro n lc s Z Q ok hn L q;refine Me 6 (Uk _) rfl (A0 (D0 _ _) hn) λn en=>jA 17 ?_;have dv:∀m:Int,0<m->m<=100000->∀Z:AH,wc Z 3 (.int (qc:Int)) (.int m)=some (.int ((qc:Int)/m)):=λm a b Z=>vp (E4 _) (Int.lt_of_lt_of_le (Int.ofNat_lt.mpr ok.2) (N0 rfl)) a b;refine Fa (dv 16 (N0 rfl) (N0 rfl) Z)<|jC 2<|tI (n:=n+1) (lc:=lc+4) ok.1 L λs1 Z1 v1 L1 X1 r1=>jA 3<|Fa (dv 8 (N0 rfl) (N0 rfl) Z1)<|jA 3<|gt (k:=?k1) (st:=?st1) (fr:=?fr1) (λv Z2=>∃s2,LS g D sc r0 s2 (lc+3) la Z2/\Lx g s1 s2 Z1 Z2/\Lb s2.use s2.c (if qc/8%2=0 then Nd.str u else .Ti u) v) ?rest1 λz=>?main1
  case main1=>
   refine Pc rfl (λe=>?_) λe=>?_
   ·refine jC 7 ?_;refine Ga L1 λL2 X2=>?_;refine z _ _ (Kf _ L2 X2 ?_);exact rr (X0 (by have:=N0 e;lia))<|(Jh _ _ rfl)
   ·refine jC 8 ?_;refine Ga L1 λL2 X2=>?_;refine z _ _ (Kf _ L2 X2 ?_);exact rr (Y0 (by have:=Y1 e;lia))<|(Jh _ _ rfl)
  rintro v2 Z2 ⟨s2,L2,X2,r2⟩;have r1:=X2.nd r1;replace r1:=(show decide ((qc:Int)/16=1)=decide (qc/16=1) by rw[decide_eq_decide];lia)▸r1;refine jA 11<|qa (tL Z2)<|jA 2<|Fa (dv 4 (N0 rfl) (N0 rfl) Z2)<|jA 3 ?_;have aW:=X1.trans X2;refine Pc rfl (λe=>?_) λe=>?_
  ·refine jC 4<|Ga L2 λL3 X3=>na ?_;have hs:Qb (.gc p u qc)= .bin (Zd qc) (if qc/8%2=0 then Nd.str u else .Ti u) (Re p (decide (qc/16=1))):=X0 (by have:=N0 e;lia);exact q _ _ _ (L3.drop 2) (aW.trans X3) (hs▸(Vc _ _ _ _ rfl (X3.nd r2) (X3.nd r1)))
  ·refine jC 4<|Ga L2 λL3 X3=>na ?_;have hs:Qb (.gc p u qc)= .bin (Zd qc) (Re p (decide (qc/16=1))) (if qc/8%2=0 then Nd.str u else .Ti u):=Y0 (by have:=Y1 e;lia);exact q _ _ _ (L3.drop 2) (aW.trans X3) (hs▸(Vc _ _ _ _ rfl (X3.nd r1) (X3.nd r2)))
 |isin p k=>intro n lc s Z Q ok hn L q;exact Me 6 (Uk _) rfl (A0 (D0 _ _) hn) λn en=>jC 20<|Ga L λL1 X1=>jC 11<|Pr (n:=n+2) (lc:=lc+5) ok L1 λs2 Z2 v2 L2 X2 r2=>jC 2<|Ga L2 λL3 X3=>na<|q _ _ _ (L3.drop 4) ((X1.trans X2).trans X3) (Vc _ _ _ _ rfl (Jh _ _ rfl) (X3.nd r2))
 |bang p=>intro n lc s Z Q ok hn L q;exact Me 6 (Uk _) rfl (A0 (D0 _ _) hn) λn en=>jC 27<|Pr (n:=n+2) (lc:=lc+6) ok L λs2 Z2 v2 L2 X2 r2=>jC 2<|Ga L2 λL3 X3=>na<|q _ _ _ (L3.drop 5) (X2.trans X3) (ve _ _ _ rfl (X3.nd r2))
 |same p k e=>
  intro n lc s Z Q ok hn L q;refine Me 6 (Uk _) rfl (A0 (D0 _ _) hn) λn en=>jC 27<|Pr (n:=n+2) (lc:=lc+6) ok.1 L λs1 Z1 v1 L1 X1 r1=>jC 7<|Ga L1 λL2 X2=>jA 7 ?_;induction e with
  |true=>exact jC 4<|Ga L2 λL3 X3=>na<|q _ _ _ (L3.drop 4) ((X1.trans X2).trans X3) ⟨_,_,_,_,rfl,(X2.trans X3).nd r1,_,_,rfl,ok.2.1,ok.2.2⟩
  |false=>exact jC 4<|Ga L2 λL3 X3=>na<|q _ _ _ (L3.drop 4) ((X1.trans X2).trans X3) ⟨_,_,_,_,rfl,(X2.trans X3).nd r1,_,_,rfl,ok.2.1,ok.2.2⟩
 |less a b=>intro n lc s Z Q ok hn L q;exact Me 6 (Uk _) rfl (A0 (D0 _ _) hn) λn en=>jC 26<|Ga L λL1 X1=>jC 7<|Ga L1 λL2 X2=>jC 10<|Ga L2 λL3 X3=>na<|q _ _ _ (L3.drop 17) ((X1.trans X2).trans X3) ⟨_,_,_,_,rfl,(sk _ _ rfl ok.1),_,_,rfl,ok.2⟩
 |sum a b=>intro n lc s Z Q ok hn L q;exact Me 6 (Uk _) rfl (A0 (D0 _ _) hn) λn en=>jC 29<|Ga L λL1 X1=>jC 7<|Ga L1 λL2 X2=>jC 10<|Ga L2 λL3 X3=>na<|q _ _ _ (L3.drop 17) ((X1.trans X2).trans X3) ⟨_,_,_,_,rfl,(sk _ _ rfl ok.1),_,_,rfl,ok.2⟩
 |lit b=>
  intro n lc s Z Q ok hn L q;refine Me 6 (Uk _) rfl (A0 (D0 _ _) hn) λn en=>?_;induction b with
  |true=>exact jC 35<|Ga L λL1 X1=>na<|q _ _ _ (L1.drop 19) X1 (Jh _ _ rfl)
  |false=>exact jC 35<|Ga L λL1 X1=>na<|q _ _ _ (L1.drop 19) X1 (Jh _ _ rfl)
 |not c Ik=>intro n lc s Z Q ok hn L q;exact Me 6 (Uk _) rfl (A0 (D0 _ _) hn) λn en=>jC 35<|Ik (lc:=lc+1) ok (fy hn en) (L.eq (Nat.add_right_comm lc (Kc c) 1)) λs2 Z2 v2 L2 X2 r2=>jC 2<|Ga L2 λL3 X3=>na<|q _ _ _ L3 (X2.trans X3) (ve _ _ _ rfl (X3.nd r2))
 |par c Ik=>intro n lc s Z Q ok hn L q;exact Me 6 (Uk _) rfl (A0 (D0 _ _) hn) λn en=>jC 38<|Ik (lc:=lc+1) ok (fy hn en) (L.eq (Nat.add_right_comm lc (Kc c) 1)) λs2 Z2 v2 L2 X2 r2=>jC 2<|Ga L2 λL3 X3=>na<|q _ _ _ L3 (X2.trans X3) (ve _ _ _ rfl (X3.nd r2))
 |set k c Ik=>intro n lc s Z Q ok hn L q;exact Me 6 (Uk _) rfl (A0 (D0 _ _) hn) λn en=>jC 42<|Pr (n:=n+2) (lc:=lc+6+Kc c) (p:=⟨k,[]⟩) (sf ok.1 (λa ha=>absurd ha y4) (c5 _)) (L.eq (by show lc+(Kc c+20)=_;exact o4 (Lm [_,_] 558464549208096239256320 tO) (Lm [_,_] 785158018923044906230528 tO))) λs1 Z1 v1 L1 X1 r1=>jC 4<|Ik (lc:=lc+6) ok.2 (fy hn en) L1 λs2 Z2 v2 L2 X2 r2=>jC 2<|Ga L2 λL3 X3=>na<|q _ _ _ (L3.drop 5) ((X1.trans X2).trans X3) (Vc _ _ _ _ rfl ((X2.trans X3).nd r1) (X3.nd r2))
 |nul c d Ik AJ=>intro n lc s Z Q ok hn L q;exact Me 6 (Uk _) rfl (A0 (D0 _ _) hn) λn en=>jC 48<|Ik (lc:=lc+1+Kc d) ok.1 (A0 (K3 (i5 _ _) _) (fy hn en)) (L.eq (Fs lc c d)) λs1 Z1 v1 L1 X1 r1=>jC 4<|AJ (lc:=lc+1) ok.2 (A0 (K3 (Nat.le_max_right _ _) _) (fy hn en)) L1 λs2 Z2 v2 L2 X2 r2=>jC 2<|Ga L2 λL3 X3=>na<|q _ _ _ L3 ((X1.trans X2).trans X3) (Vc _ _ _ _ rfl ((X2.trans X3).nd r1) (X3.nd r2))
 |and c d Ik AJ=>intro n lc s Z Q ok hn L q;exact Me 6 (Uk _) rfl (A0 (D0 _ _) hn) λn en=>jC 48<|Ik (lc:=lc+1+Kc d) ok.1 (A0 (K3 (i5 _ _) _) (fy hn en)) (L.eq (Fs lc c d)) λs1 Z1 v1 L1 X1 r1=>jC 4<|AJ (lc:=lc+1) ok.2 (A0 (K3 (Nat.le_max_right _ _) _) (fy hn en)) L1 λs2 Z2 v2 L2 X2 r2=>jC 2<|Ga L2 λL3 X3=>na<|q _ _ _ L3 ((X1.trans X2).trans X3) (Vc _ _ _ _ rfl ((X2.trans X3).nd r1) (X3.nd r2))
 |or c d Ik AJ=>intro n lc s Z Q ok hn L q;exact Me 6 (Uk _) rfl (A0 (D0 _ _) hn) λn en=>jC 48<|Ik (lc:=lc+1+Kc d) ok.1 (A0 (K3 (i5 _ _) _) (fy hn en)) (L.eq (Fs lc c d)) λs1 Z1 v1 L1 X1 r1=>jC 4<|AJ (lc:=lc+1) ok.2 (A0 (K3 (Nat.le_max_right _ _) _) (fy hn en)) L1 λs2 Z2 v2 L2 X2 r2=>jC 2<|Ga L2 λL3 X3=>na<|q _ _ _ L3 ((X1.trans X2).trans X3) (Vc _ _ _ _ rfl ((X2.trans X3).nd r1) (X3.nd r2))
end
noncomputable abbrev uV:AV:= .tup [.str [117]]
noncomputable abbrev nV:AV:= .tup [.str [110]]
inductive Lv:AV->Prop
 |u:Lv uV
 |n:Lv nV
 |b (i:Int):Lv (.tup [.str [98],.int i])
 |d (i:Int):Lv (.tup [.str [100],.int i])
 |s (t:Tx):Lv (.tup [.str [115],.str t])
 |o (ks:List Tx) (vs:List AV):(∀x∈vs,Lv x)->Lv (.tup [.str [111],.rc ks vs])
 |f (x:AV):Lv x->Lv (.tup [.str [102],x])
noncomputable def ae:AV->Bool
 | .tup (.str c::_)=>decide (c=[117])||decide (c=[110])
 |_=>false
noncomputable def MU(k:Tx):AV->AV
 | .tup (.str c::r)=>if c=[111]then(match r with|[.rc ks vs]=>(Oi k (ks.zip vs)).getD uV|_=>uV)else uV
 |_=>uV
noncomputable def qZ:AV->Option AV
 | .tup [.str c,x]=>if c=[102]then some x else none
 |_=>none
noncomputable def Wb:AV->Bool->List Xr->Option AV
 |v,_,[]=>some v|v,false,s::st=>Wb v (decide (s.Ed=2)) st|v,true,s::st=>if ae v=true then(if s.opt=true then Wb uV (decide (s.Ed=2)) st else none)
  else if s.sort=99 then(match qZ v with|some x=>Wb x true st|none=>none)else Wb (MU s.name v) true st
theorem qH{k:Tx}{ks:List Tx}{vs:List AV}{x:AV}(h:Oi k (ks.zip vs)=some x):x∈vs:=by
 induction ks generalizing vs with
 |nil=>cases h|cons a ks ih=>
  induction vs with
  |nil=>cases h|cons y vs=>
   by_cases e:a=k
   ·exact z0 ((X0 e:Oi k ((a::ks).zip (y::vs))=_).symm.trans h)▸ .head _
   ·exact .tail _ (ih ((Y0 e:Oi k ((a::ks).zip (y::vs))=_).symm.trans h))
theorem Lv.get{k:Tx}{ks:List Tx}{vs:List AV}(h:∀x∈vs,Lv x):Lv ((Oi k (ks.zip vs)).getD uV):=by
 cases e:Oi k (ks.zip vs)with|none=>exact .u|some x=>exact h x (qH e)
noncomputable abbrev CM:List C:=Tg NV[2]?
section
variable{S:SQ}
noncomputable abbrev DM:J:= .jc 0 (cS [.asg 4 (.lit (.bool true))] .fin) (cS [] .fin)
theorem vC(q:S .next [a0,a1,a2,some v,some (.bool (lg||decide (Ed=2))),x5,x6,x7,some (.int Ed)] Z):At K DM [.int 2,.int Ed] [a0,a1,a2,some v,some (.bool lg),x5,x6,x7,some (.int Ed)] Z S:=by
 refine Pc rfl (λe=>?_) λe=>?_
 ·have:Ed=2:=by have:=N0 e;lia
  clear e;subst this;exact jA 2<|Ka (by rw[Bool.or_comm]at q;exact q)
 ·have:¬Ed=2:=by have:=Y1 e;lia
  rw[D1 this,Bool.or_false]at q;exact Ka q
theorem wC{a:Xr}(hv:Lv v)(q1:∀v' g' x5 x6 x7 x8,Lv v'->(∀st,Wb v lg (a::st)=Wb v' g' st)->S .next [a0,a1,a2,some v',some (.bool g'),x5,x6,x7,x8] Z)(q2:∀fr,(∀st,Wb v lg (a::st)=none)->S (.ret .none) fr Z):vz K [5,6,7,8] (cS CM .fin) (vf a) [a0,a1,a2,some v,some (.bool lg),x5,x6,x7,x8] Z S:=by
 obtain⟨so,nm,op,sh⟩:=a;refine Aa rfl ?_;have fin:∀v' g',Lv v'->(∀st,Wb v lg (⟨so,nm,op,sh⟩::st)=Wb v' (g'||decide (sh=2)) st)->At K DM [.int 2,.int sh] [a0,a1,a2,some v',some (.bool g'),some (.str [so]),some (.str nm),some (.bool op),some (.int sh)] Z S:=
  λv' g' gv h=>vC (q1 _ _ _ _ _ _ gv h)
 induction lg with
 |false=>exact jA 8<|fin v false hv λst=>rfl
 |true=>
  have nul:ae v=true->∀st,Wb v true (⟨so,nm,op,sh⟩::st)=if op=true then Wb uV (decide (sh=2)) st else none:=λh st=>X0 h;have Hk:ae v=false->∀st,Wb v true (⟨so,nm,op,sh⟩::st)=if so=99 then(match qZ v with|some x=>Wb x true st|none=>none)else Wb (MU nm v) true st:=λh st=>(Y0 (by exact rr h Q2):Wb v true (⟨so,nm,op,sh⟩::st)=_);induction hv with
  |u=>
   refine jA 10<|Mp rfl (λe=>?_) λe=>?_
   ·cases e;refine jA 7 ?_;exact fin uV false .u λst=>by rw[nul rfl,X0 rfl,Bool.false_or]
   ·cases e;refine jR 1 ?_;exact q2 _ λst=>by rw[nul rfl,Y0 Q2]
  |n=>
   refine jA 10<|Mp rfl (λe=>?_) λe=>?_
   ·cases e;refine jA 7 ?_;exact fin uV false .u λst=>by rw[nul rfl,X0 rfl,Bool.false_or]
   ·cases e;refine jR 1 ?_;exact q2 _ λst=>by rw[nul rfl,Y0 Q2]
  |b i=>
   refine jA 13<|Pc rfl (λe=>?_) λe=>?_
   ·have e:so=99:=by have:=N0 e;injection this
    refine jR 6 ?_;exact q2 _ λst=>by rw[Hk rfl,X0 e];rfl
   ·have e:¬so=99:=λz=>Y1 e (rr z rfl);refine jA 12 ?_;exact fin uV true .u λst=>by rw[Hk rfl,Y0 e];rfl
  |d i=>
   refine jA 13<|Pc rfl (λe=>?_) λe=>?_
   ·have e:so=99:=by have:=N0 e;injection this
    refine jR 6 ?_;exact q2 _ λst=>by rw[Hk rfl,X0 e];rfl
   ·have e:¬so=99:=λz=>Y1 e (rr z rfl);refine jA 12 ?_;exact fin uV true .u λst=>by rw[Hk rfl,Y0 e];rfl
  |s t=>
   refine jA 13<|Pc rfl (λe=>?_) λe=>?_
   ·have e:so=99:=by have:=N0 e;injection this
    refine jR 6 ?_;exact q2 _ λst=>by rw[Hk rfl,X0 e];rfl
   ·have e:¬so=99:=λz=>Y1 e (rr z rfl);refine jA 12 ?_;exact fin uV true .u λst=>by rw[Hk rfl,Y0 e];rfl
  |o ks vs h=>
   refine jA 13<|Pc rfl (λe=>?_) λe=>?_
   ·have e:so=99:=by have:=N0 e;injection this
    refine jR 6 ?_;exact q2 _ λst=>by rw[Hk rfl,X0 e];rfl
   ·have e:¬so=99:=λz=>Y1 e (rr z rfl);refine jA 18 ?_;exact fin _ true (Lv.get h) λst=>by rw[Hk rfl,Y0 e];rfl
  |f x h=>
   refine jA 13<|Pc rfl (λe=>?_) λe=>?_
   ·have e:so=99:=by have:=N0 e;injection this
    refine jA 11 ?_;exact fin x true h λst=>by rw[Hk rfl,X0 e];rfl
   ·have e:¬so=99:=λz=>Y1 e (rr z rfl);refine jA 12 ?_;exact fin uV true .u λst=>by rw[Hk rfl,Y0 e];rfl
noncomputable def GS:Option AV->AV|some v=>v|none=> .none
theorem xC(hc:∀Z,ye vi je Z):∀(st:List Xr){v:AV}{lg:Bool}{x5 x6 x7 x8:Option AV},Lv v->(∀r g' x5 x6 x7 x8,Wb v lg st=some r->Lv r->S .next [a0,a1,a2,some r,some (.bool g'),x5,x6,x7,x8] Z)->(∀fr,Wb v lg st=none->S (.ret .none) fr Z)->Eb (ye vi je) (vz K [5,6,7,8] (cS CM .fin)) (st.map vf) [a0,a1,a2,some v,some (.bool lg),x5,x6,x7,x8] Z S:=by
 intro st;induction st with|nil=>intro v lg _ _ _ _ hv q1 q2;exact⟨hc Z,q1 _ _ _ _ _ _ rfl hv⟩|cons a st ih=>intro v lg _ _ _ _ hv q1 q2;exact⟨hc Z,wC hv (λv' g' _ _ _ _ Op h=>ih Op (λr g2 _ _ _ _ e hr=>q1 r g2 _ _ _ _ ((h st).trans e) hr) λfr e=>q2 fr ((h st).trans e)) λfr h=>q2 fr (h st)⟩
theorem Cj{root:AV}{st:List Xr}(hl:st.length<=3)(hi:jb Z vi root=some v)(hv:Lv v)(q:∀r,Wb v true st=r->(∀x,r=some x->Lv x)->Q (GS r) Z):KW w (n+1) 709 [vi,root,.ba (st.map vf)] Z Q:=by
 refine(Ja (bX _) rfl ?_).call;refine jA 2 ?_;refine qa hi ?_;refine jA 4 ?_;refine Eg rfl (by rw[R0];exact xa (A0 hl (N0 rfl))) ?_;refine xC (λZ=>(Qh _).symm▸trivial) st hv (λr g' _ _ _ _ e hr=>?_) λfr e=>?_
 ·refine show At _ _ _ _ _ _ from ?_
  refine jR 1 ?_;exact q (some r) e λx h=>by cases h;exact hr
 ·exact q none e λx h=>by cases h
theorem Gz(hv:Lv v)(q:∀t,(v=uV->t=Hd)->Q (.str t) Z):KW w (n+1) 744 [v] Z Q:=by
 refine(Ja (YW _) rfl ?_).call;induction hv with
 |u=>exact jR 12<|q _ λ_=>rfl
 |_=>refine jR 12 ?_;exact q _ λh=>by cases h
end
noncomputable def pc(bh:Nat)(p:Mf):Bool:=decide (p.root=1)&&((p.steps[bh]?).map (·.opt)).getD false
noncomputable def Ec(a b:Bool):Int:=(if a=true then 1 else 0)+(if b=true then 2 else 0)
noncomputable def Mb(bh:Nat):ob->Bool->Bool
 | .gc p u qc,yes=> !pc bh p||(yes==(decide (u=Hd)==decide (qc%2=0)))
 | .isin p _,yes=> !pc bh p|| !yes
 | .bang p,yes=> !pc bh p|| !yes
 | .not c,yes=>Mb bh c (!yes)| .par c,yes=>Mb bh c yes| .set k c,yes=>if k=2 then Mb bh c yes else true
 | .and a c,true=>Mb bh a true&&Mb bh c true| .and a c,false=>Mb bh a false||(Mb bh a true&&Mb bh c false)
 | .or a c,false=>Mb bh a false&&Mb bh c false| .or a c,true=>Mb bh a true||(Mb bh a false&&Mb bh c true)
 |_,_=>true
def Vz(bh:Nat):ob->Prop| .gc p _ qc=>Oa bh p/\qc<32| .isin p _=>Oa bh p| .bang p=>Oa bh p| .same p _ _=>Oa bh p/\p.root=2| .not c=>Vz bh c| .par c=>Vz bh c| .nul c _=>Vz bh c| .and c d=>Vz bh c/\Vz bh d| .or c d=>Vz bh c/\Vz bh d| .set k c=>(k=1\/k=2)/\Vz bh c|_=>True
theorem Oa.at'{bh:Nat}{p:Mf}(h:Oa bh p)(h1:p.root=1):∃a,p.steps[bh]? =some a:=by
 rcases h with⟨_,b,r,h2,h3,h4⟩|⟨h2,_⟩
 ·have hb:b.length=bh:=by rcases h3 with⟨rfl,rfl⟩|⟨rfl,c,o,rfl,_⟩<;>rfl
  rw[h2,C3 (D3 hb),hb,Nat.sub_self];rcases h4 with⟨c1,o1,h1,c2,o2,h2,rfl,_⟩|⟨c,h,rfl,_⟩
  ·exact⟨_,rfl⟩
  ·exact⟨_,rfl⟩
 ·rw[h1]at h2;exact absurd h2 (N0 rfl)
theorem Oa.bh{bh:Nat}{p:Mf}(h:Oa bh p)(h1:p.root=1):bh<=1:=by
 rcases h with⟨_,b,r,h2,h3,h4⟩|⟨h2,_⟩
 ·rcases h3 with⟨rfl,_⟩|⟨rfl,_⟩<;>decide
 ·rw[h1]at h2;exact absurd h2 (N0 rfl)
section
variable{S:SQ}{g:G}
theorem Fi{p:Mf}(hp:Oa g.bh p)(hb:jb Z (.ref g.wi) (.str Bv)=some (.int g.bh))(q:Q (.bool (pc g.bh p)) Z):KW w (n+1) 765 [.ref g.wi,de p] Z Q:=by
 refine(Ja (XW _) rfl ?_).call;refine jA 5 ?_;unfold pc at q;refine QG rfl (λe=>?_) λe=>?_
 ·have e1:p.root=1:=by have:=N0 e;lia
  refine kE (hp.at' e1) λa ha=>?_;rw[ha,Y2 e1,Bool.true_and]at q;refine jA 5<|qa hb<|qa (v:=vf a) ?_ ?_
  ·show Oq (p.steps.map vf) (g.bh:Int)=_;rw[qf (xa (A0 (hp.bh e1) (N0 rfl))),P4,ha];rfl
  ·exact jR 2<|q
 ·have e1:¬p.root=1:=by have:=Y1 e;lia
  rw[D1 e1,Bool.false_and]at q;refine na ?_;rw[e];exact q
theorem zQ(a b:Bool):wc Z 5 (.int (Ec a b)) (.int 2)=some (.int (Ec false b)):=by cases a<;>cases b<;>rfl
theorem AQ(a b:Bool):wc Z 5 (.int (Ec a b)) (.int 1)=some (.int (Ec a false)):=by cases a<;>cases b<;>rfl
theorem uY(b c d:Bool):wc Z 6 (.int (Ec false b)) (.int (Ec c d))=some (.int (Ec c (b||d))):=by cases b<;>cases c<;>cases d<;>rfl
theorem tY(a c d:Bool):wc Z 6 (.int (Ec a false)) (.int (Ec c d))=some (.int (Ec (a||c) d)):=by cases a<;>cases c<;>cases d<;>rfl
theorem LR(a:Bool):Db Z (.int (Ec a false))=some a:=by cases a<;>rfl
theorem HW(a:Bool):Db Z (.int (Ec false a))=some a:=by cases a<;>rfl
theorem GK(a b:Bool):jb Z (.tup [.int 0,.int 2,.int 1,.int 3]) (.int (Ec a b))=some (.int (Ec b a)):=by cases a<;>cases b<;>rfl
theorem xP:decide ((qc:Int)%2=0)=decide (qc%2=0):=by rw[decide_eq_decide];lia
section
variable{Q:Int->Prop}{x y a0 b0 c:Bool}
theorem mt(ex:x=true)(ey:y=c)(q:Q (Ec (!x||(true==y)) (!x||(false==y)))):Q (Ec (true==c) (false==c)):=by subst ex;subst ey;exact q
theorem mf(ex:x=false)(q:Q (Ec (!x||b0) (!x||b1))):Q (Ec true true):=by subst ex;exact q
theorem mi(ex:x=c)(q:Q (Ec (!x||false) (!x||true))):Q (Ec (!c||false) (!c||true)):=ex▸q
theorem ma(ex:x=true)(q:Q (Ec (x&&b1) (a0||(x&&b0)))):Q (Ec b1 (a0||b0)):=by subst ex;exact q
theorem mb(ex:x=false)(q:Q (Ec (x&&b1) (a0||(x&&b0)))):Q (Ec false a0):=by subst ex;exact Bool.or_false a0▸q
theorem mc(ex:x=true)(q:Q (Ec (a0||(x&&b1)) (x&&b0))):Q (Ec (a0||b1) b0):=by subst ex;exact q
theorem md(ex:x=false)(q:Q (Ec (a0||(x&&b1)) (x&&b0))):Q (Ec a0 false):=by subst ex;exact Bool.or_false a0▸q
theorem ms{P:Prop} [Decidable P](e:¬P)(q:Q (Ec (if P then b0 else true) (if P then b1 else true))):Q (Ec true true):=by rw[Y0 e,Y0 e]at q;exact q
end
theorem rN(hb:jb Z (.ref g.wi) (.str Bv)=some (.int g.bh))(c:ob):∀{n:Nat}{Q:AV->AH->Prop},Vz g.bh c->zi c+2<=n->Q (.int (Ec (Mb g.bh c true) (Mb g.bh c false))) Z->KW w n 772 [.ref g.wi,zb c] Z Q:=by
 induction c with
 |gc p u qc=>
  intro n Q ok hn q;refine Me 1 (Sk _) rfl (A0 (D0 _ _) hn) λn en=>jC 14<|Fi ok.1 hb<|Mp rfl (λe=>?_) λe=>?_
  ·refine jA 15<|Pc rfl (λe2=>?_) λe2=>?_
   ·refine jR 1 ?_;rw[xP]at e2;exact mt (Q:=λi=>Q (.int i) Z) e e2 q
   ·refine jR 1 ?_;rw[xP]at e2;exact mt (Q:=λi=>Q (.int i) Z) e e2 q
  ·exact jR 16<|mf (Q:=λi=>Q (.int i) Z) e q
 |isin p _=>intro n Q ok hn q;exact Me 1 (Sk _) rfl (A0 (D0 _ _) hn) λn en=>jC 14<|Fi ok hb<|Mp rfl (λe=>jR 4<|mi (Q:=λi=>Q (.int i) Z) e q) λe=>jR 16<|mi (Q:=λi=>Q (.int i) Z) e q
 |bang p=>intro n Q ok hn q;exact Me 1 (Sk _) rfl (A0 (D0 _ _) hn) λn en=>jC 14<|Fi ok hb<|Mp rfl (λe=>jR 4<|mi (Q:=λi=>Q (.int i) Z) e q) λe=>jR 16<|mi (Q:=λi=>Q (.int i) Z) e q
 |less a b=>intro n Q ok hn q;exact Me 1 (Sk _) rfl (A0 (D0 _ _) hn) λn en=>jR 26<|q
 |sum a b=>intro n Q ok hn q;exact Me 1 (Sk _) rfl (A0 (D0 _ _) hn) λn en=>jR 26<|q
 |lit b=>intro n Q ok hn q;exact Me 1 (Sk _) rfl (A0 (D0 _ _) hn) λn en=>jR 26<|q
 |same p k e=>intro n Q ok hn q;exact Me 1 (Sk _) rfl (A0 (D0 _ _) hn) λn en=>jR 26<|q
 |nul c d Ik AJ=>intro n Q ok hn q;exact Me 1 (Sk _) rfl (A0 (D0 _ _) hn) λn en=>jR 26<|q
 |not c Ik=>intro n Q ok hn q;exact Me 1 (Sk _) rfl (A0 (D0 _ _) hn) λn en=>jC 22<|Ik ok (fy hn en)<|qa (GK _ _)<|na<|q
 |par c Ik=>intro n Q ok hn q;exact Me 1 (Sk _) rfl (A0 (D0 _ _) hn) λn en=>jC 20<|Ik ok (fy hn en)<|na<|q
 |set k c Ik=>
  intro n Q ok hn q;refine Me 1 (Sk _) rfl (A0 (D0 _ _) hn) λn en=>jA 23<|Pc rfl (λe=>?_) λe=>?_
  ·have e:k=2:=by have:=N0 e;lia
   subst e;exact jC 4<|Ik ok.2 (fy hn en)<|na<|q
  ·have e:¬k=2:=by have:=Y1 e;lia
   exact jR 7<|ms (Q:=λi=>Q (.int i) Z) e q
 |and c d Ik AJ=>intro n Q ok hn q;exact Me 1 (Sk _) rfl (A0 (D0 _ _) hn) λn en=>jC 26<|Ik ok.1 (A0 (K3 (i5 _ _) _) (fy hn en))<|jC 5<|AJ ok.2 (A0 (K3 (Nat.le_max_right _ _) _) (fy hn en))<|jA 12<|Fa (zQ _ _)<|jA 3<|Fa (AQ _ _)<|Mp (LR _) (λe=>jA 2<|Fa (uY _ _ _)<|jR 2<|ma (Q:=λi=>Q (.int i) Z) e q) λe=>jR 1<|mb (Q:=λi=>Q (.int i) Z) e q
 |or c d Ik AJ=>intro n Q ok hn q;exact Me 1 (Sk _) rfl (A0 (D0 _ _) hn) λn en=>jC 29<|Ik ok.1 (A0 (K3 (i5 _ _) _) (fy hn en))<|jC 5<|AJ ok.2 (A0 (K3 (Nat.le_max_right _ _) _) (fy hn en))<|jA 12<|Fa (AQ _ _)<|jA 3<|Fa (zQ _ _)<|Mp (HW _) (λe=>jA 2<|Fa (tY _ _ _)<|jR 2<|mc (Q:=λi=>Q (.int i) Z) e q) λe=>jR 1<|md (Q:=λi=>Q (.int i) Z) e q
structure Rc(ei vi:Nat)(v1 v2:AV)(m:Bool)(Z:AH):Prop where
 e:Z[ei]? =some (.gb [([118,97,108,115],.ref vi),([109,111,118,101,100],.bool m)])
 v:Z[vi]? =some (.Ea [(1,v1),(2,v2)])
 l1:Lv v1
 l2:Lv v2
structure ce(ei vi:Nat)(Z Z':AH):Prop where
 len:Z'.length=Z.length
 at':∀i,i≠ei->i≠vi->Z'[i]? =Z[i]?
theorem ce.refl{vi:Nat}:ce ei vi Z Z:=⟨rfl,λ_ _ _=>rfl⟩
theorem ce.trans{vi:Nat}(x:ce ei vi Z1 Z2)(y:ce ei vi Z2 Z3):ce ei vi Z1 Z3:=⟨y.len.trans x.len,λi a b=>(y.at' i a b).trans (x.at' i a b)⟩
def Ae(bh:Nat)(v:AV):Prop:=(bh=0/\ae v=true/\Lv v)\/(bh=1/\∃h,ae h=true/\Lv h/\v= .tup [.str [111],.rc [[97]] [h]])
theorem GN(o1:Bool)(h1:Nat)(rest:List Xr):Wb uV (decide (h1=2)) rest=none\/Wb uV (decide (h1=2)) rest=some uV:=by
 generalize decide (h1=2)=g;induction rest generalizing g with
 |nil=>exact .inr rfl|cons a r ih=>
  induction g with
  |false=>exact ih _|true=>
   rw[show Wb uV true (a::r)=if a.opt=true then Wb uV (decide (a.Ed=2)) r else none from X0 rfl];cases a.opt with|true=>exact ih _|false=>exact .inl rfl
theorem oq(hv:ae v=true)(a:Xr)(ha:a.opt=true)(r:List Xr):Wb v true (a::r)=none\/Wb v true (a::r)=some uV:=by rw[show Wb v true (a::r)=Wb uV (decide (a.Ed=2)) r from(X0 hv:Wb v true (a::r)=_).trans (X0 ha)];exact GN true a.Ed r
theorem uC{bh:Nat}{p:Mf}(hp:Oa bh p)(ht:pc bh p=true)(hv:Ae bh v):Wb v true p.steps=none\/Wb v true p.steps=some uV:=by
 unfold pc at ht;rw[M0]at ht;have h1:p.root=1:=N0 ht.1;rcases hp with⟨_,b,r,h2,h3,h4⟩|⟨h2,_⟩
 ·have hr:∃a r',r=a::r':=by
   rcases h4 with⟨c1,o1,h1,c2,o2,h2,rfl,_⟩|⟨c,h,rfl,_⟩
   ·exact(Jh _ _ rfl)
   ·exact(Jh _ _ rfl)
  refine Cp hr λa r' ez=>?_;clear hr;clear h4;subst ez;rw[h2]at ht⊢;rcases h3 with⟨rfl,rfl⟩|⟨rfl,c,o,rfl,hc⟩
  ·rcases hv with⟨_,hn,_⟩|⟨hx,_⟩
   ·exact oq hn a ht.2 r'
   ·exact absurd hx (N0 rfl)
  ·rcases hv with⟨hx,_⟩|⟨_,h,hn,_,rfl⟩
   ·exact absurd hx (N0 rfl)
   ·have e:Wb (.tup [.str [111],.rc [[97]] [h]]) true ([⟨c,[97],o,0⟩]++a::r')=Wb h true (a::r'):=(Y0 (show¬ae (.tup [.str [111],.rc [[97]] [h]])=true from Q2):Wb _ true (⟨c,[97],o,0⟩::a::r')=_).trans ((Y0 (show¬c=99 by lia)).trans rfl);rw[e];exact oq hn a ht.2 r'
 ·rw[h1]at h2;exact absurd h2 (N0 rfl)
end
noncomputable def Md:Option Bool->AV|some b=> .int (if b=true then 1 else 0)|none=> .none
theorem Lv.Bg(h:Lv v)(Z:AH):Ta Z 6 (GS (some v)) .none=some false:=by cases h<;>rfl
theorem Lv.eqD(h:Lv v)(k:Int):∃b,∀Z:AH,Ta Z 0 v (.tup [.str [100],.int k])=some b:=by
 induction h with
 |u=>exact⟨_,λ_=>rfl⟩|n=>exact⟨_,λ_=>rfl⟩|b i=>exact⟨_,λ_=>rfl⟩|d i=>
  by_cases h:i=k
  ·refine⟨true,λ_=>?_⟩;exact C0 (λb:Bool=>(some b).bind λb=>(b.casesOn (some false) (some true):Option Bool)) (Y2 h)
  ·refine⟨false,λ_=>?_⟩;exact C0 (λb:Bool=>(some b).bind λb=>(b.casesOn (some false) (some true):Option Bool)) (D1 h)
 |s t=>exact⟨_,λ_=>rfl⟩|o ks vs _=>exact⟨_,λ_=>rfl⟩|f x _=>exact⟨_,λ_=>rfl⟩
section
variable{S:SQ}{g:G}{vi:Nat}{m:Bool}
theorem Oe(E:Rc ei vi v1 v2 m Z):jb Z (.ref ei) (.str [118,97,108,115])=some (.ref vi):=Da E.e
theorem Aj(E:Rc ei vi v1 v2 m Z){p:Mf}(hp:PW p):∃v,jb Z (.ref vi) (.int p.root)=some v/\Lv v/\(p.root=1->v=v1):=by
 rcases hp.1 with h|h
 ·exact(Kf v1 (rr h<|jr E.v) E.l1 (λ_=>rfl))
 ·exact(Kf v2 (rr h<|jr E.v) E.l2 (λz=>by replace z:=h▸z;exact absurd z (N0 rfl)))
def Fx(bh:Nat)(v1:AV)(c:ob)(Z:AH)(Q:AV->AH->Prop):Prop:=∀r:Option Bool,(Ae bh v1->∀b,r=some b->Mb bh c b=true)->Q (Md r) Z
theorem On{bh:Nat}{p:Mf}(hp:Oa bh p)(gn:p.root=1->v=v1)(h:Ae bh v1)(ht:pc bh p=true){x:AV}(e:Wb v true p.steps=some x):x=uV:=by
 have h1:p.root=1:=by unfold pc at ht;rw[M0]at ht;exact N0 ht.1
 replace e:=gn h1▸e;rcases uC hp ht h with z|z
 ·replace e:=z▸e;cases e
 ·replace e:=z▸e;exact(z0 e).symm
theorem Xv{p:Mf}(ok:Vz g.bh (.gc p u qc))(E:Rc ei vi v1 v2 m Z)(q:Fx g.bh v1 (.gc p u qc) Z Q):KW w (n+2) 751 [.ref ei,zb (.gc p u qc)] Z Q:=by
 refine(Ja (uF _) rfl ?_).call;refine Df (Aj E ok.1.pw) λv hi hv gn=>jA 15<|qa (Oe E)<|jC 10<|Cj (n:=n) ok.1.pw.2.2 hi hv λr hr hl=>?_;induction r with
 |none=>refine jR 5 ?_;exact q none λ_ b h=>by cases h
 |some x=>
  have hx:=hl x rfl;refine jA 3<|Dd (hx.Bg _)<|jC 4<|Gz (n:=n) hx λt ht=>jA 11 ?_;have GH:Ae g.bh v1->∀b,some (decide (t=u)==decide ((qc:Int)%2=0))=some b->Mb g.bh (.gc p u qc) b=true:=λhn b hb=>by
   show(!pc g.bh p||(b==(decide (u=Hd)==decide (qc%2=0))))=true;cases e:pc g.bh p with|false=>rfl|true=>have:=On ok.1 gn hn e hr;replace hb:=xP▸(ht this▸hb);refine rq (z0 hb) ?_;simp only[Bool.not_true,Bool.false_or,beq_iff_eq,eq_comm (a:=u)]
  exact Pc rfl (λe=>jR 1<|q (some true) λhn b hb=>GH hn b (rq hb<|C0 some e)) λe=>jR 1<|q (some false) λhn b hb=>GH hn b (rq hb<|C0 some e)
theorem bB{bh:Nat}{p:Mf}{x:AV}(hp:Oa bh p)(gn:p.root=1->v=v1)(e:Wb v true p.steps=some x)(h:x=uV->b=false)(hn:Ae bh v1):(!pc bh p|| !b)=true:=by
 cases t:pc bh p with|false=>rfl|true=>refine rr (h (On hp gn hn t e)) ?_;rfl
theorem YC{p:Mf}{k:Tx}(ok:Oa g.bh p)(E:Rc ei vi v1 v2 m Z)(q:Fx g.bh v1 (.isin p k) Z Q):KW w (n+2) 751 [.ref ei,zb (.isin p k)] Z Q:=by
 refine(Ja (uF _) rfl ?_).call;refine Df (Aj E ok.pw) λv hi hv gn=>jA 15<|qa (Oe E)<|jC 10<|Cj (n:=n) ok.pw.2.2 hi hv λr hr hl=>?_;induction r with
 |none=>refine jR 5 ?_;exact q none λ_ b h=>by cases h
 |some x=>
  have hx:=hl x rfl;refine jA 3<|Dd (hx.Bg _) ?_;have no:∀b:Bool,(x=uV->b=false)->Q (Md (some b)) Z:=λb h=>q (some b) λhn b' hb=>by cases hb;exact bB ok gn hr h hn
  have US:Q (Md none) Z:=q none λ_ b h=>by cases h
  induction hx with
  |u=>refine jA 20 ?_;exact na<|US
  |n=>refine jA 20 ?_;exact na<|US
  |b i=>refine jA 20 ?_;exact na<|US
  |d i=>refine jA 20 ?_;exact na<|US
  |s t=>refine jA 20 ?_;exact na<|US
  |f y hy=>refine jA 25 ?_;exact na<|no false λh=>rfl
  |o ks vs hv=>
   refine jA 25<|Pc rfl (λe=>?_) λe=>?_
   ·refine jR 1 ?_;exact no true λh=>by cases h
   ·exact jR 1<|no false λh=>rfl
theorem OK(h:Bc a [.int 0,.str []]=some b):Ta Z 8 a (.tup [.int 0,.str []])=some b:=h
theorem ZC{p:Mf}(ok:Oa g.bh p)(E:Rc ei vi v1 v2 m Z)(q:Fx g.bh v1 (.bang p) Z Q):KW w (n+2) 751 [.ref ei,zb (.bang p)] Z Q:=by
 refine(Ja (uF _) rfl ?_).call;refine Df (Aj E ok.pw) λv hi hv gn=>jA 15<|qa (Oe E)<|jC 10<|Cj (n:=n) ok.pw.2.2 hi hv λr hr hl=>?_;induction r with
 |none=>refine jR 5 ?_;exact q none λ_ b h=>by cases h
 |some x=>
  have hx:=hl x rfl;refine jA 3<|Dd (hx.Bg _) ?_;have no:∀b:Bool,(x=uV->b=false)->Q (Md (some b)) Z:=λb h=>q (some b) λhn b' hb=>by cases hb;exact bB ok gn hr h hn
  have two:∀{a b:J}{fr:Fr}{st:List AV}{S:SQ}{y:AV}{t:Bool},Bc y [.int 0,.str []]=some t->At (KW w (n+1)) a st fr Z S->At (KW w (n+1)) b st fr Z S->At (KW w (n+1)) (.jc 8 a b) (.tup [.int 0,.str []]::y::st) fr Z S:=λh a b=>Pc (OK h) (λ_=>a) (λ_=>b);induction hx with
  |u=>refine jA 17 ?_;exact na<|no false λh=>rfl
  |n=>refine jA 17 ?_;exact na<|no false λh=>rfl
  |b i=>
   refine jA 30<|two Wy ?_ ?_
   ·exact Gh<|na<|no false λh=>rfl
   ·exact Gh<|na<|no true λh=>by cases h
  |d i=>
   refine jA 30<|two Wy ?_ ?_
   ·exact Gh<|na<|no false λh=>rfl
   ·exact Gh<|na<|no true λh=>by cases h
  |s t=>
   refine jA 30<|two (JO.trans yo) ?_ ?_
   ·exact Gh<|na<|no false λh=>rfl
   ·exact Gh<|na<|no true λh=>by cases h
  |o ks vs hv=>refine jA 25 ?_;exact na<|no true λh=>by cases h
  |f y hy=>refine jA 25 ?_;exact na<|no true λh=>by cases h
theorem XC{p:Mf}{k:Int}{eq:Bool}(ok:Oa g.bh p)(E:Rc ei vi v1 v2 m Z)(q:Fx g.bh v1 (.same p k eq) Z Q):KW w (n+2) 751 [.ref ei,zb (.same p k eq)] Z Q:=by
 refine(Ja (uF _) rfl ?_).call;refine Df (Aj E ok.pw) λv hi hv gn=>jA 15<|qa (Oe E)<|jC 10<|Cj (n:=n) ok.pw.2.2 hi hv λr hr hl=>?_;induction r with
 |none=>refine jR 5 ?_;exact q none λ_ b h=>by cases h
 |some x=>have hx:=hl x rfl;exact jA 3<|Dd (hx.Bg _)<|kE (hx.eqD k) λb hb=>jA 12<|aj (hb _)<|jA 3<|Pc rfl (λe=>jR 1<|q (some true) λ_ _ _=>rfl) λe=>jR 1<|q (some false) λ_ _ _=>rfl
theorem zl{c:ob}(hc:(∃a b,c= .less a b)\/(∃a b,c= .sum a b)\/∃b,c= .lit b)(q:Fx g.bh v1 c Z Q):KW w (n+2) 751 [.ref ei,zb c] Z Q:=by
 refine(Ja (uF _) rfl ?_).call;rcases hc with⟨a,b,rfl⟩|⟨a,b,rfl⟩|⟨b,rfl⟩
 ·exact jA 16<|Pc rfl (λe=>jR 1<|q (some true) λ_ _ _=>rfl) λe=>jR 1<|q (some false) λ_ _ _=>rfl
 ·exact jR 14<|q (some false) λ_ _ _=>rfl
 ·exact jR 10<|q (some b) λ_ _ _=>rfl
end
section
variable{S:SQ}{g:G}{vi:Nat}{m:Bool}
def IY(bh ei vi:Nat)(v1:AV)(m:Bool)(c:ob)(Z:AH)(Q:AV->AH->Prop):Prop:=
 ∀(r:Option Bool) lh Zl m' Z',Rc ei vi lh Zl m' Z'->ce ei vi Z Z'->(m'=false->m=false/\lh=v1)->(m'=false->Ae bh v1->∀b,r=some b->Mb bh c b=true)->Q (Md r) Z'
theorem Vq{h:Nat}(hn:h+1+3<=n):∃m,n=m+3/\h+3<=m+2:=(Na (n-3) ((P1 (Fb [_,_] 34891935187352948512 tO hn)).symm) (Jc [_,_,_] 10298199090295297379663999054686505960192 tO hn (KX _ _)))
theorem Rc.ne(E:Rc ei vi v1 v2 m Z):ei≠vi:=Ca E.e E.v AO.noConfusion
theorem PA(E:Rc ei vi v1 v2 m Z)(x:AV):Ad Z (.ref vi) (.int 1) x=some (Z.set vi (.Ea [(1,x),(2,v2)]))/\Ad Z (.ref vi) (.int 2) x=some (Z.set vi (.Ea [(1,v1),(2,x)])):=by
 constructor
 ·exact(ud E.v).trans rfl
 ·exact(ud E.v).trans rfl
theorem QA{vi2:AV}(h:Z[ei]? =some (.gb [([118,97,108,115],vi2),([109,111,118,101,100],.bool m)]))(b:Bool):Ad Z (.ref ei) (.str [109,111,118,101,100]) (.bool b)=some (Z.set ei (.gb [([118,97,108,115],vi2),([109,111,118,101,100],.bool b)])):=(ud h).trans rfl
theorem Rc.put(E:Rc ei vi v1 v2 m Z){x1 x2:AV}(h1:Lv x1)(h2:Lv x2)(b:Bool):Rc ei vi x1 x2 b ((Z.set vi (.Ea [(1,x1),(2,x2)])).set ei (.gb [([118,97,108,115],.ref vi),([109,111,118,101,100],.bool b)]))/\ce ei vi Z ((Z.set vi (.Ea [(1,x1),(2,x2)])).set ei (.gb [([118,97,108,115],.ref vi),([109,111,118,101,100],.bool b)])):=
 have le:ei<Z.length:=(B0.mp E.e).1;have lv:vi<Z.length:=(B0.mp E.v).1
 ⟨⟨E3 (rr T3 le),(W0 E.ne).trans (E3 lv),h1,h2⟩,
  ⟨by exact rr T3<|rr T3 rfl,λi a b=>(W0 (i4 a)).trans (W0 (i4 b))⟩⟩
theorem TO{bh:Nat}{c d:ob}(e:Mb bh c false=true):Mb bh (.and c d) false=true:=(C0 (· ||_) e).trans (Bool.true_or _)
theorem QO{bh:Nat}{c d:ob}(e:Mb bh c true=true):Mb bh (.or c d) true=true:=(C0 (· ||_) e).trans (Bool.true_or _)
theorem AG{bh:Nat}{c d:ob}(e:Mb bh c true=true)(f:Mb bh d true=true):Mb bh (.and c d) true=true:=(M0 _ _).mpr ⟨e,f⟩
theorem SO{bh:Nat}{c d:ob}(e:Mb bh c true=true)(f:Mb bh d false=true):Mb bh (.and c d) false=true:=(C0 (_||·) (AG (bh:=bh) (c:=c) (d:= .not d) e f)).trans (Bool.or_true _)
theorem zG{bh:Nat}{c d:ob}(e:Mb bh c false=true)(f:Mb bh d false=true):Mb bh (.or c d) false=true:=(M0 _ _).mpr ⟨e,f⟩
theorem PO{bh:Nat}{c d:ob}(e:Mb bh c false=true)(f:Mb bh d true=true):Mb bh (.or c d) true=true:=(C0 (_||·) (zG (bh:=bh) (c:=c) (d:= .not d) e f)).trans (Bool.or_true _)
theorem dj:∀(c:ob){n:Nat}{Z:AH}{Q:AV->AH->Prop}{v1 v2:AV}{m:Bool},Vz g.bh c->zi c+3<=n->Rc ei vi v1 v2 m Z->IY g.bh ei vi v1 m c Z Q->KW w n 758 [.ref ei,zb c] Z Q
 | .gc p u qc,n,Z,Q,v1,v2,m,ok,hn,E,q=>by
  obtain⟨n,rfl⟩:∃m,n=m+3:=B3 (A0 (D0 _ _) hn);refine(Ja (Tk _) rfl ?_).call;exact jC 24<|Xv (n:=n) ok E λr hr=>na<|q r v1 v2 m Z E ce.refl (λh=>⟨h,rfl⟩) λ_=>hr
 | .isin p k,n,Z,Q,v1,v2,m,ok,hn,E,q=>by
  obtain⟨n,rfl⟩:∃m,n=m+3:=B3 (A0 (D0 _ _) hn);refine(Ja (Tk _) rfl ?_).call;exact jC 24<|YC (n:=n) ok E λr hr=>na<|q r v1 v2 m Z E ce.refl (λh=>⟨h,rfl⟩) λ_=>hr
 | .bang p,n,Z,Q,v1,v2,m,ok,hn,E,q=>by
  obtain⟨n,rfl⟩:∃m,n=m+3:=B3 (A0 (D0 _ _) hn);refine(Ja (Tk _) rfl ?_).call;exact jC 24<|ZC (n:=n) ok E λr hr=>na<|q r v1 v2 m Z E ce.refl (λh=>⟨h,rfl⟩) λ_=>hr
 | .same p k e,n,Z,Q,v1,v2,m,ok,hn,E,q=>by
  obtain⟨n,rfl⟩:∃m,n=m+3:=B3 (A0 (D0 _ _) hn);refine(Ja (Tk _) rfl ?_).call;exact jC 24<|XC (n:=n) ok.1 E λr hr=>na<|q r v1 v2 m Z E ce.refl (λh=>⟨h,rfl⟩) λ_=>hr
 | .less a b,n,Z,Q,v1,v2,m,ok,hn,E,q=>by
  obtain⟨n,rfl⟩:∃m,n=m+3:=B3 (A0 (D0 _ _) hn);refine(Ja (Tk _) rfl ?_).call;exact jC 24<|zl (n:=n) (v1:=v1) (g:=g) (.inl (Jh a b rfl)) λr hr=>na<|q r v1 v2 m Z E ce.refl (λh=>⟨h,rfl⟩) λ_=>hr
 | .sum a b,n,Z,Q,v1,v2,m,ok,hn,E,q=>by
  obtain⟨n,rfl⟩:∃m,n=m+3:=B3 (A0 (D0 _ _) hn);refine(Ja (Tk _) rfl ?_).call;exact jC 24<|zl (n:=n) (v1:=v1) (g:=g) (.inr (.inl (Jh a b rfl))) λr hr=>na<|q r v1 v2 m Z E ce.refl (λh=>⟨h,rfl⟩) λ_=>hr
 | .lit b,n,Z,Q,v1,v2,m,ok,hn,E,q=>by
  obtain⟨n,rfl⟩:∃m,n=m+3:=B3 (A0 (D0 _ _) hn);refine(Ja (Tk _) rfl ?_).call;exact jC 24<|zl (n:=n) (v1:=v1) (g:=g) (.inr (.inr ⟨b,rfl⟩)) λr hr=>na<|q r v1 v2 m Z E ce.refl (λh=>⟨h,rfl⟩) λ_=>hr
 | .not c,n,Z,Q,v1,v2,m,ok,hn,E,q=>by
  refine Xa (Vq (h:=_) hn) λn ez hm=>?_;subst ez;refine(Ja (Tk _) rfl ?_).call;refine jC 11<|dj c ok hm E λr lh Zl m' Z' E' X h1 h2=>?_;induction r with
  |none=>refine jR 5 ?_;exact q none _ _ _ _ E' X h1 λ_ _ b h=>by cases h
  |some b=>
   induction b with
   |true=>refine jR 7 ?_;exact q (some false) _ _ _ _ E' X h1 λa b c h=>by cases h;exact h2 a b true rfl
   |false=>refine jR 7 ?_;exact q (some true) _ _ _ _ E' X h1 λa b c h=>by cases h;exact h2 a b false rfl
 | .par c,n,Z,Q,v1,v2,m,ok,hn,E,q=>by
  refine Xa (Vq (h:=_) hn) λn ez hm=>?_;subst ez;refine(Ja (Tk _) rfl ?_).call;exact jC 14<|dj c ok hm E λr lh Zl m' Z' E' X h1 h2=>na<|q r _ _ _ _ E' X h1 h2
 | .nul c d,n,Z,Q,v1,v2,m,ok,hn,E,q=>by
  refine Xa (Vq (h:=_) hn) λn ez hm=>?_;subst ez;refine(Ja (Tk _) rfl ?_).call;exact jC 17<|dj c ok (A0 (K3 (i5 _ _) _) hm) E λr lh Zl m' Z' E' X h1 h2=>na<|q r _ _ _ _ E' X h1 λ_ _ _ _=>rfl
 | .and c d,n,Z,Q,v1,v2,m,ok,hn,E,q=>by
  refine Xa (Vq (h:=_) hn) λn ez hm=>?_;subst ez;refine(Ja (Tk _) rfl ?_).call;refine jC 20<|dj c ok.1 (A0 (K3 (i5 _ _) _) hm) E λr lh Zl m' Z' E' X h1 h2=>?_;induction r with
  |none=>refine jR 8 ?_;exact q none _ _ _ _ E' X h1 λ_ _ b h=>by cases h
  |some b=>
   induction b with
   |false=>
    refine jR 8 ?_;exact q (some false) _ _ _ _ E' X h1 λa b c h=>by
     cases h;exact TO (h2 a b false rfl)
   |true=>
    refine jC 11<|dj d ok.2 (A0 (K3 (Nat.le_max_right _ _) _) hm) E' λr2 v1'' v2'' m'' Z'' E'' X2 k1 k2=>na<|q r2 _ _ _ _ E'' (X.trans X2) (λh=>⟨(h1 (k1 h).1).1,(k1 h).2.trans (h1 (k1 h).1).2⟩) λa b c h=>?_;have z:=k1 a;have y:=h1 z.1;have f1:=h2 z.1 b true rfl;have f2:=k2 a (y.2▸b) c h;induction c with|true=>exact AG f1 f2|false=>exact SO f1 f2
 | .or c d,n,Z,Q,v1,v2,m,ok,hn,E,q=>by
  refine Xa (Vq (h:=_) hn) λn ez hm=>?_;subst ez;refine(Ja (Tk _) rfl ?_).call;refine jC 23<|dj c ok.1 (A0 (K3 (i5 _ _) _) hm) E λr lh Zl m' Z' E' X h1 h2=>?_;induction r with
  |none=>refine jR 8 ?_;exact q none _ _ _ _ E' X h1 λ_ _ b h=>by cases h
  |some b=>
   induction b with
   |true=>
    refine jR 8 ?_;exact q (some true) _ _ _ _ E' X h1 λa b c h=>by
     cases h;exact QO (h2 a b true rfl)
   |false=>
    refine jC 11<|dj d ok.2 (A0 (K3 (Nat.le_max_right _ _) _) hm) E' λr2 v1'' v2'' m'' Z'' E'' X2 k1 k2=>na<|q r2 _ _ _ _ E'' (X.trans X2) (λh=>⟨(h1 (k1 h).1).1,(k1 h).2.trans (h1 (k1 h).1).2⟩) λa b c h=>?_;have z:=k1 a;have y:=h1 z.1;have f1:=h2 z.1 b false rfl;have f2:=k2 a (y.2▸b) c h;induction c with|true=>exact PO f1 f2|false=>exact zG f1 f2
 | .set k c,n,Z,Q,v1,v2,m,ok,hn,E,q=>by
  refine Xa (Vq (h:=_) hn) λn ez hm=>?_;subst ez;refine(Ja (Tk _) rfl ?_).call;refine jC 26<|dj c ok.2 hm E λr lh Zl m' Z' E' X h1 h2=>?_;induction r with
  |none=>refine jR 5 ?_;exact q none _ _ _ _ E' X h1 λ_ _ b h=>by cases h
  |some b=>
   refine jA 9<|qa (Oe E') ?_;rcases ok.1 with rfl|rfl
   ·induction m' with
    |true=>refine jA 3<|fe (PA E' _).1 ?_;have he:=(W0 (a:=AO.Ea [(1,.tup [.str [98],Md (some b)]),(2,Zl)]) (i4 E'.ne)).trans E'.e;refine jA 2<|qa (Da he)<|jA 3<|fe (QA he _) ?_;have⟨E2,X2⟩:=E'.put (x1:= .tup [.str [98],Md (some b)]) (x2:=Zl) (.b _) E'.l2 true;refine jR 1 ?_;exact q (some b) _ _ _ _ E2 (X.trans X2) (λh=>by cases h) λh=>by cases h
    |false=>refine jA 3<|fe (PA E' _).1 ?_;have he:=(W0 (a:=AO.Ea [(1,.tup [.str [98],Md (some b)]),(2,Zl)]) (i4 E'.ne)).trans E'.e;refine jA 2<|qa (Da he)<|jA 8<|fe (QA he _) ?_;have⟨E2,X2⟩:=E'.put (x1:= .tup [.str [98],Md (some b)]) (x2:=Zl) (.b _) E'.l2 true;refine jR 1 ?_;exact q (some b) _ _ _ _ E2 (X.trans X2) (λh=>by cases h) λh=>by cases h
   ·induction m' with
    |true=>refine jA 3<|fe (PA E' _).2 ?_;have he:=(W0 (a:=AO.Ea [(1,lh),(2,.tup [.str [98],Md (some b)])]) (i4 E'.ne)).trans E'.e;refine jA 2<|qa (Da he)<|jA 3<|fe (QA he _) ?_;have⟨E2,X2⟩:=E'.put (x1:=lh) (x2:= .tup [.str [98],Md (some b)]) E'.l1 (.b _) true;refine jR 1 ?_;exact q (some b) _ _ _ _ E2 (X.trans X2) (λh=>by cases h) λh=>by cases h
    |false=>refine jA 3<|fe (PA E' _).2 ?_;have he:=(W0 (a:=AO.Ea [(1,lh),(2,.tup [.str [98],Md (some b)])]) (i4 E'.ne)).trans E'.e;refine jA 2<|qa (Da he)<|jA 8<|fe (QA he _) ?_;have⟨E2,X2⟩:=E'.put (x1:=lh) (x2:= .tup [.str [98],Md (some b)]) E'.l1 (.b _) false;refine jR 1 ?_;exact q (some b) _ _ _ _ E2 (X.trans X2) h1 λa b c h=>(X0 rfl:Mb _ (.set 2 _) _=_).trans (h2 a b c h)
end
def wp(bh:Nat):ob->Prop| .gc p u qc=>(Oa bh p/\qc<32)/\u.length<=9| .isin p k=>Oa bh p/\k.length<=1| .bang p=>Oa bh p| .less a b=>(a=0\/a=1)/\b=1| .lit _=>True| .same p k _=>(Oa bh p/\p.root=2)/\0<=k/\k<6|_=>False
def ch(bh:Nat):Nat->ob->Prop
 |0,c=>wp bh c|d+1,c=>wp bh c\/(∃a,c= .not a/\ch bh d a)\/(∃a b,c= .and a b/\ch bh d a/\ch bh d b)\/(∃a b,c= .or a b/\ch bh d a/\ch bh d b)\/(∃a,c= .par a/\ch bh d a)\/(∃a,c= .nul (.not a) (.lit true)/\ch bh d a)\/
  ∃k a,c= .set k (.not a)/\(k=2\/(k=1/\bh=1))/\ch bh d a
section
variable{g:G}{D:WD}{s:St}{S:SQ}
theorem HJ{k:Int}(h0:0<=k)(h1:k<10):∃t:Tx,t.length<=9/\∀Z:AH,jb Z (.tup [.str [117,110,100,101,102,105,110,101,100],.str [115,116,114,105,110,103],.str [111,98,106,101,99,116],.str [117,110,100,101,102,105,110,101,100],.str [110,117,109,98,101,114],.str [102,117,110,99,116,105,111,110],.str [98,111,111,108,101,97,110],.str [115,121,109,98,111,108],.str [98,105,103,105,110,116],.str [111,116,104,101,114]]) (.int k)=some (.str t):=by
 have:k=0\/k=1\/k=2\/k=3\/k=4\/k=5\/k=6\/k=7\/k=8\/k=9:=by lia
 rcases this with rfl|rfl|rfl|rfl|rfl|rfl|rfl|rfl|rfl|rfl<;>exact(Na _ (N0 rfl) (λ_=>rfl))
theorem bn{x:Int}(h:0<=x):∃k:Nat,x=k:=Int.eq_ofNat_of_zero_le h
theorem Wt{x:Int}(h0:0<=x)(h1:x<100000)(Le:g.bh=0\/g.bh=1)(L:LS g D sc r0 s lc (la+1) Z)(q:∀c s' Z',wp g.bh c->LS g D sc r0 s' lc la Z'->Lx g s s' Z Z'->Q (zb c) Z'):KW w (n+3) 716 [.ref g.wi,.int x] Z Q:=by
 refine(Ja (aX _) rfl ?_).call;have dv:∀(m:Int),0<m->m<=100000->∀Z:AH,wc Z 3 (.int x) (.int m)=some (.int (x/m)):=λm a b Z=>vp h0 h1 a b;have mn:∀(y m:Int),0<m->∃k:Nat,y%m=k/\(k:Int)<m:=λy m h=>kE (bn (j4 y (Int.ne_of_gt h))) λk hk=>(Na k hk (hk▸H3 y h));refine jA 18<|Pc rfl (λe=>?_) λe=>?_
 ·refine jC 2<|Gi (n:=n) Le L λp s1 Z1 hp L1 X1=>jA 3<|Fa (dv 8 (N0 rfl) (N0 rfl) _)<|jA 2<|Xa (HJ (k:=x/8%10) (j4 _ (N0 rfl)) (H3 _ (N0 rfl))) λt hl ht=>qa (ht _)<|jA 2<|Fa (dv 80 (N0 rfl) (N0 rfl) _)<|Xa (mn (x/80) 32 (N0 rfl)) λk hk kL=>jA 1<|Fa (show wc Z1 4 (.int (x/80)) (.int 32)=some (.int k) by refine rq hk ?_;rfl) ?_;exact jR 1<|q (.gc p t k) _ _ ⟨⟨hp,Int.ofNat_lt.mp kL⟩,hl⟩ L1 X1
 refine jA 2<|Pc rfl (λe=>jC 2<|Gi (n:=n) Le L λp s1 Z1 hp L1 X1=>jA 3<|Fa (dv 8 (N0 rfl) (N0 rfl) _)<|jA 2<|Xa (py (a:=107) (b:=98) (k:=x/8%2) (j4 _ (N0 rfl)) (H3 _ (N0 rfl))) λc _ hc=>qa (hc _)<|jR 1<|q (.isin p [c]) _ _ ⟨hp,K0 1⟩ L1 X1) λe=>?_;refine jA 2<|Pc rfl (λe=>jC 2<|Gi (n:=n) Le L λp s1 Z1 hp L1 X1=>jR 1<|q (.bang p) _ _ hp L1 X1) λe=>?_;have L0:LS g D sc r0 s lc la Z:=L.low (K0 _) (Q1 _ _);refine jA 2<|Pc rfl (λe=>?_) λe=>?_
 ·refine jA 2<|Fa (dv 16 (N0 rfl) (N0 rfl) _)<|jA 3<|Pc rfl (λe=>?_) λe=>?_
  ·refine jA 3<|Fa (dv 8 (N0 rfl) (N0 rfl) _)<|jR 4 ?_;exact q (.less (x/8%2) 1) _ _ ⟨by lia,rfl⟩ L0 Lx.refl
  ·refine jA 3<|Fa (dv 8 (N0 rfl) (N0 rfl) _) ?_;have:x/8%2=0\/x/8%2=1:=by lia
   rcases this with h|h
   ·refine jA 1<|Fa (show wc Z 4 (.int (x/8)) (.int 2)=some (.int 0) by refine rq h ?_;rfl) ?_;exact jR 1<|q (.lit false) _ _ trivial L0 Lx.refl
   ·refine jA 1<|Fa (show wc Z 4 (.int (x/8)) (.int 2)=some (.int 1) by refine rq h ?_;rfl) ?_;exact jR 1<|q (.lit true) _ _ trivial L0 Lx.refl
 exact jA 6<|Fa (dv 8 (N0 rfl) (N0 rfl) _)<|jA 15<|Fa (dv 16 (N0 rfl) (N0 rfl) _)<|jA 4<|Fa (dv 96 (N0 rfl) (N0 rfl) _)<|jR 5<|q (.same ⟨2,[⟨109,[97],_,0⟩,⟨109,[98],false,0⟩]⟩ (x/16%6) _) _ _ (sf ⟨.inr ⟨rfl,.inr (.inl (Ke 109 _ 0 109 _ 0 rfl (.inl rfl) (.inl rfl) (N0 rfl) (.inl rfl)))⟩,rfl⟩ (j4 _ (N0 rfl)) (H3 _ (N0 rfl))) L0 Lx.refl
noncomputable def dr:Nat->Nat|0=>2|d+1=>dr d+dr d+2
theorem hV(la d:Nat):la+dr (d+1)=la+dr d+dr d+2:=by show la+(dr d+dr d+2)=_;exact o4 (Lm [_,_] 3363543313472262522012416 tO) (Lm [_,_] 3363570956566775296975616 tO)
theorem Hz(Le:g.bh=0\/g.bh=1):∀(d:Nat){n la:Nat}{dd:Int}{s:St}{Z:AH}{Q:AV->AH->Prop},dd=(d:Int)->d+4<=n->LS g D sc r0 s lc (la+dr d) Z->(∀c s' Z',ch g.bh d c->LS g D sc r0 s' lc la Z'->Lx g s s' Z Z'->Q (zb c) Z')->KW w n 723 [.ref g.wi,.int dd] Z Q
 |0,n,la,dd,s,Z,Q,hd,hn,L,q=>by
  subst hd;obtain⟨n,rfl⟩:∃m,n=m+4:=B3 hn;refine(Ja (UR _) rfl ?_).call;exact jA 2<|qa (Zq L)<|jC 1<|Pl (n:=n+2) (la:=la+1) (N0 rfl) L λx s1 Z1 h0 h1 L1 X1=>jA 11<|Fa (vp h0 (Int.lt_of_lt_of_le h1 (N0 rfl)) (N0 rfl) (N0 rfl))<|jC 0<|Wt (n:=n) (Int.ediv_nonneg h0 (N0 rfl)) (by lia) Le L1 λc s2 Z2 hc L2 X2=>na<|q c _ _ hc L2 (X1.trans X2)
 |d+1,n,la,dd,s,Z,Q,hd,hn,L,q=>by
  obtain⟨n,rfl,hm⟩:∃m,n=m+4/\d+4<=m+3:=(Na (n-4) ((P1 (Fb [_,_] 44115307224207725344 tO hn)).symm) (Jc [_,_,_] 13020458025663114572380817260308889109248 tO hn (KX _ _)));have EB:¬dd=0:=by lia
  have FP:dd-1=(d:Int):=by lia
  refine(Ja (UR _) rfl ?_).call;refine jA 2<|qa (Zq L)<|jC 1<|Pl (n:=n+2) (la:=la+dr d+dr d+1) (N0 rfl) (hV la d▸L) λx s1 Z1 h0 h1 L1 X1=>?_;have h2:x<100000:=Int.lt_of_lt_of_le h1 (N0 rfl);have dv:∀Z:AH,wc Z 3 (.int x) (.int 12)=some (.int (x/12)):=λZ=>vp h0 h2 (N0 rfl) (N0 rfl);have sub:∀{s1:St}{Z1:AH}{la:Nat}{R:AV->AH->Prop},LS g D sc r0 s1 lc (la+dr d) Z1->(∀c s' Z',ch g.bh d c->LS g D sc r0 s' lc la Z'->Lx g s1 s' Z1 Z'->R (zb c) Z')->KW w (n+3) 723 [.ref g.wi,.int (dd-1)] Z1 R:=λL q=>Hz Le d FP hm L q;have low:∀{s1:St}{Z1:AH}{k:Nat},LS g D sc r0 s1 lc (la+k) Z1->LS g D sc r0 s1 lc la Z1:=λL=>L.low (K0 _) (Q1 _ _);have L1':LS g D sc r0 s1 lc (la+dr d) Z1:=L1.low (K0 _) (Lm [_,_] 64212605174055680 tO);have iW:LS g D sc r0 s1 lc (la+dr d+dr d) Z1:=L1.low (K0 _) (Q1 _ 1);refine jA 7<|Dd (C0 some (D1 EB))<|jA 2<|Pc rfl (λe=>jA 3<|Fa (dv _)<|jC 0<|Wt (n:=n) (Int.ediv_nonneg h0 (N0 rfl)) (by lia) Le L1 λc s2 Z2 hc L2 X2=>na<|q c _ _ (.inl hc) (L2.low (K0 _) (Lm [_,_] 1108107264 tO)) (X1.trans X2)) λe=>?_;refine jA 2<|Pc rfl (λe=>jC 5<|sub L1' λc s2 Z2 hc L2 X2=>jR 1<|q (.not c) _ _ (.inr (.inl (Na c rfl hc))) L2 (X1.trans X2)) λe=>?_;refine jA 2<|Pc rfl (λe=>?_) λe=>?_
  ·exact jA 2<|Pc rfl (λe=>jC 5<|sub iW λc s2 Z2 hc L2 X2=>jC 4<|sub L2 λc' s3 Z3 Pp L3 X3=>jR 1<|q (.and c c') _ _ (.inr (.inr (.inl (Wa c c' rfl hc Pp)))) L3 ((X1.trans X2).trans X3)) λe=>jC 5<|sub iW λc s2 Z2 hc L2 X2=>jC 4<|sub L2 λc' s3 Z3 Pp L3 X3=>jR 1<|q (.or c c') _ _ (.inr (.inr (.inr (.inl (Wa c c' rfl hc Pp))))) L3 ((X1.trans X2).trans X3)
  refine jA 2<|Pc rfl (λe=>?_) λe=>?_
  ·exact jA 2<|Fa (dv _)<|jA 3<|Pc rfl (λe=>jC 5<|sub L1' λc s2 Z2 hc L2 X2=>jR 1<|q (.par c) _ _ (.inr (.inr (.inr (.inr (.inl (Na c rfl hc)))))) L2 (X1.trans X2)) λe=>jC 6<|sub L1' λc s2 Z2 hc L2 X2=>jR 5<|q (.nul (.not c) (.lit true)) _ _ (.inr (.inr (.inr (.inr (.inr (.inl (Na c rfl hc))))))) L2 (X1.trans X2)
  refine jA 3<|qa (ni L1)<|jA 1 ?_;have fin:∀{k:Nat}{c:ob}{s2:St}{Z2:AH},(k=2\/(k=1/\g.bh=1))->ch g.bh d c->LS g D sc r0 s2 lc la Z2->Lx g s1 s2 Z1 Z2->Q (zb (.set k (.not c))) Z2:=λhk hc L2 X2=>
   q (.set _ (.not _)) _ _ (.inr (.inr (.inr (.inr (.inr (.inr (Wa _ _ rfl hk hc))))))) L2 (X1.trans X2)
  refine Ue (k:=?kk) (st:=?sst) (fr:=?ffr) (Z:=?ss) (λv=>∃k:Nat,(k=2\/(k=1/\g.bh=1))/\v= .int k) ?rest λz=>?main
  case main=>
   refine Pc rfl (λe=>?_) λe=>?_
   ·refine jA 2<|Fa (dv _)<|jA 3<|Pc rfl (λ_=>?_) λ_=>?_
    ·refine jA 1 ?_;exact z _ (Na 1 (.inr ⟨rfl,by have:=N0 e;lia⟩) rfl)
    ·refine jA 1 ?_;exact z _ (Na 2 (.inl rfl) rfl)
   ·refine jA 1 ?_;exact z _ (Na 2 (.inl rfl) rfl)
  rintro _ ⟨k,hk,rfl⟩;exact jC 5<|sub L1' λc s2 Z2 hc L2 X2=>jR 2<|fin hk hc L2 X2
end
noncomputable def Ni(bh:Nat):Tx:=if bh=0 then[115,49]else[115,49,46,97]
noncomputable def HD(bh:Nat)(p:Mf):Bool:=(Nj (Ni bh) p==pc bh p)&&(Nat.ble (Ic (La p)) 40&&(!decide (rg (La p)=Ni bh)&& !decide ((uw (La p)).1=Ni bh)))
noncomputable def QI(f:List Xr->Bool):Bool:=
 (([109,105,110,99]:List Nat).all λc1=>[true,false].all λo1=>([0,1,2]:List Nat).all λh1=>([109,105,110,99]:List Nat).all λc2=>[true,false].all λo2=>([0,2]:List Nat).all λh2=>f [⟨c1,[97],o1,h1⟩,⟨c2,[98],o2,h2⟩])&&
  ([110,99]:List Nat).all λc=>([0,1,2]:List Nat).all λh=>f [⟨c,[97],true,h⟩]
theorem ku{f:List Xr->Bool}(h:QI f=true){r:List Xr}(hr:Yk r):f r=true:=by
 have so:∀{c:Nat},wf c->c∈([109,105,110,99]:List Nat):=λh=>by rcases h with h|h|h|h<;>rw[h]<;>decide
 have bo:∀b:Bool,b∈[true,false]:=λb=>by cases b<;>decide
 have th:∀{k:Nat},k<=2->k∈([0,1,2]:List Nat):=λ{k} h=>by
  have:k=0\/k=1\/k=2:=by lia
  rcases this with h|h|h<;>rw[h]<;>decide
 have tw:∀{k:Nat},k=0\/k=2->k∈([0,2]:List Nat):=λh=>by rcases h with h|h<;>rw[h]<;>decide
 unfold QI at h;rw[M0]at h;rcases hr with⟨c1,o1,h1,c2,o2,h2,rfl,a,b,c,d⟩|⟨c,h1,rfl,a,b⟩
 ·exact B2.mp (B2.mp (B2.mp (B2.mp (B2.mp (B2.mp h.1 c1 (so a)) o1 (bo o1)) h1 (th c)) c2 (so b)) o2 (bo o2)) h2 (tw d)
 ·exact B2.mp (B2.mp h.2 c (by rcases a with h|h<;>rw[h]<;>decide)) h1 (th b)
theorem yY:QI (λr=>HD 0 ⟨1,r⟩)=true:=by decide+kernel
theorem xY:([109,105]:List Nat).all (λc=>[true,false].all λo=>QI λr=>HD 1 ⟨1,[⟨c,[97],o,0⟩]++r⟩)=true:=by decide+kernel
theorem wY:QI (λr=>HD 0 ⟨2,r⟩&&HD 1 ⟨2,r⟩)=true:=by decide+kernel
theorem bG{bh:Nat}{p:Mf}(hp:Oa bh p)(Le:bh=0\/bh=1):HD bh p=true:=by
 obtain⟨root,steps⟩:=p;rcases hp with⟨h1,b,r,h2,h3,h4⟩|⟨h1,h2⟩
 ·cases h1;cases h2;rcases h3 with⟨rfl,rfl⟩|⟨rfl,c,o,rfl,hc⟩
  ·exact ku yY h4
  ·have z:=B2.mp (B2.mp xY c (by rcases hc with h|h<;>refine rr h ?_<;>decide)) o (by cases o<;>decide);exact ku z h4
 ·cases h1;rcases h2 with h2|h2
  ·cases h2;rcases Le with rfl|rfl<;>decide+kernel
  ·have z:=ku wY h2;rw[M0]at z;rcases Le with rfl|rfl
   ·exact z.1
   ·exact z.2
structure PQ(bh:Nat)(p:Mf):Prop where
 t:Nj (Ni bh) p=pc bh p
 sz:Ic (La p)<=40
 o:FJ (Ni bh) p
theorem Oa.facts{bh:Nat}{p:Mf}(hp:Oa bh p)(Le:bh=0\/bh=1):PQ bh p:=by have z:=bG hp Le;unfold HD at z;simp only[M0,beq_iff_eq,Bool.not_eq_true',decide_eq_false_iff_not]at z;have sz:=j3 z.2.1;exact⟨z.1,sz,A0 sz (N0 rfl),z.2.2.1,z.2.2.2⟩
structure Qg(bh d:Nat)(c:ob):Prop where
 so:Ex c
 cp:Vz bh c
 co:ds (Ni bh) c
 ht:zi c<=2*d
 cn:Kc c+22<=42*2^d
 sz:Ic (Qb c)+10<=70*2^d
 dp:fh c<=2*d
 may:∀b,Xc (Ni bh) c b=Mb bh c b
theorem UN(p:Mf)(h:Bool):Ic (Re p h)<=Ic (La p)+2:=by
 unfold Re;split
 ·exact K0 _
 ·exact Y4 _
theorem dK(x y:Nd)(h:Prop) [Decidable h](s:Tx):Ic (if h then .bin s y x else .bin s x y)=Ic x+Ic y+1:=by
 split
 ·show Ic y+Ic x+1=Ic x+Ic y+1;rw[Nat.add_comm (Ic y)]
 ·rfl
theorem wp.facts{bh:Nat}{c:ob}(Le:bh=0\/bh=1)(h:wp bh c):Qg bh 0 c:=by
 induction c with
 |gc p u qc=>
  have f:=h.1.1.facts Le;refine⟨⟨h.1.1.pw,h.1.2⟩,h.1,f.o,K0 _,K0 _,?_,K0 _,λb=>C0 (λx=> !x||(b==(decide (u=Hd)==decide (qc%2=0)))) f.t⟩;have h1:=UN p (decide (qc/16=1));have h2:Ic (if qc/8%2=0 then Nd.str u else .Ti u)=u.length+1:=by split<;>rfl
  show Ic (if qc/4%2=1 then Nd.bin (Zd qc) (if qc/8%2=0 then Nd.str u else .Ti u) (Re p (decide (qc/16=1)))else .bin (Zd qc) (Re p (decide (qc/16=1))) (if qc/8%2=0 then Nd.str u else .Ti u))+10<=_;rw[dK,h2];have:=f.sz;have:=h.2;exact Lp [_,_,_] 4120754888105258474456597257265618438977972573708767968585197576960 tO h1 ‹_› this
 |isin p k=>have f:=h.1.facts Le;refine⟨h.1.pw,h.1,f.o,K0 _,K0 _,?_,K0 _,λb=>C0 (λx=> !x|| !b) f.t⟩;have:=f.sz;have:=h.2;show k.length+1+Ic (La p)+1+10<=_;exact Jc [_,_] 2729758047542775597689846204205990484703194338942542592 tO ‹_› this|bang p=>have f:=Oa.facts h Le;refine⟨Oa.pw h,h,⟨f.o,A0 f.sz (N0 rfl)⟩,K0 _,K0 _,?_,K0 _,λb=>C0 (λx=> !x|| !b) f.t⟩;have:=f.sz;show Ic (La p)+1+10<=_;exact Fb [_] 51735990424046069844105342509824 tO this|less a b=>refine⟨?_,trivial,trivial,K0 _,K0 _,j3 rfl,K0 _,λb=>by cases b<;>rfl⟩;refine kA h λh1 ez=>?_;clear h;subst ez;rcases h1 with rfl|rfl<;>exact(sf ⟨by decide,by decide⟩ (N0 rfl) (N0 rfl))
 |lit b=>exact⟨trivial,trivial,trivial,K0 _,K0 _,j3 rfl,K0 _,λb=>by cases b<;>rfl⟩|same p k e=>
  have f:=h.1.1.facts Le;refine⟨(sf h.1.1.pw h.2.1 (Int.lt_trans h.2.2 (N0 rfl))),h.1,⟨f.o,?_⟩,K0 _,K0 _,?_,K0 _,λb=>by cases b<;>rfl⟩
  ·have:=f.t;unfold pc at this;rw[h.1.2]at this;exact this
  ·have:=f.sz;show Ic (La p)+2+1+10<=_;exact Fb [_] 1695284934215141616651643865518596864 tO this
 |_=>exact h.elim
theorem Qg.up{bh d:Nat}{c:ob}(f:Qg bh d c):Qg bh (d+1) c:=
 ⟨f.so,f.cp,f.co,A0 f.ht ((Q1 _ _)),A0 f.cn (by lia),A0 f.sz (by lia),A0 f.dp ((Q1 _ _)),f.may⟩
theorem ch.facts{bh:Nat}(Le:bh=0\/bh=1):∀(d:Nat){c:ob},d<=2->ch bh d c->Qg bh d c
 |0,c,_,h=>wp.facts Le h|d+1,c,hd,h=>by
  have ih:=λ{c:ob}(h:ch bh d c)=>ch.facts Le d (Nat.le_of_succ_le hd) h;have e:2^(d+1)=2*2^d:=Nat.pow_succ';rcases h with h|⟨a,rfl,ha⟩|⟨a,b,rfl,ha,hb⟩|⟨a,b,rfl,ha,hb⟩|⟨a,rfl,ha⟩|⟨a,rfl,ha⟩|⟨k,a,rfl,hk,ha⟩
  ·exact Nat.rec (motive:=λk=>Qg bh k c) (wp.facts Le h) (λ_ f=>f.up) (d+1)
  ·have f:=ih ha;have:=f.ht;have:=f.cn;have:=f.sz;have:=f.dp;exact⟨f.so,f.cp,f.co,by show zi a+1<=_;exact Fb [_,_] 158180388006461748702642944 tO ‹_›,by show Kc a+1+22<=_;exact Jc [_,_,_] 406795316806971571817329012921190409331456 tO e ‹_›,by show Ic (Qb a)+1+10<=_;exact Jc [_,_,_] 444890991166167260734760194704107434435328 tO e ‹_›,by show fh a+1<=_;exact Fb [_,_] 158180388006461748702642944 tO this,λb=>f.may (!b)⟩
  ·have f:=ih ha;have f2:=ih hb;have:=f.ht;have:=f.cn;have:=f.sz;have:=f.dp;have:=f2.ht;have:=f2.cn;have:=f2.sz;have:=f2.dp;exact⟨⟨f.so,f2.so⟩,⟨f.cp,f2.cp⟩,⟨f.co,f2.co⟩,by show max (zi a) (zi b)+1<=_;lia,by show Kc a+Kc b+1+22<=_;exact Lp [_,_,_,_] 669870325749052927395573337170230220908760064271868008096512 tO e ‹_› ‹_›,by show Ic (Qb a)+Ic (Qb b)+1+10<=_;exact Lp [_,_,_,_] 713791647950269341086094106784743533560803273220683752825600 tO e ‹_› ‹_›,by show max (fh a) (fh b)+1<=_;lia,λb=>by induction b with
    |false=>exact show(_||_)=(_||_)from congr (C0 or (f.may false)) (congr (C0 and (f.may true)) (f2.may false))|true=>exact show(_&&_)=(_&&_)from congr (C0 and (f.may true)) (f2.may true)⟩
  ·have f:=ih ha;have f2:=ih hb;have:=f.ht;have:=f.cn;have:=f.sz;have:=f.dp;have:=f2.ht;have:=f2.cn;have:=f2.sz;have:=f2.dp;exact⟨⟨f.so,f2.so⟩,⟨f.cp,f2.cp⟩,⟨f.co,f2.co⟩,by show max (zi a) (zi b)+1<=_;lia,by show Kc a+Kc b+1+22<=_;exact Lp [_,_,_,_] 669870325749052927395573337170230220908760064271868008096512 tO e ‹_› ‹_›,by show Ic (Qb a)+Ic (Qb b)+1+10<=_;exact Lp [_,_,_,_] 713791647950269341086094106784743533560803273220683752825600 tO e ‹_› ‹_›,by show max (fh a) (fh b)+1<=_;lia,λb=>by induction b with
    |false=>exact show(_&&_)=(_&&_)from congr (C0 and (f.may false)) (f2.may false)|true=>exact show(_||_)=(_||_)from congr (C0 or (f.may true)) (congr (C0 and (f.may false)) (f2.may true))⟩
  ·have f:=ih ha;have:=f.ht;have:=f.cn;have:=f.sz;have:=f.dp;exact⟨f.so,f.cp,f.co,by show zi a+1<=_;exact Fb [_,_] 158180388006461748702642944 tO ‹_›,by show Kc a+1+22<=_;exact Jc [_,_,_] 406795316806971571817329012921190409331456 tO e ‹_›,by show Ic (Qb a)+1+10<=_;exact Jc [_,_,_] 444890991166167260734760194704107434435328 tO e ‹_›,by show fh a<=_;exact A0 ‹_› (Q1 _ _),λb=>f.may b⟩
  ·have f:=ih ha;have:=f.ht;have:=f.cn;have:=f.sz;have:=f.dp;exact⟨⟨f.so,trivial⟩,f.cp,trivial,by show max (zi a+1) 0+1<=_;lia,by show Kc a+1+20+1+22<=_;exact Jc [_,_,_] 436793145462975511439285849142118559070887734960896 tO e ‹_›,by show Ic (Qb a)+1+1+1+10<=_;exact Jc [_,_,_] 477698064335928321630424991664183456978069976015616 tO e ‹_›,by show 1<=_;exact Nat.succ_pos _,λb=>by cases b<;>rfl⟩
  ·have f:=ih ha;have:=f.ht;have:=f.cn;have:=f.sz;have:=f.dp;have pd:2^d<=4:=by
    have:d=0\/d=1:=by lia
    rcases this with rfl|rfl<;>decide
   have ps:Ic (La ⟨k,[]⟩)=2:=by rcases hk with rfl|⟨rfl,_⟩<;>rfl
   refine⟨⟨?_,f.so⟩,⟨?_,f.cp⟩,⟨by show Ic (Qb a)+1<=_;exact Jc [_,_] 208296071025117398310270299487582019158784 tO ‹_› pd,?_⟩,by show zi a+1+1<=_;exact Fb [_,_] 5183254954195738581488238617344 tO ‹_›,by show Kc a+1+20+22<=_;exact Jc [_,_,_] 13329868941130844465310237095401588224777020160 tO e ‹_›,by show Ic (La ⟨k,[]⟩)+(Ic (Qb a)+1)+1+10<=_;refine rr ps ?_;exact Jc [_,_,_] 477698064335928321630424991664183456978034610692864 tO e ‹_›,by show fh a+1+1<=_;exact Fb [_,_] 5183254954195738581488238617344 tO this,λb=>C0 (λx=>if k=2 then x else true) (f.may (!b))⟩
   ·rcases hk with rfl|⟨rfl,_⟩
    ·exact .inr rfl
    ·exact .inl rfl
   ·rcases hk with rfl|⟨rfl,_⟩
    ·exact .inr rfl
    ·exact .inl rfl
   ·rcases hk with rfl|⟨rfl,h1⟩
    ·exact .inl ⟨rfl,f.co⟩
    ·exact .inr ⟨rfl,by refine rr h1 ?_;rfl⟩
theorem Jq(n:Nat):∀A B:List Int,A.length=B.length->Rg (Of n) (ia A) (ia B)=some (decide (A=B))
 |[],[],_=>rfl|a::A,b::B,h=>by
  have ih:=Jq n A B (Nat.succ.inj h);have e:Of n (.int a) (.int b)=some (decide (a=b)):=by cases n<;>rfl
  show((Of n (.int a) (.int b)).bind λa=>(Rg (Of n) (ia A) (ia B)).map (a&&·))=_;refine rr e<|rr ih ?_;show some (decide (a=b)&&decide (A=B))=some (decide (a::A=b::B));rw[<-Bool.decide_and];exact C0 some (decide_eq_decide.mpr (by rw[List.cons.injEq]))
theorem ci(n:Nat)(A B:List Int):Iq (Of n) (ia A) (ia B)=some (decide (A=B)):=by
 have e:∀l:List Int,(ia l).length=l.length:=λl=>R0 _;unfold Iq;rw[e,e];by_cases h:A.length=B.length
 ·rw[X0 h,Jq n A B h]
 ·rw[Y0 h,D1 (λe=>h (C0 List.length e))]
theorem Sn{xs:List AV}(h:xs.length<=Ab):Se (some xs)=some xs:=X0 h
theorem Bh(p:Int):∀A:List Int,Bc (.int p) (ia A)=some (decide (p∈A))
 |[]=>rfl|a::A=>by
  show Bc (.int p) (.int a::ia A)=_;rw[Wy,Bh p A,d5,<-Bool.decide_or];exact C0 some (decide_eq_decide.mpr (by rw[K1,eq_comm]))
theorem Lv.null(l:Lv h):∃c,(∀Z:AH,jb Z h (.int 0)=some c)/\(∀Z:AH,Ta Z 8 c (.tup [.str [117],.str [110]])=some (ae h))/\∀Z:AH,Ta Z 9 c (.tup [.str [117],.str [110]])=some !(ae h):=by cases l<;>exact(Kf _ (λ_=>rfl) (λ_=>rfl) (λ_=>rfl))
def Yd(W:List Int)(b:Bool)(x:AV):Prop:=∃bb h,x= .tup [.int bb,h]/\Lv h/\(wb W b=[11]->ae h=false)/\(wb W b≠[11]->wb W b≠[1]->wb W b≠[0]->bb∈wb W b)
section
variable{g:G}{D:WD}{s:St}{S:SQ}
theorem Ht(A B:List Int):Ta Z 0 (.ba (ia A)) (.ba (ia B))=some (decide (A=B)):=ci 4 A B
theorem LK(A B:List Int):Ta Z 1 (.ba (ia A)) (.ba (ia B))=some !(decide (A=B)):=C0 (Option.map (!·)) (ci 4 A B)
theorem rG(A:List Int)(p:Int):Ta Z 9 (.int p) (.ba (ia A))=some !(decide (p∈A)):=C0 (Option.map (!·)) (Bh p A)
theorem IK(A:List Int):Ta Z 9 (.ba (ia A)) (.tup [.ba [.int 1],.ba [.int 0]])=some !(decide ([1]=A)||decide ([0]=A)):=by have e1:Of 4 (.ba [.int 1]) (.ba (ia A))=some (decide ([1]=A)):=ci 3 [1] A;have e0:Of 4 (.ba [.int 0]) (.ba (ia A))=some (decide ([0]=A)):=ci 3 [0] A;show Option.map (!·) ((Of 4 (.ba [.int 1]) (.ba (ia A))).bind λa=>((Of 4 (.ba [.int 0]) (.ba (ia A))).bind λb=>some (b||false)).map (a||·))=_;refine rr e1<|rr e0 ?_;show some (!(_||(_||false)))=_;rw[Bool.or_false]
theorem NF(h:p∈Lc):p≠2/\∃k,(∀Z:AH,jb Z (Bq p) (.int 0)=some (.int k))/\k≠6:=by rcases Nv h with rfl|rfl|rfl|rfl|rfl|rfl|rfl|rfl|rfl|rfl<;>exact(Nm (N0 rfl) _ (λ_=>rfl) (N0 rfl))
theorem mQ{ps:List Int}(T:TL g rows Z)(b:Vb rows)(d:PD rows t ps)(hl:ps.length<=100)(q:Q (.ba (ia ps)) Z):KW w (n+1) 791 [.ref g.ti,.int t] Z Q:=by
 refine(Ja (UW _) rfl ?_).call;cases d with
 |nil=>exact jR 4<|q
 |one _ hp=>exact Eh (NF hp) λh2 k hk h6=>jA 2<|Dd (C0 some (D1 h2))<|jA 1<|Rb (zd T)<|jA 1<|qa (vg T b hp)<|jA 1<|qa (hk _)<|jA 1<|Dd (C0 some (D1 h6))<|jR 2<|q
 |many _ i h2 aN hi hr=>have hr:=Iy T hr;refine jA 2<|Dd (C0 some (D1 (by lia)))<|jA 1<|Rb (zd T)<|jA 1<|qa hr<|jA 5<|Rb (zd T)<|jA 1<|qa hr<|jA 2 ?_;exact Ef rfl (v:= .ba (ia ps)) (C0 (Option.map AV.ba) (Sn (by rw[ia,R0];exact xa (A0 hl (N0 rfl)))))<|na<|q
noncomputable abbrev QF:List C:=Tg LV[2]?
theorem Ky{x:AV}(h:Yd W b x)(q:∀x5 x6,S .next [a0,a1,a2,a3,some (.ba (ia (wb W b))),x5,x6] Z):vz K [5,6] (cS QF .fin) x [a0,a1,a2,a3,some (.ba (ia (wb W b))),x5,x6] Z S:=by
 refine db h λbb hd ez tz=>?_;clear h;subst ez;refine Mm tz λl h1 h2=>?_;refine Df l.null λc c1 c2 _=>Aa rfl<|jA 3<|Pc (Ht _ [11]) (λe=>jA 2<|qa (c1 _)<|jA 3<|Dd ((c2 _).trans (C0 some (h1 (N0 e))))<|Ka (q _ _)) λe11=>?_
 ·refine jA 6<|Pc (IK _) (λe=>?_) λe=>?_
  ·have e:¬(wb W b=[1]\/wb W b=[0]):=by
    rintro(h|h)
    ·replace e:=h▸e;cases e
    ·replace e:=h▸e;cases e
   refine jA 2<|Dd ((rG _ _).trans (C0 some ?_)) ?_
   ·refine rr (Y2 (h2 (Y1 e11) (λz=>e (.inl z)) λz=>e (.inr z))) ?_;rfl
   ·exact Ka (q _ _)
  ·exact Ka (q _ _)
theorem Ly(hc:ye vi je Z):∀(xs:List AV){x5 x6:Option AV},(∀x∈xs,Yd W b x)->(∀x5 x6,S .next [a0,a1,a2,a3,some (.ba (ia (wb W b))),x5,x6] Z)->Eb (ye vi je) (vz K [5,6] (cS QF .fin)) xs [a0,a1,a2,a3,some (.ba (ia (wb W b))),x5,x6] Z S:=by
 intro xs;induction xs with|nil=>intro _ _ _ q;exact⟨hc,q _ _⟩|cons x xs ih=>intro _ _ h q;exact⟨hc,Ky (h x (.head _)) λ_ _=>ih (λy hy=>h y (.tail _ hy)) q⟩
theorem Ut{xs:List AV}(L:LS g D sc r0 s lc la Z)(d:PD s.rows t (wb D.W b))(hi:sa Z vi=some xs)(hl:xs.length<=100)(hx:∀x∈xs,Yd D.W b x)(q:Q (.bool true) Z):KW w (n+2) 798 [.ref g.wi,.int t,.bool b,vi] Z Q:=by
 refine(Ja (TW _) rfl ?_).call;have Om:(wb D.W b).length<=100:=by induction b with|true=>exact L.N.W.len|false=>exact L.N.W.slen
 refine jA 2<|qa (v:= .ref g.ti) (Da L.wi)<|jC 1<|mQ (n:=n) L.N.T L.N.b d Om<|jA 3<|Ue (k:=?k1) (st:=?st1) (fr:=?fr1) (Z:=?s1) (λv=>v= .ba (ia (wb D.W b))) ?rest1 λz=>?main1
 case main1=>
  refine Mp rfl (λe=>?_) λe=>?_
  ·refine jA 2 ?_;refine qa (v:= .ba (ia D.W)) (Da L.wi) ?_;exact z _ (C0 (λb=>AV.ba (ia (wb D.W b))) e.symm)
  ·refine jA 2 ?_;refine qa (v:= .ba (ia (Tc D.W))) (Da L.wi) ?_;exact z _ (C0 (λb=>AV.ba (ia (wb D.W b))) e.symm)
 rintro _ rfl;refine Dd ((LK _ _).trans (by refine rr (Y2 rfl) ?_;rfl)) ?_;refine jA 1<|Eg hi (xa (A0 hl (N0 rfl)))<|Ly (W:=D.W) (b:=b) (show sa Z vi=some xs from hi) xs hx λ_ _=>?_;refine show At _ _ _ _ _ _ from ?_
 refine jR 1 ?_;exact q
end
structure Vp(W:List Int)(bb:Int)(h:AV):Prop where
 lv:Lv h
 at':bb∈W\/W=[1]\/W=[0]
 nn:ae h=false->yh bb=false
structure WL(g:G)(D:WD):Prop where
 Le:g.bh=0\/g.bh=1
 key:g.key=Ni g.bh
 n11:D.W≠[11]
 rem:∀p∈D.W,yh p=false->D.W=[1]\/p∈Tc D.W
 heads:∀x∈D.heads,∃bb h,x= .tup [.int bb,h]/\Vp D.W bb h
 hl:D.heads.length<=8
 y:Lv D.y
theorem Rt{g:G}{D:WD}(F:WL g D)(k:Vp D.W bb h)(hb:ae h=true->b=true):Yd D.W b (.tup [.int bb,h]):=by
 refine(Wa bb h rfl k.lv ?_);induction b with
 |true=>exact⟨λz=>absurd z F.n11,λ_ a c=>k.at'.elim id λz=>z.elim (λz=>absurd z a) λz=>absurd z c⟩|false=>
  have hn:ae h=false:=by cases e:ae h with|true=>exact(hb e).symm|false=>rfl
  refine⟨λ_=>hn,λa1 a2 a3=>?_⟩;rcases k.at' with z|z|z
  ·rcases F.rem bb z (k.nn hn)with y|y
   ·exact absurd (show Tc D.W=[11] by refine rr y ?_;decide+kernel) a1
   ·exact y
  ·exact absurd (show Tc D.W=[11] by refine rr z ?_;decide+kernel) a1
  ·exact absurd (show Tc D.W=[0] by refine rr z ?_;decide+kernel) a3
noncomputable def uk(bh:Nat)(h:AV):AV:=if bh=0 then h else .tup [.str [111],.rc [[97]] [h]]
theorem lH{bh:Nat}(l:Lv h):Lv (uk bh h):=by
 unfold uk;split
 ·exact l
 ·exact .o _ _ λx hx=>rr (J0.mp hx) l
theorem Kl{bh:Nat}(hb:bh=0\/bh=1)(l:Lv h)(n:ae h=true):Ae bh (uk bh h):=by
 rcases hb with rfl|rfl
 ·exact .inl (sf rfl n l)
 ·exact .inr (YT rfl h n l rfl)
section
variable{g:G}{D:WD}{s:St}{S:SQ}
theorem LS.grow(L:LS g D sc r0 s lc la Z)(x:tb Z Z'):LS g D sc r0 s lc la Z':=
 ⟨(L.N.grow x).1,x.get L.wi,x.get L.di,L.dr,L.tM,L.atb,L.c0,L.cb,L.fresh,L.oy,L.sc,L.nr⟩
theorem Lx.grow(x:tb Z Z'):Lx g s s Z Z':=⟨λ_ _=>rfl,Int.le_refl _,⟨[],(K2 _).symm⟩,x.len,λi hi _ _ _ _ _=>x.at' i hi⟩
theorem LS.turn(L:LS g D sc r0 s lc la Z)(N:NS g s.use D.W r0 Ba Z')(G:Go g s.rows Ba Z Z'):LS g D sc r0 {s with rows:=Ba} lc la Z'/\Lx g s {s with rows:=Ba} Z Z':=
 have n:=L.ne
 ⟨⟨N,G.keep.get L.wi n.wr n.wx,G.keep.get L.di L.dr n.dx,L.dr,L.tM,L.atb,L.c0,L.cb,L.fresh,L.oy,L.sc,L.nr⟩,λ_ _=>rfl,Int.le_refl _,G.more,G.keep.len,λi hi _ _ _ h4 h5=>G.keep.at' i hi h4 h5⟩
noncomputable def fV(vi:Nat)(m:Bool):AO:= .gb [([118,97,108,115],.ref vi),([109,111,118,101,100],.bool m)]
theorem zI(F:WL g D)(L:LS g D sc r0 s lc la Z)(lv:Lv h)(q:∀Z',tb Z Z'->Rc (Z.length+1) Z.length (uk g.bh h) D.y false Z'->Z'.length=Z.length+2->Q (.ref (Z.length+1)) Z'):KW w (n+1) 784 [.ref g.wi,h] Z Q:=by
 refine(Ja (VW _) rfl ?_).call;refine jA 2<|qa (ni L)<|jA 1<|Ue (k:=?k1) (st:=?st1) (fr:=?fr1) (Z:=?s1) (λv=>v=uk g.bh h) ?rest1 λz=>?main1
 case main1=>
  refine Pc rfl (λe=>?_) λe=>?_
  ·refine jA 1 ?_;exact z _ (X0 (by have:=N0 e;lia)).symm
  ·refine jA 4 ?_;refine z _ ((C0 AV.tup ?_).trans (Y0 (by have:=Y1 e;lia)).symm);rfl
 rintro _ rfl;refine jA 2<|qa (v:=D.y) (Da L.wi)<|jR 5 ?_;have G1:=(tb.push (Z:=Z) (.Ea [(1,uk g.bh h),(2,D.y)])).trans (tb.push (fV Z.length false));have e1:(Z++[AO.Ea [(1,uk g.bh h),(2,D.y)]]).length=Z.length+1:=A1;refine show Q (.ref (Z++[AO.Ea [(1,uk g.bh h),(2,D.y)]]).length) (Z++[AO.Ea [(1,uk g.bh h),(2,D.y)]]++[fV Z.length false])from ?_
 refine rr e1 ?_;refine q _ G1 ⟨?_,?_,lH lv,F.y⟩ (by refine rr A1<|rr e1 ?_;rfl)
 ·exact rq e1 List.getElem?_concat_length
 ·exact rr (C1 (by rw[e1];exact Nat.lt_succ_self _)) List.getElem?_concat_length
end
theorem PD.inj(nd:rows.Nodup){t':Int}{ps:List Int}(h:PD rows t ps)(h':PD rows t' ps):t=t':=by
 induction h with
 |nil=>
  cases h' with|nil=>rfl|many _ i a=>exact absurd a (N0 rfl)
 |one _ hp=>
  clear hp;cases h' with|one _ _=>rfl|many _ i a=>exact absurd a (by show¬2<=1;decide)
 |many _ i a b c e=>
  induction h' with|nil=>exact absurd a (N0 rfl)|one _ _=>exact absurd a (by show¬2<=1;decide)|many _ j a' b' c' e'=>have⟨hi,_⟩:=B0.mp e;exact C0 Int.ofNat ((List.getElem?_inj hi nd).mp (e.trans e'.symm))
section
variable{xs:List AV}
theorem Hl(h:Z[i]? =some (.list xs)):Gb Z (.ref i)=none:=by simp only[Gb,h]
theorem Ss(h:Z[i]? =some (.list xs))(m:Nat)(hm:Jp m=1):Ah Z (.ref i)=Jp m/\Jp m≠0:=⟨(oj h).trans hm.symm,by refine rr hm ?_;decide⟩
theorem Pz(h:Z[i]? =some (.list xs))(hl:xs.length<=1000)(x:AV):Mc Z 27 (.ref i) [x]=some (.none,Z.set i (.list (xs++[x]))):=Qz h (xa hl)
theorem tb.set(G:tb Z0 Z)(o:AO)(hi:Z0.length<=i):tb Z0 (Z.set i o):=
 ⟨by exact rr T3<|G.len,λj hj=>(W0 (i4 (H4 (C4 hj hi)))).trans (G.at' j hj)⟩
theorem tb.same{vi:Nat}(G:tb Z0 Z)(X:ce ei vi Z Z')(he:Z0.length<=ei)(hv:Z0.length<=vi):tb Z0 Z':=
 ⟨by exact rr X.len<|G.len,λj hj=>(X.at' j (H4 (C4 hj he)) (H4 (C4 hj hv))).trans (G.at' j hj)⟩
end
noncomputable abbrev fN:List C:=Tg yQ[9]?
def Yr(W:List Int)(bh:Nat)(c:ob)(x:AV):Prop:=∃(b:Bool)(bb:Int)(h:AV),x= .tup [Md (some b),.int bb,h]/\Vp W bb h/\(ae h=true->Mb bh c b=true)
section
variable{g:G}{D:WD}{s:St}{S:SQ}{c:ob}{a4 a5 a6 x9 Ep:Option AV}
theorem PH{vi:Nat}{m:Bool}(E:Rc ei vi v1 v2 m Z):jb Z (.ref ei) (.str [109,111,118,101,100])=some (.bool m):=Da E.e
theorem tD{x:AV}(hn:zi c+3<=n)(F:WL g D)(cp:Vz g.bh c)(hx:∃bb h,x= .tup [.int bb,h]/\Vp D.W bb h)(L:LS g D sc r0 s lc la Z0)(G:tb Z0 Z)(hl:Z0.length<=li)(he:Z[li]? =some (.list es))(ig:es.length<=100)(ok:∀x∈es,Yr D.W g.bh c x)(q:∀Z' zj x8 x9 Ep LE,tb Z0 Z'->Z'[li]? =some (.list zj)->zj.length<=es.length+1->(∀x∈zj,Yr D.W g.bh c x)->S .next (some (.ref g.wi)::some (zb c)::a2::a3::a4::a5::a6::some (.ref li)::x8::x9::Ep::LE::fr) Z'):vz (KW w n) [8,9] (cS fN .fin) x (some (.ref g.wi)::some (zb c)::a2::a3::a4::a5::a6::some (.ref li)::x8::x9::Ep::LE::fr) Z S:=by
 refine db hx λbb h ez hk=>?_;clear hx;subst ez;obtain⟨n,rfl⟩:∃m,n=m+3:=B3 (A0 (D0 _ _) hn);have lli:li<Z.length:=(B0.mp he).1;refine Aa rfl<|jC 2<|zI (n:=n+2) F (L.grow G) hk.lv λZ1 G1 E1 e1=>?_;have hg:=G.len;refine jC 3<|dj c cp hn E1 λr v1 v2 m Z2 E2 X2 h1 h2=>?_;have Gs:tb Z0 Z2:=(G.trans G1).same X2 ((Nat.le_succ_of_le ‹_›)) ‹_›;have vt:Z2[li]? =some (.list es):=(X2.at' li (H4 (Fb [_,_] 281752061927425 tO lli)) ((H4 ‹_›))).trans (G1.get he);have no:∀Ep LE,S .next (some (.ref g.wi)::some (zb c)::a2::a3::a4::a5::a6::some (.ref li)::some (.int bb)::some h::Ep::LE::fr) Z2:=λEp LE=>q _ _ _ _ _ _ Gs vt (Y4 _) ok;induction r with
 |none=>exact jA 4<|Ka (no _ _)
 |some b=>
  have yes:m=false->ae h=true->Mb g.bh c b=true:=λhm hn=>h2 hm (Kl F.Le hk.lv hn) b rfl;refine jA 6<|qa (PH E2) ?_;induction m with
  |true=>exact jA 1<|Ka (no _ _)
  |false=>
   refine jA 2<|Zi (Hl vt) (Ss vt 27 rfl)<|jA 4<|Fh rfl (Pz vt (A0 ig (N0 rfl)) _)<|jA 1<|Ka (q _ _ _ _ _ _ (Gs.set _ hl) (E3 (B0.mp vt).1) (D3 A1) λx hx=>?_);rcases D2.mp hx with hx|hx
   ·exact ok x hx
   ·exact rr (J0.mp hx)<|(No b bb h rfl hk (yes rfl))
theorem uD(hc:∀Z,ye vi je Z)(hn:zi c+3<=n)(F:WL g D)(cp:Vz g.bh c)(L:LS g D sc r0 s lc la Z0)(hl:Z0.length<=li):∀(hs:List AV){Z:AH}{es:List AV}{x8 x9 Ep LE:Option AV},(∀x∈hs,∃bb h,x= .tup [.int bb,h]/\Vp D.W bb h)->tb Z0 Z->Z[li]? =some (.list es)->es.length+hs.length<=100->(∀x∈es,Yr D.W g.bh c x)->(∀Z' zj x8 x9 Ep LE,tb Z0 Z'->Z'[li]? =some (.list zj)->zj.length<=es.length+hs.length->(∀x∈zj,Yr D.W g.bh c x)->S .next (some (.ref g.wi)::some (zb c)::a2::a3::a4::a5::a6::some (.ref li)::x8::x9::Ep::LE::fr) Z')->Eb (ye vi je) (vz (KW w n) [8,9] (cS fN .fin)) hs (some (.ref g.wi)::some (zb c)::a2::a3::a4::a5::a6::some (.ref li)::x8::x9::Ep::LE::fr) Z S:=by
 intro hs;induction hs with
 |nil=>intro Z es _ _ _ _ _ G he ig ok q;exact⟨hc Z,q _ _ _ _ _ _ G he (K0 _) ok⟩|cons x hs ih=>
  intro Z es _ _ _ _ h G he ig ok q;exact⟨hc Z,tD hn F cp (h x (.head _)) L G hl he (A0 (Q1 _ _) ig) ok λZ1 es1 _ _ _ _ G1 oz ww RS=>
    ih (λy hy=>h y (.tail _ hy)) G1 oz (by simp only[P2]at ig;exact Jc [_,_,_] 2669798116342676053645133721473211169343384724734720 tO ig ww) RS λZ2 es2 _ _ _ _ G2 vt iH QS=>q _ _ _ _ _ _ G2 vt (by simp only[P2];exact Jc [_,_,_,_] 171766656952227592230263561707520 tO ww iH) QS⟩
end
noncomputable abbrev DT:List C:=Tg yQ[10]?
theorem kM(a:Bool)(Z:AH):Ta Z 1 (.int (Ec a false)) (.int 0)=some a:=by cases a<;>rfl
theorem UB(a:Bool)(Z:AH):Ta Z 1 (.int (Ec false a)) (.int 0)=some a:=by cases a<;>rfl
theorem PK(x y b:Bool)(Z:AH):wc Z 5 (.int (Ec x y)) (.int (2-if b=true then 1 else 0))=some (.int (if b=true then Ec x false else Ec false y)):=by cases b<;>cases x<;>cases y<;>rfl
theorem RO(bh:Nat)(c:ob)(b:Bool)(Z:AH):Ta Z 1 (.int (if b=true then Ec (Mb bh c true) false else Ec false (Mb bh c false))) (.int 0)=some (Mb bh c b):=by
 cases b
 ·exact UB _ _
 ·exact kM _ _
section
variable{g:G}{D:WD}{s:St}{S:SQ}{c tw:ob}{f1 DN vR uR:Option AV}
theorem ID{bh:Nat}{b':Bool}{R:Option AV->AH->Prop}(q1:b'=b->R (some (.tup [.int bb,h])) Z)(q2:R none Z):Ku K 3 (cT (.cmp 0 (.var 15) lC) (cX (.tup [.var 16,.var 17]) .ret) .cont) [f0,f1,f2,f3,f4,f5,f6,f7,f8,f9,mN,some (Md (some b)),DN,vR,uR] (.tup [Md (some b'),.int bb,h]) Z R:=by
 refine Aa rfl<|Ua (v:=Md (some b')) rfl<|Ua (v:=Md (some b)) rfl ?_;by_cases e:b'=b
 ·refine Iu (by refine rr e ?_;cases b<;>rfl) ?_;exact jR 3<|q1 e
 ·refine Dd (by cases b<;>cases b'<;>first|rfl|exact absurd rfl e) ?_;exact dg q2
theorem JD{V:AV->AH->Prop}(F:WL g D)(hi:sa Z (.ref li)=some je):∀(es Ra:List AV),(∀x∈es,Yr D.W g.bh c x)->(∀x∈Ra,Yd D.W (Mb g.bh c b) x)->Ra.length+es.length<=100->(∀qI,(∀x∈qI,Yd D.W (Mb g.bh c b) x)->qI.length<=100->V (.ba qI) Z)->Sa (ye (.ref li) je) (Ku K 3 (cT (.cmp 0 (.var 15) lC) (cX (.tup [.var 16,.var 17]) .ret) .cont) [f0,f1,f2,f3,f4,f5,f6,f7,f8,f9,mN,some (Md (some b)),DN,vR,uR]) es Ra Z V:=by
 intro es;induction es with
 |nil=>intro Ra _ ha hl q;exact⟨hi,q Ra ha (A0 (Q1 _ _) hl)⟩|cons x es ih=>
  intro Ra he ha hl q;refine Qa (he x (.head _)) λb' bb h ez tz=>?_;subst ez;refine kA tz λhk hm=>?_;simp only[P2]at hl;refine⟨hi,ID (bh:=0) (λe=>?_) ?_⟩
  ·refine ih _ (λy hy=>he y (.tail _ hy)) (λy hy=>?_) (by simp only[A1,Option.toList_some,List.length_singleton];exact Fb [_,_] 134005111739078662601141943661503734528 tO hl) q;rcases D2.mp hy with hy|hy
   ·exact ha y hy
   ·exact rr (J0.mp hy)<|Rt F hk (e▸hm)
  ·refine ih _ (λy hy=>he y (.tail _ hy)) (λy hy=>?_) (by simp only[A1,Option.toList_none,j5];exact Nat.le_of_lt ‹_›) q;rcases D2.mp hy with hy|hy
   ·exact ha y hy
   ·cases hy
structure bE(key:Tx)(c tw:ob):Prop where
 so:Ex tw
 co:ds key tw
 ht:zi tw<=zi c+2
 cn:Kc tw<=Kc c+3
 dp:fh tw<=fh c+2
 may:∀b,Xc key tw b=Xc key c b
theorem br{k:Int}{v3 v5:AV}(hk:(k=5/\b=true)\/(k=6/\b=false))(hn:40<=n)(F:WL g D)(f:Qg g.bh 2 c)(t:bE g.key c tw)(L:LS g D sc r0 s lc la Z)(d:PD s.rows D.t D.W)(r3:Lb s.use s.c (Qb c) v3)(r5:Lb s.use s.c (Qb tw) v5)(he:Z[li]? =some (.list es))(hri:li≠g.ri)(hxi:li≠g.xi)(nL:es.length<=100)(ok:∀x∈es,Yr D.W g.bh c x)(q:∀s' Z' vR uR,LS g D sc r0 s' lc la Z'->Lx g s s' Z Z'->PD s'.rows D.t D.W->Z'[li]? =some (.list es)->S .next [some (.ref g.wi),f1,f2,some v3,f4,some v5,some (.int (Ec (Mb g.bh c true) (Mb g.bh c false))),some (.ref li),f8,f9,mN,some (Md (some b)),some (.int k),vR,uR] Z'):vz (KW w n) [12,11] (cS DT .fin) (.tup [.int k,Md (some b)]) [some (.ref g.wi),f1,f2,some v3,f4,some v5,some (.int (Ec (Mb g.bh c true) (Mb g.bh c false))),some (.ref li),f8,f9,mN,LE,DN,vR,uR] Z S:=by
 have dN:k=5\/k=6:=hk.elim (λz=> .inl z.1) λz=> .inr z.1;have hkb:decide (k=5)=b:=by rcases hk with⟨rfl,rfl⟩|⟨rfl,rfl⟩<;>rfl
 have key:Dm g.key:=F.Le.elim (λh=> .inl (by rw[F.key,h];rfl)) λh=> .inr (by rw[F.key,h];rfl);have co:ds g.key c:=by refine rr F.key ?_;exact f.co
 have may:∀b,Xc g.key c b=Mb g.bh c b:=λb=>by refine rr F.key ?_;exact f.may b
 have hm:Xc g.key c (decide (k=5))=Mb g.bh c b:=by rw[hkb,may]
 obtain⟨n,rfl⟩:∃m,n=m+2:=B3 (A0 (N0 rfl) hn);refine Aa rfl<|jA 2<|qa (v:= .ref g.ai) (Da L.wi)<|jA 5<|qa (v:= .str g.key) (Da L.wi)<|jA 2<|qa (v:= .int D.t) (Da L.wi)<|jC 0<|ao (b:=true) dN (A0 (by have:=f.dp;exact Fb [_] 757619379600516633647956551424 tO this) hn) key co L.N r3 d λBa Z' t' N' G' d'=>kA (L.turn N' G') λL1 X1=>?_;have oz:=G'.keep.get he hri hxi;have d1:PD Ba D.t D.W:=d.grow λi r h=>G'.get i r h;rw[Bool.true_and,hm]at d';refine jA 2<|Wd (Ho oz) (xa (A0 nL (N0 rfl)))<|JD (b:=b) F (Ho oz) es [] ok (λx hx=>by cases hx) (by rw[j5,Nat.zero_add];exact nL) λqI hc Br=>jA 7<|Fa (PK _ _ b Z')<|jA 1<|aj (RO g.bh c b Z')<|jC 1<|Ut (n:=n) (vi:= .ba qI) L1 d' rfl Br hc<|jA 3<|qa (v:= .ref g.ai) (Da L1.wi)<|jA 5<|qa (v:= .str g.key) (Da L1.wi)<|jA 2<|qa (v:= .int D.t) (Da L1.wi)<|jC 0<|ao (c:=tw) (b:=true) dN (A0 (by have:=f.dp;have:=t.dp;exact Jc [_,_] 121214959412658232007601071171214752802560 tO ‹_› this) hn) key t.co L1.N (X1.nd r5) d1 λUj Z2 t2 N2 G2 d2=>kA (L1.turn N2 G2) λL2 X2=>?_;rw[Bool.true_and,t.may,hm]at d2;have e2:t2=t':=PD.inj N2.T.nd d2 (d'.grow λi r h=>G2.get i r h);refine jA 1 ?_;exact Dd (by rw[e2];exact C0 some (by rw[Y2 rfl];rfl))<|Ka (q _ _ _ _ L2 (X1.trans X2) (d1.grow λi r h=>G2.get i r h) (G2.keep.get oz hri hxi))
end
noncomputable def Mi:ob->Tx| .gc _ _ _=>SV| .isin _ _=>sZ| .bang _=>Ax| .less _ _=>xN| .sum _ _=>TV| .lit _=>SI| .same _ _ _=>wN| .not _=>YV| .par _=>VV| .nul _ _=>XV| .and _ _=>Rz| .or _ _=>MQ| .set _ _=>UV
theorem Sd(c:ob)(Z:AH):jb Z (zb c) (.int 0)=some (.str (Mi c)):=by cases c<;>rfl
theorem aK{c:ob}(h:Mi c=Rz\/Mi c=MQ):∃a b,c= .and a b\/c= .or a b:=by
 induction c with|and a b=>exact(Jh a b (.inl rfl))|or a b=>exact(Jh a b (.inr rfl))|_=>exact absurd h (Y1 rfl)
theorem FM{key:Tx}{c:ob}(so:Ex c)(co:ds key c):bE key c (.not (.not c)):=⟨so,co,K0 _,Y4 _,K0 _,λb=>by cases b<;>rfl⟩
theorem JN{key:Tx}{c:ob}(so:Ex c)(co:ds key c):bE key c (.par c):=⟨so,co,Y4 _,Q1 _ 2,Q1 _ 2,λ_=>rfl⟩
theorem KN{key:Tx}{a b:ob}(so:Ex (.and a b))(co:ds key (.and a b)):bE key (.and a b) (.not (.or (.not a) (.not b))):=
 ⟨so,co,by show max (zi a+1) (zi b+1)+1+1<=max (zi a) (zi b)+1+2;lia,by show Kc a+1+(Kc b+1)+1+1<=Kc a+Kc b+1+3;exact Lm [_,_] 5028456852075227214562309417586156288 tO,by show max (fh a+1) (fh b+1)+1+1<=max (fh a) (fh b)+1+2;lia,λy=>by cases y<;>rfl⟩
theorem CR{key:Tx}{a b:ob}(so:Ex (.or a b))(co:ds key (.or a b)):bE key (.or a b) (.not (.and (.not a) (.not b))):=
 ⟨so,co,by show max (zi a+1) (zi b+1)+1+1<=max (zi a) (zi b)+1+2;lia,by show Kc a+1+(Kc b+1)+1+1<=Kc a+Kc b+1+3;exact Lm [_,_] 5028456852075227214562309417586156288 tO,by show max (fh a+1) (fh b+1)+1+1<=max (fh a) (fh b)+1+2;lia,λy=>by cases y<;>rfl⟩
theorem NK(c:ob)(Z:AH):Ta Z 8 (.str (Mi c)) (.tup [.str Rz,.str MQ])=some (decide (Rz=Mi c)||decide (MQ=Mi c)):=by show Bc (.str (Mi c)) [.str Rz,.str MQ]=_;rw[yo,yo,gB,d5,d5,Bool.or_false]
section
variable{g:G}{D:WD}{s:St}{S:SQ}
theorem nY(hn:60<=n)(F:WL g D)(L:LS g D sc r0 s (lc+300) (la+15) Z)(d:PD s.rows D.t D.W)(q:∀s' Z',LS g D sc r0 s' lc la Z'->Lx g s s' Z Z'->PD s'.rows D.t D.W->Q (.bool true) Z'):KW w n 803 [.ref g.wi] Z Q:=by
 obtain⟨n,rfl,hm⟩:∃m,n=m+1/\59<=m:=(Na (n-1) ((P1 (Fb [_] 16716014815008 tO hn)).symm) ((Nat.le_sub_of_add_le ‹_›)));refine(Ja (SW _) rfl ?_).call;refine jC 2<|Hz F.Le 2 (la:=la+1) rfl ((A0 (D0 _ _) ‹_›)) L λc s1 Z1 hc L1 X1=>?_;have f:=ch.facts F.Le 2 (K0 _) hc;have f1:=f.ht;have f2:=f.cn;have f3:=f.dp;have co:ds g.key c:=rr F.key f.co;refine jA 3<|qa (Zq L1)<|jC 1 ?_;obtain⟨n,rfl⟩:∃m,n=m+1:=⟨n-1,((P1 (Fb [_] 16441136908064 tO hm)).symm)⟩;refine Pl (n:=n) (N0 rfl) L1 λx s2 Z2 h0 h1 L2 X2=>jC 3<|vI (lc:=lc+154) c f.so (Jc [_,_] 621270531406051488265756345059382117827328 tO f1 hm) (L2.low (Fb [_,_] 30121125741891741508963071176581293325479338752 tO f2) (K0 _)) λs3 Z3 v3 L3 X3 r3=>jA 9<|an (k:=?k1) (st:=?st1) (Z:=?s1) (λfr=>∃tw,bE g.key c tw/\fr=(((List.set (Lh [AV.ref g.wi] 14) 1 (some (zb c))).set 2 (some (.int x))).set 3 (some v3)).set 4 (some (zb tw))) ?rest1 λz=>?main1
 case main1=>
  refine Pc rfl (λe=>?_) λe=>?_
  ·refine jA 6 ?_;refine Dd (C0 some (D1 (by have:=N0 e;lia))) ?_;exact z _ (Na (.par c) (JN f.so co) rfl)
  ·refine jA 2<|Pc rfl (λe2=>?_) λe2=>?_
   ·refine jA 2<|qa (Sd c _)<|jA 3<|Pc (NK c _) (λe3=>?_) λe3=>?_
    ·have e3:Mi c=Rz\/Mi c=MQ:=by rw[Bool.or_eq_true]at e3;exact e3.imp (λh=>(N0 h).symm) λh=>(N0 h).symm
     obtain⟨a,b,rfl|rfl⟩:=aK e3
     ·refine jA 20 ?_;exact z _ (Na _ (KN f.so co) rfl)
     ·refine jA 20 ?_;exact z _ (Na _ (CR f.so co) rfl)
    ·exact z _ (Na _ (FM f.so co) rfl)
   ·exact z _ (Na _ (FM f.so co) rfl)
 rintro _ ⟨tw,t,rfl⟩;have t1:=t.ht;have t2:=t.cn;refine jC 2<|vI (lc:=lc) tw t.so (Lp [_,_,_] 266648050750670591350362564989221879564354076528116480 tO f1 hm t1) (L3.low (Jc [_,_,_] 5662954896844057938845400957547184221020549898339072 tO f2 t2) (K0 _)) λs4 Z4 v4 L4 X4 r4=>jC 3<|rN (ni L4) c f.cp (Jc [_,_] 621270531406051488265756345059382112584448 tO f1 hm)<|jA 1<|Eo rfl rfl ?_;have G4:tb Z4 (Z4++[AO.list []]):=tb.push _;refine jA 3<|qa (v:= .ba D.heads) (Da (L4.grow G4).wi)<|Eg rfl (xa (A0 F.hl (N0 rfl)))<|uD (li:=Z4.length) (λZ=>(Qh _).symm▸trivial) (Jc [_,_] 621270531406051488265756345059382113633024 tO f1 hm) F f.cp L4 (K0 _) D.heads F.heads G4 List.getElem?_concat_length (by have:=F.hl;refine rr j5 ?_;exact A0 (Nat.add_le_add_left ‹_› _) (N0 rfl)) (λx hx=>by cases hx) λZ5 es _ _ _ _ G5 he ig ok=>?_;refine show At _ _ _ _ _ _ from ?_
 have L5:=L4.grow G5;have X15:Lx g s s4 Z Z5:=(((X1.trans X2).trans X3).trans X4).trans (Lx.grow G5);have lt:∀{i:Nat}{o:AO},Z4[i]? =some o->Z4.length≠i:=λh z=>absurd (B0.mp h).1 (Fb [_,_] 285279236 tO z);have nL:es.length<=100:=by have:=F.hl;replace ig:=j5▸ig;exact Jc [_,_] 2849995540573695261380807658465280 tO ig this
 have d4:PD s4.rows D.t D.W:=PD.grow d λi r h=>by refine kE X15.rows λex e=>?_;exact rr e<|C1 (B0.mp h).1▸h
 refine jA 7<|Eg rfl (xa (show 2<=1000 by decide)) ?_;have ck:∀Z:AH,ye (.tup [.tup [.int 5,.int 1],.tup [.int 6,.int 0]]) [.tup [.int 5,.int 1],.tup [.int 6,.int 0]] Z:=λZ=>(Dz _).symm▸trivial;have nri:=lt L4.N.T.ri;have nxi:=lt L4.N.T.xi;refine⟨ck _,br (k:=5) (b:=true) (.inl ⟨rfl,rfl⟩) ((A0 (D0 _ _) ‹_›)) F f t L5 d4 (X4.nd r3) r4 he nri nxi nL ok λs6 Z6 _ _ L6 X6 d6 he6=>?_⟩;refine⟨ck _,br (k:=6) (b:=false) (.inr ⟨rfl,rfl⟩) ((A0 (D0 _ _) ‹_›)) F f t L6 d6 (X6.nd (X4.nd r3)) (X6.nd r4) he6 nri nxi nL ok λs7 Z7 _ _ L7 X7 d7 he7=>?_⟩;refine⟨ck _,?_⟩;refine show At _ _ _ _ _ _ from ?_
 refine jA 5 ?_;obtain⟨kk,iR,kL⟩:∃kk:Int,(∀Z:AH,jb Z (.tup [.int 4,.int 7,.int 2]) (.int x)=some (.int kk))/\(kk=4\/kk=7\/kk=2):=by
  have:x=0\/x=1\/x=2:=by lia
  rcases this with rfl|rfl|rfl
  ·exact(Na 4 (λ_=>rfl) (.inl rfl))
  ·exact(Na 7 (λ_=>rfl) (.inr (.inl rfl)))
  ·exact(Na 2 (λ_=>rfl) (.inr (.inr rfl)))
 exact qa (iR _)<|jA 3<|qa (v:= .ref g.ai) (Da L7.wi)<|jA 5<|qa (v:= .str g.key) (Da L7.wi)<|jA 2<|qa (v:= .int D.t) (Da L7.wi)<|jC 0<|Jv kL<|jA 2<|qa (v:= .int D.t) (Da L7.wi)<|aj (C0 some (Y2 rfl))<|na (q _ _ L7 ((X15.trans X6).trans X7) d7)
end
noncomputable abbrev lF:List C:=Tg JV[2]?
noncomputable abbrev mF:List C:=Tg lF[1]?
section
variable{g:G}{D:WD}{s:St}{S:SQ}{p:Mf}{k:Int}
noncomputable def wJ(bh:Nat)(p:Mf)(k:Int):Bool:=decide (k=6)|| !pc bh p
theorem sy{x:AV}(hk:k=5\/k=6)(F:WL g D)(hp:Oa g.bh p)(hx:∃bb h,x= .tup [.int bb,h]/\Vp D.W bb h)(L:LS g D sc r0 s lc la Z0)(G:tb Z0 Z)(hl:Z0.length<=li)(he:Z[li]? =some (.list es))(ig:es.length<=100)(ok:∀x∈es,Yd D.W (wJ g.bh p k) x)(q:∀Z' zj x5 x6 x7,tb Z0 Z'->Z'[li]? =some (.list zj)->zj.length<=es.length+1->(∀x∈zj,Yd D.W (wJ g.bh p k) x)->S .next [some (.ref g.wi),some (de p),f2,some (.int k),some (.ref li),x5,x6,x7,x8] Z'):vz (KW w (n+1)) [5,6] (cS mF .fin) x [some (.ref g.wi),some (de p),f2,some (.int k),some (.ref li),x5,x6,x7,x8] Z S:=by
 refine db hx λbb h ez AP=>?_;clear hx;subst ez;have lli:li<Z.length:=(B0.mp he).1;refine Aa rfl<|jC 2<|zI (n:=n) F (L.grow G) AP.lv λZ1 G1 E1 e1=>?_;have hg:=G.len;refine jA 1<|qa (Oe E1)<|jC 6<|Df (Aj E1 hp.pw) λv hi hv gn=>Cj (n:=n) hp.pw.2.2 hi hv λr hr hlv=>?_;have G01:=G.trans G1;have oz:=G1.get he;have no:∀x7,S .next [some (.ref g.wi),some (de p),f2,some (.int k),some (.ref li),some (.int bb),some h,x7,x8] Z1:=λx7=>q _ _ _ _ _ G01 oz (Y4 _) ok;induction r with
 |none=>exact jA 4<|Ka (no _)
 |some x=>
  have hx:=hlv x rfl;refine Df hx.null λc c1 _ c3=>jA 3<|Iu (C0 (Option.map (!·)) (hx.Bg Z1))<|jA 2<|qa (c1 _)<|jA 3<|aj (c3 _)<|jA 3<|Pc rfl (λe=>?_) λe=>?_
  ·refine jA 1<|Zi (Hl oz) (Ss oz 27 rfl)<|jA 3<|Fh rfl (Pz oz (A0 ig (N0 rfl)) _)<|jA 1<|Ka (q _ _ _ _ _ (G01.set _ hl) (E3 (B0.mp oz).1) (D3 A1) λy hy=>?_);rcases D2.mp hy with hy|hy
   ·exact ok y hy
   ·refine rr (J0.mp hy)<|Rt F AP λhn=>?_;unfold wJ;clear ok q no;cases t:pc g.bh p with
    |false=>exact Bool.or_true _|true=>
     have z:=On hp gn (Kl F.Le AP.lv hn) t hr;replace e:=z▸e;have:decide (k=5)=false:=by cases h:decide (k=5)with|false=>rfl|true=>replace e:=h▸e;cases e
     rcases hk with rfl|rfl
     ·cases this
     ·rfl
  ·exact Ka (no _)
theorem uy(hc:∀Z,ye vi je Z)(hk:k=5\/k=6)(F:WL g D)(hp:Oa g.bh p)(L:LS g D sc r0 s lc la Z0)(hl:Z0.length<=li):∀(hs:List AV){Z:AH}{es:List AV}{x5 x6 x7:Option AV},(∀x∈hs,∃bb h,x= .tup [.int bb,h]/\Vp D.W bb h)->tb Z0 Z->Z[li]? =some (.list es)->es.length+hs.length<=100->(∀x∈es,Yd D.W (wJ g.bh p k) x)->(∀Z' zj x5 x6 x7,tb Z0 Z'->Z'[li]? =some (.list zj)->zj.length<=es.length+hs.length->(∀x∈zj,Yd D.W (wJ g.bh p k) x)->S .next [some (.ref g.wi),some (de p),f2,some (.int k),some (.ref li),x5,x6,x7,x8] Z')->Eb (ye vi je) (vz (KW w (n+1)) [5,6] (cS mF .fin)) hs [some (.ref g.wi),some (de p),f2,some (.int k),some (.ref li),x5,x6,x7,x8] Z S:=by
 intro hs;induction hs with
 |nil=>intro Z es _ _ _ _ G he ig ok q;exact⟨hc Z,q _ _ _ _ _ G he (K0 _) ok⟩|cons x hs ih=>
  intro Z es _ _ _ h G he ig ok q;exact⟨hc Z,sy hk F hp (h x (.head _)) L G hl he (A0 (Q1 _ _) ig) ok λZ1 es1 _ _ _ G1 oz ww RS=>
    ih (λy hy=>h y (.tail _ hy)) G1 oz (by simp only[P2]at ig;exact Jc [_,_,_] 2669798116342676053645133721473211169343384724734720 tO ig ww) RS λZ2 es2 _ _ _ G2 vt iH QS=>q _ _ _ _ _ G2 vt (by simp only[P2];exact Jc [_,_,_,_] 171766656952227592230263561707520 tO ww iH) QS⟩
theorem Mn(hn:20<=n)(hk:k=5\/k=6)(F:WL g D)(hp:Oa g.bh p)(L:LS g D sc r0 s lc la Z)(d:PD s.rows D.t D.W)(r:Lb s.use s.c (La p) v2)(q:∀s' Z' f4 x5 x6 x7 x8,LS g D sc r0 s' lc la Z'->Lx g s s' Z Z'->PD s'.rows D.t D.W->S .next [some (.ref g.wi),some (de p),some v2,some (.int k),f4,x5,x6,x7,x8] Z'):IB (KW w n) 3 (cS lF .fin) (.int k) [some (.ref g.wi),some (de p),some v2,f3,f4,x5,x6,x7,x8] Z S:=by
 obtain⟨n,rfl⟩:∃m,n=m+8:=⟨n-8,((P1 (Fb [_] 5712308609824 tO hn)).symm)⟩;refine show At _ _ _ _ _ _ from ?_
 refine Eo rfl rfl ?_;have G4:tb Z (Z++[AO.list []]):=tb.push _;refine jA 3<|qa (v:= .ba D.heads) (Da (L.grow G4).wi)<|Eg rfl (xa (A0 F.hl (N0 rfl)))<|uy (n:=n+7) (li:=Z.length) (λZ=>(Qh _).symm▸trivial) hk F hp L (K0 _) D.heads F.heads G4 List.getElem?_concat_length (by have:=F.hl;rw[j5];exact A0 (Nat.add_le_add_left ‹_› _) (N0 rfl)) (λx hx=>by cases hx) λZ5 es _ _ _ G5 he ig ok=>?_;refine show At _ _ _ _ _ _ from ?_
 have L5:=L.grow G5;have lt:∀{i:Nat}{o:AO},Z[i]? =some o->Z.length≠i:=λh z=>absurd (B0.mp h).1 (Fb [_,_] 285279236 tO z);have nL:es.length<=100:=by have:=F.hl;rw[j5]at ig;exact Jc [_,_] 2849995540573695261380807658465280 tO ig this
 refine jA 2<|qa (v:= .ref g.ai) (Da L5.wi)<|jA 6<|qa (v:= .str g.key) (Da L5.wi)<|jA 2<|qa (v:= .int D.t) (Da L5.wi)<|jC 0 ?_;have pf:=hp.facts F.Le;refine Iv (n:=n) (b:=true) hk (by refine rr F.key ?_;exact pf.o) L5.N r d λBa Z6 t' N' G' d'=>?_;refine kA (L5.turn N' G') λL6 X6=>?_;have hbit:(true&& !(Nj g.key p&&decide (k=5)))=wJ g.bh p k:=by rw[F.key,pf.t,Bool.true_and,wJ];rcases hk with rfl|rfl<;>cases pc g.bh p<;>rfl
 rw[hbit]at d';have he6:=G'.keep.get he (lt L.N.T.ri) (lt L.N.T.xi);refine jA 6<|Ue (k:=?k1) (st:=?st1) (fr:=?fr1) (Z:=?s1) (λv=>v= .bool (wJ g.bh p k)) ?rest1 λz=>?main1
 case main1=>
  refine iD rfl (λe=>?_) λe=>?_
  ·exact z (.bool (decide (k=6))) (by rw[wJ,e,Bool.true_or])
  ·exact jC 2<|Fi (n:=n+7) hp (ni L6)<|jA 1<|z (.bool (!pc g.bh p)) (by rw[wJ,e,Bool.false_or])
 rintro _ rfl;exact jC 1<|Ut (n:=n+6) (vi:= .ref Z.length) L6 d' (Ho he6) nL ok<|jA 1<|Ka (q _ _ _ _ _ _ _ L6 ((Lx.grow G5).trans X6) (d.grow λi r h=>G'.get i r h))
theorem oY(hn:30<=n)(F:WL g D)(L:LS g D sc r0 s (lc+14) (la+1) Z)(d:PD s.rows D.t D.W)(q:∀s' Z',LS g D sc r0 s' lc la Z'->Lx g s s' Z Z'->PD s'.rows D.t D.W->Q (.bool true) Z'):KW w n 810 [.ref g.wi] Z Q:=by
 obtain⟨n,rfl⟩:∃m,n=m+5:=⟨n-5,((P1 (Fb [_] 8461087676192 tO hn)).symm)⟩;refine(Ja (RW _) rfl ?_).call;refine jC 1<|Gi (n:=n+2) F.Le L λp s1 Z1 hp L1 X1=>jC 8<|Pr (n:=n) hp.pw L1 λs2 Z2 v2 L2 X2 r2=>?_;have aW:=X1.trans X2;have d2:PD s2.rows D.t D.W:=PD.grow d λi r h=>by refine kE aW.rows λex e=>?_;exact rr e<|C1 (B0.mp h).1▸h
 refine jA 4<|Ve rfl (xa (show 2<=1000 by decide)) ?_;have ck:∀Z:AH,ye (.tup [.int 5,.int 6]) [.int 5,.int 6] Z:=λZ=>(Dz _).symm▸trivial;refine⟨ck _,Mn (Fb [_] 54609557240133827973920 tO hn) (.inl rfl) F hp L2 d2 r2 λs3 Z3 _ _ _ _ _ L3 X3 d3=>?_⟩;refine⟨ck _,Mn (Fb [_] 54609557240133827973920 tO hn) (.inr rfl) F hp L3 d3 (X3.nd r2) λs4 Z4 _ _ _ _ _ L4 X4 d4=>?_⟩;refine⟨ck _,?_⟩;refine show At _ _ _ _ _ _ from ?_
 refine jR 1 ?_;exact q _ _ L4 ((aW.trans X3).trans X4) d4
end
inductive Cl where
 |ml
 |word (t:Tx)
 |num
 |kind (p:Mf)
 |cond (c:ob)
noncomputable abbrev vN:Tx:=[119,111,114,100]
noncomputable abbrev WV:Tx:=[110,117,109]
noncomputable abbrev yN:Tx:=[107,105,110,100]
noncomputable def ed:Cl->AV| .ml=> .none| .word t=> .tup [.str vN,.str t]| .num=> .tup [.str WV]| .kind p=> .tup [.str yN,de p]| .cond c=>zb c
inductive yd where
 |path (p:Mf)
 |word (t:Tx)
 |true (t:Tx)
noncomputable def kj:yd->AV| .path p=> .tup [.int 0,de p]| .word t=> .tup [.int 1,.str t]| .true t=> .tup [.int 2,.str t]
def AN(bh:Nat)(c:ob):Prop:=c= .sum 1 1\/(wp bh c/\(∀p,c≠ .bang p)/\∀b,c≠ .lit b)\/(∃p,c= .not (.bang p)/\Oa bh p)\/(∃b,c= .not (.lit b))\/∃a,c= .not a/\ch bh 1 a
def ah(bh:Nat):yd->Cl->Prop|_,.ml=>True| .path _,.word t=>t.length<=9| .path _,.num=>True| .word _,.kind p=>Oa bh p| .true _,.cond c=>AN bh c|_,_=>False
noncomputable def hb(bh:Nat):yd->Cl->Bool->Bool
 |_,.ml,y=> !y| .path p,.word t,y=> !pc bh p||(y==decide (t=Hd))
 | .word u,.kind p,y=> !pc bh p||(y==decide (u=Hd))
 |_,.cond c,y=>Mb bh c y|_,_,_=>true
structure rC(bh:Nat)(c:ob):Prop where
 so:Ex c
 cp:Vz bh c
 co:ds (Ni bh) c
 ht:zi c<=3
 cn:Kc c<=70
 dp:fh c<=3
 may:∀b,Xc (Ni bh) c b=Mb bh c b
theorem Qg.cl{bh:Nat}{c:ob}(f:Qg bh 1 c):rC bh (.not c):=
 ⟨f.so,f.cp,f.co,J4 f.ht,by have:=f.cn;show Kc c+1<=_;exact Fb [_] 107540819260080264266911458296576 tO this,J4 f.dp,λb=>f.may (!b)⟩
theorem AN.facts{bh:Nat}{c:ob}(Le:bh=0\/bh=1)(h:AN bh c):rC bh c:=by
 rcases h with rfl|⟨h,_⟩|⟨p,rfl,hp⟩|⟨b,rfl⟩|⟨a,rfl,ha⟩
 ·exact⟨(sf ⟨by decide,by decide⟩ (N0 rfl) (N0 rfl)),trivial,trivial,by decide,by decide,by decide,λb=>by cases b<;>rfl⟩
 ·have f:=wp.facts Le h;exact⟨f.so,f.cp,f.co,A0 f.ht (N0 rfl),by have:=f.cn;exact A0 (Q1 _ _) (A0 ‹_› (N0 rfl)),A0 f.dp (N0 rfl),f.may⟩
 ·exact(wp.facts (c:= .bang p) Le hp).up.cl
 ·exact(wp.facts (c:= .lit b) Le trivial).up.cl
 ·exact(ch.facts Le 1 (N0 rfl) ha).cl
section
variable{g:G}{D:WD}{s:St}{S:SQ}
noncomputable def FE:yd->Int| .path _=>0| .word _=>1| .true _=>2
theorem AL{k:Int}(h0:0<=k)(h1:k<5):∃t:Tx,t.length<=9/\∀Z:AH,jb Z (.tup [.str [115,116,114,105,110,103],.str Hd,.str [111,98,106,101,99,116],.str [110,117,109,98,101,114],.str [98,111,111,108,101,97,110]]) (.int k)=some (.str t):=by
 have:k=0\/k=1\/k=2\/k=3\/k=4:=by lia
 rcases this with rfl|rfl|rfl|rfl|rfl<;>exact(Na _ (N0 rfl) (λ_=>rfl))
theorem OO(c:ob)(Z:AH):Ta Z 8 (.str (Mi c)) (.tup [.str Ax,.str SI])=some (decide (Ax=Mi c)||decide (SI=Mi c)):=by show Bc (.str (Mi c)) [.str Ax,.str SI]=_;rw[yo,yo,gB,d5,d5,Bool.or_false]
theorem BI{sb:yd}(hn:8<=n)(F:WL g D)(L:LS g D sc r0 s lc (la+7) Z)(q:∀cl s' Z',ah g.bh sb cl->LS g D sc r0 s' lc la Z'->Lx g s s' Z Z'->Q (ed cl) Z'):KW w n 817 [.ref g.wi,.int (FE sb)] Z Q:=by
 obtain⟨n,rfl⟩:∃m,n=m+8:=⟨n-8,((P1 ‹_›).symm)⟩;refine(Ja (QW _) rfl ?_).call;refine jA 9<|qa (Zq L)<|jC 1<|Pl (n:=n+6) (la:=la+6) (N0 rfl) L λx s1 Z1 h0 h1 L1 X1=>?_;have h2:x<100000:=Int.lt_of_lt_of_le h1 (N0 rfl);have dv:∀(m:Int),0<m->m<=100000->∀Z:AH,wc Z 3 (.int x) (.int m)=some (.int (x/m)):=λm a b Z=>vp h0 h2 a b;have low:∀{s2:St}{Z2:AH}{k:Nat},LS g D sc r0 s2 lc (la+k) Z2->LS g D sc r0 s2 lc la Z2:=λL=>L.low (K0 _) (Q1 _ _);induction sb with
 |path p=>exact jA 6<|Fa (dv 5 (N0 rfl) (N0 rfl) _)<|jA 3<|Pc rfl (λe=>jA 5<|Xa (AL (k:=x%5) (j4 _ (N0 rfl)) (H3 _ (N0 rfl))) λt ht hi=>qa (hi _)<|jR 1<|q (.word t) _ _ ht (low L1) X1) λe=>jR 2<|q .num _ _ trivial (low L1) X1
 |word u=>exact jC 9<|Gi (n:=n+5) (la:=la+5) F.Le L1 λp s2 Z2 hp L2 X2=>jR 1<|q (.kind p) _ _ hp (low L2) (X1.trans X2)
 |true u=>
  refine jA 11<|Pc rfl (λe=>jR 4<|q (.cond (.sum 1 1)) _ _ (.inl rfl) (low L1) X1) λe=>?_;refine jA 4<|Pc rfl (λe=>?_) λe=>?_
  ·refine jA 3<|Fa (dv 7 (N0 rfl) (N0 rfl) _)<|jC 0<|Wt (n:=n+4) (la:=la+5) (Int.ediv_nonneg h0 (N0 rfl)) (by lia) F.Le L1 λc s2 Z2 hc L2 X2=>jA 3<|qa (Sd c _)<|jA 3<|Pc (OO c _) (λe3=>?_) λe3=>?_
   ·refine jR 3<|q (.cond (.not c)) _ _ ?_ (low L2) (X1.trans X2);induction c with|bang p=>exact .inr (.inr (.inl (Na p rfl hc)))|lit b=>exact .inr (.inr (.inr (.inl ⟨b,rfl⟩)))|_=>exact Lf e3
   ·refine jR 1<|q (.cond c) _ _ (.inr (.inl (sf hc ?_ ?_))) (low L2) (X1.trans X2)
    ·rintro p rfl;exact Lf e3.symm
    ·rintro b rfl;exact Lf e3.symm
  ·exact jC 3<|Hz F.Le 1 (la:=la) rfl ((D0 _ _)) L1 λc s2 Z2 hc L2 X2=>jR 10<|q (.cond (.not c)) _ _ (.inr (.inr (.inr (.inr (Na c rfl hc))))) L2 (X1.trans X2)
end
noncomputable def i0:Cl->Nd| .ml=> .lst| .word t=> .str t| .num=> .num 7| .kind p=>Re p false| .cond c=>Qb c
def Bx(s:St)(cl:Cl)(tv:AV):Prop:=match cl with| .ml=>tv= .none|cl=>Lb s.use s.c (i0 cl) tv
theorem wy(c:ob):Mi c≠vN/\Mi c≠WV/\Mi c≠yN:=N0 (by cases c<;>rfl)
def Dx(bh:Nat):yd->Prop| .path p=>Oa bh p|_=>True
section
variable{g:G}{D:WD}{s:St}{S:SQ}
theorem Wo(c:ob)(Z:AH):Ta Z 6 (zb c) .none=some false:=by cases c<;>rfl
theorem AI{sb:yd}{cl:Cl}(hn:12<=n)(F:WL g D)(ok:ah g.bh sb cl)(L:LS g D sc r0 s (lc+72) la Z)(q:∀s' Z' tv t d,LS g D sc r0 s' lc la Z'->Lx g s s' Z Z'->Bx s' cl tv->Q (.node 51 (.str []) [tv] 0 t d) Z'):KW w n 824 [.ref g.wi,.int (FE sb),ed cl] Z Q:=by
 obtain⟨n,rfl⟩:∃m,n=m+12:=⟨n-12,((P1 ‹_›).symm)⟩;refine(Ja (OW _) rfl ?_).call;induction cl with
 |ml=>exact jC 9<|Ga (n:=n+8) L λL1 X1=>na<|q _ _ _ _ _ (L1.drop 71) X1 rfl
 |word t=>exact jC 15<|Ga (n:=n+8) L λL1 X1=>jC 7<|Ga (n:=n+8) L1 λL2 X2=>na<|q _ _ _ _ _ (L2.drop 70) (X1.trans X2) (Jh _ _ rfl)
 |num=>exact jC 18<|Ga (n:=n+8) L λL1 X1=>jC 7<|Ga (n:=n+8) L1 λL2 X2=>na<|q _ _ _ _ _ (L2.drop 70) (X1.trans X2) (Wa _ _ rfl (N0 rfl) (N0 rfl))
 |kind p=>
  have hp:Oa g.bh p:=by induction sb with|word u=>exact ok|_=>exact ok.elim
  exact jC 23<|tI (n:=n+6) (lc:=lc+56) hp.pw L λs1 Z1 v1 L1 X1 r1=>jC 7<|Ga (n:=n+8) L1 λL2 X2=>na<|q _ _ _ _ _ (L2.drop 55) (X1.trans X2) (X2.nd r1)
 |cond c=>
  have hc:AN g.bh c:=by induction sb with|true u=>exact ok|_=>exact ok.elim
  have f:=hc.facts F.Le;have tn:=wy c;have ht:=f.ht;exact jA 2<|Dd (Wo c _)<|jA 2<|qa (Sd c _)<|jA 1<|Dd (C0 some (D1 tn.1))<|jA 2<|qa (Sd c _)<|jA 1<|Dd (C0 some (D1 tn.2.1))<|jA 2<|qa (Sd c _)<|jA 1<|Dd (C0 some (D1 tn.2.2))<|jC 2<|vI (lc:=lc+1) c f.so (Fb [_,_] 1116028099783680623360 tO ht) (L.low (by have:=f.cn;exact Fb [_,_] 2872535883869831594857772367241984 tO this) (K0 _)) λs1 Z1 v1 L1 X1 r1=>jC 7<|Ga (n:=n+8) L1 λL2 X2=>na<|q _ _ _ _ _ L2 (X1.trans X2) (X2.nd r1)
theorem oQ{sb:yd}{cl:Cl}(hn:12<=n)(F:WL g D)(hs:Dx g.bh sb)(ok:ah g.bh sb cl)(hw:jb Z (.ref g.wi) (.str Bv)=some (.int g.bh))(q:Q (.int (Ec (hb g.bh sb cl true) (hb g.bh sb cl false))) Z):KW w n 831 [.ref g.wi,kj sb,ed cl] Z Q:=by
 obtain⟨n,rfl⟩:∃m,n=m+12:=⟨n-12,((P1 ‹_›).symm)⟩;refine(Ja (NW _) rfl ?_).call;induction cl with
 |ml=>refine jR 7 ?_;cases sb<;>exact q|word t=>
  induction sb with
  |path p=>
   refine jC 17<|Fi (n:=n+10) hs hw<|Mp rfl (λe=>?_) λe=>?_
   ·exact jA 9<|Pc rfl (λe2=>jR 1<|mt (Q:=λi=>Q (.int i) Z) e e2 q) λe2=>jR 1<|mt (Q:=λi=>Q (.int i) Z) e e2 q
   ·exact jR 4<|mf (Q:=λi=>Q (.int i) Z) e q
  |_=>exact ok.elim
 |num=>refine jR 12 ?_;cases sb<;>exact q|kind p=>
  induction sb with
  |word u=>
   refine jC 27<|Fi (n:=n+10) ok hw<|Mp rfl (λe=>?_) λe=>?_
   ·exact jA 4<|Pc rfl (λe2=>jR 1<|mt (Q:=λi=>Q (.int i) Z) e e2 q) λe2=>jR 1<|mt (Q:=λi=>Q (.int i) Z) e e2 q
   ·exact jR 1<|mf (Q:=λi=>Q (.int i) Z) e q
  |_=>exact ok.elim
 |cond c=>
  have hc:AN g.bh c:=by induction sb with|true u=>exact ok|_=>exact ok.elim
  have f:=hc.facts F.Le;have ht:=f.ht;have tn:=wy c;have q:Q (.int (Ec (Mb g.bh c true) (Mb g.bh c false))) Z:=by cases sb<;>exact q
  exact jA 2<|Dd (Wo c _)<|jA 2<|qa (Sd c _)<|jA 1<|Dd (C0 some (D1 tn.2.1))<|jA 2<|qa (Sd c _)<|jA 1<|Dd (C0 some (D1 tn.1))<|jA 2<|qa (Sd c _)<|jA 1<|Dd (C0 some (D1 tn.1))<|jA 2<|qa (Sd c _)<|jA 1<|Dd (C0 some (D1 tn.2.2))<|jC 2<|rN hw c f.cp (Fb [_,_] 1116028099783675380480 tO ht)<|na<|q
end
noncomputable def zJ(i k:Nat):List AV:=(List.range' i k).map λj=> .int (j:Nat)
theorem nf{lo:Nat}(h:lo<=hi)(h2:hi<=1000)(Z:AH):sa Z (.Gk lo hi)=some (zJ lo (hi-lo)):=by show(if(lo:Int).natAbs<=Ab/\(hi:Int).natAbs<=Ab then some ((List.range ((hi:Int)-lo).toNat).map λ(k:Nat)=>AV.int (lo+k))else none)=_;rw[X0 ⟨by rw[Int.natAbs_natCast];exact xa ((A0 ‹_› ‹_›)),by rw[Int.natAbs_natCast];exact xa h2⟩,show((hi:Int)-lo).toNat=hi-lo by lia,zJ,List.range'_eq_map_range,List.map_map];rfl
theorem uQ{lo:Nat}(h2:lo<=1000)(h3:hi<=1000)(Z:AH):og Z 1 [.int lo,.int hi]=some (.Gk lo hi):=by show(if(lo:Int).natAbs<=Ab/\(hi:Int).natAbs<=Ab then some (AV.Gk lo hi)else none)=_;exact X0 ⟨by rw[Int.natAbs_natCast];exact xa h2,by rw[Int.natAbs_natCast];exact xa h3⟩
theorem ZB(h3:hi<=1000)(Z:AH):og Z 1 [.int hi]=some (.Gk (0:Nat) hi):=by show(if(hi:Int).natAbs<=Ab then some (AV.Gk 0 hi)else none)=_;exact X0 (by rw[Int.natAbs_natCast];exact xa h3)
theorem vQ{xs:List AV}(h:xs.length<=1000)(Z:AH):og Z 0 [.ba xs]=some (.int xs.length):=C0 (Option.map λys:List AV=>AV.int ys.length) (Sn (xa h))
def Fj(bh:Nat)(sb:yd)(T:List Cl)(i:Nat):Prop:=∀j cl,j<i->T[j]? =some cl->hb bh sb cl false=true
def Wr(bh:Nat)(sb:yd)(T:List Cl)(r:Int):Prop:=
 (∃(i:Nat)(cl:Cl),r=i/\T[i]? =some cl/\cl≠ .ml/\hb bh sb cl true=true/\Fj bh sb T i)\/(Fj bh sb T T.length/\((∃i:Nat,r=i/\T[i]? =some .ml)\/r= -1))
noncomputable abbrev sF:List C:=Tg nM[2]?
section
variable{vi:Nat}{g:G}{D:WD}{S:SQ}{m:Bool}{sb:yd}{T:List Cl}
def Dk(bh:Nat)(sb:yd)(T:List Cl)(v0 v1:AV)(m:Bool)(i:Nat):Prop:=m=false->v1=v0/\(Ae bh v0->Fj bh sb T i)
def Sz(bh:Nat)(sb:yd)(v0:AV)(u:Tx):Prop:=match sb with| .path p=>Ae bh v0->pc bh p=true->u=Hd| .word t=>u=t| .true _=>True
theorem Fj.next{bh:Nat}{cl:Cl}(h:Fj bh sb T i)(hc:T[i]? =some cl)(hb:hb bh sb cl false=true):Fj bh sb T (i+1):=λj c hj hcj=>by
 rcases Nat.lt_succ_iff_lt_or_eq.mp hj with h'|h'
 ·exact h j c h' hcj
 ·replace hcj:=hc▸(h'▸hcj);cases hcj;exact hb
theorem vy{cl:Cl}(hn:8<=n)(F:WL g D)(hT:T.length<=10)(hc:T[i]? =some cl)(ok:ah g.bh sb cl)(hw:Sz g.bh sb v0 u)(E:Rc ei vi v1 v2 m Z)(K:Dk g.bh sb T v0 v1 m i)(q1:∀lh Zl m' Z' x5 x7 x8,Rc ei vi lh Zl m' Z'->ce ei vi Z Z'->Dk g.bh sb T v0 lh m' (i+1)->∀fl,fl= .next\/fl= .cont->S fl [a0,some (.ref ei),some (kj sb),some (.ba (T.map ed)),some (.str u),x5,some (.int (i:Nat)),x7,x8] Z')(q2:∀lh Zl m' Z' fr(r:Option Int),Rc ei vi lh Zl m' Z'->ce ei vi Z Z'->(∀x,r=some x->x=i/\(m'=false->Ae g.bh v0->Wr g.bh sb T x))->S (.ret (match r with|some x=> .int x|none=> .none)) fr Z'):IB (KW w n) 6 (cS sF .fin) (.int (i:Nat)) [a0,some (.ref ei),some (kj sb),some (.ba (T.map ed)),some (.str u),x5,x6,x7,x8] Z S:=by
 obtain⟨n,rfl⟩:∃m,n=m+8:=⟨n-8,((P1 ‹_›).symm)⟩;have il:i<T.length:=(B0.mp hc).1;have hi:∀Z:AH,jb Z (.ba (T.map ed)) (.int (i:Nat))=some (ed cl):=λZ=>by
  show Oq (T.map ed) (i:Int)=_;refine rr (qf (xa (Jc [_,_] 9913280008110298986121029632 tO hT il)))<|rr P4<|rr hc ?_;rfl
 have hit:∀{m':Bool}{lh:AV},Dk g.bh sb T v0 lh m' i->cl≠ .ml->(m'=false->Ae g.bh v0->hb g.bh sb cl true=true)->m'=false->Ae g.bh v0->Wr g.bh sb T (i:Int):=λK pg h a b=> .inl (sd i cl rfl hc pg (h a b) ((K a).2 b));have xG:∀{m':Bool}{lh:AV},Dk g.bh sb T v0 lh m' i->(m'=false->Ae g.bh v0->hb g.bh sb cl false=true)->Dk g.bh sb T v0 lh m' (i+1):=λK h a=>⟨(K a).1,λb=>((K a).2 b).next hc (h a b)⟩;refine show At _ _ _ _ _ _ from ?_
 refine jA 2 ?_;refine qa (hi _) ?_;induction cl with
 |ml=>exact jA 4<|dg (q1 _ _ _ _ _ _ _ E ce.refl (xG K λ_ _=>rfl) _ (.inr rfl))
 |num=>exact jA 9<|dg (q1 _ _ _ _ _ _ _ E ce.refl (xG K λ_ _=>by induction sb with|path p=>rfl|_=>exact ok.elim) _ (.inr rfl))
 |word t=>
  induction sb with
  |path p=>
   refine jA 18<|Pc rfl (λe=>?_) λe=>?_
   ·refine jR 9 ?_;refine q2 _ _ _ _ _ (some (i:Int)) E ce.refl λx hx=>by
     refine rq (z0 hx)<|⟨rfl,hit K (λz=>by cases z) λ_ b=>?_⟩;show(!pc g.bh p||(true==decide (t=Hd)))=true;cases ht:pc g.bh p with|false=>rfl|true=>refine rr (N0 e)<|rr (hw b ht) ?_;rfl
   ·refine jA 8<|Ka (q1 _ _ _ _ _ _ _ E ce.refl (xG K λ_ b=>?_) _ (.inl rfl));show(!pc g.bh p||(false==decide (t=Hd)))=true;cases ht:pc g.bh p with|false=>rfl|true=>replace e:=hw b ht▸e;refine rr (D1 (Y1 e)) ?_;rfl
  |_=>exact ok.elim
 |kind p=>
  induction sb with
  |word u0=>
   have hw:u=u0:=hw;refine Df (Aj E (Oa.pw ok)) λv hvi hv gn=>jA 21<|qa (Oe E)<|jC 10<|Cj (n:=n+7) (Oa.pw ok).2.2 hvi hv λr hr hl=>?_;induction r with
   |none=>exact jR 10<|q2 _ _ _ _ _ none E ce.refl λx h=>Mine.ns h
   |some y=>
    have hy:=hl y rfl;refine jA 3<|Dd (hy.Bg _)<|jC 1<|Gz (n:=n+7) hy λt ht=>?_;have und:m=false->Ae g.bh v0->pc g.bh p=true->t=Hd:=λa b c=>ht (On ok gn ((K a).1▸b) c hr);refine jA 1<|Pc rfl (λe=>?_) λe=>?_
    ·refine jR 9 ?_;refine q2 _ _ _ _ _ (some (i:Int)) E ce.refl λx hx=>by
      refine rq (z0 hx)<|⟨rfl,hit K (λz=>by cases z) λa b=>?_⟩;show(!pc g.bh p||(true==decide (u0=Hd)))=true;cases htl:pc g.bh p with|false=>rfl|true=>refine rq hw<|rq (N0 e)<|rr (und a b htl) ?_;rfl
    ·refine jA 8<|Ka (q1 _ _ _ _ _ _ _ E ce.refl (xG K λa b=>?_) _ (.inl rfl));show(!pc g.bh p||(false==decide (u0=Hd)))=true;cases htl:pc g.bh p with|false=>rfl|true=>replace e:=und a b htl▸e;refine rq hw<|rr (D1 (λz=>Y1 e z.symm)) ?_;rfl
  |_=>exact ok.elim
 |cond c=>
  have hc:AN g.bh c:=by induction sb with|true u=>exact ok|_=>exact ok.elim
  have f:=hc.facts F.Le;have tn:=wy c;have ht:=f.ht;have hbc:∀y,hb g.bh sb (.cond c) y=Mb g.bh c y:=λy=>by cases sb<;>rfl
  refine jA 3<|Dd (Wo c _)<|jA 2<|qa (Sd c _)<|jA 1<|Dd (C0 some (D1 tn.2.1))<|jA 2<|qa (Sd c _)<|jA 1<|Dd (C0 some (D1 tn.1))<|jA 2<|qa (Sd c _)<|jA 1<|Dd (C0 some (D1 tn.2.2))<|jC 2<|dj c f.cp (Fb [_,_] 1116028096485141545728 tO ht) E λr lh Zl m' Z' E' X h1 h2=>?_;have K':Dk g.bh sb T v0 lh m' i:=λa=>⟨(h1 a).2.trans (K (h1 a).1).1,(K (h1 a).1).2⟩;have GH:m'=false->Ae g.bh v0->∀b,r=some b->Mb g.bh c b=true:=λa b=>h2 a ((K (h1 a).1).1▸b);induction r with
  |none=>refine jR 5 ?_;exact q2 _ _ _ _ _ none E' X λx h=>by cases h
  |some b=>
   induction b with
   |true=>
    refine jR 8 ?_;exact q2 _ _ _ _ _ (some (i:Int)) E' X λx hx=>by
     cases hx;exact⟨rfl,hit K' (λz=>by cases z) λa b=>(hbc true).trans (GH a b true rfl)⟩
   |false=>exact jA 7<|Ka (q1 _ _ _ _ _ _ _ E' X (xG K' λa b=>(hbc false).trans (GH a b false rfl)) _ (.inl rfl))
end
noncomputable def Ff:Cl->Bool| .ml=>true|_=>false
theorem Ww{cl:Cl}(h:Ff cl=false):∃b,ed cl= .tup b:=by
 induction cl with|ml=>cases h|cond c=>cases c<;>exact⟨_,rfl⟩|_=>exact⟨_,rfl⟩
theorem ji:∀T:List Cl,Bc .none (T.map ed)=some (T.any Ff)
 |[]=>rfl|cl::T=>by
  cases h:Ff cl with
  |true=>
   have:cl= .ml:=by induction cl with|ml=>rfl|_=>cases h
   refine rr List.any_cons<|rr this ?_;exact MO.trans (by refine rr (ji T) ?_;rfl)
  |false=>refine kE (Ww h) λb hb=>?_;rw[List.any_cons,h,Bool.false_or,K4,hb,LO,ji T]
theorem aL:∀(T:List Cl)(k:Nat),T.any Ff=true->∃i:Nat,T[i]? =some .ml/\kr .none (T.map ed) k=some (k+i):=by
 intro T;induction T with
 |nil=>intro _ h;cases h|cons cl T ih=>
  intro k h;cases hc:Ff cl with
  |true=>
   have:cl= .ml:=by induction cl with|ml=>rfl|_=>cases hc
   clear h hc;subst this;refine(Na 0 rfl ?_);show((Bc .none (T.map ed)).bind λ_=>some k)=_;refine rr (ji T) ?_;rfl
  |false=>rw[List.any_cons,hc,Bool.false_or]at h;refine Xa (ih (k+1) h) λi h1 h2=>kE (Ww hc) λb hb=>(Na (i+1) h1 ?_);refine rr K4<|rr hb ?_;show((Bc .none (T.map ed)).bind λ_=>kr .none (T.map ed) (k+1))=_;refine rr (ji T) ?_;show kr .none (T.map ed) (k+1)=_;refine rr h2 ?_;congr 1;exact Nat.add_right_comm _ _ _
section
variable{vi:Nat}{g:G}{D:WD}{S:SQ}{m:Bool}{sb:yd}{T:List Cl}
theorem gj{vi':AV}(We:∀Z,ye vi' je Z)(hn:8<=n)(F:WL g D)(hT:T.length<=10)(ok:∀cl∈T,ah g.bh sb cl)(hw:Sz g.bh sb v0 u):∀(k i:Nat){Z:AH}{v1 v2:AV}{m:Bool}{x5 x6 x7 x8:Option AV},i+k=T.length->Rc ei vi v1 v2 m Z->Dk g.bh sb T v0 v1 m i->(∀lh Zl m' Z' x5 x6 x7 x8,Rc ei vi lh Zl m' Z'->ce ei vi Z Z'->Dk g.bh sb T v0 lh m' T.length->S .next [a0,some (.ref ei),some (kj sb),some (.ba (T.map ed)),some (.str u),x5,x6,x7,x8] Z')->(∀lh Zl m' Z' fr(r:Option Int),Rc ei vi lh Zl m' Z'->ce ei vi Z Z'->(∀x,r=some x->(0<=x/\x<T.length)/\(m'=false->Ae g.bh v0->Wr g.bh sb T x))->S (.ret (match r with|some x=> .int x|none=> .none)) fr Z')->Eb (ye vi' je) (IB (KW w n) 6 (cS sF .fin)) (zJ i k) [a0,some (.ref ei),some (kj sb),some (.ba (T.map ed)),some (.str u),x5,x6,x7,x8] Z S
 |0,i,Z,v1,v2,m,_,_,_,_,hi,E,K,q1,q2=>⟨We Z,q1 _ _ _ _ _ _ _ _ E ce.refl (by have:i=T.length:=hi;exact rq this K)⟩|k+1,i,Z,v1,v2,m,_,_,_,_,hi,E,K,q1,q2=>by
  have il:i<T.length:=(Fb [_,_,_] 304298645539324929 tO hi);refine⟨We Z,vy hn F hT (z3 il) (ok _ (List.getElem_mem il)) hw E K (λlh Zl m' Z' _ _ _ E' X K' fl hfl=>?_) λlh Zl m' Z' fr r E' X h=>?_⟩
  ·rcases hfl with rfl|rfl
   ·exact gj We hn F hT ok hw k (i+1) (o4 (Fb [_,_,_] 19881679618453271160578816 tO hi) (Fb [_,_,_] 539161940755860162371584 tO hi)) E' K' (λa b c d e f g h E2 X2=>q1 a b c d e f g h E2 (X.trans X2)) λa b c d e f E2 X2=>q2 a b c d e f E2 (X.trans X2)
   ·exact gj We hn F hT ok hw k (i+1) (o4 (Fb [_,_,_] 19881679618453271160578816 tO hi) (Fb [_,_,_] 539161940755860162371584 tO hi)) E' K' (λa b c d e f g h E2 X2=>q1 a b c d e f g h E2 (X.trans X2)) λa b c d e f E2 X2=>q2 a b c d e f E2 (X.trans X2)
  ·refine q2 _ _ _ _ _ r E' X λx hx=>?_;refine kA (h x hx) λez h2=>?_;clear hx;subst ez;exact⟨⟨E4 _,Int.ofNat_lt.mpr il⟩,h2⟩
def uZ(bh ei vi:Nat)(sb:yd)(T:List Cl)(v0:AV)(Z:AH)(Q:AV->AH->Prop):Prop:=
 ∀lh Zl m' Z'(r:Option Int),Rc ei vi lh Zl m' Z'->ce ei vi Z Z'->(∀x,r=some x->(-1<=x/\x<T.length)/\(m'=false->Ae bh v0->Wr bh sb T x))->Q (match r with|some x=> .int x|none=> .none) Z'
theorem AC(hT:T.length<=10)(E:Rc ei vi v1 v2 m Z)(K:Dk g.bh sb T v0 v1 m T.length)(q:∀(r:Option Int),(∀x,r=some x->(-1<=x/\x<T.length)/\(m=false->Ae g.bh v0->Wr g.bh sb T x))->∀fr,S (.ret (match r with|some x=> .int x|none=> .none)) fr Z):At (KW w n) (cS (nM.drop 3) .fin) [] [a0,some (.ref ei),some (kj sb),some (.ba (T.map ed)),some (.str u),x5,x6,x7,x8] Z S:=by
 refine jA 2<|Pc (ji T) (λe=>?_) λe=>?_
 ·refine Xa (aL T 0 e) λi h1 h2=>?_;have il:=(B0.mp h1).1;have mm:Mc Z 12 (.ba (T.map ed)) [.none]=some (.int (i:Nat),Z):=by refine(X0 (by rw[R0];exact xa ((A0 ‹_› (N0 rfl)))):(if(T.map ed).length<=Ab then(kr .none (T.map ed) 0).map λ(k:Nat)=>(AV.int (k:Int),Z)else none)=_).trans ?_;rw[h2,Nat.zero_add];rfl
  refine jA 3<|Fh rfl mm ?_;exact na (q (some (i:Int)) (λx hx=>by cases hx;exact⟨⟨(E4 _),Int.ofNat_lt.mpr il⟩,λa b=> .inr ⟨(K a).2 b,.inl (Na i rfl h1)⟩⟩) _)
 ·refine jA 1<|ik ?_;exact na (q (some (-1)) (λx hx=>by cases hx;exact⟨⟨by decide,(E4 _)⟩,λa b=> .inr ⟨(K a).2 b,.inr rfl⟩⟩) _)
theorem Rk(hn:8<=n)(F:WL g D)(hT:T.length<=10)(ok:∀cl∈T,ah g.bh sb cl)(hw:Sz g.bh sb v1 u)(E:Rc ei vi v1 v2 false Z)(q:uZ g.bh ei vi sb T v1 Z Q):At (KW w n) (cS (nM.drop 2) .fin) [] [a0,some (.ref ei),some (kj sb),some (.ba (T.map ed)),some (.str u),x5,x6,x7,x8] Z (Rq Q):=by refine jA 1 ?_;refine Ef rfl (vQ (by rw[R0];exact A0 ‹_› (N0 rfl)) _) ?_;refine Ef rfl (by rw[R0];exact ZB ((A0 ‹_› (N0 rfl))) _) ?_;refine Ve (nf (c5 _) ((A0 ‹_› (N0 rfl))) _) (xa (by rw[zJ,R0,List.length_range'];exact A0 ‹_› (N0 rfl))) ?_;refine gj (λZ=>nf (c5 _) ((A0 ‹_› (N0 rfl))) Z) hn F hT ok hw T.length 0 (Nat.zero_add _) E (λ_=>⟨rfl,λ_ j cl hj=>absurd hj (Nat.not_lt_zero _)⟩) (λlh Zl m' Z' _ _ _ _ E' X K'=>?_) λlh Zl m' Z' fr r E' X h=>q _ _ _ _ r E' X λx hx=>⟨⟨by have:=(h x hx).1;lia,(h x hx).1.2⟩,(h x hx).2⟩;exact AC hT E' K' λr h fr=>q _ _ _ _ r E' X h
theorem dM(hn:9<=n)(F:WL g D)(hT:T.length<=10)(hs:Dx g.bh sb)(ok:∀cl∈T,ah g.bh sb cl)(E:Rc ei vi v1 v2 false Z)(q:uZ g.bh ei vi sb T v1 Z Q):KW w n 838 [.ref g.wi,.ref ei,kj sb,.ba (T.map ed)] Z Q:=by
 obtain⟨n,rfl,hm⟩:∃m,n=m+1/\8<=m:=(Na (n-1) ((P1 (Fb [_] 2688651626272 tO hn)).symm) ((Nat.le_sub_of_add_le ‹_›)));refine(Ja (MW _) rfl ?_).call;induction sb with
 |path p=>
  refine Df (Aj E (Oa.pw hs)) λv hvi hv gn=>?_;obtain⟨n,rfl⟩:∃m,n=m+1:=⟨n-1,((P1 (Fb [_] 2413773719328 tO hm)).symm)⟩;refine jA 11<|qa (Oe E)<|jC 10<|Cj (Oa.pw hs).2.2 hvi hv λr hr hl=>?_;induction r with
  |none=>refine jR 5 ?_;exact q _ _ _ _ none E ce.refl λx h=>by cases h
  |some y=>have hy:=hl y rfl;exact jA 3<|Dd (hy.Bg _)<|jC 1<|Gz hy λt ht=>jA 1<|Rk hm F hT ok (λa c=>ht (On hs gn a c hr)) E q
 |word t=>exact jA 9<|Rk hm F hT ok rfl E q
 |true t=>exact jA 9<|Rk hm F hT ok trivial E q
end
section
variable{g:G}{D:WD}{s:St}{S:SQ}{sb:yd}{kk:Int}{V:AV->AH->Prop}
theorem ND(hk:kk=FE sb)(hn:8<=n)(F:WL g D)(L:LS g D sc r0 s lc (la+7) Z)(q:∀cl s' Z',ah g.bh sb cl->LS g D sc r0 s' lc la Z'->Lx g s s' Z Z'->Q (ed cl) Z'):KW w n 817 [.ref g.wi,.int kk] Z Q:=hk▸BI hn F L q
theorem MD{cl:Cl}(hk:kk=FE sb)(hn:12<=n)(F:WL g D)(ok:ah g.bh sb cl)(L:LS g D sc r0 s (lc+72) la Z)(q:∀s' Z' tv t d,LS g D sc r0 s' lc la Z'->Lx g s s' Z Z'->Bx s' cl tv->Q (.node 51 (.str []) [tv] 0 t d) Z'):KW w n 824 [.ref g.wi,.int kk,ed cl] Z Q:=hk▸AI hn F ok L q
noncomputable abbrev KM:J:=cT (.lit (.bool true)) (cX (.za (.cmp 0 (.var 20) V6) (.lit .none) (.call 817 [.var 0,.var 2])) .ret) .cont
theorem Nn{df:Int}(hl:fr.length=20)(h0:Wh fr 0=some (.ref g.wi))(h2:Wh fr 2=some (.int kk))(h6:Wh fr 6=some (.int df))(We:∀Z,ye vi je Z)(hk:kk=FE sb)(hn:8<=n)(F:WL g D):∀(k i:Nat){s:St}{Z:AH}(Ra:List Cl),(∀cl∈Ra,ah g.bh sb cl)->LS g D sc r0 s lc (la+7*k) Z->(∀(T:List Cl) s' Z',T.length=Ra.length+k->(∀cl∈T,ah g.bh sb cl)->LS g D sc r0 s' lc la Z'->Lx g s s' Z Z'->V (.ba (T.map ed)) Z')->Sa (ye vi je) (Ku (KW w n) 0 KM fr) (zJ i k) (Ra.map ed) Z V
 |0,i,s,Z,Ra,ha,L,q=>⟨We Z,q Ra s Z rfl ha L Lx.refl⟩|k+1,i,s,Z,Ra,ha,L,q=>by
  refine⟨We Z,Aa rfl ?_⟩;refine jA 2<|Ua (Jj hl)<|Ua (Si hl (N0 rfl) h6) ?_;have next:∀cl s' Z',ah g.bh sb cl->LS g D sc r0 s' lc (la+7*k) Z'->Lx g s s' Z Z'->Sa (ye vi je) (Ku (KW w n) 0 KM fr) (zJ (i+1) k) (Ra.map ed++[ed cl]) Z' V:=λcl s' Z' hc L' X'=>by
   have:=Nn hl h0 h2 h6 We hk hn F k (i+1) (Ra++[cl]) (λc hcm=>(D2.mp hcm).elim (ha c) λh=>by exact rr (J0.mp h) hc) L' λT s2 Z2 h1 h2 L2 X2=>q T s2 Z2 (rr h1<|rr A1<|rr List.length_singleton<|Nat.add_right_comm _ _ _) h2 L2 (X'.trans X2);replace this:=List.map_append▸this;exact this
  exact Pc rfl (λe=>jA 1<|na (next .ml s Z trivial (L.low (K0 _) (Lm [_,_] 1052474322530871378688 tO)) Lx.refl)) λe=>Ua (Si hl (N0 rfl) h0)<|Ua (Si hl (N0 rfl) h2)<|jC 0<|ND hk hn F (L.low (K0 _) (show la+7*k+7<=la+7*(k+1)from(Lm [_,_] 34487478600721152613573376 tO))) λcl s' Z' hc L' X'=>na (next cl s' Z' hc L' X')
def Zr(s:St):List Cl->List AV->Prop|[],[]=>True|cl::T,c::cs=>(∃tv t d,c= .node 51 (.str []) [tv] 0 t d/\Bx s cl tv)/\Zr s T cs|_,_=>False
theorem Bx.up{s':St}(X:Lx g s s' Z Z'){cl:Cl}(h:Bx s cl tv):Bx s' cl tv:=by
 induction cl with|ml=>exact h|_=>exact X.nd h
theorem Zr.up{s':St}(X:Lx g s s' Z Z'):∀{T:List Cl}{cs:List AV},Zr s T cs->Zr s' T cs|[],[],h=>h|cl::T,c::cs,⟨⟨tv,t,d,e,h⟩,h2⟩=>⟨(ve tv t d e (h.up X)),Zr.up X h2⟩
theorem Zr.snoc:∀{T:List Cl}{cs:List AV}{cl:Cl}{tv:AV}{t d:Int},Zr s T cs->Bx s cl tv->Zr s (T++[cl]) (cs++[.node 51 (.str []) [tv] 0 t d])|[],[],cl,tv,t,d,_,h=>⟨(ve tv t d rfl h),trivial⟩|c::T,x::cs,cl,tv,t,d,⟨h1,h2⟩,h=>⟨h1,Zr.snoc h2 h⟩
noncomputable abbrev cQ:J:=cT (.lit (.bool true)) (cX (.call 824 [.var 0,.var 2,.var 20]) .ret) .cont
theorem Sy(hl:fr.length=20)(h0:Wh fr 0=some (.ref g.wi))(h2:Wh fr 2=some (.int kk))(We:∀Z,ye vi je Z)(hk:kk=FE sb)(hn:12<=n)(F:WL g D):∀(T:List Cl){T0:List Cl}{cs:List AV}{s:St}{Z:AH},(∀cl∈T,ah g.bh sb cl)->Zr s T0 cs->LS g D sc r0 s (lc+72*T.length) la Z->(∀cs' s' Z',Zr s' (T0++T) cs'->LS g D sc r0 s' lc la Z'->Lx g s s' Z Z'->V (.ba cs') Z')->Sa (ye vi je) (Ku (KW w n) 0 cQ fr) (T.map ed) cs Z V:=by
 intro T;induction T with|nil=>intro T0 cs s Z _ hc L q;exact⟨We Z,q cs s Z (by rw[K2];exact hc) L Lx.refl⟩|cons cl T ih=>intro T0 cs s Z ok hc L q;refine⟨We Z,Aa rfl ?_⟩;exact jA 2<|Ua (Si hl (N0 rfl) h0)<|Ua (Si hl (N0 rfl) h2)<|Ua (Jj hl)<|jC 0<|MD hk hn F (ok cl (.head _)) (L.low (show lc+72*T.length+72<=lc+72*(T.length+1)from(Lm [_,_] 4628871255284095189450637037298432 tO)) (K0 _)) λs' Z' tv t d L' X' h=>na<|ih (λc h=>ok c (.tail _ h)) ((hc.up X').snoc h) L' λcs' s2 Z2 h1 L2 X2=>q cs' s2 Z2 (by rw[A3]at h1;exact h1) L2 (X'.trans X2)
noncomputable def yk(bh:Nat)(sb:yd)(cl:Cl):AV:= .int (Ec (hb bh sb cl true) (hb bh sb cl false))
noncomputable abbrev PU:J:=cT (.lit (.bool true)) (cX (.call 831 [.var 0,.var 8,.var 20]) .ret) .cont
theorem zz(hl:fr.length=20)(h0:Wh fr 0=some (.ref g.wi))(h8:Wh fr 8=some (kj sb))(We:ye vi je Z)(hn:12<=n)(F:WL g D)(hs:Dx g.bh sb)(hw:jb Z (.ref g.wi) (.str Bv)=some (.int g.bh)):∀(T:List Cl){Ra:List AV},(∀cl∈T,ah g.bh sb cl)->V (.ba (Ra++T.map (yk g.bh sb))) Z->Sa (ye vi je) (Ku (KW w n) 0 PU fr) (T.map ed) Ra Z V:=by
 intro T;induction T with|nil=>intro Ra _ q;exact⟨We,by rw[List.map_nil,K2]at q;exact q⟩|cons cl T ih=>intro Ra ok q;refine⟨We,Aa rfl ?_⟩;exact jA 2<|Ua (Si hl (N0 rfl) h0)<|Ua (Si hl (N0 rfl) h8)<|Ua (Jj hl)<|jC 0<|oQ hn F hs (ok cl (.head _)) hw<|na<|ih (λc h=>ok c (.tail _ h)) (by rw[A3];exact q)
noncomputable abbrev ZS:J:=cT (.lit (.bool true)) (cX (.cmp 1 (.bin 5 (.var 20) I2) I0) .ret) .cont
theorem Tq(hl:fr.length=20)(We:ye vi je Z):∀(T:List Cl){Ra:List AV},V (.ba (Ra++T.map λcl=> .bool (hb g.bh sb cl false))) Z->Sa (ye vi je) (Ku K 0 ZS fr) (T.map (yk g.bh sb)) Ra Z V:=by
 intro T;induction T with|nil=>intro Ra q;exact⟨We,by rw[List.map_nil,K2]at q;exact q⟩|cons cl T ih=>intro Ra q;refine⟨We,Aa rfl ?_⟩;exact jA 2<|Ua (Jj hl)<|jA 1<|Fa (zQ _ _)<|jA 1<|aj (UB _ _)<|na<|ih (by rw[A3];exact q)
theorem Tr(f:Cl->Bool):∀T:List Cl,aE (T.map λcl=> .bool (f cl))=some (T.all f)
 |[]=>rfl|cl::T=>by
  show(aE (T.map λcl=> .bool (f cl))).map (f cl&&·)=_;refine rr (Tr f T) ?_;rfl
theorem JI(f:Cl->Bool){T:List Cl}(h:T.length<=10)(Z:AH):og Z 5 [.ba (T.map λcl=> .bool (f cl))]=some (.bool (T.all f)):=by show((Se (some (T.map λcl=>AV.bool (f cl)))).bind λys=>(aE ys).map AV.bool)=_;refine rr (Sn (by rw[R0];exact xa ((A0 ‹_› (N0 rfl))))) ?_;show(aE (T.map λcl=>AV.bool (f cl))).map AV.bool=_;rw[Tr];rfl
end
noncomputable abbrev gT:List C:=Tg xQ[14]?
noncomputable abbrev aS:List C:=Tg xQ[16]?
noncomputable def Xi(bh:Nat)(sb:yd)(T:List Cl)(j:Nat):Bool:=match T[j]? with|some cl=>hb bh sb cl true&&(T.take j).all λc=>hb bh sb c false|none=>false
section
variable{g:G}{D:WD}{s:St}{S:SQ}{sb:yd}{T:List Cl}{f1 f15 f16 f17 f18:Option AV}
theorem Tv(We:ye vi je Z)(hT:T.length<=10):∀(k i:Nat){m:Bool}{f9:Option AV},i+k<=T.length->(∀f9,S .next [f0,f1,f2,f3,f4,f5,f6,f7,f8,f9,mN,FL,some (.ba (T.map (yk g.bh sb))),EL,some (.bool (m||(List.range' i k).any (Xi g.bh sb T))),f15,f16,f17,f18,BL] Z)->Eb (ye vi je) (IB K 9 (cS gT .fin)) (zJ i k) [f0,f1,f2,f3,f4,f5,f6,f7,f8,f9,mN,FL,some (.ba (T.map (yk g.bh sb))),EL,some (.bool m),f15,f16,f17,f18,BL] Z S
 |0,i,m,f9,_,q=>⟨We,by have:=q f9;rw[List.range'_zero,List.any_nil,Bool.or_false]at this;exact this⟩|k+1,i,m,f9,hi,q=>by
  refine⟨We,?_⟩;have il:i<T.length:=(Fb [_,_,_] 304298645522547713 tO hi);have q:∀f9,S .next [f0,f1,f2,f3,f4,f5,f6,f7,f8,f9,mN,FL,some (.ba (T.map (yk g.bh sb))),EL,some (.bool ((m||Xi g.bh sb T i)||(List.range' (i+1) k).any (Xi g.bh sb T))),f15,f16,f17,f18,BL] Z:=λf9=>by
   have:=q f9;rw[List.range'_succ,List.any_cons,<-Bool.or_assoc]at this;exact this
  have hm:Xi g.bh sb T i=(hb g.bh sb T[i] true&&(T.take i).all λc=>hb g.bh sb c false):=by unfold Xi;rw[z3 il]
  have rest:∀(b:Bool) f9,b=(m||Xi g.bh sb T i)->Eb (ye vi je) (IB K 9 (cS gT .fin)) (zJ (i+1) k) [f0,f1,f2,f3,f4,f5,f6,f7,f8,f9,mN,FL,some (.ba (T.map (yk g.bh sb))),EL,some (.bool b),f15,f16,f17,f18,BL] Z S:=λb f9 e=>
   Tv We hT k (i+1) (Fb [_,_,_] 19881679617890321207157504 tO hi) (by refine rr e ?_;exact q)
  have mL:jb Z (.ba (T.map (yk g.bh sb))) (.int (i:Nat))=some (yk g.bh sb T[i]):=by show Oq (T.map (yk g.bh sb)) (i:Int)=_;rw[qf (xa (by exact Jc [_,_,_] 350832452245692835682045988638582784 tO hT hi)),P4,z3 il];rfl
  refine show At _ _ _ _ _ _ from ?_
  refine jA 2 ?_;refine qa mL ?_;refine jA 1<|Fa (AQ _ _)<|Mp (LR _) (λe=>?_) λe=>?_
  ·refine jA 3 ?_;refine gr (EF (by rw[R0];exact A0 ‹_› (N0 rfl)) (by rw[R0];exact Nat.le_of_lt ‹_›)) ?_;rw[<-List.map_take];refine Wd rfl (by rw[R0,List.length_take];exact xa (Jc [_,_] 9903608601553381952723380224 tO hT (Nat.min_le_right _ _)))<|Tq (by rfl) (by rfl) (T.take i) ?_;exact Ef rfl (JI (λc=>hb g.bh sb c false) (by rw[List.length_take];exact A0 (Nat.min_le_right _ _) ‹_›) _)<|Mp rfl (λe2=>jA 2<|Ka (rest true _ (by rw[hm,e,e2,T4,Bool.or_true]))) λe2=>Ka (rest m _ (by rw[hm,e,e2,Bool.and_false,Bool.or_false]))
  ·exact Ka (rest m _ (by rw[hm,e,Bool.false_and,Bool.or_false]))
noncomputable def Ui(bh:Nat)(sb:yd)(T:List Cl)(low high:Nat):Bool:=
 (T.all (λc=>hb bh sb c false)&&(decide (low=high)||((T.drop low).take (high-low)).any Ff))||(List.range' low (high-low)).any (Xi bh sb T)
theorem wo{bh:Nat}(h:Fj bh sb T i)(hi:i<=T.length):((T.take i).all λc=>hb bh sb c false)=true:=by rw[B2];intro c hc;obtain⟨j,hj,e⟩:=List.mem_take_iff_getElem.mp hc;exact h j c (Jc [_,_,_] 76561760609436673 tO hj (Nat.min_le_left _ _)) (by refine rq e ?_;exact z3 _)
theorem fK{bh:Nat}{low:Nat}(h2:high<=T.length){x:Int}(ht:Wr bh sb T x)(hx:((low:Int)<=x/\x<high)\/(x= -1/\low=high)):Ui bh sb T low high=true:=by
 unfold Ui;rw[Bool.or_eq_true];rcases ht with⟨i,cl,rfl,hc,_,hh,hm⟩|⟨hm,hr⟩
 ·have il:=(B0.mp hc).1;right;rcases hx with⟨a,b⟩|⟨a,_⟩
  ·rw[List.any_eq_true];refine(Na i (List.mem_range'_1.mpr ⟨(Int.ofNat_le.mp ‹_›),by lia⟩) ?_);unfold Xi;rw[hc];show(hb bh sb cl true&&_)=true;rw[hh,wo hm (Nat.le_of_lt il)];rfl
  ·lia
 ·left;have all:=wo hm (K0 _);rw[List.take_length]at all;rw[all,Bool.true_and,Bool.or_eq_true];rcases hx with⟨a,b⟩|⟨a,e⟩
  ·right;rcases hr with⟨i,rfl,hi⟩|rfl
   ·rw[List.any_eq_true];refine(Na .ml (List.mem_iff_getElem?.mpr ⟨i-low,?_⟩) rfl);rw[List.getElem?_take_of_lt (by lia),List.getElem?_drop,show low+(i-low)=i by lia,hi]
   ·lia
  ·left;exact Y2 e
end
section
variable{g:G}{D:WD}{s:St}{low:Nat}{S:SQ}{sb:yd}{T:List Cl}{f1 RU QU CN BN GJ:Option AV}
theorem vF{x:AV}(hn:9<=n)(F:WL g D)(hT:T.length<=10)(hs:Dx g.bh sb)(PS:∀cl∈T,ah g.bh sb cl)(hh:high<=T.length)(hx:∃bb h,x= .tup [.int bb,h]/\Vp D.W bb h)(L:LS g D sc r0 s lc la Z0)(G:tb Z0 Z)(hl:Z0.length<=li)(he:Z[li]? =some (.list es))(ig:es.length<=100)(ok:∀x∈es,Yd D.W (Ui g.bh sb T low high) x)(q:∀Z' zj f9 CN BN GJ,tb Z0 Z'->Z'[li]? =some (.list zj)->zj.length<=es.length+1->(∀x∈zj,Yd D.W (Ui g.bh sb T low high) x)->S .next [some (.ref g.wi),f1,f2,f3,some (.int low),some (.int high),f6,f7,some (kj sb),f9,some (.ba (T.map ed)),FL,RU,EL,QU,some (.ref li),CN,BN,GJ,BL] Z'):vz (KW w n) [16,17] (cS aS .fin) x [some (.ref g.wi),f1,f2,f3,some (.int low),some (.int high),f6,f7,some (kj sb),f9,some (.ba (T.map ed)),FL,RU,EL,QU,some (.ref li),CN,BN,GJ,BL] Z S:=by
 refine db hx λbb h ez AP=>?_;clear hx;subst ez;obtain⟨n,rfl⟩:∃m,n=m+1:=⟨n-1,((P1 (Fb [_] 2688651626272 tO hn)).symm)⟩;have lli:li<Z.length:=(B0.mp he).1;refine Aa rfl<|jC 2<|zI (n:=n) F (L.grow G) AP.lv λZ1 G1 E1 e1=>?_;have hg:=G.len;refine jC 5<|dM hn F hT hs PS E1 λv1 v2 m Z2 r E2 X2 hr=>?_;have Gs:tb Z0 Z2:=(G.trans G1).same X2 ((Nat.le_succ_of_le ‹_›)) ‹_›;have vt:Z2[li]? =some (.list es):=(X2.at' li (H4 (Fb [_,_] 281752061927425 tO lli)) ((H4 ‹_›))).trans (G1.get he);have no:∀f9 GJ,S .next [some (.ref g.wi),f1,f2,f3,some (.int low),some (.int high),f6,f7,some (kj sb),f9,some (.ba (T.map ed)),FL,RU,EL,QU,some (.ref li),some (.int bb),some h,GJ,BL] Z2:=λ_ _=>q _ _ _ _ _ _ Gs vt (Y4 _) ok;induction r with
 |none=>exact jA 4<|Ka (no _ _)
 |some x=>
  refine jA 6<|qa (PH E2) ?_;induction m with
  |true=>exact jA 1<|Ka (no _ _)
  |false=>
   have yes:∀{k:J}{fr:Fr},(((low:Int)<=x/\x<high)\/(x= -1/\low=high))->Wh fr 15=some (.ref li)->Wh fr 16=some (.int bb)->Wh fr 17=some h->(∀Z',S .next fr Z'->At (KW w (n+1)) k [] fr Z' S)->
     (∀zj Z',tb Z0 Z'->Z'[li]? =some (.list zj)->zj.length<=es.length+1->(∀x∈zj,Yd D.W (Ui g.bh sb T low high) x)->S .next fr Z')->
     At (KW w (n+1)) (cS [.exp (.Dc (.var 15) 27 [.tup [.var 16,.var 17]])] k) [] fr Z2 S:=λhx e15 e16 e17 hk hq=>by
    refine Ua e15<|Zi (Hl vt) (Ss vt 27 rfl)<|Ua e16<|Ua e17<|jA 1<|Fh rfl (Pz vt (A0 ig (N0 rfl)) _)<|jA 1<|hk _ (hq _ _ (Gs.set _ hl) (E3 (B0.mp vt).1) (D3 A1) λy hy=>?_);rcases D2.mp hy with hy|hy
    ·exact ok y hy
    ·exact rr (J0.mp hy)<|Rt F AP λhn=>fK hh ((hr x rfl).2 rfl (Kl F.Le AP.lv hn)) hx
   refine jA 3<|NZ rfl (λe=>?_) λe=>?_
   ·refine jA 1<|Pc rfl (λe2=>yes (.inl ⟨N0 e,N0 e2⟩) rfl rfl rfl (λZ' h=>Ka h) λzj Z' a b c d=>q _ _ _ _ _ _ a b c d) λe2=>?_
    ·refine jA 2<|ik<|Pc rfl (λe3=>?_) λe3=>?_
     ·exact jA 2<|Pc rfl (λe4=>yes (.inr ⟨N0 e3,Int.ofNat_inj.mp (N0 e4)⟩) rfl rfl rfl (λZ' h=>Ka h) λzj Z' a b c d=>q _ _ _ _ _ _ a b c d) λe4=>Ka (no _ _)
     ·exact Ka (no _ _)
   ·refine jA 2<|ik<|Pc rfl (λe3=>?_) λe3=>?_
    ·exact jA 2<|Pc rfl (λe4=>yes (.inr ⟨N0 e3,Int.ofNat_inj.mp (N0 e4)⟩) rfl rfl rfl (λZ' h=>Ka h) λzj Z' a b c d=>q _ _ _ _ _ _ a b c d) λe4=>Ka (no _ _)
    ·exact Ka (no _ _)
theorem Yu(hc:∀Z,ye vi je Z)(hn:9<=n)(F:WL g D)(hT:T.length<=10)(hs:Dx g.bh sb)(PS:∀cl∈T,ah g.bh sb cl)(hh:high<=T.length)(L:LS g D sc r0 s lc la Z0)(hl:Z0.length<=li):∀(yr:List AV){Z:AH}{es:List AV}{f9 CN BN GJ:Option AV},(∀x∈yr,∃bb h,x= .tup [.int bb,h]/\Vp D.W bb h)->tb Z0 Z->Z[li]? =some (.list es)->es.length+yr.length<=100->(∀x∈es,Yd D.W (Ui g.bh sb T low high) x)->(∀Z' zj f9 CN BN GJ,tb Z0 Z'->Z'[li]? =some (.list zj)->zj.length<=es.length+yr.length->(∀x∈zj,Yd D.W (Ui g.bh sb T low high) x)->S .next [some (.ref g.wi),f1,f2,f3,some (.int low),some (.int high),f6,f7,some (kj sb),f9,some (.ba (T.map ed)),FL,RU,EL,QU,some (.ref li),CN,BN,GJ,BL] Z')->Eb (ye vi je) (vz (KW w n) [16,17] (cS aS .fin)) yr [some (.ref g.wi),f1,f2,f3,some (.int low),some (.int high),f6,f7,some (kj sb),f9,some (.ba (T.map ed)),FL,RU,EL,QU,some (.ref li),CN,BN,GJ,BL] Z S
 |[],Z,es,_,_,_,_,_,G,he,ig,ok,q=>⟨hc Z,q _ _ _ _ _ _ G he (K0 _) ok⟩|x::yr,Z,es,_,_,_,_,h,G,he,ig,ok,q=>⟨hc Z,vF hn F hT hs PS hh (h x (.head _)) L G hl he (A0 (Q1 _ _) ig) ok λZ1 es1 _ _ _ _ G1 oz ww RS=>
   Yu hc hn F hT hs PS hh L hl yr (λy hy=>h y (.tail _ hy)) G1 oz (by simp only[P2]at ig;exact Jc [_,_,_] 2669798116342676053645133721473211169343384724734720 tO ig ww) RS λZ2 es2 _ _ _ _ G2 vt iH QS=>q _ _ _ _ _ _ G2 vt (by simp only[P2];exact Jc [_,_,_,_] 171766656952227592230263561707520 tO ww iH) QS⟩
end
noncomputable def DR:AV->AV| .node _ _ [tv] _ _ _=>tv|_=> .none
noncomputable def Ls(bh:Nat)(sb:yd)(cl:Cl)(c:AV):Option (AV×(Bool->Bool)):=if Ff cl=true then none else some (DR c,hb bh sb cl)
noncomputable def Ie(bh:Nat)(sb:yd)(T:List Cl)(cs:List AV):ze:=List.zipWith (Ls bh sb) T cs
theorem Zr.len{s:St}:∀{T:List Cl}{cs:List AV},Zr s T cs->T.length=cs.length|[],[],_=>rfl|_::_,_::_,⟨_,h⟩=>C0 (· +1) (Zr.len h)
theorem Zr.rel{bh:Nat}{sb:yd}{s:St}:∀{T:List Cl}{cs:List AV},Zr s T cs->Ei cs (Ie bh sb T cs)
 |[],[],_=>trivial|cl::T,c::cs,⟨⟨tv,t,d,e,h⟩,h2⟩=>by
  refine⟨(XT (.str []) 0 t d ?_),Zr.rel h2⟩;refine rr e ?_;unfold Ls;cases hn:Ff cl with
  |true=>
   have:cl= .ml:=by induction cl with|ml=>rfl|_=>cases hn
   clear hn;subst this;have h:tv= .none:=h;refine rr h ?_;rfl
  |false=>rfl
theorem Js(bh:Nat)(sb:yd):∀{T:List Cl}{cs:List AV},T.length=cs.length->Sg (Ie bh sb T cs)=T.all λc=>hb bh sb c false
 |[],_,_=>by rfl
 |cl::T,c::cs,h=>by
  have ih:=Js bh sb (T:=T) (cs:=cs) (Nat.succ.inj h);show(eN (Ls bh sb cl c) false&&Sg (Ie bh sb T cs))=_;refine rr ih<|rr List.all_cons ?_;congr 1;clear ih;induction cl with|ml=>cases sb<;>rfl|_=>rfl
theorem TJ(bh:Nat)(sb:yd)(T:List Cl)(cs:List AV)(i:Nat):(Ie bh sb T cs).take i=Ie bh sb (T.take i) (cs.take i):=List.take_zipWith
theorem Hs(bh:Nat)(sb:yd):∀{T:List Cl}{cs:List AV},T.length=cs.length->Cf (Ie bh sb T cs)=T.any Ff
 |[],_,_=>by rfl
 |cl::T,c::cs,h=>by
  have ih:=Hs bh sb (T:=T) (cs:=cs) (Nat.succ.inj h);show((Ls bh sb cl c).isNone||Cf (Ie bh sb T cs))=_;refine rr ih<|rr List.any_cons ?_;congr 1;cases cl<;>rfl
theorem UJ{bh:Nat}{sb:yd}{T:List Cl}(hl:T.length=cs.length)(low high:Nat):(Pe true (Ie bh sb T cs) low high).any id=Ui bh sb T low high:=by
 have len:(Ie bh sb T cs).length=T.length:=by rw[Ie,List.length_zipWith,hl,Nat.min_self]
 have e1:((List.range' low (high-low)).filterMap (Yg true (Ie bh sb T cs))).any id=(List.range' low (high-low)).any (Xi bh sb T):=by
  generalize List.range' low (high-low)=l;induction l with
  |nil=>rfl|cons i l ih=>
   rw[List.filterMap_cons,List.any_cons,<-ih];unfold Yg Xi;clear ih;cases hi:T[i]? with
   |none=>
    have:(Ie bh sb T cs)[i]? =none:=by rw[List.getElem?_eq_none_iff]at hi⊢;exact rr len<|hi
    rw[this];rfl
   |some cl=>
    have il:=(B0.mp hi).1;have:(Ie bh sb T cs)[i]? =some (Ls bh sb cl cs[i]):=by rw[Ie,List.getElem?_zipWith,hi,z3 (hl▸il)]
    rw[this,TJ,Js bh sb (by exact rr List.length_take<|rr List.length_take<|rr hl rfl)];induction cl with|ml=>cases sb<;>rfl|_=>show List.any ((true&&_&&hb bh sb _ true)::_) id=_;rw[List.any_cons,Bool.true_and,Bool.and_comm];rfl
 unfold Pe Ui;rw[List.any_append,e1,Bool.or_comm,Js bh sb hl,Bool.true_and];congr 1;have e2:Cf (((Ie bh sb T cs).drop low).take (high-low))=((T.drop low).take (high-low)).any Ff:=by rw[Ie,List.drop_zipWith,List.take_zipWith];exact Hs bh sb (rr List.length_take<|rr List.length_take<|rr List.length_drop<|rr List.length_drop<|rr hl rfl)
 rw[e2];cases(decide (low=high)||((T.drop low).take (high-low)).any Ff)with|true=>rw[X0 rfl,T4];exact Bool.or_false _|false=>rw[Y0 Q2,Bool.and_false];rfl
theorem IR{bh:Nat}{sb:yd}{T:List Cl}(hl:T.length=cs.length){low:Nat}(h1:low<=high)(h2:high<=T.length):Pe true (Ie bh sb T cs) low high≠[]:=by
 unfold Pe;by_cases e:low=high
 ·rw[Y2 e,Bool.true_or,X0 rfl];exact λh=>by cases List.append_eq_nil_iff.mp h with|intro _ b=>cases b
 ·have il:low<T.length:=by lia
  cases hn:Ff T[low]with
  |true=>
   have:Cf (((Ie bh sb T cs).drop low).take (high-low))=true:=by rw[Ie,List.drop_zipWith,List.take_zipWith];refine(Hs bh sb (rr List.length_take<|rr List.length_take<|rr List.length_drop<|rr List.length_drop<|rr hl rfl)).trans (List.any_eq_true.mpr ?_);refine(Na (T[low]) (List.mem_iff_getElem?.mpr ⟨0,?_⟩) hn);rw[List.getElem?_take_of_lt (by lia),List.getElem?_drop,Nat.add_zero,z3 il]
   rw[this,Bool.or_true,X0 rfl];exact λh=>by cases List.append_eq_nil_iff.mp h with|intro _ b=>cases b
  |false=>
   intro h;have h:=(List.append_eq_nil_iff.mp h).1;rw[List.filterMap_eq_nil_iff]at h;have z:=h low (List.mem_range'_1.mpr ⟨K0 _,by lia⟩);unfold Yg at z;have:(Ie bh sb T cs)[low]? =some (some (DR cs[low],hb bh sb T[low])):=by rw[Ie,List.getElem?_zipWith,z3 il,z3 (hl▸il)];show some (Ls bh sb T[low] cs[low])=_;rw[Ls,hn];rfl
   replace z:=this▸z;cases z
def NQ(sb:yd)(x:Nd):Prop:=match sb with| .path p=>∃held,x=Re p held| .word t=>x= .str t| .true _=>x= .wrap 0 (.lit true)
theorem gP(bh:Nat):Ni bh≠[]:=by unfold Ni;split<;>exact λh=>by cases h
theorem DK{key:Tx}(hk:key≠[]){p:Mf}(hs:Ic (La p)<=40):mC key (Re p held)/\Va key (Re p held)=false:=by
 unfold Re;split
 ·exact⟨⟨A0 (J4 (J4 hs)) (N0 rfl),i4 hk,i4 hk⟩,rfl⟩
 ·exact⟨⟨A0 (J4 hs) (N0 rfl),i4 hk,i4 hk⟩,rfl⟩
theorem dG{key:Tx}(hk:key≠[]):mC key (.wrap 0 (.lit true)):=⟨by decide,i4 hk,i4 hk⟩
theorem vx(p:Mf)(held:Bool):(Hc (Re p held)).kind=21:=by unfold Re;split<;>rfl
theorem OH{key:Tx}{p:Mf}(o:mC key (La p)){r:Nd}(e:Nw l r=some (La p,u)):Hx key l r/\∀y,Pd key l r y=(!Nj key p||(y==decide (u=Hd))):=by refine⟨⟨λx v h=>by replace h:=e▸h;cases h;exact o,λh=>by replace h:=e▸h;cases h⟩,λy=>?_⟩;unfold Pd;refine rr e ?_;show(!(Va key (La p)&&(y !=decide (u=Hd))))=_;unfold Nj;cases Va key (La p)<;>cases y<;>cases decide (u=Hd)<;>rfl
theorem mK(qc:Nat)(l r:Nd):En (.bin (Zd qc) l r)=true:=by rcases uv qc with⟨_,h|h⟩|⟨_,h|h⟩<;>(refine rr h ?_;rfl)
theorem dF{key:Tx}(kn:key≠[]){bh:Nat}{c:ob}(h:AN bh c):((∃s l r,Hc (Qb c)= .bin s l r)\/∃y,Hc (Qb c)= .Mk [33] y)/\(En (Qb c)=false->Hx key (.wrap 0 (.lit true)) (Qb c)/\Pd key (.wrap 0 (.lit true)) (Qb c) false=Xc key c false):=by
 rcases h with rfl|⟨h,hb,hl⟩|⟨p,rfl,_⟩|⟨b,rfl⟩|⟨a,rfl,_⟩
 ·have en:Nw (.wrap 0 (.lit true)) (Qb (.sum 1 1))=none:=rfl;refine⟨.inl (yj _ _ _ rfl),λ_=>⟨⟨λx u h=>(by replace h:=en▸h;cases h),λ_=>(mr (.inr (yj _ 1 1 rfl)) (dG kn) rfl ⟨by decide,i4 kn,i4 kn⟩ rfl)⟩,?_⟩⟩;unfold Pd;refine rr en ?_;rfl
 ·induction c with
  |gc p u qc=>
   obtain⟨l,r,e⟩:∃l r,Qb (.gc p u qc)= .bin (Zd qc) l r:=by show∃l r,(if qc/4%2=1 then Nd.bin (Zd qc) _ _ else Nd.bin (Zd qc) _ _)=_;split<;>exact(Jh _ _ rfl)
   exact rr e<|⟨.inl (yj _ _ _ rfl),λz=>absurd ((mK qc l r).symm.trans z) Bool.noConfusion⟩
  |isin p k=>exact⟨.inl (yj _ _ _ rfl),λz=>absurd z Bool.noConfusion⟩|less a b=>exact⟨.inl (yj _ _ _ rfl),λz=>absurd z Bool.noConfusion⟩|same p k e=>cases e<;>exact⟨.inl (yj _ _ _ rfl),λz=>absurd z Bool.noConfusion⟩|bang p=>exact absurd rfl (hb p)|lit b=>exact absurd rfl (hl b)|_=>exact h.elim
 ·exact⟨.inr ⟨_,rfl⟩,λz=>absurd z Bool.noConfusion⟩
 ·exact⟨.inr ⟨_,rfl⟩,λz=>absurd z Bool.noConfusion⟩
 ·exact⟨.inr ⟨_,rfl⟩,λz=>absurd z Bool.noConfusion⟩
section
variable{g:G}{D:WD}{s:St}{sb:yd}{sv:AV}
theorem DP{cl:Cl}(F:WL g D)(hs:Dx g.bh sb)(sn:NQ sb x)(uP:Lb s.use s.c x sv)(ok:ah g.bh sb cl)(hn:Ff cl=false)(ht:Bx s cl tv):Gx w g s.use D.W r0 sv tv (hb g.bh sb cl):=by
 have kn:=gP g.bh;have key:Dm g.key:=F.Le.elim (λh=> .inl (by refine rr F.key<|rr h ?_;rfl)) λh=> .inr (by refine rr F.key<|rr h ?_;rfl);induction cl with
 |ml=>cases hn|word t=>
  induction sb with|path p=>refine kE sn λheld ez=>?_;clear sn;subst ez;have pf:=Oa.facts hs F.Le;have z:=OH (F.key▸pf.o) (Jt (p:=p) (held:=held) (u:=t) (.inl rfl)).1;have h:=mz (w:=w) (g:=g) (W:=D.W) (r0:=r0) uP (show Lb s.use s.c (.str t) tv from ht) (by rw[vx];decide) z.1;replace h:=(show Pd g.key (Re p held) (.str t)=hb g.bh (.path p) (.word t)from funext λy=>(z.2 y).trans (by rw[F.key,pf.t];rfl))▸h;exact h|_=>exact ok.elim
 |num=>
  induction sb with|path p=>refine kE sn λheld ez=>?_;clear sn;subst ez;have pf:=Oa.facts hs F.Le;have en:=NB (Re p held) 7;have o:=DK (held:=held) (F.key▸kn:g.key≠[]) pf.sz;have h:=mz (w:=w) (g:=g) (W:=D.W) (r0:=r0) uP (show Lb s.use s.c (.num 7) tv from ht) (by rw[vx];decide) ⟨λx u h=>(by rw[en]at h;cases h),λ_=>(mr (.inl ⟨7,rfl⟩) o.1 o.2 (jo (F.key▸kn) (.inl ⟨7,rfl⟩)) rfl)⟩;replace h:=(show Pd g.key (Re p held) (.num 7)=hb g.bh (.path p) .num from funext λy=>by unfold Pd;rw[en];rfl)▸h;exact h|_=>exact ok.elim
 |kind p=>
  induction sb with|word u=>have sn:x= .str u:=sn;subst sn;have pf:=Oa.facts (p:=p) ok F.Le;have z:=OH (F.key▸pf.o) (Jt (p:=p) (held:=false) (u:=u) (.inl rfl)).2;have h:=mz (w:=w) (g:=g) (W:=D.W) (r0:=r0) uP (show Lb s.use s.c (Re p false) tv from ht) (show(2:Int)≠4 by decide) z.1;replace h:=(show Pd g.key (.str u) (Re p false)=hb g.bh (.word u) (.kind p)from funext λy=>(z.2 y).trans (by rw[F.key,pf.t];rfl))▸h;exact h|_=>exact ok.elim
 |cond c=>
  induction sb with
  |true u=>
   have sn:x= .wrap 0 (.lit true):=sn;subst sn;have f:=AN.facts (c:=c) F.Le ok;have h:=jH (w:=w) (W:=D.W) (r0:=r0) key uP (show Lb s.use s.c (Qb c) tv from ht) rfl (F.key▸f.co) (A0 f.dp (N0 rfl)) ?_
   ·replace h:=(show Xc g.key c=hb g.bh (.true u) (.cond c)from funext λy=>by rw[F.key,f.may];rfl)▸h;exact h
   ·exact dF (F.key▸kn) ok
  |_=>exact ok.elim
theorem HM(F:WL g D)(hs:Dx g.bh sb)(sn:NQ sb x)(uP:Lb s.use s.c x sv):∀{T:List Cl}{cs:List AV},Zr s T cs->(∀cl∈T,ah g.bh sb cl)->∀v f,some (v,f)∈Ie g.bh sb T cs->Gx w g s.use D.W r0 sv v f/\isNone v=false
 |[],[],_,_,v,f,hm=>by cases hm
 |cl::T,c::cs,⟨⟨tv,t,d,e,h⟩,h2⟩,ok,v,f,hm=>by
  rcases K1.mp (show some (v,f)∈Ls g.bh sb cl c::Ie g.bh sb T cs from hm)with hm|hm
  ·unfold Ls at hm;cases hn:Ff cl with
   |true=>replace hm:=X0 hn▸hm;cases hm|false=>
    rw[Y0 (by exact rr hn Q2),e]at hm;cases hm;refine⟨DP F hs sn uP (ok cl (.head _)) hn h,?_⟩;have:∃y,Lb s.use s.c y tv:=by induction cl with|ml=>cases hn|_=>exact⟨_,h⟩
    refine kE this λy hy=>?_;clear this;refine Vd (Lb.node hy) λ_ _ _ _ _ e=>?_;show isNone tv=false;refine rr e ?_;rfl
  ·exact HM F hs sn uP h2 (λc hc=>ok c (.tail _ hc)) v f hm
end
noncomputable def SY:yd->AV| .path p=>de p| .word t=> .str t| .true t=> .str t
theorem rS(sb:yd):kj sb= .tup [.int (FE sb),SY sb]:=by cases sb<;>rfl
theorem kF{k:Int}(h0:0<=k)(h1:k<3):∃t:Tx,∀Z:AH,jb Z (.tup [.str Hd,.str [115,116,114,105,110,103],.str [111,98,106,101,99,116]]) (.int k)=some (.str t):=by
 have:k=0\/k=1\/k=2:=by lia
 rcases this with rfl|rfl|rfl<;>exact⟨_,λ_=>rfl⟩
theorem MI{x m:Int}{k:Nat}(h:0<m)(e:x%m=k):wc Z 4 (.int x) (.int m)=some (.int k):=rq e<|yx h
theorem yK{sb:yd}(h:FE sb=0):∃p,sb= .path p:=by induction sb with|path p=>exact⟨p,rfl⟩|_=>cases h
theorem wK{sb:yd}(h:FE sb=1):∃p,sb= .word p:=by induction sb with|word p=>exact⟨p,rfl⟩|_=>cases h
theorem xK{sb:yd}(h:¬FE sb=0)(h2:¬FE sb=1):∃p,sb= .true p:=by induction sb with|true p=>exact⟨p,rfl⟩|path p=>exact absurd rfl h|word p=>exact absurd rfl h2
section
variable{g:G}{D:WD}{s:St}{S:SQ}
theorem Lx.pd{s':St}(X:Lx g s s' Z Z')(d:PD s.rows t W):PD s'.rows t W:=d.grow λi r h=>match X.rows with|⟨ex,e⟩=>e▸(C1 (B0.mp h).1).trans h
theorem fQ{p:Mf}(e:v=de p)(hp:PW p)(L:LS g D sc r0 s (lc+16) la Z)(q:pC g D sc r0 s Z lc la (Re p held) Q):KW w (n+5) 730 [.ref g.wi,v,.bool held] Z Q:=rr e<|tI hp L q
theorem uI(hn:60<=n)(F:WL g D)(L:LS g D sc r0 s (lc+320) (la+40) Z)(d:PD s.rows D.t D.W)(q:∀s' Z',LS g D sc r0 s' lc la Z'->Lx g s s' Z Z'->PD s'.rows D.t D.W->Q (.bool true) Z'):KW w n 843 [.ref g.wi] Z Q:=by
 obtain⟨n,rfl,hm⟩:∃m,n=m+14/\46<=m:=(Na (n-14) ((P1 (Fb [_] 16716014828320 tO hn)).symm) ((Nat.le_sub_of_add_le ‹_›)));refine(Ja (LW _) rfl ?_).call;refine jA 2<|qa (Zq L)<|jC 1<|Pl (n:=n+12) (la:=la+39) (N0 rfl) L λx s1 Z1 h0 h1 L1 X1=>?_;have h2:x<100000:=Int.lt_of_lt_of_le h1 (N0 rfl);have dv:∀(m:Int),0<m->m<=100000->∀Z:AH,wc Z 3 (.int x) (.int m)=some (.int (x/m)):=λm a b Z=>vp h0 h2 a b;refine kE (bn (x:=1+x/3%4) (by lia)) λct hct=>kE (bn (x:=x/12%((ct:Int)+1)) (j4 _ (by lia))) λlow hlow=>?_;have gU:low<=ct:=by have:=H3 (x/12) (show 0<(ct:Int)+1 by lia);lia
 refine kE (bn (x:=x/60%((ct:Int)-low+1)) (j4 _ (by lia))) λdh hdh=>?_;have mH:low+dh<=ct:=by have:=H3 (x/60) (show 0<(ct:Int)-low+1 by lia);lia
 have Qo:ct<=4:=by lia
 refine jA 8<|Fa (dv 3 (N0 rfl) (N0 rfl) _)<|jA 2<|Fa (v:= .int ct) (by rw[<-hct];rfl)<|jA 3<|Fa (dv 12 (N0 rfl) (N0 rfl) _)<|jA 3<|Fa (MI (by lia) hlow)<|jA 4<|Fa (dv 60 (N0 rfl) (N0 rfl) _)<|jA 5<|Fa (MI (by lia) hdh) ?_;have yP:low<=low+dh:=Q1 _ _;generalize hhg:low+dh=high at*;refine Fa (v:= .int high) (by rw[<-hhg];rfl)<|jA 3<|Fa (dv 300 (N0 rfl) (N0 rfl) _) ?_;generalize hdf:x/300%6=df;refine jA 1<|Fa (v:= .int df) (by rw[<-hdf];rfl)<|jA 3<|gt (k:=?k1) (st:=?st1) (fr:=?fr1) (λv Z2=>∃sb s2,x%3=FE sb/\Dx g.bh sb/\v=SY sb/\LS g D sc r0 s2 (lc+320) (la+38) Z2/\Lx g s1 s2 Z1 Z2) ?rest1 λz=>?main1
 case main1=>
  refine Pc rfl (λe=>?_) λe=>?_
  ·refine jC 1 ?_;refine Gi (n:=n+11) F.Le L1 λp s2 Z2 hp L2 X2=>?_;exact z _ _ (sd (.path p) s2 (N0 e) hp rfl L2 X2)
  ·refine jA 6<|Fa (dv 1800 (N0 rfl) (N0 rfl) _)<|jA 2<|kE (kF (k:=x/1800%3) (j4 _ (N0 rfl)) (H3 _ (N0 rfl))) λt ht=>qa (ht _) ?_;have e:=Y1 e;have:x%3=1\/x%3=2:=by lia
   rcases this with h|h
   ·exact z _ _ (sd (.word t) s1 h trivial rfl (L1.low (K0 _) ((Y4 _))) Lx.refl)
   ·exact z _ _ (sd (.true t) s1 h trivial rfl (L1.low (K0 _) ((Y4 _))) Lx.refl)
 rintro _ Z2 ⟨sb,s2,hsb,hs,rfl,L2,X2⟩;refine JT 6 rfl ?_;rw[hsb,<-rS sb];refine Ef rfl (ZB ((A0 ‹_› (N0 rfl))) _) ?_;refine Wd (nf (c5 _) ((A0 ‹_› (N0 rfl))) _) (xa (by rw[zJ,R0,List.length_range'];exact A0 ‹_› (N0 rfl)))<|Nn (la:=la) (by rfl) (by rfl) (by rfl) (by rfl) (λZ=>nf (c5 _) ((A0 ‹_› (N0 rfl))) Z) rfl ((D0 _ _)) F (ct-0) 0 [] (λ_ h=>by cases h) (L2.low (K0 _) (by lia)) λT s3 Z3 mR okT L3 X3=>?_;have hT:T.length=ct:=by refine rr mR<|rr j5 ?_;exact Nat.add_comm _ _
 refine jA 3<|gt (k:=?k2) (st:=?st2) (fr:=?fr2) (λv Z4=>∃s4 nd,NQ sb nd/\Lb s4.use s4.c nd v/\LS g D sc r0 s4 (lc+300) la Z4/\Lx g s3 s4 Z3 Z4) ?rest2 λz=>?main2
 case main2=>
  refine Pc rfl (λe=>?_) λe=>?_
  ·refine kE (yK (N0 e)) λp hp=>jA 4<|Fa (dv 1800 (N0 rfl) (N0 rfl) _) ?_;refine jC 4 ?_;refine fQ (n:=n+8) (lc:=lc+304) (p:=p) (by rw[hp];rfl) (Oa.pw (show Oa g.bh p by rw[hp]at hs;exact hs)) L3 λs4 Z4 v4 L4 X4 r4=>?_;exact z _ _ (kz s4 _ (by refine rr hp ?_;exact⟨_,rfl⟩) r4 (L4.drop 4) X4)
  ·refine jA 2 ?_;refine Pc rfl (λe2=>?_) λe2=>?_
   ·refine kE (wK (N0 e2)) λt ht=>?_;refine jC 5 ?_;refine Ga (n:=n+10) L3 λL4 X4=>?_;exact z _ _ (kz _ (.str t) (by rw[ht];rfl) (Jh _ _ (by rw[ht];rfl)) (L4.drop 19) X4)
   ·refine kE (xK (Y1 e) (Y1 e2)) λt ht=>jC 8<|Ga (n:=n+10) L3 λL4 X4=>?_;exact jC 2<|Ga (n:=n+10) L4 λL5 X5=>z _ _ (kz _ (.wrap 0 (.lit true)) (by rw[ht];rfl) ⟨_,_,_,rfl,_,_,rfl⟩ (L5.drop 18) (X4.trans X5))
 rintro v4 Z4 ⟨s4,nd,sn,r4,L4,X4⟩;refine jA 7 ?_;have lm:(T.map ed).length<=Ab:=by rw[R0];exact xa (Jc [_,_] 9922944331117491715050858496 tO Qo hT)
 refine Wd rfl lm<|Sy (lc:=lc+1) (by rfl) (by rfl) (by rfl) (λZ=>by rfl) rfl ((D0 _ _)) F T (T0:=[]) (cs:=[]) okT trivial (L4.low (by lia) (K0 _)) λcs s5 Z5 gN L5 X5=>?_;have Br:T.length=cs.length:=gN.len;refine Fa (YB (xa (by refine rr List.length_singleton ?_;exact Lp [_,_,_] 175489594662209549898712657668763346688 tO Qo hT Br))) ?_;refine jC 1<|Ga (n:=n+10) L5 λL6 X6=>?_;have X46:=X5.trans X6;have X16:Lx g s _ Z _:=(((X1.trans X2).trans X3).trans X4).trans X46;refine jA 2<|Wd rfl lm<|zz (sb:=sb) (by rfl) (by rfl) (by rfl) (by rfl) ((D0 _ _)) F hs (ni L6) T okT<|jA 2 ?_;refine Wd rfl (by rw[List.nil_append,R0];exact xa (Jc [_,_] 9922944331117491715050858496 tO Qo hT))<|Tq (by rfl) (by rfl) T<|Ef rfl (JI (λc=>hb g.bh sb c false) (Jc [_,_] 73931696497779631104 tO Qo hT) _)<|jA 2 ?_;have dlh:decide ((low:Int)=high)=decide (low=high):=decide_eq_decide.mpr Int.ofNat_inj;refine Ue (k:=?k4) (st:=?st4) (fr:=?fr4) (Z:=?s4) (λv=>v= .bool (T.all (λc=>hb g.bh sb c false)&&(decide (low=high)||((T.drop low).take (high-low)).any Ff))) ?rest4 λz=>?main4
 case main4=>
  refine QG rfl (λe=>?_) λe=>?_
  ·refine jA 3<|iD rfl (λe2=>?_) λe2=>?_
   ·exact z (.bool (decide ((low:Int)=high))) (by rw[e,<-dlh,e2];rfl)
   ·refine jA 4<|gr (OA (by rw[R0];exact Jc [_,_] 9922944331117491715050858496 tO Qo hT) yP (by rw[R0];exact Jc [_,_,_] 146508567191553024 tO mH hT)) ?_;rw[<-List.map_drop,<-List.map_take];exact aj (ji _)<|z _ (by rw[e,<-dlh,e2];rfl)
  ·exact z (.bool (T.all λc=>hb g.bh sb c false)) (by rw[e];rfl)
 rintro _ rfl;refine jA 3<|Ef rfl (uQ (Jc [_,_] 47360880307299723605540366336 tO gU Qo) ((A0 ‹_› (A0 ‹_› (N0 rfl)))) _) ?_;refine Ve (nf yP ((A0 ‹_› (A0 ‹_› (N0 rfl)))) _) (xa (by rw[zJ,R0,List.length_range'];exact Lp [_,_,_] 166154143820986135874024416591767552 tO Qo mH (Nat.sub_le _ _)))<|Tv (nf yP ((A0 ‹_› (A0 ‹_› (N0 rfl)))) _) (Jc [_,_] 73931696497779631104 tO Qo hT) (high-low) low (by lia) λf9=>?_;refine show At _ _ _ _ _ _ from ?_
 refine Eo rfl rfl ?_;have G6:=tb.push (Z:=Z5.set g.wi (.gb (Nu g D (s5.c+1)))) (AO.list []);refine jA 3<|qa (v:= .ba D.heads) (Da (L6.grow G6).wi)<|Eg rfl (xa (A0 F.hl (N0 rfl)))<|Yu (low:=low) (high:=high) (li:=(Z5.set g.wi (.gb (Nu g D (s5.c+1)))).length) (λZ=>(Qh _).symm▸trivial) ((D0 _ _)) F (Jc [_,_] 73931696497779631104 tO Qo hT) hs okT (Jc [_,_,_] 146508567191553024 tO mH hT) L6 (K0 _) D.heads F.heads G6 List.getElem?_concat_length (by have:=F.hl;rw[j5];exact A0 (Nat.add_le_add_left ‹_› _) (N0 rfl)) (λx hx=>by cases hx) λZ7 es _ _ _ _ G7 he ig ok=>?_;refine show At _ _ _ _ _ _ from ?_
 have L7:=L6.grow G7;have X17:=X16.trans (Lx.grow G7);have nL:es.length<=100:=by have:=F.hl;rw[j5]at ig;exact Jc [_,_] 2849995540573695261380807658465280 tO ig this
 have d7:=X17.pd d;refine jA 2<|qa (v:= .ref g.ai) (Da L7.wi)<|jA 7<|qa (v:= .str g.key) (Da L7.wi)<|jA 2<|qa (v:= .int D.t) (Da L7.wi)<|jC 0 ?_;have to:=HM (w:=w) (D:=D) (r0:=r0) F hs sn (X46.nd r4) (Zr.up X6 gN) okT;have tl:(Ie g.bh sb T cs).length=T.length:=by rw[Ie,List.length_zipWith,Br,Nat.min_self]
 refine Oy (b:=true) (T:=Ie g.bh sb T cs) (low:=low) (high:=high) ((C4 ‹_› (Q1 _ _))) ⟨λv f h=>(to v f h).1,λv f h=>(to v f h).2,by refine rr tl ?_;exact Jc [_,_] 9922944331117491715021367296 tO Qo hT⟩ (by refine rr tl ?_;exact Jc [_,_] 73931696497779565568 tO Qo hT) (Zr.rel gN) yP (by refine rr tl ?_;exact Jc [_,_,_] 146508567191553024 tO mH hT) L7.N d7 (IR Br yP (Jc [_,_,_] 146508567191553024 tO mH hT)) λBa Z8 t' N' G' d'=>?_;refine kA (L7.turn N' G') λL8 X8=>?_;rw[UJ Br]at d';have lt:∀{i:Nat}{o:AO},(Z5.set g.wi (.gb (Nu g D (s5.c+1))))[i]? =some o->(Z5.set g.wi (.gb (Nu g D (s5.c+1)))).length≠i:=λh z=>absurd (B0.mp h).1 (Fb [_,_] 285279236 tO z);have he8:=G'.keep.get he (lt L6.N.T.ri) (lt L6.N.T.xi);exact jC 5<|Ut (n:=n+11) (b:=Ui g.bh sb T low high) L8 d' (Ho he8) nL ok<|na<|q _ _ L8 (X17.trans X8) (d7.grow λi r h=>G'.get i r h)
end
theorem SM(P:Params):(makesIn (KP P) 190=true/\findIn (KP P) (.ref 190) "__init__"=some (some (.ref 173))/\typeIn (KP P) (.ref 173)=some (.type "function"))/\(makesIn (KP P) 551=true/\findIn (KP P) (.ref 551) "__init__"=some (some (.ref 485))/\typeIn (KP P) (.ref 485)=some (.type "function")):=by
 have h:((makesIn (KP P) 190&&(findIn (KP P) (.ref 190) "__init__"==some (some (.ref 173)))&&(typeIn (KP P) (.ref 173)==some (.type "function")))&&(makesIn (KP P) 551&&(findIn (KP P) (.ref 551) "__init__"==some (some (.ref 485)))&&(typeIn (KP P) (.ref 485)==some (.type "function"))))=true:=by kernel_rfl
 simp only[M0,beq_iff_eq]at h;exact(Kh (sf h.1.1.1 h.1.1.2 h.1.2) h.2.1.1 h.2.1.2 h.2.2)
section
variable{g:G}{S:SQ}
theorem tK{c k:Nat}(h:Z[i]? =some (.inst c fs))(hk:Ud c k=true):setAttr Z (.ref i) k v=some (Z.set i (.inst c (Sj k v fs))):=(ud h).trans<|X0 hk
theorem pK{r:AH}:(Z++o::r).set Z.length o'=Z++o'::r:=by rw[List.set_append_right _ _ (K0 _),Nat.sub_self];rfl
theorem Ai{r:AH}:(Z++o::r)[Z.length]? =some o:=by rw[C3 (K0 _),Nat.sub_self];rfl
theorem Dy{c k:Nat}{r:AH}(hk:Ud c k=true):setAttr (Z++ .inst c fs::r) (.ref Z.length) k v=some (Z++ .inst c (Sj k v fs)::r):=(tK Ai hk).trans (rr pK rfl)
theorem Rj{c k:Nat}{r r2:AH}(hk:Ud c k=true):setAttr ((Z++ .inst c fs::r)++r2) (.ref Z.length) k v=some (Z++ .inst c (Sj k v fs)::(r++r2)):=by rw[A3,List.cons_append];exact Dy hk
theorem JU{r:AH}:tb Z (Z++o::r):=⟨by exact rr A1<|Q1 _ _,λi hi=>C1 hi⟩
theorem iM{b:AV}(q:∀fs,Jb 6 fs=some a->Jb 7 fs=some b->Jb 23 fs=none->Jb 24 fs=none->Jb 25 fs=none->∀Z',Z'[Z.length]? =some (.inst 551 fs)->tb Z Z'->Q (.ref Z.length) Z'):KW w (n+2) 551 [a,b] Z Q:=by refine wj (SM w.params) λ_ h1 h2 h3=>(Yo (bs w) h1 h2 h3 (Ja (vX _) rfl ?_)).call;exact jA 2<|zc (Dy (r:=[]) rfl)<|jA 2<|zc (Dy (r:=[]) rfl)<|jA 2<|zc (Rj (r:=[]) rfl)<|jA 2<|zc (Dy rfl)<|jA 2<|zc (Dy rfl)<|Ka ⟨rfl,q _ rfl rfl rfl rfl rfl _ Ai JU⟩
noncomputable def tF(n:Nat):List (Nat×AV):=[(11,.ref (n+1)),(12,.ref (n+2)),(13,.ref (n+3)),(14,.ref (n+4)),(15,.ref (n+5)),(16,.ref (n+6)),(17,.ref (n+7)),(18,.ref (n+8)),(19,.int 0),(20,.int 0)]
noncomputable def BC(Z:AH):AH:=Z++[.inst 190 (tF Z.length),.list [],.we [],.list [.none],.list [],.list [],.list [],.Ea [],.Ea []]
theorem UX{r:AH}:(Z++r).length=Z.length+r.length:=A1
theorem qQ(q:At (KW w n) (cS (oM.drop 10) .fin) [] [some (.ref Z.length),none] (BC Z) (λfl _ Z'=>xf fl= .none/\Q (.ref Z.length) Z')):KW w (n+2) 190 [] Z Q:=by obtain⟨⟨h1,h2,h3⟩,_⟩:=SM w.params;refine(Yo (bs w) h1 h2 h3 (Ja (JX _) rfl ?_)).call;refine Eo rfl rfl<|jA 1<|zc (Rj (r:=[]) rfl)<|jA 2<|zc (Rj rfl)<|jA 1<|Eo rfl rfl<|jA 1<|zc (Rj rfl)<|Eo rfl rfl<|jA 1<|zc (Rj rfl)<|Eo rfl rfl<|jA 1<|zc (Rj rfl)<|Eo rfl rfl<|jA 1<|zc (Rj rfl)<|jA 2<|zc (Rj rfl)<|jA 2<|zc (Rj rfl)<|jA 2<|zc (Dy rfl)<|jA 2<|zc (Dy rfl)<|Eq.mpr (C0 (λh=>At (KW w n) (cS (oM.drop 10) .fin) [] [some (.ref Z.length),none] h (λfl _ Z'=>xf fl= .none/\Q (.ref Z.length) Z')) ?_) q;simp[BC,tF,Sj]
noncomputable def Uf:List AV:=[.tup [.int 1,.str [97,110,121]],.tup [.int 1,.str [117,110,107,110,111,119,110]],.tup [.int 1,.str [110,101,118,101,114]],.tup [.int 1,.str [118,111,105,100]],.tup [.int 1,.str [117,110,100,101,102,105,110,101,100]],.tup [.int 1,.str [110,117,108,108]],.tup [.int 1,.str [115,116,114,105,110,103]],.tup [.int 1,.str [110,117,109,98,101,114]],.tup [.int 2,.int 0,.int 0],.tup [.int 2,.int 1,.int 0],.tup [.int 1,.str [111,98,106,101,99,116]],.tup [.int 8,.tup [],.tup [],.tup [],.tup [],.tup [],.int 0],.tup [.int 6,.tup [.int 8,.int 9]],.tup [.int 1,.str [101,114,114,111,114]],.tup [.int 2,.int 0,.int 1],.tup [.int 2,.int 1,.int 1]]
noncomputable def TA:AV->Bool| .tup ks=>Kd ks&&Nat.ble (be ks) 7|_=>false
noncomputable abbrev AS:List C:=Tg oM[10]?
theorem Yn(T:TL g rows Z):∃p,Gb Z (.ref g.ti)=some p/\Hg 21 p=some 187:=by refine MG T.ti λfs h1 _ _ h4 _=>(Na (190,fs) (by simp only[Gb,h1]) ?_);unfold Hg;refine rr h4 ?_;rfl
theorem XF(We:∀Z,ye vi je Z):∀(L:List AV){R:List AV}{Z:AH}{x1:Option AV},(∀r∈L,TA r=true)->(R++L).Nodup->R.length+L.length<=100->TL g R Z->(∀Z' x1,TL g (R++L) Z'->xd g Z Z'->S .next [some (.ref g.ti),x1] Z')->Eb (ye vi je) (IB (KW w (n+1)) 1 (cS AS .fin)) L [some (.ref g.ti),x1] Z S:=by
 intro L;induction L with
 |nil=>intro R Z x1 _ _ _ T q;exact⟨We Z,q Z x1 (by rw[K2];exact T) xd.refl⟩|cons r L ih=>
  intro R Z x1 hr nd hl T q;have h:=hr r (.head _);cases r with
  |tup ks=>
   unfold TA at h;rw[M0]at h;refine Xa (Yn T) λp h1 h2=>?_;have e:R++ .tup ks::L=(R++[.tup ks])++L:=by rw[A3];rfl
   have next:∀{Z':AH}{x1:Option AV},TL g (R++[.tup ks]) Z'->xd g Z Z'->Eb (ye vi je) (IB (KW w (n+1)) 1 (cS AS .fin)) L [some (.ref g.ti),x1] Z' S:=λT' k=>
    ih (λr hm=>hr r (.tail _ hm)) (e▸nd) (by rw[A1,List.length_singleton];simp only[P2]at hl;exact Fb [_,_] 134005111739078662601141943661503734528 tO hl) T' λZ2 x1 T2 k2=>q Z2 x1 (e▸T2) (k.trans k2)
   refine⟨We Z,?_⟩;refine show At _ _ _ _ _ _ from ?_
   refine jA 1 ?_;refine dw h1 h2 ?_;refine jA 1 ?_;refine ew rfl ?_;refine xI T h.1 (j3 h.2) (by simp only[P2]at hl;exact Fb [_,_] 3993663541647155958448139823105 tO hl) (λi hi=>?_) λhn Z' T' k _=>?_
   ·have:=(List.nodup_append.mp nd).2.2 (.tup ks) (A4 hi) (.tup ks) (.head _);exact absurd rfl this
   ·refine jA 1 ?_;exact Ka (next T' k)
  |_=>cases h
end
section
variable{g:G}{S:SQ}
noncomputable def WY:List AV->Bool:=List.rec true λx xs ih=>(xs.all λy=> !Gc x y)&&ih
theorem EO:∀{l:List AV},l.all Zf=true->WY l=true->l.Nodup:=by
 intro l;induction l with|nil=>exact λ_ _=>List.nodup_nil|cons x xs ih=>intro k e;have k:(Zf x&&xs.all Zf)=true:=k;have e:((xs.all λy=> !Gc x y)&&WY xs)=true:=e;rw[M0]at k e;refine P3.mpr ⟨λh=>?_,ih k.2 e.2⟩;have z:=B2.mp e.1 x h;replace z:=Do k.1▸z;exact Lf z
theorem PF:Uf.Nodup:=EO (by decide+kernel) (by decide+kernel)
theorem OF:∀r∈Uf,TA r=true:=by
 have:Uf.all TA=true:=by decide+kernel
 exact B2.mp this
theorem bK(h1:g.ti=Z.length)(h2:g.ri=Z.length+1)(h3:g.xi=Z.length+2):TL g [] (BC Z):=by
 refine⟨(rP (tF Z.length) (rr h1 Ai) (by refine rr h2 ?_;rfl) (by refine rr h3 ?_;rfl) rfl rfl),?_,?_,λ_ h=>(by cases h),c5 _,List.nodup_nil⟩
 ·rw[h2,BC,C3 (Q1 _ _),Nat.add_sub_cancel_left];rfl
 ·rw[h3,BC,C3 (Q1 _ _),Nat.add_sub_cancel_left];rfl
theorem CV(h1:g.ti=Z.length)(h2:g.ri=Z.length+1)(h3:g.xi=Z.length+2)(q:∀Z',TL g Uf Z'->tb Z Z'->Z.length+9<=Z'.length->Q (.ref Z.length) Z'):KW w (n+3) 190 [] Z Q:=by
 refine qQ (n:=n+1)<|jA 1<|Ve rfl (xa (show 16<=1000 by decide))<|rq h1 ?_;have len:(BC Z).length=Z.length+9:=UX;refine XF (λZ=>(Dz _).symm▸trivial) Uf (R:=[]) OF PF (N0 rfl) (bK h1 h2 h3) λZ' x1 T' k=>?_;refine show At _ _ _ _ _ _ from ?_
 refine Ka ⟨rfl,?_⟩;refine rr h1<|q Z' T' ⟨?_,λi hi=>?_⟩ (len▸k.len)
 ·have:=k.len;exact Jc [_,_,_] 2508777961806836630528 tO len this
 ·exact(k.at' i (Jc [_,_,_] 4724693094210683896833 tO len hi) (H4 (Jc [_,_,_] 4724690842410870211585 tO h2 hi)) (H4 (Jc [_,_,_] 4724691123885846922241 tO h3 hi))).trans (C1 hi)
theorem Jy(ex:List AV):Vb (Uf++Af 97::Af 102::ex):=by
 refine⟨λp hp=>?_,λps h=>?_⟩
 ·rcases Nv hp with rfl|rfl|rfl|rfl|rfl|rfl|rfl|rfl|rfl|rfl<;>rfl
 ·have:(Uf++Af 97::Af 102::ex)[2]? =some (.tup [.int 1,.str [110,101,118,101,114]]):=rfl;replace h:=this▸h;simp[Fp]at h
end
noncomputable def Os:List Int->List Bool->List Int
 |p::ps,b::bs=>if b=true then p::Os ps bs else Os ps bs
 |_,_=>[]
noncomputable def fu:Nat->List (List Bool)|0=>[[]]|n+1=>(fu n).flatMap λl=>[true::l,false::l]
theorem qp:∀l:List Bool,l∈fu l.length|[]=> .head _|b::l=>k5.mpr (Na l (qp l) (by cases b<;>simp))
noncomputable def qt:List Int:=[16,5,4,17,6,7,3]
noncomputable def ZD:List (List Int):=[1]::[0]::[16,5,4]::((fu 7).map (Os qt)).filter λh=> !h.isEmpty
noncomputable def nj(W:List Int):List Int:=W.filter λp=> !(decide (p∈([5,4,3]:List Int)))
noncomputable def tV(H:List Int):Bool:=
 let W:=Ib H
 (Nat.ble H.length 10&&(decide (Li H=W)&&(Nat.ble W.length 100&&(Nat.ble (Tc W).length 100&&decide (Tc (Tc W)=Tc W)))))&&
 (decide (Li W=W)&&(decide (Li (Tc W)=Tc W)&&(decide (W=[1])||(Tc W).all λp=>decide (p∈W))))&&
 (!decide (W=[11])&&(W.all λp=> !(!yh p)||(decide (W=[1])||decide (p∈Tc W))))&&
 ((decide (H=[1])||decide (nj W=Tc W))&&(H.all (λp=>decide (p∈Lc))&&(!decide (H=[])&&(match H with|p::_=> !(decide (p=1)||decide (p=0))||(decide (H=[1])||decide (H=[0]))|[]=>false))))
theorem uM:ZD.all tV=true:=by decide+kernel
theorem cO{x:Int}:∀{l:List Int},l.Pairwise (· <·)->x∉l->(fg x l).Pairwise (· <·):=by
 intro l;induction l with
 |nil=>intro _ _;exact List.pairwise_singleton _ _|cons y l ih=>
  intro h hx;rw[List.pairwise_cons]at h;by_cases ig:x<=y
  ·refine rr (show fg x (y::l)=x::y::l from X0 ig) ?_;have pg:x≠y:=λe=>hx (e▸ .head _);have XM:x<y:=Int.lt_iff_le_and_ne.mpr ⟨ig,pg⟩;refine List.pairwise_cons.mpr ⟨λz hz=>?_,List.pairwise_cons.mpr h⟩;rcases K1.mp hz with rfl|hz
   ·exact XM
   ·exact Int.lt_trans XM (h.1 z hz)
  ·refine rr (show fg x (y::l)=y::fg x l from Y0 ig)<|List.pairwise_cons.mpr ⟨λz hz=>?_,ih h.2 λhm=>hx (.tail _ hm)⟩;rcases(Ko z x l).mp hz with rfl|hz
   ·exact Int.lt_of_not_ge ig
   ·exact h.1 z hz
theorem NA:∀{l:List Int},l.Nodup->(Ib l).Pairwise (· <·):=by
 intro l;induction l with|nil=>intro _;exact List.Pairwise.nil|cons x l ih=>intro h;rw[P3]at h;exact cO (ih h.2) λhm=>h.1 ((lf x l).mp hm)
theorem BF:∀{l m:List Int},l.Pairwise (· <·)->m.Pairwise (· <·)->(∀x,x∈l↔x∈m)->l=m
 |[],[],_,_,_=>rfl|[],y::m,_,_,h=>absurd ((h y).mpr (.head _)) y4|x::l,[],_,_,h=>absurd ((h x).mp (.head _)) y4|x::l,y::m,hl,hm,h=>by
  rw[List.pairwise_cons]at hl hm;have e:x=y:=by
   rcases K1.mp ((h x).mp (.head _))with e|h1
   ·exact e
   ·rcases K1.mp ((h y).mpr (.head _))with e|h2
    ·exact e.symm
    ·have:=hm.1 x h1;have:=hl.1 y h2;lia
  subst e;refine C0 (x::·) (BF hl.2 hm.2 λz=>⟨λhz=>?_,λhz=>?_⟩)
  ·rcases K1.mp ((h z).mp (.tail _ hz))with e|h1
   ·have:=hl.1 z hz;lia
   ·exact h1
  ·rcases K1.mp ((h z).mpr (.tail _ hz))with e|h1
   ·have:=hm.1 z hz;lia
   ·exact h1
theorem Pu{a b:List Int}(h:∀x,x∈a↔x∈b):Li a=Li b:=by
 have ka:=Og a [] List.nodup_nil;have kb:=Og b [] List.nodup_nil;unfold Li;simp only[h];rw[BF (NA ka.1) (NA kb.1) λx=>by
  rw[lf,lf,ka.2.1,kb.2.1,h x]]
theorem EN(h1:W.length<=100)(h2:(Tc W).length<=100)(h3:Tc (Tc W)=Tc W)(u1:Li W=W)(u2:Li (Tc W)=Tc W)(sub:W=[1]\/∀p∈Tc W,p∈W):oW W:=by
 refine⟨h1,h2,h3,λbs hbs=>?_⟩;clear h1 h2 h3;cases ha:bs.any id with
 |true=>
  rw[X0 rfl];refine Xa (List.any_eq_true.mp ha) λb hb tU=>?_;have tU:b=true:=tU;subst tU;rcases sub with rfl|sub
  ·have r1:Tc [1]=[11]:=by decide+kernel
   unfold Li;rw[Y0,X0]
   ·exact k5.mpr (Na true hb (.head _))
   ·intro h0;refine Xa (k5.mp h0) λc _ hc=>?_;induction c with|true=>rw[X0 rfl]at hc;simp at hc|false=>rw[Y0 Q2,r1]at hc;simp at hc
  ·refine(Pu (b:=W) λx=>⟨λhx=>?_,λhx=>k5.mpr (Na true hb (by refine rr (X0 rfl) ?_;exact hx))⟩).trans u1;refine Xa (k5.mp hx) λc _ hc=>?_;induction c with|true=>rw[X0 rfl]at hc;exact hc|false=>rw[Y0 Q2]at hc;exact sub x hc
 |false=>
  rw[Y0 Q2];refine(Pu λx=>⟨λhx=>?_,λhx=>?_⟩).trans u2
  ·refine Xa (k5.mp hx) λc hcm hc=>?_;induction c with|true=>exact absurd (List.any_eq_true.mpr (Na true hcm rfl)) (by refine rr ha ?_;exact Q2)|false=>rw[Y0 Q2]at hc;exact hc
  ·induction bs with
   |nil=>exact absurd rfl hbs|cons c bs=>
    have hc:c=false:=by induction c with|false=>rfl|true=>rw[List.any_cons]at ha;cases ha
    exact k5.mpr (Na c (.head _) (by refine rr hc<|rr (Y0 Q2) ?_;exact hx))
structure WI(H:List Int):Prop where
 len:H.length<=10
 uni:Li H=Ib H
 wok:oW (Ib H)
 n11:Ib H≠[11]
 rem:∀p∈Ib H,yh p=false->Ib H=[1]\/p∈Tc (Ib H)
 sol:H=[1]\/nj (Ib H)=Tc (Ib H)
 ids:∀p∈H,p∈Lc
 ne:H≠[]
 hd:∀p r,H=p::r->p=1\/p=0->H=[1]\/H=[0]
theorem vM(h:H∈ZD):WI H:=by
 have z:=B2.mp uM H h;unfold tV at z;simp only[M0,Bool.or_eq_true,decide_eq_true_eq,Bool.not_eq_true',decide_eq_false_iff_not,B2]at z;obtain⟨⟨⟨⟨a1,a2,a3,a4,a5⟩,b1,b2,b3⟩,c1,c2⟩,d1,d2,d3,d4⟩:=z;refine⟨j3 a1,a2,EN (j3 a3) (j3 a4) a5 b1 b2 b3,c1,λp hp hn=>?_,d1,d2,d3,λp r e hpr=>?_⟩
 ·rcases c2 p hp with h|h
  ·replace h:=hn▸h;cases h
  ·exact h
 ·clear h a1 a2 a3 a4 a5 b1 b2 b3 c1 c2 d1 d2 d3;subst e;simp only[Bool.or_eq_true,Bool.not_eq_true',Bool.or_eq_false_iff,decide_eq_false_iff_not,decide_eq_true_eq]at d4;rcases d4 with h|h
  ·rcases hpr with e|e
   ·exact absurd e h.1
   ·exact absurd e h.2
  ·exact h
structure Dp(B:Prop)(g:G)(sc:List Int)(A:List (Nat×AV)->Prop)(l:List (Tx×AV))(rows:List AV)(at_:Int)(Z:AH):Prop where
 T:TL g rows Z
 ui:Z[g.ui]? =some (.Ea [])
 di:Z[g.di]? =some (.list [.int at_,.ba (ia sc)])
 wi:Z[g.wi]? =some (.gb l)
 dr:g.di≠g.ri
 ai:B\/∃fs,Z[g.ai]? =some (.inst 551 fs)/\A fs
section
variable{g:G}{l:List (Tx×AV)}{S:SQ}
theorem TL.JF(T:TL g rows Z)(h1:i≠g.ti)(h2:i≠g.ri)(h3:i≠g.xi):TL g rows (Z.set i o):=match T.ti with|⟨ft,t,tr⟩=>⟨(Na ft ((W0 h1).trans t) tr),(W0 h2).trans T.ri,(W0 h3).trans T.xi,T.keys,T.len,T.nd⟩
theorem TL.apart(T:TL g rows Z)(h:Z[i]? =some o)(h1:∀fs,o≠ .inst 190 fs)(h2:∀l,o≠ .list l)(h3:∀l,o≠ .we l):i≠g.ti/\i≠g.ri/\i≠g.xi:=match T.ti with|⟨ft,t,tr⟩=>(sf (Ca h t (h1 _)) (Ca h T.ri (h2 _)) (Ca h T.xi (h3 _)))
theorem VH{k:Tx}(h:Z[i]? =some (.gb l))(hl:l.length<=1000):Ad Z (.ref i) (.str k) v=some (Z.set i (.gb (Fy k v l))):=(ud h).trans<|X0 (xa hl)
theorem Dp.grow(P:Dp B g sc A l rows at_ Z)(x:tb Z Z'):Dp B g sc A l rows at_ Z':=
 ⟨P.T.grow x,x.get P.ui,x.get P.di,x.get P.wi,P.dr,P.ai.imp id λ⟨fs,h,a⟩=>(Na fs (x.get h) a)⟩
theorem Dp.keep(P:Dp B g sc A l rows at_ Z)(T:TL g Ba Z')(k:xd g Z Z'):Dp B g sc A l Ba at_ Z':=
 ⟨T,k.get P.ui (Ca P.ui P.T.ri AO.noConfusion) (Ca P.ui P.T.xi AO.noConfusion),k.get P.di P.dr (Ca P.di P.T.xi AO.noConfusion),k.get P.wi (Ca P.wi P.T.ri AO.noConfusion) (Ca P.wi P.T.xi AO.noConfusion),P.dr,P.ai.imp id λ⟨fs,h,a⟩=>(Na fs (k.get h (Ca h P.T.ri AO.noConfusion) (Ca h P.T.xi AO.noConfusion)) a)⟩
theorem Dp.sK(P:Dp B g sc A l rows at_ Z)(k:Tx)(v:AV):Dp B g sc A (Fy k v l) rows at_ (Z.set g.wi (.gb (Fy k v l))):=
 have n:=P.T.apart P.wi (λ_=>AO.noConfusion) (λ_=>AO.noConfusion) λ_=>AO.noConfusion
 ⟨P.T.JF n.1 n.2.1 n.2.2,(W0 (Ca P.wi P.ui AO.noConfusion)).trans P.ui,(W0 (Ca P.wi P.di AO.noConfusion)).trans P.di,E3 (B0.mp P.wi).1,P.dr,P.ai.imp id λ⟨fs,h,a⟩=>(Na fs ((W0 (Ca P.wi h AO.noConfusion)).trans h) a)⟩
theorem Dp.start{a:List AV}(T:TL g rows Z)(hd:Z[g.di]? =some (.list a))(lR:g.di≠g.ri)(hu:g.ui=Z.length)(hw:g.wi=(Z++[AO.Ea []]).length):Dp True g sc A l rows at_ (List.set (Z++[.Ea []]++[.gb l]) g.di (.list [.int at_,.ba (ia sc)])):=by have x:tb Z (Z++[.Ea []]++[.gb l]):=(tb.push _).trans (tb.push _);have T1:=T.grow x;have d1:=x.get hd;have u1:(Z++[AO.Ea []]++[AO.gb l])[g.ui]? =some (.Ea []):=(tb.push _).get (rr hu Ai);have w1:(Z++[AO.Ea []]++[AO.gb l])[g.wi]? =some (.gb l):=rr hw Ai;exact Xa T1.ti λft t tr=>⟨T1.JF (Ca d1 t AO.noConfusion) lR (Ca d1 T1.xi AO.noConfusion),(W0 (Ca d1 u1 AO.noConfusion)).trans u1,E3 (B0.mp d1).1,(W0 (Ca d1 w1 AO.noConfusion)).trans w1,lR,.inl trivial⟩
theorem Dp.ask(P:Dp True g sc A l rows at_ Z)(x:tb Z Z')(h:Z'[Z.length]? =some (.inst 551 fs))(a:A fs)(e:g.ai=Z.length):Dp False g sc A l rows at_ Z':=
 have Q:=P.grow x
 ⟨Q.T,Q.ui,Q.di,Q.wi,Q.dr,.inr (Na fs (e▸h) a)⟩
theorem eM{m:Int}(hm:0<m)(hd:Z[di]? =some (.list [.int at_,.ba (ia sc)]))(h0:0<=at_)(h1:at_<=100000)(hs:sc.length<=63)(q:∀x,0<=x->x<m->Q (.int x) (Z.set di (.list [.int (at_+1),.ba (ia sc)]))):KW w (n+1) 681 [.ref di,.int m] Z Q:=by
 refine(Ja (WR _) rfl ?_).call;have dl:di<Z.length:=(B0.mp hd).1;have xw:(Z.set di (.list [.int (at_+1),.ba (ia sc)]))[di]? =some (.list [.int (at_+1),.ba (ia sc)]):=E3 dl;have hset:Ad Z (.ref di) (.int 0) (.int (at_+1))=some (Z.set di (.list [.int (at_+1),.ba (ia sc)])):=(ud hd).trans rfl;have fin:∀y:Int,Q (.int (y%m)) (Z.set di (.list [.int (at_+1),.ba (ia sc)])):=λy=>q _ (j4 _ (Int.ne_of_gt hm)) (H3 _ hm);refine jA 2<|qa (Hf hd)<|jA 6<|fe hset<|jA 3<|qa (Hf xw)<|Ef rfl (Us sc hs _)<|Pc rfl (λe=>kE (iG hs h0 (N0 e)) λy hy=>jA 2<|qa (Hf xw)<|jA 1<|qa hy<|jA 3<|Fa (yx hm)<|na (fin y)) λe=>?_
 ·exact jA 2<|Fa (XB ⟨by unfold Ab;lia,by decide⟩)<|jA 5<|Fa (yx hm)<|na (fin _)
theorem hG(c:Nat):AV.tup [.int 8,.tup [.tup [.str [c],.int 1,.int 0,.int 0]],.tup [],.tup [],.tup [],.tup [],.int 0]∉Uf:=by simp[Uf]
theorem wI{c:Nat}(T:TL g R Z)(hl:R.length<=800)(hc:(c=97/\(R=Uf\/Vb R))\/(c=102/\(R=Uf++[Af 97]\/Vb R)))(q:∀R' Z',TL g R' Z'->xd g Z Z'->Z'.length=Z.length->R'.length<=R.length+1->((c=97/\(R'=Uf++[Af 97]\/Vb R'))\/(c=102/\Vb R'))->Q (.int (if c=97 then 16 else 17)) Z'):KW w (n+1) 187 [.ref g.ti,Af c] Z Q:=by
 have key:Zf (Af c)=true:=rfl;refine xI (ks:=[.int 8,.tup [.tup [.str [c],.int 1,.int 0,.int 0]],.tup [],.tup [],.tup [],.tup [],.int 0]) T rfl (by show 2<=7;decide) ((D4 ‹_› (N0 rfl))) (λi hi=>?_) λhn Z' T' k Om=>?_
 ·rcases hc with⟨rfl,h|h⟩|⟨rfl,h|h⟩
  ·clear T hl q;subst h;exact absurd (A4 hi) (hG 97)
  ·have e:=(List.getElem?_inj (B0.mp hi).1 T.nd).mp (hi.trans (h.row 16 (N0 rfl)).symm);clear hi;subst e;exact q R Z T xd.refl rfl (Y4 _) (.inl ⟨rfl,.inr h⟩)
  ·clear T hl q;subst h;rcases D2.mp (A4 hi)with h|h
   ·exact absurd h (hG 102)
   ·simp[Af]at h
  ·have e:=(List.getElem?_inj (B0.mp hi).1 T.nd).mp (hi.trans (h.row 17 (N0 rfl)).symm);clear hi;subst e;exact q R Z T xd.refl rfl (Y4 _) (.inr ⟨rfl,h⟩)
 ·rcases hc with⟨rfl,h|h⟩|⟨rfl,h|h⟩
  ·clear hn;subst h;exact q _ Z' T' k Om (rr A1<|K0 _) (.inl ⟨rfl,.inl rfl⟩)
  ·exact absurd (A4 (h.row 16 (N0 rfl))) hn
  ·clear hn;subst h;exact q _ Z' T' k Om (by refine rr A1 ?_;exact K0 _) (.inr ⟨rfl,by rw[A3];exact Jy []⟩)
  ·exact absurd (A4 (h.row 17 (N0 rfl))) hn
theorem MF{V:AV->AH->Prop}{kx:Int}(hl:fr.length=12)(h9:Wh fr 9=some (.int kx))(We:ye vi je Z)(h0:0<=kx)(h1:kx<128):∀(ps:List Int)(k:Nat)(Ra:List Int),k+ps.length<=7->(∀bl:List Bool,bl.length=ps.length->V (.ba (ia (Ra++Os ps bl))) Z)->Sa (ye vi je) (Ku K 2 (cT (.cmp 0 (.bin 5 (.bin 7 V9 Sp) I1) I1) (cX (.var 13) .ret) .cont) fr) (Nh k (ia ps)) (ia Ra) Z V:=by
 intro ps;induction ps with
 |nil=>intro k Ra _ q;exact⟨We,by have:=q [] rfl;rw[show Os [] []=[]from rfl,K2]at this;exact this⟩|cons p ps ih=>
  intro k Ra hk q;have vr:∀(i:Nat)(a b:AV)(v:AV),Wh (fr++[some a,some b]) (12+i)=Wh [some a,some b] i:=λi a b v=>by
   unfold Wh;rw[C3 (by exact Fb [_,_] 115123817424936960 tO hl),hl,Nat.add_sub_cancel_left]
  have v9:∀a b:AV,Wh (fr++[some a,some b]) 9=some (.int kx):=λa b=>by
   unfold Wh at*;exact rr (C1 (Fb [_] 112425603966753 tO hl)) h9
  have zS:∀(wM:List Int),(∀bl:List Bool,bl.length=ps.length->V (.ba (ia (wM++Os ps bl))) Z)->Sa (ye vi je) (Ku K 2 (cT (.cmp 0 (.bin 5 (.bin 7 V9 Sp) I1) I1) (cX (.var 13) .ret) .cont) fr) (Nh (k+1) (ia ps)) (ia wM) Z V:=λwM q'=>
   ih (k+1) wM (by simp only[P2]at hk;exact Fb [_,_] 77079011173644728575061943040 tO hk) q'
  simp only[P2]at hk;refine⟨We,Aa (v:=[some (.int (k:Nat)),some (.int p)]) rfl ?_⟩;refine Ua (v9 _ _)<|Ua (v:= .int (k:Nat)) (vr 0 _ _ .none)<|Fa (lM (Kh h0 (E4 _) (by unfold Ab;lia) (by lia)))<|jA 1<|Fa (WB (Kh (E4 _) (N0 rfl) ?_ (N0 rfl))) ?_
  ·have:kx.toNat>>>((k:Nat):Int).toNat<=kx.toNat:=by rw[Nat.shiftRight_eq_div_pow];exact Nat.div_le_self _ _
   unfold Ab;lia
  refine jA 1<|Pc rfl (λe=>?_) λe=>?_
  ·refine Ua (v:= .int p) (vr 1 _ _ .none)<|na ?_;have:=zS (Ra++[p]) λbl hb=>by
    have:=q (true::bl) (C0 (· +1) hb);replace this:=(show Os (p::ps) (true::bl)=p::Os ps bl from rfl)▸this;rw[A3];exact this
   rw[show ia (Ra++[p])=ia Ra++[.int p]from List.map_append]at this;exact this
  ·refine dg ?_;have:=zS Ra λbl hb=>q (false::bl) (C0 (· +1) hb);refine show Sa _ _ _ (ia Ra++[]) Z V from ?_
   rw[K2];exact this
theorem Rn{K:CP}{V:AV->AH->Prop}{je:List AV}{vi:AV}{fr:Fr}(hl:fr.length=12)(We:ye vi je Z):∀(ps Ra:List Int),V (.ba (ia (Ra++nj ps))) Z->Sa (ye vi je) (Ku K 0 (cT (.cmp 9 Sp (.tup [.lit (.int 5),.lit (.int 4),.lit (.int 3)])) (cX Sp .ret) .cont) fr) (ia ps) (ia Ra) Z V
 |[],Ra,q=>⟨We,by rw[show nj []=[]from rfl,K2]at q;exact q⟩|p::ps,Ra,q=>by
  have TQ:Wh (fr++[some (.int p)]) 12=some (.int p):=by unfold Wh;refine rr (C3 ((D3 ‹_›)))<|rr hl ?_;rfl
  have e:nj (p::ps)=if(!(decide (p∈([5,4,3]:List Int))))=true then p::nj ps else nj ps:=List.filter_cons;refine⟨We,Aa rfl ?_⟩;refine Ua TQ<|jA 4<|Pc (show Ta Z 9 (.int p) (.tup [.int 5,.int 4,.int 3])=some !(decide (p∈([5,4,3]:List Int)))from C0 (Option.map (!·)) (Bh p [5,4,3])) (λh=>?_) λh=>?_
  ·replace q:=X0 h▸(e▸q);refine Ua TQ<|na ?_;have:=Rn hl We ps (Ra++[p]) (K:=K) (by rw[A3];exact q);rw[show ia (Ra++[p])=ia Ra++[.int p]from List.map_append]at this;exact this
  ·rw[e,Y0 (by exact rr h Q2)]at q;refine dg ?_;refine show Sa _ _ _ (ia Ra++[]) Z V from ?_
   rw[K2];exact Rn hl We ps Ra q
end
section
variable{g:G}{l:List (Tx×AV)}{S:SQ}
theorem nz{V:AV->AH->Prop}{H0:Int}{Hr:List Int}{P:Int->AV->Prop}(hl:fr.length=12)(h10:Wh fr 10=some (.ba (ia (H0::Hr))))(We:ye vi je Z):∀(hs Ra:List AV),(∀x∈hs,∃bb h,x= .tup [.int bb,h]/\P bb h)->(∀ys:List AV,ys.length<=Ra.length+hs.length->(∀x∈ys,x∈Ra\/∃bb h,x= .tup [.int bb,h]/\P bb h/\(bb∈H0::Hr\/H0=1\/H0=0))->V (.ba ys) Z)->Sa (ye vi je) (Ku K 0 (cT (.or (.cmp 8 (.idx Sp I0) Vr) (.cmp 8 (.idx Vr I0) (.tup [.lit (.int 1),.lit (.int 0)]))) (cX Sp .ret) .cont) fr) hs Ra Z V:=by
 intro hs;induction hs with
 |nil=>intro Ra _ q;exact⟨We,q Ra (K0 _) λx hx=> .inl hx⟩|cons x hs ih=>
  intro Ra ok q;refine db (ok x (.head _)) λbb h ez hp=>?_;subst ez;have TQ:Wh (fr++[some (.tup [.int bb,h])]) 12=some (.tup [.int bb,h]):=by unfold Wh;rw[C3 ((D3 ‹_›)),hl];rfl
  have v10:Wh (fr++[some (.tup [.int bb,h])]) 10=some (.ba (ia (H0::Hr))):=by unfold Wh at*;refine rr (C1 (Fb [_] 112425603967777 tO hl)) ?_;exact h10
  have yes:(bb∈H0::Hr\/H0=1\/H0=0)->Sa (ye vi je) (Ku K 0 (cT (.or (.cmp 8 (.idx Sp I0) Vr) (.cmp 8 (.idx Vr I0) (.tup [.lit (.int 1),.lit (.int 0)]))) (cX Sp .ret) .cont) fr) hs (Ra++[.tup [.int bb,h]]) Z V:=λc=>
   ih _ (λy hy=>ok y (.tail _ hy)) λys h1 h2=>q ys (by rw[A1,List.length_singleton]at h1;simp only[P2];exact Fb [_,_,_] 19881686319246558177058816 tO h1) λy hy=>(h2 y hy).elim (λz=>(D2.mp z).elim .inl λz=> .inr (Wa bb h (J0.mp z) hp c)) .inr
  refine⟨We,Aa rfl ?_⟩;refine Ua TQ<|jA 2<|Ua v10<|Pc (show Ta Z 8 (.int bb) (.ba (ia (H0::Hr)))=some (decide (bb∈H0::Hr))from Bh bb (H0::Hr)) (λe=>Ua TQ<|na (yes (.inl (N0 e)))) λe=>?_
  ·refine Ua v10<|jA 5<|Pc (show Ta Z 8 (.int H0) (.tup [.int 1,.int 0])=some (decide (H0∈([1,0]:List Int)))from Bh H0 [1,0]) (λe2=>?_) λe2=>?_
   ·refine Ua TQ<|na (yes ?_);have:=N0 e2;rw[K1,J0]at this;exact .inr this
   ·refine dg ?_;refine show Sa _ _ _ (Ra++[]) Z V from ?_
    rw[K2];exact ih Ra (λy hy=>ok y (.tail _ hy)) λys h1 h2=>q ys (by simp only[P2];exact Nat.le_succ_of_le ‹_›) h2
theorem XL{k:Int}(h0:0<=k)(h1:k<8):∃v,Lv v/\∀Z:AH,jb Z (.tup [.tup [.str [115],.str [122]],.tup [.str [117]],.tup [.str [100],.int 5],.tup [.str [110]],.tup [.str [98],.int 0],.tup [.str [115],.str []],.tup [.str [111],.rc [[107]] [.tup [.str [100],.int 1]]],.tup [.str [102],.tup [.str [100],.int 0]]]) (.int k)=some v:=by
 have:k=0\/k=1\/k=2\/k=3\/k=4\/k=5\/k=6\/k=7:=by lia
 rcases this with rfl|rfl|rfl|rfl|rfl|rfl|rfl|rfl
 ·exact(Na _ (.s _) (λ_=>rfl))
 ·exact(Na _ .u (λ_=>rfl))
 ·exact(Na _ (.d _) (λ_=>rfl))
 ·exact(Na _ .n (λ_=>rfl))
 ·exact(Na _ (.b _) (λ_=>rfl))
 ·exact(Na _ (.s _) (λ_=>rfl))
 ·exact(Na _ (.o _ _ λx hx=>by exact rr (J0.mp hx)<| .d _) (λ_=>rfl))
 ·exact(Na _ (.f _ (.d _)) (λ_=>rfl))
theorem Vb.app{ex:List AV}(b:Vb rows):Vb (rows++ex):=
 have hl:16<rows.length:=(B0.mp (b.row 16 (N0 rfl))).1
 ⟨λp hp=>(C1 (B0.mp (b.row p hp)).1).trans (b.row p hp),λps h=>b.two ps ((C1 (Nat.lt_trans (N0 rfl) hl)).symm.trans h)⟩
theorem mM(k:Nat):∀vs:List AV,(∀x∈vs,Mine.qg k x=true)->Ye k vs=true:=λvs=>by
 induction vs with|nil=>exact λ_=>rfl|cons x xs ih=>exact λh=>(M0 _ _).mpr ⟨h x (.head _),ih λy hy=>h y (.tail _ hy)⟩
theorem Lv.qg(k:Nat)(h:Lv v):Mine.qg k v=true:=by
 induction h with|o ks vs h ih=>exact(T4 _).trans (mM k vs ih)|f x h ih=>exact(T4 _).trans ih|_=>rfl
theorem Ar(k:Nat):∀hs:List AV,(∀x∈hs,∃(bb:Int)(h:AV),x= .tup [.int bb,h]/\Lv h)->Ye k hs=true|[],_=>rfl|x::hs,ok=>(M0 _ _).mpr ⟨match ok x (.head _)with|⟨_,h,e,l⟩=>e▸(T4 _).trans (l.qg k),Ar k hs λy hy=>ok y (.tail _ hy)⟩
noncomputable abbrev CW(g:G):List (Tx×AV):=[(sD,.ref g.di),(ug,.int 0),(Av,.ref g.ui),(Hy,.ref g.ti),(Bv,.int g.bh),(mO,.str g.key),(uS,.ref g.ai)]
abbrev AM(g:G)(fs:List (Nat×AV)):Prop:=Jb 6 fs=some (.ref g.ti)/\Jb 7 fs=some (.ref g.ui)/\Jb 23 fs=none/\Jb 24 fs=none/\Jb 25 fs=none
theorem SG:∀H:List Int,Gf (ia H)=some H
 |[]=>rfl|x::H=>by
  show(Gf (ia H)).map (x::·)=_;refine rr (SG H) ?_;rfl
theorem dO(h:H.length<=10):og Z 2 [.ba (ia H)]=some (.ba (ia (Ib H))):=by show((Gf (ia H)).bind λks=>if ks.length<=60 then some (AV.ba ((Ib ks).map .int))else none)=_;rw[SG];exact X0 (A0 h (N0 rfl))
theorem cw{c:J}{k:Tx}{S:SQ}(P:Dp B g sc A l rows at_ Z)(hl:Nat.ble l.length 1000=true)(h:∀Z2,Dp B g sc A (Fy k v l) rows at_ Z2->Z2.length=Z.length->At K c st fr Z2 S):At K (.ue c) (.str k:: .ref g.wi::v::st) fr Z S:=
 fe (VH P.wi (j3 hl)) (h _ (P.sK k v) T3)
theorem QE{k:Tx}(P:Dp B g sc A l rows at_ Z)(h:Oi k l=some v):jb Z (.ref g.wi) (.str k)=some v:=(Da P.wi).trans h
theorem BW{k:Int}{th:AV}(h0:0<=k)(h1:k<4)(l:Lv th):∃v,Lv v/\∀Z:AH,jb Z (.tup [th,.tup [.str [110]],.tup [.str [117]],.tup [.str [115],.str []]]) (.int k)=some v:=by
 have:k=0\/k=1\/k=2\/k=3:=by lia
 rcases this with rfl|rfl|rfl|rfl
 ·exact(Na _ l (λ_=>rfl))
 ·exact(Na _ .n (λ_=>rfl))
 ·exact(Na _ .u (λ_=>rfl))
 ·exact(Na _ (.s _) (λ_=>rfl))
theorem sC{x:Int}{Ih Ln:AV}{f1:Option AV}(hn:20<=n)(P:Dp False g sc (λfs=>AM g fs) (CW g) rows at_ Z)(b:Vb rows)(hr:rows.length<=850)(F:WI H)(li:Lv Ih)(lt:Lv Ln)(h0:0<=x)(hx:x<20480)(Le:g.bh=0\/g.bh=1)(hk:g.key=Ni g.bh)(h1:0<=at_)(h2:at_+la<=100000)(hs:sc.length<=63)(Oq:ae Ln=false)(q:∀D s Z',WL g D->LS g D sc s.rows s 1000 la Z'->PD s.rows D.t D.W->s.at_=at_->s.rows.length<=rows.length+1->Q (.ref g.wi) Z'):At (KW w n) (cS (MV.drop 15) .fin) [] [some (.ref g.ti),some (.ref g.di),some (.ref g.wi),some (.int x),some (.int 16),some (.int 17),f1,some Ih,some Ln,f2,some (.ba (ia H)),f3] Z (λfl _ Z'=>Q (xf fl) Z'):=by
 obtain⟨n,rfl⟩:∃m,n=m+20:=⟨n-20,((P1 ‹_›).symm)⟩;refine jC 2 ?_;have hH:(H.map λp=>(p,[p])).map (·.1)=H:=rr List.map_map<|List.map_id _;have hF:(H.map λp=>(p,[p])).flatMap (·.2)=H:=by rw[List.flatMap_map];exact List.flatMap_singleton' _
 refine wn (n:=n+17) (vi:= .ba (ia H)) (l:=H.map λp=>(p,[p])) P.T b (λp hp=>?_) (by rw[hF];exact A0 F.len (N0 rfl)) (λp hp=>?_) (by rw[R0];exact A0 F.len (N0 rfl)) ((D4 ‹_› (N0 rfl))) (λZ' _=>by rw[hH];rfl) λBa Z' t eH hpd T' k=>?_
 ·refine Xa (List.mem_map.mp hp) λy hy ez=>?_;clear hp;subst ez;exact .one _ (F.ids y hy)
 ·refine Xa (List.mem_map.mp hp) λy hy ez=>?_;clear hp;subst ez;exact j3 rfl
 replace hpd:=F.uni▸(hF▸hpd);have P:=P.keep T' k;refine jA 2<|cw P rfl λZ2 P _=>jA 1<|Ef rfl (dO F.len)<|jA 2<|cw P rfl λZ3 P _=>jA 3<|Ue (k:=?k1) (st:=?st1) (fr:=?fr1) (Z:=?s1) (λv=>v= .ba (ia (Tc (Ib H)))) ?rest1 λz=>?main1
 case main1=>
  refine Pc (show Ta _ 0 (.ba (ia H)) (.ba (ia [1]))=some (decide (H=[1]))from Ht _ _) (λe=>?_) λe=>?_
  ·refine jA 2 ?_;have e:=N0 e;exact z (.ba (ia [11])) (rr e<|rr (show Tc (Ib [1])=[11] by decide+kernel) rfl)
  ·refine jA 2<|qa (QE P rfl) ?_;have e:=Y1 e;exact Wd (xs:=ia (Ib H)) rfl (by unfold ia;rw[R0,Wk];exact A0 F.len (xa (N0 rfl)))<|Rn (vi:= .ba (ia (Ib H))) rfl rfl (Ib H) []<|rr (F.sol.resolve_left e)<|z _ rfl
 case rest1=>
  intro v hv;subst hv;refine jA 2<|cw P rfl λZ4 P _=>jA 38 ?_;obtain⟨H0,Hr,rfl⟩:∃a r,H=a::r:=match H,F.ne with|a::r,_=>(Jh a r rfl)
  refine Wd (x:= .tup _) rfl (xa (j3 rfl))<|nz (vi:= .tup _) (P:=λbb h=>Lv h/\(ae h=false->yh bb=false)) rfl rfl rfl _ [] ?_ λys Om hys=>?_
  ·have o:∀{a:AV}{r:List AV}{P:AV->Prop},P a->(∀x∈r,P x)->∀x∈a::r,P x:=λh1 h2=>Q3.mpr ⟨h1,h2⟩;refine o (Wa _ _ rfl .n (λh=>?_)) (o (Wa _ _ rfl .u (λh=>?_)) (o (Wa _ _ rfl .u (λh=>?_)) (o (Wa _ _ rfl lt (λ_=>rfl)) (o (Wa _ _ rfl (.o _ _ (λ_ h=>nomatch h)) (λ_=>rfl)) (o (Wa _ _ rfl (.f _ li) (λ_=>rfl)) (o (Wa _ _ rfl (.s _) (λ_=>rfl)) (o (Wa _ _ rfl (.d _) (λ_=>rfl)) λ_ h=>nomatch h)))))))
   all_goals exact absurd h (N0 rfl)
  have hd:∀x∈ys,∃bb h,x= .tup [.int bb,h]/\Vp (Ib (H0::Hr)) bb h:=λx hx=>by
   rcases hys x hx with h|⟨bb,h,rfl,⟨l,nn⟩,c⟩
   ·exact nomatch h
   refine⟨bb,h,rfl,l,?_,nn⟩;rcases c with c|c
   ·exact .inl ((lf _ _).mpr c)
   ·rcases F.hd _ _ rfl c with e|e
    ·exact rr e<| .inr (.inl (by decide+kernel))
    ·exact rr e<| .inr (.inr (by decide+kernel))
  refine jA 2<|cw P rfl λZ5 P _=>jA 11<|Fa (Mg (b:=4) (Kh (N0 rfl) (N0 rfl) h0 (by unfold Ab;lia)))<|jA 2<|Xa (BW (k:=x/4%4) (j4 _ (N0 rfl)) (H3 _ (N0 rfl)) lt) λy ly hy=>qa (hy _)<|jA 2<|cw P rfl λZ6 P _=>jR 1 ?_;refine q ⟨t,Ib (H0::Hr),ys,y⟩ ⟨[],0,at_,Ba⟩ _ ⟨Le,hk,F.n11,F.rem,hd,Om,ly⟩ ⟨⟨P.T,?_,P.ui,P.ai.resolve_left id,(Na [] ((K2 _).symm) (λ_ h=>nomatch h)),?_,F.wok⟩,P.wi,P.di,P.dr,h1,?_,Int.le_refl _,by show(0:Int)+1000<=_;decide,λ_ _=>rfl,Int.le_refl _,hs,λk=>⟨Ar k ys λx hx=>match hd x hx with|⟨a,b,e,d⟩=>(sk a b e d.lv),ly.qg k⟩⟩ hpd rfl ?_
  ·rcases eH with e|e
   ·exact e▸b
   ·exact e▸b.app
  ·show Ba.length<=900;rcases eH with e|e
   ·exact rr e<|A0 ‹_› (N0 rfl)
   ·refine rr e<|rr A1 ?_;show _+1<=_;exact D4 ‹_› (N0 rfl)
  ·exact h2
  ·show Ba.length<=_;rcases eH with e|e
   ·exact rr e<|Q1 _ _
   ·exact rr e<|rr A1<|K0 _
end
section
variable{g:G}{l:List (Tx×AV)}{S:SQ}
theorem bM(hn:21<=n)(T:∀g:G,g.ti=ti->g.ri=ri->g.xi=xi->TL g R Z)(hR:R=Uf\/Vb R)(hRl:R.length<=790)(hd:Z[di]? =some (.list [.int at_,.ba (ia sc)]))(lR:di≠ri)(h0:0<=at_)(h1:at_+1+la<=100000)(hs:sc.length<=63)(q:∀g D s Z',g.ti=ti->g.ri=ri->g.xi=xi->g.di=di->WL g D->LS g D sc s.rows s 1000 la Z'->PD s.rows D.t D.W->s.at_=at_+1->s.rows.length<=R.length+3->Q (.ref g.wi) Z'):KW w n 777 [.ref ti,.ref di] Z Q:=by
 obtain⟨n,rfl⟩:∃m,n=m+21:=⟨n-21,((P1 ‹_›).symm)⟩;refine(Ja (WW _) rfl ?_).call;refine jC 8 ?_;refine eM (n:=n+19) (at_:=at_) (sc:=sc) (N0 rfl) ((tb.push _).get ((tb.push _).get hd)) h0 (by lia) hs λx IU h1'=>?_;obtain⟨bh,hb,Le⟩:∃bh:Nat,x%2=(bh:Int)/\(bh=0\/bh=1):=(Na ((x%2).toNat) (by lia) (by lia));obtain⟨g,g1,g2,g3,g4,g5,g6,g7,g8,g9⟩:∃g:G,g.ti=ti/\g.ri=ri/\g.xi=xi/\g.di=di/\g.ui=Z.length/\g.wi=(Z++[AO.Ea []]).length/\g.ai=(Z++[AO.Ea []]).length+1/\g.bh=bh/\g.key=Ni bh:=(lz ⟨_,_,_,_,_,_,_,_,_⟩ rfl rfl rfl rfl rfl rfl rfl rfl rfl);have T0:=T g g1 g2 g3;clear T;subst g1 g2 g3 g4;have P:Dp True g sc (λfs=>AM g fs) [(sD,.ref g.di),(ug,.int 0),(Av,.ref g.ui),(Hy,.ref g.ti)] R (at_+1) _:=Dp.start T0 hd lR g5 g6;have l7:(List.set (Z++[AO.Ea []]++[AO.gb [(sD,.ref g.di),(ug,.int 0),(Av,.ref g.ui),(Hy,.ref g.ti)]]) g.di (.list [.int (at_+1),.ba (ia sc)])).length=g.ai:=by refine rr T3<|rr A1<|rr g7 ?_;rfl
 refine jA 6 ?_;refine show At _ _ [_,.ref (Z++[AO.Ea []]).length,_] [some (.ref g.ti),some (.ref g.di),some (.ref (Z++[AO.Ea []]).length),some (.int x),none,none,none,none,none,none,none,none] (List.set (Z++[AO.Ea []]++[AO.gb [(sD,.ref g.di),(ug,.int 0),(Av,.ref Z.length),(Hy,.ref g.ti)]]) g.di (.list [.int (at_+1),.ba (ia sc)])) _ from ?_
 refine rq g6<|rq g5 ?_;revert P l7;generalize List.set (Z++[AO.Ea []]++[AO.gb [(sD,.ref g.di),(ug,.int 0),(Av,.ref g.ui),(Hy,.ref g.ti)]]) g.di (.list [.int (at_+1),.ba (ia sc)])=Z1;intro P l7;refine rr hb ?_;refine cw P rfl λZ2 P l2=>?_;refine jA 4 ?_;refine Ue (k:=?k1) (st:=?st1) (fr:=?fr1) (Z:=?s1) (λv=>v= .str (Ni bh)) ?rest1 λz=>?main1
 case main1=>
  refine Pc rfl (λe=>?_) λe=>?_
  ·have e:x%2=0:=N0 e;have:bh=0:=by lia
   refine jA 1 ?_;exact z _ (rr this rfl)
  ·have e:¬x%2=0:=Y1 e;have:bh=1:=by lia
   refine jA 1 ?_;exact z _ (by refine rr this ?_;rfl)
 case rest1=>
 intro v hv;subst hv;refine jA 2 ?_;refine cw P rfl λZ3 P l3=>?_;refine jA 3 ?_;refine qa (QE P rfl) ?_;refine jC 0 ?_;refine iM (n:=n+18) λfs a1 a2 a3 a4 a5 Z4 h4 x4=>?_;have e:g.ai=Z3.length:=rr l3<|rr l2<|rr l7 rfl;have P:Dp False g sc (λfs=>AM g fs) [(sD,.ref g.di),(ug,.int 0),(Av,.ref g.ui),(Hy,.ref g.ti),(Bv,.int bh),(mO,.str (Ni bh))] R (at_+1) Z4:=P.ask x4 h4 (mr a1 a2 a3 a4 a5) e;refine rq e ?_;refine jA 2 ?_;refine cw P rfl λZ5 P l5=>?_;have P:Dp False g sc (λfs=>AM g fs) (CW g) R (at_+1) Z5:=by unfold CW;exact rr g8<|rr g9 P
 refine jA 1<|Xa (Yn P.T) λ_ p1 p2=>dw p1 p2 ?_;refine jA 13<|ew rfl<|wI (c:=97) P.T ((A0 ‹_› (N0 rfl))) (.inl ⟨rfl,hR⟩) λR1 Z6 T6 k6 l6 hR1 c1=>?_;have P:=P.keep T6 k6;refine jA 2<|Xa (Yn P.T) λ_ p1 p2=>dw p1 p2 ?_;refine jA 13<|ew rfl<|wI (c:=102) P.T (Jc [_,_] 77658816435879130693985623163359913338880 tO hRl hR1) (.inr ⟨rfl,c1.elim (·.2) λh=> .inr h.2⟩) λR2 Z7 T7 k7 l7 hR2 c2=>?_;have b2:Vb R2:=c2.elim (λh=>absurd h.1 (N0 rfl)) (·.2);have P:=P.keep T7 k7;refine show At _ _ [.int 17] [some (.ref g.ti),some (.ref g.di),some (.ref g.wi),some (.int x),some (.int 16),none,none,none,none,none,none,none] Z7 _ from ?_
 refine jA 33 ?_;refine Fa (Mg (b:=2) (Kh (N0 rfl) (N0 rfl) IU (by unfold Ab;lia))) ?_;refine jA 2 ?_;refine Xa (XL (k:=x/2%8) (j4 _ (N0 rfl)) (H3 _ (N0 rfl))) λIh li hi=>?_;refine qa (hi _) ?_;refine jA 14 ?_;refine Fa (Mg (b:=16) (Kh (N0 rfl) (N0 rfl) IU (by unfold Ab;lia))) ?_;refine jA 12 ?_;refine Wd (x:= .qn _) rfl (xa (j3 rfl)) ?_;refine MF (vi:= .qn _) rfl rfl rfl (j4 _ (N0 rfl)) (H3 _ (N0 rfl)) qt 0 [] (N0 rfl) λbl HP=>?_;have hbm:bl∈fu 7:=by have:=qp bl;rwa [show bl.length=7 from HP]at this
 generalize hS:Os qt bl=H;have hH:H=[]\/H∈ZD:=by
  cases e:H with|nil=>exact .inl rfl|cons a r=>exact .inr (.tail _ (.tail _ (.tail _ (List.mem_filter.mpr ⟨List.mem_map.mpr (Na bl hbm (hS.trans e)),rfl⟩))))
 clear hi;obtain⟨Ln,lt,Oq,ht⟩:∃t,Lv t/\ae t=false/\t= .tup [.str [111],.rc [[97],[98]] [.tup [.str [111],.rc [[98],[97]] [Ih,.tup [.str [117]]]],Ih]]:=by
  refine(Kf _ (.o _ _ λy hy=>?_) rfl rfl);rcases K1.mp hy with rfl|hy
  ·refine .o _ _ λy hy=>?_;rcases K1.mp hy with rfl|hy
   ·exact li
   ·exact rr (J0.mp hy) .u
  ·exact rr (J0.mp hy) li
 clear hS;refine jA 3 ?_;refine show At _ _ [.ba [],.ba (ia H)] [some (.ref g.ti),some (.ref g.di),some (.ref g.wi),some (.int x),some (.int 16),some (.int 17),some _,some Ih,some (.tup [.str [111],.rc [[97],[98]] [.tup [.str [111],.rc [[98],[97]] [Ih,.tup [.str [117]]]],Ih]]),some (.int (x/16%128)),some (.ba (ia H)),none] Z7 _ from ?_
 refine rq ht ?_;refine an (k:=?k2) (st:=?st2) (Z:=?s2) (λfr=>∃H f1,H∈ZD/\fr=[some (.ref g.ti),some (.ref g.di),some (.ref g.wi),some (.int x),some (.int 16),some (.int 17),f1,some Ih,some Ln,some (.int (x/16%128)),some (.ba (ia H)),none]) ?rest2 λz=>?main2
 case main2=>
  refine Pc (show Ta _ 0 (.ba (ia H)) (.ba (ia []))=some (decide (H=[]))from Ht _ _) (λe=>?_) λe=>?_
  ·refine jA 5 ?_;exact z _ (sk [16,5,4] _ (.tail _ (.tail _ (.head _))) rfl)
  ·exact z _ (sk H _ (hH.resolve_left (Y1 e)) rfl)
 case rest2=>
 rintro _ ⟨H,f1,hH,rfl⟩;refine jA 2 ?_;refine Fa (Mg (b:=2048) (Kh (N0 rfl) (N0 rfl) IU (by unfold Ab;lia))) ?_;refine jA 1 ?_;refine an (k:=?k3) (st:=?st3) (Z:=?s3) (λfr=>∃H f1,H∈ZD/\fr=[some (.ref g.ti),some (.ref g.di),some (.ref g.wi),some (.int x),some (.int 16),some (.int 17),f1,some Ih,some Ln,some (.int (x/16%128)),some (.ba (ia H)),none]) ?rest3 λz=>?main3
 case main3=>
  refine Pc rfl (λe=>?_) λe=>?_
  ·refine jA 3 ?_;exact z _ (sk [1] _ (.head _) rfl)
  ·exact z _ (sk H _ hH rfl)
 case rest3=>
 rintro _ ⟨H,f1,hH,rfl⟩;refine jA 2 ?_;refine Fa (Mg (b:=2048) (Kh (N0 rfl) (N0 rfl) IU (by unfold Ab;lia))) ?_;refine jA 1 ?_;refine an (k:=?k4) (st:=?st4) (Z:=?s4) (λfr=>∃H f1,H∈ZD/\fr=[some (.ref g.ti),some (.ref g.di),some (.ref g.wi),some (.int x),some (.int 16),some (.int 17),f1,some Ih,some Ln,some (.int (x/16%128)),some (.ba (ia H)),none]) ?rest4 λz=>?main4
 case main4=>
  refine Pc rfl (λe=>?_) λe=>?_
  ·refine jA 3 ?_;exact z _ (sk [0] _ (.tail _ (.head _)) rfl)
  ·exact z _ (sk H _ hH rfl)
 case rest4=>
 rintro _ ⟨H,f1,hH,rfl⟩;refine sC ((D0 _ _)) P b2 (Lp [_,_,_] 21358384930819067295957606905258952512984144553797632 tO hRl hR1 hR2) (vM hH) li lt IU h1' (rr g8 Le) (rr g9<|rr g8 rfl) (by lia) ‹_› hs Oq λD s Z' F L pd e hr=>q g D s Z' rfl rfl rfl rfl F L pd e (Lp [_,_,_,_] 1243902192446272651207270036102518215335936 tO hR1 hR2 hr)
end
section
variable{g:G}{S:SQ}
theorem VC{α:Type}{a b:α}:∀{ex:List α},ex.Nodup->(∀r∈ex,r=a\/r=b)->ex.length<=2
 |[],_,_=>c5 _|[_],_,_=>Y4 _|[_,_],_,_=>K0 _|x::y::z::r,nd,h=>by
  have hx:=h x (.head _);have hy:=h y (.tail _ (.head _));have hz:=h z (.tail _ (.tail _ (.head _)));rw[P3,P3]at nd;have n1:x≠y:=λe=>nd.1 (e▸ .head _);have n2:x≠z:=λe=>nd.1 (e▸ .tail _ (.head _));have n3:y≠z:=λe=>nd.2.1 (e▸ .head _);rcases hx with rfl|rfl<;>rcases hy with rfl|rfl<;>rcases hz with rfl|rfl<;>contradiction
theorem TL.of{g0 g:G}(T:TL g0 rows Z)(h1:g.ti=g0.ti)(h2:g.ri=g0.ri)(h3:g.xi=g0.xi):TL g rows Z:=
 ⟨by refine rr h1<|rr h2<|rr h3 ?_;exact T.ti,by refine rr h2 ?_;exact T.ri,by exact rr h3<|T.xi,T.keys,T.len,T.nd⟩
noncomputable abbrev WX:List C:=Tg IV[3]?
theorem GG(hn:70<=n)(We:∀Z,ye vi je Z)(lR:di≠ri)(hs:sc.length<=63):∀(xs:List AV){R:List AV}{Z:AH}{at_:Int}{f3 f4:Option AV},(∀g:G,g.ti=ti->g.ri=ri->g.xi=xi->TL g R Z)->(R=Uf\/Vb R)->R.length+5*xs.length<=100->Z[di]? =some (.list [.int at_,.ba (ia sc)])->0<=at_->at_+60*xs.length<=100000->(∀Z' f3 f4,S .next [f0,some (.ref ti),some (.ref di),f3,f4] Z')->Eb (ye vi je) (IB (KW w n) 3 (cS WX .fin)) xs [f0,some (.ref ti),some (.ref di),f3,f4] Z S:=by
 intro xs;induction xs with
 |nil=>intro _ Z _ f3 f4 _ _ _ _ _ _ q;exact⟨We Z,q Z f3 f4⟩|cons x xs ih=>
  intro R Z at_ f3 f4 T hR hl hd h0 h1 q;have e:(x::xs).length=xs.length+1:=rfl;rw[e]at hl h1;refine⟨We Z,?_⟩;refine show At _ _ _ _ _ _ from ?_
  refine jC 2 ?_;refine bM (la:=(60*xs.length+40)+1+15) ((A0 (D0 _ _) ‹_›)) T hR ((A0 (Q1 _ _) (A0 ‹_› (N0 rfl)))) hd lR h0 (by lia) hs λg D s Z1 e1 e2 e3 e4 F L pd ea er=>?_;refine jC 2 ?_;refine nY (lc:=700) ((A0 (D0 _ _) ‹_›)) F L pd λs2 Z2 L pd' pd=>?_;refine jC 2 ?_;refine oY (lc:=686) ((A0 (D0 _ _) ‹_›)) F L pd λs3 Z3 L _ pd=>jC 2<|uI (lc:=366) ((A0 (D0 _ _) ‹_›)) F L pd λs4 Z4 L _ pd=>jA 1<|Ka<|Xa L.N.ex λex x1 x2=>?_;have nd:=L.N.T.nd;replace nd:=x1▸nd;have x3:=VC (List.nodup_append.mp nd).2.1 x2;have x4:s4.rows.length=s.rows.length+ex.length:=rr x1<|rr A1 rfl;have x5:=L.atb;exact ih (λg' a b c=>L.N.T.of (a.trans e1.symm) (b.trans e2.symm) (c.trans e3.symm)) (.inr L.N.b) (YQ [_,_,_,_,_] 238368982081453999688039696271984954977873731119628534924972830163930271548160 tO hl er x3 x4) (e4▸L.di) L.tM ‹_› q
theorem RH(a b:Nat)(h:a<=63):Xg a b .none=some b/\Xg a a (.int 63)=some a:=by refine⟨rfl,?_⟩;show(if(0:Int)<=63/\(63:Int)<=Ab then some (min (63:Int).toNat a)else none)=some a;exact rr (X0 ⟨by decide,by decide⟩)<|C0 some (Nat.min_eq_right h)
theorem eO(hs:sc.length<=63):Wi Z (.ba (ia sc)) .none (.int 63)=some (.ba (ia sc)):=by have hl:(ia sc).length=sc.length:=R0 _;refine kA (RH (ia sc).length 0 (hl▸hs)) λh1 h2=>?_;show((Xg (ia sc).length 0 .none).bind λl=>(Xg (ia sc).length (ia sc).length (.int 63)).bind λh=>if(ia sc).length<=Ab/\l<=h then some (AV.ba (((ia sc).drop l).take (h-l)))else none)=_;refine rr h1<|rr h2 ?_;show(if(ia sc).length<=Ab/\0<=(ia sc).length then some (AV.ba (((ia sc).drop 0).take ((ia sc).length-0)))else none)=_;refine rr (X0 ⟨xa (Jc [_,_] 1331834285419060450209284291495749632 tO hs hl),c5 _⟩) ?_;rw[List.drop_zero,Nat.sub_zero,List.take_length]
theorem xS{m:Int}(h:m.natAbs<=4)(Z:AH):sa Z (.Gk 0 m)=some ((List.range (m-0).toNat).map λ(k:Nat)=> .int (0+k)):=X0 ⟨xa (N0 rfl),xa (A0 h (N0 rfl))⟩
theorem yV(hn:80<=n)(hs:sc.length<=63)(q:∀Z',Q (.bool true) Z'):KW w n 850 [.ba (ia sc)] [] Q:=by
 obtain⟨n,rfl⟩:∃m,n=m+4:=⟨n-4,((P1 (Fb [_] 22213572956960 tO hn)).symm)⟩;refine(Ja (JW _) rfl ?_).call;refine jA 3<|gr (eO hs)<|jC 1<|CV (n:=n) (g:=⟨0,0,0,0,1,2,0,0,[]⟩) rfl rfl rfl λZ' T x hl=>jA 3<|Eo rfl rfl<|jA 3<|Ef rfl (Us sc hs _)<|jA 1<|Fa (Mg (b:=16) (Kh (N0 rfl) (N0 rfl) ((E4 _)) (by unfold Ab;lia)))<|jA 1 ?_;have hm:(1+(sc.length:Int)/16).natAbs<=4:=by lia
 refine Ef rfl (show og _ 1 [.int (1+(sc.length:Int)/16)]=some (.Gk 0 (1+(sc.length:Int)/16))from X0 (xa (A0 hm (N0 rfl)))) ?_;have hx:((List.range ((1+(sc.length:Int)/16)-0).toNat).map λ(k:Nat)=>AV.int (0+k)).length<=4:=by rw[R0,List.length_range];assumption
 refine Ve (xS hm _) (xa (A0 hx (N0 rfl))) ?_;have l9:9<=Z'.length:=hl;refine GG (vi:= .Gk 0 _) (Fb [_] 813612148545071046407780673168536050496 tO hn) (xS hm) (ti:=0) (ri:=1) (xi:=2) (di:=Z'.length) (Nat.ne_of_gt (Fb [_] 2688651626273 tO l9)) hs _ (at_:=0) (λg' a b c=>(T.grow (tb.push _)).of a b c) (.inl rfl) ?_ Ai (Int.le_refl _) (by lia) λZ2 f3 f4=>?_
 ·show 16+5*_<=100;exact Fb [_] 757619492937312486402333107968 tO hx
 ·refine show At _ _ _ _ _ _ from ?_
  refine jR 1 ?_;exact q _
end
theorem YK{h:Heap}:∀{is:List Int}{vs:List Value},WellAll w.params h vs (is.map .int)->ya prog w h (λ_=>False) [] (ia is) vs:=by
 intro is;induction is with|nil=>intro vs a;cases a;exact rfl|cons i is ih=>intro vs a;exact Je (wellAll_cons_inv a) λv vs' e a1 a2=>Wa v vs' e (Value.isInt_shape ((encInt prog w).is a1).1) (ih a2)
theorem DG{P:Params}{h:Heap}{v:Value}{xs:List WData}(x:Well P h v (.list xs)):∃a vs,v= .ref a/\h.get? a=some {cls:= .type "list",data:= .seq (List.toArray vs) 0}/\WellAll P h vs xs:=by cases x with|list a b=>exact Wa _ _ rfl a b
theorem NJ{prog:Program}{h:Heap}{vs:List Value}(x:WellAll w.params h vs []):vs=[]:=by cases x;rfl
set_option backward.match.sparseCases true in
theorem YO{xs:List WData}(h:ol.row.toRowW.pre.holds [] {args:=[.list xs]}=true):xs.length<=63:=by
 rcases Nat.lt_or_ge 63 xs.length with l|l
 ·have e1:WTm.value [] (.lt (.lit (.int 63)) (.len (.arg 0))) {args:=[.list xs]}=some (.bool (decide ((63:Int)<(xs.length:Int)))):=rfl;rw[Y2 (by lia)]at e1;have e2:WTm.value [] (.not (.lt (.lit (.int 63)) (.len (.arg 0)))) {args:=[.list xs]}=some (.bool false):=by show(match WTm.value [] (.lt (.lit (.int 63)) (.len (.arg 0))) {args:=[.list xs]}with|some (.bool b)=>some (WData.bool (!b))|_=>none)=_;refine rr e1 ?_;rfl
  have e3:WTm.value [] ol.row.toRowW.pre {args:=[.list xs]}=some (.bool false):=by
   show(match WTm.value [] (.not (.lt (.lit (.int 63)) (.len (.arg 0)))) {args:=[.list xs]}with
    |some (.bool false)=>some (WData.bool false)|some (.bool true)=>(match WTm.value [] (.lit (.bool true)) {args:=[.list xs]}with|some (.bool x)=>some (WData.bool x)|_=>none)|_=>none)=_
   exact rr e2 rfl
  unfold WTm.holds at h;replace h:=e3▸h;exact absurd h Q2
 ·exact l
theorem rI:Ix:=by
 intro w s₀ s₁ mg mb G Y a o pm cd doc dV kV ha ho hcode hdfl gH mU args Ld as qD hlay hrd YM CB;have e850:nsIn (KP w.params) mainGlobals Zy.1.name=some (some (.ref 850)):=by kernel_rfl
 have h850:=Ov ((VI w.params).keeps (Y)) G.T.g e850;have ea:a=850:=by have:=gH.symm.trans h850;cases this;rfl
 clear ha gH;subst ea;have qD:(WShape.hasAll [] args [.list .int]&&ol.row.toRowW.pre.holds [] {args:=args})=true:=qD;rw[M0]at qD;refine kA qD λp1 p2=>?_;clear qD;refine Je (hasAllW_cons p1) λd r e1 p1 p3=>Xa (hasW_list p1) λxs e2 p4=>kE (items_int p4) λis e3=>?_;rw[hasAllW_nil p3]at e1;clear p4;subst e3;clear p1;subst e2;clear qD hlay hrd;clear p1;subst e1;refine Je (wellAll_cons_inv YM) λv vs' e4 a1 a2=>Je (DG a1) λp vs e5 hg hw=>?_;rw[NJ (prog:=pw) a2,e5]at e4;clear YM;subst e4;have S:SR pw w (H1 w.params) (λ_=>False) [] [] s₁.heap:=⟨rfl,λi _ _ h=>(nomatch h),List.nodup_nil,λ_ h=>(nomatch h),Y⟩;have V:ya pw w s₁.heap (λ_=>False) [] [.ba (ia is)] [.ref p]:=(Wa _ _ rfl (Ob p vs 0 rfl ⟨id,λh=>(nomatch h)⟩ hg (YK hw)) rfl);have call:=yV (w:=w) (n:=100) (sc:=is) (Q:=λv _=>v= .bool true) (N0 rfl) (by have:=YO p2;rw[R0]at this;exact this) (λ_=>rfl) callerA s₁ (λ_=>False) [] _ ⟨by decide,by decide,rfl⟩ S ⟨λ_ h=>h.elim,λ_ h=>h.elim⟩ V;refine C2 (aa.bind (P:=λv s'=>v= .bool true/\(∀a o,s₁.heap.get? a=some o->s'.heap.get? a=some o)/\s'.os=s₁.os/\s'.gens=s₁.gens) call λav v Z' O' h' tk x S' r q=>?_) (λv s' z=>?_) λe s' z=>z.elim
 ·rw[q]at r;exact Kh r (λb o e=>x.keep b o e (λh=>nomatch h)) rfl rfl
 ·rw[z.1];exact(Kh (.inl (kw _ (.bool true) [] rfl (λ_=>rfl) (.bool true) (by kernel_rfl) (λ_=>⟨List.nodup_nil,λ_ h=>(nomatch h)⟩))) (.of_keep z.2.1) z.2.2.1 (.of_eq (z.2.2.2.trans mU)))
theorem holds:PySem.Challenge.rw_up0024_01.Holds:=head rI
end
end Mine
theorem PySem.Challenge.cw_up0024_01_holds : PySem.Challenge.rw_up0024_01.Holds :=
 Mine.holds
