import PyProof.Rows.All
import Wide.All
import OpenK.AllK
import Wide.FinOn
import Lean
import PySem.Challenge.RW_pb0493_01
set_option Elab.async false
set_option linter.all false
set_option maxRecDepth 100000
set_option tactic.hygienic false
set_option bootstrap.genMatcherCode false
set_option backward.match.sparseCases false
set_option genSizeOf false
set_option genInjectivity false
set_option maxErrors 1000
local macro_rules | `(tactic|lk)=>`(tactic|kernel_rfl)
namespace Internal
open PySem PySem.W PySem.Calls PyProof.Rows
def ae:= @wpAny_bind
def ai:= @Option.some.inj
def ar:= @wpAny_pure
def a0:= @Eq.trans
def a2:= @Or.elim
def a3:= @Heap.get?_push_of_some
def a4:= @Nat.le_of_ble_eq_true
def a5:= @Nat.le_trans
def a6:= @Heap.get?_push_size
def ea:= @wpAny_mono
def eb:= @if_pos
def ec:= @Nat.le_of_eq
def ej:= @Array.length_toList
def en:= @wpAny_holding
def hy:= @List.mem_cons
def hG:= @of_decide_eq_true
def hK:= @List.mem_map
def hL:= @List.all_eq_true
def hO:= @Nat.lt_of_le_of_lt
def hQ:= @congrArg
def hS:= @List.getElem?_eq_getElem
def hW:= @if_neg
def hX:= @Nat.le_refl
def hY:= @Nat.eq_of_beq_eq_true
def ii:= @decide_eq_true
def iv:= @Nat.le_add_right
def ix:= @Nat.zero_le
def i1:= @Nat.succ_le_succ
def i2:= @Nat.le_of_lt_succ
def i5:= @List.map_append
def i6:= @List.length_append
def js:= @Heap.SameBut.update
def ka:= @Nat.lt_irrefl
def ko:= @Heap.get?_update_self
def ks:= @List.map_congr_left
def kv:= @Int.lt_of_le_of_lt
def kV:= @wpAny_standAt
def le:= @decide_eq_false
def li:= @List.length_map
def ln:= @List.filterMap_eq_map'
def lt:= @Array.getElem?_eq_getElem
def lv:= @Nat.le_of_lt
def l3:= @Nat.le_succ_of_le
def l4:= @wpAny_loadPart_at
def mc:= @List.map_map
def md:= @ne_true_of_eq_false
def mi:= @Nat.ne_of_lt
def mm:= @Heap.lt_size
def ms:= @sizeLine_eq
def m1:= @List.lookup_cons
def nf:= @beq_iff_eq
def ni:= @List.nodup_cons
def np:= @List.length_set
def nr:= @Nat.le_add_left
def oc:= @codeAny_mono
def oe:= @F.entry_str_split
def ot:= @List.map_cons
def ov:= @F.excBase_Exception
def ow:= @wpAny_isSubtype_exc
def o2:= @Int.eq_ofNat_of_zero_le
def o3:= @F.slot_str_split
def pa:= @Nat.le_succ
def pb:= @Array.getElem?_toList
def pc:= @List.getElem?_map
def pk:= @Heap.get?_none_of_le
def po:= @wpAny_field
def pv:= @List.getElem?_set_ne
def pB:= @List.getLast?_concat
def p4:= @congrFun
def p5:= @List.length_take
def p6:= @Classical.byContradiction
def p7:= @List.filterMap_cons_some
def p8:= @F.slot_list_getattribute
def p9:= @List.mem_filter
def qn:= @List.mem_cons_self
def qq:= @wpAny_load
def qs:= @hideAll_get
def qu:= @Value.isInt_shape
def q0:= @wpAny_truthy_bool
def ra:= @List.range_succ_eq_map
def rp:= @wpAny_newObj_type
def rv:= @wpAny_loadPart
def r0:= @List.take_of_length_le
def r6:= @List.forIn_nil
def r8:= @List.length_cons
def r9:= @List.map_fst_zip
def si:= @call_meets
def ss:= @wpAny_call
def sz:= @codeHd_of_K
end Internal
noncomputable section
namespace Internal
theorem bc{p:Prop}(h:¬p->False):p:=p6 h
theorem ag{c:Sort _}{p:c->Prop}{P:Prop}(h:∃i,p i)(k:∀i,p i->P):P:=h.elim k
theorem aq{c:Sort _}{d:Sort _}{p:c->d->Prop}{P:Prop}(h:∃i E,p i E)(k:∀i E,p i E->P):P:=h.elim λx h=>ag h (k x)
theorem a9{c:Sort _}{d:Sort _}{g:Sort _}{p:c->d->g->Prop}{P:Prop}(h:∃i E b,p i E b)(k:∀i E b,p i E b->P):P:=h.elim λx h=>aq h (k x)
theorem bH{c:Sort _}{d:Sort _}{g:Sort _}{l:Sort _}{p:c->d->g->l->Prop}{P:Prop}(h:∃i E b f,p i E b f)(k:∀i E b f,p i E b f->P):P:=h.elim λx h=>a9 h (k x)
theorem hV{c:Sort _}{d:Sort _}{g:Sort _}{l:Sort _}{j:Sort _}{p:c->d->g->l->j->Prop}{P:Prop}(h:∃i E b f n,p i E b f n)(k:∀i E b f n,p i E b f n->P):P:=h.elim λx h=>bH h (k x)
theorem Dk{c:Sort _}{d:Sort _}{g:Sort _}{l:Sort _}{j:Sort _}{m:Sort _}{p:c->d->g->l->j->m->Prop}{P:Prop}(h:∃i E b f n r,p i E b f n r)(k:∀i E b f n r,p i E b f n r->P):P:=h.elim λx h=>hV h (k x)
theorem my{c:Sort _}{d:Sort _}{g:Sort _}{l:Sort _}{j:Sort _}{m:Sort _}{o:Sort _}{p:c->d->g->l->j->m->o->Prop}{P:Prop}(h:∃i E b f n r q,p i E b f n r q)(k:∀i E b f n r q,p i E b f n r q->P):P:=h.elim λx h=>Dk h (k x)
theorem ac{p1 p2 P:Prop}(h:p1/\p2)(k:p1->p2->P):P:=k h.1 h.2
theorem aw{p1 p2 p3 P:Prop}(h:p1/\p2/\p3)(k:p1->p2->p3->P):P:=ac h.2 (k h.1)
theorem bK{p1 p2 p3 j P:Prop}(h:p1/\p2/\p3/\j)(k:p1->p2->p3->j->P):P:=aw h.2 (k h.1)
theorem bS{p1 p2 p3 j H P:Prop}(h:p1/\p2/\p3/\j/\H)(k:p1->p2->p3->j->H->P):P:=bK h.2 (k h.1)
theorem db{p1 p2 p3 j H m P:Prop}(h:p1/\p2/\p3/\j/\H/\m)(k:p1->p2->p3->j->H->m->P):P:=bS h.2 (k h.1)
theorem mz{p1 p2 p3 j H m f P:Prop}(h:p1/\p2/\p3/\j/\H/\m/\f)(k:p1->p2->p3->j->H->m->f->P):P:=db h.2 (k h.1)
theorem wx{p1 p2 p3 j H m f b P:Prop}(h:p1/\p2/\p3/\j/\H/\m/\f/\b)(k:p1->p2->p3->j->H->m->f->b->P):P:=mz h.2 (k h.1)
theorem Dl{p1 p2 p3 j H m f b c P:Prop}(h:p1/\p2/\p3/\j/\H/\m/\f/\b/\c)(k:p1->p2->p3->j->H->m->f->b->c->P):P:=wx h.2 (k h.1)
theorem Dm{p1 p2 p3 j H m f b c d P:Prop}(h:p1/\p2/\p3/\j/\H/\m/\f/\b/\c/\d)(k:p1->p2->p3->j->H->m->f->b->c->d->P):P:=Dl h.2 (k h.1)
theorem al{c:Sort _}{p1 p2:c->Prop}{P:Prop}(h:∃i,p1 i/\p2 i)(k:∀i,p1 i->p2 i->P):P:=ag h λi h=>ac h (k i)
theorem cD{c:Sort _}{p1 p2 p3:c->Prop}{P:Prop}(h:∃i,p1 i/\p2 i/\p3 i)(k:∀i,p1 i->p2 i->p3 i->P):P:=ag h λi h=>aw h (k i)
theorem cS{c:Sort _}{d:Sort _}{p1 p2:c->d->Prop}{P:Prop}(h:∃i E,p1 i E/\p2 i E)(k:∀i E,p1 i E->p2 i E->P):P:=aq h λi E h=>ac h (k i E)
theorem b9{c:Sort _}{d:Sort _}{p1 p2 p3:c->d->Prop}{P:Prop}(h:∃i E,p1 i E/\p2 i E/\p3 i E)(k:∀i E,p1 i E->p2 i E->p3 i E->P):P:=aq h λi E h=>aw h (k i E)
theorem mA{c:Sort _}{d:Sort _}{p1 p2 p3 j:c->d->Prop}{P:Prop}(h:∃i E,p1 i E/\p2 i E/\p3 i E/\j i E)(k:∀i E,p1 i E->p2 i E->p3 i E->j i E->P):P:=aq h λi E h=>bK h (k i E)
theorem ls{c:Sort _}{d:Sort _}{p1 p2 p3 j H:c->d->Prop}{P:Prop}(h:∃i E,p1 i E/\p2 i E/\p3 i E/\j i E/\H i E)(k:∀i E,p1 i E->p2 i E->p3 i E->j i E->H i E->P):P:=aq h λi E h=>bS h (k i E)
theorem hZ{c:Sort _}{d:Sort _}{p1 p2 p3 j H m:c->d->Prop}{P:Prop}(h:∃i E,p1 i E/\p2 i E/\p3 i E/\j i E/\H i E/\m i E)(k:∀i E,p1 i E->p2 i E->p3 i E->j i E->H i E->m i E->P):P:=aq h λi E h=>db h (k i E)
theorem jZ{c:Sort _}{d:Sort _}{p1 p2 p3 j H m f:c->d->Prop}{P:Prop}(h:∃i E,p1 i E/\p2 i E/\p3 i E/\j i E/\H i E/\m i E/\f i E)(k:∀i E,p1 i E->p2 i E->p3 i E->j i E->H i E->m i E->f i E->P):P:=aq h λi E h=>mz h (k i E)
theorem dZ{c:Sort _}{d:Sort _}{g:Sort _}{p1 p2:c->d->g->Prop}{P:Prop}(h:∃i E b,p1 i E b/\p2 i E b)(k:∀i E b,p1 i E b->p2 i E b->P):P:=a9 h λi E b h=>ac h (k i E b)
theorem h8{c:Sort _}{d:Sort _}{g:Sort _}{p1 p2 p3:c->d->g->Prop}{P:Prop}(h:∃i E b,p1 i E b/\p2 i E b/\p3 i E b)(k:∀i E b,p1 i E b->p2 i E b->p3 i E b->P):P:=a9 h λi E b h=>aw h (k i E b)
theorem ch{c:Sort _}{d:Sort _}{g:Sort _}{p1 p2 p3 j:c->d->g->Prop}{P:Prop}(h:∃i E b,p1 i E b/\p2 i E b/\p3 i E b/\j i E b)(k:∀i E b,p1 i E b->p2 i E b->p3 i E b->j i E b->P):P:=a9 h λi E b h=>bK h (k i E b)
theorem dm{c:Sort _}{d:Sort _}{g:Sort _}{p1 p2 p3 j H:c->d->g->Prop}{P:Prop}(h:∃i E b,p1 i E b/\p2 i E b/\p3 i E b/\j i E b/\H i E b)(k:∀i E b,p1 i E b->p2 i E b->p3 i E b->j i E b->H i E b->P):P:=a9 h λi E b h=>bS h (k i E b)
theorem sQ{c:Sort _}{d:Sort _}{g:Sort _}{p1 p2 p3 j H m:c->d->g->Prop}{P:Prop}(h:∃i E b,p1 i E b/\p2 i E b/\p3 i E b/\j i E b/\H i E b/\m i E b)(k:∀i E b,p1 i E b->p2 i E b->p3 i E b->j i E b->H i E b->m i E b->P):P:=a9 h λi E b h=>db h (k i E b)
theorem cT{c:Sort _}{d:Sort _}{g:Sort _}{l:Sort _}{p1 p2:c->d->g->l->Prop}{P:Prop}(h:∃i E b f,p1 i E b f/\p2 i E b f)(k:∀i E b f,p1 i E b f->p2 i E b f->P):P:=bH h λi E b f h=>ac h (k i E b f)
theorem n0{c:Sort _}{d:Sort _}{g:Sort _}{l:Sort _}{p1 p2 p3 j H:c->d->g->l->Prop}{P:Prop}(h:∃i E b f,p1 i E b f/\p2 i E b f/\p3 i E b f/\j i E b f/\H i E b f)(k:∀i E b f,p1 i E b f->p2 i E b f->p3 i E b f->j i E b f->H i E b f->P):P:=bH h λi E b f h=>bS h (k i E b f)
theorem sR{c:Sort _}{d:Sort _}{g:Sort _}{l:Sort _}{p1 p2 p3 j H m:c->d->g->l->Prop}{P:Prop}(h:∃i E b f,p1 i E b f/\p2 i E b f/\p3 i E b f/\j i E b f/\H i E b f/\m i E b f)(k:∀i E b f,p1 i E b f->p2 i E b f->p3 i E b f->j i E b f->H i E b f->m i E b f->P):P:=bH h λi E b f h=>db h (k i E b f)
end Internal
theorem Internal.okp{α β:Type}{a b:α}{O M:β}{c:Type}(h:some (Except.ok (ε:=c) a,O)=some (Except.ok b,M)):a=b/\O=M:=by cases h;exact⟨rfl,rfl⟩
theorem Internal.eop{α β:Type}{a:α}{c:Type}{b:c}{O M:β}{P:Prop}(h:some (Except.error (α:=c) a,O)=some (Except.ok b,M)):P:=by cases h
theorem Internal.oep{α β:Type}{a:α}{c:Type}{b:c}{O M:β}{P:Prop}(h:some (Except.ok b,O)=some (Except.error (α:=c) a,M)):P:=by cases h
theorem Internal.oke{α:Type}{a b:α}{c:Type}(h:(Except.ok (ε:=c) a)=Except.ok b):a=b:=by cases h;rfl
theorem Internal.ere{α:Type}{a b:α}{c:Type}(h:(Except.error (α:=c) a)=Except.error b):a=b:=by cases h;rfl
theorem Internal.eoe{α:Type}{a:α}{c:Type}{b:c}{P:Prop}(h:Except.error (α:=c) a=Except.ok b):P:=by cases h
theorem Internal.oee{α:Type}{a:α}{c:Type}{b:c}{P:Prop}(h:Except.ok b=Except.error (α:=c) a):P:=by cases h
theorem Internal.nso{α:Type}{a:α}{P:Prop}(h:none=some a):P:=by cases h
theorem Internal.sno{α:Type}{a:α}{P:Prop}(h:some a=none):P:=by cases h
theorem Internal.tff{P:Prop}(h:true=false):P:=by cases h
theorem Internal.ftf{P:Prop}(h:false=true):P:=by cases h
theorem Internal.pri{α β:Type}{a b:α}{c d:β}(h:(a,c)=(b,d)):a=b/\c=d:=by cases h;exact⟨rfl,rfl⟩
end
noncomputable section
@[elab_as_elim] theorem Internal.rwm{α:Sort _}(a:α){b:α}{P:α->Prop}(k:P b)(h:a=b):P a:=h▸k
@[elab_as_elim] theorem Internal.rwl{α:Sort _}(a:α){b:α}{P:α->Prop}(k:P b)(h:b=a):P a:=h▸k
namespace Internal
section
theorem lB{a n m:Nat}(h:a<=n)(k:Nat.ble n m=true):a<=m:=a5 h (a4 k)
theorem lC{a n m:Nat}(h:a<=n)(k:Nat.ble (n+1) m=true):a<m:=hO h (a4 k)
theorem mC{a:Int}{n:Nat}(h:0<=a)(k:a<(n:Int)):a.natAbs<n:=Int.ofNat_lt.mp (by rw[Int.natAbs_of_nonneg h];exact k)
theorem pP{a:Int}{n:Nat}(h:0<=a)(k:a<(n:Int)):a.toNat<n:=(Int.toNat_lt h).mpr k
theorem pQ(n:Nat):(10:Int)<=10+3*(n:Int):=Int.le_add_of_nonneg_right (Int.mul_nonneg (by decide) (Int.natCast_nonneg n))
theorem n9{b n:Nat}{k:Int}(h:b<=n)(hk:10+3*(n:Int)<=k):10<=10+3*(b:Int)/\10+3*(b:Int)<=k:=⟨pQ b,Int.le_trans (Int.add_le_add_left (Int.mul_le_mul_of_nonneg_left (Int.ofNat_le.mpr h) (by decide)) 10) hk⟩
theorem wz{a b:Nat}(h:10+3*(a:Int)=10+3*(b:Int)):a=b:=Int.ofNat.inj (Int.eq_of_mul_eq_mul_left (by decide:(3:Int)≠0) (Int.add_left_cancel h))
theorem wA{n:Nat}(h:10+3*(n:Int)=1):False:=absurd (h▸pQ n) (by decide)
theorem wB{b c d e f m:Nat}(h:b<=c+d+e+m*f)(k:d+e<=m):b<=c+m*(f+1):=a5 h (by rw[Nat.mul_succ,Nat.add_comm (m*f),<-Nat.add_assoc,Nat.add_assoc c d e];exact Nat.add_le_add_right (Nat.add_le_add_left k c) _)
theorem lu{n a:Nat}{P:Prop}(h:n<=a)(k:n+1<=a->P):a=n\/P:=(Nat.eq_or_lt_of_le h).imp Eq.symm k
theorem oa{k n a:Nat}(h:n<=a)(q:k<n):¬k=a:=mi (Nat.lt_of_lt_of_le q h)
variable {a b c d e f g:Nat}{i j k:Int}
theorem Dn(h0:a<100):a<1000:=lB h0 rfl
theorem Do(h0:a<=5):a<100:=lC h0 rfl
theorem pR(h0:(a+(b+1))<100):a<100:=hO (iv _ _) h0
theorem sT(h0:((10:Int)<=i/\i<=31)):((0:Int)<=i/\i<=31):=⟨Int.le_trans (by decide) h0.1,h0.2⟩
theorem sU(h0:(a+(b+1))<=5):a<100:=lC (a5 (iv _ _) h0) rfl
theorem sV(h0:a<=2):(a=0\/(a=1\/a=2)):=lu (ix a) λh=>lu h λh=>Nat.le_antisymm h0 h
theorem sW(h0:((10:Int)<=i/\i<=19)):((10:Int)<=i/\i<=31):=⟨h0.1,Int.le_trans h0.2 (by decide)⟩
theorem sX(h0:((0:Int)<=i/\i<=31)):i.natAbs<1000000:=mC h0.1 (kv h0.2 (by decide))
theorem wC(h0:((10:Int)<=i/\i<=31)):i.natAbs<1000000:=mC (Int.le_trans (by decide) h0.1) (kv h0.2 (by decide))
theorem wD(h0:a<5):((0:Int)<=(10+(3*(a:Int)))/\(10+(3*(a:Int)))<=31):=⟨Int.le_trans (by decide) (pQ a),(n9 (i2 h0) (by decide)).2⟩
theorem Dp(h0:a<5):a<6:=l3 h0
theorem Dq(h0:a<2):a<5:=lB h0 rfl
theorem Dr(h0:a=b)(h1:c<b):c<a:=h0▸h1
theorem Ds(h0:a=b)(h1:a=c)(h2:d<b):d<c:=by rw[<-h1,h0];exact h2
theorem wE(h0:a<=4):((0:Int)<=(a:Int)/\(a:Int)<=31):=⟨Int.natCast_nonneg _,Int.le_trans (Int.ofNat_le.mpr h0) (by decide)⟩
theorem wF(h0:a<=10)(h1:b=5)(h2:c=7):((b+a)+c)<=1000:=a5 (Nat.add_le_add (Nat.add_le_add (ec h1) h0) (ec h2)) (a4 rfl)
theorem wG(h0:((a+1)+(2*b))<=998):a<1000:=hO (a5 (a5 (iv _ _) (iv _ _)) h0) (a4 rfl)
theorem wH(h0:((23:Int)<=i/\i<=31)):((0:Int)<=i/\i<=31):=⟨Int.le_trans (by decide) h0.1,h0.2⟩
theorem wI(h0:((23:Int)<=i/\i<=31)):i.natAbs<1000000:=mC (Int.le_trans (by decide) h0.1) (kv h0.2 (by decide))
theorem wJ(h0:((23:Int)<=i/\i<=31)):(((i - 23):Int).toNat)<9:=pP (Int.sub_nonneg_of_le h0.1) (kv (Int.sub_le_sub_right h0.2 23) (by decide))
theorem wK(h0:((23:Int)<=i/\i<=31)):i=(23+(((((i - 23):Int).toNat):Nat):Int)):=((hQ (23+·) (Int.toNat_of_nonneg (Int.sub_nonneg_of_le h0.1))).trans ((Int.add_comm _ _).trans (Int.sub_add_cancel i 23))).symm
theorem wM(h0:((10:Int)<=i/\i<=19)):((0:Int)<=i/\i<=31):=⟨Int.le_trans (by decide) h0.1,Int.le_trans h0.2 (by decide)⟩
theorem wO(h0:(a+(b+1))=c):a<c:=h0▸Nat.lt_add_of_pos_right (Nat.succ_pos _)
theorem wQ(h0:a=(b - c))(h1:c<b):(b - (c+1))<a:=h0▸Nat.sub_lt_sub_left h1 (Nat.lt_succ_self c)
theorem Dt(h0:a<=4)(h1:b<=(2*4)):((0:Int)<=((4+(3*(a:Int)))+(b:Int))/\((4+(3*(a:Int)))+(b:Int))<800):=⟨Int.add_nonneg (Int.add_nonneg (by decide) (Int.mul_nonneg (by decide) (Int.natCast_nonneg a))) (Int.natCast_nonneg b),kv (Int.add_le_add (Int.add_le_add_left (Int.mul_le_mul_of_nonneg_left (Int.ofNat_le.mpr h0) (by decide)) 4) (Int.ofNat_le.mpr h1)) (by decide)⟩
theorem Du(h0:((0:Int)<=i/\i<900)):((0:Int)<=i/\i<1000):=⟨h0.1,Int.lt_trans h0.2 (by decide)⟩
theorem Dv(h0:((0:Int)<=i/\i<9)):((23:Int)<=(23+i)/\(23+i)<=31):=⟨Int.le_add_of_nonneg_right h0.1,Int.le_trans (Int.add_le_add_left (Int.le_of_lt_add_one (show i<8+1 from h0.2)) 23) (by decide)⟩
theorem Dw(h0:a<b):(10+(3*(a:Int)))<=(10+(3*(b:Int))):=Int.add_le_add_left (Int.mul_le_mul_of_nonneg_left (Int.ofNat_le.mpr (lv h0)) (by decide)) 10
theorem Dx:(1:Int)<=(10+(3*(a:Int))):=Int.le_trans (by decide) (pQ a)
theorem Dy(h0:((23:Int)<=i/\i<=31)):(1:Int)<=i:=Int.le_trans (by decide) h0.1
theorem Dz(h0:((23:Int)<=i/\i<=31))(h1:a<b)(h2:b<=4):(10+(3*(a:Int)))<=i:=Int.le_trans (n9 (i2 (Nat.lt_of_lt_of_le h1 h2)) (by decide:10+3*((3:Nat):Int)<=23)).2 h0.1
theorem DA(h0:a<=4)(h1:b=a):((b+1)+1)<64:=hO (i1 (i1 (a5 (ec h1) h0))) (a4 rfl)
theorem DB(h0:a<=4)(h1:b=a):(b+1)<64:=hO (i1 (a5 (ec h1) h0)) (a4 rfl)
theorem DC(h0:a<=4)(h1:b=a):((b+1)+1)<=1000:=hO (i1 (a5 (ec h1) h0)) (a4 rfl)
theorem DD(h0:a<=100)(h1:b<=(0+(110*a)))(h2:c=16777216):(¬b>c):=Nat.not_lt.mpr (a5 (a5 h1 (a5 (Nat.add_le_add_left (Nat.mul_le_mul_left 110 h0) 0) (a4 rfl))) (ec h2.symm))
theorem Qi(h0:(((((a+1)+1)+1)+1)+1)<=4):False:=Nat.not_succ_le_zero a (Nat.le_of_add_le_add_right (b:=4) h0)
theorem DF(h0:((0:Int)<=i/\i<2))(h1:(¬i=1)):i=0:=Int.le_antisymm (Int.le_of_lt_add_one (show i<0+1 from Int.lt_iff_le_and_ne.mpr ⟨Int.le_of_lt_add_one (show i<1+1 from h0.2),h1⟩)) h0.1
theorem DG(h0:a=b)(h1:b<=2):a<=2:=h0▸h1
theorem DH(h0:(a+1)=(b - c)):c<b:=Nat.lt_of_sub_pos (h0▸Nat.succ_pos a)
theorem DI(h0:a<=b)(h1:(c+1)=(a - d))(h2:e<=d):e<=b:=a5 h2 (a5 (lv (Nat.lt_of_sub_pos (h1▸Nat.succ_pos c))) h0)
theorem DJ(h0:(a+1)=(b - c)):a=(b - (c+1)):=(hQ Nat.pred h0).trans (Nat.sub_add_eq b c 1).symm
theorem DK(h0:((0:Int)<=i/\i<900)):i<1000:=Int.lt_trans h0.2 (by decide)
theorem DL(h0:((0:Int)<=i/\i<900)):(i+1)<1000:=Int.add_lt_add_right h0.2 1|>λh=>Int.lt_trans h (by decide)
theorem DM(h0:a=b)(h1:c=d)(h2:a=c):b=d:=by rw[<-h1,<-h0];exact h2
theorem DN(h0:a=b)(h1:c=d)(h2:(¬a=c)):b≠d:=by rw[<-h1,<-h0];exact h2
theorem DO(h0:a<=b)(h1:b=(c+d))(h2:c=((b - a)+e)):a=(e+d):=Nat.add_left_cancel ((Nat.sub_add_cancel h0).trans (h1.trans ((hQ (·+d) h2).trans (Nat.add_assoc _ _ _))))
theorem DQ(h0:a<=b)(h1:b<=(a+c)):(a+(c - (c - (b - a))))=b:=by rw[Nat.sub_sub_self (Nat.sub_le_iff_le_add'.mpr h1),Nat.add_sub_cancel' h0]
theorem DR(h0:a<b)(h1:i=(10+(3*(a:Int))))(h2:b<=4):((10:Int)<=i/\i<=19):=h1▸n9 (i2 (Nat.lt_of_lt_of_le h0 h2)) (by decide)
theorem DS(h0:i=j)(h1:((23:Int)<=j/\j<=31)):((10:Int)<=i/\i<=31):=h0▸⟨Int.le_trans (by decide) h1.1,h1.2⟩
theorem DT(h0:((0:Int)<=i/\i<900))(h1:a<50)(h2:b<a):((0:Int)<=(i+(b:Int))/\(i+(b:Int))<1000):=⟨Int.add_nonneg h0.1 (Int.natCast_nonneg b),Int.lt_trans (Int.add_lt_add h0.2 (Int.ofNat_lt.mpr (Nat.lt_trans h2 h1))) (by decide)⟩
theorem DU(h0:a<1000)(h1:(a:Int)=(b:Int)):(((b:Int):Int).natAbs)<1000000:=show b<1000000 from Int.ofNat.inj h1▸Nat.lt_of_lt_of_le h0 (a4 rfl)
theorem DV:((a+1)+1)≠a:=Nat.ne_of_gt (Nat.lt_succ_of_le (pa a))
theorem DW(h0:a<=5)(h1:b<=(((c+d)+e)+(35*f)))(h2:g<=30)(h3:e=g)(h4:d=a):b<=(c+(35*(f+1))):=wB h1 (Nat.add_le_add (a5 (ec h4) h0) (a5 (ec h3) h2))
theorem DX(h0:a<=(b+(35*c)))(h1:d<=30)(h2:b=d):a<=(35*(c+1)):=by rw[Nat.mul_succ,Nat.add_comm];exact a5 h0 (Nat.add_le_add_right (a5 (ec h2) (a5 h1 (a4 rfl))) _)
theorem DY(h0:a=4):a<=200:=h0▸(a4 rfl)
theorem wR(h0:((23:Int)<=i/\i<=31))(h1:((10:Int)<=j/\j<=19))(h2:j=i):False:=absurd (Int.le_trans h0.1 (h2▸h1.2)) (by decide)
theorem DZ(h0:((23:Int)<=i/\i<=31))(h1:((10:Int)<=i/\i<=19)):False:=absurd (Int.le_trans h0.1 h1.2) (by decide)
theorem D0(h0:a<=200)(h1:b=1)(h2:c<=30):((a+b)+c)<=1000:=a5 (Nat.add_le_add (Nat.add_le_add h0 (ec h1)) h2) (a4 rfl)
theorem D1(h0:a<=4):(((a:Int):Int).natAbs)<1000000:=show a<1000000 from hO h0 (a4 rfl)
theorem D2(h0:(a+(2*(b+1)))<=998):((a+1)+(2*b))<=998:=a5 (a5 (ec (Nat.add_right_comm a 1 (2*b))) (pa _)) h0
theorem D3(h0:(a+(8*(b+1)))<=9800):((a+3)+(8*b))<=9800:=a5 (a5 (ec (Nat.add_right_comm a 3 (8*b))) (Nat.add_le_add_left (a4 rfl:3<=8) _)) h0
theorem D4(h0:(10+(3*(((0+a):Nat):Int)))=i):i=(10+(3*(a:Int))):=by rw[<-h0,Nat.zero_add]
theorem D5(h0:a<9):(22+a)<=30:=i2 (Nat.lt_of_lt_of_le (Nat.add_lt_add_left h0 _) (a4 rfl))
theorem D6(h0:a<=4)(h1:b<a):((10:Int)<=(10+(3*(b:Int)))/\(10+(3*(b:Int)))<=19):=n9 (i2 (Nat.lt_of_lt_of_le h1 h0)) (by decide)
theorem D7(h0:(23+(a:Int))=1):False:=Nat.ne_of_gt (Nat.lt_of_lt_of_le (a4 rfl:1<23) (iv 23 a)) (Int.ofNat.inj h0)
theorem D8(h0:((10:Int)<=(23+(a:Int))/\(23+(a:Int))<=19)):False:=absurd (Int.le_trans (Int.le_add_of_nonneg_right (Int.natCast_nonneg a)) h0.2:(23:Int)<=19) (by decide)
theorem D9(h0:a<(22+b))(h1:(23+(b:Int))=(1+(a:Int))):False:=mi (Nat.lt_of_lt_of_eq (Nat.add_lt_add_left h0 1) (Nat.add_assoc 1 22 b).symm) (Int.ofNat.inj h1.symm)
theorem Ea:(23+(a:Int))=(1+(((22+a):Nat):Int)):=hQ Int.ofNat (Nat.add_assoc 1 22 a)
theorem Eb(h0:i=(23+(a:Int)))(h1:b<(22+a))(h2:i=(1+(b:Int))):False:=mi (Nat.lt_of_lt_of_eq (Nat.add_lt_add_left h1 1) (Nat.add_assoc 1 22 a).symm) (Int.ofNat.inj (h2.symm.trans h0))
theorem Ec(h0:a<=4)(h1:b<=30):(((a+b)+1)+1)<900:=hO (i1 (i1 (Nat.add_le_add h0 h1))) (a4 rfl)
theorem Ed(h0:a<9):((0:Int)<=(23+(a:Int))/\(23+(a:Int))<=31):=⟨Int.natCast_nonneg (23+a),Int.ofNat_le.mpr (Nat.add_le_add_left (i2 h0) 23)⟩
theorem Ee(h0:((10:Int)<=i/\i<=19))(h1:j=(23+(a:Int))):i≠j:=λh=>absurd (Int.le_trans (Int.le_add_of_nonneg_right (Int.natCast_nonneg a)) ((h.trans h1)▸h0.2:23+(a:Int)<=19)) (by decide)
theorem Ef(h0:a=6):(0:Nat)<a:=h0▸(a4 rfl)
theorem Eg(h0:((10:Int)<=i/\i<=19)):i.natAbs<1000000:=mC (Int.le_trans (by decide) h0.1) (kv h0.2 (by decide))
theorem Eh(h0:(0:Int)<=i)(h1:i<1000):i.natAbs<(2^10):=Nat.lt_of_lt_of_le (mC (n:=1000) h0 h1) (a4 rfl)
theorem Ej(h0:(0:Int)<i)(h1:i<=50)(h2:a<=i.natAbs):((a/30)+1)<=300:=i1 (a5 (Nat.div_le_self a 30) (a5 h2 (lv (mC (n:=299) (Int.le_of_lt h0) (kv h1 (by decide))))))
theorem Ek:(0:Int)<=7:=by decide
theorem El:(7:Int)<1000:=by decide
theorem Em:(¬(2:Int)=0):=by decide
theorem En(h0:a<=b)(h1:(c+(2*b))<=998):(c+(2*a))<=998:=a5 (Nat.add_le_add_left (Nat.mul_le_mul_left 2 h0) c) h1
theorem Eo(h0:a<=b)(h1:(c+(8*b))<=9800):(c+(8*a))<=9800:=a5 (Nat.add_le_add_left (Nat.mul_le_mul_left 8 h0) c) h1
theorem Er(h0:(a+(2*(b+1)))<=998):(((a+1)+1)+(2*b))<=998:=a5 (ec (Nat.add_right_comm a 2 (2*b))) h0
theorem Es(h0:(a+(8*(b+1)))<=9800):(((a+1)+3)+(8*b))<=9800:=a5 (a5 (ec (Nat.add_right_comm a 4 (8*b))) (Nat.add_le_add_left (a4 rfl:4<=8) _)) h0
theorem Et(h0:(a+(b+1))<=c):((a+1)+b)<=c:=ec (Nat.add_right_comm _ _ _)|>λh=>a5 h h0
theorem Eu:(0+a)<=a:=ec (Nat.zero_add a)
theorem Ev(h0:a<64)(h1:a=b):b<=16777216:=h1▸a5 (lv h0) (a4 rfl)
theorem Ew(h0:a<64)(h1:a=b)(h2:c=b):c<64:=(h2.trans h1.symm).symm▸h0
theorem Ex:(((0:Int)<=((-1)+((a:Int)+1))/\((-1)+((a:Int)+1))<((a:Int)+1))/\((((-1)+((a:Int)+1)):Int).toNat)=a):=by rw[Int.add_comm (-1),Int.add_neg_cancel_right];exact⟨⟨Int.natCast_nonneg a,Int.lt_add_one_of_le (Int.le_refl _)⟩,rfl⟩
theorem Ey(h0:(5:Nat)<=a):((¬(0:Nat)=a)/\((¬(1:Nat)=a)/\((¬(2:Nat)=a)/\((¬(3:Nat)=a)/\(¬(4:Nat)=a))))):=⟨oa h0 (by decide),oa h0 (by decide),oa h0 (by decide),oa h0 (by decide),oa h0 (by decide)⟩
theorem Ez(h0:a<6):(a=0\/(a=1\/(a=2\/(a=3\/(a=4\/a=5))))):=lu (ix a) λh=>lu h λh=>lu h λh=>lu h λh=>lu h λh=>Nat.le_antisymm (i2 h0) h
theorem EA:(0:Nat)≠(5+a):=mi (Nat.lt_of_lt_of_le (a4 rfl:0<5) (iv 5 a))
theorem EB(h0:((0:Int)<=i/\i<800)):i<1000:=Int.lt_trans h0.2 (by decide)
theorem EC(h0:i.toNat<5)(h1:i.toNat=(a+(b+1))):a<5:=hO (a5 (iv a _) (ec h1.symm)) h0
theorem wS(h0:((0:Int)<=i/\i<800))(h1:a<5):((0:Int)<=((i+1)+(2*(a:Int)))/\((i+1)+(2*(a:Int)))<900):=⟨Int.add_nonneg (Int.le_add_one h0.1) (Int.mul_nonneg (by decide) (Int.natCast_nonneg a)),Int.lt_of_lt_of_le (Int.add_lt_add (Int.add_lt_add_right h0.2 1) (Int.mul_lt_mul_of_pos_left (Int.ofNat_lt.mpr h1) (by decide))) (by decide)⟩
theorem ED:((((i+1)+(2*(a:Int)))+1)+1)=((i+1)+(2*((a:Int)+1))):=(Int.add_assoc (i+1+2*(a:Int)) 1 1).trans ((Int.add_assoc (i+1) (2*(a:Int)) (1+1)).trans (hQ (i+1+·) (Int.mul_add 2 (a:Int) 1).symm))
theorem EE(h0:a=b)(h1:(((0:Int)<=i/\i<(a:Int))/\i<(2^63))):i<(b:Int):=h0▸h1.1.2
theorem EF(h0:a<=b)(h1:b<=c)(h2:d=a):d<=c:=h2▸a5 h0 h1
theorem EG(h0:a<=b)(h1:c=(a+1))(h2:d=(b+1)):c<=d:=a5 (ec h1) (a5 (i1 h0) (ec h2.symm))
theorem EH(h0:(a+(b+1))<=1000):((a+1)+b)<=1000:=ec (Nat.add_right_comm _ _ _)|>λh=>a5 h h0
theorem EI:(max 0 (min 50 (a:Int)))=(((min 50 a):Nat):Int):=(Nat.le_total 50 a).elim (λh=>by rw[Nat.min_eq_left h,show min (50:Int) (a:Int)=50 from Int.min_eq_left (Int.ofNat_le.mpr h)];rfl) λh=>by rw[Nat.min_eq_right h,show min (50:Int) (a:Int)=a from Int.min_eq_right (Int.ofNat_le.mpr h)];exact Int.max_eq_right (Int.natCast_nonneg _)
theorem EJ:(0+((min 50 a) - 0))<=a:=a5 (ec (Nat.zero_add (min 50 a))) (Nat.min_le_right 50 a)
theorem EK:((i+1)+(a:Int))=(i+((a:Int)+1)):=(Int.add_assoc i 1 a).trans (hQ (i+·) (Int.add_comm 1 (a:Int)))
theorem EL(h0:((0:Int)<=(i+(a:Int))/\(i+(a:Int))<(a:Int))):(-(a:Int))<=i:=Int.le_of_sub_nonneg (by rw[Int.sub_neg];exact h0.1)
theorem EM(h0:a=b)(h1:a<=c):b<=c:=h0▸h1
theorem EN(h0:a=6):(1:Nat)<a:=h0▸(a4 rfl)
theorem EO:(3:Nat)<((((((0+1)+1)+1)+1)+1)+a):=Nat.lt_of_lt_of_le (a4 rfl:3<5) (iv 5 a)
theorem EP(h0:(¬((63:Nat):Int)<(a:Int))):a<=63:=Nat.not_lt.mp λh=>h0 (Int.ofNat_lt.mpr h)
theorem wT(h0:a<=900)(h1:b<=(a+1)):b<=(16777216+1):=a5 h1 (a5 (i1 h0) (a4 rfl))
theorem EQ(h0:(a=0\/a=1))(h1:(a=2/\i=j)):False:=h0.elim (λh=>absurd (h.symm.trans h1.1) (by decide)) λh=>absurd (h.symm.trans h1.1) (by decide)
theorem ES(h0:a<=16777216):(a:Int)<(2^63):=kv (Int.ofNat_le.mpr h0) (by decide)
theorem ET(h0:a<=2)(h1:a=(((b+1)+1)+1)):(((b+1)+1)+1)=2:=(Nat.not_succ_le_zero b (Nat.le_of_succ_le_succ (Nat.le_of_succ_le_succ (h1▸h0:b+1+1+1<=0+1+1)))).elim
theorem EU(h0:((a=1/\b=0)\/((a=2/\b=0)\/((a=2/\b=1)\/((a=3/\b=0)\/((a=3/\b=1)\/((a=3/\b=2)\/((a=4/\b=0)\/((a=4/\b=1)\/((a=4/\b=2)\/(a=4/\b=3))))))))))):b<4:=by rcases h0 with⟨_,h⟩|⟨_,h⟩|⟨_,h⟩|⟨_,h⟩|⟨_,h⟩|⟨_,h⟩|⟨_,h⟩|⟨_,h⟩|⟨_,h⟩|⟨_,h⟩<;>exact h▸(a4 rfl)
theorem EV(h0:a<4)(h1:(b=2/\(10+(3*(a:Int)))=i))(h2:((23:Int)<=i/\i<=31)):False:=absurd (Int.le_trans h2.1 (h1.2▸(n9 (i2 h0) (by decide:10+3*((3:Nat):Int)<=19)).2)) (by decide)
theorem EW:(((((10+(3*(a:Int))) - 10):Int).toNat)/3)=a:=by rw[Int.add_comm 10,Int.add_sub_cancel];exact Nat.mul_div_cancel_left a (by decide:0<3)
theorem EY(h0:((0:Int)<=i/\i<256)):(¬i<0):=Int.not_lt.mpr h0.1
theorem EZ(h0:((0:Int)<=i/\i<256)):(¬i>1114111):=Int.not_lt.mpr (Int.le_trans (Int.le_of_lt h0.2) (by decide))
theorem E1(h0:a<=10)(h1:b=10)(h2:c=10):((b+a)+c)<=1000:=a5 (Nat.add_le_add (Nat.add_le_add (ec h1) h0) (ec h2)) (a4 rfl)
end
end Internal
end
noncomputable section
namespace Internal
open PySem PySem.W PySem.Calls PyProof.Rows
noncomputable abbrev PW:Program:=PySem.Challenge.pw_pb0493_01
def at_(i:Nat):Stmt:=(PW.main.body[i]?).getD (.Pass ⟨0,0,0,0⟩)
def bf(i j:Nat):Stmt:=match at_ i with
 | .ClassDef _ _ _ b .. =>(b[j]?).getD (.Pass ⟨0,0,0,0⟩)
 |s=>s
noncomputable def og{α:Type}(d:α)(f:Str->Arguments->List Stmt->Scope->Pos->α):Stmt->α
 | .FunctionDef n a b _ _ _ sc _ _ p=>f n a b sc p
 |_=>d
def oh:Stmt->Str:=og ⟨#[]⟩ λn _ _ _ _=>n
def fg:Stmt->Arguments:=og ⟨[],[],none,[],[],none,[]⟩ λ_ a _ _ _=>a
def ba:Stmt->List Stmt:=og [] λ_ _ b _ _=>b
def aV:Stmt->Scope:=og ⟨.function,[],false,false,[]⟩ λ_ _ _ c _=>c
noncomputable abbrev S(s:String):Str:=Str.ofString s
abbrev sY(s:Stmt)(q:Str)(d k doc pm c6 f:Value)(g b:Nat):FuncData:=
 {name:=oh s,qualname:=q,params:=fg s,body:= .stmts (ba s),scope:=aV s,globals:=g,closure:=[],defaults:=d,kwdefaults:=k,doc:=doc,pyModule:=pm,annotations:=none,code:=c6,closureTuple:=f,builtins:=b}
def kS(s:String)(t:Nat):Value:= .str (S s) t
noncomputable def kN:Nat->List String->List Value
 |_,[]=>[]
 |t,s::l=>kS s t::kN (t+1) l
noncomputable def kt(a:Nat)(l:List Value):Addr×Obj:=(a,⟨.type "tuple",none,.seq l.toArray 0,#[]⟩)
noncomputable def kg(a:Nat)(c:String)(l:List Value):Addr×Obj:=(a,⟨.type c,none,.fields l.toArray,#[]⟩)
def j0(a t c:Nat):Addr×Obj:=kg a "getset_descriptor" [kS "__dict__" t,.ref c,.builtin "function.__dict__",.builtin "function.__dict__#set"]
def kw(a t c:Nat):Addr×Obj:=kg a "getset_descriptor" [kS "__weakref__" t,.ref c,.builtin "ExceptionGroup.__weakref__",.none]
noncomputable abbrev DE:=String×Nat×Value
def ke(P:Params)(e:DE):DictEntry:=⟨PyData.keyHash P (S e.1),.str (S e.1) e.2.1,e.2.2⟩
noncomputable def kr(x:String)(t r:Nat):DE:=(x,t,.ref r)
def kD(P:Params)(a:Nat)(c:Value)(l:List DE)(n:Nat):Addr×Obj:=(a,⟨c,none,.dict (l.map (ke P)).toArray n,#[]⟩)
def kC(a:Nat)(n:String)(H c sub:List Value)(x:Option Value)(t u:Nat)(b:String):Addr×Obj:=
 (a,⟨.type "type",none,.cls {name:=S n,bases:=H,mro:= .ref a::c,ns:=a - 1,qualname:=S n,hasDict:=true,slotNames:=[],subclasses:=sub,abstract:=false,collection:=none,hasDel:=false},[x,none,some (kS n t),some (kS n u),some (.builtin (b++".__new__")),some (.bool true)].toArray⟩)
structure KR where
 b:Nat
 t:Nat
 q:String
 s:Stmt
 d:Nat
 m:Value
 n:List String
 c:List String
noncomputable def KR.by{α:Type}(r:KR)(x y:α):α:=match r.n with
 |[]=>x
 |_::_=>y
def KR.a(r:KR):Nat:=r.by (r.b+4) (r.b+6)
noncomputable def KR.dv(r:KR):Value:=cond (Nat.beq r.d 0) .none (.ref r.d)
noncomputable def wU:String:="/claim/cut.py"
noncomputable def kz:Value:= .int 0 0
noncomputable def ki(n:Nat):Value:= .int n 0
def KR.code(r:KR)(a:Nat)(x y:Value):Addr×Obj:=
 let u:=r.t+3+(r.n.length+r.c.length)
 let I:=ki (og 0 (λ_ _ _ _ p=>p.line) r.s)
 kg a "code" [.str (oh r.s) r.t,kS r.q (r.t+1),kS wU (r.t+2),I,ki (fg r.s).args.length,kz,kz,.int 3 0,.ref r.b,.bool true,.int 181 0,.ref (r.b+1),.none,x,y,.ref (a - 1),ki u,I,kS wU (u+1)]
def KR.objs(r:KR):Frag:=
 let f:Addr×Obj:=(r.a,⟨.type "function",none,.func (sY r.s (S r.q) r.dv .none .none r.m (.ref (r.a - 1)) .none 3 0),#[]⟩)
 let e:=kt r.b []
 r.by [e,r.code (r.b+3) .none .none,f]
  [e,kt (r.b+2) (kN (r.t+3) r.n),kt (r.b+3) (kN (r.t+3+r.n.length) r.c),r.code (r.b+5) (.ref (r.b+2)) (.ref (r.b+3)),f]
def KR.keys(r:KR):List Addr:=r.by [r.b,r.b+3,r.b+4] [r.b,r.b+2,r.b+3,r.b+5,r.b+6]
def wV:List DE:=[("__name__",165,(kS "law_pb0493_01" 1013)),("__doc__",166,.none),("__package__",167,.none),("__loader__",168,(.builtin "__main__.__loader__#opaque")),("__spec__",169,.none),kr "__annotations__" 170 6,kr "__builtins__" 171 4,("__file__",173,(kS "/claim/cut.py" 172)),("__cached__",174,.none),kr "_wall" 193 21,kr "PaperError" 235 46,kr "DraftFault" 251 59,kr "DeskFault" 267 71,("MOST_FIGURES_OF_LINES",271,(.int 9 270)),kr "Bench" 304 90,kr "bench_turned" 312 101,kr "line_octets" 318 106,kr "octets_line" 324 111,kr "first_word" 332 118,kr "whole_in" 338 123,kr "numbers_in" 344 128,kr "Decimal" 460 222,kr "sign_text" 467 233,("MOST_HOPS",471,(.int 30 470)),kr "Name" 500 250,kr "String" 531 272,kr "Stream" 562 293,kr "Reference" 600 321,kr "kind_of" 607 332,kr "told_plain" 615 339,kr "told" 621 344,kr "told_objects" 622 344,kr "copied" 628 349,kr "Lookup" 680 381,kr "Shelf" 744 435,kr "shelf_copied" 755 444,kr "word_at" 768 451,kr "items_at" 778 458,kr "is_group" 787 465,kr "groups_in" 797 472,kr "layer_head" 805 479,kr "group_numbers" 812 486,kr "group_label" 822 493,kr "purposes" 828 498,kr "Configuration" 869 515,kr "configuration_of" 875 524,kr "configuration" 883 530,kr "starting_states" 896 538,kr "switched" 909 545,kr "put_layer_head" 919 552,kr "put_states" 925 557,kr "put_group" 937 564,("NOTHING",941,(kS "none" 940)),kr "rows_text" 948 571,kr "copy_changed" 957 578,kr "copy_grown" 963 583,kr "layer_states" 969 588,kr "layers_text" 980 595,kr "switch_told" 991 602,kr "keep_laid" 1001 609,kr "layer_laid" 1012 616,kr "_law_labels" 1020 617,kr "_law_draw" 1030 624,kr "_law_some" 1036 629,kr "_law_refs" 1042 634,kr "_law_document" 1048 639,kr "_law_started" 1054 644,kr "_law_text" 1060 649,kr "_law_switched" 1073 656,kr "_law_fault" 1080 663,kr "law" 1102 670]
def E2:Value:=kS "__main__" 164
def wW:Value:=kS "paperhold.errors" 194
def lw:Value:=kS "paperhold.desk" 268
def gb:Value:=kS "paperhold.decimals" 345
def d0:Value:=kS "paperhold.objects" 468
def eO:Value:=kS "paperhold.layers" 756
def j1:Value:=kS "paperhold.bureau" 938
def jl:Value:=kS "law_pb0493_01" 1013
def pS:List KR:=[⟨15,187,"_wall",at_ 0,0,E2,["k"],[]⟩,
 ⟨30,210,"PaperError.__init__",bf 2 0,29,wW,["self","what","at"],[]⟩,
 ⟨37,219,"PaperError.told",bf 2 1,0,wW,["self"],[]⟩,
 ⟨81,284,"Bench.__init__",bf 7 0,0,lw,["self","data","base","shelf"],[]⟩,
 ⟨95,305,"bench_turned",at_ 8,0,lw,["bench","shelf"],[]⟩,
 ⟨102,313,"line_octets",at_ 9,0,lw,[],[]⟩,
 ⟨107,319,"octets_line",at_ 10,0,lw,[],[]⟩,
 ⟨112,325,"first_word",at_ 11,0,lw,["text","parts"],[]⟩,
 ⟨119,333,"whole_in",at_ 12,0,lw,[],[]⟩,
 ⟨124,339,"numbers_in",at_ 13,0,lw,[],[]⟩,
 ⟨136,359,"Decimal.__init__",bf 15 0,0,gb,["self","top","places"],[]⟩,
 ⟨143,368,"Decimal.plus",bf 15 1,0,gb,["self","other"],[]⟩,
 ⟨150,376,"Decimal.minus",bf 15 2,0,gb,["self","other"],[]⟩,
 ⟨157,384,"Decimal.times",bf 15 3,0,gb,["self","other"],[]⟩,
 ⟨164,392,"Decimal.negated",bf 15 4,0,gb,["self"],[]⟩,
 ⟨171,399,"Decimal.compared",bf 15 5,0,gb,["self","other"],[]⟩,
 ⟨178,407,"Decimal.is_whole",bf 15 6,0,gb,["self"],[]⟩,
 ⟨185,414,"Decimal.floor",bf 15 7,0,gb,["self"],[]⟩,
 ⟨192,421,"Decimal.rounded",bf 15 8,0,gb,["self","places"],[]⟩,
 ⟨199,429,"Decimal.told",bf 15 9,0,gb,["self"],[]⟩,
 ⟨206,436,"Decimal.text",bf 15 10,0,gb,["self","numerals"],[]⟩,
 ⟨213,444,"Decimal.least_text",bf 15 11,0,gb,["self"],[]⟩,
 ⟨227,461,"sign_text",at_ 16,0,gb,["number"],[]⟩,
 ⟨241,484,"Name.__init__",bf 19 0,0,d0,["self","text"],[]⟩,
 ⟨263,513,"String.__init__",bf 20 0,262,d0,["self","octets","is_hex"],[]⟩,
 ⟨284,544,"Stream.__init__",bf 21 0,0,d0,["self","head","octets"],[]⟩,
 ⟨305,575,"Reference.__init__",bf 22 0,0,d0,["self","number","generation"],[]⟩,
 ⟨312,584,"Reference.pair",bf 22 1,0,d0,["self"],[]⟩,
 ⟨326,601,"kind_of",at_ 23,0,d0,["value"],[]⟩,
 ⟨333,608,"told_plain",at_ 24,0,d0,["kind","value"],[]⟩,
 ⟨340,616,"told",at_ 25,0,d0,[],[]⟩,
 ⟨345,623,"copied",at_ 27,0,d0,[],[]⟩,
 ⟨358,641,"Lookup.__init__",bf 28 0,357,d0,["self","table","trailer"],[]⟩,
 ⟨365,650,"Lookup.fetch",bf 28 1,0,d0,["self","value","here","hop","generation","found"],[]⟩,
 ⟨372,662,"Lookup.get",bf 28 2,0,d0,["self","head","key"],[]⟩,
 ⟨393,693,"Shelf.put",bf 29 0,0,d0,["self","number","generation","value"],[]⟩,
 ⟨400,703,"Shelf.add",bf 29 1,0,d0,["self","value","number"],[]⟩,
 ⟨407,712,"Shelf.drop",bf 29 2,0,d0,["self","number"],[]⟩,
 ⟨414,720,"Shelf.numbers",bf 29 3,0,d0,["self"],[]⟩,
 ⟨421,727,"Shelf.root",bf 29 4,0,d0,["self","found"],[]⟩,
 ⟨428,735,"Shelf.told",bf 29 5,0,d0,[],[]⟩,
 ⟨438,745,"shelf_copied",at_ 30,0,d0,["shelf","table","number","generation","value"],[]⟩,
 ⟨445,758,"word_at",at_ 32,0,eO,["shelf","head","key","default","found"],[]⟩,
 ⟨452,769,"items_at",at_ 33,0,eO,["shelf","head","key","found"],[]⟩,
 ⟨459,779,"is_group",at_ 34,0,eO,["shelf","value","found"],[]⟩,
 ⟨466,788,"groups_in",at_ 35,0,eO,["shelf","items","found","item"],[]⟩,
 ⟨473,798,"layer_head",at_ 36,0,eO,["shelf","found"],[]⟩,
 ⟨480,806,"group_numbers",at_ 37,0,eO,["shelf"],[]⟩,
 ⟨487,813,"group_label",at_ 38,0,eO,["shelf","number","head","label"],[]⟩,
 ⟨494,823,"purposes",at_ 39,0,eO,[],[]⟩,
 ⟨506,841,"Configuration.__init__",bf 40 0,0,eO,["self","base","on","off","radio","locked","order","words"],[]⟩,
 ⟨520,870,"configuration_of",at_ 41,0,eO,[],[]⟩,
 ⟨526,878,"configuration",at_ 42,525,eO,[],[]⟩,
 ⟨532,884,"starting_states",at_ 43,531,eO,["numbers","config","before","states","number","listed","is_on"],[]⟩,
 ⟨539,897,"switched",at_ 44,0,eO,["states","config","number","is_on","found","row","other"],[]⟩,
 ⟨546,910,"put_layer_head",at_ 45,0,eO,["shelf","head","root","place"],[]⟩,
 ⟨553,920,"put_states",at_ 46,0,eO,[],[]⟩,
 ⟨558,926,"put_group",at_ 47,0,eO,["shelf","label","head","found","first","place"],[]⟩,
 ⟨565,942,"rows_text",at_ 50,0,j1,["rows"],[]⟩,
 ⟨572,949,"copy_changed",at_ 51,0,j1,["bench","change","shelf"],[]⟩,
 ⟨579,958,"copy_grown",at_ 52,0,j1,[],[]⟩,
 ⟨584,964,"layer_states",at_ 53,0,j1,[],[]⟩,
 ⟨589,970,"layers_text",at_ 54,0,j1,["shelf","kept","states","rows","number"],[]⟩,
 ⟨596,981,"switch_told",at_ 55,0,j1,["shelf","kept","rest","word","way"],[]⟩,
 ⟨603,992,"keep_laid",at_ 56,0,j1,["bench","kept","rest"],["states"]⟩,
 ⟨610,1002,"layer_laid",at_ 57,0,j1,["bench","beyond","rest","fresh"],["label"]⟩,
 ⟨618,1021,"_law_draw",at_ 60,0,jl,["tape","many","cells","at"],[]⟩,
 ⟨625,1031,"_law_some",at_ 61,0,jl,[],[]⟩,
 ⟨630,1037,"_law_refs",at_ 62,0,jl,[],[]⟩,
 ⟨635,1043,"_law_document",at_ 63,0,jl,[],[]⟩,
 ⟨640,1049,"_law_started",at_ 64,0,jl,[],[]⟩,
 ⟨645,1055,"_law_text",at_ 65,0,jl,[],[]⟩,
 ⟨650,1061,"_law_switched",at_ 66,0,jl,["told_of","states","number","is_on","later","row","other"],[]⟩,
 ⟨657,1074,"_law_fault",at_ 67,0,jl,["deed"],[]⟩,
 ⟨664,1081,"law",at_ 68,0,jl,["script","tape","told_of","states","begun","turn","number","way","fresh","answer","grown","row"],["bench","kept","line","shelf"]⟩]
def E3(P:Params):Frag:=[kD P 2 .none [("type.__subclasses__.Exception.0",232,(.int 46 0)),("type.__subclasses__.Exception.n",233,(.int 1 0))] 2,
 kD P 3 (.type "dict") wV 71,
 kt 22 [(.type "Exception")],
 kt 29 [(.int (-1) 209)],
 kt 44 (kN 226 ["at","what"]),
 kD P 45 (.type "dict") [("__module__",203,(kS "paperhold.errors" 194)),("__firstlineno__",207,(.int 5 206)),kr "__init__" 218 36,kr "told" 225 43,kr "__static_attributes__" 228 44,kr "__weakref__" 230 47,("__doc__",231,.none)] 3,
 kC 46 "PaperError" [(.type "Exception")] [(.type "Exception"),(.type "BaseException"),(.type "object")] [(.ref 59),(.ref 71)] (some (.ref 22)) 196 204 "Exception",
 kw 47 229 46,
 kt 50 [(.ref 46)],
 kt 57 [],
 kD P 58 (.type "dict") [("__module__",243,(kS "paperhold.errors" 194)),("__firstlineno__",247,(.int 14 246)),kr "__static_attributes__" 248 57,("__doc__",249,.none)] 2,
 kC 59 "DraftFault" [(.ref 46)] [(.ref 46),(.type "Exception"),(.type "BaseException"),(.type "object")] [] (some (.ref 50)) 236 244 "Exception",
 kt 62 [(.ref 46)],
 kt 69 [],
 kD P 70 (.type "dict") [("__module__",259,(kS "paperhold.errors" 194)),("__firstlineno__",263,(.int 16 262)),kr "__static_attributes__" 264 69,("__doc__",265,.none)] 2,
 kC 71 "DeskFault" [(.ref 46)] [(.ref 46),(.type "Exception"),(.type "BaseException"),(.type "object")] [] (some (.ref 62)) 252 260 "Exception",
 kt 88 (kN 294 ["base","data","shelf"]),
 kD P 89 (.type "dict") [("__module__",279,(kS "paperhold.desk" 268)),("__firstlineno__",283,(.int 20 282)),kr "__init__" 293 87,kr "__static_attributes__" 297 88,kr "__dict__" 299 91,kr "__weakref__" 301 92,("__doc__",302,.none)] 4,
 kC 90 "Bench" [(.type "object")] [(.type "object")] [] none 272 280 "object",
 j0 91 298 90,
 kw 92 300 90,
 kt 220 (kN 451 ["places","top"]),
 kD P 221 (.type "dict") [("__module__",354,(kS "paperhold.decimals" 345)),("__firstlineno__",358,(.int 50 357)),kr "__init__" 367 142,kr "plus" 375 149,kr "minus" 383 156,kr "times" 391 163,kr "negated" 398 170,kr "compared" 406 177,kr "is_whole" 413 184,kr "floor" 420 191,kr "rounded" 428 198,kr "told" 435 205,kr "text" 443 212,kr "least_text" 450 219,kr "__static_attributes__" 453 220,kr "__dict__" 455 223,kr "__weakref__" 457 224,("__doc__",458,.none)] 4,
 kC 222 "Decimal" [(.type "object")] [(.type "object")] [] none 347 355 "object",
 j0 223 454 222,
 kw 224 456 222,
 kt 248 (kN 492 ["text"]),
 kD P 249 (.type "dict") [("__module__",479,(kS "paperhold.objects" 468)),("__firstlineno__",483,(.int 99 482)),kr "__init__" 491 247,kr "__static_attributes__" 493 248,kr "__dict__" 495 251,kr "__weakref__" 497 252,("__doc__",498,.none)] 4,
 kC 250 "Name" [(.type "object")] [(.type "object")] [] none 472 480 "object",
 j0 251 494 250,
 kw 252 496 250,
 kt 262 [(.bool false)],
 kt 270 (kN 522 ["is_hex","octets"]),
 kD P 271 (.type "dict") [("__module__",508,(kS "paperhold.objects" 468)),("__firstlineno__",512,(.int 103 511)),kr "__init__" 521 269,kr "__static_attributes__" 524 270,kr "__dict__" 526 273,kr "__weakref__" 528 274,("__doc__",529,.none)] 4,
 kC 272 "String" [(.type "object")] [(.type "object")] [] none 501 509 "object",
 j0 273 525 272,
 kw 274 527 272,
 kt 291 (kN 553 ["head","octets"]),
 kD P 292 (.type "dict") [("__module__",539,(kS "paperhold.objects" 468)),("__firstlineno__",543,(.int 108 542)),kr "__init__" 552 290,kr "__static_attributes__" 555 291,kr "__dict__" 557 294,kr "__weakref__" 559 295,("__doc__",560,.none)] 4,
 kC 293 "Stream" [(.type "object")] [(.type "object")] [] none 532 540 "object",
 j0 294 556 293,
 kw 295 558 293,
 kt 319 (kN 591 ["generation","number"]),
 kD P 320 (.type "dict") [("__module__",570,(kS "paperhold.objects" 468)),("__firstlineno__",574,(.int 113 573)),kr "__init__" 583 311,kr "pair" 590 318,kr "__static_attributes__" 593 319,kr "__dict__" 595 322,kr "__weakref__" 597 323,("__doc__",598,.none)] 4,
 kC 321 "Reference" [(.type "object")] [(.type "object")] [] none 563 571 "object",
 j0 322 594 321,
 kw 323 596 321,
 kt 357 [.none,.none],
 kt 379 (kN 671 ["table","trailer"]),
 kD P 380 (.type "dict") [("__module__",636,(kS "paperhold.objects" 468)),("__firstlineno__",640,(.int 176 639)),kr "__init__" 649 364,kr "fetch" 661 371,kr "get" 670 378,kr "__static_attributes__" 673 379,kr "__dict__" 675 382,kr "__weakref__" 677 383,("__doc__",678,.none)] 4,
 kC 381 "Lookup" [(.type "object")] [(.type "object")] [(.ref 435)] none 629 637 "object",
 j0 382 674 381,
 kw 383 676 381,
 kt 386 [(.ref 381)],
 kt 433 [],
 kD P 434 (.type "dict") [("__module__",688,(kS "paperhold.objects" 468)),("__firstlineno__",692,(.int 195 691)),kr "put" 702 399,kr "add" 711 406,kr "drop" 719 413,kr "numbers" 726 420,kr "root" 734 427,kr "told" 740 432,kr "__static_attributes__" 741 433,("__doc__",742,.none)] 2,
 kC 435 "Shelf" [(.ref 381)] [(.ref 381),(.type "object")] [] (some (.ref 386)) 681 689 "object",
 kt 513 (kN 855 ["base","locked","off","on","order","radio","words"]),
 kD P 514 (.type "dict") [("__module__",836,(kS "paperhold.layers" 756)),("__firstlineno__",840,(.int 259 839)),kr "__init__" 854 512,kr "__static_attributes__" 862 513,kr "__dict__" 864 516,kr "__weakref__" 866 517,("__doc__",867,.none)] 4,
 kC 515 "Configuration" [(.type "object")] [(.type "object")] [] none 829 837 "object",
 j0 516 863 515,
 kw 517 865 515,
 kt 525 [(.int (-1) 877)],
 kt 531 [.none],
 kt 617 [(.bytes [97].toArray 1015),(.bytes [].toArray 1016),(.bytes [98,32,99].toArray 1017),(.bytes [233].toArray 1018),(.bytes [122].toArray 1019)]]
def loose:List Str:=(wV.drop 9).dropLast.map λe=>S e.1
def heap(P:Params):Frag:=pS.flatMap KR.objs++E3 P
def wX:List Addr:=pS.flatMap KR.keys++[2,3,22,29,44,45,46,47,50,57,58,59,62,69,70,71,88,89,90,91,92,220,221,222,223,224,248,249,250,251,252,262,270,271,272,273,274,291,292,293,294,295,319,320,321,322,323,357,379,380,381,382,383,386,433,434,435,513,514,515,516,517,525,531,617]
end Internal
end
noncomputable section
set_option maxHeartbeats 0
open PySem PySem.W PySem.Calls PyProof.Rows
namespace Internal
noncomputable abbrev sZ:=PySem.W.Fast.tw14364793385576792824
noncomputable abbrev ta:= @PySem.W.Fast.tw10156331382660048174
noncomputable abbrev tc:= @PySem.W.Fast.tw11892475500146522536
noncomputable abbrev td:= @PySem.W.Fast.tw6613529449190102663
noncomputable abbrev wY:= @PySem.W.Fast.tw4187177175401517315
theorem E4:treeTable=sZ:=PySem.W.Fast.te14364793385576792824
theorem E5: @stepT= @ta:=PySem.W.Fast.te10156331382660048174
theorem E6: @denote= @tc:=PySem.W.Fast.te11892475500146522536
theorem E7: @stepOk= @td:=PySem.W.Fast.te6613529449190102663
theorem E8: @openSeen= @wY:=PySem.W.Fast.te4187177175401517315
noncomputable def pT(p:Program)(w:World)(b:Nat)(c:Option Value):Nat->SharedT->Thread->Option SharedT
 |0,_,_=>none
 |n+1,s,t=>match through t with
  |true=>some s
  |false=>match td b c t with
   |false=>none
   |true=>match ta (tc sZ) p w s t with
    |some (s',t')=>pT p w b c n s' t'
    |none=>none
theorem wZ{p:Program}{w:World}{b:Nat}{c:Option Value}:∀{n:Nat}{s s':SharedT}{t:Thread},pT p w b c n s t=some s'->topRun treeTable p w b c n s.abs t=some s'.abs
 |0,_,_,_,h=>by exact nso h
 |n+1,s,s',t,h=>by
  unfold pT at h;unfold topRun
  cases he:through t with
  |true=>rw[he] at h;cases h;rfl
  |false=>
   rw[he] at h;rw[E7]
   cases hkZ:td b c t with
   |false=>rw[hkZ] at h;exact nso h
   |true=>
    rw[hkZ] at h
    cases hs:ta (tc sZ) p w s t with
    |none=>rw[hs] at h;exact nso h
    |some r=>
     rcases r with⟨cv,d⟩;rw[hs] at h;have u:stepT (denote treeTable) p w s t=some (cv,d):=by rw[E5,E6,E4];exact hs
     rw[stepT_spec u];exact wZ h
noncomputable def E9(l:List Obj):BT:=(l.foldl (λ(x:BT×Nat) o=>(x.1.ins x.2 o,x.2+1)) (.nil,0)).1
noncomputable def Fa(P:Params):List Obj:=[boot_o_0 P,boot_o_1 P,boot_o_2 P,boot_o_3 P,boot_o_4 P,boot_o_5 P,boot_o_6 P,boot_o_7 P,boot_o_8 P,boot_o_9 P,boot_o_10 P]
def w0(P:Params)(os:OsState):SharedT:=⟨E9 (Fa P),11,(boot_heap P).life,#[],boot_drawn,boot_toks,os⟩
theorem Fb(P:Params)(os:OsState):(w0 P os).abs=⟨boot_heap P,Array.mk [],boot_drawn,boot_toks,os⟩:=by lk
def qv:Program:={PW with main:={PW.main with body:=[at_ 68]}}
noncomputable def ts:List Addr:=[nat_lit 611,nat_lit 604,nat_lit 665]
theorem Fc:∀P,wX=(heap P).map (·.1):=λ_=>by lk
abbrev hkZ:Hook:=kmHook heap wX Fc ts
noncomputable abbrev rowZ:OpenRow:=PySem.Challenge.rw_pb0493_01.row
abbrev Xt:Shared->Bool:=λs=>xlAt qv [] s&&recOk (RowW.records rowZ.toRowW) s
def Fd(w:World)(s:SharedT):=
 ((staticsOk (importedModules PW.main.body) (boot_heap w.params) s.abs.heap&&namesBound PW s.abs.heap&&gensDone s.abs&&laidKept (boot_heap w.params) s.abs.heap),
  wY qv loose (importedModules PW.main.body) Xt true s.abs,hkZ.obs s.abs)
def Fe(w:World):=(true,openGood qv loose,hkZ.val w)
theorem Ff(w:World)(os:OsState):(pT PW w 11 (some (.ref 6)) 4830 (w0 w.params os) (topStub PW)).map (Fd w)=some (Fe w):=by lk
theorem Fg{p q:Program}{loose:List Str}{Xt:Shared->Bool}{α:Type}{n:Shared->α}{o:World->α}{N:Nat}{y:Bool}{b:Params->Heap}{f:Array GenState}{j:Drawn}{i:Nat}{g:Nat}{c:Option Value}{M:Nat}
  (l:∀w:World,(fencedOpening treeTable p w N).map (λs=>(s.heap,s.gens,s.drawn,s.toks))=some (b w.params,f,j,i))
  (m:∀w:World,((b w.params).isNs mainGlobals&&f.size==0,(b w.params).objs.size,(b w.params).nsMap mainGlobals "__annotations__")=(true,g,c))
  (run:∀(w:World)(os:OsState),∃cf:Shared,topRun treeTable p w g c M ⟨b w.params,f,j,i,os⟩ (topStub p)=some cf/\
   (staticsOk (importedModules p.main.body) (b w.params) cf.heap&&namesBound p cf.heap&&gensDone cf&&laidKept (b w.params) cf.heap)=true/\openSeen q loose (importedModules p.main.body) Xt y cf=openGood q loose/\n cf=o w)
  (E:Nat.ble M N=true):LeftO p q loose Xt n o N y:=λw=>by
 (refine bc λno=>?_;refine ag (Option.map_eq_some_iff.mp (l w)) λu c1=>?_;rcases u with⟨h,z,d,k,os⟩;refine ac c1 λe e'=>?_;clear c1;refine no ?_;clear no);obtain⟨rfl,rfl,rfl,rfl⟩:h=b w.params/\z=f/\d=j/\k=i:=by simpa using e'
 obtain⟨z1,v,Y⟩:_/\_/\_:=by simpa only[Prod.mk.injEq] using m w
 (refine bc λno=>ag (run w os) λcf c3=>bK c3 λr l1 l2 C=>no ?_;clear c3 no);have r:=topRun_mono (N - M) _ _ _ _ r;rw[show M+(N - M)=N from Nat.add_sub_cancel' (Nat.le_of_ble_eq_true E)] at r;have t:topFrom treeTable p w N ⟨b w.params,z,d,k,os⟩=some cf:=by
  unfold topFrom;dsimp only;rw[z1,v,Y,r];show(match staticsOk (importedModules p.main.body) (b w.params) cf.heap&&namesBound p cf.heap&&gensDone cf&&laidKept (b w.params) cf.heap with|true=>_|false=>_)=_;rw[l1]
 unfold openEnds;rw[e];show(topFrom treeTable p w N _).map _=_;rw[t];exact hQ some (Prod.ext l2 C)
theorem Fh:opening PW=plainProg PW.main.scope.names:=by lk
theorem Fi:∀s,fenceModules? PW s=some s:=λs=>by lk
theorem left:LeftO PW qv loose Xt hkZ.obs hkZ.val 10000:=by
 refine Fg (M:=4830) (g:=11) (c:=some (.ref 6)) (boot_open Fh rfl Fi) (λw=>by lk) (λw os=>?_) rfl;have h:=Ff w os;refine al (Option.map_eq_some_iff.mp h) λs hs hv=>?_;have r:=wZ hs;rw[Fb] at r;refine ac (Prod.mk.inj hv) λf b=>?_;refine ac (Prod.mk.inj b) λb d=>?_;exact⟨s.abs,r,f,by rw[E8];exact b,d⟩
end Internal
noncomputable def Internal.posS:Stmt->Pos
 | .FunctionDef _ _ _ _ _ _ _ _ _ p=>p
 |_=>⟨0,0,0,0⟩
abbrev Internal.lwR:=PySem.Challenge.rw_pb0493_01
theorem Internal.lw1:namesResolve Internal.lwR.row.prog=true:=by lk
theorem Internal.lw2:noRoadLSs {strict:= !(importedModules Internal.lwR.row.prog.main.body).all cThrough.contains,foot:=none,bare:=(["vars","dir","locals"]:List Str).filter (readsOut Internal.lwR.row.prog Internal.lwR.row.prog.main.body)} Internal.lwR.row.prog.main.body=true:=by lk
theorem Internal.lw3:(namesMeet Internal.lwR.row.prog Internal.lwR.row.prog.main.body λ_ n=>attrL n)=true:=by lk
theorem Internal.lwO:looksOpen Internal.lwR.row.prog=true:=look_both (look_both (look_both (look_both (look_both (by lk) (by lk)) Internal.lw1) (by lk)) Internal.lw2) Internal.lw3
theorem Internal.wsaid:OpenLaw.wellSaid Internal.lwR=true:=by
 unfold OpenLaw.wellSaid
 iterate 18 (refine look_both ?_ (by lk))
 unfold OpenRow.wellSaid
 iterate 2 (refine look_both ?_ (by lk))
 unfold OpenRow.partSaid
 iterate 13 (refine look_both ?_ (by lk))
 exact Internal.lwO
open Internal in
theorem Internal.hdZ(b:PySem.W.WalkO Internal.qv Internal.loose (PySem.W.XL Internal.qv []) (PySem.W.Hook.says Internal.hkZ) Internal.rowZ.toRowW
  ⟨oh (at_ 68),fg (at_ 68),ba (at_ 68),aV (at_ 68),posS (at_ 68)⟩ [] λf vs=>PySem.call f vs):PySem.Challenge.rw_pb0493_01.Holds:=by
 w_on
 refine holds_law Internal.wsaid λc=>?_;refine holds_open (q:=Internal.qv) (loose:=Internal.loose) (Xt:=Internal.Xt) (XP:=XL Internal.qv []) (Yf:=Hook.obs Internal.hkZ) (Ya:=Hook.val Internal.hkZ) (YP:=Hook.says Internal.hkZ) (N:=10000) Internal.left (Hook.of Internal.hkZ) (Hook.keeps Internal.hkZ) (λs e=>xl_of s (Bool.and_eq_true_iff.mp e).1) XL.keeps (by rfl) (by rfl) (by rfl) (λs e=>recFacts_of (Bool.and_eq_true_iff.mp e).2) (by rfl) (by first|assumption|decide+kernel) (by decide+kernel) ⟨rfl,rfl,rfl,rfl,rfl,by decide+kernel⟩ ?hw ?hc
 case hw=>w_witness2
 case hc=>exact b
end
noncomputable section
namespace Internal
open PySem PySem.W PySem.Calls PyProof.Rows
set_option genInjectivity true in
inductive aj where
 |int (i:Int)|str (s:Str)
 deriving DecidableEq
structure ah where
 m:Nat
 rev:Bool
 base:Nat
 on:List Int
 off:List Int
 lk:List Int
 rows:List (List Int)
 st:Nat
 k:Int
inductive eP where
 |refs (m:Nat)|ints (m:Nat)|tape (ctl:List (Int×Int×Int))|doc (D:ah)|told (D:ah)
 |sts (l:List Int) (st:Int->Bool)|plain (d:Nat)
inductive T where
 |none|bool (b:Bool)|int (i:Int)|str (s:Str)|bytes (b:Array UInt8)
 |typ (n:String)|bi (id:String)|top (a:Addr)
 |range (a b:Int)
 |list (xs:List T)|tuple (xs:List T)|dict (kvs:List (aj×T))|inst (C:Addr) (fs:List (Str×T))
 |box (k:eP) (t:T)
inductive V where
 |t (t:T)|own (i:Nat)
inductive MO where
 |list (xs:List T)|dict (kvs:List (aj×T))|inst (C:Addr) (d:Nat)|sh (C:Addr) (fs:List (Str×V))
 |ns (f:Bool) (kvs:List (Str×V))|idt (kvs:List (Str×V))|cell (v:Option V)
 |clo (ps:Arguments) (body:Expr) (scope:Scope) (qual:Str) (cl:List (Str×Nat))
 |fz (t:T)|dead
noncomputable abbrev af:=List MO
noncomputable abbrev ay:=Addr->Option Obj
noncomputable def gc:aj->Value->Bool
 | .int k,v=>Value.isInt k v
 | .str k,v=>Value.isStrOf k v
noncomputable def pU(w:World):aj->Int
 | .int k=>hashInt k
 | .str k=>hashStr w k
@[elab_as_elim]
theorem lx{P:aj->Value->Prop}(h:gc k v=true)(a:∀i t,P (.int i) (.int i t))(b:∀x t,P (.str x) (.str x t)):P k v:=by
 cases k with
 |int i=>exact(qu h).elim λt e=>e▸a i t
 |str x=>exact(Value.isStrOf_shape h).elim λt e=>e▸b x t
theorem w5(h:gc k v=true):(∃i t,k= .int i/\v= .int i t)\/(∃x t,k= .str x/\v= .str x t):=
 lx h (λi t=> .inl ⟨i,t,rfl,rfl⟩) λx t=> .inr ⟨x,t,rfl,rfl⟩
theorem te(h:gc k v=true):k=match(generalizing:=false) v with| .int i _=> .int i| .str x _=> .str x|_=> .int 0:=lx h (λ_ _=>rfl) λ_ _=>rfl
theorem w8{E:Value->Shared->Prop}{Q:Bool->Shared->Prop}(h:Q false s):
  wpAny (model J w) A (eqBool (.int i t) (.str x u)) Q E s:=by
 unfold eqBool;refine en ?_;refine rwm _ ?_ (hW (by intro e;exact nomatch (eq_of_beq e)));dsimp only;exact ae (EqMixed.eq_int_str (q0 h))
theorem xb{E:Value->Shared->Prop}{Q:Bool->Shared->Prop}(h:Q false s):
  wpAny (model J w) A (eqBool (.str x u) (.int i t)) Q E s:=by
 unfold eqBool;refine en ?_;refine rwm _ ?_ (hW (by intro e;exact nomatch (eq_of_beq e)));dsimp only;exact ae (EqMixed.eq_str_int (q0 h))
def kk(J:Program)(w:World):KeyKind J w aj where
 is:=gc
 hash:=pU w
 inj:=λv a b ha hb=>(te ha).trans (te hb).symm
 byValue:=λk v h=>lx h (λ_ _=>rfl) λ_ _=>rfl
 pyHash:=λ{A E s k v Q} hv=>lx hv (λ_ _=>wpAny_pyHash_int) λ_ _=>wpAny_pyHash_str
 eqBool:=λ{A E s a b u v Q} hu hv=>lx hu
  (λi t=>lx hv
   (λj u h=>wpAny_eqBool_int (by refine rwm _ ?_ (show(i==j)=decide (aj.int i=aj.int j) from decide_eq_decide.mpr ⟨hQ _,aj.int.inj⟩);exact h)) λx u=>w8)
  λx t=>lx hv
   (λi u=>xb) λy u h=>wpAny_eqBool_str (by refine rwm _ ?_ (show decide (x=y)=decide (aj.str x=aj.str y) from decide_eq_decide.mpr ⟨hQ _,aj.str.inj⟩);exact h)
 «strs»:=λk x t v h=>by refine rwm _ ?_ (te h);cases v<;>rfl
noncomputable def fh(o:Obj)(m:Str->Option Value):Prop:=∃es ep,o.data= .dict es ep/\StrKeys es/\∀B,nsFind es B=m B
theorem xd{h:Heap}{m:Str->Option Value}:h.Ns a m↔∃o,h.get? a=some o/\fh o m:=
 ⟨λ⟨o,es,ep,x,y⟩=>⟨o,x,es,ep,y⟩,λ⟨o,x,es,ep,y⟩=>⟨o,es,ep,x,y⟩⟩
noncomputable def ly{α:Type}(fs:List (Str×α))(m:Str->Option Value):Prop:=∀n,n∉fs.map (·.1)->m n=none
noncomputable def ao(n:Int):T:= .inst 321 [(Str.ofString "number",.int n),(Str.ofString "generation",.int 0)]
noncomputable def drawn(ns:List Int)(at_ b:Int):Int:=
 ((ns[(at_.fmod (ns.length:Int)).toNat]?.getD 0)+at_.fdiv (ns.length:Int)*(7*at_+3+at_.fdiv 2)).fmod b
noncomputable def aQ(m:Nat):List Int:=(List.range m).map λ(i:Nat)=>10+3*(i:Int)
def ah.order(D:ah):List Int:=cond D.rev (aQ D.m).reverse (aQ D.m)
def eQ(m:Nat)(ns:List Int):Prop:=ns.Nodup/\∀n∈ns,n∈aQ m
structure ah.Wf (D:ah):Prop where
 m:D.m<=4
 base:D.base<=2
 on:eQ D.m D.on
 off:eQ D.m D.off
 lk:eQ D.m D.lk
 few:D.rows.length<=2
 rows:∀r∈D.rows,eQ D.m r
 st:D.st<=2
 k:D.st=2->23<=D.k/\D.k<=31
noncomputable def aA(s:String):Str:=Str.ofString s
def gK(s:String):T:= .inst 250 [(aA "text",.str (aA s))]
def tf(l:List UInt8):T:= .inst 272 [(aA "octets",.bytes l.toArray),(aA "is_hex",.bool false)]
def dc(l:List UInt8):T:= .tuple [.int 0,.dict [(.str (aA "Type"),gK "OCG"),(.str (aA "Name"),tf l)]]
noncomputable def gL:Nat->List UInt8
 |0=>[97]
 |1=>[]
 |2=>[98,32,99]
 |3=>[233]
 |_=>[122]
noncomputable def cj:List UInt8:=[110,101,119,32,111,110,101]
def aK(ns:List Int):T:= .list (ns.map ao)
noncomputable def ak(ns:List Int):T:= .list (ns.map T.int)
noncomputable def aI(i:Nat):Nat->List (aj×T)
 |0=>[]
 |n+1=>(.int (10+3*(i:Int)),dc (gL i))::aI (i+1) n
def lz:Nat->List (aj×T)
 |0=>[(.str (aA "BaseState"),gK "ON")]
 |1=>[(.str (aA "BaseState"),gK "OFF")]
 |_=>[]
def oi(ns:List Int):List (aj×T):=match ns with
 |[]=>[]
 |ns=>[(.str (aA "OFF"),aK ns)]
def ah.firstT(D:ah):List (aj×T):=match D.st with
 |0=>[(.str (aA "ON"),aK D.on),(.str (aA "OFF"),aK D.off),(.str (aA "Locked"),aK D.lk),(.str (aA "RBGroups"),.list (D.rows.map aK))]++lz D.base
 |1=>[(.str (aA "Locked"),aK D.lk),(.str (aA "RBGroups"),.list (D.rows.map aK))]++oi D.off
 |_=>[(.str (aA "Locked"),aK D.lk),(.str (aA "RBGroups"),.list (D.rows.map aK))]++oi D.off++[(.str (aA "Order"),.list [ao D.k])]
noncomputable def ah.more{α:Type}(D:ah)(l:List α):List α:=match D.st with
 |0=>[]
 |1=>[]
 |_=>l
def ah.tree(D:ah):T:= .inst 435 [(aA "table",.dict ((.int 1,.tuple [.int 0,.dict [(.str (aA "Type"),gK "Catalog"),
  (.str (aA "OCProperties"),.dict [(.str (aA "OCGs"),.list ((D.order++D.more [D.k]).map ao)),(.str (aA "D"),.dict D.firstT)])]])::(aI 0 D.m++D.more [(.int D.k,dc cj)]))),
 (aA "trailer",.dict [(.str (aA "Root"),ao 1)])]
noncomputable def th:Nat->String
 |0=>"ON"
 |1=>"OFF"
 |_=>""
def ah.toldT(D:ah):T:= .dict [(.str (aA "base"),.str (aA (th D.base))),(.str (aA "on"),ak D.on),(.str (aA "off"),ak D.off),(.str (aA "rows"),.list (D.rows.map ak)),
 (.str (aA "locked"),ak D.lk),(.str (aA "order"),ak D.order)]
noncomputable def aS(l:List Int)(st:Int->Bool):T:= .dict (l.map λn=>(.int n,.bool (st n)))
noncomputable def j2:aj->Bool
 | .str _=>true
 | .int _=>false
noncomputable def bC:Nat->T->Bool
 |0,_=>false
 |n+1,.list U=>decide (U.length<=20)&&U.all (bC n)
 |n+1,.dict N=>decide (N.length<=20)&&N.all λp=>j2 p.1&&bC n p.2
 |_+1,.inst C _=>Nat.beq C 250||Nat.beq C 272||Nat.beq C 321
 |_+1,_=>false
def lA:eP->T->Prop
 | .sts l st,t=>l.Nodup/\t=aS l st
 | .plain d,t=>bC d t=true
 | .refs m,t=>∃ns,eQ m ns/\t=aK ns
 | .ints m,t=>∃ns,eQ m ns/\t=ak ns
 | .tape H,t=>∃ns:List Int,ns≠[]/\ns.length<=50/\t=ak ns/\∀q∈H,drawn ns q.1 q.2.1=q.2.2
 | .doc D,t=>D.Wf/\t=D.tree
 | .told D,t=>D.Wf/\t=D.toldT
mutual
def TR(w:World)(g:ay):T->Value->Prop
 | .none,x=>x= .none
 | .bool b,x=>x= .bool b
 | .int i,x=>∃t,x= .int i t
 | .str s,x=>∃t,x= .str s t
 | .bytes b,x=>∃t,x= .bytes b t
 | .typ n,x=>x= .type n
 | .bi n,x=>x= .builtin n
 | .top a,x=>x= .ref a
 | .range i j,x=>∃a t u v,x= .ref a/\g a=some ⟨.type "range",.none,.fields #[.int i t,.int j u,.int 1 v],#[]⟩
 | .list U,x=>∃a ys ep,x= .ref a/\g a=some ⟨.type "list",.none,.seq ys ep,#[]⟩/\TRs w g U ys.toList
 | .tuple U,x=>∃a ys ep,x= .ref a/\g a=some ⟨.type "tuple",.none,.seq ys ep,#[]⟩/\TRs w g U ys.toList
 | .dict N,x=>∃a es ep,x= .ref a/\g a=some ⟨.type "dict",.none,.dict es ep,#[]⟩/\TRd w g N es.toList/\(N.map (·.1)).Nodup/\a≠sysModules
 | .box k t,x=>lA k t/\TR w g t x
 | .inst C fs,x=>∃a d od m,x= .ref a/\g a=some ⟨.ref C,some d,.plain,#[]⟩/\g d=some od/\fh od m/\TRf w g fs m/\ly fs m
def TRs(w:World)(g:ay):List T->List Value->Prop
 |[],ys=>ys=[]
 |v::vs,ys=>∃y r,ys=y::r/\TR w g v y/\TRs w g vs r
def TRd(w:World)(g:ay):List (aj×T)->List DictEntry->Prop
 |[],ys=>ys=[]
 |(k,v)::vs,ys=>∃y r,ys=y::r/\(gc k y.key=true/\y.hash=pU w k)/\TR w g v y.val/\TRd w g vs r
def TRf(w:World)(g:ay):List (Str×T)->(Str->Option Value)->Prop
 |[],_=>True
 |(k,v)::r,m=>(∃x,m k=some x/\TR w g v x)/\TRf w g r m
end
noncomputable def LR{α:Type}(R:α->Value->Prop):List α->List Value->Prop
 |[],ys=>ys=[]
 |v::vs,ys=>∃y r,ys=y::r/\R v y/\LR R vs r
noncomputable def FR{α:Type}(R:α->Value->Prop):List (Str×α)->(Str->Option Value)->Prop
 |[],_=>True
 |(k,v)::r,m=>(∃x,m k=some x/\R v x)/\FR R r m
def VR(w:World)(g:ay)(b2:List Addr):V->Value->Prop
 | .t t,x=>TR w g t x
 | .own i,x=>∃a,b2[i]? =some a/\x= .ref a
def aZ(g b6:ay):Prop:=∀b o,g b=some o->b6 b=some o
theorem aZ.refl(g:ay):aZ g g:=λ_ _ e=>e
theorem aZ.trans{a b c:ay}(x:aZ a b)(y:aZ b c):aZ a c:=λ_ _ e=>y _ _ (x _ _ e)
noncomputable def bu(b2 b4:List Addr):Prop:=∀(i:Nat)(a:Addr),b2[i]? =some a->b4[i]? =some a
theorem bu.refl(b2:List Addr):bu b2 b2:=λ_ _ e=>e
theorem bu.trans(x:bu a b)(y:bu b c):bu a c:=λ_ _ e=>y _ _ (x _ _ e)
theorem bu.app(b2 l:List Addr):bu b2 (b2++l):=λi a e=>by
 refine a0 (List.getElem?_append_left (List.getElem?_eq_some_iff.mp e).1) ?_;exact e
section
variable {w:World}{g b6:ay}
theorem TR.mono(hg:aZ g b6)(v:T):∀(x:Value),TR w g v x->TR w b6 v x:=
 T.rec (motive_2:=λv=>∀x,TRs w g v x->TRs w b6 v x) (motive_3:=λv=>∀x,TRd w g v x->TRd w b6 v x)
  (motive_4:=λv=>∀x,TRf w g v x->TRf w b6 v x) (motive_5:=λp=>∀x,TR w g p.2 x->TR w b6 p.2 x) (motive_6:=λp=>∀x,TR w g p.2 x->TR w b6 p.2 x)
  (λ_ h=>h) (λ_ _ h=>h) (λ_ _ h=>h) (λ_ _ h=>h) (λ_ _ h=>h) (λ_ _ h=>h) (λ_ _ h=>h) (λ_ _ h=>h)
  (λ_ _ _ h=>h.elim λa h=>⟨a,h.elim λt h=>⟨t,h.elim λu h=>⟨u,h.elim λv h=>⟨v,h.1,hg _ _ h.2⟩⟩⟩⟩)
  (λ_ i _ h=>h.elim λa h=>⟨a,h.elim λy h=>⟨y,h.elim λp h=>⟨p,h.1,hg _ _ h.2.1,i _ h.2.2⟩⟩⟩)
  (λ_ i _ h=>h.elim λa h=>⟨a,h.elim λy h=>⟨y,h.elim λp h=>⟨p,h.1,hg _ _ h.2.1,i _ h.2.2⟩⟩⟩)
  (λ_ i _ h=>h.elim λa h=>⟨a,h.elim λy h=>⟨y,h.elim λp h=>⟨p,h.1,hg _ _ h.2.1,i _ h.2.2.1,h.2.2.2⟩⟩⟩)
  (λ_ _ i _ h=>h.elim λa h=>⟨a,h.elim λd h=>⟨d,h.elim λo h=>⟨o,h.elim λm h=>⟨m,h.1,hg _ _ h.2.1,hg _ _ h.2.2.1,h.2.2.2.1,i _ h.2.2.2.2.1,h.2.2.2.2.2⟩⟩⟩⟩)
  (λ_ _ i _ h=>⟨h.1,i _ h.2⟩)
  (λ_ h=>h) (λ_ _ i j _ h=>h.elim λa h=>⟨a,h.elim λr h=>⟨r,h.1,i _ h.2.1,j _ h.2.2⟩⟩)
  (λ_ h=>h) (λ_ _ i j _ h=>h.elim λa h=>⟨a,h.elim λr h=>⟨r,h.1,h.2.1,i _ h.2.2.1,j _ h.2.2.2⟩⟩)
  (λ_ h=>h) (λ_ _ i j _ h=>⟨h.1.elim λx h=>⟨x,h.1,i _ h.2⟩,j _ h.2⟩)
  (λ_ _ i=>i) (λ_ _ i=>i) v
theorem fj:∀{U:List Value},TRs w g vs U↔LR (TR w g) vs U:=
 List.rec (motive:=λvs=>∀{U},TRs w g vs U↔LR (TR w g) vs U) Iff.rfl
  (λ_ _ i {_}=>exists_congr λ_=>exists_congr λ_=>and_congr_right λ_=>and_congr_right λ_=>i) vs
theorem tj{m:Str->Option Value}:TRf w g vs m↔FR (TR w g) vs m:=
 List.rec Iff.rfl (λ_ _ i=>and_congr_right λ_=>i) vs
theorem LR.mono{α β:Type}{R:α->Value->Prop}{G:β->Value->Prop}{f:α->β}(k:∀v x,R v x->G (f v) x){vs:List α}:∀{U:List Value},LR R vs U->LR G (vs.map f) U:=
 List.rec (motive:=λvs=>∀{U},LR R vs U->LR G (vs.map f) U) id
  (λ_ _ i {_} h=>h.elim λy h=>⟨y,h.elim λr h=>⟨r,h.1,k _ _ h.2.1,i h.2.2⟩⟩) vs
theorem TRs.mono(hg:aZ g b6)(vs:List T)(U:List Value)(h:TRs w g vs U):TRs w b6 vs U:=by
 have q:=LR.mono (f:=id) (TR.mono hg) (fj.mp h);rw[List.map_id] at q;exact fj.mpr q
theorem TRd.mono(hg:aZ g b6)(vs:List (aj×T)):∀(U:List DictEntry),TRd w g vs U->TRd w b6 vs U:=
 List.rec (λ_ h=>h)
  (λ_ _ j _ h=>h.elim λa h=>⟨a,h.elim λr h=>⟨r,h.1,h.2.1,TR.mono hg _ _ h.2.2.1,j _ h.2.2.2⟩⟩) vs
theorem LR.mono'{α:Type}{R G:α->Value->Prop}(k:∀v x,R v x->G v x){vs:List α}{U:List Value}(h:LR R vs U):LR G vs U:=by
 have:=LR.mono (f:=id) k h;rwa [List.map_id] at this
theorem FR.mono'{α:Type}{R G:α->Value->Prop}(k:∀v x,R v x->G v x){vs:List (Str×α)}{m:Str->Option Value}:FR R vs m->FR G vs m:=
 List.rec id (λ_ _ i h=>⟨h.1.elim λx h=>⟨x,h.1,k _ _ h.2⟩,i h.2⟩) vs
theorem VR.mono(hg:aZ g b6)(hr:bu b2 b4):∀(v:V)(x:Value),VR w g b2 v x->VR w b6 b4 v x
 | .t t,_,h=>TR.mono hg t _ h
 | .own i,_,⟨a,e,q⟩=>⟨a,hr _ _ e,q⟩
end
section
variable {α:Type}{R:α->Value->Prop}
theorem FR.get{fs:List (Str×α)}{m:Str->Option Value}{v:α}(h:FR R fs m)(e:fs.lookup n=some v):∃x,m n=some x/\R v x:=by
 induction fs with
 |nil=>exact nso e
 |cons p r ih=>
  rw[List.lookup_cons] at e
  by_cases q:n=p.1
  .subst q;rw[beq_self_eq_true] at e;cases e;exact h.1
  .rw[beq_eq_false_iff_ne.mpr q] at e;exact ih h.2 e
noncomputable def dM(fs:List (Str×α))(n:Str)(v:α):List (Str×α):=match fs with
 |[]=>[(n,v)]
 |(k,u)::r=>if n=k then(k,v)::r else(k,u)::dM r n v
theorem pV{p:Str×α}{v:α}(q:¬n=p.1):dM (p::r) n v=p::dM r n v:=hW q
theorem pW{p:Str×α}{v:α}:dM (p::r) p.1 v=(p.1,v)::r:=eb rfl
theorem xe(fs:List (Str×α))(n:Str)(v:α)(x:Str):x∈(dM fs n v).map (·.1)↔x=n\/x∈fs.map (·.1):=by
 induction fs with
 |nil=>exact hy
 |cons p r ih=>
  by_cases q:n=p.1
  .subst q;refine rwm _ ?_ pW;refine hy.trans ⟨?_,?_⟩
   .exactλh=>h.elim .inl λh=> .inr (.tail _ h)
   .exactλh=>h.elim .inl hy.mp
  .refine rwm _ ?_ (pV q);refine hy.trans ((or_congr_right ih).trans ((or_left_comm).trans (or_congr_right hy.symm)))
theorem FR.skip{fs:List (Str×α)}{m:Str->Option Value}(hn:n∉fs.map (·.1))(h:FR R fs m):FR R fs (λy=>if y=n then some x else m y):=by
 induction fs with
 |nil=>trivial
 |cons p r ih=>exact⟨h.1.elim λz h=>⟨z,(hW λe:p.1=n=>hn (e▸qn)).trans h.1,h.2⟩,ih (λe=>hn (.tail _ e)) h.2⟩
theorem FR.put{fs:List (Str×α)}{m:Str->Option Value}{v:α}(hn:(fs.map (·.1)).Nodup)(h:FR R fs m)(k:R v x):FR R (dM fs n v) (λy=>if y=n then some x else m y):=by
 induction fs with
 |nil=>exact⟨⟨x,eb rfl,k⟩,trivial⟩
 |cons p r ih=>
  have hn:=ni.mp hn
  by_cases q:n=p.1
  .subst q;refine rwm _ ?_ pW;exact⟨⟨x,eb rfl,k⟩,FR.skip hn.1 h.2⟩
  .refine rwm _ ?_ (pV q);exact⟨h.1.elim λz h=>⟨z,(hW λe=>q e.symm).trans h.1,h.2⟩,ih hn.2 h.2⟩
theorem xf{fs:List (Str×α)}{v:α}(hn:(fs.map (·.1)).Nodup):((dM fs n v).map (·.1)).Nodup:=by
 induction fs with
 |nil=>exact ni.mpr ⟨List.not_mem_nil,hn⟩
 |cons p r ih=>
  have h:=ni.mp hn
  by_cases q:n=p.1
  .subst q;refine rwm _ ?_ pW;exact hn
  .refine rwm _ ?_ (pV q);exact ni.mpr ⟨λe=>((xe r n v p.1).mp e).elim (λe=>q e.symm) h.1,ih h.2⟩
theorem ly.put{m:Str->Option Value}{v:α}(h:ly fs m):ly (dM fs n v) (λy=>if y=n then some x else m y):=λy L=>by
 rw[xe,not_or] at L;refine(?_:(if y=n then some x else m y)=none);refine a0 (hW L.1) ?_;exact h y L.2
theorem LR.app:∀{U:List Value},LR R vs U->LR R C ys->LR R (vs++C) (U++ys):=
 List.rec (motive:=λvs=>∀{U},LR R vs U->LR R C ys->LR R (vs++C) (U++ys)) (λ{U} h k=>(show U=[] from h)▸k)
  (λ_ _ i {U} h k=>h.elim λy h=>h.elim λr h=>⟨y,r++ys,hQ (·++ys) h.1,h.2.1,i h.2.2 k⟩) vs
theorem LR.nil:LR R [] []:=rfl
theorem LR.cons{v:α}(h:R v x)(k:LR R vs U):LR R (v::vs) (x::U):=⟨x,U,rfl,h,k⟩
theorem LR.length{vs:List α}:∀{U:List Value},LR R vs U->vs.length=U.length:=
 List.rec (motive:=λvs=>∀{U},LR R vs U->vs.length=U.length) (λ{U} h=>(hQ List.length (show U=[] from h)).symm)
  (λ_ _ i {U} h=>h.elim λy h=>h.elim λr h=>(hQ (·+1) (i h.2.2)).trans (hQ List.length h.1).symm) vs
theorem LR.get{vs:List α}{U:List Value}{i:Nat}{v:α}(h:LR R vs U)(e:vs[i]? =some v):∃x,U[i]? =some x/\R v x:=by
 induction vs generalizing U i with
 |nil=>exact nso e
 |cons u C ih=>
  refine h.elim λy h=>h.elim λr h=>?_;refine rwm _ ?_ h.1
  cases i with
  |zero=>cases e;exact⟨y,rfl,h.2.1⟩
  |succ i=>exact ih (U:=r) h.2.2 e
theorem LR.cons_inv{v:α}(h:LR R (v::vs) U):∃y r,U=y::r/\R v y/\LR R vs r:=h
theorem LR.nil_inv(h:LR R [] U):U=[]:=h
theorem LR.one_inv{v:α}(h:LR R [v] U):∃y,U=[y]/\R v y:=by
 (refine aq h.cons_inv λy r c3=>aw c3 λc2 q z=>?_;clear c3;clear h;subst c2);exact⟨y,by exact rwm _ rfl z.nil_inv,q⟩
theorem LR.two_inv{v u:α}(h:LR R [v,u] U):∃y z,U=[y,z]/\R v y/\R u z:=by
 (refine aq h.cons_inv λy r c3=>aw c3 λc2 q z=>?_;clear c3;clear h;subst c2);(refine ag z.one_inv λz' c1=>ac c1 λc2 q'=>?_;clear c1;subst c2);exact⟨y,z',rfl,q,q'⟩
end
section
variable {w:World}{g:ay}
theorem TRd.pairs{N:List (aj×T)}(h:TRd w g N es):
  ∃ps:List (aj×Value),Pairs (kk J w) es ps/\ps.map (·.1)=N.map (·.1)/\LR (TR w g) (N.map (·.2)) (ps.map (·.2))/\∀e∈es,∃k,gc k e.key=true/\e.hash=pU w k:=by
 induction N generalizing es with
 |nil=>refine rwm _ ?_ (show es=[] from h);exact⟨[],.nil,rfl,.nil,λ_ h=>absurd h List.not_mem_nil⟩
 |cons p N ih=>
  refine h.elim λy h=>h.elim λr h=>?_;refine rwm _ ?_ h.1;exact(ih h.2.2.2).elim λps q=>⟨(p.1,y.val)::ps,.cons h.2.1.1 rfl q.1,hQ (p.1::·) q.2.1,LR.cons h.2.2.1 q.2.2.1,List.forall_mem_cons.mpr ⟨⟨p.1,h.2.1⟩,q.2.2.2⟩⟩
theorem TRd.of_pairs{N:List (aj×T)}{ps:List (aj×Value)}(h1:Pairs (kk J w) es ps)(h2:ps.map (·.1)=N.map (·.1))(h3:LR (TR w g) (N.map (·.2)) (ps.map (·.2)))
  (h4:∀e∈es,∃k,gc k e.key=true/\e.hash=pU w k):TRd w g N es:=by
 induction h1 generalizing N with
 |nil=>cases N;exact rfl;cases h2
 | @cons e G es ps p q z ih=>
  cases N with
  |nil=>cases h2
  |cons c N=>
   have h2:G.1=c.1/\ps.map (·.1)=N.map (·.1):=List.cons.inj h2;refine h3.elim λy h=>h.elim λr h=>?_;have e1:G.2=y/\ps.map (·.2)=r:=List.cons.inj h.1;have h5:=List.forall_mem_cons.mp h4;exact⟨e,es,rfl,h5.1.elim λE hk=>(((kk J w).inj _ _ _ hk.1 p).trans h2.1)▸hk,by refine rwm _ (rwm _ ?_ e1.1) q;exact h.2.1,ih h2.2 (e1.2▸h.2.2) h5.2⟩
end
noncomputable def j3(o o':Obj):Prop:=o'.cls=o.cls/\o'.dict=o.dict/\o'.data=o.data/\(o.cls≠ .type "frame"->o'=o)
theorem j3.refl(o:Obj):j3 o o:=⟨rfl,rfl,rfl,λ_=>rfl⟩
theorem j3.trans(x:j3 a b)(y:j3 b c):j3 a c:=
 ⟨y.1.trans x.1,y.2.1.trans x.2.1,y.2.2.1.trans x.2.2.1,λh=>by have e:=x.2.2.2 h;clear x;subst e;exact y.2.2.2 h⟩
def Kp(h b5:Heap)(a:Addr):Prop:=∀o,h.get? a=some o->∃o',b5.get? a=some o'/\j3 o o'
theorem Kp.same{h b5:Heap}(k:∀o,h.get? a=some o->b5.get? a=some o):Kp h b5 a:=λo e=>⟨o,k o e,.refl o⟩
theorem Kp.eq{h b5:Heap}{o:Obj}(k:Kp h b5 a)(e:h.get? a=some o)(n:o.cls≠ .type "frame"):b5.get? a=some o:=by
 refine al (k o e) λo' e' q=>?_;have:=q.2.2.2 n;clear e n q;subst this;exact e'
theorem Kp.trans(x:Kp c d a)(y:Kp d h₃ a):Kp c h₃ a:=λo e=>by
 refine al (x o e) λo' e' q=>al (y o' e') λp j q'=>⟨p,j,q.trans q'⟩
def pX(w:World)(g:ay)(b2:List Addr):Option V->Option Value->Prop
 |none,none=>True
 |some v,some x=>VR w g b2 v x
 |_,_=>False
noncomputable def ck(b2:List Addr):List (Str×Nat)->List (Str×Addr)->Prop
 |[],l=>l=[]
 |(n,i)::r,l=>∃a N,l=(n,a)::N/\b2[i]? =some a/\ck b2 r N
noncomputable def tm(o:Obj)(q:Str):Prop:=∃vs t,o.data= .fields vs/\vs[1]? =some (.str q t)
def OR(w:World)(g:ay)(b2:List Addr)(h:Heap):MO->Addr->Prop
 | .list U,a=>∃ys ep,h.get? a=some ⟨.type "list",.none,.seq ys ep,#[]⟩/\TRs w g U ys.toList
 | .dict N,a=>∃es ep,h.get? a=some ⟨.type "dict",.none,.dict es ep,#[]⟩/\TRd w g N es.toList/\(N.map (·.1)).Nodup/\a≠sysModules
 | .inst C d,a=>∃ad,b2[d]? =some ad/\h.get? a=some ⟨.ref C,some ad,.plain,#[]⟩
 | .sh C fs,a=>∃d od m,g a=some ⟨.ref C,some d,.plain,#[]⟩/\g d=some od/\fh od m/\FR (VR w g b2) fs m/\ly fs m
 | .ns f N,a=>∃o m,h.get? a=some o/\fh o m/\FR (VR w g b2) N m/\ly N m/\(N.map (·.1)).Nodup/\o.cls= .type (if f then "frame" else "dict")
 | .idt N,a=>∃es ep m,h.get? a=some ⟨.type "dict",.none,.dict es ep,#[]⟩/\fh ⟨.type "dict",.none,.dict es ep,#[]⟩ m/\FR (VR w g b2) N m/\ly N m/\(N.map (·.1)).Nodup/\es.size<=N.length
 | .cell v,a=>∃x,h.get? a=some ⟨.type "cell",.none,.cell x,#[]⟩/\pX w g b2 v x
 | .clo ps j p i cl,a=>∃pm c u I D,h.get? a=some (kla_obj "<lambda>" i ps j p I pm c u)/\g c=some D/\tm D i/\ck b2 cl I
 | .fz t,a=>TR w g t (.ref a)
 | .dead,_=>True
noncomputable def isFz:MO->Bool
 | .fz _| .dead| .sh _ _=>true
 |_=>false
theorem ck.mono(hr:bu b2 b4):∀{cl:List (Str×Nat)}{l:List (Str×Addr)},ck b2 cl l->ck b4 cl l
 |[],_,h=>h
 |(n,i)::r,_,⟨a,N,e,q,z⟩=>⟨a,N,e,hr _ _ q,ck.mono hr z⟩
theorem ck.get{b2:List Addr}:∀{cl:List (Str×Nat)}{l:List (Str×Addr)}{n:Str}{i:Nat},ck b2 cl l->cl.lookup n=some i->∃a,l.lookup n=some a/\b2[i]? =some a
 |[],_,_,_,_,e=>by simp at e
 |(k,j)::r,_,n,i,⟨a,N,e0,q,z⟩,e=>by
  subst e0;rw[List.lookup_cons] at e⊢
  cases hb:n==k with
  |true=>rw[hb] at e;cases e;exact⟨a,rfl,q⟩
  |false=>rw[hb] at e;exact ck.get z e
section
variable {w:World}{g b6:ay}{b2 b4:List Addr}{h b5:Heap}
theorem pX.mono(hg:aZ g b6)(hr:bu b2 b4)(c:pX w g b2 v x):pX w b6 b4 v x:=by
 cases v<;>cases x<;>first|exact c|exact VR.mono hg hr _ _ c
theorem OR.mono(hg:aZ g b6)(hr:bu b2 b4)(k:Kp h b5 a)(x:OR w g b2 h Q a):OR w b6 b4 b5 Q a:=by
 cases Q with
 |list U=>refine cS x λys ep e r=>⟨ys,ep,k.eq e (by simp),TRs.mono hg _ _ r⟩
 |dict N=>refine b9 x λes ep e r n=>⟨es,ep,k.eq e (by simp),TRd.mono hg _ _ r,n⟩
 |inst C d=>refine al x λad e1 e2=>⟨ad,hr _ _ e1,k.eq e2 (by simp)⟩
 |sh C fs=>refine dm x λd od m e1 e2 n r z=>⟨d,od,m,hg _ _ e1,hg _ _ e2,n,r.mono' (VR.mono hg hr),z⟩
 |ns f N=>
  refine ls x λo m e n r z nd=>al (k o e) λo' e' q=>⟨o',m,e',by refine cS n λes ep d y=>⟨es,ep,q.2.2.1.trans d,y⟩,r.mono' (VR.mono hg hr),z,nd.1,q.1.trans nd.2⟩
 |idt N=>refine dm x λes ep m e n r z nd=>⟨es,ep,m,k.eq e (by simp),n,r.mono' (VR.mono hg hr),z,nd⟩
 |cell v=>refine al x λx e c=>?_;exact⟨x,k.eq e (by simp),c.mono hg hr⟩
 |clo ps j p i cl=>refine bc λno=>hV x λpm c u I D cd=>bK cd λe e1 e2 e3=>no (⟨pm,c,u,I,D,k.eq e (by simp),hg _ _ e1,e2,e3.mono hr⟩)
 |fz v=>exact TR.mono hg _ _ x
 |dead=>trivial
theorem OR.there(q:isFz Q=false)(x:OR w g b2 h Q a):∃o,h.get? a=some o:=by
 cases Q with
 |list U=>refine cS x λys ep e r=>⟨_,e⟩
 |dict N=>refine b9 x λes ep e r n=>⟨_,e⟩
 |inst C d=>refine al x λad e1 e2=>⟨_,e2⟩
 |ns f N=>refine cS x λo m e n=>⟨_,e⟩
 |idt N=>refine dZ x λes ep m e n=>⟨_,e⟩
 |cell v=>refine al x λx e c=>?_;exact⟨_,e⟩
 |clo ps j p i cl=>refine bc λno=>hV x λpm c u I D M=>ac M λe e1=>no (⟨_,e⟩)
 |fz v=>exact tff q
 |sh C fs=>exact tff q
 |dead=>exact tff q
theorem OR.still(q:isFz Q=true)(x:OR w g b2 h Q a):OR w g b2 b5 Q a:=by
 cases Q<;>first|exact x|(first|exact ftf q|cases q)
end
structure Cx where
 w:World
 B:Heap
 ts:List (Addr×Addr×Str)
noncomputable def Cx.tab(b1:Cx)(a:Addr):Prop:=∃q∈b1.ts,q.2.1=a
def Fj(g:ay)(h:Heap)(q:Addr×Addr×Str):Prop:=
 ∃ps:Array Value,h.get? q.2.1=some (tabObj ps)/\TriplesOk ps.toList/\∀c4 bd,codeAmong c4 ps.toList=some bd->∃c D,bd= .ref c/\g c=some D/\tm D q.2.2
structure St (cx:Cx) (r g:ay) (ρ:List Addr) (l:List Env) (O:af) (h:Heap):Prop where
 base:∀b o,cx.B.get? b=some o->g b=some o
 fr:∀b o,g b=some o->h.get? b=some o
 rs:∀b o,r b=some o->∃o',h.get? b=some o'/\j3 o o'
 len:ρ.length=O.length
 own:∀(i:Nat)(mo:MO)(a:Addr),O[i]? =some mo->ρ[i]? =some a->OR cx.w g ρ h mo a
 free:∀(i:Nat)(mo:MO)(a:Addr),O[i]? =some mo->ρ[i]? =some a->isFz mo=false->g a=none/\r a=none/\¬cx.tab a
 nd:∀(i j:Nat)(mo mo':MO)(a:Addr),O[i]? =some mo->O[j]? =some mo'->isFz mo=false->isFz mo'=false->ρ[i]? =some a->ρ[j]? =some a->i=j
 gr:∀b o,r b=some o->g b=none/\¬cx.tab b
 gt:∀b o,g b=some o->¬cx.tab b
 tabs:∀q∈cx.ts,Fj g h q
 frs:∀e∈l,e.scope.kind= .function/\∃L o,e.frame=some L/\h.get? L=some o/\o.cls= .type "frame"/\g L=none/\¬cx.tab L
section
variable {b1:Cx}{r g:ay}{b2:List Addr}{l:List Env}{O:af}{h b5:Heap}
theorem St.keep(S:St b1 r g b2 l O h)(k:∀b o,h.get? b=some o->b5.get? b=some o):St b1 r g b2 l O b5 where
 base:=S.base
 fr:=λb o e=>k _ _ (S.fr b o e)
 rs:=λb o e=>by refine al (S.rs b o e) λo' e' q=>⟨o',k _ _ e',q⟩
 len:=S.len
 own:=λi Q a e1 e2=>(S.own i Q a e1 e2).mono (.refl _) (.refl _) (.same λ_ e=>k _ _ e)
 free:=S.free
 nd:=S.nd
 gr:=S.gr
 gt:=S.gt
 tabs:=λq hq=>by refine al (S.tabs q hq) λps e x=>⟨ps,k _ _ e,x⟩
 frs:=λe he=>by refine bc λno=>ac (S.frs e he) λe0 D=>aq D λL o c3=>aw c3 λe1 e2 e3=>no (⟨e0,L,o,e1,k _ _ e2,e3⟩)
theorem St.lt_g(S:St b1 r g b2 l O h)(hb:h.get? b=none):g b=none:=by
 cases e:g b with
 |none=>rfl
 |some o=>rw[S.fr b o e] at hb;exact sno hb
theorem St.lt_r(S:St b1 r g b2 l O h)(hb:h.get? b=none):r b=none:=by
 cases e:r b with
 |none=>rfl
 |some o=>refine al (S.rs b o e) λo' e' _=>?_;rw[e'] at hb;exact sno hb
theorem St.lt_t(S:St b1 r g b2 l O h)(hb:h.get? b=none):¬b1.tab b:=λ⟨q,hq,e⟩=>by
 refine al (S.tabs q hq) λps e' _=>?_;rw[e,hb] at e';exact nso e'
theorem St.lt_o(S:St b1 r g b2 l O h){b:Addr}(hb:h.get? b=none){i:Nat}(e:b2[i]? =some b):∃Q,O[i]? =some Q/\isFz Q=true:=by
 have hi:=(List.getElem?_eq_some_iff.mp e).1;rw[S.len] at hi;refine⟨O[i],hS hi,?_⟩
 cases q:isFz O[i] with
 |true=>rfl
 |false=>
  refine ag (OR.there q (S.own i _ b (hS hi) e)) λo ho=>?_;rw[ho] at hb;exact sno hb
theorem dB{α:Type}{l:List α}{x y:α}(e:(l++[x])[i]? =some y):l[i]? =some y\/(i=l.length/\y=x):=by
 rcases Nat.lt_trichotomy i l.length with q|q|q
 .rw[List.getElem?_append_left q] at e;exact .inl e
 .subst q;simp at e;exact .inr ⟨rfl,e.symm⟩
 .rw[List.getElem?_append_right (Nat.le_of_lt q),List.getElem?_cons] at e;have:i - l.length≠0:=Nat.sub_ne_zero_of_lt q;simp [this] at e
theorem St.alloc(S:St b1 r g b2 l O h)(hn:h.get? n=none)(k:∀b o,h.get? b=some o->b5.get? b=some o)(hf:isFz Q=false)
  (ho:OR b1.w g (b2++[n]) b5 Q n):St b1 r g (b2++[n]) l (O++[Q]) b5 where
 base:=S.base
 fr:=(S.keep k).fr
 rs:=(S.keep k).rs
 len:=by simp [S.len]
 own:=λi f a e1 e2=>by
  (refine a2 (dB e1) (λe1=>?_) (λzz=>?_);rotate_left;refine ac zz λc2 bo=>?_;clear zz;subst c2;clear hf;subst bo;rotate_right)
  ·(refine a2 (dB e2) (λe2=>?_) (λzz=>?_);rotate_left;refine ac zz λc2 bo=>?_;clear zz;subst c2;subst bo;rotate_right)
   .exact((S.keep k).own i f a e1 e2).mono (.refl _) (.app _ _) (.same λ_ e=>e)
   .have:=(List.getElem?_eq_some_iff.mp e1).1;rw[S.len] at this;exact absurd this (ka _)
  ·(refine a2 (dB e2) (λe2=>?_) (λzz=>?_);rotate_left;refine ac zz λ_ bo=>?_;clear zz;subst bo;rotate_right)
   .have:=(List.getElem?_eq_some_iff.mp e2).1;rw[S.len] at this;exact absurd this (ka _)
   .exact ho
 free:=λi f a e1 e2 q=>by
  (refine a2 (dB e1) (λe1=>?_) (λzz=>?_);rotate_left;refine ac zz λc2 bo=>?_;clear zz;subst c2;clear hf ho;subst bo;rotate_right)
  ·(refine a2 (dB e2) (λe2=>?_) (λzz=>?_);rotate_left;refine ac zz λc2 bo=>?_;clear zz;subst c2;clear ho;subst bo;rotate_right)
   .exact S.free i f a e1 e2 q
   .have:=(List.getElem?_eq_some_iff.mp e1).1;rw[S.len] at this;exact absurd this (ka _)
  ·(refine a2 (dB e2) (λe2=>?_) (λzz=>?_);rotate_left;refine ac zz λ_ bo=>?_;clear zz;subst bo;rotate_right)
   .have:=(List.getElem?_eq_some_iff.mp e2).1;rw[S.len] at this;exact absurd this (ka _)
   .exact⟨S.lt_g hn,S.lt_r hn,S.lt_t hn⟩
 nd:=λi j p c a e1 e2 q q' e3 e4=>by
  have fz:∀{i:Nat}{f:MO},O[i]? =some f->isFz f=false->b2[i]?≠some n:=λ{i}{f} a1 q d=>by
   refine al (S.lt_o hn d) λs bb c5=>?_;rw[a1] at bb;cases bb;rw[q] at c5;exact ftf c5
  have t:∀{i:Nat}{f:MO}{a:Addr},O[i]? =some f->(b2++[n])[i]? =some a->b2[i]? =some a:=λ{i}{f}{a} a1 d=>by
   (refine a2 (dB d) (λd=>?_) (λzz=>?_);rotate_left;refine ac zz λc2 bo=>?_;clear zz;subst c2;clear hn ho;subst bo;rotate_right)
   .exact d
   .have:=(List.getElem?_eq_some_iff.mp a1).1;rw[S.len] at this;exact absurd this (ka _)
  have new:∀{a:Addr},(b2++[n])[O.length]? =some a->a=n:=λ{a} d=>by
   (refine a2 (dB d) (λd=>?_) (λzz=>?_);rotate_left;refine ac zz λ_ bo=>?_;clear zz;clear hn ho;subst bo;rotate_right)
   .have:=(List.getElem?_eq_some_iff.mp d).1;rw[S.len] at this;exact absurd this (ka _)
   .rfl
  (refine bc λno=>a2 (dB e1) (λf1=>?_) (λzz=>?_);refine no ?_;clear no;rotate_left;refine ac zz λz1 y1=>no ?_;clear no;rotate_right)<;>(refine bc λno=>a2 (dB e2) (λf2=>?_) (λzz=>?_);refine no ?_;clear no;rotate_left;refine ac zz λv I=>no ?_;clear no;rotate_right)
  .exact S.nd i j _ _ a f1 f2 q q' (t f1 e3) (t f2 e4)
  .rw[v] at e4;have z:=new e4;exact absurd (z▸t f1 e3) (fz f1 q)
  .rw[z1] at e3;exact absurd ((new e3)▸t f2 e4) (fz f2 q')
  .exact z1.trans v.symm
 gr:=S.gr
 gt:=S.gt
 tabs:=(S.keep k).tabs
 frs:=(S.keep k).frs
noncomputable def upd(g:ay)(n:Addr)(o:Obj):ay:=λb=>if b=n then some o else g b
theorem eR(g:ay)(n:Addr)(o:Obj):upd g n o n=some o:=eb rfl
theorem aZ.upd{g:ay}(o:Obj)(hn:g n=none):aZ g (upd g n o):=λb x e=>by
 refine(?_:(if b=n then some o else g b)=some x)
 by_cases q:b=n
 .subst q;rw[hn] at e;exact nso e
 .refine a0 (hW q) ?_;exact e
theorem St.hold(S:St b1 r g b2 l O h)(ho:h.get? n=some o)(hg:g n=none)(hr:r n=none)(ht:¬b1.tab n)(hl:∀e∈l,e.frame≠some n)
  (Y:∀(i:Nat)(Q:MO),O[i]? =some Q->b2[i]? =some n->isFz Q=true):St b1 r (upd g n o) b2 l O h where
 base:=λb x e=>aZ.upd o hg _ _ (S.base b x e)
 fr:=λb x e=>by
  unfold upd at e
  by_cases q:b=n
  .subst q;rw[if_pos rfl] at e;cases e;exact ho
  .rw[if_neg q] at e;exact S.fr b x e
 rs:=S.rs
 len:=S.len
 own:=λi Q a e1 e2=>(S.own i Q a e1 e2).mono (aZ.upd o hg) (.refl _) (.same λ_ e=>e)
 free:=λi Q a e1 e2 q=>by
  refine bc λno=>aw (S.free i Q a e1 e2 q) λf1 f2 u=>no (⟨?_,f2,u⟩);unfold upd;rw[if_neg (λe=>by clear ho;subst e;rw[Y i Q e1 e2] at q;exact tff q)];exact f1
 nd:=S.nd
 gr:=λb x e=>by
  refine ac (S.gr b x e) λf1 f2=>⟨?_,f2⟩;unfold upd;rw[if_neg (λq=>by clear ho Y;subst q;rw[hr] at e;exact nso e)];exact f1
 gt:=λb x e=>by
  unfold upd at e
  by_cases q:b=n
  .clear ho hr Y;subst q;exact ht
  .rw[if_neg q] at e;exact S.gt b x e
 tabs:=λq hq=>by
  refine cD (S.tabs q hq) λps e t x=>⟨ps,e,t,λc4 bd e=>by refine b9 (x c4 bd e) λc D e1 e2 e3=>⟨c,D,e1,aZ.upd o hg _ _ e2,e3⟩⟩
 frs:=λe he=>by
  refine bc λno=>ac (S.frs e he) λe0 cv=>aq cv λL o' M=>bS M λe1 e2 e3 e4 e5=>no (⟨e0,L,o',e1,e2,e3,?_,e5⟩);unfold upd;rw[if_neg (λq=>hl e he (by exact rwm _ (rwm _ rfl q) e1))];exact e4
theorem St.allocG(S:St b1 r g b2 l O h)(hn:h.get? n=none)(k:∀b o,h.get? b=some o->b5.get? b=some o)(ho:b5.get? n=some o):St b1 r (upd g n o) b2 l O b5:=
 (S.keep k).hold ho (S.lt_g hn) (S.lt_r hn) (S.lt_t hn) (λe he q=>by(refine bc λno=>ac (S.frs e he) λ_ D=>aq D λL o' c3=>aw c3 λe1 e2 _=>no ?_;clear c3 D no);rw[q] at e1;cases e1;rw[hn] at e2;exact nso e2)
  λi Q e1 e2=>by refine al (S.lt_o hn e2) λf e3 q=>?_;rw[e1] at e3;cases e3;exact q
theorem h9{α:Type}{l:List α}{x y:α}(e:(l.set i x)[j]? =some y):(j=i/\y=x/\i<l.length)\/(j≠i/\l[j]? =some y):=by
 by_cases q:j=i
 .subst q;have hl:=(List.getElem?_eq_some_iff.mp e).1;rw[List.length_set] at hl;rw[List.getElem?_set_self hl] at e;cases e;exact .inl ⟨rfl,rfl,hl⟩
 .rw[List.getElem?_set_ne (λh=>q h.symm)] at e;exact .inr ⟨q,e⟩
theorem St.set(S:St b1 r g b2 l O h)(hi:O[i]? =some Q)(hf:isFz Q=false)(ha:b2[i]? =some a)(hx:Heap.ExtBut a h b5)(n:isFz f=false)
  (hn:OR b1.w g b2 b5 f a)(hc:∀o,h.get? a=some o->o.cls= .type "frame"->∃o',b5.get? a=some o'/\o'.cls= .type "frame"):St b1 r g b2 l (O.set i f) b5 where
 base:=S.base
 fr:=λb o e=>hx b o (λq=>by subst q;rw[(S.free i Q b hi ha hf).1] at e;exact nso e) (S.fr b o e)
 rs:=λb o e=>by
  refine al (S.rs b o e) λo' e' q=>⟨o',hx b o' (λq=>by subst q;rw[(S.free i Q b hi ha hf).2.1] at e;exact nso e) e',q⟩
 len:=by refine rwm _ ?_ np;exact S.len
 own:=λj c b e1 e2=>by
  (refine a2 (h9 e1) (λzz=>?_) (λzz=>?_);refine aw zz λc2 bo _=>?_;clear zz;subst c2;clear n;subst bo;rotate_left;refine ac zz λq e1=>?_;clear zz;rotate_right)
  .rw[ha] at e2;cases e2;exact hn
  .cases hz:isFz c with
   |true=>
    exact(S.own j c b e1 e2).still hz
   |false=>
    have hb:b≠a:=λe=>by clear hn;subst e;exact q (S.nd j i _ _ b e1 hi hz hf e2 ha)
    exact(S.own j c b e1 e2).mono (.refl _) (.refl _) (.same λo e=>hx b o hb e)
 free:=λj c b e1 e2 q=>by
  (refine a2 (h9 e1) (λzz=>?_) (λzz=>?_);refine aw zz λc2 bo _=>?_;clear zz;subst c2;clear n hn;subst bo;rotate_left;refine ac zz λ_ e1=>?_;clear zz;rotate_right)
  .rw[ha] at e2;cases e2;exact S.free _ _ _ hi ha hf
  .exact S.free j _ b e1 e2 q
 nd:=λj k c d b e1 e2 q1 q2 e3 e4=>by
  (refine bc λno=>a2 (h9 e1) (λzz=>aw zz λz1 _ _=>no ?_) (λzz=>ac zz λ_ f1=>no ?_)<;>clear zz no)<;>(refine bc λno=>a2 (h9 e2) (λzz=>aw zz λv _ _=>no ?_) (λzz=>ac zz λ_ f2=>no ?_)<;>clear zz no)
  .exact z1.trans v.symm
  .subst z1;exact S.nd _ _ _ _ b hi f2 hf q2 e3 e4
  .subst v;exact S.nd _ _ _ _ b f1 hi q1 hf e3 e4
  .exact S.nd _ _ _ _ b f1 f2 q1 q2 e3 e4
 gr:=S.gr
 gt:=S.gt
 tabs:=λq hq=>by
  refine cD (S.tabs q hq) λps e t x=>⟨ps,hx _ _ (λe'=>(S.free i Q a hi ha hf).2.2 ⟨q,hq,e'⟩) e,t,x⟩
 frs:=λe he=>by
  (refine bc λno=>ac (S.frs e he) λe0 cv=>aq cv λL o' M=>bS M λe1 e2 e3 e4 e5=>no ?_;clear M cv no)
  by_cases q:L=a
  .clear ha hn;subst q;refine al (hc o' e2 e3) λp e6 e7=>⟨e0,L,p,e1,e6,e7,e4,e5⟩
  .exact⟨e0,L,o',e1,hx _ _ q e2,e3,e4,e5⟩
theorem St.fz(S:St b1 r g b2 l O h)(ha:b2[i]? =some a)(hf:isFz Q=true)(hv:OR b1.w g b2 h Q a):St b1 r g b2 l (O.set i Q) h where
 base:=S.base
 fr:=S.fr
 rs:=S.rs
 len:=by refine rwm _ ?_ np;exact S.len
 own:=λj c b e1 e2=>by
  (refine a2 (h9 e1) (λzz=>?_) (λzz=>?_);refine aw zz λc2 bo _=>?_;clear zz;subst c2;subst bo;rotate_left;refine ac zz λq e1=>?_;clear zz;rotate_right)
  .rw[ha] at e2;cases e2;exact hv
  .exact S.own j c b e1 e2
 free:=λj c b e1 e2 q=>by
  (refine a2 (h9 e1) (λzz=>?_) (λzz=>?_);refine aw zz λc2 bo _=>?_;clear zz;clear ha;subst c2;clear hv;subst bo;rotate_left;refine ac zz λ_ e1=>?_;clear zz;rotate_right)
  .rw[hf] at q;exact tff q
  .exact S.free j _ b e1 e2 q
 nd:=λj k c d b e1 e2 q1 q2 e3 e4=>by
  (refine bc λno=>a2 (h9 e1) (λzz=>aw zz λz1 y1 _=>no ?_) (λzz=>ac zz λ_ f1=>no ?_)<;>clear zz no)<;>(refine bc λno=>a2 (h9 e2) (λzz=>aw zz λv I _=>no ?_) (λzz=>ac zz λ_ f2=>no ?_)<;>clear zz no)
  .exact z1.trans v.symm
  .clear hv e1 e2;subst y1;rw[hf] at q1;exact tff q1
  .clear hv e1 e2;subst I;rw[hf] at q2;exact tff q2
  .exact S.nd _ _ _ _ b f1 f2 q1 q2 e3 e4
 gr:=S.gr
 gt:=S.gt
 tabs:=S.tabs
 frs:=S.frs
end
section
variable {α β:Type}{q:α}
noncomputable def un(l:List β)(f:β->List β->Option α):Option α:=match l with
 |a::l=>f a l
 |[]=>none
noncomputable def nl(l:List β)(x:Option α):Option α:=match l with
 |[]=>x
 |_::_=>none
@[elab_as_elim] theorem cK{f:β->List β->Option α}{P:List β->Prop}(h:un l f=some q)(k:∀a N,f a N=some q->P (a::N)):P l:=by
 cases l with
 |nil=>exact nso h
 |cons a l=>exact k a l h
@[elab_as_elim] theorem bT{P:List β->Prop}(h:nl l x=some q)(k:x=some q->P []):P l:=by
 cases l with
 |nil=>exact k h
 |cons a l=>exact nso h
noncomputable def aT(v:V)(f:T->Option α):Option α:=match v with
 | .t t=>f t
 | .own _=>none
noncomputable def lD(v:V)(n:Nat)(x:Option α):Option α:=match v with
 | .t _=>none
 | .own i=>cond (Nat.beq i n) x none
@[elab_as_elim] theorem bY{f:T->Option α}{P:V->Prop}(h:aT v f=some q)(k:∀t,f t=some q->P (.t t)):P v:=by
 cases v with
 |t t=>exact k t h
 |own i=>exact nso h
@[elab_as_elim] theorem mE{P:V->Prop}(h:lD v n x=some q)(k:x=some q->P (.own n)):P v:=by
 cases v with
 |t t=>exact nso h
 |own i=>
  have h2:cond (Nat.beq i n) x none=some q:=h
  cases hb:Nat.beq i n with
  |false=>rw[hb] at h2;exact nso h2
  |true=>rw[hb] at h2;have e:=hY hb;clear h hb;subst e;exact k h2
noncomputable def fJ(t:T)(f:Int->Option α):Option α:=match t with
 | .int n=>f n
 |_=>none
noncomputable def eS(t:T)(f:Str->Option α):Option α:=match t with
 | .str n=>f n
 |_=>none
noncomputable def tn(t:T)(f:Bool->Option α):Option α:=match t with
 | .bool n=>f n
 |_=>none
noncomputable def xg(t:T)(f:Array UInt8->Option α):Option α:=match t with
 | .bytes n=>f n
 |_=>none
noncomputable def fK(t:T)(f:List T->Option α):Option α:=match t with
 | .list n=>f n
 |_=>none
def pY(t:T)(x:Option α):Option α:=match t with
 | .dict l=>nl l x
 |_=>none
noncomputable def j4(t:T)(f:eP->T->Option α):Option α:=match t with
 | .box k t=>f k t
 |_=>none
@[elab_as_elim] theorem ia{f:Int->Option α}{P:T->Prop}(h:fJ t f=some q)(k:∀n,f n=some q->P (.int n)):P t:=by
 cases t<;>first|exact nso h|exact k _ h
@[elab_as_elim] theorem ge{f:Str->Option α}{P:T->Prop}(h:eS t f=some q)(k:∀n,f n=some q->P (.str n)):P t:=by
 cases t<;>first|exact nso h|exact k _ h
@[elab_as_elim] theorem xh{f:Bool->Option α}{P:T->Prop}(h:tn t f=some q)(k:∀n,f n=some q->P (.bool n)):P t:=by
 cases t<;>first|exact nso h|exact k _ h
@[elab_as_elim] theorem Fk{f:Array UInt8->Option α}{P:T->Prop}(h:xg t f=some q)(k:∀n,f n=some q->P (.bytes n)):P t:=by
 cases t<;>first|exact nso h|exact k _ h
@[elab_as_elim] theorem j5{f:List T->Option α}{P:T->Prop}(h:fK t f=some q)(k:∀n,f n=some q->P (.list n)):P t:=by
 cases t<;>first|exact nso h|exact k _ h
@[elab_as_elim] theorem to{P:T->Prop}(h:pY t x=some q)(k:x=some q->P (.dict [])):P t:=by
 cases t<;>first|exact nso h|(refine bT h k)
@[elab_as_elim] theorem jm{f:eP->T->Option α}{P:T->Prop}(h:j4 t f=some q)(k:∀g X,f g X=some q->P (.box g X)):P t:=by
 cases t<;>first|exact nso h|exact k _ _ h
noncomputable def xi(g:eP)(f:List (Int×Int×Int)->Option α):Option α:=match g with
 | .tape c=>f c
 |_=>none
@[elab_as_elim] theorem Fm{f:List (Int×Int×Int)->Option α}{P:eP->Prop}(h:xi g f=some q)(k:∀c,f c=some q->P (.tape c)):P g:=by
 cases g<;>first|exact nso h|exact k _ h
noncomputable def tq(g:eP)(f:ah->Option α):Option α:=match g with
 | .doc c=>f c
 |_=>none
@[elab_as_elim] theorem xj{f:ah->Option α}{P:eP->Prop}(h:tq g f=some q)(k:∀c,f c=some q->P (.doc c)):P g:=by
 cases g<;>first|exact nso h|exact k _ h
noncomputable def xk(g:eP)(f:ah->Option α):Option α:=match g with
 | .told c=>f c
 |_=>none
@[elab_as_elim] theorem Fn{f:ah->Option α}{P:eP->Prop}(h:xk g f=some q)(k:∀c,f c=some q->P (.told c)):P g:=by
 cases g<;>first|exact nso h|exact k _ h
noncomputable def xm(g:eP)(f:Nat->Option α):Option α:=match g with
 | .ints c=>f c
 |_=>none
@[elab_as_elim] theorem Fo{f:Nat->Option α}{P:eP->Prop}(h:xm g f=some q)(k:∀c,f c=some q->P (.ints c)):P g:=by
 cases g<;>first|exact nso h|exact k _ h
noncomputable def xn(g:eP)(f:Nat->Option α):Option α:=match g with
 | .plain c=>f c
 |_=>none
@[elab_as_elim] theorem xo{f:Nat->Option α}{P:eP->Prop}(h:xn g f=some q)(k:∀c,f c=some q->P (.plain c)):P g:=by
 cases g<;>first|exact nso h|exact k _ h
noncomputable def xq(g:eP)(f:List Int->(Int->Bool)->Option α):Option α:=match g with
 | .sts c d=>f c d
 |_=>none
@[elab_as_elim] theorem xr{f:List Int->(Int->Bool)->Option α}{P:eP->Prop}(h:xq g f=some q)(k:∀c d,f c d=some q->P (.sts c d)):P g:=by
 cases g<;>first|exact nso h|exact k _ _ h
end
noncomputable def d4{α:Type}(x y:Option α):Option α:=match x with
 |some a=>some a
 |none=>y
theorem gM{α:Type}{q:α}{x y:Option α}{P:Prop}(h:d4 x y=some q)(k:x=some q->P)(E:y=some q->P):P:=by
 cases x with
 |some a=>exact k h
 |none=>exact E h
noncomputable def tw{α:Type}(t:T)(x:Option α):Option α:=match t with
 | .none=>x
 |_=>none
@[elab_as_elim] theorem xt{α:Type}{q:α}{t:T}{x:Option α}{P:T->Prop}(h:tw t x=some q)(k:x=some q->P .none):P t:=by
 cases t<;>first|exact nso h|exact k h
noncomputable def xv{α:Type}(t:T)(f:Addr->List (Str×T)->Option α):Option α:=match t with
 | .inst C fs=>f C fs
 |_=>none
@[elab_as_elim] theorem Fp{α:Type}{q:α}{f:Addr->List (Str×T)->Option α}{P:T->Prop}(h:xv t f=some q)(k:∀C fs,f C fs=some q->P (.inst C fs)):P t:=by
 cases t<;>first|exact nso h|exact k _ _ h
noncomputable def lE{α:Type}(t:T)(f:List (aj×T)->Option α):Option α:=match t with
 | .dict n=>f n
 |_=>none
@[elab_as_elim] theorem pZ{α:Type}{q:α}{f:List (aj×T)->Option α}{P:T->Prop}(h:lE t f=some q)(k:∀n,f n=some q->P (.dict n)):P t:=by
 cases t<;>first|exact nso h|exact k _ h
noncomputable def xw{α:Type}(t:T)(f:List T->Option α):Option α:=match t with
 | .tuple n=>f n
 |_=>none
@[elab_as_elim] theorem Fq{α:Type}{q:α}{f:List T->Option α}{P:T->Prop}(h:xw t f=some q)(k:∀n,f n=some q->P (.tuple n)):P t:=by
 cases t<;>first|exact nso h|exact k _ h
theorem eT{α:Type}{c:Prop}[Decidable c]{x:Option α}{y:α}(q:(if c then x else none)=some y):c/\x=some y:=by
 by_cases h:c
 .rw[if_pos h] at q;exact⟨h,q⟩
 .rw[if_neg h] at q;exact nso q
theorem mF{α:Type}{c:Prop}[Decidable c]{x:Option α}{y:α}(q:(if c then none else x)=some y):¬c/\x=some y:=by
 by_cases h:c
 .rw[if_pos h] at q;exact nso q
 .rw[if_neg h] at q;exact⟨h,q⟩
theorem j6{α β:Type}{c:Prop}[Decidable c]{f b:α->β}{a:α}:(if c then f else b) a=if c then f a else b a:=by
 by_cases h:c
 .exact rwm _ (rwm _ rfl (eb h)) (eb h)
 .exact rwm _ (rwm _ rfl (hW h)) (hW h)
theorem cL{α β:Type}{c:Prop}[Decidable c]{f:α->Option β}{a:α}{y:β}(q:(if c then f else λ_=>none) a=some y):c/\f a=some y:=eT (j6.symm.trans q)
theorem Fr{α β:Type}{c:Prop}[Decidable c]{f:α->Option β}{a:α}{y:β}(q:(if c then λ_=>none else f) a=some y):¬c/\f a=some y:=mF (j6.symm.trans q)
theorem gN{α β:Type}{c:Prop}[Decidable c]{f b:α->Option β}{a:α}{y:β}{P:Prop}(q:(if c then f else b) a=some y)(k:c->f a=some y->P)(E:¬c->b a=some y->P):P:=by
 by_cases h:c
 .rw[if_pos h] at q;exact k h q
 .rw[if_neg h] at q;exact E h q
theorem fL{α:Type}{P:α->Prop}{x y:α}(q:some x=some y)(h:P x):P y:=by cases q;exact h
section
variable {α:Type}{q:α}
def lF(be:List V)(f:V->Option α):Option α:=un be λa l=>nl l (f a)
def tx(be:List V)(f:V->V->Option α):Option α:=un be λa l=>un l λb l=>nl l (f a b)
@[elab_as_elim] theorem mG{f:V->Option α}{P:List V->Prop}(h:lF be f=some q)(k:∀a,f a=some q->P [a]):P be:=by
 refine cK h λa l h=>bT h λh=>k a h
@[elab_as_elim] theorem xx{f:V->V->Option α}{P:List V->Prop}(h:tx be f=some q)(k:∀a b,f a b=some q->P [a,b]):P be:=by
 refine cK h λa l h=>cK h λb l h=>bT h λh=>k a b h
noncomputable def tA(v:V)(f:Nat->Option α):Option α:=match v with
 | .t _=>none
 | .own i=>f i
@[elab_as_elim] theorem xy{f:Nat->Option α}{P:V->Prop}(h:tA v f=some q)(k:∀i,f i=some q->P (.own i)):P v:=by
 cases v with
 |t t=>exact nso h
 |own i=>exact k i h
noncomputable def tB(m:MO)(f:List (aj×T)->Option α):Option α:=match m with
 | .dict l=>f l
 |_=>none
noncomputable def tC(m:MO)(f:List T->Option α):Option α:=match m with
 | .list l=>f l
 |_=>none
@[elab_as_elim] theorem Fs{f:List (aj×T)->Option α}{P:MO->Prop}(h:tB m f=some q)(k:∀l,f l=some q->P (.dict l)):P m:=by
 cases m<;>first|exact nso h|exact k _ h
@[elab_as_elim] theorem Ft{f:List T->Option α}{P:MO->Prop}(h:tC m f=some q)(k:∀l,f l=some q->P (.list l)):P m:=by
 cases m<;>first|exact nso h|exact k _ h
end
abbrev MM(α:Type):=af->Option (Except Addr α×af)
noncomputable def pm{α:Type}(a:α):MM α:=λO=>some (.ok a,O)
noncomputable def bm{α β:Type}(m:MM α)(f:α->MM β):MM β:=λO=>match m O with
 |some (.ok a,M)=>f a M
 |some (.error c,M)=>some (.error c,M)
 |none=>none
noncomputable def om{α:Type}(x:Option α):MM α:=λO=>match x with|some a=>some (.ok a,O)|none=>none
noncomputable def new(Q:MO):MM Nat:=λO=>some (.ok O.length,O++[Q])
noncomputable def bP(Q:MO):MM V:=λO=>some (.ok (.own O.length),O++[Q])
noncomputable def bw(i:Nat):MM MO:=λO=>match O[i]?with|some Q=>some (.ok Q,O)|none=>none
noncomputable def put(i:Nat)(Q:MO):MM Unit:=λO=>some (.ok (),O.set i Q)
noncomputable def eU{α β:Type}(f:α->MM β):List α->MM (List β)
 |[]=>pm []
 |a::l=>bm (f a) λb=>bm (eU f l) λH=>pm (b::H)
structure AE where
 scope:Scope
 lh:Nat
 cells:List (Str×Nat)
 qual:Str
 code:Addr
set_option tactic.hygienic true in
inductive Fl where
 |next|ret (v:V)
noncomputable def strip:T->T
 | .box _ t=>strip t
 |t=>t
def xz:MO->Option T
 | .list U=>some (.list U)
 | .dict N=>some (.dict N)
 | .fz t=>some (strip t)
 |_=>none
def vw(v:V)(O:af):Option T:=match v with
 | .t t=>some (strip t)
 | .own i=>O[i]?.bind xz
def aE(v:V):MM T:=λO=>match vw v O with|some t=>some (.ok t,O)|none=>none
noncomputable def tD(f:V->MM T):List (Str×V)->MM (List (Str×T))
 |[]=>pm []
 |(k,v)::r=>bm (f v) λt=>bm (tD f r) λts=>pm ((k,t)::ts)
noncomputable def oj:Nat->V->MM T
 |_,.t t=>pm t
 |0,.own _=>λ_=>none
 |n+1,.own i=>bm (bw i) λQ=>match Q with
  | .list U=>bm (put i (.fz (.list U))) λ_=>pm (.list U)
  | .dict N=>bm (put i (.fz (.dict N))) λ_=>pm (.dict N)
  | .fz t=>pm t
  | .sh C fs=>bm (tD (oj n) fs) λts=>bm (put i (.fz (.inst C ts))) λ_=>pm (.inst C ts)
  |_=>λ_=>none
noncomputable def fr:V->MM T:=oj 4
noncomputable def qa(d:Str->Option T)(e:AE)(n:Str):MM V:=match e.scope.names.lookup n with
 |some .local=>bm (bw e.lh) λQ=>match Q with
  | .ns _ N=>om (N.lookup n)
  |_=>λ_=>none
 |some .cell|some .free=>match e.cells.lookup n with
  |some c=>bm (bw c) λQ=>match Q with
   | .cell v=>om v
   |_=>λ_=>none
  |none=>λ_=>none
 |some _=>om ((d n).map .t)
 |none=>λ_=>none
def jn(e:AE)(n:Str)(v:V):MM Unit:=match e.scope.names.lookup n with
 |some .local=>bm (bw e.lh) λQ=>match Q with
  | .ns f N=>put e.lh (.ns f (dM N n v))
  |_=>λ_=>none
 |some .cell=>match e.cells.lookup n with
  |some c=>bm (bw c) λQ=>match Q with
   | .cell _=>put c (.cell (some v))
   |_=>λ_=>none
  |none=>λ_=>none
 |_=>λ_=>none
noncomputable def aJ(n:Nat):Bool:=n<=sizeLine
noncomputable def bg(N:List (aj×T))(k:aj):Option T:=N.lookup k
noncomputable def bj(N:List (aj×T))(k:aj)(v:T):List (aj×T):=
 if N.any (λG=>decide (G.1=k)) then N.map (λG=>if G.1=k then(G.1,v) else G) else N++[(k,v)]
noncomputable def gO(N:List (aj×T))(k:aj):List (aj×T):=N.filter λG=>decide (G.1≠k)
noncomputable def cE:T->Option aj
 | .int i=>some (.int i)
 | .str s=>some (.str s)
 |_=>none
noncomputable def dN:aj->T
 | .int i=> .int i
 | .str s=> .str s
def j7:T->Option Bool
 | .none=>some false
 | .bool b=>some b
 | .int i=>some (i !=0)
 | .list U=>if aJ U.length then some (!U.isEmpty) else none
 | .dict U=>if aJ U.length then some (!U.isEmpty) else none
 |_=>none
noncomputable def dO:T->T->Option Bool
 | .int a,.int b=>some (decide (a=b))
 | .str a,.str b=>some (decide (a=b))
 | .int _,.str _=>some false
 | .str _,.int _=>some false
 |_,_=>none
noncomputable def gP:List T->List T->Option Bool
 |[],[]=>some true
 |[],_::_=>some false
 |_::_,[]=>some false
 |a::l,b::m=>match dO a b,gP l m with
  |some x,some y=>some (x&&y)
  |_,_=>none
def qb:T->T->Option Bool
 | .list a,.list b=>gP a b
 | .dict a,.dict []=>some a.isEmpty
 |a,b=>dO a b
noncomputable def gf(x:T):List T->Option Bool
 |[]=>some false
 |a::l=>match dO a x,gf x l with
  |some p,some q=>some (p||q)
  |_,_=>none
def fM(x:T):T->Option Bool
 | .list U=>gf x U
 | .tuple U=>gf x U
 | .dict N=>(cE x).map λk=>(bg N k).isSome
 | .str y=>match x with| .str z=>some (Txt.contains y z)|_=>none
 |_=>none
noncomputable def mH(f:Int->Int->Bool)(a b:T):Option Bool:=match a,b with
 | .int x,.int y=>some (f x y)
 |_,_=>none
def gQ(w:CmpOp)(a b:T):Option Bool:=match w with
 | .Eq=>qb a b
 | .NotEq=>(qb a b).map (!·)
 | .Lt=>mH (λx y=>decide (x<y)) a b
 | .LtE=>mH (λx y=>decide (x<=y)) a b
 | .Gt=>mH (λx y=>decide (x>y)) a b
 | .GtE=>mH (λx y=>decide (x>=y)) a b
 | .In=>fM a b
 | .NotIn=>(fM a b).map (!·)
 |_=>none
noncomputable def isNone:V->Option Bool
 | .t .none=>some true
 | .t (.bi _)=>none
 | .t (.box _ _)=>none
 |_=>some false
def dP(op:CmpOp)(a b:V):MM Bool:=match op with
 | .Is=>match b with
  | .t .none=>om (isNone a)
  |_=>λ_=>none
 | .IsNot=>match b with
  | .t .none=>om ((isNone a).map (!·))
  |_=>λ_=>none
 |op=>bm (aE a) λx=>bm (aE b) λy=>om (gQ op x y)
noncomputable def ol(a b:Int):Bool:= !(decide (Builtin.Int.intBits a>shortFactorBits)&&decide (Builtin.Int.intBits b>shortFactorBits)&&Builtin.Int.intTooBig (Builtin.Int.intBits a+Builtin.Int.intBits b))
def eG(w:Operator)(a b:T):MM V:=match w,a,b with
 | .Add,.int x,.int y=>pm (.t (.int (x+y)))
 | .Sub,.int x,.int y=>pm (.t (.int (x - y)))
 | .Mult,.int x,.int y=>if ol x y then pm (.t (.int (x*y))) else λ_=>none
 | .FloorDiv,.int x,.int y=>if y=0 then λ_=>none else if Builtin.divisionGoesByPylong x y then λ_=>none else pm (.t (.int (x.fdiv y)))
 | .Mod,.int x,.int y=>if y=0 then λ_=>none else pm (.t (.int (x.fmod y)))
 | .Add,.str x,.str y=>if aJ (x.length+y.length) then pm (.t (.str (x++y))) else λ_=>none
 | .Add,.list U,.list ys=>if aJ (U.length+ys.length) then bP (.list (U++ys)) else λ_=>none
 |_,_,_=>λ_=>none
noncomputable def jo(n:Nat)(i:Int):Option Nat:=if -(2^63)<=i/\i<2^63 then seqIndex? i n else none
def dQ(o i:T):Option T:=match o,i with
 | .list U,.int k=>(jo U.length k).bind (U[·]?)
 | .tuple U,.int k=>(jo U.length k).bind (U[·]?)
 | .dict N,k=>(cE k).bind (bg N)
 |_,_=>none
structure j8 where
 st:Stmt
 qual:Str
 dfl:List T
 code:Addr
structure bt where
 glob:Str->Option T
 con:Addr->List V->af->Option (Option (Except Addr T×af))
 fns:Addr->Option j8
 init:Addr->Option Addr
 meth:Addr->Str->Option Addr
 sub:Addr->Addr->Bool
 exc:Addr->Bool
 fld:Addr->Str->Bool
 kd:Addr->Option Bool
 tb:Addr->Option Str
 isi:Nat->Nat->Option Bool
noncomputable def lG:T->Option Nat
 | .none=>some 0
 | .bool _=>some 1
 | .int _=>some 2
 | .str _=>some 3
 | .bytes _=>some 4
 | .list _=>some 5
 | .dict _=>some 6
 | .tuple _=>some 7
 | .box _ t=>lG t
 | .inst C _=>if C>7 then some C else none
 |_=>none
noncomputable def Fu:Nat->String
 |0=>"NoneType"
 |1=>"bool"
 |2=>"int"
 |3=>"str"
 |4=>"bytes"
 |5=>"list"
 |6=>"dict"
 |_=>"tuple"
def fm(n:Nat):Value:=if n<=7 then .type (Fu n) else .ref n
noncomputable def qc:T->Option Nat
 | .typ n=>if n="bool" then some 1 else if n="int" then some 2 else if n="str" then some 3 else if n="bytes" then some 4 else if n="list" then some 5 else if n="dict" then some 6 else if n="tuple" then some 7 else none
 | .top D=>if D>7 then some D else none
 |_=>none
noncomputable def lH(a:Int):Nat->List T
 |0=>[]
 |n+1=> .int a::lH (a+1) n
def d7:T->Option (List T)
 | .list U=>some U
 | .tuple U=>some U
 | .dict N=>some (N.map λp=>dN p.1)
 | .range a b=>if Builtin.Range.small a b 1 then some (lH a (Builtin.Range.rangeSize a b 1).toNat) else none
 | .str s=>some (s.cps.toList.map λc=> .str ⟨#[c]⟩)
 | .bytes b=>some (b.toList.map λc=> .int c.toNat)
 |_=>none
noncomputable def jp:List T->Option (List Str)
 |[]=>some []
 | .str s::r=>(jp r).map (s::·)
 |_=>none
noncomputable def cX:List T->Option (List Int)
 |[]=>some []
 | .int s::r=>(cX r).map (s::·)
 |_=>none
noncomputable def oo:List Int->Option Int
 |[]=>none
 |[a]=>some a
 |a::r=>(oo r).map λb=>if b>a then b else a
noncomputable def fo:List T->Option (List (aj×T))
 |[]=>some []
 | .tuple [k,v]::r=>match cE k,fo r with
  |some k,some l=>some ((k,v)::l)
  |_,_=>none
 |_=>none
noncomputable def j9(a:Int):List Int->List Int
 |[]=>[a]
 |b::r=>if b<a then b::j9 a r else a::b::r
noncomputable def iK:List Int->List Int
 |[]=>[]
 |a::r=>j9 a (iK r)
noncomputable def dp(i:Int):Str:=Str.ofString (toString i)
def ib(n:Nat):Option Nat:=if aJ n then some n else none
def jq(t:T):Option Nat:=d4 (fK t λU=>ib U.length) (d4 (xw t λU=>ib U.length) (d4 (lE t λU=>ib U.length) (eS t λs=>ib s.length)))
noncomputable def xA:List Nat->Option Nat
 |[c]=>some c
 |_=>none
def oq(n:String)(t:T):MM V:=
 if n="len" then om ((jq t).map λ(k:Nat)=>V.t (.int (k:Int)))
 else if n="ord" then λO=>eS t λs=>om ((xA s.cps.toList).map λ(c:Nat)=>V.t (.int (c:Int))) O
 else if n="chr" then λO=>fJ t λi=>(if 0<=i/\i<256 then pm (.t (.str ⟨#[i.toNat]⟩)) else λ_=>none) O
 else if n="max" then λO=>fK t λU=>om (((cX U).bind oo).map λi=> .t (.int i)) O
 else if n="sorted" then λO=>lE t λN=>bm (om (cX (N.map λp=>dN p.1))) (λl=>if l.length<64 then bP (.list ((iK l).map .int)) else λ_=>none) O
 else λ_=>none
def xB:V->MM Nat
 | .t t=>om (lG t)
 | .own i=>bm (bw i) λQ=>match Q with
  | .sh C _=>om (if C>7 then some C else none)
  | .list _=>pm 5
  | .dict _=>pm 6
  | .fz t=>om (lG t)
  |_=>λ_=>none
def tE(f:Nat->Nat->Option Bool)(a b:V):MM V:=match b with
 | .t c=>bm (xB a) λn=>bm (om (qc c)) λm=>om ((f n m).map λr=> .t (.bool r))
 |_=>λ_=>none
def jr(n:String)(t:T):MM V:=
 if n="range" then λO=>fJ t λi=>pm (.t (.range 0 i)) O
 else if n="list" then λO=>fK t λU=>(if aJ U.length then bP (.list U) else λ_=>none) O
 else if n="dict" then λO=>d4 (lE t λN=>(if aJ N.length then bP (.dict N) else λ_=>none) O)
  (fK t λU=>bm (om (fo U)) (λN=>if aJ N.length then bP (.dict (N.foldl (λd p=>bj d p.1 p.2) [])) else λ_=>none) O)
 else if n="str" then λO=>d4 (fJ t λi=>(if i.natAbs<1000000 then pm (.t (.str (dp i))) else λ_=>none) O) (eS t λs=>pm (.t (.str s)) O)
 else if n="int" then λO=>eS t λs=>(if s.length<=640 then om ((PySem.intText? s).map λi=> .t (.int i)) else λ_=>none) O
 else if n="bytes" then λO=>fK t λU=>bm (om (cX U)) (λl=>if(l.all λn=>decide (0<=n)&&decide (n<256))&&aJ l.length then pm (.t (.bytes (l.map λn=>n.toNat.toUInt8).toArray)) else λ_=>none) O
 else λ_=>none
def xC(a b:V):MM V:=λO=>aT a λa=>fJ a λi=>aT b λb=>fJ b λj=>pm (.t (.range i j)) O
def xD(P:bt)(f:T)(be:List V):MM V:=match f,be with
 | .bi n,[a]=>bm (aE a) λt=>oq n t
 | .bi n,[a,b]=>if n="isinstance" then tE P.isi a b else λ_=>none
 | .typ n,[a]=>bm (aE a) λt=>jr n t
 | .typ n,[a,b]=>if n="range" then xC a b else λ_=>none
 |_,_=>λ_=>none
noncomputable def nm(s:String):Str:=Str.ofString s
noncomputable def mI:T->Option Nat
 | .str _=>some 0
 | .dict _=>some 1
 | .list _=>some 2
 |_=>none
def lI(L:Nat)(n:Str):Option Nat:=match L with
 |0=>if n=nm "strip" then some 0 else if n=nm "split" then some 1 else if n=nm "join" then some 2 else none
 |1=>if n=nm "get" then some 3 else if n=nm "pop" then some 4 else none
 |_=>if n=nm "append" then some 5 else none
noncomputable def xE:Nat->String
 |0=>"str.strip"
 |1=>"str.split"
 |2=>"str.join"
 |3=>"dict.get"
 |4=>"dict.pop"
 |_=>"list.append"
def xF(t:T)(be:List V):MM V:=λO=>eS t λs=>lF be λa=>aT a λa=>eS a λc=>(if aJ s.length then pm (.t (.str (Txt.stripChars s c))) else λ_=>none) O
def xG(t:T)(be:List V):MM V:=λO=>eS t λs=>d4 (lF be λa=>aT a λa=>eS a λc=>(if c.length≠0/\aJ (s.length+2)=true then bP (.list ((Txt.split s c).map .str)) else λ_=>none) O)
 (tx be λa b=>aT a λa=>eS a λc=>aT b λb=>fJ b λk=>(if c.length≠0/\aJ (s.length+2)=true/\k=1 then bP (.list ((Txt.splitMax s c 1).map .str)) else λ_=>none) O)
def tF(t:T)(be:List V):MM V:=λO=>eS t λs=>lF be λv=>bm (aE v) (λt O=>fK t λU=>bm (om (jp U)) (λl=>if JoinOk s l then pm (.t (.str (Txt.join s l))) else λ_=>none) O) O
def tG(t:T)(be:List V):MM V:=λO=>lE t λN=>d4 (lF be λa=>aT a λk=>bm (om (cE k)) (λk=>pm (.t ((bg N k).getD .none))) O)
 (tx be λa d=>aT a λk=>bm (om (cE k)) (λk=>pm (match bg N k with|some t=> .t t|none=>d)) O)
def qd(o:V)(be:List V):MM V:=λO=>tA o λi=>lF be λa=>aT a λk=>bm (bw i) (λQ O=>tB Q λN=>bm (om (cE k)) (λk=>bm (om (bg N k)) λt=>if aJ N.length then bm (put i (.dict (gO N k))) λ_=>pm (.t t) else λ_=>none) O) O
def xH(o:V)(be:List V):MM V:=λO=>tA o λi=>lF be λv=>bm (fr v) (λt=>bm (bw i) λQ O=>tC Q λys=>(if aJ (ys.length+1) then bm (put i (.list (ys++[t]))) λ_=>pm (.t .none) else λ_=>none) O) O
def iL(k:Nat)(o:V)(be:List V):MM V:=match k with
 |0=>bm (aE o) λt=>xF t be
 |1=>bm (aE o) λt=>xG t be
 |2=>bm (aE o) λt=>tF t be
 |3=>bm (aE o) λt=>tG t be
 |4=>qd o be
 |_=>xH o be
noncomputable def qf:T->Bool
 | .bi _=>true
 |_=>false
def iM:V->Option V
 | .t t=>cond (qf (strip t)) none (some (.t t))
 |v=>some v
def mJ(fld:Addr->Str->Bool)(t:T)(n:Str):MM V:=match t with
 | .inst C fs=>if fld C n then om ((fs.lookup n).bind λt=>iM (.t t)) else λ_=>none
 |_=>λ_=>none
def xI(fld:Addr->Str->Bool)(n:Str)(Q:MO):MM V:=match Q with
 | .sh C fs=>if fld C n then om ((fs.lookup n).bind iM) else λ_=>none
 | .fz t=>mJ fld t n
 |_=>λ_=>none
def qg(fld:Addr->Str->Bool)(o:V)(n:Str):MM V:=match o with
 | .t t=>mJ fld (strip t) n
 | .own i=>bm (bw i) (xI fld n)
noncomputable def fN:Expr->Bool
 | .Call (.Name _ _) [] [] _=>false
 |_=>true
noncomputable def tH{α:Type}(n:Str)(C:Addr)(fs:List (Str×α)):MM (Option Addr):=if(fs.lookup n).isNone then pm (some C) else λ_=>none
noncomputable def qh(n:Str)(t:T):MM (Option Addr):=match t with
 | .inst C fs=>tH n C fs
 |_=>pm none
noncomputable def tI(n:Str)(Q:MO):MM (Option Addr):=match Q with
 | .sh C fs=>tH n C fs
 | .fz t=>qh n t
 |_=>pm none
def mK(o:V)(n:Str):MM (Option Addr):=match o with
 | .t t=>qh n (strip t)
 | .own i=>bm (bw i) (tI n)
noncomputable def mL(n:Nat):V->Bool
 | .t _=>true
 | .own i=>i<n
def tJ(n:Nat):MO->Bool
 | .ns _ N=>N.all λp=>mL n p.2
 | .idt N=>N.all λp=>mL n p.2
 | .cell (some v)=>mL n v
 | .sh _ fs=>fs.all λp=>mL n p.2
 | .clo _ _ _ _ cl=>cl.all λp=>p.2<n
 | .inst _ d=>d<n
 |_=>true
def trunc(n:Nat)(O:af):af:=if(O.take n).all (tJ n) then O.take n else O
def xJ(n k:Nat)(O:af)(x:Option MO):Option (Except Addr V×af):=match x with
 |some (.list U)=>some (.ok (.t (.list U)),trunc n (O.set k (.fz (.list U))))
 |some (.dict U)=>some (.ok (.t (.dict U)),trunc n (O.set k (.fz (.dict U))))
 |some (.fz t)=>some (.ok (.t t),trunc n O)
 |_=>some (.ok (.own k),O)
def fq(n:Nat)(v:V):MM V:=λO=>match v with
 | .t _=>some (.ok v,trunc n O)
 | .own k=>if k<n then some (.ok v,trunc n O) else xJ n k O O[k]?
noncomputable def jt(k:Nat):List Nat->Nat->Option Nat
 |[],_=>none
 |a::r,i=>if a=k then some i else jt k r (i+1)
structure Pk where
 σ:List Nat
 S:af
def qi(k:Nat)(Q:MO)(p:Pk):V×Pk:=match jt k p.σ 0 with
 |some i=>(.own i,p)
 |none=>(.own p.σ.length,⟨p.σ++[k],p.S++[Q]⟩)
def tK(k:Nat)(p:Pk)(x:Option MO):Option (V×Pk):=match x with
 |some (.fz t)=>some (.t t,p)
 |some (.list U)=>some (qi k (.list U) p)
 |some (.dict U)=>some (qi k (.dict U) p)
 |_=>none
def xK(v:V)(O:af)(p:Pk):Option (V×Pk):=match v with
 | .t t=>some (.t t,p)
 | .own k=>tK k p O[k]?
def tL(O:af):List (Str×V)->Pk->Option (List (Str×V)×Pk)
 |[],p=>some ([],p)
 |a::r,p=>(xK a.2 O p).bind λz=>(tL O r z.2).bind λy=>some ((a.1,z.1)::y.1,y.2)
noncomputable def xL{α:Type}(x:Option MO)(f:Addr->List (Str×V)->Option α)(y:Option α):Option α:=match x with
 |some (.sh C fs)=>f C fs
 |_=>y
noncomputable def Fv(k:Nat)(C:Addr)(z:List (Str×V)×Pk):Option (V×Pk):=if k∈z.2.σ then none else some (.own z.2.σ.length,⟨z.2.σ++[k],z.2.S++[.sh C z.1]⟩)
def Fw(O:af)(k:Nat)(p:Pk)(C:Addr)(fs:List (Str×V))(x:Option Nat):Option (V×Pk):=match x with
 |some i=>some (.own i,p)
 |none=>(tL O fs p).bind (Fv k C)
def xM(v:V)(O:af)(p:Pk):Option (V×Pk):=match v with
 | .t t=>some (.t t,p)
 | .own k=>xL O[k]? (λC fs=>Fw O k p C fs (jt k p.σ 0)) (tK k p O[k]?)
def iN(O:af):List V->Pk->Option (List V×Pk)
 |[],p=>some ([],p)
 |v::r,p=>(xM v O p).bind λz=>(iN O r z.2).bind λy=>some (z.1::y.1,y.2)
noncomputable def xN(p:List Nat):V->Option V
 | .t t=>some (.t t)
 | .own i=>(p[i]?).map .own
noncomputable def tM(p:List Nat):List (Str×V)->Option (List (Str×V))
 |[]=>some []
 |a::r=>(xN p a.2).bind λv'=>(tM p r).bind λr'=>some ((a.1,v')::r')
def ou(p:List Nat):MO->Option MO
 | .list U=>some (.list U)
 | .dict N=>some (.dict N)
 | .fz t=>some (.fz t)
 | .sh C fs=>(tM p fs).map (.sh C)
 |_=>none
def unpack(c:List Nat):List Nat->af->af->Option af
 |[],_,O=>some O
 |k::p,Q::S,O=>(ou c Q).bind λf=>unpack c p S (O.set k f)
 |_::_,[],_=>none
structure aG where
 ev:Expr->AE->MM V
 test:Expr->AE->MM Bool
 ex:Stmt->AE->MM Fl
 as:Expr->AE->V->MM Unit
 call:V->List V->MM V
def fO(v:V):MM Bool:=bm (aE v) λt=>om (j7 t)
noncomputable def a8(r:aG)(e:AE):List Expr->MM (List V)
 |[]=>pm []
 |a::l=>bm (r.ev a e) λv=>bm (a8 r e l) λvs=>pm (v::vs)
set_option tactic.hygienic true in
noncomputable def aR(r:aG)(e:AE):List Stmt->MM Fl
 |[]=>pm .next
 |s::l=>bm (r.ex s e) λf=>match f with
  | .next=>aR r e l
  | .ret v=>pm (.ret v)
def gR(r:aG)(e:AE)(w:BoolOp):List Expr->MM V
 |[]=>λ_=>none
 |[a]=>r.ev a e
 |a::l=>bm (r.ev a e) λv=>bm (fO v) λb=>match w,b with
  | .And,false| .Or,true=>pm v
  |_,_=>gR r e w l
noncomputable def iO(r:aG)(e:AE)(w:BoolOp):List Expr->MM Bool
 |[]=>pm (w== .And)
 |a::l=>bm (r.test a e) λb=>match w,b with
  | .And,false=>pm false
  | .Or,true=>pm true
  |_,_=>iO r e w l
def lJ(r:aG)(e:AE)(v:V):List CmpOp->List Expr->MM Bool
 |[w],[a]=>bm (r.ev a e) λu=>dP w v u
 |w::i::j,a::I::l=>bm (r.ev a e) λu=>bm (dP w v u) λb=>if b then lJ r e u (i::j) (I::l) else pm false
 |_,_=>λ_=>none
def mM(r:aG)(e:AE):List (Option Expr)->List Expr->MM (List (aj×T))
 |[],[]=>pm []
 |some k::C,v::vs=>bm (r.ev k e) λG=>bm (r.ev v e) λu=>bm (fr u) λt=>match G with
  | .t kt=>bm (om (cE kt)) λf=>bm (mM r e C vs) λj=>pm ((f,t)::j)
  |_=>λ_=>none
 |_,_=>λ_=>none
set_option tactic.hygienic true in
noncomputable def dC(f:T->MM Fl):List T->MM Fl
 |[]=>pm .next
 |t::l=>bm (f t) λfl=>match fl with
  | .next=>dC f l
  | .ret v=>pm (.ret v)
def bZ(f:T->MM (Option T)):List T->List T->MM (List T)
 |[],be=>pm be
 |t::l,be=>bm (f t) λx=>match x with
  |some y=>if aJ be.length then bZ f l (be++[y]) else λ_=>none
  |none=>bZ f l be
noncomputable def oy(r:aG)(e:AE):List Expr->MM Bool
 |[]=>pm true
 |a::l=>bm (r.test a e) λb=>if b then oy r e l else pm false
set_option tactic.hygienic true in
def mN(m:MM Fl)(n:Nat):MM Fl:=λO=>match m O with
 |some (.ok .next,M)=>some (.ok .next,trunc n M)
 |x=>x
noncomputable def d8:List Arg->List V->List T->Option (List (Str×V))
 |ps,vs,b=>if vs.length<=ps.length/\ps.length<=vs.length+b.length then some ((ps.map (·.arg)).zip (vs++(b.drop (b.length - (ps.length - vs.length))).map .t)) else none
noncomputable def et:List (Str×NameKind)->List (Str×Nat)->MM (List (Str×Nat))
 |[],be=>pm be
 |(n,.cell)::r,be=>bm (new (.cell none)) λc=>et r ((n,c)::be)
 |_::r,be=>et r be
def gS(e:AE):List (Str×V)->MM Unit
 |[]=>pm ()
 |(n,v)::r=>bm (jn e n v) λ_=>gS e r
noncomputable def eV(e:AE)(sc:Scope)(lh:Nat):Option AE:=
 if sc.names.any (λp=>p.2== .cell) then none else
 let fs:=(sc.names.filter λp=>p.2== .free).reverse
 match fs.mapM λp=>(e.cells.lookup p.1).map λc=>(p.1,c) with
 |some cl=>some ⟨{sc with names:=sc.names.map λ(n,k)=>if k== .free&&e.scope.kind== .function&&e.scope.names.lookup n==some .cell then(n,.cell) else(n,k)},lh,cl,e.qual,e.code⟩
 |none=>none
noncomputable def xO:Const->MM V
 | .none=>pm (.t .none)
 | .bool b=>pm (.t (.bool b))
 | .int i=>pm (.t (.int i))
 | .str s=>pm (.t (.str s))
 | .bytes b=>pm (.t (.bytes b.toArray))
 |_=>λ_=>none
def cu(d:Str->Option T)(e:AE)(n:Str):MM V:=if n==nm "__debug__"||n==nm "__classdict__" then λ_=>none else qa d e n
def qj(w:UnaryOp)(v:V):MM V:=match w with
 | .Not=>bm (fO v) λb=>pm (.t (.bool !b))
 | .USub=>match v with
  | .t (.int i)=>pm (.t (.int (-i)))
  |_=>λ_=>none
 |_=>λ_=>none
noncomputable def noStar:Expr->Bool
 | .Starred _ _=>false
 |_=>true
noncomputable def kb(P:bt)(fv:V):MM Unit:=match fv with
 | .t (.top a)=>if(P.kd a).isSome then pm () else λ_=>none
 | .t (.bi _)=>pm ()
 | .t (.typ _)=>pm ()
 | .own k=>bm (bw k) λQ=>match Q with
  | .clo _ _ _ _ _=>pm ()
  |_=>λ_=>none
 |_=>λ_=>none
def tN(P:bt)(r:aG)(e:AE)(f:Expr)(be:List Expr):MM V:=if be.all noStar&&decide (be.length<30) then bm (r.ev f e) λfv=>bm (a8 r e be) λvs=>bm (kb P fv) λ_=>r.call fv vs else λ_=>none
def tO(P:bt)(r:aG)(e:AE)(o:Expr)(n:Str)(be:List Expr)(d c4:Pos):MM V:=
 if d.endLine==c4.line&&be.all noStar&&decide (be.length<20)&&fN o then bm (r.ev o e) λM=>bm (mK M n) λc=>match c with
  |some C=>bm (om (P.meth C n)) λf=>bm (a8 r e be) λvs=>r.call (.t (.top f)) (M::vs)
  |none=>bm (aE M) λt=>bm (om (mI t)) λL=>bm (om (lI L n)) λk=>bm (a8 r e be) λvs=>iL k M vs
 else λ_=>none
def Fx(P:bt)(r:aG)(e:AE)(f:Expr)(be:List Expr)(c4:Pos):MM V:=match f with
 | .Attribute o n d=>tO P r e o n be d c4
 |f=>tN P r e f be
noncomputable def fP:Option V->Option (Option Int)
 |none=>some none
 |some (.t (.int k))=>some (some k)
 |_=>none
noncomputable def lK(U:List T)(lo hi st:Option Int):List T:=
 (sliceRange (sliceBounds lo hi st U.length).1 (sliceBounds lo hi st U.length).2.1 (sliceBounds lo hi st U.length).2.2).filterMap (U[·]?)
def qk(t:T)(lo hi st:Option V):MM V:=match t with
 | .list U=>match fP lo,fP hi,fP st with
  |some a,some b,some c=>if c≠some 0/\aJ U.length=true then bP (.list (lK U a b c)) else λ_=>none
  |_,_,_=>λ_=>none
 |_=>λ_=>none
noncomputable def iP(r:aG)(e:AE):Option Expr->MM (Option V)
 |none=>pm none
 |some x=>bm (r.ev x e) λv=>pm (some v)
def mO(r:aG)(e:AE)(M:V)(i:Expr):MM V:=match i with
 | .Slice lo hi st _=>bm (iP r e lo) λl=>bm (iP r e hi) λh=>bm (iP r e st) λs=>bm (aE M) λt=>qk t l h s
 |i=>bm (r.ev i e) λL=>bm (aE M) λt=>match L with
  | .t k=>om ((dQ t k).map .t)
  |_=>λ_=>none
def xP(r:aG)(e:AE)(o i:Expr):MM V:=bm (r.ev o e) λM=>mO r e M i
noncomputable def dD(r:aG)(ce:AE)(Q tg:Expr)(bi:List Expr)(t:T):MM (Option T):=
 bm (r.as tg ce (.t t)) λ_=>bm (oy r ce bi) λb=>if b then bm (r.ev Q ce) λv=>bm (fr v) λu=>pm (some u) else pm none
noncomputable def ic:Expr->Bool
 | .Set _ _ _=>false
 |_=>true
def tP(n lh:Nat)(rr:Except Addr (List T))(c7:af):Option (Except Addr V×af):=match rr with
 | .ok be=>bP (.list be) (trunc n (c7.set lh .dead))
 | .error c=>some (.error c,c7.set lh .dead)
noncomputable def oz{α:Type}(x:Option MO)(y:Option α):Option α:=match x with
 |some (.ns false _)=>y
 |_=>none
def mP(n lh:Nat)(q:Option (Except Addr (List T)×af)):Option (Except Addr V×af):=match q with
 |some (rr,c7)=>oz c7[lh]? (tP n lh rr c7)
 |none=>none
def ju(r:aG)(e:AE)(Q tg:Expr)(bi:List Expr)(sc:Scope)(U:List T):MM V:=λO=>
  bm (new (.ns false [])) (λlh=>match eV e sc lh with
   |some ce=>λc6=>mP O.length lh (bZ (dD r ce Q tg bi) U [] c6)
   |none=>λ_=>none) O
noncomputable def ql:Expr->Bool
 | .Name _ _=>true
 |_=>false
noncomputable def kc(sc:Scope):Bool:=sc.kind== .function&&sc.names.all λp=>p.2 != .local||sc.names.lookup p.1==some .local
def fu(r:aG)(e:AE)(Q:Expr)(I:List Comprehension)(sc:Scope):MM V:=match I with
 |[⟨tg,it,bi,0⟩]=>if ic it&&ql tg&&kc sc&&(eV e sc 0).isSome then bm (r.ev it e) λx=>bm (fr x) λt=>bm (om (d7 t)) λU=>ju r e Q tg bi sc U else λ_=>none
 |_=>λ_=>none
def tQ(g:Addr->Option Str)(e:AE)(ps:Arguments)(b:Expr)(sc:Scope):MM V:=if ps.defaults.isEmpty&&ps.kw_defaults.isEmpty&&decide (g e.code=some (e.qual++nm "<lambda>")) then
   let fs:=(sc.names.filter λp=>p.2== .free).reverse
   match fs.mapM λp=>(e.cells.lookup p.1).map λc=>(p.1,c) with
   |some cl=>bP (.clo ps b sc (e.qual++nm "<lambda>") cl)
   |none=>λ_=>none
  else λ_=>none
def xQ(P:bt)(r:aG)(ex:Expr)(e:AE):MM V:=match ex with
 | .Constant c _ _=>xO c
 | .Name n _=>cu P.glob e n
 | .BoolOp w vs _=>gR r e w vs
 | .BinOp a w b _=>bm (r.ev a e) λx=>bm (r.ev b e) λy=>bm (aE x) λs=>bm (aE y) λt=>eG w s t
 | .UnaryOp w a _=>bm (r.ev a e) λv=>qj w v
 | .IfExp c a b _=>bm (r.test c e) λq=>if q then r.ev a e else r.ev b e
 | .Compare a j l _=>bm (r.ev a e) λv=>bm (lJ r e v j l) λb=>pm (.t (.bool b))
 | .Call f be m c4=>match m with
  |[]=>Fx P r e f be c4
  |_::_=>λ_=>none
 | .Attribute o n _=>if fN o then bm (r.ev o e) λM=>qg P.fld M n else λ_=>none
 | .Subscript o i _=>xP r e o i
 | .List l _=>bm (a8 r e l) λvs=>bm (eU fr vs) λts=>if aJ ts.length then bP (.list ts) else λ_=>none
 | .Tuple l _ _=>bm (a8 r e l) λvs=>bm (eU fr vs) λts=>if aJ ts.length then pm (.t (.tuple ts)) else λ_=>none
 | .Dict C vs _=>if C.length<=15&&C.length==vs.length&&C.all (·.isSome) then bm (mM r e C vs) λl=>bP (.dict (l.foldl (λd p=>bj d p.1 p.2) [])) else λ_=>none
 | .ListComp Q I sc _=>fu r e Q I sc
 | .Lambda ps b sc _=>tQ P.tb e ps b sc
 |_=>λ_=>none
def stepT(P:bt)(r:aG)(ex:Expr)(e:AE):MM Bool:=match ex with
 | .UnaryOp .Not a _=>bm (r.test a e) λb=>pm !b
 | .BoolOp w l _=>iO r e w l
 | .IfExp c a b _=>bm (r.test c e) λq=>if q then r.test a e else r.test b e
 | .Compare a j l _=>bm (r.ev a e) λv=>lJ r e v j l
 |x=>bm (r.ev x e) λv=>fO v
noncomputable def mQ(r:aG)(e:AE):List Expr->List T->MM Unit
 |[],[]=>pm ()
 |a::l,t::ts=>bm (r.as a e (.t t)) λ_=>mQ r e l ts
 |_,_=>λ_=>none
def lL(Q:MO)(k:Nat)(it t:T):MM Unit:=match Q with
 | .dict N=>bm (om (cE it)) λf=>if aJ (N.length+1) then put k (.dict (bj N f t)) else λ_=>none
 | .list U=>match it with
  | .int j=>bm (om (if 0<=j&&j<U.length&&j<2^63 then some j.toNat else none)) λj=>put k (.list (U.set j t))
  |_=>λ_=>none
 |_=>λ_=>none
def tR(fld:Addr->Str->Bool)(M:V)(n:Str)(v:V):MM Unit:=match M with
 | .own i=>bm (bw i) λQ=>match Q with
  | .inst C d=>bm (bw d) λc=>match c with
   | .idt fs=>if fld C n&&decide (fs.length<=900) then put d (.idt (dM fs n v)) else λ_=>none
   |_=>λ_=>none
  |_=>λ_=>none
 |_=>λ_=>none
def mR(r:aG)(e:AE)(o i:Expr)(v:V):MM Unit:=match i with
 | .Slice _ _ _ _=>λ_=>none
 |i=>bm (r.ev o e) λM=>bm (r.ev i e) λL=>bm (fr v) λt=>match M,L with
  | .own k,.t it=>bm (bw k) λQ=>lL Q k it t
  |_,_=>λ_=>none
def tS(r:aG)(e:AE)(l:List Expr)(v:V):MM Unit:=if l.all noStar then bm (aE v) λt=>match t with
  | .tuple ts=>if ts.length=l.length then mQ r e l ts else λ_=>none
  | .list ts=>if ts.length=l.length then mQ r e l ts else λ_=>none
  |_=>λ_=>none
 else λ_=>none
def xR(P:bt)(r:aG)(ex:Expr)(e:AE)(v:V):MM Unit:=match ex with
 | .Name n _=>jn e n v
 | .Attribute o n _=>bm (r.ev o e) λM=>tR P.fld M n v
 | .Subscript o i _=>mR r e o i v
 | .Tuple l _ _=>tS r e l v
 |_=>λ_=>none
noncomputable def noErr{α:Type}(m:MM α):MM α:=λO=>match m O with
 |some (.error _,_)=>none
 |x=>x
def tT(r:aG)(e:AE)(tg:Expr)(j:List Stmt)(U:List T):MM Fl:=λO=>
 dC (λt=>noErr (mN (bm (r.as tg e (.t t)) λ_=>aR r e j) O.length)) U O
set_option tactic.hygienic true in
noncomputable def iQ(r:aG)(e:AE)(c:Expr)(j:List Stmt):Nat->MM Fl
 |0=>λ_=>none
 |k+1=>bm (noErr (r.test c e)) λq=>if q then bm (noErr (aR r e j)) λf=>match f with
   | .next=>iQ r e c j k
   | .ret v=>pm (.ret v) else pm .next
noncomputable def ie:Expr->Bool
 | .ListComp _ _ _ _| .SetComp _ _ _ _| .DictComp _ _ _ _ _=>false
 |_=>true
set_option backward.match.sparseCases true in
noncomputable def fQ(e:AE)(tg x:Expr):Option (Option (List Str)):=match tg,x with
 | .Tuple ts _ _,.Tuple vs _ _=>
  if !(ts.length==2||ts.length==3)||vs.length !=ts.length then some none
  else if vs.any λ| .Starred .. =>true|_=>false then some none
  else
   let c:=(ts.head?.map (·.pos.line)).getD 0
   let d:=ts.filterMap λ
    | .Name id c4=>if e.scope.names.lookup id==some .local&&c4.line==c then some id else none
    |_=>none
   if d.length !=ts.length||d.eraseDups.length !=d.length then some none
   else if vs.all (foldedForSure 8) then some none
   else if vs.all (constantsAlone 8) then none
   else some (some d)
 | .List _ _,_=>none
 |_,_=>some none
def kf(e:AE):List Str->List T->MM Unit
 |[],[]=>pm ()
 |n::ns,t::ts=>bm (jn e n (.t t)) λ_=>kf e ns ts
 |_,_=>λ_=>none
def lM(r:aG)(e:AE)(tg:Expr)(v:V):Option (Option (List Str))->MM Unit
 |none=>λ_=>none
 |some none=>r.as tg e v
 |some (some d)=>match v with
  | .t (.tuple ts)=>if ts.length=d.length then kf e d.reverse ts.reverse else λ_=>none
  |_=>λ_=>none
def ig(r:aG)(e:AE)(tg x:Expr):MM Unit:=match x with
 | .ListComp Q I sc _=>bm (fu r e Q I sc) λv=>r.as tg e v
 | .SetComp _ _ _ _=>λ_=>none
 | .DictComp _ _ _ _ _=>λ_=>none
 |x=>bm (r.ev x e) λv=>lM r e tg v (fQ e tg x)
noncomputable def xS(x:Option Expr):Option Str:=match x with
 |some (.Name n _)=>some n
 |_=>none
noncomputable def xT(x:Expr):Option Str:=match x with
 | .Constant (.str s) _ _=>some s
 |_=>none
def xU(b:List Stmt):Option Str:=match b with
 |[.Return (some x) _]=>xT x
 |_=>none
def lN:ExceptHandler->Option (Str×Str)
 | .ExceptHandler t none b _=>(xS t).bind λn=>(xU b).map λs=>(n,s)
 |_=>none
def tU(P:bt)(e:AE)(C:Addr)(h:ExceptHandler)(r:MM Fl):MM Fl:=match lN h with
 |some (n,s)=>bm (cu P.glob e n) λf=>match f with
  | .t (.top D)=>if P.exc D&&P.exc C then if P.sub C D then pm (.ret (.t (.str s))) else r else λ_=>none
  |_=>λ_=>none
 |none=>λ_=>none
def gT(P:bt)(e:AE)(C:Addr):List ExceptHandler->MM Fl
 |[]=>λO=>some (.error C,O)
 |h::r=>tU P e C h (gT P e C r)
def tV(P:bt)(r:aG)(e:AE)(x:Expr):MM Fl:=match x with
 | .Call (.Name n _) be [] _=>if be.all noStar then bm (cu P.glob e n) λf=>match f with
  | .t (.top C)=>if P.exc C then bm (a8 r e be) λvs=>match vs with
   |[.t (.str _)]=>λO=>some (.error C,O)
   |_=>λ_=>none
   else λ_=>none
  |_=>λ_=>none
  else λ_=>none
 |_=>λ_=>none
set_option tactic.hygienic true in
def xV(P:bt)(r:aG)(st:Stmt)(e:AE):MM Fl:=match st with
 | .Expr x _=>if ie x then bm (r.ev x e) λ_=>pm .next else λ_=>none
 | .Pass _=>pm .next
 | .Return x _=>match x with
  |some x=>bm (r.ev x e) λv=>pm (.ret v)
  |none=>pm (.ret (.t .none))
 | .Assign d x _=>match d with
  |[tg]=>if noStar tg then bm (ig r e tg x) λ_=>pm .next else λ_=>none
  |_=>λ_=>none
 | .If c a b _=>bm (r.test c e) λq=>if q then aR r e a else aR r e b
 | .For tg it j i _=>match i with
  |[]=>if ic it then bm (r.ev it e) λx=>bm (fr x) λt=>bm (om (d7 t)) λU=>tT r e tg j U else λ_=>none
  |_::_=>λ_=>none
 | .While c j i p=>match i with
  |[]=>iQ r e c j 80
  |_::_=>λ_=>none
 | .Raise x c _=>match x,c with
  |some x,none=>tV P r e x
  |_,_=>λ_=>none
 | .Try j hs i cl _=>match hs,i,cl with
  |h0::hs,[],[]=>λO=>match aR r e j O with
   |some (.error C,M)=>gT P e C (h0::hs) M
   |x=>x
  |_,_,_=>λ_=>none
 |_=>λ_=>none
def dR(r:aG)(sc:Scope)(i:Str)(code:Addr)(cl:List (Str×Nat))(H:List (Str×V))(run:AE->MM V):MM V:=λO=>
 bm (new (.ns true [])) (λlh=>bm (et sc.names cl) λcl=>bm (gS ⟨sc,lh,cl,i++nm ".<locals>.",code⟩ H) λ_=>
  bm (run ⟨sc,lh,cl,i++nm ".<locals>.",code⟩) λv=>fq O.length v) O
set_option tactic.hygienic true in
noncomputable def eu(r:aG)(j:List Stmt)(e:AE):MM V:=bm (aR r e j) λfl=>match fl with| .ret v=>pm v| .next=>pm (.t .none)
noncomputable def gg(ps:Arguments):Bool:=ps.posonlyargs.isEmpty&&ps.kwonlyargs.isEmpty&&ps.vararg.isNone&&ps.kwarg.isNone&&decide (ps.args.map (·.arg)).Nodup
noncomputable def gU(sc:Scope):Bool:=sc.kind== .function&& !sc.isCoroutine&& !sc.isGenerator
def mS(r:aG)(fi:j8)(be:List V):MM V:=match fi.st with
 | .FunctionDef _ ps j _ _ _ sc _ _ _=>bm (om (d8 ps.args be fi.dfl)) λH=>dR r sc fi.qual fi.code [] H (eu r j)
 |_=>λ_=>none
noncomputable def qm(fs:List (Str×V)):Option (List (Str×T)):=match fs with
 |[]=>some []
 |(k,.t t)::r=>(qm r).map ((k,t)::·)
 |_=>none
def qo(C d i n:Nat)(fs:List (Str×V)):MM V:=λO=>match qm fs with
 |some ts=>some (.ok (.t (.inst C ts)),trunc n ((O.set d .dead).set i .dead))
 |none=>some (.ok (.own i),(O.set d .dead).set i (.sh C fs))
def Fy(C d i n:Nat)(c b:MO):MM V:=match c with
 | .idt fs=>match b with
  | .inst g f=>if g=C/\f=d then qo C d i n fs else λ_=>none
  |_=>λ_=>none
 |_=>λ_=>none
def xW(C d i n:Nat)(f:V):MM V:=λO=>aT f λt=>tw t (bm (bw d) (λc=>bm (bw i) λb=>Fy C d i n c b) O)
def tW(P:bt)(r:aG)(C g:Addr)(be:List V):MM V:=match P.fns g with
 |none=>λ_=>none
 |some fi=>λO=>bm (new (.idt [])) (λd=>bm (new (.inst C d)) λi=>bm (mS r fi (.own i::be)) (xW C d i O.length)) O
def ij(P:bt)(r:aG)(a:Addr)(be:List V):MM V:=match P.fns a with
 |some fi=>mS r fi be
 |none=>match P.init a with
  |some g=>tW P r a g be
  |none=>λ_=>none
def mT(P:bt)(r:aG)(a:Addr)(be:List V)(p:Pk)(x:Option (Option (Except Addr T×af))):MM V:=λO=>match x with
 |none=>ij P r a be O
 |some none=>none
 |some (some (.ok t,S))=>(unpack p.σ p.σ S O).map λM=>(.ok (.t t),M)
 |some (some (.error c,S))=>(unpack p.σ p.σ S O).map λM=>(.error c,M)
def fR(P:bt)(r:aG)(a:Addr)(be:List V):MM V:=λO=>match iN O be ⟨[],[]⟩ with
 |none=>ij P r a be O
 |some (bi,p)=>mT P r a be p (P.con a bi p.S) O
def xX(P:bt)(r:aG)(f:V)(be:List V):MM V:=match f with
 | .t t=>match t with
  | .top a=>fR P r a be
  |t=>xD P t be
 | .own k=>bm (bw k) λQ=>match Q with
  | .clo ps b sc q cl=>if gg ps&&gU sc then bm (om (d8 ps.args be [])) λH=>dR r sc q 0 cl H (r.ev b) else λ_=>none
  |_=>λ_=>none
noncomputable def xY:aG:=⟨λ_ _ _=>none,λ_ _ _=>none,λ_ _ _=>none,λ_ _ _ _=>none,λ_ _ _=>none⟩
def xZ(P:bt)(r:aG):aG:=⟨xQ P r,stepT P r,xV P r,xR P r,xX P r⟩
noncomputable def tX(P:bt):Nat->aG
 |0=>xY
 |n+1=>xZ P (tX P n)
structure Rm (A:Around) (l:List Env) (n:Nat):Prop where
 handled:A.handled=none
 frames:A.frames=some l
 depth:A.depth+2*n<=998
 units:A.units+8*n<=9800
theorem Rm.mono(h:Rm A l n)(k:m<=n):Rm A l m:=⟨h.handled,h.frames,by have:=h.depth;exact En k this,by have:=h.units;exact Eo k this⟩
def aD(b1:Cx)(r g:ay)(b2:List Addr)(l:List Env)(O:af)(a:Addr):Prop:=
 g a=none/\r a=none/\¬b1.tab a/\(∀(i:Nat)(Q:MO),O[i]? =some Q->b2[i]? =some a->isFz Q=true)/\∀e∈l,e.frame≠some a
def df(b1:Cx)(r g:ay)(b2:List Addr)(l:List Env)(O:af)(h:Heap)(C:Addr)(e:Addr):Prop:=
 ∃o vs,h.get? e=some o/\o.cls= .ref C/\o.data= .fields vs/\vs.size=6/\aD b1 r g b2 l O e/\
  (vs[1]? =some .none\/∃t i vt,vs[1]? =some (.ref t)/\h.get? t=some i/\i.data= .fields vt/\3<vt.size/\t≠e/\aD b1 r g b2 l O t/\i.cls≠ .type "frame")
def bk(s:Shared)(g:ay)(b2:List Addr)(s':Shared)(b6:ay)(b4:List Addr):Prop:=
 (∃h tk,s'={s with heap:=h,toks:=tk})/\aZ g b6/\bu b2 b4
theorem bk.refl(s:Shared)(g:ay)(b2:List Addr):bk s g b2 s g b2:=⟨⟨s.heap,s.toks,rfl⟩,.refl _,.refl _⟩
theorem bk.trans{g bs c5:ay}(x:bk s g b2 cf bs Y)(y:bk cf bs Y cv c5 bl):bk s g b2 cv c5 bl:=by
 (refine aw x λu a b=>?_;clear x;rcases u with⟨h,tk,rfl⟩);(refine aw y λu I b'=>?_;clear y;rcases u with⟨b5,i,rfl⟩);exact⟨⟨b5,i,rfl⟩,a.trans I,b.trans b'⟩
abbrev Rl(α β:Type):=ay->List Addr->α->β->Prop
def PQ{α β:Type}(R:Rl α β)(b1:Cx)(r:ay)(l:List Env)(s:Shared)(g:ay)(b2:List Addr)(B:Except Addr α×af)(x:β)(s':Shared):Prop:=
 ∃b6 b4 a,B.1= .ok a/\bk s g b2 s' b6 b4/\St b1 r b6 b4 l B.2 s'.heap/\R b6 b4 a x
def PE{α:Type}(b1:Cx)(r:ay)(l:List Env)(s:Shared)(g:ay)(b2:List Addr)(B:Except Addr α×af)(x:Value)(s':Shared):Prop:=
 ∃b6 b4 c e,B.1= .error c/\bk s g b2 s' b6 b4/\St b1 r b6 b4 l B.2 s'.heap/\x= .ref e/\df b1 r b6 b4 l B.2 s'.heap c e
section
variable {J:Program}{b1:Cx}{r:ay}{l:List Env}{A:Around}{α β γ δ:Type}
theorem PQ.up{R:Rl α β}{g bs:ay}{B:Except Addr α×af}{x:β}(k:bk s g b2 cf bs Y)(h:PQ R b1 r l cf bs Y B x s'):PQ R b1 r l s g b2 B x s':=by
 refine ch h λb6 b4 a e p q z=>⟨b6,b4,a,e,k.trans p,q,z⟩
theorem PE.up{g bs:ay}{B:Except Addr α×af}(k:bk s g b2 cf bs Y)(h:PE b1 r l cf bs Y B x s'):PE b1 r l s g b2 B x s':=by
 refine bc λno=>bH h λb6 b4 c ex cv=>bK cv λe p q z=>no (⟨b6,b4,c,ex,e,k.trans p,q,z⟩)
def aa(J:Program)(b1:Cx)(r:ay)(l:List Env)(A:Around)(R:Rl α β)(g:ay)(b2:List Addr)(t:Sem β)(m:MM α):Prop:=
 ∀O B s bs Y,aZ g bs->bu b2 Y->St b1 r bs Y l O s.heap->m O=some B->wpAny (model J b1.w) A t (PQ R b1 r l s bs Y B) (PE b1 r l s bs Y B) s
variable {R:Rl α β}{G:Rl γ δ}{g b6:ay}{b2 b4:List Addr}
theorem aa.later{t:Sem β}{m:MM α}(h:aa J b1 r l A R g b2 t m)(hg:aZ g b6)(hr:bu b2 b4):aa J b1 r l A R b6 b4 t m:=
 λO B s bs Y a b=>h O B s bs Y (hg.trans a) (hr.trans b)
theorem aa.bind{t:Sem β}{m:MM α}{k:β->Sem δ}{f:α->MM γ}(h:aa J b1 r l A R g b2 t m)
  (hk:∀bs Y a x,aZ g bs->bu b2 Y->R bs Y a x->aa J b1 r l A G bs Y (k x) (f a)):aa J b1 r l A G g b2 (t>>=k) (bm m f):=by
 intro O B s bs Y a b S e;unfold bm at e;refine ae ?_
 cases hm:m O with
 |none=>rw[hm] at e;exact nso e
 |some q=>
  rcases q with⟨q1,c6⟩
  cases q1 with
  |error c=>
   rw[hm] at e;cases e;refine ea (h O _ s bs Y a b S hm) (λx s' z=>?_) λx s' z=>?_
   .refine dZ z λ_ _ _ z _=>eoe z
   .refine cT z λc5 bl c' ex e1 e2=>⟨c5,bl,c',ex,by(have D:=ere e1;clear e1;cases D);rfl,e2⟩
  |ok v=>
   rw[hm] at e;refine ea (h O _ s bs Y a b S hm) (λx s' z=>?_) λx s' z=>?_
   ·(refine ch z λc5 bl v' e1 p H hR=>?_;clear z);(have D:=oke e1;clear e1;cases D);exact ea (hk c5 bl v x (a.trans p.2.1) (b.trans p.2.2) hR c6 B s' c5 bl (.refl _) (.refl _) H e) (λ_ _ z=>z.up p) λ_ _ z=>z.up p
   .refine cT z λ_ _ _ _ z _=>oee z
theorem aa.pure{a:α}{x:β}(h:∀b6 b4,aZ g b6->bu b2 b4->R b6 b4 a x):aa J b1 r l A R g b2 (pure x) (pm a):=by
 intro O B s bs Y p q S e;cases e;exact ar ⟨bs,Y,a,rfl,.refl _ _ _,S,h _ _ p q⟩
theorem aa.none{t:Sem β}:aa J b1 r l A R g b2 t (λ_=>none:MM α):=λO B s bs Y _ _ _ e=>nomatch e
theorem aa.standAt{k:Unit->Sem β}{m:MM α}(h:aa J b1 r l A R g b2 (k ()) m):aa J b1 r l A R g b2 (standAt p>>=k) m:=
 λO B s bs Y a b S e=>ae (kV (h O B s bs Y a b S e))
theorem aa.rule{k:Unit->Sem β}{m:MM α}(h:aa J b1 r l A R g b2 (k ()) m):aa J b1 r l A R g b2 (rule tag>>=k) m:=
 λO B s bs Y a b S e=>ae (wpAny_rule (h O B s bs Y a b S e))
theorem aa.holding{t:Sem β}{m:MM α}(h:aa J b1 r l A R g b2 t m):aa J b1 r l A R g b2 (holding vs t) m:=
 λO B s bs Y a b S e=>en (h O B s bs Y a b S e)
theorem aa.operate{t:Sem Value}{m:MM α}{R:Rl α Value}(h:aa J b1 r l A R g b2 t m):aa J b1 r l A R g b2 (operate vs t) m:=
 λO B s bs Y a b S e U p I=>by rw[Sem.wp_operate];exact h O B s bs Y a b S e U p I
theorem aa.eqT{t t':Sem β}{m:MM α}(e:t=t')(h:aa J b1 r l A R g b2 t' m):aa J b1 r l A R g b2 t m:=e▸h
theorem aa.tok{f:Tok->β}{a:α}(h:∀b6 b4 t,aZ g b6->bu b2 b4->R b6 b4 a (f t)):aa J b1 r l A R g b2 (do let t<-fresh;Pure.pure (f t)) (pm a):=by
 intro O B s bs Y p q S e;cases e;exact ae (wpAny_fresh (ar ⟨bs,Y,a,rfl,⟨⟨s.heap,s.toks+1,rfl⟩,.refl _,.refl _⟩,S,h _ _ _ p q⟩))
end
def RV(w:World):Rl V Value:=λg b2 v x=>VR w g b2 v x
def RT(w:World):Rl T Value:=λg _ v x=>TR w g v x
def x0(w:World):Rl (List V) (List Value):=λg b2 v x=>LR (VR w g b2) v x
def RB:Rl Bool Bool:=λ_ _ a b=>a=b
def RU{α β:Type}:Rl α β:=λ_ _ _ _=>True
set_option tactic.hygienic true in
def RF(w:World):Rl Fl Flow:=λg b2 a b=>match a,b with
 | .next,.next=>True
 | .ret v,.ret x=>VR w g b2 v x
 |_,_=>False
structure ER (cx:Cx) (l:List Env) (g:ay) (ρ:List Addr) (e:AE) (env:Env):Prop where
 scope:env.scope=e.scope
 kind:e.scope.kind= .function
 loc:ρ[e.lh]? =some env.locals
 globals:env.globals=mainGlobals
 cells:ck ρ e.cells env.cells
 qual:env.qual=e.qual
 code:e.code≠0->env.code= .ref e.code
 builtins:env.builtins=builtinsNs
 frame:∃e'∈l,e'.frame=env.frame
theorem ER.mono{g b6:ay}(h:ER b1 l g b2 e env)(hg:aZ g b6)(hr:bu b2 b4):ER b1 l b6 b4 e env:=
 ⟨h.scope,h.kind,hr _ _ h.loc,h.globals,h.cells.mono hr,h.qual,h.code,h.builtins,h.frame⟩
theorem LR.up{g b6:ay}(h:LR (VR w g b2) vs U)(hg:aZ g b6)(hr:bu b2 b4):LR (VR w b6 b4) vs U:=h.mono' (VR.mono hg hr)
structure aL (prog:Program) (cx:Cx) (n:Nat) (rc:aG):Prop where
 ev:∀{A l r g ρ e env},Rm A l n->ER cx l g ρ e env->∀ex,aa prog cx r l A (RV cx.w) g ρ (eval ex env) (rc.ev ex e)
 test:∀{A l r g ρ e env},Rm A l n->ER cx l g ρ e env->∀ex,aa prog cx r l A RB g ρ (isTrue ex env (eval ex env)) (rc.test ex e)
 ex:∀{A l r g ρ e env},Rm A l n->ER cx l g ρ e env->∀st,aa prog cx r l A (RF cx.w) g ρ (exec st env) (rc.ex st e)
 as:∀{A l r g ρ e env},Rm A l n->ER cx l g ρ e env->∀ex v x,VR cx.w g ρ v x->aa prog cx r l A RU g ρ (assign ex env x) (rc.as ex e v)
 call:∀{A l r g ρ},Rm A l n->∀f args fx xs,VR cx.w g ρ f fx->LR (VR cx.w g ρ) args xs->aa prog cx r l A (RV cx.w) g ρ (call fx xs) (rc.call f args)
 star:∀a p e O,rc.ev (.Starred a p) e O=none
 set:∀a k p e O,rc.ev (.Set a k p) e O=none
theorem Fz(J:Program)(b1:Cx)(n:Nat):aL J b1 n xY:=
 ⟨λ_ _ _=> .none,λ_ _ _=> .none,λ_ _ _=> .none,λ_ _ _ _ _ _=> .none,λ_ _ _ _ _ _ _=> .none,λ_ _ _ _=>rfl,λ_ _ _ _ _=>rfl⟩
structure Gl (cx:Cx) (P:bt) (mg mb:Str->Option Value):Prop where
 g:cx.B.Ns mainGlobals mg
 b:cx.B.Ns builtinsNs mb
 nolimit:cx.B.NoLimit
 glob:∀n t,P.glob n=some t->∃x,(mg n=some x\/(mg n=none/\mb n=some x))/\TR cx.w cx.B.get? t x
section
variable {J:Program}{b1:Cx}{r g:ay}{b2:List Addr}{l:List Env}{A:Around}{α β γ δ:Type}{P:bt}{b7 mb:Str->Option Value}{n:Nat}{rc:aG}{e:AE}{env:Env}{O:af}{h:Heap}
theorem St.ground(S:St b1 r g b2 l O h):∀b o,b1.B.get? b=some o->h.get? b=some o:=λb o e=>S.fr b o (S.base b o e)
theorem St.baseLe(S:St b1 r g b2 l O h):aZ b1.B.get? g:=S.base
theorem gV{m:MM α}{f:α->MM β}{B:Except Addr β×af}{P:Prop}(h:bm m f O=some B)(k:∀a c6,m O=some (.ok a,c6)->f a c6=some B->P)(E:∀c c6,m O=some (.error c,c6)->B=(.error c,c6)->P):P:=by
 unfold bm at h
 cases hm:m O with
 |none=>rw[hm] at h;exact nso h
 |some q=>
  rw[hm] at h;rcases q with⟨a,c6⟩
  cases a with
  |ok a=>exact k a c6 hm h
  |error c=>exact E c c6 hm (ai h).symm
theorem ed{m:MM α}{f:α->MM β}{B:Except Addr β×af}(h:bm m f O=some B):
  (∃a c6,m O=some (.ok a,c6)/\f a c6=some B)\/(∃c c6,m O=some (.error c,c6)/\B=(.error c,c6)):=
 gV h (λa c6 e q=> .inl ⟨a,c6,e,q⟩) λc c6 e q=> .inr ⟨c,c6,e,q⟩
theorem az{m:MM α}{f:α->MM β}{a:α}(h:m O=some (.ok a,M)):bm m f O=f a M:=by unfold bm;exact rwm _ rfl h
theorem aa.run{b1:Cx}{r g:ay}{α β γ:Type}{R:Rl α β}{t:Sem β}{m:MM α}{f:α->MM γ}{s:Shared}{B:Except Addr γ×af}{Q:β->Shared->Prop}{E:Value->Shared->Prop}
  (h:aa J b1 r l A R g b2 t m)(S:St b1 r g b2 l O s.heap)(q:bm m f O=some B)(k:∀a y c6 s' b6 b4,f a c6=some B->bk s g b2 s' b6 b4->St b1 r b6 b4 l c6 s'.heap->R b6 b4 a y->Q y s')
  (ke:∀x s',PE b1 r l s g b2 B x s'->E x s'):wpAny (model J b1.w) A t Q E s:=by
 refine gV q (λa c6 e1 e2=>?_) λc c6 e1 e2=>?_<;>refine ea (h O _ s g b2 (.refl _) (.refl _) S e1) (λy s' z=>?_) λx s' z=>?_
 ·(refine ch z λb6 b4 I e3 p H hR=>?_;clear z);have e3:Except.ok a=Except.ok I:=e3;have e3:=oke e3;subst e3;exact k a y c6 s' b6 b4 e2 p H hR
 .refine cT z λ_ _ _ _ e3 _=>oee e3
 .refine dZ z λ_ _ _ e3 _=>eoe e3
 ·(refine n0 z λb6 b4 c' ex e3 p H hx X=>?_;clear z);have e3:=ere e3;clear q k;subst e3 e2;exact ke x s' ⟨b6,b4,_,ex,rfl,p,H,hx,X⟩
theorem x8{O:af}{B:Except Addr MO×af}(h:bw i O=some B):∃Q,O[i]? =some Q/\B=(.ok Q,O):=by
 unfold bw at h
 cases e:O[i]?with
 |none=>rw[e] at h;exact nso h
 |some Q=>rw[e] at h;exact⟨Q,rfl,(ai h).symm⟩
theorem dq{B:Except Addr α×af}(h:om x O=some B):∃a,x=some a/\B=(.ok a,O):=by
 cases x with
 |none=>exact nso h
 |some a=>exact⟨a,rfl,(ai h).symm⟩
theorem dE{f:MO->MM β}{O:af}{B:Except Addr β×af}(h:bm (bw i) f O=some B):∃Q,O[i]? =some Q/\f Q O=some B:=by
 (refine bc λno=>a2 (ed h) (λzz=>aq zz λa c6 bi=>ac bi λe1 e2=>no ?_) (λzz=>aq zz λc c6 bi=>ac bi λe1 e2=>no ?_)<;>clear bi zz no)
 .refine al (x8 e1) λQ x y=>?_;cases y;exact⟨_,x,e2⟩
 .refine al (x8 e1) λQ x y=>?_;cases y
theorem dF{f:α->MM β}{B:Except Addr β×af}(h:bm (om x) f O=some B):∃a,x=some a/\f a O=some B:=by
 (refine bc λno=>a2 (ed h) (λzz=>aq zz λa c6 bi=>ac bi λe1 e2=>no ?_) (λzz=>aq zz λc c6 bi=>ac bi λe1 e2=>no ?_)<;>clear bi zz no)
 .refine al (dq e1) λQ x y=>?_;cases y;exact⟨_,x,e2⟩
 .refine al (dq e1) λQ x y=>?_;cases y
theorem PQ.here{R:Rl α β}{s:Shared}{a:α}{x:β}(S:St b1 r g b2 l O s.heap)(k:R g b2 a x):PQ R b1 r l s g b2 (.ok a,O) x s:=⟨g,b2,a,rfl,.refl _ _ _,S,k⟩
theorem PQ.tok{R:Rl α β}{s:Shared}{a:α}{x:β}{tk:Tok}(S:St b1 r g b2 l O s.heap)(k:R g b2 a x):PQ R b1 r l s g b2 (.ok a,O) x {s with toks:=tk}:=⟨g,b2,a,rfl,⟨⟨s.heap,tk,rfl⟩,.refl _,.refl _⟩,S,k⟩
theorem FA{env:Env}(hk:env.scope.kind= .function)(hl:env.kindOf x=some .globalImplicit\/env.kindOf x=some .globalExplicit):loadName env x=loadGlobal env x:=by
 unfold loadName;rcases hl with hl|hl<;>simp [Env.blockKind,hk,hl,ScopeKind.isAnnotationScope]
theorem FB(G:Gl b1 P b7 mb)(he:ER b1 l g b2 e env)(x:Str)(hx:(x==("__debug__":Str))=false)(M:(x==("__classdict__":Str))=false):aa J b1 r l A (RV b1.w) g b2 (loadName env x) (qa P.glob e x):=by
 intro O B s bs Y hg hr S q;have he:=he.mono hg hr;have hk:env.scope.kind= .function:=by refine rwm _ ?_ he.scope;exact he.kind
 have b:env.kindOf x=e.scope.names.lookup x:=by unfold Env.kindOf;exact rwm _ rfl he.scope
 have d:∀k:NameKind,env.kindOf x=some .globalImplicit\/env.kindOf x=some .globalExplicit->om ((P.glob x).map V.t) O=some B->wpAny (model J b1.w) A (loadName env x) (PQ (RV b1.w) b1 r l s bs Y B) (PE b1 r l s bs Y B) s:=by
  intro k i q;(refine ag (dq q) λv c1=>ac c1 λe2 bo=>?_;clear c1;subst bo);(refine ag (Option.map_eq_some_iff.mp e2) λt c1=>ac c1 λht bo=>?_;clear c1;subst bo);refine rwm _ ?_ (FA hk i);refine al (G.glob x t ht) λy L hv=>?_;have hv:=TR.mono S.baseLe _ _ hv;unfold loadGlobal;refine rwm _ (rwm _ ?_ he.builtins) he.globals;refine ae (wpAny_nsGet (G.g.keeps S.ground) ?_);rcases L with L|⟨L,f⟩
  .refine rwm _ ?_ L;exact ar (PQ.here S hv)
  .refine rwm _ ?_ L;refine ae (wpAny_nsGet (G.b.keeps S.ground) ?_);refine rwm _ ?_ f;exact ar (PQ.here S hv)
 have cell:(hl:env.kindOf x=some .cell\/env.kindOf x=some .free)->(match e.cells.lookup x with
  |some c=>bm (bw c) λQ=>match Q with
   | .cell v=>om v
   |_=>λ_=>none
  |none=>λ_=>none:MM V) O=some B->wpAny (model J b1.w) A (loadName env x) (PQ (RV b1.w) b1 r l s bs Y B) (PE b1 r l s bs Y B) s:=by
  intro hl q
  cases hc:e.cells.lookup x with
  |none=>rw[hc] at q;exact nso q
  |some c=>
   rw[hc] at q;refine al (dE q) λQ e1 q=>?_
   cases Q with
   |cell v=>
    (refine ag (dq q) λv c1=>ac c1 λc2 bo=>?_;clear c1;subst c2;subst bo);refine al (he.cells.get hc) λa ha w=>al (S.own _ _ _ e1 w) λy ho hv=>?_
    cases y with
    |none=>exact hv.elim
    |some y=>
     rcases hl with hl|hl
     .exact wpAny_loadName_cell hk hl ha ⟨_,ho,rfl⟩ (PQ.here S hv)
     .exact wpAny_loadName_free hk hl ha ⟨_,ho,rfl⟩ (PQ.here S hv) M
   |_=>exact nso q
 unfold qa at q
 cases hl:e.scope.names.lookup x with
 |none=>rw[hl] at q;exact nso q
 |some k=>
  rw[hl] at b q;clear hl;cases k
  .refine al (dE q) λQ e1 q=>?_
   cases Q with
   |ns N=>
    (refine ag (dq q) λv c1=>ac c1 λe2 bo=>?_;clear c1;subst bo);refine ls (S.own _ _ _ e1 he.loc) λo m ho hn hf hz p=>al (hf.get e2) λy L hv=>wpAny_loadName_local hk b (xd.mpr ⟨o,ho,hn⟩) L (PQ.here S hv)
   |_=>exact nso q
  .exact cell (.inl b) q
  .exact cell (.inr b) q
  .exact d .local (.inr b) q
  .exact d .local (.inl b) q
end
section
variable {J:Program}{b1:Cx}{r g b6:ay}{b2 b4:List Addr}{l:List Env}{A:Around}{α β γ δ:Type}{P:bt}{b7 mb:Str->Option Value}{n:Nat}{rc:aG}{e:AE}{env:Env}{O:af}{h:Heap}
theorem du{m:MM α}{f:α->MM β}{k:β->MM γ}:bm (bm m f) k=bm m λa=>bm (f a) k:=by
 funext O
 simp only[bm]
 cases m O with
 |none=>rfl
 |some q=>rcases q with⟨q1,c6⟩;cases q1<;>rfl
theorem St.freeze1(S:St b1 r g b2 l O h){ob:Obj}(hi:O[i]? =some Q)(hf:isFz Q=false)(ha:b2[i]? =some a)(ho:h.get? a=some ob)(hc:ob.cls≠ .type "frame")
  (ht:TR b1.w (upd g a ob) t (.ref a)):aZ g (upd g a ob)/\St b1 r (upd g a ob) b2 l (O.set i (.fz t)) h:=by
 (refine bc λno=>aw (S.free i Q a hi ha hf) λf1 f2 u=>no ?_;clear no);have S1:St b1 r g b2 l (O.set i .dead) h:=S.fz ha rfl trivial;have S2:=S1.hold ho f1 f2 u (λe he q=>by
   (refine bc λno=>ac (S.frs e he) λ_ M=>aq M λL o' D=>bK D λe1 e2 e3 _=>no ?_;clear D M no);rw[q] at e1;cases e1;rw[ho] at e2;cases e2;exact hc e3) (λj f e1 e2=>by
   (refine bc λno=>a2 (h9 e1) (λzz=>aw zz λ_ y _=>no ?_) (λzz=>ac zz λq e1=>no ?_)<;>clear zz no)
   .subst y;rfl
   .cases z:isFz f with
    |true=>rfl
    |false=>exact absurd (S.nd j i _ _ a e1 hi z hf e2 ha) q)
 have S3:=S2.fz (Q:= .fz t) ha rfl ht;rw[List.set_set] at S3;exact⟨aZ.upd ob f1,S3⟩
def iR(b1:Cx)(r:ay)(b2:List Addr)(l:List Env)(h:Heap)(R:ay->α->Prop)(g:ay)(B:Except Addr α×af):Prop:=
 ∃t M b6,B=(.ok t,M)/\aZ g b6/\St b1 r b6 b2 l M h/\R b6 t
theorem iR.run{R:ay->α->Prop}{m:MM α}{f:α->MM β}{B:Except Addr β×af}{C:Prop}(e:bm m f O=some B)(H:∀q,m O=some q->iR b1 r b2 l h R g q)
  (k:∀t M b6,aZ g b6->St b1 r b6 b2 l M h->R b6 t->f t M=some B->C):C:=
 gV e (λt M e1 e=>(H _ e1).elim λt' z=>z.elim λc6 z=>z.elim λb6 z=>by
  have q:=z.1;cases q;exact k _ _ b6 z.2.1 z.2.2.1 z.2.2.2 e) λc M e1 _=>(H _ e1).elim λt' z=>z.elim λc6 z=>z.elim λb6 z=>by have q:=z.1;cases q
theorem FC(ih:∀(v:V)(x:Value)(g:ay)(O:af)(B:Except Addr T×af),St b1 r g b2 l O h->VR b1.w g b2 v x->oj n v O=some B->iR b1 r b2 l h (λg t=>TR b1.w g t x) g B)
  (fs:List (Str×V))(m:Str->Option Value)(g:ay)(O:af)(B:Except Addr (List (Str×T))×af)(S:St b1 r g b2 l O h)(H:FR (VR b1.w g b2) fs m)(e:tD (oj n) fs O=some B):
   iR b1 r b2 l h (λg ts=>FR (TR b1.w g) ts m/\ts.map (·.1)=fs.map (·.1)) g B:=by
 induction fs generalizing g O B with
 |nil=>cases e;exact⟨[],O,g,rfl,.refl _,S,trivial,rfl⟩
 |cons p fs i=>
  refine H.1.elim λx hx=>iR.run e (λq e=>ih p.2 x g O q S hx.2 e) λt c6 bs hg c ht e=>iR.run e (λq e=>i bs c6 q c (H.2.mono' (VR.mono hg (.refl _))) e) λts c7 c5 d b f e=>?_;cases e;exact⟨_,_,c5,rfl,hg.trans d,b,⟨⟨x,hx.1,TR.mono d _ _ ht⟩,f.1⟩,hQ (p.1::·) f.2⟩
theorem x9{ob:Obj}(S:St b1 r g b2 l O h)(hi:O[i]? =some Q)(hf:isFz Q=false)(ha:b2[i]? =some a)(ho:h.get? a=some ob)(hc:ob.cls≠ .type "frame")
  (ht:∀b6,aZ g b6->b6 a=some ob->TR b1.w b6 t (.ref a)):iR b1 r b2 l h (λg t=>TR b1.w g t (.ref a)) g (.ok t,O.set i (.fz t)):=
 have f:=ht _ (aZ.upd ob (S.free i Q a hi ha hf).1) (eR _ _ _);have q:=S.freeze1 hi hf ha ho hc f
 ⟨t,_,_,rfl,q.1,q.2,f⟩
theorem mU(n:Nat)(v:V)(x:Value)(g:ay)(O:af)(B:Except Addr T×af)(S:St b1 r g b2 l O h)(hv:VR b1.w g b2 v x)(e:oj n v O=some B):∃t M b6,B=(.ok t,M)/\aZ g b6/\St b1 r b6 b2 l M h/\TR b1.w b6 t x:=by
 refine(?_:iR b1 r b2 l h (λg t=>TR b1.w g t x) g B)
 induction n generalizing v x g O B with
 |zero=>
  cases v with
  |own i=>exact nso e
  |t t=>cases e;exact⟨t,O,g,rfl,.refl _,S,hv⟩
 |succ n ih=>
  cases v with
  |t t=>cases e;exact⟨t,O,g,rfl,.refl _,S,hv⟩
  |own i=>
   refine hv.elim λa hv=>?_;refine rwm _ ?_ hv.2;have ha:=hv.1;clear hv;refine al (dE e) λQ hi e=>?_;have w:=S.own i Q a hi ha
   cases Q with
   |list U=>
    cases e;exact w.elim λys w=>w.elim λep w=>x9 S hi rfl ha w.1 (by simp) λb6 hg q=>⟨a,ys,ep,rfl,q,TRs.mono hg _ _ w.2⟩
   |dict N=>
    cases e;exact w.elim λys w=>w.elim λep w=>x9 S hi rfl ha w.1 (by simp) λb6 hg q=>⟨a,ys,ep,rfl,q,TRd.mono hg _ _ w.2.1,w.2.2⟩
   |fz t=>cases e;exact⟨t,O,g,rfl,.refl _,S,w⟩
   |sh C fs=>
    refine w.elim λd w=>w.elim λod w=>w.elim λm w=>iR.run e (λq e=>FC ih fs m g O q S w.2.2.2.1 e) λts M bs hg c f e=>?_;cases e;have G:TR b1.w bs (.inst C ts) (.ref a):=⟨a,d,od,m,rfl,hg _ _ w.1,hg _ _ w.2.1,w.2.2.1,tj.mpr f.1,λn hn=>w.2.2.2.2 n (f.2▸hn)⟩;exact⟨.inst C ts,_,bs,rfl,hg,c.fz ha rfl G,G⟩
   |_=>exact nso e
theorem aa.freeze{R:Rl α β}{t:Sem β}{f:T->MM α}(hv:VR b1.w g b2 v x)
  (k:∀bs Y u,aZ g bs->bu b2 Y->TR b1.w bs u x->aa J b1 r l A R bs Y t (f u)):aa J b1 r l A R g b2 t (bm (fr v) f):=λO B s bs Y a b S q=>
 iR.run q (λq e=>mU 4 v x bs O q S (VR.mono a b _ _ hv) e) λu M c5 hg c ht e=>
  ea (k c5 Y u (a.trans hg) b ht M B s c5 Y (.refl _) (.refl _) c e) (λ_ _ z=>z.up ⟨⟨s.heap,s.toks,rfl⟩,hg,.refl _⟩) λ_ _ z=>z.up ⟨⟨s.heap,s.toks,rfl⟩,hg,.refl _⟩
theorem aa.freezes{R:Rl α β}{t:Sem β}{g:ay}{f:List T->MM α}(h:LR (VR b1.w g b2) vs U)
  (k:∀bs Y C,aZ g bs->bu b2 Y->TRs b1.w bs C U->aa J b1 r l A R bs Y t (f C)):aa J b1 r l A R g b2 t (bm (eU fr vs) f):=by
 induction vs generalizing U g b2 f with
 |nil=>exact k g b2 [] (.refl _) (.refl _) (fj.mpr h)
 |cons v vs ih=>
  refine h.elim λy h=>h.elim λys h=>?_;have e:bm (eU fr (v::vs)) f=bm (fr v) λu=>bm (eU fr vs) λC=>f (u::C):=du.trans (hQ (bm _) (funext λ_=>du));refine rwm _ ?_ e;exact aa.freeze h.2.1 λbs Y u hg hr hu=>ih (h.2.2.up hg hr) λc5 bl C d m b=>k c5 bl (u::C) (hg.trans d) (hr.trans m) ⟨y,ys,h.1,TR.mono d _ _ hu,b⟩
def HR(w:World)(g:ay)(h:Heap)(t:T)(x:Value):Prop:=match t with
 | .list U=>∃a ys ep,x= .ref a/\h.get? a=some ⟨.type "list",.none,.seq ys ep,#[]⟩/\TRs w g U ys.toList
 | .dict N=>∃a es ep,x= .ref a/\h.get? a=some ⟨.type "dict",.none,.dict es ep,#[]⟩/\TRd w g N es.toList/\(N.map (·.1)).Nodup/\a≠sysModules
 |t=>TR w g t x
theorem TR.hr(S:St b1 r g b2 l O h)(k:TR b1.w g t x):HR b1.w g h t x:=by
 cases t<;>first|exact k|skip
 .refine h8 k λa ys ep e q z=>⟨a,ys,ep,e,S.fr _ _ q,z⟩
 .refine h8 k λa ys ep e q z=>⟨a,ys,ep,e,S.fr _ _ q,z⟩
theorem ya(x:Value):(t:T)->TR w g t x->TR w g (strip t) x
 | .box k t,h=>ya x t (by exact h.2)
 | .none,h=>h
 | .bool _,h=>h
 | .int _,h=>h
 | .str _,h=>h
 | .bytes _,h=>h
 | .typ _,h=>h
 | .bi _,h=>h
 | .top _,h=>h
 | .range _ _,h=>h
 | .list _,h=>h
 | .tuple _,h=>h
 | .dict _,h=>h
 | .inst _ _,h=>h
theorem TR.strip(h:TR w g t x):TR w g (strip t) x:=ya x t h
theorem oA(S:St b1 r g b2 l O h)(hv:VR b1.w g b2 v x)(e:vw v O=some t):HR b1.w g h t x:=by
 cases v with
 |t u=>have e:=ai e;subst e;exact TR.hr S (TR.strip hv)
 |own i=>
  (refine ag hv λa c1=>ac c1 λha bo=>?_;clear c1;clear hv;subst bo);refine al (Option.bind_eq_some_iff.mp e) λQ hi e=>?_;have w:=S.own i Q a hi ha;clear hi;cases Q<;>first|exact nso e|(have e:=ai e;subst e)
  .refine cS w λys ep ho hs=>⟨a,ys,ep,rfl,ho,hs⟩
  .refine cS w λys ep ho hs=>⟨a,ys,ep,rfl,ho,hs⟩
  .exact TR.hr S (TR.strip w)
theorem oB{f:T->MM β}{B:Except Addr β×af}(h:bm (aE v) f O=some B):∃t,vw v O=some t/\f t O=some B:=by
 unfold bm aE at h
 cases hv:vw v O with
 |none=>rw[hv] at h;exact nso h
 |some t=>rw[hv] at h;exact⟨t,rfl,h⟩
theorem aa.vw{R:Rl α β}{tt:Sem β}{f:T->MM α}(hv:VR b1.w g b2 v x)
  (k:∀O s bs Y t B,aZ g bs->bu b2 Y->St b1 r bs Y l O s.heap->HR b1.w bs s.heap t x->f t O=some B->wpAny (model J b1.w) A tt (PQ R b1 r l s bs Y B) (PE b1 r l s bs Y B) s):
  aa J b1 r l A R g b2 tt (bm (aE v) f):=by
 intro O B s bs Y a b S q;refine al (oB q) λt ht q=>k O s bs Y t B a b S (oA S (VR.mono a b _ _ hv) ht) q
theorem FD(c:Const):aa J b1 r l A (RV b1.w) g b2 (constValue env c) (xO c):=by
 cases c<;>first|exact aa.none|skip
 .exact aa.pure λ_ _ _ _=>rfl
 .exact aa.pure λ_ _ _ _=>rfl
 .exact aa.tok λ_ _ t _ _=>⟨t,rfl⟩
 .exact aa.tok λ_ _ t _ _=>⟨t,rfl⟩
 .exact aa.tok λ_ _ t _ _=>⟨t,rfl⟩
theorem qp(G:Gl b1 P b7 mb)(he:ER b1 l g b2 e env)(x:Str)(p:Pos):aa J b1 r l A (RV b1.w) g b2 (eval (.Name x p) env) (cu P.glob e x):=by
 unfold cu
 by_cases hb:(x==nm "__debug__"||x==nm "__classdict__")=true
 .refine rwm _ ?_ (eb hb);exact aa.none
 .refine rwm _ ?_ (hW hb);simp only[Bool.or_eq_true,not_or,Bool.not_eq_true] at hb;refine rwm _ ?_ (eval_Name env x p hb.1);exact aa.standAt (FB G he x hb.1 hb.2)
theorem yb(h:∀b p,a≠ .Starred b p):starEach (a::j) env=(false,eval a env)::starEach j env:=by
 cases a<;>first|rfl|exact absurd rfl (h _ _)
theorem jv(S:aL J b1 n rc)(hR:Rm A l n):∀(be:List Expr)(c4:Pos)(g:ay)(b2:List Addr)(he:ER b1 l g b2 e env),aa J b1 r l A (x0 b1.w) g b2 (spliced (backTo c4 (starEach be env))) (a8 rc e be)
 |[],c4,g,b2,he=>aa.pure λ_ _ _ _=>rfl
 |a::j,c4,g,b2,he=>by
  by_cases hs:∃b p,a= .Starred b p
  ·(refine aq hs λb p cr=>?_;clear hs;subst cr);have e0:a8 rc e (.Starred b p::j)=λ_=>none:=by
    funext O;show bm (rc.ev _ e) _ O=none;simp only[bm,S.star]
   refine rwm _ ?_ e0;exact aa.none
  .refine rwm _ ?_ (yb (env:=env) (j:=j) λb p q=>hs ⟨b,p,q⟩);show aa J b1 r l A _ g b2 (do let v<-eval a env;let here<-(pure [v]:Sem (List Value));return here++(<-holding here (spliced (backTo c4 (starEach j env))))) _;simp only[pure_bind];refine aa.bind (S.ev hR he a) λbs Y v x hg hr hv=>aa.bind (aa.holding (jv S hR j c4 bs Y (he.mono hg hr))) λc5 bl vs U d m c1=>aa.pure λc9 N E D=>⟨x,U,rfl,VR.mono (d.trans E) (m.trans D) _ _ hv,LR.up c1 E D⟩
theorem TRs.len{vs:List T}{U:List Value}(h:TRs b1.w g vs U):vs.length=U.length:=(fj.mp h).length
theorem ik(b5:HR b1.w g h (.list U) x):∃a ys,x= .ref a/\h.IsList a ys/\TRs b1.w g U ys.toList:=by
 refine h8 b5 λa ys ep e ho hs=>⟨a,ys,e,⟨_,ho,rfl,ep,rfl⟩,hs⟩
theorem gh(J:Program){N:List (aj×T)}(b5:HR b1.w g h (.dict N) x):∃a ps,x= .ref a/\(a==sysModules)=false/\h.DictOf (kk J b1.w) a ps/\ps.map (·.1)=N.map (·.1)/\LR (TR b1.w g) (N.map (·.2)) (ps.map (·.2)):=by
 (refine dm b5 λa es ep e ho hs hn h1=>?_;clear b5);refine bc λno=>ag (TRd.pairs hs) λps c3=>bK c3 λp1 p2 p3 j=>no (⟨a,ps,e,beq_eq_false_iff_ne.mpr h1,⟨_,es,ep,ho,⟨rfl,rfl,rfl⟩,rfl,λe he=>j e (by simpa using he),p1,by refine rwm _ ?_ p2;exact hn⟩,p2,p3⟩)
theorem mV:∀{N:List (aj×T)}{ps:List (aj×Value)}(k:aj),ps.map (·.1)=N.map (·.1)->LR (TR b1.w g) (N.map (·.2)) (ps.map (·.2))->
  (bg N k=none->valueAt ps k=none)/\∀t,bg N k=some t->∃v,valueAt ps k=some v/\TR b1.w g t v
 |[],ps,k,h1,_=>by
  cases ps with
  |nil=>exact⟨λ_=>rfl,λt e=>nomatch e⟩
  |cons p q=>simp at h1
 |(j,u)::N,ps,k,h1,h2=>by
  cases ps with
  |nil=>simp at h1
  |cons p q=>
   rcases p with⟨m,d⟩;simp only[List.map_cons,List.cons.injEq] at h1;(refine b9 h2 λy r e1 e2 e3=>?_;clear h2);simp only[List.map_cons,List.cons.injEq] at e1;refine ac e1 λe1 c=>ac (mV k h1.2 (c▸e3)) λC H=>?_;unfold bg at*;refine rwm _ ?_ m1;simp only[valueAt,List.find?_cons] at*;refine rwm _ ?_ h1.1
   by_cases q':j=k
   .subst q';simp only[beq_self_eq_true,decide_true,Option.map_some];exact⟨(nomatch ·),λt e=>by cases e;exact⟨d,rfl,e1▸e2⟩⟩
   .have bb:=beq_eq_false_iff_ne.mpr (λe=>q' e.symm);refine rwm _ (rwm _ ?_ (le q')) bb;exact⟨C,H⟩
theorem mW(h:aJ n=true):(n:Int)<2^63:=by
 unfold aJ at h;have:=hG h;rw[sizeLine_eq] at this;exact ES this
@[elab_as_elim] theorem FF{P:T->Bool->Prop}(q:j7 t=some b)(no:P .none false)(c:∀b,P (.bool b) b)(i:∀i,P (.int i) (i !=0))(w:∀U,aJ U.length=true->P (.list U) (!U.isEmpty))(f:∀U,aJ U.length=true->P (.dict U) (!U.isEmpty)):P t b:=by
 cases t<;>first|exact nso q|exact fL q no|exact fL q (c _)|exact fL q (i _)|skip
 .refine ac (eT q) λh q=>fL q (w _ h)
 .refine ac (eT q) λh q=>fL q (f _ h)
theorem FG{α β:Type}{U:List α}{ys:List β}(h:U.length=ys.length):U.isEmpty=ys.isEmpty:=by
 cases U<;>cases ys<;>first|rfl|cases h
theorem tY(hv:VR b1.w g b2 v x):aa J b1 r l A RB g b2 (truthy x) (fO v):=by
 refine aa.vw hv λO s bs Y t B a b S ht q=>?_;(refine ag (dq q) λk c1=>ac c1 λe1 bo=>?_;clear c1;subst bo);clear q hv;revert ht;refine FF e1 (λht=>?_) (λb ht=>?_) (λi ht=>?_) (λU hf ht=>?_) (λU hf ht=>?_)
 .have ht:=ht;subst ht;exact ar (PQ.here S rfl)
 .have ht:=ht;subst ht;exact ar (PQ.here S rfl)
 ·(refine ag ht λtk bo=>?_;clear ht;subst bo);exact truthy_int (PQ.here S rfl)
 ·(refine aq (ik ht) λI ys c3=>aw c3 λc2 hl hs=>?_;clear c3;subst c2);have bb:=hs.len.trans (ej);refine wpAny_truthy_list hl (by refine rwl _ ?_ bb;exact mW hf) (PQ.tok S ?_);refine(?_:(!U.isEmpty)= !ys.isEmpty);unfold Array.isEmpty;refine rwl _ ?_ bb;cases U<;>rfl
 ·(refine aq (gh J ht) λI ps M=>bS M λc2 d hd hk hs=>?_;clear M;clear ht;subst c2);have bb:ps.length=U.length:=by have:=hQ List.length hk;rwa [li,li] at this
  exact wpAny_truthy_dict d hd (by refine rwm _ ?_ bb;exact mW hf) (PQ.tok S (hQ (!·) (FG bb.symm)))
theorem FH{B:Except Addr V×af}(q:qj .USub v O=some B):∃i,v= .t (.int i)/\B=(.ok (.t (.int (-i))),O):=by
 cases v with
 |own i=>exact nso q
 |t t=>cases t<;>first|exact nso q|exact⟨_,rfl,(ai q).symm⟩
theorem FI(w:UnaryOp)(hv:VR b1.w g b2 v x):aa J b1 r l A (RV b1.w) g b2 (unaryOp w x) (qj w v):=by
 cases w<;>first|exact aa.none|skip
 .intro O B s bs Y a b S q;refine not_of (aa.run ((tY hv).later a b) S q (λk y c6 s' b6 b4 q p H hR=>?_) λx s' z=>z);have q:=ai q;subst q;have hR:=hR;subst hR;exact⟨b6,b4,_,rfl,p,H,rfl⟩
 .intro O B s bs Y a b S q;(refine ag (FH q) λi c1=>ac c1 λc2 bo=>?_;clear c1;clear q;subst c2;subst bo);(refine ag hv λtk bo=>?_;clear hv;subst bo);exact neg_int (PQ.tok S ⟨_,rfl⟩)
theorem cU(h:Heap):h.get? h.objs.size=none:=pk (hX _)
theorem PQ.alloc{s:Shared}{tk:Tok}(S:St b1 r g b2 l O s.heap)(hf:isFz Q=false)
  (ho:OR b1.w g (b2++[s.heap.objs.size]) (s.heap.push ob) Q s.heap.objs.size):PQ (RV b1.w) b1 r l s g b2 (.ok (.own O.length),O++[Q]) (.ref s.heap.objs.size) {s with heap:=s.heap.push ob,toks:=tk}:=by
 refine⟨g,b2++[s.heap.objs.size],_,rfl,⟨⟨_,tk,rfl⟩,.refl _,.app _ _⟩,S.alloc (cU _) (λ_ _ e=>a3 _ e) hf ho,?_⟩;show∃a,_/\_;exact⟨_,by refine rwl _ ?_ S.len;simp,rfl⟩
theorem PQ.vt{s:Shared}{tk:Tok}(S:St b1 r g b2 l O s.heap)(k:TR b1.w g t x):PQ (RV b1.w) b1 r l s g b2 (.ok (.t t),O) x {s with toks:=tk}:=PQ.tok S k
theorem oF{s:Shared}{ys:Array Value}(k:TRs b1.w g U ys.toList):OR b1.w g (b2++[s.heap.objs.size]) (s.heap.push ⟨.type "list",.none,.seq ys ep,#[]⟩) (.list U) s.heap.objs.size:=
 ⟨ys,ep,a6 _ rfl,k⟩
theorem eH(k:HR b1.w g h (.int i) x):∃t,x= .int i t:=by exact k
theorem gj(k:HR b1.w g h (.str i) x):∃t,x= .str i t:=by exact k
theorem iS:TR b1.w g (.int i) (.int i t):=by exact⟨t,rfl⟩
theorem kh:TR b1.w g (.str i) (.str i t):=by exact⟨t,rfl⟩
theorem yc:TR b1.w g (.bool i) (.bool i):=rfl
theorem qr:TR b1.w g .none .none:=rfl
theorem TRs.app(a:TRs b1.w g vs U)(b:TRs b1.w g C ys):TRs b1.w g (vs++C) (U++ys):=fj.mpr ((fj.mp a).app (fj.mp b))
@[elab_as_elim] theorem FJ{O:af}{P:Operator->T->T->(Except Addr V×af)->Prop}{B:Except Addr V×af}(q:eG w s t O=some B)
  (add:∀x y,P .Add (.int x) (.int y) (.ok (.t (.int (x+y))),O))(sub:∀x y,P .Sub (.int x) (.int y) (.ok (.t (.int (x - y))),O))(i:∀x y,ol x y=true->P .Mult (.int x) (.int y) (.ok (.t (.int (x*y))),O))
  (c:∀x y,y≠0->¬Builtin.divisionGoesByPylong x y->P .FloorDiv (.int x) (.int y) (.ok (.t (.int (x.fdiv y))),O))(b:∀x y,y≠0->P .Mod (.int x) (.int y) (.ok (.t (.int (x.fmod y))),O))
  (f:∀x y:Str,aJ (x.length+y.length)=true->P .Add (.str x) (.str y) (.ok (.t (.str (x++y))),O))(d:∀U ys,aJ (U.length+ys.length)=true->P .Add (.list U) (.list ys) (.ok (.own O.length),O++[.list (U++ys)])):P w s t B:=by
 cases w<;>first|exact nso q|skip
 .cases s<;>first|exact nso q|skip
  .cases t<;>first|exact nso q|exact fL q (add _ _)
  .cases t<;>first|exact nso q|skip
   refine ac (eT (j6.symm.trans q)) λh q=>fL q (f _ _ h)
  .cases t<;>first|exact nso q|skip
   refine ac (eT (j6.symm.trans q)) λh q=>fL q (d _ _ h)
 .cases s<;>first|exact nso q|skip
  cases t<;>first|exact nso q|exact fL q (sub _ _)
 .cases s<;>first|exact nso q|skip
  cases t<;>first|exact nso q|skip
  refine ac (eT (j6.symm.trans q)) λh q=>fL q (i _ _ h)
 .cases s<;>first|exact nso q|skip
  cases t<;>first|exact nso q|skip
  refine ac (mF (j6.symm.trans q)) λh q=>fL q (b _ _ h)
 .cases s<;>first|exact nso q|skip
  cases t<;>first|exact nso q|skip
  refine ac (mF (j6.symm.trans q)) λh q=>ac (mF (j6.symm.trans q)) λb5 q=>fL q (c _ _ h b5)
theorem FK(w:Operator)(hv:VR b1.w g b2 v x)(hu:VR b1.w g b2 u y):
  aa J b1 r l A (RV b1.w) g b2 (binaryOp w x y) (bm (aE v) λs=>bm (aE u) λt=>eG w s t):=by
 refine aa.vw hv λO s bs Y t1 B a b S h1 q=>al (oB q) λI e2 q=>?_;have h2:=oA S (VR.mono a b _ _ hu) e2;clear e2 hv hu;revert h1 h2;refine FJ q (λi j h1 h2=>?_) (λi j h1 h2=>?_) (λi j hf h1 h2=>?_) (λi j hf hd h1 h2=>?_) (λi j hf h1 h2=>?_) (λi j hf h1 h2=>?_) (λU ys hf h1 h2=>?_)
 ·(refine ag (eH h1) λc bo=>?_;subst bo);(refine ag (eH h2) λf bo=>?_;subst bo);exact add_int (PQ.vt S iS)
 ·(refine ag (eH h1) λc bo=>?_;subst bo);(refine ag (eH h2) λf bo=>?_;subst bo);exact sub_int (PQ.vt S iS)
 ·(refine ag (eH h1) λc bo=>?_;subst bo);(refine ag (eH h2) λf bo=>?_;subst bo);exact mul_int (PQ.vt S iS) (by unfold IntMulOk;unfold ol at hf;rw[Bool.not_eq_true'] at hf;refine rwm _ ?_ hf;exact Bool.false_ne_true)
 ·(refine ag (eH h1) λc bo=>?_;subst bo);(refine ag (eH h2) λf bo=>?_;subst bo);exact floordiv_int hf (PQ.vt S iS) (.inl (by simpa using hd))
 ·(refine ag (eH h1) λc bo=>?_;subst bo);(refine ag (eH h2) λf bo=>?_;subst bo);exact mod_int' hf (PQ.vt S iS)
 ·(refine ag (gj h1) λc bo=>?_;subst bo);(refine ag (gj h2) λf bo=>?_;subst bo);exact add_str (λt' tk=>PQ.vt S kh) (hG hf)
 ·(refine a9 h1 λa1 p E D=>aw D λc2 k o=>?_;clear D;clear h1;subst c2);(refine a9 h2 λd z C D=>aw D λc2 m L=>?_;clear D;clear h2;subst c2);have l2:=L.len.trans (ej);refine P.add_list k m (PQ.alloc S rfl (oF ?_)) (by refine rwl _ (rwl _ ?_ l2) (o.len.trans (ej));exact hG hf);refine rwm _ ?_ Array.toList_append;exact o.app L
end
section
variable {J:Program}{b1:Cx}{r g b6:ay}{b2 b4:List Addr}{l:List Env}{A:Around}{α β γ δ:Type}{P:bt}{b7 mb:Str->Option Value}{n:Nat}{rc:aG}{e:AE}{env:Env}{O:af}{h:Heap}{s:Shared}
def qt:Rl Bool Value:=λ_ _ b x=>x= .bool b
noncomputable def iT(x:T)(y:Value):Bool:=match x,y with
 | .int a,.int b _=>decide (b=a)
 | .str a,.str b _=>decide (b=a)
 |_,_=>false
set_option tactic.hygienic true in
@[elab_as_elim] theorem oG{P:T->T->Bool->Prop}(q:dO x y=some b)(f:∀i j:Int,P (.int i) (.int j) (decide (i=j)))(d:∀i j:Str,P (.str i) (.str j) (decide (i=j)))(is:∀i j,P (.int i) (.str j) false)(c:∀i j,P (.str i) (.int j) false):P x y b:=by
 cases x<;>first|exact nso q|skip
 .rename_i i
  cases y<;>first|exact nso q|skip
  .have q:=ai q;subst q;exact f _ _
  .have q:=ai q;subst q;exact is _ _
 .rename_i i
  cases y<;>first|exact nso q|skip
  .have q:=ai q;subst q;exact c _ _
  .have q:=ai q;subst q;exact d _ _
theorem tZ(i j:Int):(i==j)=decide (i=j):=rfl
theorem yd(i j:Str):(i==j)=decide (i=j):=by
 by_cases q:i=j
 .subst q;simp
 .refine rwm _ ?_ (le q);exact beq_eq_false_iff_ne.mpr q
theorem ye(hx:TR b1.w g x u)(L:TR b1.w g y v)(q:dO x y=some b):SeqAt.EqAt A s u v b/\b=iT y u:=by
 revert hx L;refine oG q (λi j hx L=>?_) (λi j hx L=>?_) (λi j hx L=>?_) (λi j hx L=>?_)<;>((refine ag hx λt bo=>?_;clear hx;subst bo);(refine ag L λt' bo=>?_;clear L;subst bo))
 .exact⟨λJ w E Q hq=>wpAny_eqBool_int (by rw[tZ];exact hq),rfl⟩
 .exact⟨λJ w E Q hq=>wpAny_eqBool_str hq,rfl⟩
 .exact⟨λJ w E Q hq=>w8 hq,rfl⟩
 .exact⟨λJ w E Q hq=>xb hq,rfl⟩
theorem FL{E:Value->Shared->Prop}{Q:Value->Shared->Prop}(hx:TR b1.w g x u)(L:TR b1.w g y v)(q:dO x y=some b):
  (Q (.bool b) s->wpAny (model J b1.w) A (compareOp .Eq u v) Q E s)/\(Q (.bool (!b)) s->wpAny (model J b1.w) A (compareOp .NotEq u v) Q E s):=by
 revert hx L;refine oG q (λi j hx L=>?_) (λi j hx L=>?_) (λi j hx L=>?_) (λi j hx L=>?_)<;>((refine ag hx λt bo=>?_;clear hx;subst bo);(refine ag L λt' bo=>?_;clear L;subst bo))
 .exact⟨λhq=>eq_int (by rw[tZ];exact hq),λhq=>ne_int (by refine rwm _ ?_ (show(i !=j)= !decide (i=j) by rw[<-tZ];rfl);exact hq)⟩
 .exact⟨λhq=>eq_str (by rw[yd];exact hq),λhq=>ne_str (by refine rwm _ ?_ (show(i !=j)= !decide (i=j) by rw[<-yd];rfl);exact hq)⟩
 .exact⟨EqMixed.eq_int_str,EqMixed.ne_int_str⟩
 .exact⟨EqMixed.eq_str_int,EqMixed.ne_str_int⟩
theorem FM(q:gP (a::U) (c::ys)=some b):∃p B,dO a c=some p/\gP U ys=some B/\(p&&B)=b:=by
 have q:(match dO a c,gP U ys with|some x,some y=>some (x&&y)|_,_=>none)=some b:=q
 cases e1:dO a c with
 |none=>rw[e1] at q;exact nso q
 |some p=>
  cases e2:gP U ys with
  |none=>rw[e1,e2] at q;exact nso q
  |some B=>rw[e1,e2] at q;exact⟨p,B,rfl,rfl,ai q⟩
theorem yf:∀{U ys:List T}{b:Bool},gP U ys=some b->
  (U.length≠ys.length->b=false)/\(U.length=ys.length->∃e:Nat->Bool,(∀(j:Nat)(x y:T),U[j]? =some x->ys[j]? =some y->dO x y=some (e j))/\(List.range U.length).all e=b)
 |[],[],b,q=>by cases q;exact⟨λh=>absurd rfl h,λ_=>⟨λ_=>true,λj x y h=>nso h,rfl⟩⟩
 |[],_::_,b,q=>by cases q;exact⟨λ_=>rfl,λh=>nomatch h⟩
 |_::_,[],b,q=>by cases q;exact⟨λ_=>rfl,λh=>nomatch h⟩
 |a::U,c::ys,b,q=>by
  (refine aq (FM q) λp B c3=>aw c3 λh1 h2 cr=>?_;clear c3;clear q;subst cr);refine ac (yf h2) λC H=>⟨λh=>?_,λh=>?_⟩
  .refine rwm _ ?_ (C λe=>h (hQ (·+1) e));exact Bool.and_false p
  .refine al (H (Nat.succ.inj h)) λe e1 e2=>⟨λj=>match j with|0=>p|j+1=>e j,λj x y hx L=>?_,?_⟩
   .cases j with
    |zero=>have hx:=ai hx;have L:=ai L;subst hx L;exact h1
    |succ j=>exact e1 j x y hx L
   .refine rwm _ (rwm _ (rwm _ (rwm _ ?_ List.all_map) List.all_cons) ra) r8;exact hQ (p&&·) e2
theorem FN(q:dO a x=some p)(h:TR b1.w g a y):p=iT x y:=by
 revert h;refine oG q (λi j h=>?_) (λi j h=>?_) (λi j h=>?_) (λi j h=>?_)<;>((refine ag h λt bo=>?_;clear h;subst bo);rfl)
theorem FO(q:gf x (a::U)=some b):∃p B,dO a x=some p/\gf x U=some B/\(p||B)=b:=by
 have q:(match dO a x,gf x U with|some x,some y=>some (x||y)|_,_=>none)=some b:=q
 cases e1:dO a x with
 |none=>rw[e1] at q;exact nso q
 |some p=>
  cases e2:gf x U with
  |none=>rw[e1,e2] at q;exact nso q
  |some B=>rw[e1,e2] at q;exact⟨p,B,rfl,rfl,ai q⟩
theorem yg:∀{U:List T}{ys:List Value}{b:Bool},gf x U=some b->TRs b1.w g U ys->
  (∀y∈ys,∃t,TR b1.w g t y/\dO t x=some (iT x y))/\ys.any (iT x)=b
 |[],ys,b,q,k=>by have k:=k;subst k;cases q;exact⟨λ_ h=>(nomatch h),rfl⟩
 |a::U,ys,b,q,k=>by
  (refine aq k λy rr c3=>aw c3 λc2 h1 h2=>?_;clear c3;clear k;subst c2);(refine aq (FO q) λp B c3=>aw c3 λe1 e2 cr=>?_;clear c3;clear q;subst cr);refine ac (yg e2 h2) λC H=>?_;have hp:=FN e1 h1;subst hp;refine⟨λz hz=>?_,by exact rwm _ (rwm _ rfl H) List.any_cons⟩;(refine a2 (hy.mp hz) (λzz=>?_) (λhz=>?_);subst zz;rotate_left;rotate_right)
  .exact⟨a,h1,e1⟩
  .exact C z hz
theorem FP{A:Around}(hR:Rm A l n):A.units<cLine:=by have:=hR.units;refine(?_:A.units<9900);exact lC (a5 (iv _ _) this) rfl
theorem t4(k:HR b1.w g h t x)(q:dO t u=some b\/dO u t=some b):TR b1.w g t x:=by
 revert k;rcases q with q|q
 .exact oG q (λ_ _ k=>k) (λ_ _ k=>k) (λ_ _ k=>k) (λ_ _ k=>k)
 .exact oG q (λ_ _ k=>k) (λ_ _ k=>k) (λ_ _ k=>k) (λ_ _ k=>k)
theorem FQ{a1 d:Array Value}(q:gP U ys=some b)(k1:TRs b1.w g U a1.toList)(k2:TRs b1.w g ys d.toList):
  ((a1.size !=d.size)=true/\b=false)\/(a1.size=d.size/\∃e:Nat->Bool,(∀j (h1:j<a1.size)(h2:j<d.size),SeqAt.EqAt A s a1[j] d[j] (e j))/\(List.range a1.size).all e=b):=by
 have l1:=k1.len.trans (ej);have l2:=k2.len.trans (ej);refine ac (yf q) λC H=>?_
 by_cases hl:U.length=ys.length
 .refine .inr ⟨DM l1 l2 hl,?_⟩;refine al (H hl) λe e1 e2=>⟨e,λj h1 h2=>?_,by refine rwl _ ?_ l1;exact e2⟩;have hx:=hS (Dr l1 h1);have L:=hS (Ds l1 hl h1);refine al ((fj.mp k1).get hx) λu hu tu=>al ((fj.mp k2).get L) λv hv c=>?_;rw[Array.getElem?_toList,Array.getElem?_eq_getElem h1] at hu;rw[Array.getElem?_toList,Array.getElem?_eq_getElem h2] at hv;cases hu;cases hv;exact(ye tu c (e1 j _ _ hx L)).1
 .exact .inl ⟨by rw[bne_iff_ne];exact DN l1 l2 hl,C hl⟩
set_option tactic.hygienic true in
@[elab_as_elim] theorem FS{P:T->T->Bool->Prop}(q:qb x y=some b)(at_:∀x y b,dO x y=some b->P x y b)(w:∀U ys b,gP U ys=some b->P (.list U) (.list ys) b)(f:∀N,P (.dict N) (.dict []) N.isEmpty):P x y b:=by
 cases x<;>first|exact at_ _ _ _ q|skip
 .cases y<;>first|exact at_ _ _ _ q|exact w _ _ _ q
 .cases y<;>first|exact at_ _ _ _ q|skip
  rename_i N l
  cases l with
  |nil=>have q:=ai q;subst q;exact f _
  |cons a l=>exact nso q
theorem FT{U:List (aj×T)}{c:List (aj×Value)}(k:c.length=U.length):(c.length==([]:List (aj×Value)).length&&true)=U.isEmpty:=by
 cases U<;>cases c<;>first|rfl|cases k
theorem yh{E:Value->Shared->Prop}{Q:Value->Shared->Prop}(hu:A.units<cLine)(S:St b1 r g b2 l O s.heap)(hx:HR b1.w g s.heap x u)(L:HR b1.w g s.heap y v)(q:qb x y=some b):
  ((Q (.bool b) s)->wpAny (model J b1.w) A (compareOp .Eq u v) Q E s)/\((Q (.bool (!b)) s)->wpAny (model J b1.w) A (compareOp .NotEq u v) Q E s):=by
 revert hx L;refine FS q (λx y b q hx L=>?_) (λU ys b q hx L=>?_) (λU hx L=>?_)
 .exact FL (t4 hx (.inl q)) (t4 L (.inr q)) q
 ·(refine aq (ik hx) λa1 p c3=>aw c3 λc2 be k1=>?_;clear c3;subst c2);(refine aq (ik L) λd z c3=>aw c3 λc2 bd k2=>?_;clear c3;subst c2);(refine a2 (FQ (A:=A.in1) (s:=s) q k1 k2) (λzz=>?_) (λzz=>?_);refine ac zz λh1 bo=>?_;clear zz;subst bo;rotate_left;refine ac zz λh1 bi=>ag bi λe c1=>ac c1 λh2 bo=>?_;clear c1;subst bo;rotate_right)
  .exact⟨λhq=>SeqAt.eq_list_lengthsAt be bd h1 hu hq,λhq=>SeqAt.RcNeAt.lists_lengths be bd h1 hu J b1.w E Q hq⟩
  .exact⟨λhq=>SeqAt.eq_listAt be bd h1 hu h2 hq,λhq=>SeqAt.RcNeAt.lists be bd h1 hu h2 J b1.w E Q hq⟩
 ·(refine aq (gh J hx) λa1 c M=>bS M λc2 Y d1 k1 _=>?_;clear M;clear hx;subst c2);(refine aq (gh J L) λd j M=>bS M λc2 s2 m k2 _=>?_;clear M;clear L;subst c2);have i:=List.map_eq_nil_iff.mp k2;clear k2;subst i;have hb:=FT (by have:=hQ List.length k1;rwa [li,li] at this);have f:c.length=([]:List (aj×Value)).length->KeqHits A.in1 s [] c true:=λe=>by
   have:c=[]:=List.length_eq_zero_iff.mp e;clear k1 e;subst this;exact .nil
  exact⟨λhq=>keq_eq Y s2 d1 m hu f (by refine rwm _ ?_ hb;exact hq),λhq=>keq_ne Y s2 d1 m hu f (by refine rwm _ ?_ hb;exact hq)⟩
@[elab_as_elim] theorem yi{P:T->aj->Prop}(q:cE t=some k)(i:∀n,P (.int n) (.int n))(s:∀n,P (.str n) (.str n)):P t k:=by
 cases t<;>first|exact nso q|(have q:=ai q;subst q;first|exact i _|exact s _)
theorem jw(q:cE t=some k)(b5:TR b1.w g t x):gc k x=true:=by
 revert b5;refine yi q (λn b5=>?_) (λn b5=>?_)<;>((refine ag b5 λtk bo=>?_;clear b5;subst bo);simp [gc,Value.isInt,Value.isStrOf])
theorem yj(q:cE t=some k)(b5:HR b1.w g h t x):TR b1.w g t x:=by
 revert b5;exact yi q (λn b5=>b5) (λn b5=>b5)
@[elab_as_elim] theorem FU{P:T->Bool->Prop}(q:fM x c=some b)(w:∀U b,gf x U=some b->P (.list U) b)(tu:∀U b,gf x U=some b->P (.tuple U) b)(f:∀N k,cE x=some k->P (.dict N) (bg N k).isSome)(st:∀y z,x= .str z->P (.str y) (Txt.contains y z)):P c b:=by
 cases c<;>first|exact nso q|exact w _ _ q|exact tu _ _ q|skip
 .clear w tu;cases x<;>first|exact nso q|skip
  have q:=ai q;subst q;exact st _ _ rfl
 ·(refine ag (Option.map_eq_some_iff.mp q) λk c1=>ac c1 λhk bo=>?_;clear c1;clear q;subst bo);exact f _ _ hk
theorem yk{E:Value->Shared->Prop}{Q:Value->Shared->Prop}(S:St b1 r g b2 l O s.heap)(hx:HR b1.w g s.heap x u)(hc:HR b1.w g s.heap c v)(q:fM x c=some b):
  ((∀tk,Q (.bool b) {s with toks:=tk})->wpAny (model J b1.w) A (compareOp .In u v) Q E s)/\((∀tk,Q (.bool (!b)) {s with toks:=tk})->wpAny (model J b1.w) A (compareOp .NotIn u v) Q E s):=by
 have d:∀{U:List T}{ys:Array Value}{b:Bool},gf x U=some b->TRs b1.w g U ys.toList->(∀y,y∈ys->SeqAt.EqAt A.in1 s y u (iT x y))/\ys.any (iT x)=b:=λ{U ys b} q' k=>by
  refine ac (yg q' k) λC H=>⟨λy L=>?_,by refine rwl _ ?_ Array.any_toList;exact H⟩;refine al (C y (by simpa using L)) λt t1 I=>(ye t1 (t4 hx (.inr I)) I).1
 revert hc;refine FU q (λU b q hc=>?_) (λU b q hc=>?_) (λN k hk hc=>?_) (λy z e hc=>?_)
 ·(refine aq (ik hc) λa ys c3=>aw c3 λc2 hl k=>?_;clear c3;subst c2);refine ac (d q k) λC H=>⟨λhq=>SeqAt.in_listAt (iT x) hl C (by refine rwm _ ?_ H;exact hq s.toks),λhq=>SeqAt.notIn_listAt (iT x) hl C (by refine rwm _ ?_ H;exact hq s.toks)⟩
 ·(refine a9 hc λa ys ep D=>aw D λc2 ho k=>?_;clear D;subst c2);have hl:s.heap.IsTuple a ys:=⟨_,S.fr _ _ ho,rfl,ep,rfl⟩;refine ac (d q k) λC H=>⟨λhq=>SeqAt.in_tupleAt (iT x) hl C (by refine rwm _ ?_ H;exact hq s.toks),λhq=>SeqAt.notIn_tupleAt (iT x) hl C (by refine rwm _ ?_ H;exact hq s.toks)⟩
 ·(refine aq (gh J hc) λa ps M=>bS M λc2 hs hd h1 h2=>?_;clear M;subst c2);have f:=jw hk (yj hk hx);refine ac (mV k h1 h2) λd1 m=>?_;have hb:(valueAt ps k).isSome=(bg N k).isSome:=by
   cases hg:bg N k with
   |none=>refine rwm _ ?_ (d1 hg);rfl
   |some t=>refine al (m t hg) λv hv _=>?_;refine rwm _ ?_ hv;rfl
  exact⟨λhq=>wpAny_in_of f hs hd.mapOf (by refine rwm _ ?_ hb;exact hq _),λhq=>wpAny_notIn_of f hs hd.mapOf (by refine rwm _ ?_ hb;exact hq _)⟩
 .clear q d;subst e;(refine ag (gj hx) λt1 bo=>?_;subst bo);(refine ag (gj hc) λI bo=>?_;clear hc;subst bo);exact⟨λhq=>in_str (hq s.toks),λhq=>notIn_str (hq s.toks)⟩
theorem FV(hv:TR b1.w g t x)(q:isNone (.t t)=some b):plainIs x .none=true/\(x== .none)=b:=by
 revert hv;cases t<;>first|exact nso q|(have q:=ai q;subst q;intro hv)
 all_goals first
  |(have hv:=hv;subst hv;exact⟨rfl,rfl⟩)
  |((refine ag hv λ_ bo=>?_;clear hv;first|subst bo|cases bo);exact⟨rfl,rfl⟩)
  |((refine bH hv λ_ _ _ _ D=>ac D λc2 _=>?_;clear D;subst c2);exact⟨rfl,rfl⟩)
  |((refine a9 hv λ_ _ _ c3=>ac c3 λc2 _=>?_;clear c3;clear hv;subst c2);exact⟨rfl,rfl⟩)
theorem yl(hv:VR b1.w g b2 v x)(q:isNone v=some b):plainIs x .none=true/\(x== .none)=b:=by
 cases v with
 |own i=>have q:=ai q;subst q;(refine ag hv λa c1=>ac c1 λ_ bo=>?_;clear c1;subst bo);exact⟨rfl,rfl⟩
 |t t=>exact FV hv q
theorem FW{B:Except Addr Bool×af}(q:dP .Is v u O=some B):u= .t .none/\om (isNone v) O=some B:=by
 rcases u with t|i
 .cases t<;>first|exact nso q|exact⟨rfl,q⟩
 .exact nso q
theorem FX{B:Except Addr Bool×af}(q:dP .IsNot v u O=some B):u= .t .none/\om ((isNone v).map (!·)) O=some B:=by
 rcases u with t|i
 .cases t<;>first|exact nso q|exact⟨rfl,q⟩
 .exact nso q
@[elab_as_elim] theorem FY{P:T->T->Bool->Prop}{f:Int->Int->Bool}(q:mH f x y=some b)(k:∀i j,P (.int i) (.int j) (f i j)):P x y b:=by
 cases x<;>first|exact nso q|skip
 cases y<;>first|exact nso q|skip
 have q:=ai q;subst q;exact k _ _
theorem FZ(p:A.units<cLine)(w:CmpOp)(d:w≠ .Is)(z:w≠ .IsNot){E:Value->Shared->Prop}{Q:Value->Shared->Prop}(S:St b1 r g b2 l O s.heap)(hx:HR b1.w g s.heap x u)(L:HR b1.w g s.heap y v)
  (q:gQ w x y=some b)(hq:∀tk,Q (.bool b) {s with toks:=tk}):wpAny (model J b1.w) A (compareOp w u v) Q E s:=by
 have o:∀{f:Int->Int->Bool},mH f x y=some b->(∀i j t t',u= .int i t->v= .int j t'->b=f i j->wpAny (model J b1.w) A (compareOp w u v) Q E s)->wpAny (model J b1.w) A (compareOp w u v) Q E s:=λ{f} q k=>by
  clear hq;revert hx L k;refine FY q λi j hx L k=>?_;(refine ag (eH hx) λk1 bo=>?_;subst bo);(refine ag (eH L) λk2 bo=>?_;subst bo);exact k i j k1 k2 rfl rfl rfl
 cases w<;>first|exact nso q|exact absurd rfl d|exact absurd rfl z|skip
 .exact(yh p S hx L q).1 (hq s.toks)
 ·(refine ag (Option.map_eq_some_iff.mp q) λc c1=>ac c1 λm bo=>?_;clear c1;subst bo);exact(yh p S hx L m).2 (hq s.toks)
 .exact o q λi j t t' e1 e2 e3=>by subst e1;subst e2;subst e3;exact lt_int (hq s.toks)
 .exact o q λi j t t' e1 e2 e3=>by subst e1;subst e2;subst e3;exact le_int (hq s.toks)
 .exact o q λi j t t' e1 e2 e3=>by subst e1;subst e2;subst e3;exact gt_int (hq s.toks)
 .exact o q λi j t t' e1 e2 e3=>by clear o;subst e1;subst e2;subst e3;exact ge_int (hq s.toks)
 .exact(yk S hx L q).1 hq
 ·(refine ag (Option.map_eq_some_iff.mp q) λc c1=>ac c1 λm bo=>?_;clear c1;clear q o;subst bo);exact(yk S hx L m).2 hq
theorem qw(hR:Rm A l n)(w:CmpOp)(hv:VR b1.w g b2 v x)(hu:VR b1.w g b2 u y):aa J b1 r l A qt g b2 (compareOp w x y) (dP w v u):=by
 by_cases h1:w= .Is
 .subst h1;intro O B s bs Y a b S q;(refine ac (FW q) λc2 q=>?_;subst c2);have hu:=hu;subst hu;(refine ag (dq q) λk c1=>ac c1 λe1 bo=>?_;clear c1;subst bo);refine ac (yl (VR.mono a b _ _ hv) e1) λC H=>wpAny_is_plain C (PQ.here S (hQ Value.bool H))
 .by_cases h2:w= .IsNot
  .subst h2;intro O B s bs Y a b S q;(refine ac (FX q) λc2 q=>?_;subst c2);have hu:=hu;subst hu;(refine ag (dq q) λk c1=>ac c1 λe1 bo=>?_;clear c1;subst bo);(refine ag (Option.map_eq_some_iff.mp e1) λb' c1=>ac c1 λc bo=>?_;clear c1;clear e1;subst bo);refine ac (yl (VR.mono a b _ _ hv) c) λC H=>wpAny_isNot_plain C (PQ.here S (by refine rwm _ ?_ H;rfl))
  .have e:dP w v u=bm (aE v) λx=>bm (aE u) λy=>om (gQ w x y):=by
    cases w<;>first|rfl|exact absurd rfl h1|exact absurd rfl h2
   refine rwm _ ?_ e;refine aa.vw hv λO s bs Y t1 B a b S h3 q=>al (oB q) λI e2 q=>?_;(refine ag (dq q) λk c1=>ac c1 λe3 bo=>?_;clear c1;clear q;subst bo);exact FZ (FP hR) w h1 h2 S h3 (oA S (VR.mono a b _ _ hu) e2) e3 λtk=>PQ.tok S rfl
theorem aa.release{R:Rl α β}{k:Unit->Sem β}{m:MM α}(h:aa J b1 r l A R g b2 (k ()) m):aa J b1 r l A R g b2 (release vs keep>>=k) m:=
 λO B s bs Y a b S e U p I=>by rw[Sem.wp_bind',Sem.wp_release];exact h O B s bs Y a b S e U p I
theorem aa.ite{R:Rl α β}{t t':Sem β}{m G:MM α}(h:c=true->aa J b1 r l A R g b2 t m)(b5:c=false->aa J b1 r l A R g b2 t' G):
  aa J b1 r l A R g b2 (if c=true then t else t') (if c=true then m else G):=by
 cases c with
 |true=>exact h rfl
 |false=>exact b5 rfl
theorem aa.quiet{R:Rl α β}{t:Sem δ}{x:δ}{k:δ->Sem β}{m:MM α}(ht:∀(Q:δ->Shared->Prop)(E:Value->Shared->Prop)(s:Shared),Q x s->wpAny (model J b1.w) A t Q E s)(h:aa J b1 r l A R g b2 (k x) m):aa J b1 r l A R g b2 (t>>=k) m:=
 λO B s bs Y a b S e=>ae (ht _ _ _ (h O B s bs Y a b S e))
theorem ym(a:Expr)(j:List Expr):evalEach (a::j) env=eval a env::evalEach j env:=rfl
theorem yn(S:aL J b1 n rc)(hR:Rm A l n)(he:ER b1 l g b2 e env)(w:CmpOp)(a:Expr):aa J b1 r l A (RV b1.w) g b2 (markedBehindIn w a (eval a env)) (rc.ev a e):=by
 by_cases hs:∃es k p,a= .Set es k p
 ·(refine a9 hs λes k p bo=>?_;clear hs;subst bo);have:rc.ev (.Set es k p) e=λ_=>none:=funext λO=>S.set es k p e O;refine rwm _ ?_ this;exact aa.none
 .have:behindInMarks w a=false:=by
   cases a<;>first|rfl|exact absurd ⟨_,_,_,rfl⟩ hs
  refine rwm _ ?_ (markedBehindIn_of_false this);exact S.ev hR he a
theorem yo(S:aL J b1 n rc)(hR:Rm A l n)(c4:Pos)(j:List CmpOp)(U:List Expr)(v:V)(x:Value)(g:ay)(b2:List Addr)(he:ER b1 l g b2 e env)(hv:VR b1.w g b2 v x):
  aa J b1 r l A qt g b2 (compareChain c4 x j (markedEach j U (evalEach U env))) (lJ rc e v j U):=by
 induction j generalizing U v x g b2 with
 |nil=>cases U<;>exact aa.none
 |cons w j ih=>
  cases U with
  |nil=>cases j<;>exact aa.none
  |cons a U=>
  cases j with
  |nil=>
   cases U with
   |cons b U=>exact aa.none
   |nil=>
    rw[ym];show aa J b1 r l A qt g b2 (do let f<-holding [x] (markedBehindIn w a (eval a env));standAt c4;operate [x,f] (compareOp w x f)) _;refine aa.bind (aa.holding (yn S hR he w a)) λbs Y u y hg hr hu=>aa.standAt (aa.operate (qw hR w (VR.mono hg hr _ _ hv) hu))
  |cons i j=>
   cases U with
   |nil=>exact aa.none
   |cons I U=>
    show aa J b1 r l A qt g b2 (do
     let f<-holding [x] (eval a env)
     standAt c4
     let c<-holding [x,f] (compareOp w x f)
     release [x,f] [c]
     if<-holding [c,f] (truthy c) then compareChain c4 f (i::j) (markedEach (i::j) (I::U) (evalEach (I::U) env)) else pure c) _
    refine aa.bind (aa.holding (S.ev hR he a)) λbs Y u y hg hr hu=>aa.standAt (aa.bind (aa.holding (qw hR w (VR.mono hg hr _ _ hv) hu)) λc5 bl b c d m hc=>?_);have hc:=hc;subst hc;refine aa.release (aa.quiet (λQ E s h=>en (q0 h)) ?_);refine aa.ite (λ_=>ih (I::U) u y c5 bl ((he.mono hg hr).mono d m) (VR.mono d m _ _ hu)) λe=>aa.pure λ_ _ _ _=>by show _=_;exact rwm _ rfl e
theorem F0(S:aL J b1 n rc)(hR:Rm A l n)(c4:Pos)(j:List CmpOp)(U:List Expr)(v:V)(x:Value)(g:ay)(b2:List Addr)(he:ER b1 l g b2 e env)(hv:VR b1.w g b2 v x):
  aa J b1 r l A RB g b2 (testChain c4 x j (markedEach j U (evalEach U env))) (lJ rc e v j U):=by
 induction j generalizing U v x g b2 with
 |nil=>cases U<;>exact aa.none
 |cons w j ih=>
  cases U with
  |nil=>cases j<;>exact aa.none
  |cons a U=>
  cases j with
  |nil=>
   cases U with
   |cons b U=>exact aa.none
   |nil=>
    rw[ym];show aa J b1 r l A RB g b2 (do let f<-holding [x] (markedBehindIn w a (eval a env));standAt c4;let c<-operate [x,f] (compareOp w x f);holding [c] (truthy c)) _;refine aa.bind (aa.holding (yn S hR he w a)) λbs Y u y hg hr hu=>aa.standAt ?_;intro O B s c5 bl I b' H q;refine ae (ea (aa.operate (qw hR w (VR.mono hg hr _ _ hv) hu) O B s c5 bl I b' H q) (λc s' z=>?_) λ_ _ z=>z);(refine ch z λc9 N b e1 p S3 hc=>?_;clear z);have hc:=hc;subst hc;exact en (ar ⟨c9,N,b,e1,p,S3,rfl⟩)
  |cons i j=>
   cases U with
   |nil=>exact aa.none
   |cons I U=>
    show aa J b1 r l A RB g b2 (do
     let f<-holding [x] (eval a env)
     standAt c4
     let c<-holding [x,f] (compareOp w x f)
     release [x,f] [c]
     if<-holding [c,f] (truthy c) then testChain c4 f (i::j) (markedEach (i::j) (I::U) (evalEach (I::U) env)) else pure false) _
    refine aa.bind (aa.holding (S.ev hR he a)) λbs Y u y hg hr hu=>aa.standAt (aa.bind (aa.holding (qw hR w (VR.mono hg hr _ _ hv) hu)) λc5 bl b c d m hc=>?_);have hc:=hc;subst hc;refine aa.release (aa.quiet (λQ E s h=>en (q0 h)) (aa.ite (λ_=>ih (I::U) u y c5 bl ((he.mono hg hr).mono d m) (VR.mono d m _ _ hu)) λe=>aa.pure λ_ _ _ _=>rfl))
theorem F1(S:aL J b1 n rc)(hR:Rm A l n)(he:ER b1 l g b2 e env)(a:Expr)(j:List CmpOp)(U:List Expr)(c4:Pos):
  aa J b1 r l A (RV b1.w) g b2 (eval (.Compare a j U c4) env) (bm (rc.ev a e) λv=>bm (lJ rc e v j U) λb=>pm (.t (.bool b))):=by
 show aa J b1 r l A _ g b2 (do compareChain c4 (<-eval a env) j (markedEach j U (evalEach U env))) _;refine aa.bind (S.ev hR he a) λbs Y v x hg hr hv=>?_;intro O B s c5 bl I b' H q;(refine bc λno=>a2 (ed q) (λzz=>aq zz λb c6 bi=>ac bi λe1 e2=>no ?_) (λzz=>aq zz λc c6 bi=>ac bi λe1 e2=>no ?_)<;>clear bi zz no)
 .clear q;cases e2;refine ea (yo S hR c4 j U v x bs Y (he.mono hg hr) hv O _ s c5 bl I b' H e1) (λy s' z=>?_) λy s' z=>?_
  ·(refine ch z λc9 N b' q1 p S3 hc=>?_;clear z);(have D:=oke q1;clear q1;cases D);exact⟨c9,N,_,rfl,p,S3,by have hc:=hc;subst hc;exact yc (b1:=b1) (g:=c9)⟩
  .refine cT z λ_ _ _ _ q1 _=>oee q1
 .clear q;cases e2;refine ea (yo S hR c4 j U v x bs Y (he.mono hg hr) hv O _ s c5 bl I b' H e1) (λy s' z=>?_) λy s' z=>?_
  .refine dZ z λ_ _ _ q1 _=>eoe q1
  .refine cT z λc9 N c' ex q1 z=>?_;(have D:=ere q1;clear q1;cases D);exact⟨c9,N,_,ex,rfl,z⟩
set_option backward.match.sparseCases true in
theorem yp(S:aL J b1 n rc)(hR:Rm A l n)(c4:Pos)(w:BoolOp):∀(U:List Expr)(g:ay)(b2:List Addr),ER b1 l g b2 e env->
  aa J b1 r l A (RV b1.w) g b2 (boolOp c4 w (evalEach U env)) (gR rc e w U)
 |[],g,b2,he=>aa.none
 |[a],g,b2,he=>S.ev hR he a
 |a::b::U,g,b2,he=>by
  show aa J b1 r l A _ g b2 (do
   let v<-eval a env
   standAt c4
   let t<-holding [v] (truthy v)
   match w,t with
   | .And,false| .Or,true=>pure v
   |_,_=>boolOp c4 w (evalEach (b::U) env)) _
  refine aa.bind (S.ev hR he a) λbs Y v x hg hr hv=>aa.standAt (aa.bind (aa.holding (tY hv)) λc5 bl t t' d m ht=>?_);have ht:t=t':=ht;subst ht;have ih:=yp S hR c4 w (b::U) c5 bl ((he.mono hg hr).mono d m);have c:aa J b1 r l A (RV b1.w) c5 bl (pure x) (pm v):=aa.pure λ_ _ E D=>VR.mono (d.trans E) (m.trans D) _ _ hv;cases w<;>(clear ht;cases t)<;>first|exact ih|exact c
set_option backward.match.sparseCases true in
theorem yq(S:aL J b1 n rc)(hR:Rm A l n)(w:BoolOp):∀(U:List Expr)(g:ay)(b2:List Addr),ER b1 l g b2 e env->
  aa J b1 r l A RB g b2 (allTrue w U env) (iO rc e w U)
 |[],g,b2,he=>aa.pure λ_ _ _ _=>rfl
 |a::U,g,b2,he=>by
  show aa J b1 r l A _ g b2 (do
   match w,<-isTrue a env (eval a env) with
   | .And,false=>pure false
   | .Or,true=>pure true
   |_,_=>allTrue w U env) _
  refine aa.bind (S.test hR he a) λbs Y t t' hg hr ht=>?_;have ht:=ht;subst ht;have ih:=yq S hR w U bs Y (he.mono hg hr);cases w<;>(clear ht;cases t)<;>first|exact ih|exact aa.pure λ_ _ _ _=>rfl
theorem F2(S:aL J b1 n rc)(hR:Rm A l n)(he:ER b1 l g b2 e env)(c a b:Expr)(c4:Pos):
  aa J b1 r l A (RV b1.w) g b2 (eval (.IfExp c a b c4) env) (bm (rc.test c e) λq=>if q then rc.ev a e else rc.ev b e):=by
 show aa J b1 r l A _ g b2 (do if<-isTrue c env (eval c env) then eval a env else eval b env) _;refine aa.bind (S.test hR he c) λbs Y t t' hg hr ht=>?_;have ht:=ht;subst ht;exact aa.ite (λ_=>S.ev hR (he.mono hg hr) a) λ_=>S.ev hR (he.mono hg hr) b
theorem F3(S:aL J b1 n rc)(hR:Rm A l n)(he:ER b1 l g b2 e env)(w:Operator)(a b:Expr)(c4:Pos):
  aa J b1 r l A (RV b1.w) g b2 (eval (.BinOp a w b c4) env) (bm (rc.ev a e) λx=>bm (rc.ev b e) λy=>bm (aE x) λs=>bm (aE y) λt=>eG w s t):=by
 rw[eval_BinOp];refine aa.bind (S.ev hR he a) λbs Y v x hg hr hv=>aa.bind (aa.holding (S.ev hR (he.mono hg hr) b)) λc5 bl u y d m hu=>aa.standAt (aa.operate (FK w (VR.mono d m _ _ hv) hu))
theorem F4(S:aL J b1 n rc)(hR:Rm A l n)(he:ER b1 l g b2 e env)(w:UnaryOp)(a:Expr)(c4:Pos):
  aa J b1 r l A (RV b1.w) g b2 (eval (.UnaryOp w a c4) env) (bm (rc.ev a e) λv=>qj w v):=by
 show aa J b1 r l A _ g b2 (do let v<-eval a env;standAt c4;holding [v] (unaryOp w v)) _;exact aa.bind (S.ev hR he a) λbs Y v x hg hr hv=>aa.standAt (aa.holding (FI w hv))
set_option tactic.hygienic true in
theorem F5(S:aL J b1 n rc)(hR:Rm A l n)(he:ER b1 l g b2 e env)(d:∀ex,aa J b1 r l A (RV b1.w) g b2 (eval ex env) (rc.ev ex e))(ex:Expr):aa J b1 r l A RB g b2 (isTrue ex env (eval ex env)) (stepT P rc ex e):=by
 have plain:isTrue ex env (eval ex env)=(do let v<-eval ex env;standAt ex.pos;holding [v] (truthy v))->stepT P rc ex e=(bm (rc.ev ex e) λv=>fO v)->aa J b1 r l A RB g b2 (isTrue ex env (eval ex env)) (stepT P rc ex e):=λe1 e2=>by
  refine rwm _ (rwm _ ?_ e2) e1;exact aa.bind (d ex) λbs Y v x hg hr hv=>aa.standAt (aa.holding (tY hv))
 cases ex<;>first|exact plain rfl rfl|skip
 .rename_i w U c4;exact yq S hR w U g b2 he
 .rename_i w a c4
  cases w<;>first|exact plain rfl rfl|skip
  show aa J b1 r l A _ g b2 (do return !(<-isTrue a env (eval a env))) (bm (rc.test a e) λb=>pm !b);refine aa.bind (S.test hR he a) λbs Y t t' hg hr ht=>?_;have ht:=ht;subst ht;exact aa.pure λ_ _ _ _=>rfl
 .rename_i c a b c4
  show aa J b1 r l A _ g b2 (do if<-isTrue c env (eval c env) then isTrue a env (eval a env) else isTrue b env (eval b env)) (bm (rc.test c e) λq=>if q then rc.test a e else rc.test b e);refine aa.bind (S.test hR he c) λbs Y t t' hg hr ht=>?_;have ht:=ht;subst ht;exact aa.ite (λ_=>S.test hR (he.mono hg hr) a) λ_=>S.test hR (he.mono hg hr) b
 .rename_i a j U c4
  show aa J b1 r l A _ g b2 (do testChain c4 (<-eval a env) j (markedEach j U (evalEach U env))) (bm (rc.ev a e) λv=>lJ rc e v j U);exact aa.bind (d a) λbs Y v x hg hr hv=>F0 S hR c4 j U v x bs Y (he.mono hg hr) hv
end
section
variable {J:Program}{b1:Cx}{r g b6:ay}{b2 b4:List Addr}{l:List Env}{A:Around}{α β γ δ:Type}{P:bt}{b7 mb:Str->Option Value}{n:Nat}{rc:aG}{e:AE}{env:Env}{O:af}{h b5:Heap}{s:Shared}
theorem St.lone_new(S:St b1 r g b2 l O h)(ha:h.get? a=none):aD b1 r g b2 l O a:=
 ⟨S.lt_g ha,S.lt_r ha,S.lt_t ha,λi Q e1 e2=>by refine al (S.lt_o ha e2) λf e3 q=>?_;rw[e1] at e3;cases e3;exact q,
  λe he q=>by(refine bc λno=>ac (S.frs e he) λ_ D=>aq D λL o' c3=>aw c3 λe1 e2 _=>no ?_;clear c3 D no);rw[q] at e1;cases e1;rw[ha] at e2;exact nso e2⟩
theorem St.extBut(S:St b1 r g b2 l O h)(L:aD b1 r g b2 l O a)(k:Heap.ExtBut a h b5):St b1 r g b2 l O b5 where
 base:=S.base
 fr:=λb o e=>k b o (λq=>by subst q;rw[L.1] at e;exact nso e) (S.fr b o e)
 rs:=λb o e=>by refine al (S.rs b o e) λo' e' q=>⟨o',k b o' (λq=>by subst q;rw[L.2.1] at e;exact nso e) e',q⟩
 len:=S.len
 own:=λi Q b e1 e2=>by
  cases z:isFz Q with
  |true=>exact(S.own i Q b e1 e2).still z
  |false=>exact(S.own i Q b e1 e2).mono (.refl _) (.refl _) (.same λo e=>k b o (λq=>by subst q;rw[L.2.2.2.1 i Q e1 e2] at z;exact tff z) e)
 free:=S.free
 nd:=S.nd
 gr:=S.gr
 gt:=S.gt
 tabs:=λq hq=>by refine al (S.tabs q hq) λps e x=>⟨ps,k _ _ (λe'=>L.2.2.1 ⟨q,hq,e'⟩) e,x⟩
 frs:=λe he=>by refine bc λno=>ac (S.frs e he) λe0 D=>aq D λd o c3=>aw c3 λe1 e2 e3=>no (⟨e0,d,o,e1,k _ _ (λq=>L.2.2.2.2 e he (q▸e1)) e2,e3⟩)
theorem St.adopt(S:St b1 r g b2 l O h)(L:aD b1 r g b2 l O a)(hf:isFz Q=false)(ho:OR b1.w g (b2++[a]) h Q a):St b1 r g (b2++[a]) l (O++[Q]) h where
 base:=S.base
 fr:=S.fr
 rs:=S.rs
 len:=by simp [S.len]
 own:=λi f b e1 e2=>by
  (refine bc λno=>a2 (dB e1) (λf1=>?_) (λzz=>?_);refine no ?_;clear no;rotate_left;refine ac zz λz1 y1=>no ?_;clear no;rotate_right)<;>(refine bc λno=>a2 (dB e2) (λf2=>?_) (λzz=>?_);refine no ?_;clear no;rotate_left;refine ac zz λv I=>no ?_;clear no;rotate_right)
  .exact(S.own i f b f1 f2).mono (.refl _) (.app _ _) (.same λ_ e=>e)
  .have:=(List.getElem?_eq_some_iff.mp f1).1;rw[S.len] at v;exact absurd (v▸this) (ka _)
  .have:=(List.getElem?_eq_some_iff.mp f2).1;rw[S.len] at this;exact absurd (z1▸this) (ka _)
  .clear hf;subst y1 I;exact ho
 free:=λi f b e1 e2 q=>by
  (refine bc λno=>a2 (dB e1) (λf1=>?_) (λzz=>?_);refine no ?_;clear no;rotate_left;refine ac zz λz1 y1=>no ?_;clear no;rotate_right)<;>(refine bc λno=>a2 (dB e2) (λf2=>?_) (λzz=>?_);refine no ?_;clear no;rotate_left;refine ac zz λv I=>no ?_;clear no;rotate_right)
  .exact S.free i f b f1 f2 q
  .have:=(List.getElem?_eq_some_iff.mp f1).1;rw[S.len] at v;exact absurd (v▸this) (ka _)
  .have:=(List.getElem?_eq_some_iff.mp f2).1;rw[S.len] at this;exact absurd (z1▸this) (ka _)
  .clear hf ho;subst y1 I;exact⟨L.1,L.2.1,L.2.2.1⟩
 nd:=λi j p c b e1 e2 q q' e3 e4=>by
  have t:∀{i:Nat}{f:MO}{b:Addr},O[i]? =some f->(b2++[a])[i]? =some b->b2[i]? =some b:=λ{i}{f}{b} a1 d=>by
   (refine a2 (dB d) (λd=>?_) (λzz=>?_);rotate_left;refine ac zz λc2 bo=>?_;clear zz;subst c2;clear ho;subst bo;rotate_right)
   .exact d
   .have:=(List.getElem?_eq_some_iff.mp a1).1;rw[S.len] at this;exact absurd this (ka _)
  have new:∀{b:Addr},(b2++[a])[O.length]? =some b->b=a:=λ{b} d=>by
   (refine a2 (dB d) (λd=>?_) (λzz=>?_);rotate_left;refine ac zz λ_ bo=>?_;clear zz;clear ho;subst bo;rotate_right)
   .have:=(List.getElem?_eq_some_iff.mp d).1;rw[S.len] at this;exact absurd this (ka _)
   .rfl
  (refine bc λno=>a2 (dB e1) (λf1=>?_) (λzz=>?_);refine no ?_;clear no;rotate_left;refine ac zz λz1 y1=>no ?_;clear no;rotate_right)<;>(refine bc λno=>a2 (dB e2) (λf2=>?_) (λzz=>?_);refine no ?_;clear no;rotate_left;refine ac zz λv I=>no ?_;clear no;rotate_right)
  .exact S.nd i j _ _ b f1 f2 q q' (t f1 e3) (t f2 e4)
  .rw[v] at e4;have z:=new e4;clear ho;subst z;rw[L.2.2.2.1 i _ f1 (t f1 e3)] at q;exact tff q
  .rw[z1] at e3;have z:=new e3;clear ho e3 new;subst z;rw[L.2.2.2.1 j _ f2 (t f2 e4)] at q';exact tff q'
  .exact z1.trans v.symm
 gr:=S.gr
 gt:=S.gt
 tabs:=S.tabs
 frs:=S.frs
theorem St.reserve(S:St b1 r g b2 l O h)(L:aD b1 r g b2 l O a)(ho:h.get? a=some o):St b1 (upd r a o) g b2 l O h where
 base:=S.base
 fr:=S.fr
 rs:=λb x e=>by
  unfold upd at e
  by_cases q:b=a
  .subst q;rw[if_pos rfl] at e;cases e;exact⟨_,ho,.refl _⟩
  .rw[if_neg q] at e;exact S.rs b x e
 len:=S.len
 own:=S.own
 free:=λi Q b e1 e2 q=>by
  refine bc λno=>aw (S.free i Q b e1 e2 q) λf1 f2 u=>no (⟨f1,?_,u⟩);unfold upd;rw[if_neg (λz=>by clear ho no;subst z;rw[L.2.2.2.1 i Q e1 e2] at q;exact tff q)];exact f2
 nd:=S.nd
 gr:=λb x e=>by
  unfold upd at e
  by_cases q:b=a
  .clear ho;subst q;exact⟨L.1,L.2.2.1⟩
  .rw[if_neg q] at e;exact S.gr b x e
 gt:=S.gt
 tabs:=S.tabs
 frs:=S.frs
theorem oH{r:ay}(h:upd r a o b=none):b≠a/\r b=none:=by
 unfold upd at h
 by_cases q:b=a
 .rw[if_pos q] at h;exact sno h
 .rw[if_neg q] at h;exact⟨q,h⟩
theorem St.release(hr:r a=none){o:Obj}(hc:o.cls≠ .type "frame")(S:St b1 (upd r a o) g b2 l O h):St b1 r g b2 l O h/\aD b1 r g b2 l O a/\h.get? a=some o:=by
 refine al (S.rs a o (eR _ _ _)) λo' e' q=>?_;have:=q.2.2.2 hc;subst this;have up:∀b x,r b=some x->upd r a o' b=some x:=λb x e=>by
  unfold upd;rw[if_neg (λz=>by subst z;rw[hr] at e;exact nso e)];exact e
 refine⟨⟨S.base,S.fr,λb x e=>S.rs b x (up b x e),S.len,S.own,λi Q b e1 e2 q=>?_,S.nd,λb x e=>S.gr b x (up b x e),S.gt,S.tabs,S.frs⟩,⟨(S.gr a o' (eR _ _ _)).1,hr,(S.gr a o' (eR _ _ _)).2,λi Q e1 e2=>?_,λe he z=>?_⟩,e'⟩
 .refine bc λno=>aw (S.free i Q b e1 e2 q) λf1 f2 u=>no (⟨f1,(oH f2).2,u⟩)
 .cases z:isFz Q with
  |true=>rfl
  |false=>exact absurd rfl (oH (S.free i Q a e1 e2 z).2.1).1
 ·(refine bc λno=>ac (S.frs e he) λ_ M=>aq M λd o D=>bK D λe1 e2 e3 _=>no ?_;clear D M no);rw[z] at e1;cases e1;rw[e'] at e2;cases e2;exact hc e3
theorem df.release(X:df b1 (upd r a o) g b2 l O h C x):df b1 r g b2 l O h C x:=by
 have p:∀{b:Addr},aD b1 (upd r a o) g b2 l O b->aD b1 r g b2 l O b:=λ{b} L=>⟨L.1,(oH L.2.1).2,L.2.2⟩;refine hZ X λob vs a1 d B D E c=>⟨ob,vs,a1,d,B,D,p E,?_⟩;rcases c with c|⟨t,i,vt,bb,c5,b3,U,y,z⟩
 .exact .inl c
 .exact .inr ⟨t,i,vt,bb,c5,b3,U,y,p z.1,z.2⟩
set_option tactic.hygienic true in
theorem F6{C:List T}(hu:TRs b1.w g C U):aa J b1 r l A (RV b1.w) g b2 (newList U) (if aJ C.length then bP (.list C) else λ_=>none):=by
 intro O B s bs Y a b S q
 split at q
 .rename_i hf
  cases q;exact wpAny_newList (PQ.alloc S rfl (oF (TRs.mono a _ _ (by simpa using hu)))) (by refine rwl _ ?_ hu.len;exact hG hf)
 .exact nso q
theorem PQ.allocG{s:Shared}{ob:Obj}{tk:Tok}(S:St b1 r g b2 l O s.heap)(hf:ob.isFreed=false)
  (ho:TR b1.w (upd g s.heap.objs.size ob) t (.ref s.heap.objs.size)):PQ (RV b1.w) b1 r l s g b2 (.ok (.t t),O) (.ref s.heap.objs.size) {s with heap:=s.heap.push ob,toks:=tk}:=
 ⟨_,b2,_,rfl,⟨⟨_,tk,rfl⟩,aZ.upd ob (S.lt_g (cU _)),.refl _⟩,S.allocG (cU _) (λ_ _ e=>a3 _ e) (a6 _ hf),ho⟩
set_option tactic.hygienic true in
theorem F7{C:List T}(hu:TRs b1.w g C U):aa J b1 r l A (RV b1.w) g b2 (newTuple U) (if aJ C.length then pm (.t (.tuple C)) else λ_=>none):=by
 intro O B s bs Y a b S q
 split at q
 .rename_i hf
  cases q;refine wpAny_newTuple (PQ.allocG S rfl ?_) (by refine rwl _ ?_ hu.len;exact hG hf);exact⟨_,U.toArray,0,rfl,eR _ _ _,TRs.mono (a.trans (aZ.upd _ (S.lt_g (cU _)))) _ _ (by simpa using hu)⟩
 .exact nso q
theorem F8(S:aL J b1 n rc)(hR:Rm A l n)(he:ER b1 l g b2 e env)(U:List Expr)(c4:Pos):
  aa J b1 r l A (RV b1.w) g b2 (eval (.List U c4) env) (bm (a8 rc e U) λvs=>bm (eU fr vs) λts=>if aJ ts.length then bP (.list ts) else λ_=>none):=by
 show aa J b1 r l A _ g b2 (do standAt c4;newList (<-spliced (backTo c4 (starEach U env)))) _;exact aa.standAt (aa.bind (jv S hR U c4 g b2 he) λbs Y vs ys hg hr hv=>aa.freezes hv λc5 bl C d m hu=>F6 hu)
theorem F9(S:aL J b1 n rc)(hR:Rm A l n)(he:ER b1 l g b2 e env)(U:List Expr)(k:Nat)(c4:Pos):
  aa J b1 r l A (RV b1.w) g b2 (eval (.Tuple U k c4) env) (bm (a8 rc e U) λvs=>bm (eU fr vs) λts=>if aJ ts.length then pm (.t (.tuple ts)) else λ_=>none):=by
 show aa J b1 r l A _ g b2 (do standAt c4;newTuple (<-spliced (backTo c4 (starEach U env)))) _;exact aa.standAt (aa.bind (jv S hR U c4 g b2 he) λbs Y vs ys hg hr hv=>aa.freezes hv λc5 bl C d m hu=>F7 hu)
@[elab_as_elim] theorem Ga{P:T->T->Prop}(q:dQ t k=some u)(w:∀U i,(jo U.length i).bind (U[·]?)=some u->P (.list U) (.int i))(tu:∀U i,(jo U.length i).bind (U[·]?)=some u->P (.tuple U) (.int i))
  (f:∀N k,(cE k).bind (bg N)=some u->P (.dict N) k):P t k:=by
 cases t<;>first|exact nso q|exact f _ _ q|(cases k<;>first|exact nso q|exact w _ _ q|exact tu _ _ q)
theorem yr{U:List T}(q:(jo U.length i).bind (U[·]?)=some u):∃j,(-(2^63)<=i/\i<2^63)/\seqIndex? i U.length=some j/\U[j]? =some u:=by
 refine al (Option.bind_eq_some_iff.mp q) λj hj hu=>ac (eT hj) λhb hj=>⟨j,hb,hj,hu⟩
theorem Gb{ys:Array Value}{E:Value->Shared->Prop}{Q:Value->Shared->Prop}(hl:s.heap.IsList a ys)(hb: -(2^63)<=i/\i<2^63)(hj:seqIndex? i ys.size=some j)(hz:ys[j]? =some z)(hq:Q z s):wpAny (model J b1.w) A (getItem (.ref a) (.int i tk)) Q E s:=by
 unfold seqIndex? at hj
 by_cases h0:i<0
 .simp only[h0,if_true] at hj;refine ac (eT hj) λhc hj=>?_;have hj:=ai hj;subst hj;simp only[Bool.and_eq_true,decide_eq_true_eq] at hc;exact wpAny_getItem_list_neg hl h0 (EL hc) hb.1 hz hq
 .simp only[h0,if_false] at hj;refine ac (eT hj) λhc hj=>?_;have hj:=ai hj;subst hj;exact wpAny_getItem_list hl (Int.not_lt.mp h0) hb.2 hz hq
theorem Gc{E:Value->Shared->Prop}{Q:Value->Shared->Prop}(S:St b1 r g b2 l O s.heap)(ht:HR b1.w g s.heap t x)(hk:HR b1.w g s.heap k y)(q:dQ t k=some u)
  (hq:∀z tk,TR b1.w g u z->Q z {s with toks:=tk}):(∃T,s.TypeIs x T/\(T="list"\/T="tuple"\/T="dict"))/\wpAny (model J b1.w) A (getItem x y) Q E s:=by
 revert ht hk;refine Ga q (λU i q ht hk=>?_) (λU i q ht hk=>?_) (λN k q ht hk=>?_)
 ·(refine ag (eH hk) λtk bo=>?_;subst bo);(refine aq (ik ht) λa ys c3=>aw c3 λc2 hl hs=>?_;clear c3;subst c2);refine cD (yr q) λj hb hj hu=>al ((fj.mp hs).get hu) λz hz tz=>?_;rw[Array.getElem?_toList] at hz;exact⟨⟨"list",hl.typeIs,.inl rfl⟩,Gb hl hb (hs.len.trans (ej)▸hj) hz (hq z s.toks tz)⟩
 ·(refine ag (eH hk) λtk bo=>?_;subst bo);(refine a9 ht λa ys ep D=>aw D λc2 ho hs=>?_;clear D;subst c2);refine cD (yr q) λj hb hj hu=>al ((fj.mp hs).get hu) λz hz tz=>?_;rw[Array.getElem?_toList] at hz;have w:=S.fr _ _ ho;exact⟨⟨"tuple",⟨_,w,rfl⟩,.inr (.inl rfl)⟩,P.getItem_tuple w hb.1 hb.2 (hs.len.trans (ej)▸hj) hz (hq z s.toks tz)⟩
 .refine al (Option.bind_eq_some_iff.mp q) λf hkey hu=>?_;(refine aq (gh J ht) λa ps M=>bS M λc2 hs hd h1 h2=>?_;clear M;subst c2);refine ac (mV f h1 h2) λ_ m=>al (m u hu) λz hz tz=>⟨⟨"dict",hd.typeIs,.inr (.inr rfl)⟩,wpAny_getItem_of (jw hkey (yj hkey hk)) hd.mapOf hz (hq z _ tz)⟩
theorem Gd{T:String}(h:T="list"\/T="tuple"\/T="dict"):∃id,typeLookup (.type T) "__getitem__"=pure (some (.builtin id)):=by
 rcases h with rfl|rfl|rfl
 .exact⟨_,list_getitem_lookup⟩
 .exact⟨_,PySem.F.slot_tuple_getitem.lookup⟩
 .exact⟨_,slot_dict_getitem.lookup⟩
theorem Ge{o:Value}{T id:String}{Q:Bool->Shared->Prop}{E:Value->Shared->Prop}(hT:s.TypeIs o T)(hl:typeLookup (.type T) "__getitem__"=pure (some (.builtin id)))(h:Q false s):
  wpAny (model J b1.w) A (getitemInPython o) Q E s:=by
 unfold getitemInPython;exact ae (wpAny_specialOf hT hl (ar h))
theorem Gf(hs:∀a b c p,d≠ .Slice a b c p):subscripted d false o i=operate [o,i] (getItem o i):=by
 cases d<;>first|rfl|exact absurd rfl (hs _ _ _ _)
theorem yt{m:Sem Value}{Q:Value->Shared->Prop}{E:Value->Shared->Prop}(h:wpAny (model J b1.w) A m Q E s):wpAny (model J b1.w) A (operate vs m) Q E s:=
 λU p I=>by rw[Sem.wp_operate];exact h U p I
theorem yu{c d:Expr}{o i:Value}{T:String}{Q:Value->Shared->Prop}{E:Value->Shared->Prop}(hT:s.TypeIs o T)(hl:T="list"\/T="tuple"\/T="dict")
  (hs:∃vs,subscripted d false o i=operate vs (getItem o i))(h:wpAny (model J b1.w) A (getItem o i) Q E s):
  wpAny (model J b1.w) A (do let r<-subscripted d (<-getitemInPython o) o i;letTemporaryGo c o r;pure r) Q E s:=by
 refine ag (Gd hl) λid hl=>ag hs λvs hs=>ae (Ge hT hl ?_);refine rwm _ ?_ hs;exact ae (yt (ea h (λr s' b5=>ae (wpAny_letTemporaryGo (ar b5))) λ_ _ x=>x))
theorem t5{U:List T}{ys:Array Value}(hs:TRs b1.w g U ys.toList):∀(b:List Nat),TRs b1.w g (b.filterMap (U[·]?)) (b.filterMap (ys[·]?))
 |[]=>rfl
 |j::b=>by
  have bb:=hs.len.trans (ej);simp only[List.filterMap_cons]
  cases hx:U[j]?with
  |none=>
   have:ys[j]? =none:=by rw[Array.getElem?_eq_none];rw[List.getElem?_eq_none_iff] at hx;exact EM bb hx
   refine rwm _ ?_ this;exact t5 hs b
  |some x=>
   refine al ((fj.mp hs).get hx) λy L H=>?_;rw[Array.getElem?_toList] at L;refine rwm _ ?_ L;exact⟨y,_,rfl,H,t5 hs b⟩
theorem t6(S:aL J b1 n rc)(hR:Rm A l n)(he:ER b1 l g b2 e env)(x:Option Expr):
  aa J b1 r l A (λg b2 (a:Option V)(y:Value)=>match a with|none=>y= .none|some v=>VR b1.w g b2 v y) g b2 (valueOrNone (evalOpt x env)) (iP rc e x):=by
 cases x with
 |none=>exact aa.pure λ_ _ _ _=>rfl
 |some x=>
  intro O B s bs Y a b H q;refine aa.run ((S.ev hR he x).later a b) H q (λv y c6 s' b6 b4 q p S2 hv=>?_) λx s' z=>z;have q:=ai q;subst q;exact⟨b6,b4,_,rfl,p,S2,hv⟩
abbrev RO(w:World):Rl (Option V) Value:=λg b2 a y=>match a with|none=>y= .none|some v=>VR w g b2 v y
theorem Gg(q:fP (some v)=some p):∃k,v= .t (.int k)/\p=some k:=by
 cases v with
 |own i=>exact nso q
 |t t=>cases t<;>first|exact nso q|exact⟨_,rfl,(ai q).symm⟩
theorem t7(h:RO w g b2 a y)(q:fP a=some p):IsPart y p:=by
 cases a with
 |none=>cases q;cases h;exact .none
 |some v=>
  (refine ag (Gg q) λk c1=>ac c1 λc2 bo=>?_;clear c1;clear q;subst c2;subst bo);(refine ag h λt bo=>?_;clear h;subst bo);exact .int _ _
theorem RO.mono(h:RO w g b2 a y)(hg:aZ g b6)(hr:bu b2 b4):RO w b6 b4 a y:=by
 cases a with
 |none=>exact h
 |some v=>exact VR.mono hg hr _ _ h
def R3(w:World):Rl (Option V×Option V×Option V) Value:=λg b2 q L=>
 ∃a xl xu U,L= .ref a/\g a=some ⟨.type "slice",none,.fields #[xl,xu,U],#[]⟩/\RO w g b2 q.1 xl/\RO w g b2 q.2.1 xu/\RO w g b2 q.2.2 U
theorem Gh(S:aL J b1 n rc)(hR:Rm A l n)(he:ER b1 l g b2 e env)(lo hi st:Option Expr)(p:Pos):aa J b1 r l A (R3 b1.w) g b2 (eval (.Slice lo hi st p) env)
  (bm (iP rc e lo) λl=>bm (iP rc e hi) λh=>bm (iP rc e st) λs=>pm (l,h,s)):=by
 show aa J b1 r l A _ g b2 (do
    let l<-valueOrNone (evalOpt lo env)
    let u<-holding [l] (valueOrNone (evalOpt hi env))
    let s<-holding [l,u] (valueOrNone (evalOpt st env))
    newFields "slice" [l,u,s]) _
 refine aa.bind (t6 S hR he lo) λbs Y a x hg hr ha=>aa.bind (aa.holding (t6 S hR (he.mono hg hr) hi)) λc5 bl b y d m hb=>aa.bind (aa.holding (t6 S hR ((he.mono hg hr).mono d m) st)) λc9 N c z E D hc=>?_;intro O B s c2 bb k1 k2 H q;cases q;have hn:=H.lt_g (cU _);refine rp ?_ (by size_fits);have up:=aZ.upd (⟨.type "slice",none,.fields [x,y,z].toArray,#[]⟩:Obj) hn;exact⟨_,bb,_,rfl,⟨⟨_,s.toks,rfl⟩,up,.refl _⟩,H.allocG (cU _) (λ_ _ e=>a3 _ e) (a6 _ rfl),
  _,x,y,z,rfl,eR _ _ _,RO.mono ha (((d.trans E).trans k1).trans up) ((m.trans D).trans k2),RO.mono hb ((E.trans k1).trans up) (D.trans k2),RO.mono hc (k1.trans up) k2⟩
set_option tactic.hygienic true in
theorem Gi{B:Except Addr V×af}(q:qk t a b c O=some B):∃C i f d,t= .list C/\fP a=some i/\fP b=some f/\fP c=some d/\(d≠some 0/\aJ C.length=true)/\B=(.ok (.own O.length),O++[.list (lK C i f d)]):=by
 cases t<;>first|exact nso q|skip
 rename_i C
 have q:(match fP a,fP b,fP c with
  |some a,some b,some c=>if c≠some 0/\aJ C.length=true then bP (.list (lK C a b c)) else λ_=>none
  |_,_,_=>λ_=>none:MM V) O=some B:=q
 cases e1:fP a with
 |none=>rw[e1] at q;exact nso q
 |some i=>
 cases e2:fP b with
 |none=>rw[e1,e2] at q;exact nso q
 |some f=>
 cases e3:fP c with
 |none=>rw[e1,e2,e3] at q;exact nso q
 |some d=>
 rw[e1,e2,e3] at q;refine ac (cL q) λh q=>⟨C,i,f,d,rfl,rfl,rfl,rfl,h,(ai q).symm⟩
theorem Gj(S:aL J b1 n rc)(hR:Rm A l n)(he:ER b1 l g b2 e env)(o i:Expr)(c4:Pos):aa J b1 r l A (RV b1.w) g b2 (eval (.Subscript o i c4) env) (xP rc e o i):=by
 show aa J b1 r l A _ g b2 (do
  let M<-eval o env
  let L<-holding [M] (eval i env)
  standAt c4
  let r<-subscripted i (<-getitemInPython M) M L
  letTemporaryGo o M r
  pure r) _
 refine aa.bind (S.ev hR he o) λbs Y v x hg hr hv=>?_
 by_cases hs:∃a b c p,i= .Slice a b c p
 ·(refine bH hs λlo hi st p bd=>?_;clear hs;subst bd);have e0:mO rc e v (.Slice lo hi st p)=bm (bm (iP rc e lo) λl=>bm (iP rc e hi) λh=>bm (iP rc e st) λs=>pm (l,h,s)) λq=>bm (aE v) λt=>qk t q.1 q.2.1 q.2.2:=by
   simp only[du];rfl
  refine rwm _ ?_ e0;refine aa.bind (aa.holding (Gh S hR (he.mono hg hr) lo hi st p)) λc5 bl q y d m hq=>aa.standAt (aa.vw (VR.mono d m _ _ hv) λO s c9 N t B a b H ht q'=>?_);(refine bH hq λsl xl xu U cd=>bS cd λc2 be h1 h2 h3=>?_;clear cd;clear hq;subst c2);(refine bH (Gi q') λC pl pu ps cs=>db cs λc2 e1 e2 e3 hc c6=>?_;clear cs;clear q';subst c2;subst c6);(refine aq (ik ht) λI ys c3=>aw c3 λc2 hl f=>?_;clear c3;subst c2);have bb:=f.len.trans (ej);have D:s.heap.IsSliceOf sl xl xu U:=⟨_,H.fr _ _ (a _ _ be),rfl,rfl⟩;refine yu hl.typeIs (.inl rfl) (by clear e0;cases st<;>exact⟨_,rfl⟩) (wpAny_getItem_list_slice hl D (t7 h1 e1) (t7 h2 e2) (t7 h3 e3) hc.1 (PQ.alloc H rfl (oF ?_)) (by refine rwl _ ?_ bb;exact hG hc.2));unfold lK;refine rwm _ ?_ bb;show TRs b1.w c9 _ (slicePick ys pl pu ps).toList;unfold slicePick;exact t5 f _
 .have e1:mO rc e v i=bm (rc.ev i e) λL=>bm (aE v) λt=>match L with
    | .t k=>om ((dQ t k).map .t)
    |_=>λ_=>none:=by
    unfold mO;cases i<;>first|rfl|exact absurd ⟨_,_,_,_,rfl⟩ hs
  refine rwm _ ?_ e1;refine aa.bind (aa.holding (S.ev hR (he.mono hg hr) i)) λc5 bl u y d m hu=>aa.standAt (aa.vw (VR.mono d m _ _ hv) λO s c9 N t B a b H ht q=>?_)
  cases u with
  |own j=>exact nso q
  |t k=>
   (refine ag (dq q) λG c1=>ac c1 λe2 bo=>?_;clear c1;clear q;subst bo);(refine ag (Option.map_eq_some_iff.mp e2) λw c1=>ac c1 λe3 bo=>?_;clear c1;subst bo);(refine ac (Gc (A:=A) (J:=J) (E:=PE b1 r l s c9 N (.ok (V.t w),O)) (Q:=PQ (RV b1.w) b1 r l s c9 N (.ok (V.t w),O)) H ht (TR.hr H (TR.mono a _ _ hu)) e3 λz tk tz=>PQ.vt H tz) λc7 hw=>?_;rcases c7 with⟨T,hT,bi⟩);exact yu hT bi ⟨_,Gf λa b c p e=>hs ⟨a,b,c,p,e⟩⟩ hw
def DP(w:World)(g:ay)(N:List (aj×T))(ps:List (aj×Value)):Prop:=ps.map (·.1)=N.map (·.1)/\LR (TR w g) (N.map (·.2)) (ps.map (·.2))
theorem DP.nil:DP w g [] []:=⟨rfl,rfl⟩
theorem DP.cons(h1:TR w g t v)(h:DP w g N ps):DP w g ((k,t)::N) ((k,v)::ps):=
 ⟨by simp [h.1],⟨v,_,rfl,h1,h.2⟩⟩
theorem DP.inv(h:DP w g ((k,t)::N) ps):∃v H,ps=(k,v)::H/\TR w g t v/\DP w g N H:=by
 (refine ac h λh1 h2=>?_;clear h)
 cases ps with
 |nil=>simp at h1
 |cons p q=>
  rcases p with⟨m,d⟩;simp only[List.map_cons,List.cons.injEq] at h1;(refine b9 h2 λy r e1 e2 e3=>?_;clear h2);simp only[List.map_cons,List.cons.injEq] at e1;exact⟨d,q,by exact rwm _ rfl h1.1,e1.1▸e2,h1.2,e1.2▸e3⟩
theorem DP.nil_inv(h:DP w g [] ps):ps=[]:=by
 have:=h.1;cases ps with
 |nil=>rfl
 |cons p q=>simp at this
theorem DP.mono(hg:aZ g b6)(h:DP w g N ps):DP w b6 N ps:=⟨h.1,h.2.mono' (TR.mono hg)⟩
theorem DP.app(h1:DP w g a c)(h2:DP w g b d):DP w g (a++b) (c++d):=
 ⟨by simp [h1.1,h2.1],by simp only[List.map_append];exact h1.2.app h2.2⟩
theorem DP.any{N:List (aj×T)}{ps:List (aj×Value)}(h:DP w g N ps)(k:aj):ps.any (λG=>decide (G.1=k))=N.any (λG=>decide (G.1=k)):=by
 have e1:ps.any (λG=>decide (G.1=k))=(ps.map (·.1)).any (λx=>decide (x=k)):=by refine rwm _ ?_ List.any_map;rfl
 have e2:N.any (λG=>decide (G.1=k))=(N.map (·.1)).any (λx=>decide (x=k)):=by refine rwm _ ?_ List.any_map;rfl
 exact rwm _ (rwm _ (rwm _ rfl h.1) e2) e1
theorem DP.map(ht:TR w g t v):∀{N:List (aj×T)}{ps:List (aj×Value)},DP w g N ps->
  DP w g (N.map (λG=>if G.1=k then(G.1,t) else G)) (ps.map (λG=>if G.1=k then(G.1,v) else G))
 |[],ps,h=>by refine rwm _ ?_ h.nil_inv;exact .nil
 |(j,u)::N,ps,h=>by
  (refine aq h.inv λx H c3=>aw c3 λc2 h1 h2=>?_;clear c3;clear h;subst c2);simp only[List.map_cons]
  by_cases q:j=k
  .refine rwm _ (rwm _ ?_ (eb q)) (eb q);exact .cons ht (DP.map ht h2)
  .refine rwm _ (rwm _ ?_ (hW q)) (hW q);exact .cons h1 (DP.map ht h2)
theorem DP.put(h:DP w g N ps)(ht:TR w g t v):DP w g (bj N k t) (stored ps k v):=by
 unfold bj stored;refine rwm _ ?_ (h.any k)
 split
 .exact h.map ht
 .exact h.app (.cons ht .nil)
theorem DP.del:∀{N:List (aj×T)}{ps:List (aj×Value)},DP w g N ps->DP w g (gO N k) (without ps k)
 |[],ps,h=>by refine rwm _ ?_ h.nil_inv;exact .nil
 |(j,u)::N,ps,h=>by
  (refine aq h.inv λx H c3=>aw c3 λc2 h1 h2=>?_;clear c3;clear h;subst c2);have ih:=DP.del (k:=k) h2;unfold gO without at*;simp only[List.filter_cons]
  by_cases q:j=k
  .simp only[q,ne_eq,not_true_eq_false,decide_false,Bool.false_eq_true,if_false];exact ih
  .simp only[q,ne_eq,not_false_eq_true,decide_true,if_true];exact .cons h1 ih
theorem DP.foldPut:∀{C N:List (aj×T)}{vs ps:List (aj×Value)},DP w g C vs->DP w g N ps->DP w g (C.foldl (λd p=>bj d p.1 p.2) N) (PySem.merged ps vs)
 |[],N,vs,ps,h,k=>by refine rwm _ ?_ h.nil_inv;exact k
 |(j,u)::C,N,vs,ps,h,k=>by
  (refine aq h.inv λx H c3=>aw c3 λc2 h1 h2=>?_;clear c3;clear h;subst c2);refine(?_:DP w g (C.foldl (λd p=>bj d p.1 p.2) (bj N j u)) (PySem.merged (stored ps j x) H));exact DP.foldPut h2 (k.put h1)
theorem oJ(hd:h.DictOf (kk J b1.w) a ps)(hp:DP b1.w g N ps)(ha:a≠sysModules):OR b1.w g b2 h (.dict N) a:=by
 (refine sQ hd λo es ep ho hx c hk f hn=>?_;clear hd);rcases o with⟨cl,d,j,sl⟩;(refine bc λno=>aw hx λi E b=>no ?_;clear hx no);simp only at i E b c;subst i E b c;exact⟨es,ep,ho,TRd.of_pairs f hp.1 hp.2 (λe he=>hk e (by simpa using he)),by refine rwl _ ?_ hp.1;exact hn,ha⟩
def KP(w:World):Rl (List (aj×T)) (List (Value×Value)):=λg _ N vs=>∃ps:List (aj×Value),DP w g N ps/\LR (λ(p:aj×Value)(x:Value)=>gc p.1 x=true) ps (vs.map (·.1))/\ps.map (·.2)=vs.map (·.2)
theorem KP.carries(h:KP w g b2 N vs):∃ps,Carries (kk J w) vs ps/\DP w g N ps:=by
 (refine cD h λps h1 h2 h3=>?_;clear h);refine⟨ps,?_,h1⟩;clear h1
 induction ps generalizing vs with
 |nil=>cases vs with
  |nil=>trivial
  |cons a b=>simp at h3
 |cons p ps ih=>
  cases vs with
  |nil=>simp at h3
  |cons a b=>
   rcases p with⟨k,v⟩;rcases a with⟨x,y⟩;simp only[List.map_cons,List.cons.injEq] at h3;(refine b9 h2 λz rr e1 e2 e3=>?_;clear h2);simp only[List.map_cons,List.cons.injEq] at e1;exact⟨by refine rwm _ ?_ e1.1;exact e2,h3.1.symm,ih (e1.2▸e3) h3.2⟩
noncomputable def lO(env:Env)(c4:Pos):List (Option Expr)->List Expr->List (Sem Value×Sem Value)
 |some k::C,v::vs=>(eval k env,do let x<-eval v env;standAt c4;pure x)::lO env c4 C vs
 |_,_=>[]
theorem yv(c4:Pos):∀(C:List (Option Expr))(vs:List Expr),C.all (·.isSome)=true->(evalEachOpt C env).zip ((evalEach vs env).map λv=>do let x<-v;standAt c4;pure x)=(lO env c4 C vs).map λp=>(some p.1,p.2)
 |[],vs,_=>rfl
 |some k::C,[],_=>rfl
 |some k::C,v::vs,h=>by
  show(some (eval k env),_)::(evalEachOpt C env).zip _=_;refine rwm _ ?_ (yv c4 C vs (by simpa using h));rfl
 |none::C,vs,h=>by simp at h
theorem Gk{R:Rl α β}{t:Sem β}{m:MM α}(h:aa J b1 r l A R g b2 t m):aa J b1 r l A R g b2 (do let x<-t;standAt p;pure x) m:=
 λO B s bs Y a b S e=>ae (ea (h O B s bs Y a b S e) (λx s' z=>ae (kV (ar z))) λ_ _ z=>z)
theorem t8(S:aL J b1 n rc)(hR:Rm A l n)(c4:Pos):∀(C:List (Option Expr))(vs:List Expr)(g:ay)(b2:List Addr),ER b1 l g b2 e env->
  aa J b1 r l A (KP b1.w) g b2 (evalPairs (lO env c4 C vs)) (mM rc e C vs)
 |[],[],g,b2,he=>aa.pure λ_ _ _ _=>⟨[],.nil,rfl,rfl⟩
 |[],_::_,g,b2,he=>aa.none
 |none::_,[],g,b2,he=>aa.none
 |none::_,_::_,g,b2,he=>aa.none
 |some _::_,[],g,b2,he=>aa.none
 |some k::C,v::vs,g,b2,he=>by
  show aa J b1 r l A _ g b2 (do
   let G<-eval k env
   let u<-holding [G] (do let x<-eval v env;standAt c4;pure x)
   return(G,u)::(<-holding [G,u] (evalPairs (lO env c4 C vs)))) _
  refine aa.bind (S.ev hR he k) λbs Y G x hg hr hk=>aa.bind (R:=RV b1.w) (aa.holding (Gk (S.ev hR (he.mono hg hr) v))) λc5 bl u y d m hv=>aa.freeze hv λc9 N t E D ht=>?_
  cases G with
  |own i=>exact aa.none
  |t kt=>
   cases M:cE kt with
   |none=>
    have:(bm (om (none:Option aj)) λf=>bm (mM rc e C vs) λj=>pm ((f,t)::j))=λ_=>none:=rfl;simp only[M];refine rwm _ ?_ this;exact aa.none
   |some f=>
    simp only[M];show aa J b1 r l A _ c9 N _ (bm (mM rc e C vs) λj=>pm ((f,t)::j));refine aa.bind (aa.holding (t8 S hR c4 C vs c9 N (((he.mono hg hr).mono d m).mono E D))) λc2 bb j ps o w hp=>?_;refine cD hp λH p1 p2 p3=>aa.pure λf2 c b p=>⟨(f,y)::H,.cons (TR.mono (o.trans b) _ _ ht) (p1.mono b),⟨x,_,rfl,jw M hk,p2⟩,by simp [p3]⟩
theorem t9(G:Gl b1 P b7 mb)(hs:∃o,b1.B.get? sysModules=some o)(S:St b1 r g b2 l O s.heap):s.heap.objs.size≠sysModules:=λe=>by
 (refine ag hs λo ho=>?_;clear hs);have:=mm (S.ground _ _ ho);rw[e] at this;exact ka _ this
theorem Gm(ct:s.heap.objs.size≠sysModules):OR b1.w g (b2++[s.heap.objs.size]) (s.heap.push ⟨.type "dict",.none,.dict #[] 0,#[]⟩) (.dict []) s.heap.objs.size:=
 ⟨#[],0,a6 _ rfl,rfl,by simp,ct⟩
theorem Gn(G:Gl b1 P b7 mb)(hs:∃o,b1.B.get? sysModules=some o)(S:aL J b1 n rc)(hR:Rm A l n)(he:ER b1 l g b2 e env)(C:List (Option Expr))(vs:List Expr)(c4:Pos):
  aa J b1 r l A (RV b1.w) g b2 (eval (.Dict C vs c4) env) (if C.length<=15&&C.length==vs.length&&C.all (·.isSome) then bm (mM rc e C vs) λl=>bP (.dict (l.foldl (λd p=>bj d p.1 p.2) [])) else λ_=>none):=by
 by_cases hc:(C.length<=15&&C.length==vs.length&&C.all (·.isSome))=true
 .refine rwm _ ?_ (eb hc);simp only[Bool.and_eq_true,decide_eq_true_eq,beq_iff_eq] at hc;refine ac hc λhc i=>?_
  cases C with
  |nil=>
   have:vs=[]:=List.length_eq_zero_iff.mp hc.2.symm;subst this;intro O B s bs Y a b H q;cases q;show wpAny _ _ (do standAt c4;dictDisplay []) _ _ _;refine ae (kV ?_);show wpAny _ _ (newDict #[]) _ _ _;exact rp (PQ.alloc H rfl (Gm (t9 G hs H))) (by size_fits)
  |cons k C=>
   cases vs with
   |nil=>simp at hc
   |cons v vs=>
    intro O B s bs Y a b H q;have be:=he.mono a b;have bb:(lO env c4 (k::C) (v::vs)).length<=15:=by
     have:∀(C:List (Option Expr))(vs:List Expr),(lO env c4 C vs).length<=C.length:=by
      intro C
      induction C with
      |nil=>intro vs;exact ix _
      |cons k C ih=>intro vs;cases k<;>cases vs<;>first|exact ix _|exact i1 (ih _)
     exact a5 (this _ _) hc.1
    have ct:lO env c4 (k::C) (v::vs)≠[]:=by cases k<;>first|exact List.cons_ne_nil _ _|(simp at i)
    refine wpAny_Dict_pairs (knd:=kk J b1.w) (yv c4 _ _ i) ct bb ?_;have hn:=cU s.heap;have ho:(s.heap.push ⟨.type "dict",.none,.dict #[] 0,#[]⟩).get? s.heap.objs.size=some ⟨.type "dict",.none,.dict #[] 0,#[]⟩:=a6 _ rfl;have S1:St b1 r bs Y l O (s.heap.push ⟨.type "dict",.none,.dict #[] 0,#[]⟩):=H.keep λ_ _ e=>a3 _ e;have L1:=H.lone_new hn;have S2:=S1.reserve L1 ho;have f:=L1.2.1;(refine bc λno=>a2 (ed q) (λzz=>aq zz λN c6 bi=>ac bi λe1 e2=>no ?_) (λzz=>aq zz λc c6 bi=>ac bi λe1 e2=>no ?_)<;>clear bi zz no)
    .clear q;cases e2;refine ea (t8 S hR c4 (k::C) (v::vs) bs Y be O _ {s with heap:=s.heap.push ⟨.type "dict",.none,.dict #[] 0,#[]⟩} bs Y (.refl _) (.refl _) S2 e1) (λy s' z=>?_) λy s' z=>?_
     ·(refine ch z λc5 bl t q1 p S3 hk=>?_;clear z);(have D:=oke q1;clear q1;cases D);refine bc λno=>aw (S3.release f (by simp)) λS4 I h4=>no (al (KP.carries (J:=J) hk) λps Q E=>?_);have m:s'.heap.DictOf (kk J b1.w) s.heap.objs.size []:=⟨_,#[],0,h4,⟨rfl,rfl,rfl⟩,rfl,λ_ he=>by simp at he,.nil,List.nodup_nil⟩;refine⟨ps,Q,m,λb5 c9 c3=>?_⟩;have S5:=S4.extBut I c3.extBut;(refine bc λno=>aw p λu p2 p3=>?_;clear p;rcases u with⟨h5,j,e5⟩;refine no ?_;clear no);clear m c3;subst e5;exact⟨c5,bl++[s.heap.objs.size],_,rfl,⟨⟨b5,_,rfl⟩,p2,p3.trans (.app _ _)⟩,(S5.adopt I rfl (oJ c9 (DP.foldPut E .nil) (t9 G hs H))),_,by refine rwl _ ?_ S4.len;simp,rfl⟩
     .refine cT z λ_ _ _ _ q1 _=>oee q1
    .clear q;cases e2;refine ea (t8 S hR c4 (k::C) (v::vs) bs Y be O _ {s with heap:=s.heap.push ⟨.type "dict",.none,.dict #[] 0,#[]⟩} bs Y (.refl _) (.refl _) S2 e1) (λy s' z=>?_) λy s' z=>?_
     .refine dZ z λ_ _ _ q1 _=>eoe q1
     ·(refine n0 z λc5 bl c' ex q1 p S3 hx X=>?_;clear z);(have D:=ere q1;clear q1;cases D);(refine bc λno=>aw (S3.release f (by simp)) λS4 I h4=>no ?_;clear no);(refine bc λno=>aw p λu p2 p3=>?_;clear p;rcases u with⟨h5,j,e5⟩;refine no ?_;clear no);clear S3 h4;subst e5;exact⟨c5,bl,_,ex,rfl,⟨⟨h5,j,rfl⟩,p2,p3⟩,S4,hx,X.release⟩
 .refine rwm _ ?_ (hW hc);exact aa.none
end
structure Kt (K:Frag) (cx:Cx) (P:bt):Prop where
 X:K.In cx.B
 fld:∀C n,P.fld C n=true->∃cd,clsIn K C=some cd/\cd.hasDict=true/\findIn K (.ref C) n=some none/\findIn K (.ref C) "__getattribute__"=some (some (.builtin "object.__getattribute__"))
section
variable {J:Program}{b1:Cx}{r g b6:ay}{b2 b4:List Addr}{l:List Env}{A:Around}{α β γ δ:Type}{P:bt}{b7 mb:Str->Option Value}{n:Nat}{rc:aG}{e:AE}{env:Env}{O:af}{h b5:Heap}{s:Shared}{K:Frag}
set_option tactic.hygienic true in
theorem ua{b:Sem Value}(h:fN o=true):attributeBase o attr env b=b:=by
 cases o<;>first|rfl|skip
 rename_i f be m p
 cases f<;>first|rfl|skip
 cases be with
 |cons a l=>rfl
 |nil=>cases m with
  |cons a l=>rfl
  |nil=>exact ftf h
theorem Go{m:Str->Option Value}(hn:fh o m)(hv:m x=some v):lookIn x o=some (some v):=by
 (refine b9 hn λes ep hd _ hf=>?_;clear hn);have:=hf x;rw[hv] at this;unfold nsFind findBy at this;refine al (Option.map_eq_some_iff.mp this) λf he d=>?_;unfold lookIn;refine rwm _ ?_ hd;dsimp only;refine rwm _ (rwm _ ?_ he) (Array.find?_toList);simp [d]
theorem yw(k:Kt K b1 P)(S:St b1 r g b2 l O s.heap){m:Str->Option Value}{E:Value->Shared->Prop}{Q:Value->Shared->Prop}(hf:P.fld C x=true)
  (ha:s.heap.get? a=some ⟨.ref C,some d,.plain,#[]⟩)(hd:s.heap.get? d=some od)(hn:fh od m)(hv:m x=some v)(hh:handedIn v=true)(hq:Q v {s with toks:=s.toks+1}):
  wpAny (model J b1.w) A (getAttr (.ref a) x true) Q E s:=by
 refine bc λno=>ag (k.fld C x hf) λc6 c3=>bK c3 λh1 h2 h3 h4=>no (get_value (od:=some od) (k.X.keeps S.ground) ⟨ha,rfl,rfl,hd⟩ h4 ?_ hh hq);exact findObj_own (by unfold hasDictIn;refine rwm _ ?_ h1;exact h2) h3 rfl (Go hn hv)
theorem ub:(t:T)->∀k u,strip t≠ .box k u
 | .box _ t,k,u=>ub t k u
 | .none,_,_=>by intro e;cases e
 | .bool _,_,_=>by intro e;cases e
 | .int _,_,_=>by intro e;cases e
 | .str _,_,_=>by intro e;cases e
 | .bytes _,_,_=>by intro e;cases e
 | .typ _,_,_=>by intro e;cases e
 | .bi _,_,_=>by intro e;cases e
 | .top _,_,_=>by intro e;cases e
 | .range _ _,_,_=>by intro e;cases e
 | .list _,_,_=>by intro e;cases e
 | .tuple _,_,_=>by intro e;cases e
 | .dict _,_,_=>by intro e;cases e
 | .inst _ _,_,_=>by intro e;cases e
theorem Gp(hb:qf (strip t)=false)(hv:TR w g t x):handedIn x=true:=by
 have hs:=ub t;have hv:=TR.strip hv;generalize strip t=u at hb hs hv;cases u<;>(try((first|exact tff hb|cases hb);done))<;>skip
 all_goals first
  |(subst hv;rfl)
  |((refine ag hv λ_ bo=>?_;clear hv;first|subst bo|cases bo);rfl)
  |((refine bH hv λ_ _ _ _ D=>ac D λc2 _=>?_;clear D;subst c2);rfl)
  |((refine a9 hv λ_ _ _ c3=>ac c3 λc2 _=>?_;clear c3;clear hv;subst c2);rfl)
  |exact absurd rfl (hs _ _)
theorem yx(q:iM v=some u)(hv:VR b1.w g b2 v x):u=v/\handedIn x=true:=by
 cases v with
 |own i=>cases q;(refine ag hv λa c1=>ac c1 λ_ bo=>?_;clear c1;subst bo);exact⟨rfl,rfl⟩
 |t t=>
  unfold iM at q;dsimp only at q
  cases hb:qf (strip t) with
  |true=>rw[hb] at q;exact nso q
  |false=>rw[hb] at q;cases q;exact⟨rfl,Gp hb hv⟩
theorem Gq{fld:Addr->Str->Bool}{t:T}{n:Str}{B:Except Addr V×af}(q:mJ fld t n O=some B):∃C fs t' u,t= .inst C fs/\fld C n=true/\fs.lookup n=some t'/\iM (.t t')=some u/\B=(.ok u,O):=by
 cases t<;>first|exact nso q|skip
 refine ac (cL q) λh q=>al (dq q) λu e1 e2=>al (Option.bind_eq_some_iff.mp e1) λt e3 e4=>⟨_,_,t,u,rfl,h,e3,e4,e2⟩
theorem Gr{fld:Addr->Str->Bool}{t:MO}{n:Str}{B:Except Addr V×af}(q:xI fld n t O=some B):(∃t',t= .fz t'/\mJ fld t' n O=some B)\/∃C fs t' u,t= .sh C fs/\fld C n=true/\fs.lookup n=some t'/\iM t'=some u/\B=(.ok u,O):=by
 cases t<;>first|exact nso q|exact .inl ⟨_,rfl,q⟩|skip
 refine ac (cL q) λh q=>al (dq q) λu e1 e2=>al (Option.bind_eq_some_iff.mp e1) λt e3 e4=> .inr ⟨_,_,t,u,rfl,h,e3,e4,e2⟩
theorem yy(k:Kt K b1 P){nm:Str}{t:T}{x:Value}{B:Except Addr V×af}(S:St b1 r g b2 l O s.heap)(ht:TR b1.w g t x)(q:mJ P.fld t nm O=some B):wpAny (model J b1.w) A (getAttr x nm true) (PQ (RV b1.w) b1 r l s g b2 B) (PE b1 r l s g b2 B) s:=by
 (refine bH (Gq q) λC fs t' u cd=>bS cd λc2 hf e2 e3 bd=>?_;clear cd;clear q;subst c2;subst bd);(refine bH ht λa d od m cs=>db cs λc2 h1 h2 h3 h4 h5=>?_;clear cs;clear ht;subst c2);refine al ((tj.mp h4).get e2) λy L H=>?_;(refine ac (yx e3 (show VR b1.w g b2 (.t t') y from H)) λc2 hh=>?_;subst c2);exact yw k S hf (S.fr _ _ h1) (S.fr _ _ h2) h3 L hh (PQ.vt S H)
theorem Gs(k:Kt K b1 P){v:V}{x:Value}(hv:VR b1.w g b2 v x)(nm:Str):aa J b1 r l A (RV b1.w) g b2 (getAttr x nm true) (qg P.fld v nm):=by
 intro O B s bs Y a b S q;have hv:=VR.mono a b _ _ hv
 cases v with
 |t t=>exact yy k S (TR.strip hv) q
 |own i=>
  (refine ag hv λad c1=>ac c1 λha bo=>?_;clear c1;clear hv;subst bo);refine al (dE q) λQ hi q=>?_;have w:=S.own i Q ad hi ha;(refine a2 (Gr q) (λzz=>?_) (λzz=>?_);refine ag zz λt' c1=>ac c1 λc2 q=>?_;clear c1;clear hi;subst c2;rotate_left;refine bH zz λC fs t' u cd=>bS cd λc2 hf e2 e3 bd=>?_;clear cd;clear hi zz;subst c2;subst bd;rotate_right)
  .exact yy k S w q
  .refine dm w λd od m h1 h2 h3 h4 h5=>al (h4.get e2) λy L H=>?_;(refine ac (yx e3 H) λc2 hh=>?_;clear e2 e3;subst c2);exact yw k S hf (S.fr _ _ h1) (S.fr _ _ h2) h3 L hh (PQ.tok S H)
theorem Gu(k:Kt K b1 P)(S:aL J b1 n rc)(hR:Rm A l n)(he:ER b1 l g b2 e env)(o:Expr)(nm:Str)(c4:Pos):
  aa J b1 r l A (RV b1.w) g b2 (eval (.Attribute o nm c4) env) (if fN o then bm (rc.ev o e) λM=>qg P.fld M nm else λ_=>none):=by
 by_cases hb:fN o=true
 .refine rwm _ ?_ (eb hb);show aa J b1 r l A _ g b2 (do
   let M<-attributeBase o nm env (eval o env)
   standAt c4.atName
   let r<-holding [M] (getAttr M nm true)
   letTemporaryGo o M r
   pure r) _
  refine rwm _ ?_ (ua hb);refine aa.bind (S.ev hR he o) λbs Y v x hg hr hv=>aa.standAt ?_;intro O B s c5 bl a b H q;refine ae (en (ea (Gs k hv nm O B s c5 bl a b H q) (λy s' z=>?_) λ_ _ z=>z));exact ae (wpAny_letTemporaryGo (ar z))
 .refine rwm _ ?_ (hW hb);exact aa.none
theorem uc{o:Obj}{m:Str->Option Value}(u:Int)(t:Tok)(hn:fh o m):
  fh (o.putName x u (.str x t) v) (λy=>if y=x then some v else m y)/\(o.putName x u (.str x t) v).cls=o.cls/\(o.putName x u (.str x t) v).isFreed=false/\(o.putName x u (.str x t) v).dict=o.dict/\(o.putName x u (.str x t) v).slots=o.slots:=by
 (refine b9 hn λes ep hd hk hm=>?_;clear hn);rcases o with⟨c,d,j,sl⟩;simp only at hd;subst hd
 cases hi:es.findIdx? (λe=>e.key.isStr x) with
 |some i=>
  have e:Obj.putName x u (.str x t) v ⟨c,d,.dict es ep,sl⟩=⟨c,d,.dict (es.modify i λe=>{e with val:=v}) ep,sl⟩:=by simp only[Obj.putName_eq,Obj.putNameByArray,hi]
  refine rwm _ ?_ e;refine⟨⟨_,ep,rfl,hk.modify _ _,λy=>?_⟩,rfl,rfl,rfl,rfl⟩;show _=if y=x then some v else m y
  refine rwl _ ?_ (hm y);exact findBy_modify (λn v=>v.isStr n) Value.isStr_inj es x y v i hi
 |none=>
  have e:Obj.putName x u (.str x t) v ⟨c,d,.dict es ep,sl⟩=⟨c,d,.dict (es.push ⟨u,.str x t,v⟩) (ep+1),sl⟩:=by simp only[Obj.putName_eq,Obj.putNameByArray,hi]
  refine rwm _ ?_ e;refine⟨⟨_,ep+1,rfl,hk.push _ _ _ _,λy=>?_⟩,rfl,rfl,rfl,rfl⟩;show _=if y=x then some v else m y
  refine rwl _ ?_ (hm y);refine findBy_push (λn v=>v.isStr n) es x y _ _ v (λz=>?_) hi;refine(?_:(x==z)=decide (z=x))
  by_cases q:z=x
  .clear hi;subst q;simp
  .refine rwm _ ?_ (le q);exact beq_eq_false_iff_ne.mpr λe=>q e.symm
theorem ud{m:Str->Option Value}{x:Str}{v:Value}{M:Model}{E:Value->Shared->Prop}{Q:Unit->Shared->Prop}(ho:s.heap.get? a=some o)(hn:fh o m)
  (h:∀u t,Q () {s with heap:=s.heap.update a (Obj.putName x u (.str x t) v),toks:=s.toks+1}):wpAny M A (nsSet a x v) Q E s:=by
 (refine b9 hn λes ep hd hk hm=>?_;clear hn);intro U p I;simp only[nsSet,strHash,Sem.wp_bind',Sem.wp_cmd_ask,Sem.wp_pure',Sem.wp_cmd_mkText];rw[Sem.wp_loadPart_of M U _ p {s with toks:=s.toks+1} _ ho];have i:es.any (·.refKey)=false:=by
  rw[Array.any_eq_false'];intro e he;(refine bc λno=>aq (hk e he) λn t h=>no ?_;clear no);simp [DictEntry.refKey,h]
 simp only[hd,aRefKeyMayBeTheName_eq,aRefKeyMayBeTheNameByArray,i,Bool.and_false,Bool.false_eq_true,if_false,Sem.wp_cmd_updatePart];exact⟨by refine rwm _ ?_ ho;rfl,h _ _⟩
theorem Gv{E:Value->Shared->Prop}(S:St b1 r g b2 l O s.heap)(hi:O[i]? =some (.ns f N))(ha:b2[i]? =some a)(hv:VR b1.w g b2 v y)
  {Q:Unit->Shared->Prop}(hq:∀b5 tk,St b1 r g b2 l (O.set i (.ns f (dM N x v))) b5->Q () {s with heap:=b5,toks:=tk}):wpAny (model J b1.w) A (nsSet a x y) Q E s:=by
 refine hZ (S.own _ _ _ hi ha) λo m ho hn hf hz p cr=>ud ho hn λu t=>hq _ _ ?_;(refine bc λno=>bS (uc (x:=x) (v:=y) u t hn) λp1 p2 p3 j H=>no ?_;clear no);have c3:=ko (Obj.putName x u (.str x t) y) ho p3;refine S.set hi rfl ha (js ..).extBut rfl ⟨_,_,c3,p1,hf.put p hv,hz.put,xf p,p2.trans cr⟩ λo' e1 e2=>by rw[ho] at e1;cases e1;exact⟨_,c3,p2.trans e2⟩
theorem Gw(b:env.kindOf x=some .cell)(hk:env.scope.kind= .function):storeName env x y=(do cellSet (<-cellOf env x) (some y)):=by
 unfold storeName;refine rwm _ ?_ b;show(if(env.scope.kind== .class&&some NameKind.cell==some .cell)=true then localSet env x y else do cellSet (<-cellOf env x) (some y))=_;refine rwm _ ?_ hk;rfl
theorem ue(he:ER b1 N g b2 e env)(x:Str)(hv:VR b1.w g b2 v y):aa J b1 r l A (RU (α:=Unit) (β:=Unit)) g b2 (storeName env x y) (jn e x v):=by
 intro O B s bs Y hg hr S q;have he:=he.mono hg hr;have hv:=VR.mono hg hr _ _ hv;have hk:env.scope.kind= .function:=by refine rwm _ ?_ he.scope;exact he.kind
 have b:env.kindOf x=e.scope.names.lookup x:=by unfold Env.kindOf;exact rwm _ rfl he.scope
 have cl:∀{M:af}(b5:Heap)(tk:Tok),St b1 r bs Y l M b5->PQ (RU) b1 r l s bs Y (.ok (),M) () {s with heap:=b5,toks:=tk}:=λb5 tk H=>⟨bs,Y,(),rfl,⟨⟨b5,tk,rfl⟩,.refl _,.refl _⟩,H,trivial⟩;unfold jn at q
 cases hl:e.scope.names.lookup x with
 |none=>rw[hl] at q;exact nso q
 |some d=>
  rw[hl] at b q;clear hl;cases d<;>first|exact nso q|skip
  .refine al (dE q) λQ e1 q=>?_;cases Q<;>first|((first|exact nso q|cases q);done)|skip
   cases q;rw[storeName_local b (by rw[hk];rfl)];exact Gv S e1 he.loc hv λb5 tk H=>cl b5 tk H
  .cases hc:e.cells.lookup x with
   |none=>
    have q:=q;rw[hc] at q;exact nso q
   |some c=>
    have q:=q;rw[hc] at q;refine al (dE q) λQ e1 q=>?_;cases Q<;>first|exact nso q|skip
    cases q;refine al (he.cells.get hc) λa ha w=>al (S.own _ _ _ e1 w) λf ho p=>?_;refine rwm _ ?_ (Gw b hk);refine ae (wpAny_cellOf ha ?_);unfold cellSet;refine ae (qq ho (wpAny_update ho ?_));exact cl _ _ (S.set e1 rfl w (js ..).extBut rfl ⟨some y,(ko (λo=>{o with data:=Data.cell (some y)}) ho rfl),hv⟩ λo' e2 e3=>by rw[ho] at e2;cases e2;simp at e3)
theorem aa.bindName{R:Rl α Unit}{m:MM α}(h:aa J b1 r l A R g b2 (storeName env x y) m):aa J b1 r l A R g b2 (bindName env x y) m:=
 λO B s bs Y a b S q=>wpAny_bindName (h O B s bs Y a b S q)
theorem Gx(he:ER b1 l g b2 e env)(x:Str)(c4:Pos)(hv:VR b1.w g b2 v y):aa J b1 r l A (RU (α:=Unit) (β:=Unit)) g b2 (assign (.Name x c4) env y) (jn e x v):=by
 show aa J b1 r l A _ g b2 (do standAt c4;bindName env x y) _;exact aa.standAt (aa.bindName (ue he x hv))
theorem TRs.set{U:List T}{ys:List Value}:∀(j:Nat),TRs b1.w g U ys->TR b1.w g t y->TRs b1.w g (U.set j t) (ys.set j y):=by
 induction U generalizing ys with
 |nil=>intro j h _;subst h;rfl
 |cons a U ih=>
  intro j h ht;(refine aq h λz rr c3=>aw c3 λc2 h1 h2=>?_;clear c3;clear h;subst c2)
  cases j with
  |zero=>exact⟨y,rr,rfl,ht,h2⟩
  |succ j=>exact⟨z,_,rfl,h1,ih j h2 ht⟩
theorem Gy{a:Addr}{ys:Array Value}{ep:Nat}{k:Int}{t:Tok}{v:Value}{Q:Unit->Shared->Prop}{E:Value->Shared->Prop}(ho:s.heap.get? a=some ⟨.type "list",.none,.seq ys ep,#[]⟩)
  (h0:0<=k)(b:k<2^63)(hn:k<ys.size)(hq:Q () {s with heap:=s.heap.update a (Obj.mapSeq (·.setIfInBounds k.toNat v))}):wpAny (model J b1.w) A (setItem (.ref a) (.int k t) v) Q E s:=by
 have hl:s.heap.IsList a ys:=⟨_,ho,rfl,ep,rfl⟩;unfold setItem
 try with_reducible refine en ?_
 refine ae (wpAny_sequenceKey hl.typeIs (by decide) ?_);refine ae (wpAny_callSpecial?_slot hl.typeIs slot_list_setitem
  (wpAny_call_entry slot_list_setitem hl.typeIs entry_list_setitem ?_ (args_list_setitem _ _ _)))
 show wpAny _ _ (Builtin.List.listSubscript? (.int k t)>>=_) _ _ s;refine ae (wpAny_listSubscript_int (fitsIndex_of h0 b) ?_);clear b;(refine ag (o2 h0) λj bo=>?_;clear h0;subst bo);have hj:=Int.ofNat_lt.mp hn;show wpAny _ _ ((seqItemAt a j>>=λr=>pure (r.map (j,·)))>>=_) _ _ s;refine ae (ae (wpAny_seqItemAt ho rfl (ar ?_)));refine rwm _ ?_ (lt hj);show wpAny _ _ (setSeqItemAt a j v>>=_) _ _ s;refine ae (wpAny_setSeqItemAt ho rfl ?_)
 first
  |exact ae (ar (ar ⟨.none,rfl,ar hq⟩))
  |exact ar ⟨.none,rfl,ar hq⟩
set_option tactic.hygienic true in
theorem Gz(k:Nat){it t:T}{a:Addr}{y z:Value}{Q:MO}{B:Except Addr Unit×af}(S:St b1 r g b2 l O s.heap)(hi:O[k]? =some Q)(ha:b2[k]? =some a)(L:TR b1.w g it y)(hz:TR b1.w g t z)
  (q:lL Q k it t O=some B):wpAny (model J b1.w) A (setItem (.ref a) y z) (PQ (RU (α:=Unit) (β:=Unit)) b1 r l s g b2 B) (PE b1 r l s g b2 B) s:=by
 have w:=S.own _ _ _ hi ha;have cl:∀{M:af}(b5:Heap)(tk:Tok),St b1 r g b2 l M b5->PQ (RU) b1 r l s g b2 (.ok (),M) () {s with heap:=b5,toks:=tk}:=λb5 tk H=>⟨g,b2,(),rfl,⟨⟨b5,tk,rfl⟩,.refl _,.refl _⟩,H,trivial⟩;cases Q<;>first|exact nso q|skip
 .rename_i U
  cases it<;>first|exact nso q|skip
  rename_i i
  refine al (dF q) λj hj q=>?_;cases q;(refine ag L λtk bo=>?_;clear L;subst bo);(refine cS w λys ep ho hs=>?_;clear w);have bb:=hs.len.trans (ej);refine ac (eT hj) λhb hj=>?_;cases hj;simp only[Bool.and_eq_true,decide_eq_true_eq] at hb;refine Gy ho hb.1.1 hb.2 (EE bb hb) (cl _ s.toks (S.set hi rfl ha (js ..).extBut rfl ?_ λo' e1 e2=>by rw[ho] at e1;cases e1;simp at e2));refine⟨ys.setIfInBounds i.toNat z,_,(ko (Obj.mapSeq (·.setIfInBounds i.toNat z)) ho rfl),?_⟩;refine rwm _ ?_ Array.toList_setIfInBounds;exact TRs.set _ hs hz
 .rename_i N
  refine al (dF q) λf hk q=>ac (cL q) λhf q=>?_;cases q;(refine ls (gh J (show HR b1.w g s.heap (.dict N) (.ref a) from by obtain⟨es,ep,z⟩:=w;exact⟨a,es,ep,rfl,z⟩)) λI ps e1 d hd h1 h2=>?_);cases e1;have bb:ps.length=N.length:=by simpa using hQ List.length h1
  refine wpAny_setItem_pairs (jw hk L) hd (λb5 c9 c3=>?_) (by have:=hG hf;exact a5 (ec bb) (lv this));refine cS w λes ep ho _=>cl _ _ (S.set hi rfl ha c3.extBut rfl (oJ c9 (DP.put ⟨h1,h2⟩ hz) (beq_eq_false_iff_ne.mp d)) λo' e1 e2=>by rw[ho] at e1;cases e1;simp at e2)
set_option backward.match.sparseCases true in
theorem GA(o i:Expr)(c4:Pos)(z:Value):assign (.Subscript o i c4) env z=(do
   let M<-holding [z] (eval o env)
   let L<-holding [z,M] (eval i env)
   standAt c4
   holding [z,M,L] (setItem M L z)
   release (match i with| .Slice _ _ none _=>[L,z,M]|_=>[z,M,L]) []):=rfl
theorem GB(S:aL J b1 n rc)(hR:Rm A l n)(he:ER b1 l g b2 e env)(o i:Expr)(c4:Pos)(hv:VR b1.w g b2 v z):
  aa J b1 r l A (RU (α:=Unit) (β:=Unit)) g b2 (assign (.Subscript o i c4) env z) (mR rc e o i v):=by
 by_cases hs:∃a b c p,i= .Slice a b c p
 ·(refine bH hs λ_ _ _ _ bd=>?_;clear hs;subst bd);exact aa.none
 .have e1:mR rc e o i v=bm (rc.ev o e) λM=>bm (rc.ev i e) λL=>bm (fr v) λt=>match M,L with
   | .own k,.t it=>bm (bw k) λQ=>lL Q k it t
   |_,_=>λ_=>none:=by
    unfold mR;cases i<;>first|rfl|exact absurd ⟨_,_,_,_,rfl⟩ hs
  refine rwm _ ?_ e1;rw[GA];refine aa.bind (aa.holding (S.ev hR he o)) λbs Y M x hg hr ho=>aa.bind (aa.holding (S.ev hR (he.mono hg hr) i)) λc5 bl L y d m hi=>aa.standAt (aa.freeze (VR.mono (hg.trans d) (hr.trans m) _ _ hv) λc9 N t E D ht=>?_)
  cases M with
  |t _=>exact aa.none
  |own k=>
   cases L with
   |own _=>exact aa.none
   |t it=>
    intro O B s c2 bb a b H q;refine al (dE q) λQ f q=>?_;(refine ag ho λad c1=>ac c1 λj bo=>?_;clear c1;clear ho;subst bo);refine ae (en (ea (Gz k H f (b _ _ (D _ _ (m _ _ j))) (TR.mono (E.trans a) _ _ hi) (TR.mono a _ _ ht) q) (λu s' w=>?_) λ_ _ w=>w));exactλU p I=>by rw[Sem.wp_release];exact w
structure oK (K:Frag) (cx:Cx) (P:bt):Prop where
 X:K.In cx.B
 fld:∀C n,P.fld C n=true->findIn K (.ref C) "__setattr__"=some (some (.builtin "object.__setattr__"))/\plainOver K C=true/\takerIn K C n=some none/\(clsIn K C).any (·.hasDict)=true
theorem GC(N:List (Str×V))(x:Str)(v:V):N.length<=(dM N x v).length/\(dM N x v).length<=N.length+1/\(x∉N.map (·.1)->(dM N x v).length=N.length+1):=by
 induction N with
 |nil=>exact⟨ix _,hX _,λ_=>rfl⟩
 |cons p q ih=>
  rcases p with⟨k,u⟩
  by_cases e:x=k
  .subst e;refine rwm _ ?_ (pW (p:=(x,u)));simp
  .refine rwm _ ?_ (pV (p:=(k,u)) e);refine⟨by simp [ih.1],by simp [ih.2.1],λh=>?_⟩;simp only[List.map_cons,List.mem_cons,not_or] at h;simp [ih.2.2 h.2]
theorem yz{es:Array DictEntry}(u:Int)(t:Tok)(e:Obj.putName x u (.str x t) v ⟨.type "dict",.none,.dict es ep,#[]⟩=o'):
  ∃H cf,o'=⟨.type "dict",.none,.dict H cf,#[]⟩/\(H.size=es.size\/(H.size=es.size+1/\es.findIdx? (λe=>e.key.isStr x)=none)):=by
 subst e
 cases hi:es.findIdx? (λe=>e.key.isStr x) with
 |some i=>
  have e:Obj.putName x u (.str x t) v ⟨.type "dict",.none,.dict es ep,#[]⟩=⟨.type "dict",.none,.dict (es.modify i λe=>{e with val:=v}) ep,#[]⟩:=by simp only[Obj.putName_eq,Obj.putNameByArray,hi]
  exact⟨_,_,e,.inl (by exact rwm _ rfl Array.size_modify)⟩
 |none=>
  have e:Obj.putName x u (.str x t) v ⟨.type "dict",.none,.dict es ep,#[]⟩=⟨.type "dict",.none,.dict (es.push ⟨u,.str x t,v⟩) (ep+1),#[]⟩:=by simp only[Obj.putName_eq,Obj.putNameByArray,hi]
  exact⟨_,_,e,.inr ⟨by rw[Array.size_push],rfl⟩⟩
theorem GD{N:List (Str×V)}{m:Str->Option Value}{o:Obj}{es:Array DictEntry}(hd:o.data= .dict es ep)(hn:fh o m)(hf:FR (VR b1.w g b2) N m)(hi:es.findIdx? (λe=>e.key.isStr x)=none):x∉N.map (·.1):=by
 intro hm;(refine ag (hK.mp hm) λp c1=>ac c1 λhp bo=>?_;clear c1;clear hm;subst bo);(refine b9 hn λH cf c9 _ b=>?_;clear hn);rw[hd] at c9;cases c9;have dd:nsFind es p.1=none:=by
  unfold nsFind findBy;have:es.find? (λe=>e.key.isStr p.1)=none:=by
   rw[Array.find?_eq_none];intro e he
   simpa using(Array.findIdx?_eq_none_iff.mp hi) e he
  refine rwm _ ?_ this;rfl
 have:∀{N:List (Str×V)},FR (VR b1.w g b2) N m->p∈N->∃y,m p.1=some y:=by
  intro N
  induction N with
  |nil=>intro _ h;cases h
  |cons q r ih=>
   rcases q with⟨k,u⟩
   rintro ⟨⟨y,L,_⟩,hr⟩ h
   (refine a2 (hy.mp h) (λzz=>?_) (λh=>?_);subst zz;rotate_left;rotate_right)
   .exact⟨y,L⟩
   .exact ih hr h
 refine ag (this hf hp) λy L=>?_;rw[b p.1,L] at dd;exact sno dd
set_option tactic.hygienic true in
theorem GE(k2:oK K b1 P)(nm:Str)(ho:VR b1.w g b2 M x)(hv:VR b1.w g b2 v z):aa J b1 r l A (RU (α:=Unit) (β:=Unit)) g b2 (setAttr x nm z) (tR P.fld M nm v):=by
 intro O B s bs Y p1 p2 S q;have ho:=VR.mono p1 p2 _ _ ho
 cases M with
 |t t=>exact nso q
 |own i=>
  (refine ag ho λa c1=>ac c1 λha bo=>?_;clear c1;clear ho;subst bo);refine al (dE q) λQ hi q=>?_;have w:=S.own _ _ _ hi ha;clear hi;cases Q<;>first|((first|exact nso q|cases q);done)|skip
  rename_i C d
  refine al (dE q) λc hd q=>?_;(refine al w λad j hx=>?_;clear w);have f:=S.own _ _ _ hd j;cases c<;>first|((first|exact nso q|cases q);done)|skip
  rename_i fs
  refine ac (cL q) λhc q=>?_;cases q;simp only[Bool.and_eq_true,decide_eq_true_eq] at hc;(refine bc λno=>bK (k2.fld C nm hc.1) λq1 q2 q3 q4=>no ?_;clear no);(refine sQ f λes ep m hD hn hf hz p cp=>?_;clear f);have X:=k2.X.keeps S.ground;have I:InstAt s.heap a ⟨.ref C,some ad,.plain,#[]⟩ C (some ⟨.type "dict",.none,.dict es ep,#[]⟩):=⟨hx,rfl,rfl,hD⟩;refine set_plain X I q1 (osa_open X I q2 q3 λb=>al (any_some q4) λc6 N c9=>ae (ar (ae (ae (rv hx (ae (looks_clsIn X N _ _ _ _ (λ_ _ e=>e) ?_)))))));refine rwm _ ?_ c9;refine ar (ae (ar (ae ?_)));refine ud hD hn λu t=>?_;refine bc λno=>bS (uc (x:=nm) (v:=z) u t hn) λn1 n2 n3 n4 n5=>no (cS (yz (x:=nm) (v:=z) (es:=es) (ep:=ep) u t rfl) λH cf e1 e2=>?_);have c3:=ko (Obj.putName nm u (.str nm t) z) hD n3;rw[e1] at c3 n1;(refine bc λno=>aw (GC fs nm v) λG m2 m3=>no ?_;clear no);have y:H.size<=(dM fs nm v).length:=by
   rcases e2 with e2|⟨e2,e3⟩
   .exact EF cp G e2
   .have:=m3 (GD rfl hn hf e3);exact EG cp e2 this
  refine ae (wpAny_lookBehind c3 (pastItsLine_dict (by refine rwm _ ?_ ms;exact wT hc.2 (a5 y m2))) ?_);refine ar (⟨bs,Y,(),rfl,⟨⟨_,_,rfl⟩,.refl _,.refl _⟩,?_,trivial⟩);exact S.set hd rfl j (js ..).extBut rfl ⟨H,cf,_,c3,n1,hf.put p (VR.mono p1 p2 _ _ hv),hz.put,xf p,y⟩ λo' e1 e2=>by rw[hD] at e1;cases e1;simp at e2
theorem GF(k2:oK K b1 P)(S:aL J b1 n rc)(hR:Rm A l n)(he:ER b1 l g b2 e env)(o:Expr)(nm:Str)(c4:Pos)(hv:VR b1.w g b2 v z):
  aa J b1 r l A (RU (α:=Unit) (β:=Unit)) g b2 (assign (.Attribute o nm c4) env z) (bm (rc.ev o e) λM=>tR P.fld M nm v):=by
 show aa J b1 r l A _ g b2 (do
  let M<-holding [z] (eval o env)
  standAt c4.atName
  holding [z,M] (setAttr M nm z)
  release [z,M] []) _
 refine aa.bind (aa.holding (S.ev hR he o)) λbs Y M x hg hr ho=>aa.standAt ?_;intro O B s c5 bl a b H q;refine ae (en (ea (GE k2 nm ho (VR.mono hg hr _ _ hv) O B s c5 bl a b H q) (λu s' w=>?_) λ_ _ w=>w));exactλU p I=>by rw[Sem.wp_release];exact w
end
noncomputable def il:List String:=["list_iterator","tuple_iterator","dict_keyiterator","str_iterator","str_ascii_iterator","bytes_iterator","range_iterator"]
structure It (prog:Program) (cx:Cx) (g:ay) (xs:List T) (I:Addr) (StW:Nat->Heap->Prop):Prop where
 walks:∀A:Around,A.handled=none->∃fp P,Walks prog cx.w A I fp [I] xs.length P StW/\(∀i v,P i v->∃u,xs[i]? =some u/\TR cx.w g u v)/\∀b∈fp,b≠I->∃o,g b=some o
 kind:∀i h,StW i h->∃o ty,h.get? I=some o/\o.cls= .type ty/\ty∈il
section
variable {J:Program}{b1:Cx}{r g b6:ay}{b2 b4:List Addr}{l:List Env}{A:Around}{α β γ δ:Type}{P:bt}{b7 mb:Str->Option Value}{n:Nat}{rc:aG}{e:AE}{env:Env}{O:af}{h b5:Heap}{s:Shared}{K:Frag}
theorem yA:∀(n:Nat)(a:Int)(i:Nat),i<n->(lH a n)[i]? =some (.int (a+i))
 |0,a,i,h=>absurd h (Nat.not_lt_zero _)
 |n+1,a,0,h=>by simp [show lH a (n+1)= .int a::lH (a+1) n from rfl]
 |n+1,a,i+1,h=>by
  show(lH _ _)[_]? =_;refine a0 (yA n (a+1) i (Nat.le_sub_one_of_lt h)) ?_
  congr 2;push_cast;exact EK
theorem yB:∀(n:Nat)(a:Int),(lH a n).length=n
 |0,a=>rfl
 |n+1,a=>hQ (·+1) (yB n (a+1))
set_option tactic.hygienic true in
theorem yC{Q:Value->Shared->Prop}{E:Value->Shared->Prop}(hh:A.handled=none)(S:St b1 r g b2 l O s.heap)(ht:TR b1.w g t x)(e:d7 t=some U)
  (m:∀o d6,o.cls≠ .type "frame"->o.isFreed=false->It J b1 g U s.heap.objs.size d6->d6 0 (s.heap.push o)->Q (.ref s.heap.objs.size) {s with heap:=s.heap.push o}):wpAny (model J b1.w) A (pyIter x) Q E s:=by
 have new:∀{a:Addr}{o:Obj},g a=some o->a≠s.heap.objs.size:=λ{a}{o} h q=>by
  have:=mm (S.fr _ _ h);rw[q] at this;exact ka _ this
 cases t<;>first|exact nso e|skip
 .have e:=ai e;subst e
  rename_i w
  (refine ag ht λt bo=>?_;clear ht;subst bo);refine wpAny_pyIter_strU (m _ (λi h=>h.IsStrIter s.heap.objs.size (strIterType w) w t i) (by unfold strIterType;split<;>simp) rfl ⟨λA' hA=>?_,λi b5 hs=>by refine cD hs λo a b _=>⟨o,_,a,b,by unfold strIterType;split<;>simp [il]⟩⟩ ⟨_,a6 _ rfl,rfl,rfl⟩);have C:(w.cps.toList.map λc=>T.str ⟨#[c]⟩).length=w.cps.size:=by simp
  refine⟨[s.heap.objs.size],SignAt w,?_,λi v hv=>?_,λb hb ct=>absurd (List.mem_singleton.mp hb) ct⟩
  .refine rwm _ ?_ C;unfold strIterType;cases w.cps.all (·<128)
   .exact Walks.strWide hA _ w t
   .exact Walks.strAscii hA _ w t
  ·(refine aq hv λc u bi=>ac bi λhc bo=>?_;clear bi;subst bo);refine⟨.str ⟨#[c]⟩,?_,⟨u,rfl⟩⟩;refine a0 (pc) (rwm _ (rwm _ ?_ hc) (pb));rfl
 .have e:=ai e;subst e
  rename_i b'
  (refine ag ht λt bo=>?_;clear ht;subst bo);refine KBw.pyIter_bytes (m _ (λi h=>KBw.IsBytesIter h s.heap.objs.size b' t i) (by simp) rfl ⟨λA' hA=>?_,λi b5 hs=>by refine cD hs λo a b _=>⟨o,_,a,b,by simp [il]⟩⟩ ⟨_,a6 _ rfl,rfl,rfl⟩);have C:(b'.toList.map λc=>T.int c.toNat).length=b'.size:=by simp
  refine⟨[s.heap.objs.size],_,by refine rwm _ ?_ C;exact KBw.walks hA _ b' t,λi v hv=>?_,λb hb ct=>absurd (List.mem_singleton.mp hb) ct⟩;(refine aq hv λc u bi=>ac bi λhc bo=>?_;clear bi;subst bo);refine⟨.int c.toNat,?_,⟨u,rfl⟩⟩;refine a0 (pc) (rwm _ (rwm _ ?_ hc) (pb));rfl
 .rename_i i j
  .refine ac (eT e) λM e=>?_;have e:=ai e;subst e;(refine bH ht λa t u v D=>ac D λc2 ho=>?_;clear D;subst c2);refine wpAny_pyIter_range (S.fr _ _ ho) M ?_;have G:(Builtin.Range.rangeSize i j 1:Int)=((Builtin.Range.rangeSize i j 1).toNat:Int):=by rw[rangeSize_one];split<;>lia
   refine m _ (λk h=>IsRangeIter h s.heap.objs.size (i+(k:Nat)*1) (((Builtin.Range.rangeSize i j 1).toNat:Int) - (k:Nat)) 1) (by simp) rfl ⟨λA' hA=>?_,λi b5 hs=>⟨_,_,hs,rfl,by simp [il]⟩⟩ ?_
   .refine⟨[s.heap.objs.size],(λk v=>k<(Builtin.Range.rangeSize i j 1).toNat/\∃t,v= .int (i+k*1) t),?_,λk v hv=>?_,λb hb ct=>absurd (List.mem_singleton.mp hb) ct⟩
    .rw[yB];exact(Walks.range hA _ i 1 _).bound
    ·(refine ac hv λhk c1=>ag c1 λt bo=>?_;clear c1;subst bo);exact⟨_,yA _ i k hk,⟨t,by rw[Int.mul_one]⟩⟩
   .show IsRangeIter _ _ _ _ _;refine rwl _ ?_ G
    simpa using a6 s.heap rfl
 .have e:=(ai e).symm;subst e;(refine a9 ht λa ys ep D=>aw D λc2 ho hs=>?_;clear D;subst c2);have hl:s.heap.IsList a ys:=⟨_,S.fr _ _ ho,rfl,ep,rfl⟩;have bb:=hs.len.trans (ej);refine wpAny_pyIter_list hl (m _ (λi h=>h.IsListIter s.heap.objs.size a i/\h.IsList a ys) (by simp) rfl ⟨λA' hA=>?_,λi b5 hs=>by refine cD hs.1 λo a b _=>⟨o,_,a,b,by simp [il]⟩⟩ ⟨⟨_,a6 _ rfl,rfl,rfl⟩,hl.push _⟩);refine⟨[s.heap.objs.size,a],_,by refine rwm _ ?_ bb;exact Walks.list hA _ a (new ho) ys,λi v hv=>?_,λb hb ct=>?_⟩
  .have hi:i<U.length:=by refine rwm _ ?_ bb;exact(Array.getElem?_eq_some_iff.mp hv).1
   refine al ((fj.mp hs).get (hS hi)) λy L H=>?_;rw[Array.getElem?_toList,hv] at L;cases L;exact⟨_,hS hi,H⟩
  .simp only[List.mem_cons,List.not_mem_nil,or_false] at hb;(refine a2 hb (λq=>?_) (λzz=>?_);(try clear hb);rotate_left;(try clear hb);subst zz;rotate_right)
   .exact absurd q ct
   .exact⟨_,ho⟩
 .have e:=(ai e).symm;subst e;(refine a9 ht λa ys ep D=>aw D λc2 ho hs=>?_;clear D;subst c2);have hl:s.heap.IsTuple a ys:=⟨_,S.fr _ _ ho,rfl,ep,rfl⟩;have bb:=hs.len.trans (ej);refine wpAny_pyIter_tuple hl (m _ (λi h=>h.IsTupleIter s.heap.objs.size a i/\h.IsTuple a ys) (by simp) rfl ⟨λA' hA=>?_,λi b5 hs=>by refine cD hs.1 λo a b _=>⟨o,_,a,b,by simp [il]⟩⟩ ⟨⟨_,a6 _ rfl,rfl,rfl⟩,⟨_,a3 _ (S.fr _ _ ho),rfl,ep,rfl⟩⟩);refine⟨[s.heap.objs.size,a],_,by refine rwm _ ?_ bb;exact Walks.tuple hA _ a (new ho) ys,λi v hv=>?_,λb hb ct=>?_⟩
  .have hi:i<U.length:=by refine rwm _ ?_ bb;exact(Array.getElem?_eq_some_iff.mp hv).1
   refine al ((fj.mp hs).get (hS hi)) λy L H=>?_;rw[Array.getElem?_toList,hv] at L;cases L;exact⟨_,hS hi,H⟩
  .simp only[List.mem_cons,List.not_mem_nil,or_false] at hb;(refine a2 hb (λq=>?_) (λzz=>?_);(try clear hb);rotate_left;(try clear hb);clear hl;subst zz;rotate_right)
   .exact absurd q ct
   .exact⟨_,ho⟩
 .have e:=ai e;subst e
  rename_i N
  (refine a9 ((show∃a es ep,x= .ref a/\g a=some ⟨.type "dict",.none,.dict es ep,#[]⟩/\True from by obtain⟨a,es,ep,e1,e2,_⟩:=ht;exact⟨a,es,ep,e1,e2,trivial⟩)) λa es ep D=>aw D λc2 ho _=>?_;clear D;subst c2);refine ls (gh J (TR.hr S ht)) λI ps e1 d hd h1 h2=>?_;cases e1;refine ag hd.dictAt λcf f=>?_;have bb:ps.length=N.length:=by simpa using hQ List.length h1
  refine wpAny_pyIter_dict d f (m _ (λi h=>h.IsKeyIter s.heap.objs.size a i ps.length cf/\h.DictAt (kk J b1.w) a ps cf) (by simp) rfl ⟨λA' hA=>?_,λi b5 hs=>by refine cD hs.1 λo a b _=>⟨o,_,a,b,by simp [il]⟩⟩ ⟨⟨_,a6 _ rfl,rfl,rfl⟩,f.push _⟩);have C:(N.map λp=>dN p.1).length=ps.length:=by simp [bb]
  refine⟨[s.heap.objs.size,a],_,by refine rwm _ ?_ C;exact Walks.dictKeys hA _ a (new ho) ps cf,λi v hv=>?_,λb hb ct=>?_⟩
  ·(refine cS hv λk y hk B=>?_;clear hv);have:(N.map (·.1))[i]? =some k:=by refine rwl _ (rwm _ (rwm _ ?_ hk) (pc)) h1;rfl
   rw[List.getElem?_map] at this;(refine ag (Option.map_eq_some_iff.mp this) λp c1=>ac c1 λhp bo=>?_;clear c1;clear hk this;subst bo);refine⟨dN p.1,by refine a0 (pc) (rwm _ ?_ hp);rfl,?_⟩;(refine a2 (w5 B) (λzz=>?_) (λzz=>?_);refine aq zz λj t bi=>ac bi λe1 bo=>?_;clear bi;clear B;subst bo;rotate_left;refine aq zz λz t bi=>ac bi λe1 bo=>?_;clear bi;clear B;subst bo;rotate_right)<;>refine rwm _ ?_ e1<;>exact⟨t,rfl⟩
  .simp only[List.mem_cons,List.not_mem_nil,or_false] at hb;(refine a2 hb (λq=>?_) (λzz=>?_);(try clear hb);rotate_left;(try clear hb);clear ht d hd f;subst zz;rotate_right)
   .exact absurd q ct
   .exact⟨_,ho⟩
theorem yD{ys:Array Value}(ct:a≠it):∀(k i:Nat)(s:Shared)(Q:List Value->Shared->Prop)(E:Value->Shared->Prop),s.heap.IsListIter it a i->s.heap.IsList a ys->i+k<=ys.size->
  (∀b5,b5.IsListIter it a (i+k)->b5.IsList a ys->Heap.ExtBut it s.heap b5->Q ((ys.toList.drop i).take k) {s with heap:=b5})->wpAny (model J b1.w) A (draw (.ref it) k) Q E s
 |0,i,s,Q,E,h1,h2,_,m=>ar (by simpa using m s.heap h1 h2 (.refl _ _))
 |k+1,i,s,Q,E,h1,h2,hk,m=>by
  have hi:=hO (iv _ _) hk;show wpAny _ _ (do match<-pyNext (.ref it) with|none=>pure []|some v=>return v::(<-holding [v] (draw (.ref it) k))) Q E s;refine ae (wpAny_pyNext_list_item h1 h2 (lt hi) λb5 d5 c3=>?_);refine ae (en (yD ct k (i+1) {s with heap:=b5} _ E d5 (h2.extBut c3.extBut ct) (Et hk) λw q1 q2 q3=>ar ?_));have:=m w (by refine rwm _ ?_ (show i+(k+1)=i+1+k from(Nat.succ_add i k).symm);exact q1) q2 (c3.extBut.trans q3);have hd:ys.toList.drop i=ys[i]::ys.toList.drop (i+1):=by simp [List.drop_eq_getElem_cons,hi]
  rw[hd,List.take_succ_cons] at this;exact this
theorem GG{ys:Array Value}{Q:List Value->Shared->Prop}{E:Value->Shared->Prop}(hh:A.handled=none)(hl:s.heap.IsList a ys)
  (m:∀b5,Heap.ExtBut s.heap.objs.size s.heap b5->Q ys.toList {s with heap:=b5}):wpAny (model J b1.w) A (unpackItems (.ref a) ys.size none) Q E s:=by
 have C:a≠s.heap.objs.size:=by refine al hl λo ho _=>mi (mm ho)
 unfold unpackItems notIterableAtAll;refine ae (ae (wpAny_specialOf hl.typeIs slot_list_iter.lookup (ar ?_)));refine ae (en (wpAny_pyIter_list hl ?_));refine ae (en (yD C ys.size 0 _ _ _ ⟨_,a6 _ rfl,rfl,rfl⟩ (hl.push _) Eu λc q1 q2 q3=>?_));have i:List.take ys.size (List.drop 0 ys.toList)=ys.toList:=by refine rwm _ ?_ List.drop_zero;exact r0 (by simp)
 refine rwm _ (rwm _ ?_ (hW (by simp))) i;refine ae (en (wpAny_pyNext_list_end hh q1 q2 (by simp) λd f=>?_));exact ar (m d λb o hb e=>f b o hb (q3 b o hb (a3 _ e)))
theorem uf(a:Expr)(j:List Expr)(h:noStar a=true):assignEach (a::j) env=(false,assign a env)::assignEach j env:=by
 cases a<;>first|rfl|(first|exact ftf h|cases h)
theorem yE:∀(U:List Expr),U.all noStar=true->(assignEach U env).findIdx? (·.1)=none/\(assignEach U env).length=U.length
 |[],_=>⟨rfl,rfl⟩
 |a::U,h=>by
  simp only[List.all_cons,Bool.and_eq_true] at h;refine rwm _ ?_ (uf a U h.1);refine ac (yE U h.2) λC H=>⟨by refine a0 (List.findIdx?_cons) (rwm _ ?_ C);rfl,by simp [H]⟩
theorem yF(S:aL J b1 n rc)(hR:Rm A l n):∀(U:List Expr)(ts:List T)(vs:List Value)(g:ay)(b2:List Addr),U.all noStar=true->ER b1 l g b2 e env->TRs b1.w g ts vs->
  aa J b1 r l A (RU (α:=Unit) (β:=Unit)) g b2 (assignInOrder ((assignEach U env).map (·.2)) vs) (mQ rc e U ts)
 |[],ts,vs,g,b2,hs,he,ht=>by
  cases ts with
  |nil=>exact aa.pure λ_ _ _ _=>trivial
  |cons a b=>exact aa.none
 |a::U,ts,vs,g,b2,hs,he,ht=>by
  simp only[List.all_cons,Bool.and_eq_true] at hs
  cases ts with
  |nil=>exact aa.none
  |cons t ts=>
   (refine aq ht λy rr c3=>aw c3 λc2 h1 h2=>?_;clear c3;clear ht;subst c2);refine rwm _ ?_ (uf a U hs.1);show aa J b1 r l A _ g b2 (do holding rr (assign a env y);assignInOrder ((assignEach U env).map (·.2)) rr) (bm (rc.as a e (.t t)) λ_=>mQ rc e U ts);exact aa.bind (aa.holding (S.as hR he a (.t t) y h1)) λbs Y _ _ hg hr _=>yF S hR U ts rr bs Y hs.2 (he.mono hg hr) (TRs.mono hg _ _ h2)
set_option tactic.hygienic true in
theorem GH(S:aL J b1 n rc)(hR:Rm A l n)(he:ER b1 l g b2 e env)(U:List Expr)(k:Nat)(c4:Pos)(hv:VR b1.w g b2 v x):
  aa J b1 r l A (RU (α:=Unit) (β:=Unit)) g b2 (assign (.Tuple U k c4) env x) (tS rc e U v):=by
 unfold tS
 by_cases hs:U.all noStar=true
 .refine rwm _ ?_ (eb hs);show aa J b1 r l A _ g b2 (do standAt c4;PySem.unpack x (assignEach U env)) _;refine aa.standAt (aa.vw hv λO s bs Y t B a b H ht q=>?_);refine ac (yE (env:=env) U hs) λe1 e2=>?_;unfold PySem.unpack;refine rwm _ (rwm _ ?_ e2) e1;have cl:∀(ts:List T)(ys:Array Value)(b5:Heap),TRs b1.w bs ts ys.toList->Heap.ExtBut s.heap.objs.size s.heap b5->mQ rc e U ts O=some B->
    wpAny (model J b1.w) A (assignInOrder ((assignEach U env).map (·.2)) ys.toList) (PQ (RU) b1 r l s bs Y B) (PE b1 r l s bs Y B) {s with heap:=b5}:=by
   intro ts ys b5 f hx q;have S2:=H.extBut (H.lone_new (cU _)) hx;exact ea (yF S hR U ts ys.toList bs Y hs (he.mono a b) f O B {s with heap:=b5} bs Y (.refl _) (.refl _) S2 q)
    (λ_ _ z=>z.up ⟨⟨b5,s.toks,rfl⟩,.refl _,.refl _⟩) λ_ _ z=>z.up ⟨⟨b5,s.toks,rfl⟩,.refl _,.refl _⟩
  cases t<;>first|((first|exact nso q|cases q);done)|skip
  .rename_i ts
   simp only at q
   split at q
   .rename_i bb
    (refine aq (ik ht) λI ys c3=>aw c3 λc2 hl f=>?_;clear c3;clear hv;subst c2);have cp:U.length=ys.size:=by refine rwl _ ?_ bb;exact f.len.trans (ej)
    refine rwm _ ?_ cp;exact ae (en (GG hR.handled hl λb5 hx=>cl ts ys b5 f hx q))
   .exact nso q
  .rename_i ts
   simp only at q
   split at q
   .rename_i bb
    (refine a9 ht λI ys ep D=>aw D λc2 ho f=>?_;clear D;clear hv ht;subst c2);have cp:U.length=ys.size:=by refine rwl _ ?_ bb;exact f.len.trans (ej)
    refine rwm _ ?_ cp;exact ae (en (wpAny_unpackItems_tuple hR.handled ⟨_,H.fr _ _ ho,rfl,ep,rfl⟩ λb5 hx=>cl ts ys b5 f hx q))
   .exact nso q
 .refine rwm _ ?_ (hW hs);exact aa.none
theorem GI(k2:oK K b1 P)(S:aL J b1 n rc)(hR:Rm A l n)(he:ER b1 l g b2 e env)(ex:Expr)(hv:VR b1.w g b2 v x):
  aa J b1 r l A (RU (α:=Unit) (β:=Unit)) g b2 (assign ex env x) (xR P rc ex e v):=by
 cases ex<;>first|exact aa.none|skip
 .exact GF k2 S hR he _ _ _ hv
 .exact GB S hR he _ _ _ hv
 .exact Gx he _ _ hv
 .exact GH S hR he _ _ _ hv
set_option tactic.hygienic true in
set_option backward.match.sparseCases true in
theorem jx(S:aL J b1 n rc)(hR:Rm A l n):∀(U:List Stmt)(g:ay)(b2:List Addr),ER b1 l g b2 e env->aa J b1 r l A (RF b1.w) g b2 (execs U env) (aR rc e U)
 |[],g,b2,he=>aa.pure λ_ _ _ _=>trivial
 |x::U,g,b2,he=>by
  show aa J b1 r l A _ g b2 (do match<-exec x env with| .next=>execs U env|f=>pure f) _;refine aa.bind (S.ex hR he x) λbs Y f b hg hr hf=>?_
  cases f with
  |next=>
   cases b<;>first|exact hf.elim|skip
   exact jx S hR U bs Y (he.mono hg hr)
  |ret v=>
   cases b<;>first|exact hf.elim|skip
   exact aa.pure λ_ _ d m=>VR.mono d m _ _ hf
theorem GJ(S:aL J b1 n rc)(hR:Rm A l n)(he:ER b1 l g b2 e env)(c:Expr)(a b:List Stmt)(c4:Pos):
  aa J b1 r l A (RF b1.w) g b2 (exec (.If c a b c4) env) (bm (rc.test c e) λq=>if q then aR rc e a else aR rc e b):=by
 rw[exec_If];refine aa.standAt (aa.bind (S.test hR he c) λbs Y t t' hg hr ht=>?_);have ht:=ht;subst ht;exact aa.ite (λ_=>jx S hR a bs Y (he.mono hg hr)) λ_=>jx S hR b bs Y (he.mono hg hr)
theorem GK(S:aL J b1 n rc)(hR:Rm A l n)(he:ER b1 l g b2 e env)(x:Option Expr)(c4:Pos):
  aa J b1 r l A (RF b1.w) g b2 (exec (.Return x c4) env) (match x with
  |some x=>bm (rc.ev x e) λv=>pm (.ret v)
  |none=>pm (.ret (.t .none))):=by
 cases x with
 |none=>
  rw[exec_Return_none];exact aa.standAt (aa.pure λb6 _ _ _=>qr (b1:=b1) (g:=b6))
 |some x=>
  rw[exec_Return_some];exact aa.standAt (aa.bind (S.ev hR he x) λbs Y v y hg hr hv=>aa.pure λ_ _ d m=>VR.mono d m _ _ hv)
set_option tactic.hygienic true in
theorem GL(c4:Pos):aa J b1 r l A (RF b1.w) g b2 (exec (.Pass c4) env) (pm .next):=by
 rw[exec_Pass];exact aa.standAt (aa.pure λ_ _ _ _=>trivial)
theorem aa.thenPure{R:Rl α β}{b:Rl γ δ}{t:Sem β}{m:MM α}{k:β->Sem δ}{c:γ}{d:δ}(h:aa J b1 r l A R g b2 t m)
  (hk:∀x (Q:δ->Shared->Prop)(E:Value->Shared->Prop)(s:Shared),Q d s->wpAny (model J b1.w) A (k x) Q E s)(hR:∀b6 b4,aZ g b6->bu b2 b4->b b6 b4 c d):
  aa J b1 r l A b g b2 (t>>=k) (bm m λ_=>pm c):=by
 refine aa.bind h λbs Y a x hg hr _=>?_;intro O B s c5 bl p q H e';cases e';exact hk x _ _ _ ⟨c5,bl,c,rfl,.refl _ _ _,H,hR _ _ (hg.trans p) (hr.trans q)⟩
set_option tactic.hygienic true in
theorem GN(S:aL J b1 n rc)(hR:Rm A l n)(he:ER b1 l g b2 e env)(x:Expr)(c4:Pos)(hx:swapsWith x none c4.line env=pure false):
  aa J b1 r l A (RF b1.w) g b2 (exec (.Expr x c4) env) (bm (rc.ev x e) λ_=>pm .next):=by
 have hi:interactive env=false:=by
  unfold interactive;refine rwm _ (rwm _ ?_ he.kind) he.scope;rfl
 refine rwm _ ?_ (exec_Expr env x c4 hi hx);exact aa.standAt (aa.thenPure (S.ev hR he x) (λv Q E s h=>wpAny_dropValue h) λ_ _ _ _=>trivial)
theorem mX:∀(U:List Expr),U.all noStar=true->∀p∈backTo c4 (starEach U env),p.1=false
 |[],_,p,hp=>nomatch hp
 |a::U,h,p,hp=>by
  simp only[List.all_cons,Bool.and_eq_true] at h;rw[yb (λb q e=>by subst e;cases h.1)] at hp;(refine a2 (hy.mp hp) (λzz=>?_) (λhp=>?_);subst zz;rotate_left;rotate_right)
  .rfl
  .exact mX U h.2 p hp
theorem qx{Q:Args->Shared->Prop}{E:Value->Shared->Prop}(ha:∀p∈be,p.1=false)
  (h:wpAny (model J b1.w) A (spliced be) (λvs s'=>Q ⟨vs,[]⟩ s') E s):wpAny (model J b1.w) A (evalArgs f true be []) Q E s:=by
 have cl:∀(q:List Value×Option Value)(s':Shared),q.2=none/\Q ⟨q.1,[]⟩ s'->wpAny (model J b1.w) A
   (holding (q.1++q.2.toList) (do
    let b (keep:List Value):Sem (List Value):=do
     let some s:=q.2|return q.1
     if<-notIterableAtAll s then
      rule "call.star.not-iterable"
      raiseError "TypeError" s!"{← functionStr f} argument after * must be an iterable, not {← typeNameOf s}"
     holding keep (collect s)
    let kw:=([]:List Str).zip (<-evalAll [])
    return(⟨<-b (kw.map (·.2)),kw⟩:Args))) Q E s':=by
  rintro ⟨vs,c⟩ s' ⟨e,hq⟩
  cases e;exact en (ae (ar (ae (ar (ar hq)))))
 unfold evalArgs
 cases be with
 |nil=>exact ae (ea h (λvs s' hq=>by first|exact cl (vs,none) s' ⟨rfl,hq⟩|exact ae (ar (cl (vs,none) s' ⟨rfl,hq⟩))) λ_ _ x=>x)
 |cons p j=>
  rcases p with⟨st,x⟩;have:st=false:=ha (st,x) (.head _);clear ha;subst this;cases j<;>exact ae (ea h (λvs s' hq=>by first|exact cl (vs,none) s' ⟨rfl,hq⟩|exact ae (ar (cl (vs,none) s' ⟨rfl,hq⟩))) λ_ _ x=>x)
set_option backward.match.sparseCases true in
theorem qy{vs:List Value}{be:List (Bool×Sem Value)}{Q:Value->Shared->Prop}{E:Value->Shared->Prop}(ha:be.any (·.1)=false)
  (hk:∀Q':Keeper->Shared->Prop,(∀k,Q' k s)->wpAny (model J b1.w) A (keeperOf f) Q' E s)(h:wpAny (model J b1.w) A (call f vs []) Q E s):
  wpAny (model J b1.w) A (do
   let r<-match<-keeperOf f,(be.any (·.1)||([]:List (Option Str×Sem Value)).any (·.1.isNone)) with
    | .frame,true=>callMarked starredCall f vs []
    | .frame,false=>if be.length+2*([]:List (Option Str×Sem Value)).length>30 then call f vs [] else callMarked plainCall f vs []
    | .boundFrame,false=>if be.length+2*([]:List (Option Str×Sem Value)).length>30 then call f vs [] else callMarked callOfAMethodObject f vs []
    | .machine,false=>call f vs []
    |_,_=>operate (f::(if(be.any (·.1)||([]:List (Option Str×Sem Value)).any (·.1.isNone)) then vs.reverse else vs)++([]:List (Str×Value)).map (·.2)) (call f vs [])
   holding [r] point
   pure r) Q E s:=by
 have b:∀{t:Sem Value},wpAny (model J b1.w) A t Q E s->wpAny (model J b1.w) A (t>>=λr=>holding [r] point>>=λ_=>pure r) Q E s:=
  λht=>ae (ea ht (λr cv hr=>ae (en (wpAny_point (ar hr)))) λ_ _ x=>x)
 refine ae (hk _ λk=>?_);refine rwm _ ?_ ha;cases k
 .show wpAny _ _ (if _ then(_>>=_) else(_>>=_)) Q E s
  split
  .exact b h
  .exact b (wpAny_keep h)
 .show wpAny _ _ (if _ then(_>>=_) else(_>>=_)) Q E s
  split
  .exact b h
  .exact b (wpAny_keep h)
 .exact b h
 .exact b (yt h)
structure qz (K:Frag) (cx:Cx) (P:bt):Prop where
 X:K.In cx.B
 fn:∀a,P.kd a=some true->∃o fd,cx.B.get? a=some o/\o.data= .func fd
 cl:∀a,P.kd a=some false->(∃o cd,cx.B.get? a=some o/\o.data= .cls cd)/\specialIn K (.ref a) "__call__"=some (some (.builtin "type.__call__"))
theorem GO{B:Except Addr Unit×af}(q:kb P fv O=some B):B=(.ok (),O)/\((∃i ps b sc q cl,fv= .own i/\O[i]? =some (.clo ps b sc q cl))\/(∃n,fv= .t (.bi n))\/(∃n,fv= .t (.typ n))\/∃a b,fv= .t (.top a)/\P.kd a=some b):=by
 cases fv with
 |own i=>
  refine al (dE q) λQ hi q=>?_;cases Q<;>first|exact nso q|skip
  exact⟨(ai q).symm,.inl ⟨_,_,_,_,_,_,rfl,hi⟩⟩
 |t t=>
  cases t<;>first|exact nso q|skip
  .exact⟨(ai q).symm,.inr (.inr (.inl ⟨_,rfl⟩))⟩
  .exact⟨(ai q).symm,.inr (.inl ⟨_,rfl⟩)⟩
  .refine ac (cL q) λh q=>ag (Option.isSome_iff_exists.mp h) λb hb=>⟨(ai q).symm,.inr (.inr (.inr ⟨_,b,rfl,hb⟩))⟩
theorem yG(k3:qz K b1 P)(S:St b1 r g b2 l O s.heap)(hv:VR b1.w g b2 fv m){B:Except Addr Unit×af}(q:kb P fv O=some B):
  B=(.ok (),O)/\∀(Q:Keeper->Shared->Prop)(E:Value->Shared->Prop),(∀k,Q k s)->wpAny (model J b1.w) A (keeperOf m) Q E s:=by
 refine ac (GO q) λe q=>⟨e,λQ E hq=>?_⟩;rcases q with⟨i,ps,b,sc,f,cl,rfl,hi⟩|⟨n,rfl⟩|⟨n,rfl⟩|⟨a,b,rfl,p⟩
 ·(refine ag hv λa c1=>ac c1 λha bo=>?_;clear c1;subst bo);(refine bc λno=>hV (S.own _ _ _ hi ha) λL c u I D M=>ac M λho _=>no ?_;clear M no);unfold keeperOf;exact ae (qq ho (ar (hq _)))
 .have hv:=hv;subst hv;exact ar (hq _)
 .have hv:=hv;subst hv;exact ar (hq _)
 .have hv:=hv;subst hv;unfold keeperOf
  cases b with
  |true=>
   refine cS (k3.fn a p) λo fd ho hd=>ae (qq (S.ground _ _ ho) ?_);refine rwm _ ?_ hd;exact ar (hq _)
  |false=>
   (refine ac (k3.cl a p) λc7 d=>?_;rcases c7 with⟨o,c6,ho,hd⟩);refine ae (qq (S.ground _ _ ho) ?_);refine rwm _ ?_ hd;refine ae (looks_specialIn (k3.X.keeps S.ground) d _ _ _ _ (λ_ _ e=>e) ?_);exact ar (hq _)
theorem GP(k3:qz K b1 P)(S:aL J b1 n rc)(hR:Rm A l n)(he:ER b1 l g b2 e env)(f:Expr)(be:List Expr)(c4:Pos)
  (o:eval (.Call f be [] c4) env=(do callWith c4 (<-eval f env) [] (backTo c4 (starEach be env)) (backToKw c4 (keywordEach [] env)))):
  aa J b1 r l A (RV b1.w) g b2 (eval (.Call f be [] c4) env) (tN P rc e f be):=by
 unfold tN
 by_cases hc:(be.all noStar&&decide (be.length<30))=true
 .refine rwm _ (rwm _ ?_ o) (eb hc);simp only[Bool.and_eq_true,decide_eq_true_eq] at hc;refine aa.bind (S.ev hR he f) λbs Y fv m hg hr hf=>?_;have d:=mX (c4:=c4) (env:=env) be hc.1;have i:(backTo c4 (starEach be env)).any (·.1)=false:=by
   rw[List.any_eq_false];intro p hp;simp [d p hp]
  intro O B s c5 bl a b H q;unfold callWith;refine ae (en (qx d ?_));(refine a2 (ed q) (λzz=>?_) (λzz=>?_);refine aq zz λvs c6 bi=>ac bi λe1 q=>?_;clear bi;rotate_left;refine aq zz λc c6 bi=>ac bi λe1 bo=>?_;clear bi;subst bo;rotate_right)
  .refine ea (jv S hR be c4 bs Y (he.mono hg hr) O _ s c5 bl a b H e1) (λU s' z=>?_) λy s' z=>?_
   ·(refine ch z λc9 N j e2 p S3 c1=>?_;clear z);(have D:=oke e2;clear e2;cases D);refine ae (kV ?_);(refine a2 (ed q) (λzz=>?_) (λzz=>?_);refine aq zz λu c7 bi=>ac bi λe3 q=>?_;clear bi;rotate_left;refine aq zz λc c7 bi=>ac bi λe3 bo=>?_;clear bi;subst bo;rotate_right)
    .refine ac (yG (J:=J) (A:=A) k3 S3 (VR.mono (a.trans p.2.1) (b.trans p.2.2) _ _ hf) e3) λe4 hk=>?_;cases e4;refine qy i (λQ' hq=>hk Q' _ hq) (ea (S.call hR fv vs m U (VR.mono (a.trans p.2.1) (b.trans p.2.2) _ _ hf) c1 c6 B s' c9 N (.refl _) (.refl _) S3 q) (λ_ _ z=>z.up p) λ_ _ z=>z.up p)
    .refine ac (yG (J:=J) (A:=A) k3 S3 (VR.mono (a.trans p.2.1) (b.trans p.2.2) _ _ hf) e3) λe4 _=>?_;cases e4
   .refine cT z λ_ _ _ _ q1 _=>oee q1
  .refine ea (jv S hR be c4 bs Y (he.mono hg hr) O _ s c5 bl a b H e1) (λU s' z=>?_) λy s' z=>?_
   .refine dZ z λ_ _ _ q1 _=>eoe q1
   .refine cT z λc9 N c' ex q1 z=>?_;(have D:=ere q1;clear q1;cases D);exact⟨c9,N,_,ex,rfl,z⟩
 .refine rwm _ ?_ (hW hc);exact aa.none
set_option tactic.hygienic true in
theorem fS{α:Type}{l:List α}{x:α}(e:(l.take n)[i]? =some x):i<n/\l[i]? =some x:=by
 rw[List.getElem?_take] at e
 split at e
 .rename_i h;exact⟨h,e⟩
 .exact nso e
theorem jy{α:Type}{l:List α}{x:α}(h:i<n)(e:l[i]? =some x):(l.take n)[i]? =some x:=by
 refine a0 (List.getElem?_take) (rwm _ ?_ (eb h));exact e
theorem VR.drop(hc:mL n v=true)(hv:VR w g b2 v x):VR w g (b2.take n) v x:=by
 cases v with
 |t t=>exact hv
 |own i=>refine al hv λa ha q=>⟨a,jy (hG hc) ha,q⟩
theorem FR.drop:∀{fs:List (Str×V)}{m:Str->Option Value},(fs.all λp=>mL n p.2)=true->FR (VR w g b2) fs m->FR (VR w g (b2.take n)) fs m
 |[],_,_,_=>trivial
 |(k,v)::fs,m,hc,⟨⟨x,e,hv⟩,hr⟩=>by
  simp only[List.all_cons,Bool.and_eq_true] at hc;exact⟨⟨x,e,hv.drop hc.1⟩,FR.drop hc.2 hr⟩
theorem ck.drop:∀{cl:List (Str×Nat)}{N:List (Str×Addr)},(cl.all λp=>decide (p.2<n))=true->ck b2 cl N->ck (b2.take n) cl N
 |[],_,_,h=>h
 |(k,i)::cl,_,hc,⟨a,N,e,q,z⟩=>by
  simp only[List.all_cons,Bool.and_eq_true,decide_eq_true_eq] at hc;exact⟨a,N,e,jy hc.1 q,ck.drop hc.2 z⟩
theorem OR.drop(hc:tJ n Q=true)(x:OR w g b2 h Q a):OR w g (b2.take n) h Q a:=by
 cases Q with
 |list U=>exact x
 |dict N=>exact x
 |inst C d=>refine al x λad e1 e2=>⟨ad,jy (hG hc) e1,e2⟩
 |sh C fs=>refine dm x λd od m e1 e2 n r z=>⟨d,od,m,e1,e2,n,FR.drop hc r,z⟩
 |ns f N=>refine mA x λo m e n r z=>⟨o,m,e,n,FR.drop hc r,z⟩
 |idt N=>refine ch x λes ep m e n r z=>⟨es,ep,m,e,n,FR.drop hc r,z⟩
 |cell v=>
  refine al x λy e c=>⟨y,e,?_⟩
  cases v with
  |none=>cases y<;>exact c
  |some v=>cases y with
   |none=>exact c
   |some y=>exact VR.drop hc c
 |clo ps j p i cl=>refine bc λno=>hV x λL c u I D cd=>bK cd λe e1 e2 e3=>no (⟨L,c,u,I,D,e,e1,e2,ck.drop hc e3⟩)
 |fz v=>exact x
 |dead=>exact x
theorem St.drop(S:St b1 r g b2 l O h)(hc:(O.take n).all (tJ n)=true):St b1 r g (b2.take n) l (O.take n) h where
 base:=S.base
 fr:=S.fr
 rs:=S.rs
 len:=by exact rwm _ (rwm _ (rwm _ rfl S.len) p5) p5
 own:=λi Q a e1 e2=>(S.own i Q a (fS e1).2 (fS e2).2).drop (hL.mp hc Q (List.mem_of_getElem? e1))
 free:=λi Q a e1 e2=>S.free i Q a (fS e1).2 (fS e2).2
 nd:=λi j Q f a e1 e2 q q' e3 e4=>S.nd i j Q f a (fS e1).2 (fS e2).2 q q' (fS e3).2 (fS e4).2
 gr:=S.gr
 gt:=S.gt
 tabs:=S.tabs
 frs:=S.frs
set_option tactic.hygienic true in
theorem St.trunc(S:St b1 r g b2 l O h)(n:Nat):∃b4,St b1 r g b4 l (trunc n O) h/\bu (b2.take n) b4/\bu b4 b2:=by
 unfold Internal.trunc
 split
 .rename_i hc;exact⟨_,S.drop hc,.refl _,λi a e=>(fS e).2⟩
 .exact⟨b2,S,λi a e=>(fS e).2,.refl _⟩
theorem bu.take_len{b2 b4:List Addr}(h:bu b2 b4):bu b2 (b4.take b2.length):=λi a e=>jy (List.getElem?_eq_some_iff.mp e).1 (h i a e)
set_option tactic.hygienic true in
theorem GQ(S:St b1 r g b2 l O h)(hv:VR b1.w g b2 v x){B:Except Addr V×af}(q:fq n v O=some B):
  ∃v' M b6 b4,B=(.ok v',M)/\aZ g b6/\St b1 r b6 b4 l M h/\VR b1.w b6 b4 v' x/\bu (b2.take n) b4:=by
 cases v with
 |t t=>
  cases q;refine cD (S.trunc n) λb4 H h1 h2=>⟨_,_,g,b4,rfl,.refl _,H,hv,h1⟩
 |own k=>
  (refine ag hv λa c1=>ac c1 λha bo=>?_;clear c1;clear hv;subst bo);have q:(if k<n then some (.ok (.own k),trunc n O) else xJ n k O O[k]?)=some B:=q
  by_cases hk:k<n
  .rw[if_pos hk] at q;cases q;refine cD (S.trunc n) λb4 H h1 h2=>⟨_,_,g,b4,rfl,.refl _,H,⟨a,h1 _ _ (jy hk ha),rfl⟩,h1⟩
  .rw[if_neg hk] at q;have cl:some (.ok (.own k),O)=some B->∃v' M b6 b4,B=(.ok v',M)/\aZ g b6/\St b1 r b6 b4 l M h/\VR b1.w b6 b4 v' (.ref a)/\bu (b2.take n) b4:=λq=>by
    cases q;exact⟨_,_,g,b2,rfl,.refl _,S,⟨a,ha,rfl⟩,λi a e=>(fS e).2⟩
   cases hi:O[k]?with
   |none=>rw[hi] at q;exact cl q
   |some Q=>
   rw[hi] at q;cases Q<;>first|exact cl q|skip
   .rename_i U
    clear cl;cases q;refine cS (S.own _ _ _ hi ha) λys ep ho hs=>?_;have f1:=(S.free _ _ a hi ha rfl).1;refine ac (S.freeze1 hi rfl ha ho (by simp) (by
     exact⟨a,ys,ep,rfl,eR _ _ _,TRs.mono (aZ.upd _ f1) _ _ hs⟩)) λhg S1=>cD (S1.trunc n) λb4 H h1 h2=>⟨_,_,_,b4,rfl,hg,H,by exact⟨a,ys,ep,rfl,eR _ _ _,TRs.mono hg _ _ hs⟩,h1⟩
   .rename_i N
    clear cl;cases q;refine b9 (S.own _ _ _ hi ha) λes ep ho hs hn=>?_;refine ac (S.freeze1 hi rfl ha ho (by simp) (by
     exact⟨a,es,ep,rfl,eR _ _ _,TRd.mono (aZ.upd _ ((S.free _ _ a hi ha rfl).1)) _ _ hs,hn⟩)) λhg S1=>cD (S1.trunc n) λb4 H h1 h2=>⟨_,_,_,b4,rfl,hg,H,by exact⟨a,es,ep,rfl,eR _ _ _,TRd.mono hg _ _ hs,hn⟩,h1⟩
   .rename_i t
    clear cl;cases q;refine cD (S.trunc n) λb4 H h1 h2=>⟨_,_,g,b4,rfl,.refl _,H,(S.own _ _ _ hi ha),h1⟩
structure iU (l:List Env) (h h':Heap):Prop where
 all:∀b,Kp h h' b
 off:∀b o,(∀e∈l,e.frame≠some b)->h.get? b=some o->h'.get? b=some o
 size:h'.objs.size=h.objs.size
theorem iU.refl(l:List Env)(h:Heap):iU l h h:=⟨λ_=> .same λ_ e=>e,λ_ _ _ e=>e,rfl⟩
theorem iU.trans(x:iU l c d)(y:iU l d h₃):iU l c h₃:=
 ⟨λb=>(x.all b).trans (y.all b),λb o q e=>y.off b o q (x.off b o q e),y.size.trans x.size⟩
theorem St.slots(S:St b1 r g b2 l O h)(k:iU l h b5):St b1 r g b2 l O b5 where
 base:=S.base
 fr:=λb o e=>k.off b o (λf he q=>by
  (refine bc λno=>ac (S.frs f he) λ_ cv=>aq cv λL o' M=>bS M λe1 e2 e3 e4 _=>no ?_;clear M cv no);rw[q] at e1;cases e1;rw[e] at e4;exact sno e4) (S.fr b o e)
 rs:=λb o e=>by
  refine al (S.rs b o e) λo' e' q=>al (k.all b o' e') λp j q'=>⟨p,j,q.trans q'⟩
 len:=S.len
 own:=λi Q a e1 e2=>(S.own i Q a e1 e2).mono (.refl _) (.refl _) (k.all a)
 free:=S.free
 nd:=S.nd
 gr:=S.gr
 gt:=S.gt
 tabs:=λq hq=>by
  refine al (S.tabs q hq) λps e x=>⟨ps,(k.all _).eq e (by simp),x⟩
 frs:=λf he=>by
  refine bc λno=>ac (S.frs f he) λe0 M=>aq M λL o D=>bK D λe1 e2 e3 e4=>no (al (k.all L o e2) λo' e' q=>⟨e0,L,o',e1,e',q.1.trans e3,e4⟩)
theorem GR{h:Heap}{f:Env}{o:Obj}{sl:Obj->Array (Option Value)}(e2:h.get? L=some o)(e3:o.cls= .type "frame")(hf:o.isFreed=false)(u:f∈l)(e1:f.frame=some L):
  iU l h (h.update L λo=>{o with slots:=sl o}):=by
 have c3:=ko (λo=>{o with slots:=sl o}) e2 (by rcases o with⟨c,d,j,s⟩;cases j<;>first|rfl|(first|exact tff hf|cases hf));refine⟨λb o' i=>?_,λb o' q i=>?_,Heap.size_after_update ..⟩
 .by_cases hb:b=L
  .subst hb;rw[e2] at i;cases i;exact⟨_,c3,rfl,rfl,rfl,λhn=>absurd e3 hn⟩
  .exact⟨o',by rw[Heap.get?_update_other _ _ (Ne.symm hb)];exact i,.refl _⟩
 .rw[Heap.get?_update_other _ _ (λz:L=b=>q f u (by exact rwm _ (rwm _ rfl z) e1))];exact i
theorem GS(fs:List Env)(s:Shared)(Q:Unit->Shared->Prop)(E:Value->Shared->Prop)(u:∀e∈fs,e∈l)
  (hl:∀e∈l,e.scope.kind= .function/\∃L o,e.frame=some L/\s.heap.get? L=some o/\o.cls= .type "frame")
  (m:∀b5,iU l s.heap b5->Q () {s with heap:=b5}):wpAny (model J b1.w) A (readyFrames fs) Q E s:=by
 induction fs generalizing s with
 |nil=>exact ar (m s.heap (.refl _ _))
 |cons f fs ih=>
  (refine bc λno=>ac (hl f (u f (.head _))) λhk D=>aq D λL o c3=>aw c3 λe1 e2 e3=>no ?_;clear c3 D no);simp only[readyFrames,e1];refine ae (qq e2 ?_)
  by_cases hr:((o.slots.getD 3 none).isSome)=true
  .refine rwm _ ?_ (eb hr);exact ar (m _ (.refl _ _))
  .refine rwm _ ?_ (hW hr);refine ae (wpAny_of_eq (by unfold behindIsImport;refine rwm _ ?_ hk;rfl) ?_);have step:∀b:Value,wpAny (model J b1.w) A (update L (λo=>{o with slots:= #[some f.code,some (.ref f.globals),o.slots.getD 2 none,some b,o.slots.getD 4 none,f.func.map Value.ref,some (.ref f.builtins)]++(f.cells.map λc=>some (.ref c.2)).toArray})>>=λ_=>readyFrames fs) Q E s:=by
    intro b;have c2:=(Heap.get?_some_iff.mp e2).2;refine ae (wpAny_update e2 ?_);have hs:=GR (sl:=λo=> #[some f.code,some (.ref f.globals),o.slots.getD 2 none,some b,o.slots.getD 4 none,f.func.map Value.ref,some (.ref f.builtins)]++(f.cells.map λc=>some (.ref c.2)).toArray) e2 e3 c2 (u f (.head _)) e1;exact ih _ (λe he=>u e (.tail _ he)) (λe he=>(hl e he).elim λi q=>q.elim λd q=>q.elim λo' q=>(hs.all d o' q.2.1).elim λp z=>⟨i,d,p,q.1,z.1,z.2.1.trans q.2.2⟩) λb5 hx=>m b5 (hs.trans hx)
   cases fs with
   |nil=>exact ae (wpAny_keptBack_nil λv=>step v)
   |cons c j=>
    refine ae ?_;show wpAny _ _ (pure _) _ _ _;exact ar (step _)
theorem qA{o:Obj}{vs:Array Value}{Q:Unit->Shared->Prop}{E:Value->Shared->Prop}(S:St b1 r g b2 l O s.heap)(L:aD b1 r g b2 l O a)(ho:s.heap.get? a=some o)(hd:o.data= .fields vs)(hi:i<vs.size)
  (m:∀b5 o',St b1 r g b2 l O b5->b5.get? a=some o'->o'.cls=o.cls->o'.data= .fields (vs.setIfInBounds i v)->(∀b,b≠a->b5.get? b=s.heap.get? b)->b5.objs.size=s.heap.objs.size->Q () {s with heap:=b5}):
  wpAny (model J b1.w) A (setField (.ref a) i v) Q E s:=by
 have c9:=Obj.data_mapFields hd (·.setIfInBounds i v);refine wpAny_setField ho hd hi (m _ _ (S.extBut L (js ..).extBut) (ko _ ho (Obj.isFreed_of_fields c9)) (Obj.cls_mapFields ..) c9 (λb hb=>Heap.get?_update_other _ _ (Ne.symm hb)) (Heap.size_after_update ..))
set_option tactic.hygienic true in
theorem yH{α:Type}{p:α->Bool}:∀{l:List α},l.dropWhile p=[]->∀x∈l,p x=true
 |[],_,x,h=>nomatch h
 |a::l,e,x,h=>by
  rw[List.dropWhile_cons] at e
  split at e
  .rename_i ha
   (refine a2 (hy.mp h) (λzz=>?_) (λh=>?_);subst zz;rotate_left;rotate_right)
   .exact ha
   .exact yH e x h
  .cases e
theorem GT(hA:A.frames=some l)(S:St b1 r g b2 l O s.heap)(hf:env.frame=some f)(u:∃e'∈l,e'.frame=env.frame){Q:Value->Shared->Prop}{E:Value->Shared->Prop}
  (m:∀b5,iU l s.heap b5->Q (.ref f) {s with heap:=b5}):wpAny (model J b1.w) A (PySem.frameOf env) Q E s:=by
 unfold PySem.frameOf;refine ae (wpAny_frameEnvs hA ?_);(refine al u λe' be d=>?_;clear u)
 cases hd:l.dropWhile (λx=>x.frame !=env.frame) with
 |nil=>
  exfalso
  have:=yH hd e' be;simp [d] at this
 |cons c j=>
  have hc:c.frame=some f:=by
   have:=List.head?_dropWhile_not (λx:Env=>x.frame !=env.frame) l;rw[hd] at this;simp only[List.head?_cons] at this
   simpa [hf] using this
  have b:∀x∈c::j,x∈l:=λx hx=>by
   have:(c::j)<:+l:=hd▸List.dropWhile_suffix _;exact this.subset hx
  show wpAny _ _ ((readyFrames (c::j)>>=λ_=>pure (c.frame.map Value.ref))>>=_) _ _ _;refine ae (ae (GS (c::j) s _ _ b (λx hx=>by refine bc λno=>ac (S.frs x hx) λa M=>aq M λL o D=>bK D λbb c5 b3 _=>no (⟨a,L,o,bb,c5,b3⟩)) λb5 hs=>ar ?_));refine rwm _ ?_ hc;exact ar (m b5 hs)
theorem aD.slots(L:aD b1 r g b2 l O a):∀e∈l,e.frame≠some a:=L.2.2.2.2
def XN(b1:Cx)(r g:ay)(b2:List Addr)(l:List Env)(O:af)(h:Heap)(C:Addr)(e:Addr):Prop:=
 ∃o vs,h.get? e=some o/\o.cls= .ref C/\o.data= .fields vs/\vs.size=6/\aD b1 r g b2 l O e/\
  (∃t i vt,vs[1]? =some (.ref t)/\h.get? t=some i/\i.data= .fields vt/\3<vt.size/\t≠e/\aD b1 r g b2 l O t/\i.cls≠ .type "frame")
theorem XN.x{C e:Addr}(b5:XN b1 r g b2 l O h C e):df b1 r g b2 l O h C e:=by
 refine hZ b5 λo vs a1 d B D E c=>⟨o,vs,a1,d,B,D,E,.inr c⟩
theorem yI(hA:A.frames=some l){o:Obj}{vs:Array Value}{i:Value}{b:Bool}{Q:Unit->Shared->Prop}{E:Value->Shared->Prop}(hf:env.frame=some f)(u:∃e'∈l,e'.frame=env.frame)
  (S:St b1 r g b2 l O s.heap)(L:aD b1 r g b2 l O ex)(ho:s.heap.get? ex=some o)(hc:o.cls= .ref C)(hd:o.data= .fields vs)(cp:vs.size=6)
  (m:∀b5,St b1 r g b2 l O b5->XN b1 r g b2 l O b5 C ex->Q () {s with heap:=b5}):
  wpAny (model J b1.w) A (do setField (.ref ex) 1 (<-EntryCells.newEntry i (<-PySem.frameOf env) .none (rawInt f) .none (<-entryPlaceOf f b))) Q E s:=by
 refine ae (GT hA S hf u λc d=>?_);refine ae (wpAny_entryPlaceOf λpl c4=>?_);have S1:=S.slots d;have k:=d.off ex o L.slots ho;unfold EntryCells.newEntry newFields;refine ae (rp ?_ (c4.sizeOk5 _ _ _ _ _));have S2:St b1 r g b2 l O (c.push {cls:= .type "traceback",dict:=none,data:= .fields ([i,.ref f,.none,rawInt f,.none]++(if pl.isEmpty then List.replicate 6 Value.none else pl)).toArray}):=S1.keep λ_ _ e=>a3 _ e;have hn:c.get? c.objs.size=none:=cU _;have ct:=Nat.ne_of_gt (mm k);refine qA (s:={s with heap:=c.push _}) S2 L (a3 _ k) hd (EN cp) λb5 o' S3 g1 g2 g3 g4 y=>m b5 S3 ?_;refine⟨o',_,g1,g2.trans hc,g3,by simp [cp],L,⟨c.objs.size,_,_,by simp [cp],(g4 _ ct).trans (a6 _ rfl),rfl,?_,ct,(S1.lone_new hn),by simp⟩⟩;simp only[List.size_toArray,List.length_append,List.length_cons,List.length_nil];exact EO
theorem ug(hA:A.frames=some l){Q:Unit->Shared->Prop}{E:Value->Shared->Prop}(hf:env.frame=some f)(u:∃e'∈l,e'.frame=env.frame)
  (S:St b1 r g b2 l O s.heap)(X:df b1 r g b2 l O s.heap C ex)(m:∀b5,St b1 r g b2 l O b5->XN b1 r g b2 l O b5 C ex->Q () {s with heap:=b5}):
  wpAny (model J b1.w) A (noteFrame (.ref ex) env) Q E s:=by
 (refine hZ X λo vs ho hc hd cp L ht=>?_;clear X);unfold noteFrame;simp only[hf];(refine bc λno=>a2 ht (λh1=>?_) (λzz=>?_);(try clear ht);refine no ?_;clear no;rotate_left;(try clear ht);refine a9 zz λt i vt cd=>db cd λh1 h2 h3 h4 h5 G=>no ?_;clear no;rotate_right)
 .refine ae (po ho hd h1 ?_);refine rwm _ ?_ (hW (by decide));exact yI hA hf u S L ho hc hd cp m
 .refine ae (po ho hd h1 ?_);refine rwm _ ?_ (eb (show(Value.ref t !=Value.none)=true from by simp));obtain⟨d,c⟩:∃v,vt[3]? =some v:=⟨vt[3],lt h4⟩;refine ae (po h2 h3 c ?_)
  by_cases hb:(d==rawInt f)=true
  .refine rwm _ ?_ (eb hb);exact ar (m s.heap S ⟨o,vs,ho,hc,hd,cp,L,⟨t,i,vt,h1,h2,h3,h4,h5,G⟩⟩)
  .refine rwm _ ?_ (hW hb);refine ae (qA S G.1 h2 h3 h4 λb5 o' H g1 g2 g3 g4 y=>?_);exact yI hA hf u H L ((g4 ex (λz=>h5 z.symm)).trans ho) hc hd cp λw a b=>m w a b
theorem yJ{fr:Option Addr}{Q:Unit->Shared->Prop}{E:Value->Shared->Prop}(S:St b1 r g b2 l O s.heap)(X:df b1 r g b2 l O s.heap C ex)
  (m:∀b5,St b1 r g b2 l O b5->df b1 r g b2 l O b5 C ex->Q () {s with heap:=b5}):wpAny (model J b1.w) A (setFlight (.ref ex) fr) Q E s:=by
 (refine hZ X λo vs ho hc hd cp L ht=>?_;clear X);unfold setFlight;(refine bc λno=>a2 ht (λh1=>?_) (λzz=>?_);(try clear ht);refine no ?_;clear no;rotate_left;(try clear ht);refine a9 zz λt i vt cd=>db cd λh1 h2 h3 h4 h5 G=>no ?_;clear no;rotate_right)
 .refine ae (po ho hd h1 ?_);refine rwm _ ?_ (hW (by decide));exact ar (m s.heap S ⟨o,vs,ho,hc,hd,cp,L,.inl h1⟩)
 .refine ae (po ho hd h1 ?_);refine rwm _ ?_ (eb (show(Value.ref t !=Value.none)=true from by simp));refine qA S G.1 h2 h3 h4 λb5 o' H g1 g2 g3 g4 y=>m b5 H (⟨o,vs,(g4 ex (λz=>h5 z.symm)).trans ho,hc,hd,cp,L,.inr ⟨t,o',_,h1,g1,g3,by simpa using h4,h5,G.1,by refine rwm _ ?_ g2;exact G.2⟩⟩)
theorem yK{fr:Option Addr}{Q:Unit->Shared->Prop}{E:Value->Shared->Prop}(S:St b1 r g b2 l O s.heap)(X:XN b1 r g b2 l O s.heap C ex)
  (m:∀b5,St b1 r g b2 l O b5->XN b1 r g b2 l O b5 C ex->Q () {s with heap:=b5}):wpAny (model J b1.w) A (setFlight (.ref ex) fr) Q E s:=by
 (refine bc λno=>aq X λo vs c=>db c λho hc hd cp L d=>a9 d λt i vt cd=>db cd λh1 h2 h3 h4 h5 G=>no ?_;clear cd d c X no);unfold setFlight;refine ae (po ho hd h1 ?_);refine rwm _ ?_ (eb (show(Value.ref t !=Value.none)=true from by simp));refine qA S G.1 h2 h3 h4 λb5 o' H g1 g2 g3 g4 y=>m b5 H (⟨o,vs,(g4 ex (λz=>h5 z.symm)).trans ho,hc,hd,cp,L,t,o',_,h1,g1,g3,by simpa using h4,h5,G.1,by refine rwm _ ?_ g2;exact G.2⟩)
theorem yL(hA:A.frames=some l){Q:Unit->Shared->Prop}{E:Value->Shared->Prop}(hf:env.frame=some f)(u:∃e'∈l,e'.frame=env.frame)
  (S:St b1 r g b2 l O s.heap)(X:df b1 r g b2 l O s.heap C ex)(m:∀b5,St b1 r g b2 l O b5->df b1 r g b2 l O b5 C ex->Q () {s with heap:=b5}):
  wpAny (model J b1.w) A (leaving env (.ref ex)) Q E s:=by
 unfold leaving;exact ae (ug hA hf u S X λb5 H I=>yJ H I.x λw a b=>m w a b)
theorem yM{f:String}{Q:α->Shared->Prop}{E:Value->Shared->Prop}(S:St b1 r g b2 l O s.heap)(X:XN b1 r g b2 l O s.heap C ex)
  (hE:∀b5,St b1 r g b2 l O b5->df b1 r g b2 l O b5 C ex->E (.ref ex) {s with heap:=b5}):wpAny (model J b1.w) A (PySem.passOn f (.ref ex) env:Sem α) Q E s:=by
 have I:=X.x;(refine bc λno=>aq X λo vs c=>db c λho hc hd cp L d=>a9 d λt i vt cd=>db cd λh1 h2 h3 h4 h5 G=>no ?_;clear cd d c X no);unfold PySem.passOn;refine ae (po ho hd h1 ?_);refine rwm _ ?_ (hW (by simp));exact ae (yJ S I λb5 a b=>wpAny_throw (hE b5 a b))
theorem St.pop(S:St b1 r g b2 (env::l) O h):St b1 r g b2 l O h:=
 ⟨S.base,S.fr,S.rs,S.len,S.own,S.free,S.nd,S.gr,S.gt,S.tabs,λe he=>S.frs e (.tail _ he)⟩
theorem aD.pop(L:aD b1 r g b2 (env::l) O a):aD b1 r g b2 l O a:=⟨L.1,L.2.1,L.2.2.1,L.2.2.2.1,λe he=>L.2.2.2.2 e (.tail _ he)⟩
theorem df.map(k:∀a,aD b1 r g b2 l O a->aD b1 r g b4 N M a)(X:df b1 r g b2 l O h C x):df b1 r g b4 N M h C x:=by
 refine hZ X λob vs a1 d B D E c=>⟨ob,vs,a1,d,B,D,k _ E,?_⟩;rcases c with c|⟨t,i,vt,bb,c5,b3,U,y,z⟩
 .exact .inl c
 .exact .inr ⟨t,i,vt,bb,c5,b3,U,y,k _ z.1,z.2⟩
theorem St.pushF(S:St b1 r g b2 l O h){i:Nat}{L:Addr}{N:List (Str×V)}(hi:O[i]? =some (.ns true N))(M:b2[i]? =some L)(hk:env.scope.kind= .function)(hf:env.frame=some L):St b1 r g b2 (env::l) O h:=by
 refine⟨S.base,S.fr,S.rs,S.len,S.own,S.free,S.nd,S.gr,S.gt,S.tabs,λe he=>?_⟩;(refine a2 (hy.mp he) (λzz=>?_) (λhe=>?_);subst zz;rotate_left;rotate_right)
 .refine hZ (S.own _ _ _ hi M) λo m ho _ _ _ _ hc=>?_;refine bc λno=>aw (S.free _ _ _ hi M rfl) λf1 f2 u=>no (⟨hk,L,o,hf,ho,hc,f1,u⟩)
 .exact S.frs e he
def RC:Rl (List (Str×Nat)) (List (Str×Addr)):=λ_ b2 cl b=>ck b2 cl b
theorem GU:aa J b1 r l A (λ_ b2 (i:Nat)(a:Addr)=>b2[i]? =some a) g b2 (alloc {cls:= .type "cell",data:= .cell none}) (new (.cell none)):=by
 intro O B s bs Y a b S q;cases q;refine wpAny_alloc ⟨bs,Y++[s.heap.objs.size],O.length,rfl,⟨⟨_,s.toks,rfl⟩,.refl _,.app _ _⟩,S.alloc (cU _) (λ_ _ e=>a3 _ e) rfl ⟨none,a6 _ rfl,trivial⟩,?_⟩;show(Y++[s.heap.objs.size])[O.length]? =_;refine rwl _ ?_ S.len;simp
theorem uh(f:Str×NameKind->List (Str×Addr)->Sem (ForInStep (List (Str×Addr))))
  (hf:∀B j b,f (B,j) b=if j== .cell then(do let a<-alloc {cls:= .type "cell",data:= .cell none};pure (.yield ((B,a)::b))) else pure (.yield b)):
  ∀(d:List (Str×NameKind))(cl:List (Str×Nat))(b:List (Str×Addr))(g:ay)(b2:List Addr),ck b2 cl b->aa J b1 r l A RC g b2 (forIn d b f) (et d cl)
 |[],cl,b,g,b2,h=>by refine rwm _ ?_ r6;exact aa.pure λ_ _ _ hr=>h.mono hr
 |(B,j)::d,cl,b,g,b2,h=>by
  rw[List.forIn_cons,hf]
  by_cases hk:j= .cell
  .subst hk;show aa J b1 r l A RC g b2 ((alloc {cls:= .type "cell",data:= .cell none}>>=λa=>pure (ForInStep.yield ((B,a)::b)))>>=_) (bm (new (.cell none)) λc=>et d ((B,c)::cl));refine aa.eqT (bind_assoc _ _ _) (aa.bind GU λbs Y i a hg hr ha=>?_);exact aa.eqT (pure_bind _ _) (uh f hf d ((B,i)::cl) ((B,a)::b) bs Y ⟨a,b,rfl,ha,h.mono hr⟩)
  .have e1:=beq_eq_false_iff_ne.mpr hk;have e2:et ((B,j)::d) cl=et d cl:=by cases j<;>first|rfl|exact absurd rfl hk
   refine rwm _ (rwm _ ?_ e2) e1;exact aa.eqT (pure_bind _ _) (uh f hf d cl b g b2 h)
theorem yN(f:Str×Value->PUnit->Sem (ForInStep PUnit))(hf:∀x v u,f (x,v) u=(do storeName env x v;pure (.yield ⟨⟩))):
  ∀(H:List (Str×V))(U:List (Str×Value))(g:ay)(b2:List Addr),ER b1 N g b2 e env->H.map (·.1)=U.map (·.1)->LR (VR b1.w g b2) (H.map (·.2)) (U.map (·.2))->
   aa J b1 r l A (RU (α:=Unit) (β:=PUnit)) g b2 (forIn U (⟨⟩:PUnit) f) (gS e H)
 |[],U,g,b2,he,h1,h2=>by
  cases U with
  |nil=>refine rwm _ ?_ r6;exact aa.pure λ_ _ _ _=>trivial
  |cons a b=>simp at h1
 |(x,v)::H,U,g,b2,he,h1,h2=>by
  cases U with
  |nil=>simp at h1
  |cons a U=>
   rcases a with⟨w,y⟩;simp only[List.map_cons,List.cons.injEq] at h1;rcases h1 with⟨rfl,h1⟩;(refine b9 h2 λz rr e1 hv hr=>?_;clear h2);simp only[List.map_cons,List.cons.injEq] at e1;(refine ac e1 λc2 bo=>?_;clear e1;subst c2;subst bo);rw[List.forIn_cons,hf];refine aa.eqT (bind_assoc _ _ _) (aa.bind (ue he x hv) λbs Y _ _ hg i _=>?_);exact aa.eqT (pure_bind _ _) (yN f hf H U bs Y (he.mono hg i) h1 (hr.up hg i))
theorem GV:aa J b1 r l A (λ_ b2 (i:Nat)(a:Addr)=>b2[i]? =some a) g b2 (alloc {cls:= .type "frame",data:= .dict #[]}) (new (.ns true [])):=by
 intro O B s bs Y a b S q;cases q;have hn:fh {cls:= .type "frame",data:= .dict #[]} λ_=>none:=⟨#[],0,rfl,λ_ he=>by simp at he,λ_=>rfl⟩;refine wpAny_alloc ⟨bs,Y++[s.heap.objs.size],O.length,rfl,⟨⟨_,s.toks,rfl⟩,.refl _,.app _ _⟩,S.alloc (cU _) (λ_ _ e=>a3 _ e) rfl
  ⟨_,_,a6 _ rfl,hn,trivial,λ_ _=>rfl,by simp,rfl⟩,?_⟩
 show(Y++[s.heap.objs.size])[O.length]? =_;refine rwl _ ?_ S.len;simp
theorem ui{sc:Scope}{cl:List (Str×Nat)}{c:List (Str×Addr)}{H:List (Str×V)}{U:List (Str×Value)}{q:Str}{u code bd:Addr}(t:code≠0->bd=code)(hk:sc.kind= .function)(hc:ck b2 cl c)
  (h1:H.map (·.1)=U.map (·.1))(h2:LR (VR b1.w g b2) (H.map (·.2)) (U.map (·.2))):
  aa J b1 r l A (λg b2 C env=>ER b1 [env] g b2 C env/\env.frame=some env.locals) g b2 (newFunctionEnv sc mainGlobals c U q (some u) (.ref bd) none builtinsNs)
   (bm (new (.ns true [])) λlh=>bm (et sc.names cl) λcl=>bm (gS ⟨sc,lh,cl,q,code⟩ H) λ_=>pm ⟨sc,lh,cl,q,code⟩):=by
 simp only[newFunctionEnv,Option.isSome_none,Bool.false_eq_true,if_false];refine aa.bind GV λbs Y lh L hg hr M=>aa.bind (uh _ (λB j b=>by cases k:j==NameKind.cell<;>simp [k]) sc.names cl c bs Y (hc.mono hr)) λc5 bl I f d m cr=>?_;have he:ER b1 [({scope:=sc,locals:=L,globals:=mainGlobals,cells:=f,qual:=q,func:=some u,code:= .ref bd,frame:=some L,builtins:=builtinsNs}:Env)] c5 bl ⟨sc,lh,I,q,code⟩
   {scope:=sc,locals:=L,globals:=mainGlobals,cells:=f,qual:=q,func:=some u,code:= .ref bd,frame:=some L,builtins:=builtinsNs}:=
  ⟨rfl,hk,m _ _ M,rfl,cr,rfl,λhc=>by exact rwm _ rfl (t hc),rfl,⟨_,.head _,rfl⟩⟩
 refine aa.bind (yN _ (λ_ _ _=>rfl) H U c5 bl he h1 (h2.up (hg.trans d) (hr.trans m))) λc9 N _ _ E D _=>aa.pure λc2 bb o w=>⟨(he.mono E D).mono o w,rfl⟩
structure Rg (A:Around) (l:List Env) (n:Nat):Prop where
 handled:A.handled=none
 frames:A.frames=some l
 depth:A.depth+1+2*n<=998
 units:A.units+3+8*n<=9800
theorem Rm.rg(hR:Rm A l (n+1)):Rg A l n:=⟨hR.handled,hR.frames,by have:=hR.depth;exact D2 this,by have:=hR.units;exact D3 this⟩
theorem Rg.deeper(hR:Rg A l n)(env:Env):Rm (A.deeper env) (env::l) n:=
 ⟨hR.handled,by show A.frames.map (env::·)=_;refine rwm _ ?_ hR.frames;rfl,by refine(?_:A.depth+1+2*n<=998);have:=hR.depth;exact lB this rfl,by refine(?_:A.units+3+8*n<=9800);have:=hR.units;exact lB this rfl⟩
set_option backward.match.sparseCases true in
abbrev RQ(b1:Cx)(r:ay)(l:List Env)(s:Shared)(g:ay)(b2:List Addr)(B:Except Addr V×af)(rr:Except Value Flow)(s':Shared):Prop:=match rr with
 | .ok (.ret x)=>PQ (RV b1.w) b1 r l s g b2 B x s'
 | .ok _=>False
 | .error x=>PE b1 r l s g b2 B x s'
set_option tactic.hygienic true in
theorem GW(S:aL J b1 n rc)(hR:Rg A l n)(he:ER b1 [env] g b2 e env)(c2:env.frame=some env.locals)(S0:St b1 r g b2 l O s.heap)(ct:O[e.lh]? =some (.ns true N))
  {B:Except Addr V×af}(q:eu rc j e O=some B):
  codeAny (model J b1.w) A (.func j env) (RQ b1 r l s g b2 B) s:=by
 have hk:env.scope.kind= .function:=by refine rwm _ ?_ he.scope;exact he.kind
 have be:ER b1 (env::l) g b2 e env:=⟨he.scope,he.kind,he.loc,he.globals,he.cells,he.qual,he.code,he.builtins,⟨env,.head _,rfl⟩⟩;have S1:=S0.pushF ct he.loc hk c2;refine codeAny_func ?_;have k:∀{b:Except Addr Fl×af}(x:Value)(s':Shared),PE b1 r (env::l) s g b2 b x s'->∀c,b.1= .error c->B=(.error c,b.2)->
   wpAny (model J b1.w) (A.deeper env) (leaving env x) (λ_ d=>PE b1 r l s g b2 B x d) (λe' d=>PE b1 r l s g b2 B e' d) s':=by
  rintro b x s' ⟨c5,bl,c',ex,e1,p,S2,rfl,X⟩ c hc i
  refine yL (hR.deeper env).frames c2 ⟨env,.head _,rfl⟩ S2 X λb5 S3 X3=>?_;(refine aw p λu p2 p3=>?_;clear p;clear X;rcases u with⟨h4,y,rfl⟩);exact⟨c5,bl,c,ex,by exact rwm _ rfl i,⟨⟨b5,y,rfl⟩,p2,p3⟩,by refine rwm _ ?_ i;exact S3.pop,rfl,by
   refine rwm _ ?_ i;rw[e1] at hc;(have D:=ere hc;clear hc;clear i;cases D);exact X3.map λa L=>L.pop⟩
 (refine a2 (ed q) (λzz=>?_) (λzz=>?_);refine aq zz λfl c6 bi=>ac bi λe1 e2=>?_;clear bi;rotate_left;refine aq zz λc c6 bi=>ac bi λe1 bo=>?_;clear bi;clear q zz;subst bo;rotate_right)
 .refine ea (jx S (hR.deeper env) j g b2 be O _ s g b2 (.refl _) (.refl _) S1 e1) (λf s' z=>?_) λx s' z=>?_
  ·(refine ch z λc5 bl bd q1 p S2 hf=>?_;clear z);(have D:=oke q1;clear q1;cases D)
   cases fl with
   |next=>
    clear q zz;cases e2;cases f<;>first|exact hf.elim|skip
    exact⟨c5,bl,_,rfl,p,S2.pop,qr (b1:=b1) (g:=c5)⟩
   |ret v=>
    clear q zz;cases e2;cases f<;>first|exact hf.elim|skip
    exact⟨c5,bl,_,rfl,p,S2.pop,hf⟩
  .refine cT z λ_ _ _ _ q1 _=>oee q1
 .refine ea (jx S (hR.deeper env) j g b2 be O _ s g b2 (.refl _) (.refl _) S1 e1) (λf s' z=>?_) λx s' z=>?_
  .refine dZ z λ_ _ _ q1 _=>eoe q1
  .exact k x s' z c rfl rfl
theorem GX(S:aL J b1 n rc)(hR:Rg A l n)(he:ER b1 [env] g b2 e env)(c2:env.frame=some env.locals)(S0:St b1 r g b2 l O s.heap)(ct:O[e.lh]? =some (.ns true N))
  {B:Except Addr V×af}(q:rc.ev j e O=some B):
  codeAny (model J b1.w) A (.expr j env) (RQ b1 r l s g b2 B) s:=by
 have hk:env.scope.kind= .function:=by refine rwm _ ?_ he.scope;exact he.kind
 have be:ER b1 (env::l) g b2 e env:=⟨he.scope,he.kind,he.loc,he.globals,he.cells,he.qual,he.code,he.builtins,⟨env,.head _,rfl⟩⟩;refine kla_codeExpr (ea (S.ev (hR.deeper env) be j O _ s g b2 (.refl _) (.refl _) (S0.pushF ct he.loc hk c2) q) (λx s' z=>?_) λx s' z=>?_)
 .refine ch z λc5 bl v q1 p S2 hv=>⟨c5,bl,v,q1,p,S2.pop,hv⟩
 ·(refine bH z λc5 bl c ex cd=>bS cd λe1 p S2 bo X=>?_;clear cd;clear z;subst bo);refine yL (hR.deeper env).frames c2 ⟨env,.head _,rfl⟩ S2 X λb5 S3 X3=>?_;(refine aw p λu p2 p3=>?_;clear p;rcases u with⟨h4,y,rfl⟩);exact⟨c5,bl,c,ex,e1,⟨⟨b5,y,rfl⟩,p2,p3⟩,S3.pop,rfl,X3.map λa L=>L.pop⟩
noncomputable def qB(rc:aG):FuncBody->AE->MM V
 | .stmts b=>eu rc b
 | .expr b=>rc.ev b
noncomputable def yO(env:Env):FuncBody->Code
 | .stmts b=> .func b env
 | .expr b=> .expr b env
theorem yP(S:aL J b1 n rc)(hR:Rg A l n)(he:ER b1 [env] g b2 e env)(c2:env.frame=some env.locals)(S0:St b1 r g b2 l O s.heap)(ct:O[e.lh]? =some (.ns true N)){j:FuncBody}
  {B:Except Addr V×af}(q:qB rc j e O=some B):
  codeAny (model J b1.w) A (yO env j) (RQ b1 r l s g b2 B) s:=by
 cases j with
 |stmts b=>exact GW S hR he c2 S0 ct q
 |expr b=>exact GX S hR he c2 S0 ct q
theorem uj{be:Args}{o:Obj}{fd:FuncData}{R:Result->Shared->Prop}(c:A.depth<recursionLimit)
  (ho:s.heap.get? a=some o)(c9:o.data= .func fd)(m:fd.scope.isCoroutine=false)(j:fd.scope.isGenerator=false)(N:s.heap.CodeRec fd.code fd.qualname)
  (h:wpAny (model J w) A.in1 (bindArgs fd be) (λd cf=>
   wpAny (model J w) A.in1 (newFunctionEnv fd.scope fd.globals fd.closure d (fd.qualname++".<locals>.") (some a) fd.code none fd.builtins)
    (λenv cv=>cv.heap.NoLimit/\codeAny (model J w) A (yO env fd.body) R cv) (λe s'=>R (.error e) s') cf) (λe s'=>R (.error e) s') s):
  codeAny (model J w) A (.call (.ref a) be) R s:=by
 cases hb:fd.body with
 |stmts b=>exact codeAny_call_function c ho c9 m j hb N (by rw[hb] at h;exact h)
 |expr b=>exact kla_callFunE c ho c9 m j hb N (by rw[hb] at h;exact h)
theorem PQ.left{s:Shared}{v:V}{x:Value}{s':Shared}{c6:af}{B:Except Addr V×af}(hl:b2.length=O.length)(q:fq O.length v c6=some B)(z:PQ (RV b1.w) b1 r l s g b2 (.ok v,c6) x s'):PQ (RV b1.w) b1 r l s g b2 B x s':=by
 (refine ch z λc5 bl v' e1 p S2 hv=>?_;clear z);(have D:=oke e1;clear e1;cases D);(refine bH (GQ S2 hv q) λb M c9 N cd=>bS cd λc2 hg S3 c hr=>?_;clear cd;clear q;subst c2);(refine aw p λu p2 p3=>?_;clear p;clear S2;rcases u with⟨h4,y,rfl⟩);refine⟨c9,N,b,rfl,⟨⟨h4,y,rfl⟩,p2.trans hg,?_⟩,S3,c⟩;intro i a hi;exact hr i a (jy (by refine rwl _ ?_ hl;exact(List.getElem?_eq_some_iff.mp hi).1) (p3 i a hi))
theorem yQ{O:af}{B:Except Addr Unit×af}(q:put i Q O=some B):B=(.ok (),O.set i Q):=by cases q;rfl
theorem yR{O:af}(h:O[j]? =some (.ns true N))(hm:i=j->∃k,Q= .ns true k):∃k,(O.set i Q)[j]? =some (.ns true k):=by
 by_cases q:i=j
 .subst q;(refine ag (hm rfl) λk bo=>?_;clear hm;subst bo);exact⟨k,by exact rwm _ rfl (List.getElem?_set_self (List.getElem?_eq_some_iff.mp h).1)⟩
 .exact⟨N,by refine a0 (pv q) ?_;exact h⟩
theorem yS{B:Except Addr Unit×af}(q:jn e x v O=some B):∃M,B=(.ok (),M)/\∀(j:Nat)(N:List (Str×V)),O[j]? =some (.ns true N)->∃k,M[j]? =some (.ns true k):=by
 unfold jn at q
 cases hl:e.scope.names.lookup x with
 |none=>rw[hl] at q;exact nso q
 |some d=>
  cases d<;>rw[hl] at q<;>first|exact nso q|skip
  .refine al (dE q) λQ e1 q=>?_;cases Q<;>first|((first|exact nso q|cases q);done)|skip
   exact⟨_,yQ q,λj N h=>yR h λz=>by subst z;rw[e1] at h;cases h;exact⟨_,rfl⟩⟩
  .cases hc:e.cells.lookup x with
   |none=>rw[hc] at q;exact nso q
   |some c=>
    rw[hc] at q;refine al (dE q) λQ e1 q=>?_;cases Q<;>first|((first|exact nso q|cases q);done)|skip
    exact⟨_,yQ q,λj N h=>yR h λz=>by subst z;rw[e1] at h;cases h⟩
theorem uk:∀{H:List (Str×V)}{O:af}{B:Except Addr Unit×af},gS e H O=some B->∃M,B=(.ok (),M)/\∀(j:Nat)(N:List (Str×V)),O[j]? =some (.ns true N)->∃k,M[j]? =some (.ns true k)
 |[],O,B,q=>by cases q;exact⟨O,rfl,λj N h=>⟨N,h⟩⟩
 |(x,v)::H,O,B,q=>by
  (refine a2 (ed q) (λzz=>?_) (λzz=>?_);refine aq zz λu c6 bi=>ac bi λe1 q=>?_;clear bi;rotate_left;refine aq zz λc c6 bi=>ac bi λe1 bo=>?_;clear bi;clear zz;subst bo;rotate_right)
  .refine al (yS e1) λM e2 h1=>?_;cases e2;refine al (uk q) λb e3 h2=>⟨b,e3,λj N h=>by refine ag (h1 j N h) λk hk=>h2 j k hk⟩
  .refine al (yS e1) λM e2 h1=>?_;cases e2
theorem qC:∀{ns:List (Str×NameKind)}{cl:List (Str×Nat)}{O:af}{B:Except Addr (List (Str×Nat))×af},et ns cl O=some B->∃I N,B=(.ok I,O++N)
 |[],cl,O,B,q=>by cases q;exact⟨cl,[],by simp [pm]⟩
 |(x,k)::ns,cl,O,B,q=>by
  by_cases hk:k= .cell
  .subst hk;(refine a2 (ed q) (λzz=>?_) (λzz=>?_);refine aq zz λi c6 bi=>ac bi λe1 q=>?_;clear bi;rotate_left;refine aq zz λc c6 bi=>ac bi λe1 bo=>?_;clear bi;clear zz;subst bo;rotate_right)
   ·(refine ac (okp e1) λD b=>?_;clear e1;cases D;cases b);(refine aq (qC q) λI N cr=>?_;clear zz;subst cr);exact⟨I,_,by rw[List.append_assoc]⟩
   .exact oep e1
  .have e2:et ((x,k)::ns) cl=et ns cl:=by cases k<;>first|rfl|exact absurd rfl hk
   rw[e2] at q;exact qC q
theorem yT{sc:Scope}{cl:List (Str×Nat)}{H:List (Str×V)}{i:Str}{code:Addr}{B:Except Addr AE×af}
  (q:(bm (new (.ns true [])) λlh=>bm (et sc.names cl) λcl=>bm (gS ⟨sc,lh,cl,i,code⟩ H) λ_=>pm (⟨sc,lh,cl,i,code⟩:AE)) O=some B):
  ∃C M,B=(.ok C,M)/\∃k,M[C.lh]? =some (.ns true k):=by
 (refine a2 (ed q) (λzz=>?_) (λzz=>?_);refine aq zz λlh c6 bi=>ac bi λe1 q=>?_;clear bi;rotate_left;refine aq zz λc c6 bi=>ac bi λe1 bo=>?_;clear bi;subst bo;rotate_right)
 ·(refine ac (okp e1) λD b=>?_;clear e1;cases D;cases b);(refine a2 (ed q) (λzz=>?_) (λzz=>?_);refine aq zz λI c7 bi=>ac bi λe2 q=>?_;clear bi;rotate_left;refine aq zz λc c7 bi=>ac bi λe2 bo=>?_;clear bi;subst bo;rotate_right)
  ·(refine bc λno=>aq (qC e2) λd N e3=>no ?_;clear no);cases e3;(refine a2 (ed q) (λzz=>?_) (λzz=>?_);refine aq zz λu cr bi=>ac bi λe4 q=>?_;clear bi;rotate_left;refine aq zz λc cr bi=>ac bi λe4 bo=>?_;clear bi;clear zz;subst bo;rotate_right)
   .refine al (uk e4) λM e5 h=>?_;cases e5;clear zz;cases q;refine ag (h O.length [] (by simp)) λk hk=>⟨_,_,rfl,k,hk⟩
   .refine al (uk e4) λM e5 h=>?_;cases e5
  ·(refine bc λno=>aq (qC e2) λd N e3=>no ?_;clear no);cases e3
 .exact oep e1
theorem yU(G:Gl b1 P b7 mb)(S:aL J b1 n rc)(hR:Rg A l n)(S0:St b1 r g b2 l O s.heap){f code:Addr}{o:Obj}{fd:FuncData}{bd:Addr}{U:List Value}{H:List (Str×V)}{ys:List (Str×Value)}{cl:List (Str×Nat)}
  (ho:s.heap.get? f=some o)(hd:o.data= .func fd)(m:fd.scope.isCoroutine=false)(j:fd.scope.isGenerator=false)(hk:fd.scope.kind= .function)(y:fd.globals=mainGlobals)(E:fd.builtins=builtinsNs)
  (i:fd.code= .ref bd)(t:code≠0->bd=code)(N:s.heap.CodeRec fd.code fd.qualname)(cr:ck b2 cl fd.closure)(u:BindsTo s fd ⟨U,[]⟩ ys)(h1:H.map (·.1)=ys.map (·.1))(h2:LR (VR b1.w g b2) (H.map (·.2)) (ys.map (·.2)))
  {B:Except Addr V×af}(q:dR rc fd.scope fd.qualname code cl H (qB rc fd.body) O=some B):
  codeAny (model J b1.w) A (.call (.ref f) ⟨U,[]⟩) (RQ b1 r l s g b2 B) s:=by
 refine uj (by have:=hR.depth;refine(?_:A.depth<1000);exact wG this) ho hd m j N ?_;refine u _ _ _ _ ?_;refine rwm _ (rwm _ (rwm _ ?_ i) E) y;have e0:dR rc fd.scope fd.qualname code cl H (qB rc fd.body) O=bm (bm (new (.ns true [])) λlh=>bm (et fd.scope.names cl) λcl=>bm (gS ⟨fd.scope,lh,cl,fd.qualname++nm ".<locals>.",code⟩ H) λ_=>pm (⟨fd.scope,lh,cl,fd.qualname++nm ".<locals>.",code⟩:AE))
   (λC=>bm (qB rc fd.body C) λv=>fq O.length v) O:=by
  unfold dR;simp only[du];rfl
 rw[e0] at q;(refine a2 (ed q) (λzz=>?_) (λzz=>?_);refine aq zz λC c6 bi=>ac bi λe1 q=>?_;clear bi;rotate_left;refine aq zz λc c6 bi=>ac bi λe1 bo=>?_;clear bi;subst bo;rotate_right)
 .refine ea (ui t hk cr h1 h2 O _ s g b2 (.refl _) (.refl _) S0 e1) (λenv s' z=>?_) λx s' z=>?_
  ·(refine dm z λc5 bl I e2 p S2 he c2=>?_;clear z);(have D:=oke e2;clear e2;cases D);refine⟨G.nolimit.keeps S2.ground,?_⟩;(refine bc λno=>aq (yT e1) λw b c3=>ac c3 λe3 c1=>ag c1 λk ct=>no ?_;clear c1 c3 no);cases e3;(refine a2 (ed q) (λzz=>?_) (λzz=>?_);refine aq zz λv c7 bi=>ac bi λe4 q=>?_;clear bi;rotate_left;refine aq zz λc c7 bi=>ac bi λe4 bo=>?_;clear bi;clear zz;subst bo;rotate_right)
   .refine oc (yP S hR he c2 S2 ct e4) λrr d z=>?_;rcases rr with x|(_|_|_|x)
    .refine cT z λ_ _ _ _ q1 _=>oee q1
    .exact z
    .exact z
    .exact z
    .exact PQ.left S0.len q (z.up p)
   .refine oc (yP S hR he c2 S2 ct e4) λrr d z=>?_;rcases rr with x|(_|_|_|x)
    .exact z.up p
    .exact z
    .exact z
    .exact z
    .refine dZ z λ_ _ _ q1 _=>eoe q1
  .refine cT z λ_ _ _ _ q1 _=>oee q1
 .refine cS (yT e1) λw b e3 _=>?_;cases e3
end
section
variable {β:Type}
theorem ul{z:List (Str×β)}:(z.lookup n).isSome=true↔n∈z.map (·.1):=by
 induction z with
 |nil=>exact⟨nofun,nofun⟩
 |cons p r ih=>
  refine rwm _ ?_ m1
  by_cases q:n=p.1
  .subst q;rw[beq_self_eq_true];exact⟨λ_=>qn,λ_=>rfl⟩
  .refine rwm _ ?_ (beq_eq_false_iff_ne.mpr q);exact ih.trans ⟨.tail _,λh=>(hy.mp h).resolve_left q⟩
noncomputable def iV(z:List (Str×β))(p:Str×β):List (Str×β):=if(z.lookup p.1).isNone=true then z++[(p.1,p.2)] else z
theorem GY(l:List (Str×β))(z:List (Str×β))(h:∀p∈l,p.1∈z.map (·.1)):l.foldl iV z=z:=by
 induction l with
 |nil=>rfl
 |cons p l ih=>
  rw[List.foldl_cons,iV,if_neg λe=>?_]
  .exact ih λp hp=>h p (.tail _ hp)
  .have h1:=ul.mpr (h p (.head _));rw[Option.isNone_iff_eq_none] at e;rw[e] at h1;exact ftf h1
theorem GZ(l:List (Str×β))(z:List (Str×β))(hn:(l.map (·.1)).Nodup)(h:∀p∈l,p.1∉z.map (·.1)):l.foldl iV z=z++l:=by
 induction l generalizing z with
 |nil=>exact(List.append_nil z).symm
 |cons p l ih=>
  have hn:p.1∉l.map (·.1)/\(l.map (·.1)).Nodup:=ni.mp hn;have h1:(z.lookup p.1).isNone=true:=by
   rw[Option.isNone_iff_eq_none,<-Option.not_isSome_iff_eq_none,ul];exact h p (.head _)
  rw[List.foldl_cons,iV,if_pos h1,ih _ hn.2 λq hq=>?_,List.append_assoc]
  .rfl
  .rw[List.map_append,List.mem_append,not_or];exact⟨h q (.tail _ hq),λe=>hn.1 (by refine rwl _ ?_ ((List.mem_singleton.mp e:q.1=p.1));exact List.mem_map_of_mem hq)⟩
theorem yV{γ:Type}{f g:Str->Option γ}:∀(l:List Str),(∀a∈l,f a=g a)->l.filterMap f=l.filterMap g
 |[],_=>rfl
 |a::l,h=>by exact rwm _ (rwm _ (rwm _ (rwm _ rfl (yV l λb hb=>h b (.tail _ hb))) (h a (.head _))) List.filterMap_cons) List.filterMap_cons
theorem yW:∀(ns:List Str)(ys:List β),ns.Nodup->ys.length=ns.length->ns.filterMap (λn=>((ns.zip ys).lookup n).map λx=>(n,x))=ns.zip ys
 |[],ys,_,_=>by simp
 |n::ns,[],_,h=>by simp at h
 |n::ns,y::ys,hn,h=>by
  rw[List.nodup_cons] at hn;have ih:=yW ns ys hn.2 (by simpa using h);refine rwm _ (rwm _ ?_ (p7 (b:=(n,y)) (by simp))) List.zip_cons_cons
  congr 1
  refine .trans (yV ns λm hm=>?_) ih;have:(m==n)=false:=beq_eq_false_iff_ne.mpr λe=>hn.1 (e▸hm);exact rwm _ (rwm _ rfl this) m1
theorem oL{α:Type}(l:List α)(h:k<=l.length):∃a b,l=a++b/\a.length=k:=⟨l.take k,l.drop k,(List.take_append_drop k l).symm,List.length_take_of_le h⟩
theorem yX{a b:List Str}{x:List β}(h:a.length=x.length):(a++b).zip x=a.zip x:=by
 have q:=List.zip_append (r₁:=b) (r₂:=[]) h;rw[List.append_nil,List.zip_nil_right,List.append_nil] at q;exact q
theorem G0{n1 n2 n3:List Str}{x m c:List β}(hn:((n1++n2)++n3).Nodup)(hx:(n1++n2).length=x.length)(h2:n2.length=m.length)(h3:n3.length=c.length):
  ((n2++n3).zip (m++c)).foldl iV (((n1++n2)++n3).zip x)=((n1++n2)++n3).zip (x++c):=by
 have hk:=r9 (ec hx);have G:=r9 (ec h3);have hd:=List.nodup_append.mp hn;rw[List.zip_append h2,List.foldl_append,yX hx,GY (n2.zip m) _ λp hp=>?_,GZ (n3.zip c) _ (G.symm▸hd.2.1) λp hp hq=>?_,List.zip_append hx]
 .rw[hk] at hq;exact hd.2.2 _ hq _ (G▸List.mem_map_of_mem hp) rfl
 .refine rwm _ ?_ hk;exact List.mem_append_right _ (List.of_mem_zip hp).1
theorem G3{ns:List Str}{U b:List β}(hn:ns.Nodup)(h1:b.length<=ns.length)(h2:U.length<=ns.length)(h3:ns.length<=U.length+b.length):
  ((ns.drop (ns.length - b.length)).zip b).foldl iV (ns.zip U)=ns.zip (U++b.drop (b.length - (ns.length - U.length))):=by
 refine(oL ns h2).elim λp q=>q.elim λn3 q=>(oL p (q.2.symm▸Nat.sub_le_iff_le_add.mpr h3:ns.length - b.length<=p.length)).elim λn1 z=>z.elim λn2 z=>?_;have e1:ns.length=U.length+n3.length:=by exact rwm _ (rwm _ (rwm _ rfl q.2) i6) q.1
 have e2:U.length=(ns.length - b.length)+n2.length:=by exact rwl _ (rwm _ (rwm _ (rwm _ rfl z.2) i6) z.1) q.2
 have e3:b.length=n2.length+n3.length:=by clear q z hn;exact DO h1 e1 e2
 refine(oL b (e3▸iv _ _:n2.length<=b.length)).elim λm y=>y.elim λc y=>?_;have e4:n3.length=c.length:=by rw[y.1,List.length_append,y.2] at e3;exact(Nat.add_left_cancel e3).symm
 have e5:b.length - (ns.length - U.length)=m.length:=by rw[e1,Nat.add_sub_cancel_left,e3,Nat.add_sub_cancel,y.2]
 rw[e5,<-z.2,q.1,z.1,y.1,List.drop_left,List.append_assoc,List.drop_left,<-List.append_assoc];exact G0 (by refine rwl _ (rwl _ ?_ q.1) z.1;exact hn) (by exact rwl _ (rwm _ rfl q.2) z.1) y.2.symm e4
end
section
variable {J:Program}{b1:Cx}{r g b6:ay}{b2 b4:List Addr}{l:List Env}{A:Around}{α β γ δ:Type}{P:bt}{b7 mb:Str->Option Value}{n:Nat}{rc:aG}{e:AE}{env:Env}{O:af}{h b5:Heap}{s:Shared}{K:Frag}
theorem G4{δ:Type}(ys:List (Str×Value))(z:List (Str×Value))(k:List (Str×Value)->Sem δ):
  (do let s<-forIn ys z (λx s=>if(List.lookup x.fst s).isNone=true then pure (ForInStep.yield (s++[(x.fst,x.snd)])) else pure (ForInStep.yield s));k s:Sem δ)=k (ys.foldl iV z):=by
 induction ys generalizing z with
 |nil=>rw[List.forIn_nil,pure_bind];rfl
 |cons p ys ih=>
  rw[List.forIn_cons,List.foldl_cons,iV]
  by_cases h:(List.lookup p.1 z).isNone=true
  .rw[if_pos h,if_pos h,pure_bind];exact ih _
  .rw[if_neg h,if_neg h,pure_bind];exact ih _
theorem yY{v d p:Nat}(bb:v<=p)(c5:p<=v+d):v+(d - (d - (p - v)))=p:=DQ bb c5
theorem yZ{M:Model}{c:Prop}[Decidable c]{a b:Sem α}{Q:α->Shared->Prop}{E:Value->Shared->Prop}(h:¬c)(k:wpAny M A b Q E s):wpAny M A (if c then a else b) Q E s:=by
 refine rwm _ ?_ (hW h);exact k
theorem G5{M:Model}{ys z:List (Str×Value)}{k:List (Str×Value)->Sem α}{Q:α->Shared->Prop}{E:Value->Shared->Prop}(h:wpAny M A (k (ys.foldl iV z)) Q E s):
  wpAny M A (forIn ys z (λx s=>if(List.lookup x.fst s).isNone=true then pure (ForInStep.yield (s++[(x.fst,x.snd)])) else pure (ForInStep.yield s))>>=k) Q E s:=by
 exact(G4 ys z k).symm▸h
theorem G6{ns:List Str}{U:List α}(h2:U.length<=ns.length)(h3:k<=U.length):List.filter (λn=>(List.lookup n (ns.zip U)).isNone) (ns.take k)=[]:=by
 refine(oL ns h2).elim λa q=>q.elim λb q=>(oL a (q.2.symm▸h3:k<=a.length)).elim λc z=>z.elim λd z=>?_;rw[List.filter_eq_nil_iff,q.1,yX q.2];intro m hm e;rw[z.1,List.append_assoc,<-z.2,List.take_left] at hm;rw[Option.isNone_iff_eq_none,<-Option.not_isSome_iff_eq_none,ul,List.map_fst_zip (Nat.le_of_eq q.2)] at e;exact e (z.1▸List.mem_append_left _ hm)
theorem G7{fd:FuncData}{U:List Value}{c:Option (Array Value)}(hp:gg fd.params=true)(hs:∀(M:Model)(A:Around)(E:Value->Shared->Prop)(Q:Option (Array Value)->Shared->Prop),Q c s->wpAny M A (seqItems? fd.defaults) Q E s)
  (h1:(c.getD #[]).toList.length<=fd.params.args.length)(h2:U.length<=fd.params.args.length)(h3:fd.params.args.length<=U.length+(c.getD #[]).toList.length):
  BindsTo s fd ⟨U,[]⟩ ((fd.params.args.map (·.arg)).zip (U++(c.getD #[]).toList.drop ((c.getD #[]).toList.length - (fd.params.args.length - U.length)))):=by
 intro M A E Q hq;simp only[gg,Bool.and_eq_true,List.isEmpty_iff,Option.isNone_iff_eq_none,decide_eq_true_eq] at hp;(refine ac hp λc7 hn=>?_;clear hp;rcases c7 with⟨⟨⟨p1,p2⟩,p3⟩,j⟩);rcases fd with⟨bb,q,ps,f1,f2,u,t,y,C,w,G,B,i⟩;rcases ps with⟨o,d,p,v,L,k,D⟩;have p1:o=[]:=p1;have p2:v=[]:=p2;have p3:p=none:=p3;have j:k=none:=j;subst p1 p2 p3 j;refine ae (m:=seqItems? y) (hs _ _ _ _ ?_);dsimp only at h1 h2 h3 hq hn;generalize (c.getD #[]).toList=b at*;rw[<-List.length_map (f:=λx:Arg=>x.arg)] at h1 h2 h3 hq;refine yZ (λz=>absurd h2 (Nat.not_le_of_gt (hG (Bool.and_eq_true_iff.mp z).1))) ?_;have g2:b.length - (d.map λx:Arg=>x.arg).length=0:=Nat.sub_eq_zero_of_le h1;refine yZ (λz=>?_) ?_
 .have z:(!(List.filter (λn=>(List.lookup n ((d.map λx:Arg=>x.arg).zip U)).isNone) ((d.map λx:Arg=>x.arg).take ((d.map λx:Arg=>x.arg).length - (b.drop (b.length - (d.map λx:Arg=>x.arg).length)).length))).isEmpty)=true:=z;rw[g2,List.drop_zero,(G6 h2 (Nat.sub_le_iff_le_add.mpr h3))] at z;exact ftf z
 refine G5 ?_
 suffices h:Q (((d.map λx:Arg=>x.arg)++[]).filterMap λn=>((List.foldl iV ((d.map λx:Arg=>x.arg).zip U) (((d.map λx:Arg=>x.arg).drop ((d.map λx:Arg=>x.arg).length - (b.drop (b.length - (d.map λx:Arg=>x.arg).length)).length)).zip (b.drop (b.length - (d.map λx:Arg=>x.arg).length)))).lookup n).map λx=>(n,x)) s from ar h
 rw[List.append_nil,g2,List.drop_zero,G3 hn h1 h2 h3,yW _ _ hn (by rw[List.length_append,List.length_drop,yY h2 h3])];exact hq
theorem G8{ps:List Arg}{vs:List V}{b:List T}(h:d8 ps vs b=some H):
  vs.length<=ps.length/\ps.length<=vs.length+b.length/\H=(ps.map (·.arg)).zip (vs++(b.drop (b.length - (ps.length - vs.length))).map .t):=by
 refine ac (eT h) λc h=>?_;cases h;exact⟨c.1,c.2,rfl⟩
theorem LR.drop{α:Type}{R:α->Value->Prop}:∀{vs:List α}{U:List Value}(k:Nat),LR R vs U->LR R (vs.drop k) (U.drop k)
 |[],_,k,h=>by subst h;rw[List.drop_nil,List.drop_nil];rfl
 |v::vs,_,0,h=>h
 |v::vs,_,k+1,h=>by(refine aq h λy r c3=>aw c3 λc2 q z=>?_;clear c3;clear h;subst c2);exact LR.drop k z
theorem LR.len{α:Type}{R:α->Value->Prop}:∀{vs:List α}{U:List Value},LR R vs U->vs.length=U.length
 |[],_,h=>by subst h;rfl
 |v::vs,_,h=>by(refine aq h λy r c3=>aw c3 λc2 q z=>?_;clear c3;clear h;subst c2);simp [LR.len z]
def um(B:Heap)(w:World)(v:Value)(b:List T):Prop:=(v= .none/\b=[])\/∃a o c ep,v= .ref a/\B.get? a=some o/\o.data= .seq c ep/\TRs w B.get? b c.toList
theorem G9{α:Type}{R:α->Value->Prop}{a:List Str}{L:List α}(e:a.length=L.length)(h:LR R L Y):(a.zip L).map (·.1)=(a.zip Y).map (·.1)/\LR R ((a.zip L).map (·.2)) ((a.zip Y).map (·.2)):=by
 have e':=e.trans h.len;refine rwm _ (rwm _ (rwm _ (rwm _ ?_ (List.map_snd_zip (ec e'.symm))) (List.map_snd_zip (ec e.symm))) (r9 (ec e'))) (r9 (ec e));exact⟨rfl,h⟩
theorem qD{fd:FuncData}{b:List T}{H:List (Str×V)}(S:St b1 r g b2 l O s.heap)(hp:gg fd.params=true)(hd:um b1.B b1.w fd.defaults b)(hl:b.length<=fd.params.args.length)
  (hb:d8 fd.params.args vs b=some H)(hv:LR (VR b1.w g b2) vs U):
  ∃ys,BindsTo s fd ⟨U,[]⟩ ys/\H.map (·.1)=ys.map (·.1)/\LR (VR b1.w g b2) (H.map (·.2)) (ys.map (·.2)):=by
 (refine aw (G8 hb) λbb c5 cr=>?_;clear hb;subst cr);have cl:∀(c:Option (Array Value)),(∀(M:Model)(A:Around)(E:Value->Shared->Prop)(Q:Option (Array Value)->Shared->Prop),Q c s->wpAny M A (seqItems? fd.defaults) Q E s)->TRs b1.w g b (c.getD #[]).toList->
   ∃ys,BindsTo s fd ⟨U,[]⟩ ys/\((fd.params.args.map (·.arg)).zip (vs++(b.drop (b.length - (fd.params.args.length - vs.length))).map .t)).map (·.1)=ys.map (·.1)/\
    LR (VR b1.w g b2) (((fd.params.args.map (·.arg)).zip (vs++(b.drop (b.length - (fd.params.args.length - vs.length))).map .t)).map (·.2)) (ys.map (·.2)):=by
  intro c hs hi;have hi:=fj.mp hi;have l1:=hi.len;have l2:=hv.len;refine⟨_,G7 hp hs (l1▸hl) (l2▸bb) (l1▸l2▸c5),?_⟩;refine rwl _ (rwl _ ?_ l2) l1;exact G9 (by rw[List.length_map,List.length_append,List.length_map,List.length_drop,yY bb c5]) (hv.app (LR.mono (G:=VR b1.w g b2) (λv x h=>h) (hi.drop _)))
 (refine a2 hd (λzz=>?_) (λzz=>?_);(try clear hd);refine ac zz λe1 bo=>?_;clear zz;subst bo;rotate_left;(try clear hd);refine bH zz λa o c ep cv=>bK cv λe1 e2 e3 e4=>?_;clear cv;rotate_right)
 .refine cl none (λM A E Q hq=>?_) rfl;refine rwm _ ?_ e1;exact ar hq
 .refine cl (some c) (λM A E Q hq=>?_) (TRs.mono S.baseLe _ _ e4);refine rwm _ ?_ e1;exact wpAny_seqItems (S.ground _ _ e2) e3 hq
end
structure oM (cx:Cx) (a:Addr) (fi:j8) (o:Obj) (fd:FuncData):Prop where
 at_:cx.B.get? a=some o
 data:o.data= .func fd
 st:∃nm' bd d r tp ts b p,fi.st= .FunctionDef nm' fd.params bd d r tp fd.scope ts b p/\fd.body= .stmts bd
 qual:fd.qualname=fi.qual
 clos:fd.closure=[]
 glob:fd.globals=mainGlobals
 bui:fd.builtins=builtinsNs
 sc:gU fd.scope=true
 ps:gg fd.params=true
 code:fd.code= .ref fi.code
 rec_:cx.B.CodeRec fd.code fd.qualname
 dfl:um cx.B cx.w fd.defaults fi.dfl
 len:fi.dfl.length<=fd.params.args.length
section
variable {J:Program}{b1:Cx}{r g b6:ay}{b2 b4:List Addr}{l:List Env}{A:Around}{α β γ δ:Type}{P:bt}{b7 mb:Str->Option Value}{n:Nat}{rc:aG}{e:AE}{env:Env}{O:af}{h b5:Heap}{s:Shared}{K:Frag}
theorem qE{sc:Scope}(h:gU sc=true):sc.kind= .function/\sc.isCoroutine=false/\sc.isGenerator=false:=by
 simp only[gU,Bool.and_eq_true,Bool.not_eq_true',beq_iff_eq] at h;exact⟨h.1.1,h.1.2,h.2⟩
theorem uo(G:Gl b1 P b7 mb)(S:aL J b1 n rc)(hR:Rg A l n)(F:oM b1 a fi o fd)(hv:LR (VR b1.w g b2) be U){B:Except Addr V×af}{s:Shared}
  (S0:St b1 r g b2 l O s.heap)(q:mS rc fi be O=some B):
  codeAny (model J b1.w) A (.call (.ref a) ⟨U,[]⟩) (RQ b1 r l s g b2 B) s:=by
 (refine bc λno=>my F.st λbb v d rr f ts b cs=>ag cs λp c1=>ac c1 λe1 e2=>no ?_;clear c1 cs no);unfold mS at q;rw[e1] at q;refine al (dF q) λH hb q=>cD (qD S0 F.ps F.dfl F.len hb hv) λys h1 h2 h3=>?_;refine bc λno=>aw (qE F.sc) λk1 k2 k3=>no (yU G S hR S0 (cl:=[]) (S0.ground _ _ F.at_) F.data k2 k3 k1 F.glob F.bui F.code (λ_=>rfl) (F.rec_.keeps S0.ground) (by refine a0 F.clos ?_;rfl) h1 h2 h3 ?_);refine rwm _ (rwm _ ?_ F.qual) e2;exact q
set_option tactic.hygienic true in
theorem Ha(G:Gl b1 P b7 mb)(S:aL J b1 n rc)(hR:Rg A l n){k:Nat}{ps:Arguments}{v:Expr}{sc:Scope}{C:Str}{cl:List (Str×Nat)}{a:Addr}{be:List V}{U:List Value}(hv:LR (VR b1.w g b2) be U)
  {B:Except Addr V×af}(S0:St b1 r g b2 l O s.heap)(hk:O[k]? =some (.clo ps v sc C cl))(ha:b2[k]? =some a)
  (q:(if gg ps&&gU sc then bm (om (d8 ps.args be [])) λH=>dR rc sc C 0 cl H (rc.ev v) else λ_=>none:MM V) O=some B):
  codeAny (model J b1.w) A (.call (.ref a) ⟨U,[]⟩) (RQ b1 r l s g b2 B) s:=by
 split at q
 .rename_i hc
  rw[Bool.and_eq_true] at hc;refine al (dF q) λH hb q=>?_;refine bc λno=>hV (S0.own _ _ _ hk ha) λL c u I D cd=>bK cd λho hg N cr=>no (cD (qD (fd:=kla_fn "<lambda>" C ps v sc I L (.ref c) u) S0 hc.1 (.inl ⟨rfl,rfl⟩) (ix _) hb hv) λys h1 h2 h3=>?_);(refine bc λno=>aw (qE hc.2) λk1 k2 k3=>no ?_;clear no);refine cS N λvs t d1 m=>yU G S hR S0 ho rfl k2 k3 k1 rfl rfl rfl (λh=>absurd rfl h) ⟨c,D,vs,t,rfl,S0.fr _ _ hg,d1,m⟩ cr h1 h2 h3 q
 .exact nso q
structure uq (cx:Cx) (P:bt) (mg:Str->Option Value):Prop where
 hd:∀c q,P.tb c=some q->c≠0/\∃p,(c,p,q)∈cx.ts/\CodeHd cx.B c p
 uniq:∀q∈cx.ts,∀q'∈cx.ts,q.2.1=q'.2.1->q.2.2=q'.2.2
 bm:∃b o,mg "__builtins__"=some (.ref b)/\b≠builtinsNs/\b≠mainGlobals/\cx.B.get? b=some o/\o.cls= .type "module"/\o.dict=some builtinsNs/\o.data= .plain
theorem ck.app:∀{a b:List (Str×Nat)}{x y:List (Str×Addr)},ck b2 a x->ck b2 b y->ck b2 (a++b) (x++y)
 |[],b,x,y,h,k=>by subst h;exact k
 |(n,i)::a,b,x,y,⟨ad,N,e,q,z⟩,k=>by subst e;exact⟨ad,_,rfl,q,ck.app z k⟩
noncomputable abbrev gW(e:AE)(p:Str×NameKind):Option (Str×Nat):=(e.cells.lookup p.1).map λc=>(p.1,c)
theorem ur(f:Str×NameKind->List (Str×Addr)->Sem (ForInStep (List (Str×Addr))))(hf:∀B j y,f (B,j) y=if j== .free then(do let a<-cellOf env B;pure (.yield ((B,a)::y))) else pure (.yield y))
  (hc:ck b2 e.cells env.cells):∀(d:List (Str×NameKind))(cl:List (Str×Nat)),((d.filter λp=>p.2== .free).reverse.mapM (gW e))=some cl->
   ∃cx,ck b2 cl cx/\∀be,forIn d be f=pure (cx++be)
 |[],cl,h=>by
  simp at h;subst h;exact⟨[],rfl,λbe=>by refine a0 r6 ?_;rfl⟩
 |(bb,L)::d,cl,h=>by
  by_cases hk:L= .free
  .subst hk;rw[List.filter_cons_of_pos (by rfl),List.reverse_cons,List.mapM_append] at h
   cases h1:((d.filter λp=>p.2== .free).reverse.mapM (gW e)) with
   |none=>rw[h1] at h;simp at h
   |some b=>
    rw[h1] at h
    cases h2:e.cells.lookup bb with
    |none=>simp [gW,h2] at h
    |some c=>
     simp [gW,h2] at h;subst h;refine al (ur f hf hc d b h1) λcx C H=>al (hc.get h2) λa ha w=>⟨cx++[(bb,a)],C.app ⟨a,[],rfl,w,rfl⟩,λbe=>?_⟩;rw[List.forIn_cons,hf];have i:cellOf env bb=pure a:=by unfold cellOf;exact rwm _ rfl ha
     simp only[beq_self_eq_true,if_true,i,pure_bind];rw[H,List.append_assoc];rfl
  .have e1:=beq_eq_false_iff_ne.mpr hk;rw[List.filter_cons_of_neg (by simpa using e1)] at h;refine al (ur f hf hc d cl h) λcx C H=>⟨cx,C,λbe=>?_⟩;rw[List.forIn_cons,hf,e1];simp only[Bool.false_eq_true,if_false,pure_bind];exact H be
theorem y3(hc:ck b2 e.cells env.cells){sc:Scope}(h:((sc.names.filter λp=>p.2== .free).reverse.mapM (gW e))=some cl):∃cx,closureFor sc env=pure cx/\ck b2 cl cx:=by
 refine al (ur (λx y=>do
  if x.2== .free then
   let a<-cellOf env x.1
   pure (.yield ((x.1,a)::y))
  else pure (.yield y)) (λB j y=>by cases b5:j==NameKind.free<;>simp [b5]) hc sc.names cl h) λcx C H=>⟨cx,?_,C⟩
 have:=H [];rw[List.append_nil] at this;refine rwl _ ?_ this;unfold closureFor;simp only[bind_pure]
set_option tactic.hygienic true in
theorem Hb{c4 k:Pos}:∀(l:List Value),TriplesOk l->codeAmong c4 (l++[rawInt k.line,rawInt k.col,c])=some bd->codeAmong c4 l=some bd\/bd=c:=by
 intro l
 fun_induction TriplesOk l with
 |case1=>
  intro _ h;simp only[List.nil_append,codeAmong,rawInt] at h
  split at h
  .cases h;exact .inr rfl
  .exact nso h
 |case2 a t b u x j ih=>
  intro ht h;simp only[List.cons_append,codeAmong] at h⊢
  split at h
  .rename_i hc;refine rwm _ ?_ (eb hc);exact .inl h
  .rename_i hc;refine rwm _ ?_ (hW hc);exact ih ht h
 |case3 l h1 h2=>intro ht;exact ht.elim
theorem St.filed(U:∀q∈b1.ts,∀q'∈b1.ts,q.2.1=q'.2.1->q.2.2=q'.2.2)(S:St b1 r g b2 l O h){c4:Pos}(hm:(c,p,C)∈b1.ts)(hp:h.get? p=some (tabObj ps))(hx:Heap.ExtBut p h b5)(E:h.objs.size<=c')
  (ho:b5.get? c'=some D)(hc:tm D C)(ht:b5.get? p=some (tabObj (ps++ #[rawInt c4.line,rawInt c4.col,.ref c']))):aZ g (upd g c' D)/\St b1 r (upd g c' D) b2 l O b5:=by
 have hn:=pk E;have I:b1.tab p:=⟨_,hm,rfl⟩;have keep:∀b o,¬b1.tab b->h.get? b=some o->b5.get? b=some o:=λb o hb e=>hx b o (λq=>hb (q▸I)) e;have up:=aZ.upd D (S.lt_g hn);have m:p≠c':=λq=>by rw[<-q,hp] at hn;exact sno hn
 refine⟨up,⟨λb o e=>up _ _ (S.base b o e),λb o e=>?_,λb o e=>?_,S.len,λi Q a e1 e2=>?_,λi Q a e1 e2 q=>?_,S.nd,λb o e=>?_,λb o e=>?_,λq hq=>?_,λf he=>?_⟩⟩
 .unfold upd at e
  by_cases q:b=c'
  .clear E m;subst q;rw[if_pos rfl] at e;cases e;exact ho
  .rw[if_neg q] at e;exact keep b o (S.gt b o e) (S.fr b o e)
 .refine al (S.rs b o e) λo' e' q=>⟨o',keep b o' (S.gr b o e).2 e',q⟩
 .cases z:isFz Q with
  |true=>exact((S.own i Q a e1 e2).still z).mono up (.refl _) (.same λ_ e=>e)
  |false=>exact(S.own i Q a e1 e2).mono up (.refl _) (.same λo e=>keep a o (S.free i Q a e1 e2 z).2.2 e)
 .refine bc λno=>aw (S.free i Q a e1 e2 q) λf1 f2 u=>no (⟨?_,f2,u⟩);unfold upd;rw[if_neg (λz=>by
   clear E ho m;subst z;refine ag (OR.there q (S.own i Q _ e1 e2)) λo w=>?_;rw[hn] at w;exact nso w)];exact f1
 .refine ac (S.gr b o e) λf1 f2=>⟨?_,f2⟩;unfold upd;rw[if_neg (λz=>by clear E ho m;subst z;rw[S.lt_r hn] at e;exact nso e)];exact f1
 .unfold upd at e
  by_cases q:b=c'
  .clear E ho m;subst q;exact S.lt_t hn
  .rw[if_neg q] at e;exact S.gt b o e
 .refine cD (S.tabs q hq) λv e G x=>?_
  by_cases z:q.2.1=p
  .rw[z,hp] at e;cases e;refine⟨_,by refine rwm _ ?_ z;exact ht,by refine rwm _ ?_ Array.toList_append;exact TriplesOk_snoc _ _ _ _ G,λk bd t=>?_⟩;rw[Array.toList_append] at t;(refine bc λno=>a2 (Hb _ G t) (λy=>?_) (λy=>?_);refine no ?_;clear no;rotate_left;refine no ?_;clear no;rotate_right)
   .refine b9 (x k bd y) λN j a1 d B=>⟨N,j,a1,up _ _ d,B⟩
   .exact⟨c',D,y,eR _ _ _,by refine rwm _ ?_ (U q hq _ hm z);exact hc⟩
  .exact⟨v,hx _ _ z e,G,λk bd t=>by refine b9 (x k bd t) λN j a1 d B=>⟨N,j,a1,up _ _ d,B⟩⟩
 .refine bc λno=>ac (S.frs f he) λe0 cv=>aq cv λL o' M=>bS M λe1 e2 e3 e4 e5=>no (⟨e0,L,o',e1,keep L o' e5 e2,e3,?_,e5⟩);unfold upd;rw[if_neg (λz=>by clear E ho ht up m no;subst z;rw[hn] at e2;exact nso e2)];exact e4
set_option tactic.hygienic true in
theorem Hc(G:Gl b1 P b7 mb)(k5:uq b1 P b7)(he:ER b1 l g b2 e env)(ps:Arguments)(v:Expr)(sc:Scope)(c4:Pos):
  aa J b1 r l A (RV b1.w) g b2 (eval (.Lambda ps v sc c4) env) (tQ P.tb e ps v sc):=by
 intro O B s bs Y a b S q;have he:=he.mono a b;unfold tQ at q
 split at q
 .rename_i hc
  simp only[Bool.and_eq_true,decide_eq_true_eq,List.isEmpty_iff] at hc;(refine ac hc λc7 f1=>?_;clear hc;rcases c7 with⟨dt,ds⟩);(refine bc λno=>ac (k5.hd _ _ f1) λct bi=>ag bi λp c1=>ac c1 λhm bl=>no ?_;clear c1 bi no)
  cases cr:((sc.names.filter λp=>p.2== .free).reverse.mapM (gW e)) with
  |none=>
   have:(λp:Str×NameKind=>(e.cells.lookup p.1).map λc=>(p.1,c))=gW e:=rfl;simp only[this,cr] at q;exact nso q
  |some cl=>
   have:(λp:Str×NameKind=>(e.cells.lookup p.1).map λc=>(p.1,c))=gW e:=rfl;simp only[this,cr] at q;cases q;refine al (y3 he.cells cr) λcx dV f3=>cD (S.tabs _ hm) λpt hp Q d=>?_;have be:=G.g.keeps S.ground;have I:b1.tab p:=⟨_,hm,rfl⟩;refine jZ k5.bm λc6 ob bb c5 b3 U y z cd=>?_;have k:s.heap.BuiltinsAt b7 p:=⟨c6,ob,bb,c5,b3,λq=>S.gt _ _ (S.base _ _ U) (q▸I),S.ground _ _ U,y,z,cd⟩;have bo:mainGlobals≠p:=λq=>by
    refine dZ G.g λo es ep e _=>S.gt _ _ (S.base _ _ e) (q▸I)
   have i:=he.code ct;have hd:defaultsOf ps env=([],[]):=by
    rcases ps with⟨p1,p2,p3,j,H,m,f⟩;simp only at dt ds;subst dt ds;rfl
   refine kla_eval hd ?_;refine rwm _ ?_ he.qual
   cases M:codeAmong c4 pt.toList with
   |some bd=>
    (refine aq (d c4 bd M) λc' D c3=>aw c3 λc2 w cf=>?_;clear c3;subst c2);refine kla_makeFunctionHit dV he.globals be i (bl.keeps S.ground) hp Q M k λu b5 tk hk cp=>?_;have S1:=S.keep hk;exact⟨bs,Y++[b5.objs.size],_,rfl,⟨⟨_,tk,rfl⟩,.refl _,.app _ _⟩,S1.alloc (cU _) (λ_ _ e=>a3 _ e) rfl
     ⟨_,c',u,cx,D,a6 _ rfl,w,cf,f3.mono (.app _ _)⟩,_,by refine rwl _ ?_ S.len;simp,rfl⟩
   |none=>
    refine kla_makeFunction dV he.globals be i (bl.keeps S.ground) hp Q M bo k λc' u b5 tk hx E C L ht=>?_;(refine bc λno=>bH L λN D vs t cv=>bK cv λe2 ce c9 hv=>no ?_;clear cv L no);cases e2;refine ac (S.filed k5.uniq hm hp hx E ce ⟨vs,t,c9,hv⟩ ht) λup S1=>⟨_,Y++[b5.objs.size],_,rfl,⟨⟨_,tk,rfl⟩,up,.app _ _⟩,S1.alloc (cU _) (λ_ _ e=>a3 _ e) rfl
     ⟨_,c',u,cx,D,a6 _ rfl,eR _ _ _,⟨vs,t,c9,hv⟩,f3.mono (.app _ _)⟩,_,by refine rwl _ ?_ S.len;simp,rfl⟩
 .exact nso q
structure ut (K:Frag) (cx:Cx) (P:bt):Prop where
 X:K.In cx.B
 init:∀C g,P.init C=some g->makesIn K C=true/\findIn K (.ref C) "__init__"=some (some (.ref g))/\typeIn K (.ref g)=some (.type "function")
 fns:∀a fi,P.fns a=some fi->∃o fd,oM cx a fi o fd
theorem y4{f:Nat->MM β}{O:af}{B:Except Addr β×af}(h:bm (new Q) f O=some B):f O.length (O++[Q])=some B:=h
theorem Rg.under(hR:Rm A l (n+1))(C:Addr)(j:List Value):Rg (A.under (.builtin "type.__call__" ⟨.ref C::j,[]⟩)) l n:=
 ⟨hR.handled,hR.frames,by refine(?_:A.depth+1+1+2*n<=998);have:=hR.depth;exact Er this,by refine(?_:A.units+1+3+8*n<=9800);have:=hR.units;exact Es this⟩
theorem St.lone_dead(S:St b1 r g b2 l O h){ob:Obj}(hi:O[i]? =some Q)(hf:isFz Q=false)(ha:b2[i]? =some a)(ho:h.get? a=some ob)(hc:ob.cls≠ .type "frame"):
  St b1 r g b2 l (O.set i .dead) h/\aD b1 r g b2 l (O.set i .dead) a:=by
 refine bc λno=>aw (S.free i Q a hi ha hf) λf1 f2 u=>no (⟨S.fz ha rfl trivial,f1,f2,u,λj f e1 e2=>?_,λe he q=>?_⟩)
 ·(refine bc λno=>a2 (h9 e1) (λzz=>aw zz λ_ y _=>no ?_) (λzz=>ac zz λq e1=>no ?_)<;>clear zz no)
  .subst y;rfl
  .cases z:isFz f with
   |true=>rfl
   |false=>exact absurd (S.nd j i _ _ a e1 hi z hf e2 ha) q
 ·(refine bc λno=>ac (S.frs e he) λ_ M=>aq M λL o' D=>bK D λe1 e2 e3 _=>no ?_;clear D M no);rw[q] at e1;cases e1;rw[ho] at e2;cases e2;exact hc e3
theorem aD.set(L:aD b1 r g b2 l O a)(hf:isFz Q=true):aD b1 r g b2 l (O.set i Q) a:=
 ⟨L.1,L.2.1,L.2.2.1,λj f e1 e2=>by
  (refine bc λno=>a2 (h9 e1) (λzz=>aw zz λ_ y _=>no ?_) (λzz=>ac zz λq e1=>no ?_)<;>clear zz no)
  .subst y;exact hf
  .exact L.2.2.2.1 j f e1 e2,L.2.2.2.2⟩
theorem aD.upd(L:aD b1 r g b2 l O a)(z:a≠b):aD b1 r (Internal.upd g b o) b2 l O a:=
 ⟨by unfold Internal.upd;refine a0 (hW z) ?_;exact L.1,L.2⟩
theorem St.holdL(S:St b1 r g b2 l O h)(L:aD b1 r g b2 l O a)(ho:h.get? a=some o):St b1 r (upd g a o) b2 l O h:=
 S.hold ho L.1 L.2.1 L.2.2.1 (λe he q=>L.2.2.2.2 e he q) L.2.2.2.1
theorem y5:∀{fs:List (Str×V)}{ts:List (Str×T)},qm fs=some ts->fs=ts.map λp=>(p.1,V.t p.2)
 |[],ts,h=>by cases h;rfl
 |(k,.t t)::r,ts,h=>by
  (refine ag (Option.map_eq_some_iff.mp h) λC c1=>ac c1 λe1 bo=>?_;clear c1;subst bo);refine rwm _ ?_ (y5 e1);rfl
 |(k,.own i)::r,ts,h=>by exact nso h
theorem FR.unT:∀{ts:List (Str×T)}{m:Str->Option Value},FR (VR w g b2) (ts.map λp=>(p.1,V.t p.2)) m->FR (TR w g) ts m
 |[],_,_=>trivial
 |(k,t)::ts,m,⟨h1,h2⟩=>⟨h1,FR.unT h2⟩
theorem He(S:St b1 r g b2 l O h){C d i k:Addr}{fs:List (Str×V)}(hd:O[d]? =some (.idt fs))(hi:O[i]? =some (.inst C d)){ad w:Addr}(j:b2[d]? =some ad)(b:b2[i]? =some w){B:Except Addr V×af}(q:qo C d i k fs O=some B):
  ∃v M b6 b4,B=(.ok v,M)/\aZ g b6/\St b1 r b6 b4 l M h/\VR b1.w b6 b4 v (.ref w)/\bu (b2.take k) b4:=by
 refine sQ (S.own _ _ _ hd j) λes ep m ho hn hf hz p cp=>al (S.own _ _ _ hi b) λI u o=>?_;rw[j] at u;cases u;have ct:ad≠w:=λq=>by subst q;rw[ho] at o;cases o
 refine ac (S.lone_dead hd rfl j ho (by simp)) λS1 L1=>?_;have c:d≠i:=λq=>by subst q;rw[j] at b;cases b;exact ct rfl
 have E:(O.set d .dead)[i]? =some (.inst C d):=by refine a0 (pv c) ?_;exact hi
 refine ac (S1.lone_dead E rfl b o (by simp)) λS2 t=>?_;have D:=L1.set (i:=i) (Q:= .dead) rfl;have S3:=S2.holdL D ho;have up1:=aZ.upd (⟨.type "dict",.none,.dict es ep,#[]⟩:Obj) L1.1;have y:aD b1 r (upd g ad ⟨.type "dict",.none,.dict es ep,#[]⟩) b2 l ((O.set d .dead).set i .dead) w:=t.upd (λq=>ct q.symm);have S4:=S3.holdL y o;have z:=aZ.upd (⟨.ref C,some ad,.plain,#[]⟩:Obj) y.1;have up:=up1.trans z;have G:(upd (upd g ad ⟨.type "dict",.none,.dict es ep,#[]⟩) w ⟨.ref C,some ad,.plain,#[]⟩) w=some ⟨.ref C,some ad,.plain,#[]⟩:=eR _ _ _;have H:=z _ _ (eR g ad (⟨.type "dict",.none,.dict es ep,#[]⟩:Obj));unfold qo at q
 cases f:qm fs with
 |some ts=>
  rw[f] at q;cases q;have e:=y5 f;clear hd p cp;subst e;refine cD (S4.trunc k) λb4 S5 h1 h2=>⟨_,_,_,b4,rfl,up,S5,?_,h1⟩;exact⟨w,ad,_,m,rfl,G,H,hn,tj.mpr ((FR.unT hf).mono' (TR.mono up)),λx hx=>hz x (by simpa using hx)⟩
 |none=>
  rw[f] at q;cases q;have S5:St b1 r _ b2 l (((O.set d .dead).set i .dead).set i (.sh C fs)) h:=S4.fz b rfl ⟨ad,_,m,G,H,hn,hf.mono' (VR.mono up (.refl _)),hz⟩;rw[List.set_set] at S5;exact⟨_,_,_,b2,rfl,up,S5,⟨w,b,rfl⟩,λi a e=>(fS e).2⟩
theorem Hf{O:af}{B:Except Addr V×af}(q:xW C d i n f O=some B):∃fs,f= .t .none/\O[d]? =some (.idt fs)/\O[i]? =some (.inst C d)/\qo C d i n fs O=some B:=by
 refine bY q λt q=>xt q λq=>al (dE q) λc hd q=>al (dE q) λb hi q=>?_;cases c<;>first|exact nso q|skip
 cases b<;>first|exact nso q|skip
 refine ac (cL q) λhc q1=>?_;clear q;cases hc.1;clear q;cases hc.2;exact⟨_,rfl,hd,hi,q1⟩
theorem Hg(G:Gl b1 P b7 mb)(k6:ut K b1 P)(d:∃o,b1.B.get? sysModules=some o)(S:aL J b1 n rc)(hR:Rm A l (n+1))(hC:P.init C=some m)(hv:LR (VR b1.w g b2) be U){B:Except Addr V×af}{s:Shared}
  (S0:St b1 r g b2 l O s.heap)(q:tW P rc C m be O=some B):
  codeAny (model J b1.w) A (.call (.ref C) ⟨U,[]⟩) (RQ b1 r l s g b2 B) s:=by
 (refine bc λno=>aw (k6.init C m hC) λk1 k2 k3=>no ?_;clear no);unfold tW at q
 cases i:P.fns m with
 |none=>rw[i] at q;exact nso q
 |some fi=>
 rw[i] at q;dsimp only at q;(refine bc λno=>aq (k6.fns _ _ i) λo fd F=>no ?_;clear no);rcases s with⟨hh,gn,dr,tk,os⟩;have X:=k6.X.keeps S0.ground;refine make_core (makes_of X k1) (looks_findIn X k2) (λself=>bind_fn X self k3) (.inl rfl) ?_;have q:=y4 q;have q:=y4 q;have bb:=S0.len;have z1:(⟨hh,gn,dr,tk,os⟩:Shared).heap=hh:=rfl;rw[z1] at S0;have S1:St b1 r g (b2++[hh.objs.size]) l (O++[.idt []]) (hh.push emptyDict):=S0.alloc (cU _) (λ_ _ e=>a3 _ e) rfl
  ⟨#[],0,λ_=>none,a6 _ rfl,⟨#[],0,rfl,λ_ he=>by simp at he,λ_=>rfl⟩,trivial,λ_ _=>rfl,by simp,by simp⟩
 have cp:(hh.push emptyDict).objs.size=hh.objs.size+1:=Heap.size_push ..;have S2:St b1 r g ((b2++[hh.objs.size])++[hh.objs.size+1]) l ((O++[.idt []])++[.inst C O.length]) ((hh.push emptyDict).push (instObj C hh.objs.size)):=by
  refine rwl _ ?_ cp;exact S1.alloc (cU _) (λ_ _ e=>a3 _ e) rfl ⟨hh.objs.size,by refine rwl _ ?_ bb;simp,a6 _ rfl⟩
 have E:bu b2 ((b2++[hh.objs.size])++[hh.objs.size+1]):=(bu.app _ _).trans (.app _ _);have hid:((b2++[hh.objs.size])++[hh.objs.size+1])[O.length]? =some hh.objs.size:=by refine rwl _ ?_ bb;simp
 have k:((b2++[hh.objs.size])++[hh.objs.size+1])[(O++[MO.idt []]).length]? =some (hh.objs.size+1):=by simp [<-bb]
 have b:LR (VR b1.w g ((b2++[hh.objs.size])++[hh.objs.size+1])) (.own (O++[MO.idt []]).length::be) (.ref (hh.objs.size+1)::U):= .cons ⟨_,k,rfl⟩ (hv.up (.refl _) E);(refine a2 (ed q) (λzz=>?_) (λzz=>?_);refine aq zz λf cr bi=>ac bi λe3 q=>?_;clear bi;rotate_left;refine aq zz λc cr bi=>ac bi λe3 bo=>?_;clear bi;clear zz;subst bo;rotate_right)
 .refine oc (uo G S (Rg.under hR C U) F b S2 e3) λrr s' z=>?_;rcases rr with x|(_|_|_|x)
  .refine cT z λ_ _ _ _ e4 _=>oee e4
  .exact z
  .exact z
  .exact z
  ·(refine ch z λc5 bl H e4 p S3 w=>?_;clear z);(have D:=oke e4;clear e4;cases D);(refine ag (Hf q) λfs c3=>bK c3 λc2 hd hi q1=>?_;clear c3;clear q;subst c2);have hx:=w;refine⟨hx,?_⟩;(refine bH (He S3 hd hi (p.2.2 _ _ hid) (p.2.2 _ _ k) q1) λv M c9 N cd=>bS cd λc2 hg S4 t hr=>?_;clear cd;clear zz q1 q;subst c2);(refine aw p λu p2 p3=>?_;clear p;rcases u with⟨h4,y,rfl⟩);refine⟨c9,N,v,rfl,⟨⟨h4,y,rfl⟩,p2.trans hg,?_⟩,S4,t⟩;intro j a hj;exact hr j a (jy (by refine rwl _ ?_ bb;exact(List.getElem?_eq_some_iff.mp hj).1) (p3 j a (E j a hj)))
 .refine oc (uo G S (Rg.under hR C U) F b S2 e3) λrr s' z=>?_;rcases rr with x|(_|_|_|x)
  ·(refine bc λno=>bH z λc5 bl c' ex cv=>bK cv λe4 p S3 z=>no ?_;clear cv no);(have D:=ere e4;clear e4;cases D);(refine aw p λu p2 p3=>?_;clear p;rcases u with⟨h4,y,rfl⟩);exact⟨c5,bl,_,ex,rfl,⟨⟨h4,y,rfl⟩,p2,E.trans p3⟩,S3,z⟩
  .exact z
  .exact z
  .exact z
  .refine dZ z λ_ _ _ e4 _=>eoe e4
theorem qF{m:MM α}{B:Except Addr α×af}(q:noErr m O=some B):∃a M,m O=some (.ok a,M)/\B=(.ok a,M):=by
 unfold noErr at q
 cases e:m O with
 |none=>rw[e] at q;exact nso q
 |some p=>
  rw[e] at q;clear e;rcases p with⟨a,M⟩
  cases a with
  |error c=>exact nso q
  |ok a=>exact⟨a,M,rfl,(ai q).symm⟩
set_option tactic.hygienic true in
theorem Hh{m:MM Fl}(q:mN m k O=some (.ok fl,M)):(fl= .next/\∃c6,m O=some (.ok .next,c6)/\M=trunc k c6)\/(∃v,fl= .ret v/\m O=some (.ok (.ret v),M)):=by
 unfold mN at q
 cases e:m O with
 |none=>rw[e] at q;exact nso q
 |some p=>
  rw[e] at q;clear e;rcases p with⟨a,c6⟩
  cases a with
  |error c=>exact eop q
  |ok f=>
   cases f with
   |next=>
    refine ac (okp q) λe1 e2=> .inl ⟨e1.symm,c6,rfl,e2.symm⟩
   |ret v=>
    refine ac (okp q) λe1 e2=>?_;clear q;subst e2;exact .inr ⟨v,e1.symm,rfl⟩
theorem y6{R:Rl α β}{t:Sem β}{o:Obj}{s:Shared}{x:α}{Q:β->Shared->Prop}{E:Value->Shared->Prop}(hc:o.cls≠ .type "frame")(S:St b1 r g b2 l O s.heap)(L:aD b1 r g b2 l O a)(ho:s.heap.get? a=some o)
  (h:wpAny (model J b1.w) A t (PQ R b1 (upd r a o) l s g b2 (.ok x,M)) (PE b1 (upd r a o) l s g b2 ((.ok x,M):Except Addr α×af)) s)
  (m:∀y s' b6 b4,bk s g b2 s' b6 b4->St b1 r b6 b4 l M s'.heap->aD b1 r b6 b4 l M a->s'.heap.get? a=some o->R b6 b4 x y->Q y s'):wpAny (model J b1.w) A t Q E s:=by
 refine ea h (λy s' z=>?_) λy s' z=>?_
 ·(refine ch z λb6 b4 w e1 p H hR=>?_;clear z);(have D:=oke e1;clear e1;cases D);refine bc λno=>aw (H.release L.2.1 hc) λS1 L1 h1=>no (m y s' b6 b4 p S1 L1 h1 hR)
 .refine cT z λ_ _ _ _ e1 _=>oee e1
set_option backward.match.sparseCases true in
theorem Hi{o:Obj}{Q:Unit->Shared->Prop}{E:Value->Shared->Prop}(ho:s.heap.get? I=some o)(hc:o.cls= .type H)(ht:H∈il)(hq:Q () s):wpAny (model J b1.w) A (letOwnedTupleGo target (.ref I) v) Q E s:=by
 have j:∀(v:Value),wpAny (model J b1.w) A (do
   let(.ref r,.ref a):=((.ref I:Value),v)|return()
   let o<-load r
   match o.cls,o.data with
   | .type n,.fields vs=>
    if ["enumerate","zip","dict_itemiterator","dict_reverseitemiterator","odict_iterator","itertools.zip_longest","itertools.pairwise"].contains n&&vs[0]? ==some (rawInt a) then
     rule "for.unpacks-the-owned-tuple"
     updateField r 0 .none
   |_,_=>pure ()) Q E s:=by
  intro v
  cases v with
  |ref a=>
   refine ae (qq ho ?_);refine rwm _ ?_ hc;cases hd:o.data<;>dsimp only<;>first|exact ar hq|skip
   have:(["enumerate","zip","dict_itemiterator","dict_reverseitemiterator","odict_iterator","itertools.zip_longest","itertools.pairwise"].contains H)=false:=by
    simp only[il,List.mem_cons,List.not_mem_nil,or_false] at ht;clear hc;rcases ht with rfl|rfl|rfl|rfl|rfl|rfl|rfl<;>decide
   refine rwm _ ?_ this;exact ar hq
  |_=>exact ar hq
 unfold letOwnedTupleGo;cases target<;>first|exact ar hq|exact j v
def y7(rc:aG)(e:AE)(tg:Expr)(j:List Stmt)(k:Nat)(t:T):MM Fl:=noErr (mN (bm (rc.as tg e (.t t)) λ_=>aR rc e j) k)
theorem bk.heap(k:bk s g b2 s' b6 b4)(b5:Heap)(tk:Tok):bk s g b2 {s' with heap:=b5,toks:=tk} b6 b4:=by
 (refine aw k λu a b=>?_;clear k;rcases u with⟨h,t,rfl⟩);exact⟨⟨b5,tk,rfl⟩,a,b⟩
inductive uu (cx:Cx) (r:ay) (l:List Env) (F:T->MM Fl) (xs:List T) (res:Except Addr Fl×af) (s₀:Shared) (g:ay) (ρ:List Addr) (I:Addr) (StW:Nat->Heap->Prop) (m:Nat) (s:Shared):Prop
 |mk (i:Nat) (O':af) (g':ay) (ρ':List Addr) (hm:m=xs.length - i) (hi:i<=xs.length) (q:dC F (xs.drop i) O'=some res) (p:bk s₀ g ρ s g' ρ') (S:St cx r g' ρ' l O' s.heap) (L:aD cx r g' ρ' l O' I) (hw:StW i s.heap):uu cx r l F xs res s₀ g ρ I StW m s
theorem y8(S:aL J b1 n rc)(hR:Rm A l n)(he:ER b1 l g b2 e env){o:Obj}{K:Flow->Shared->Prop}{E:Value->Shared->Prop}(k:o.cls≠ .type "frame")(tu:TR b1.w g u v)(S1:St b1 r g b2 l O s.heap)(D:aD b1 r g b2 l O I)(ho:s.heap.get? I=some o)
  (e4:(bm (rc.as tg e (.t u)) λ_=>aR rc e j) O=some (.ok fl,b))
  (cl:∀f s' c5 bl,bk s g b2 s' c5 bl->St b1 r c5 bl l b s'.heap->aD b1 r c5 bl l b I->s'.heap.get? I=some o->RF b1.w c5 bl fl f->K f s'):
  wpAny (model J b1.w) A (assign tg env v) (λ_ cv=>wpAny (model J b1.w) A (execs j env) K E cv) E s:=by
 refine gV e4 (λC i e5 e4=>?_) λc i e5 z=>oee (pri z).1;refine y6 k S1 D ho (S.as hR he tg (.t u) v tu O _ s g b2 (.refl _) (.refl _) (S1.reserve D ho) e5) λy s' c5 bl p2 S2 t h2 _=>y6 k S2 t h2 (jx S hR j c5 bl (he.mono p2.2.1 p2.2.2) i _ s' c5 bl (.refl _) (.refl _) (S2.reserve t h2) e4) λf d c9 N p3 S3 L3 h3 hf=>cl f d c9 N (p2.trans p3) S3 L3 h3 hf
theorem Hj{c5:ay}{s':Shared}(bb:b2.length=k)(p2:bk L g b2 s' c5 bl)(S2:St b1 r c5 bl l da s'.heap)(t:aD b1 r c5 bl l da I):
  ∃N,bk L g b2 s' c5 N/\St b1 r c5 N l (Internal.trunc k da) s'.heap/\aD b1 r c5 N l (Internal.trunc k da) I:=by
 refine cD (S2.trunc k) λN S3 h1 h2=>⟨N,⟨p2.1,p2.2.1,λj a hj=>h1 j a (jy (by refine rwl _ ?_ bb;exact(List.getElem?_eq_some_iff.mp hj).1) (p2.2.2 j a hj))⟩,S3,t.1,t.2.1,t.2.2.1,λj Q e5 e6=>?_,t.2.2.2.2⟩
 cases z:isFz Q with
 |true=>rfl
 |false=>
  have b:da[j]? =some Q:=by
   unfold Internal.trunc at e5
   split at e5
   .exact(fS e5).2
   .exact e5
  have:=t.2.2.2.1 j Q b (h2 _ _ e6);rw[this] at z;exact tff z
theorem Hk(S:aL J b1 n rc)(hR:Rm A l n)(he:ER b1 l g b2 e env){d6:Nat->Heap->Prop}(it:It J b1 g U I d6){B:Except Addr Fl×af}
  (bb:b2.length=O.length)(m0:Nat)(Y:Shared)(E:uu b1 r l (y7 rc e tg j O.length) U B L g b2 I d6 m0 Y):
   codeAny (model J b1.w) A (.forLoop tg (.ref I) j [] env) (λrr s'=>match rr with| .ok f=>PQ (RF b1.w) b1 r l L g b2 B f s'| .error _=>False) Y:=by
 refine b9 (it.walks A hR.handled) λfp Pn W wP g0=>codeAny_forLoop_any (uu b1 r l (y7 rc e tg j O.length) U B L g b2 I d6) (λm s hI=>?_) m0 E;clear E;rcases hI with⟨i,M,b6,b4,hm,hi,q,p,S0,D,hw⟩
 by_cases C:i<U.length
 .refine W.item i s _ _ C hw λv b5 tk hv d hk=>al (wP i v hv) λu hu tu=>?_;have hx:Heap.ExtBut I s.heap b5:=λb o hb e=>hk b o (by simpa using hb) e;have S1:=S0.extBut D hx;refine b9 (it.kind _ _ d) λo H ho hc c6=>Hi ho hc c6 ?_;rw[List.getElem?_eq_getElem C] at hu;have hu:=ai hu;subst hu;rw[List.drop_eq_getElem_cons C] at q;have k:o.cls≠ .type "frame":=by
   refine rwm _ ?_ hc;intro z;clear hc;cases z;simp [il] at c6
  have p1:=p.heap b5 tk;have Q:∀(s':Shared)(c5:ay)(bl:List Addr)(da:af),St b1 r c5 bl l da s'.heap->aZ b6 c5->s'.heap.get? I=some o->d6 (i+1) s'.heap:=λs' c5 bl da S4 hg hI=>by
   refine W.frame (i+1) b5 s'.heap d λb hb ob e=>?_
   by_cases c3:b=I
   .clear it;subst c3;rw[ho] at e;cases e;exact hI
   .refine ag (g0 b hb c3) λG w=>?_;have h1:=S1.fr _ _ (p.2.1 _ _ w);rw[h1] at e;clear h1;cases e;exact S4.fr _ _ (hg _ _ (p.2.1 _ _ w))
  refine gV q (λfl c7 e1 q=>?_) λc c7 e1 _=>?_;rotate_left
  .refine cS (qF e1) λ_ _ _ z=>eoe (pri z).1
  refine cS (qF e1) λbd cr e2 e3=>ac (pri e3) λe8 e9=>?_;have e8:=oke e8;clear e3;subst e8 e9;have be:=he.mono p.2.1 p.2.2;have y:=TR.mono p.2.1 _ _ tu;(refine a2 (Hh e2) (λzz=>?_) (λzz=>?_);refine ac zz λc2 bi=>?_;clear zz;subst c2;refine ag bi λda c1=>ac c1 λe4 bo=>?_;clear c1;subst bo;rotate_left;refine ag zz λv' c1=>ac c1 λc2 e4=>?_;clear c1;subst c2;rotate_right)
  .refine y8 S hR be k y S1 D ho e4 λf s' c5 bl p2 S2 t h2 hf=>?_;cases f<;>first|exact hf.elim|skip
   refine cD (Hj bb (p1.trans p2) S2 t) λN p3 S3 L3=>⟨U.length - (i+1),wQ hm C,i+1,_,c5,N,rfl,C,q,p3,S3,L3,(Q _ _ _ _ S2 p2.2.1 h2)⟩
  .refine y8 S hR be k y S1 D ho e4 λf s' c5 bl p2 S2 t h2 hf=>?_;cases f<;>first|exact hf.elim|skip
   have q:=ai q;subst q;exact⟨c5,bl,_,rfl,p1.trans p2,S2,hf⟩
 .have bs:=Nat.le_of_not_lt C|>Nat.le_antisymm hi
  clear hm hi C;subst bs;refine W.done s _ _ hw λb5 tk hk=>?_;rw[List.drop_length] at q;have q:=ai q;subst q;have hx:Heap.ExtBut I s.heap b5:=λb o hb e=>hk b o (by simpa using hb) e;exact ar ⟨b6,b4,_,rfl,p.heap b5 tk,S0.extBut D hx,trivial⟩
theorem y9(h:ic it=true)(x:Value):foldedSetIterable it env x=pure x:=by
 cases it<;>first|rfl|(first|exact ftf h|cases h)
theorem Hl(S:aL J b1 n rc)(hR:Rm A l n)(he:ER b1 l g b2 e env)(tg it:Expr)(j i:List Stmt)(c4:Pos):
  aa J b1 r l A (RF b1.w) g b2 (exec (.For tg it j i c4) env) (match i with
  |[]=>if ic it then bm (rc.ev it e) λx=>bm (fr x) λt=>bm (om (d7 t)) λU=>tT rc e tg j U else λ_=>none
  |_::_=>λ_=>none):=by
 cases i with
 |cons a b=>exact aa.none
 |nil=>
  by_cases hs:ic it=true
  .rw[if_pos hs,exec_For];refine aa.standAt (aa.bind (S.ev hR he it) λbs Y v x hg hr hv=>aa.eqT (by rw[y9 hs]) ?_);refine aa.eqT (pure_bind _ _) (aa.standAt (aa.freeze hv λc5 bl t d m ht=>?_));intro O B s c9 N a b S0 q;refine al (dF q) λU de q=>ae (en (yC hR.handled S0 (TR.mono a _ _ ht) de λo d6 k c2 d5 cp=>?_));have hn:=cU s.heap;have S1:St b1 r c9 N l O (s.heap.push o):=S0.keep λ_ _ e=>a3 _ e;have L1:=S0.lone_new hn;refine wpAny_runOwn ?_;have hA:A.mark none=A:=by cases A;rfl
   refine rwm _ ?_ hA;refine oc (Hk S hR (((he.mono hg hr).mono d m).mono a b) d5 S0.len _ {s with heap:=s.heap.push o} ⟨0,O,c9,N,rfl,ix _,by refine rwm _ ?_ List.drop_zero;exact q,⟨⟨s.heap.push o,s.toks,rfl⟩,.refl _,.refl _⟩,S1,L1,cp⟩) λrr s' z=>?_
   cases rr with
   |ok f=>exact z
   |error x=>exact z.elim
  .refine rwm _ ?_ (hW hs);exact aa.none
theorem aa.noErr{R:Rl α β}{t:Sem β}{m:MM α}(h:aa J b1 r l A R g b2 t m):aa J b1 r l A R g b2 t (noErr m):=λO B s bs Y a b S q=>by
 refine cS (qF q) λx c6 e1 e2=>?_;clear q;subst e2;exact h O _ s bs Y a b S e1
theorem zc{γ:Type}{m:MM α}{f:α->MM γ}{B:Except Addr γ×af}(q:bm (noErr m) f O=some B)(hc:B.1= .error c)(hf:∀a c6 B,f a c6=some B->B.1≠ .error c):False:=by
 refine gV q (λa c6 _ e2=>hf a c6 B e2 hc) λc' c6 e1 _=>cS (qF e1) λ_ _ _ z=>eoe (pri z).1
set_option tactic.hygienic true in
theorem zd:∀(k:Nat)(O:af)(B:Except Addr Fl×af),iQ rc e c j k O=some B->∀x,B.1≠ .error x
 |0,O,B,q,x=>nso q
 |k+1,O,B,q,x=>λhx=>by
  refine zc (m:=rc.test c e) q hx λb c6 B q hx=>?_
  cases b with
  |false=>have q:=ai q;subst q;exact oee hx
  |true=>
   refine zc q hx λfl c6 B q hx=>?_
   cases fl with
   |next=>exact zd k c6 B q x hx
   |ret v=>have q:=ai q;subst q;exact oee hx
set_option tactic.hygienic true in
theorem Hm(S:aL J b1 n rc)(hR:Rm A l n)(he:ER b1 l g b2 e env){B:Except Addr Fl×af}(k:Nat)(s:Shared)(M:af)(b6:ay)(b4:List Addr)(q:iQ rc e c j k M=some B)(p:bk L g b2 s b6 b4)(S0:St b1 r b6 b4 l M s.heap):
   codeAny (model J b1.w) A (.whileLoop c j [] env) (λrr s'=>match rr with| .ok f=>PQ (RF b1.w) b1 r l L g b2 B f s'| .error _=>False) s:=by
 have f4:=zd k M B q;refine codeAny_whileLoop (λk s=>∃(M:af)(b6:ay)(b4:List Addr),iQ rc e c j k M=some B/\bk L g b2 s b6 b4/\St b1 r b6 b4 l M s.heap) (λk s hI=>?_) k ⟨M,b6,b4,q,p,S0⟩;clear q p S0;(refine h8 hI λM b6 b4 q p S0=>?_;clear hI);have ke:∀{P:Value->Shared->Prop}{s':Shared}{b6:ay}{b4:List Addr} x d,PE b1 r l s' b6 b4 B x d->P x d:=λx d z=>by
  refine cT z λ_ _ c' _ h _=>absurd h (f4 c')
 cases k with
 |zero=>exact nso q
 |succ k=>
  have be:=he.mono p.2.1 p.2.2;refine aa.run (S.test hR be c).noErr S0 q (λb b' c6 cf bs Y q p1 S1 hb=>?_) ke;have hb:=hb;subst hb
  cases b with
  |false=>
   have q:=ai q;clear f4;subst q;exact ar ⟨bs,Y,_,rfl,p.trans p1,S1,trivial⟩
  |true=>
   show wpAny _ _ (execs j env) _ _ _;refine aa.run (jx S hR j bs Y (be.mono p1.2.1 p1.2.2)).noErr S1 q (λfl f cr cv c5 bl q p2 S2 hf=>?_) ke
   cases fl with
   |next=>
    cases f<;>first|exact hf.elim|skip
    exact⟨k,Nat.lt_succ_self _,cr,c5,bl,q,(p.trans p1).trans p2,S2⟩
   |ret v=>
    cases f<;>first|exact hf.elim|skip
    have q:=ai q;clear f4 ke;subst q;exact⟨c5,bl,_,rfl,(p.trans p1).trans p2,S2,hf⟩
theorem Hn(S:aL J b1 n rc)(hR:Rm A l n)(he:ER b1 l g b2 e env)(c:Expr)(j i:List Stmt)(c4:Pos):
  aa J b1 r l A (RF b1.w) g b2 (exec (.While c j i c4) env) (match i with
  |[]=>iQ rc e c j 80
  |_::_=>λ_=>none):=by
 cases i with
 |cons a b=>exact aa.none
 |nil=>
  intro O B s bs Y a b S0 q;refine wpAny_While (oc (Hm S hR (he.mono a b) 80 s O bs Y q (.refl _ _ _) S0) λrr s' z=>?_)
  cases rr with
  |ok f=>exact z
  |error x=>exact z.elim
theorem ze:∀(ns:List Str)(ts:List T)(vs:List Value)(g:ay)(b2:List Addr),ER b1 l g b2 e env->TRs b1.w g ts vs->
  aa J b1 r l A (RU (α:=Unit) (β:=Unit)) g b2 (assignInOrder (ns.map λn=>bindName env n) vs) (kf e ns ts)
 |[],ts,vs,g,b2,he,ht=>by
  cases ts with
  |nil=>exact aa.pure λ_ _ _ _=>trivial
  |cons a b=>exact aa.none
 |x::ns,ts,vs,g,b2,he,ht=>by
  cases ts with
  |nil=>exact aa.none
  |cons t ts=>
   (refine aq ht λy rr c3=>aw c3 λc2 h1 h2=>?_;clear c3;clear ht;subst c2);show aa J b1 r l A _ g b2 (do holding rr (bindName env x y);assignInOrder (ns.map λn=>bindName env n) rr) (bm (jn e x (.t t)) λ_=>kf e ns ts);exact aa.bind (aa.holding (aa.bindName (ue he x (v:= .t t) h1))) λbs Y _ _ hg hr _=>ze ns ts rr bs Y (he.mono hg hr) (TRs.mono hg _ _ h2)
theorem TRs.rev:∀{ts:List T}{vs:List Value},TRs b1.w g ts vs->TRs b1.w g ts.reverse vs.reverse
 |[],vs,h=>by subst h;rfl
 |t::ts,vs,h=>by
  (refine aq h λy rr c3=>aw c3 λc2 h1 h2=>?_;clear c3;clear h;subst c2);refine rwm _ (rwm _ ?_ List.reverse_cons) List.reverse_cons;exact(TRs.rev h2).app (by exact⟨y,[],rfl,h1,rfl⟩)
theorem qG{γ:Type}{b:Bool}{x:Option (Option γ)}{y:Sem (Option γ)}{o:Option γ}(h:(if b then some none else x)=some o)(k:x=some o->y=pure o):(if b then pure none else y)=(pure o:Sem (Option γ)):=by
 cases b with
 |true=>rw[if_pos rfl] at h⊢;exact fL (P:=λo=>pure none=(pure o:Sem (Option γ))) h rfl
 |false=>rw[if_neg Bool.false_ne_true] at h⊢;exact k h
theorem Ho{γ:Type}{bb b c5 b3 U y:Bool}{n:γ}{u:Sem (Option γ)}{o:Option γ}(hb:b=bb)(h:(if bb then some none else if c5 then some none else if b3 then some none else if U then some none else if y then none else some (some n))=some o):
  (if b then pure none else if c5 then pure none else if b3 then pure none else if U then pure none else if y then u else pure (some n))=(pure o:Sem (Option γ)):=by
 subst hb;refine qG h λh=>qG h λh=>qG h λh=>qG h λh=>ac (mF h) λh5 h=>?_;refine a0 (hW h5) ?_;exact fL (P:=λo=>pure (some n)=(pure o:Sem (Option γ))) h rfl
theorem zf{γ:Type}{t:Sem (Option γ)}{o:Option γ}(h:some none=some o)(e:t=pure none):t=pure o:=by
 have h:=ai h;subst h;exact e
set_option tactic.hygienic true in
set_option backward.match.sparseCases true in
theorem zg(he:ER b1 l g b2 e env)(tg x:Expr)(h:fQ e tg x=some o):swappedStores [tg] x env=pure o:=by
 have h1:=he.scope;have h2:=he.kind;clear he;rcases env with⟨sc,q1,q2,q3,q4,q5,q6,q7,q8⟩;have h1:sc=e.scope:=h1;subst h1;cases tg<;>first|exact zf h rfl|exact nso h|skip
 rename_i ts a b
 cases x<;>first|exact zf h rfl|skip
 rename_i vs c d
 exact Ho (by refine rwm _ ?_ (show Env.blockKind _=ScopeKind.function from by unfold Env.blockKind;refine rwm _ ?_ h2;rfl);exact Bool.or_false _) h
theorem aD.trunc(L:aD b1 r g b2 l O a)(hr:bu bl b2):aD b1 r g bl l (Internal.trunc k O) a:=by
 refine⟨L.1,L.2.1,L.2.2.1,λj Q e5 e6=>?_,L.2.2.2.2⟩;have b:O[j]? =some Q:=by
  unfold Internal.trunc at e5
  split at e5
  .exact(fS e5).2
  .exact e5
 exact L.2.2.2.1 j Q b (hr _ _ e6)
theorem aD.updR(L:aD b1 r g b2 l O a)(z:a≠b):aD b1 (Internal.upd r b o) g b2 l O a:=
 ⟨L.1,by unfold Internal.upd;refine a0 (hW z) ?_;exact L.2.1,L.2.2⟩
theorem aD.unR(L:aD b1 (Internal.upd r b o) g b2 l O a):aD b1 r g b2 l O a:=⟨L.1,(oH L.2.1).2,L.2.2⟩
theorem zh{R:Rl α β}{t:Sem β}{o:Obj}{B:Except Addr α×af}{Q:β->Shared->Prop}{E:Value->Shared->Prop}(hc:o.cls≠ .type "frame")(L:aD b1 r g b2 l O a)
  (h:wpAny (model J b1.w) A t (PQ R b1 (upd r a o) l s g b2 B) (PE b1 (upd r a o) l s g b2 B) s)
  (m:∀x y s' b6 b4,B.1= .ok x->bk s g b2 s' b6 b4->St b1 r b6 b4 l B.2 s'.heap->aD b1 r b6 b4 l B.2 a->s'.heap.get? a=some o->R b6 b4 x y->Q y s')
  (hE:∀c x s' b6 b4,B.1= .error c->bk s g b2 s' b6 b4->St b1 r b6 b4 l B.2 s'.heap->aD b1 r b6 b4 l B.2 a->s'.heap.get? a=some o->df b1 r b6 b4 l B.2 s'.heap c x->E (.ref x) s'):wpAny (model J b1.w) A t Q E s:=by
 refine ea h (λy s' z=>?_) λy s' z=>?_
 ·(refine ch z λb6 b4 w e1 p H hR=>?_;clear z);refine bc λno=>aw (H.release L.2.1 hc) λS1 L1 h1=>no (m w y s' b6 b4 e1 p S1 L1 h1 hR)
 ·(refine bH z λb6 b4 c ex cd=>bS cd λe1 p H bo X=>?_;clear cd;clear z;subst bo);refine bc λno=>aw (H.release L.2.1 hc) λS1 L1 h1=>no (hE c ex s' b6 b4 e1 p S1 L1 h1 X.release)
theorem zi{R:Rl α β}{t:Sem β}{o ob:Obj}{s:Shared}{B:Except Addr α×af}{Q:β->Shared->Prop}{E:Value->Shared->Prop}(z:b≠a)(hc:o.cls≠ .type "frame")(i:ob.cls≠ .type "frame")
  (S:St b1 r g b2 l O s.heap)(L:aD b1 r g b2 l O a)(d:aD b1 r g b2 l O b)(ho:s.heap.get? a=some o)(w:s.heap.get? b=some ob)
  (h:∀r',St b1 r' g b2 l O s.heap->wpAny (model J b1.w) A t (PQ R b1 r' l s g b2 B) (PE b1 r' l s g b2 B) s)
  (m:∀x y s' b6 b4,B.1= .ok x->bk s g b2 s' b6 b4->St b1 r b6 b4 l B.2 s'.heap->aD b1 r b6 b4 l B.2 a->aD b1 r b6 b4 l B.2 b->s'.heap.get? a=some o->s'.heap.get? b=some ob->R b6 b4 x y->Q y s')
  (hE:∀c x s' b6 b4,B.1= .error c->bk s g b2 s' b6 b4->St b1 r b6 b4 l B.2 s'.heap->aD b1 r b6 b4 l B.2 a->aD b1 r b6 b4 l B.2 b->s'.heap.get? a=some o->s'.heap.get? b=some ob->df b1 r b6 b4 l B.2 s'.heap c x->E (.ref x) s'):wpAny (model J b1.w) A t Q E s:=by
 have S1:=S.reserve L ho;have f:aD b1 (upd r a o) g b2 l O b:=d.updR z;refine zh i f (h _ (S1.reserve f w)) (λx y s' b6 b4 e1 p S3 L3 h3 hR=>?_) λc x s' b6 b4 e1 p S3 L3 h3 X=>?_
 .refine bc λno=>aw (S3.release L.2.1 hc) λS4 I h4=>no (m x y s' b6 b4 e1 p S4 I L3.unR h4 h3 hR)
 .refine bc λno=>aw (S3.release L.2.1 hc) λS4 I h4=>no (hE c x s' b6 b4 e1 p S4 I L3.unR h4 h3 X.release)
theorem uv{R:Rl α β}{t:Sem β}{m:MM α}{f:α->MM γ}{o ob:Obj}{s:Shared}{B:Except Addr γ×af}{Q:β->Shared->Prop}{E:Value->Shared->Prop}(z:b≠a)(hc:o.cls≠ .type "frame")(i:ob.cls≠ .type "frame")
  (S:St b1 r g b2 l O s.heap)(L:aD b1 r g b2 l O a)(d:aD b1 r g b2 l O b)(ho:s.heap.get? a=some o)(w:s.heap.get? b=some ob)(h:∀r',aa J b1 r' l A R g b2 t m)(q:bm m f O=some B)
  (k:∀x y c6 s' b6 b4,f x c6=some B->bk s g b2 s' b6 b4->St b1 r b6 b4 l c6 s'.heap->aD b1 r b6 b4 l c6 a->aD b1 r b6 b4 l c6 b->s'.heap.get? a=some o->s'.heap.get? b=some ob->R b6 b4 x y->Q y s')
  (ke:∀c x s' b6 b4,B.1= .error c->bk s g b2 s' b6 b4->St b1 r b6 b4 l B.2 s'.heap->df b1 r b6 b4 l B.2 s'.heap c x->E (.ref x) s'):wpAny (model J b1.w) A t Q E s:=by
 refine gV q (λx c6 e1 e2=>?_) λc c6 e1 e2=>?_<;>refine zi z hc i S L d ho w (λr' H=>h r' O _ s g b2 (.refl _) (.refl _) H e1) (λx y s' b6 b4 e3 p H u d h1 h2 hR=>?_) λc x s' b6 b4 e3 p H u d h1 h2 X=>?_
 .have e3:=oke e3;subst e3;exact k _ y c6 s' b6 b4 e2 p H u d h1 h2 hR
 .exact oee e3
 .exact eoe e3
 .have e3:=ere e3;subst e3 e2;exact ke _ x s' b6 b4 rfl p H X
theorem zj:∀(bi:List Expr),(forIn bi false λc r=>if r=true then do let L<-isTrue c env (eval c env);pure (ForInStep.yield L) else pure (ForInStep.yield r):Sem Bool)=pure false
 |[]=>by exact rwm _ rfl r6
 |a::bi=>by
  rw[List.forIn_cons,if_neg (by decide),pure_bind];exact zj bi
theorem zk(S:aL J b1 n rc)(hR:Rm A l n):∀(bi:List Expr)(g:ay)(b2:List Addr),ER b1 l g b2 e env->
  aa J b1 r l A RB g b2 (forIn bi true λc r=>if r=true then do let L<-isTrue c env (eval c env);pure (ForInStep.yield L) else pure (ForInStep.yield r)) (oy rc e bi)
 |[],g,b2,he=>by refine rwm _ ?_ r6;exact aa.pure λ_ _ _ _=>rfl
 |a::bi,g,b2,he=>by
  rw[List.forIn_cons,if_pos rfl];refine aa.eqT (bind_assoc _ _ _) (aa.bind (S.test hR he a) λbs Y b b' hg hr hb=>?_);have hb:=hb;subst hb;refine aa.eqT (pure_bind _ _) ?_
  cases b with
  |true=>exact zk S hR bi bs Y (he.mono hg hr)
  |false=>
   exact aa.eqT (zj bi) (aa.pure λ_ _ _ _=>rfl)
end
section
variable {J:Program}{b1:Cx}{r g b6:ay}{b2 b4:List Addr}{l:List Env}{A:Around}{α β γ δ:Type}{P:bt}{b7 mb:Str->Option Value}{n:Nat}{rc:aG}{e ce:AE}{env bd:Env}{O:af}{h b5:Heap}{s:Shared}{K:Frag}
noncomputable abbrev dG(ys:Array Value)(ep:Nat):Obj:=⟨.type "list",.none,.seq ys ep,#[]⟩
def uw(b1:Cx)(r:ay)(l:List Env)(L:Shared)(g:ay)(b2:List Addr)(D:Addr)(y:Except Addr (List T)×af)(rr:Result)(s':Shared):Prop:=match rr with
 | .ok _=>∃b6 b4 be ys ep,y.1= .ok be/\bk L g b2 s' b6 b4/\St b1 r b6 b4 l y.2 s'.heap/\aD b1 r b6 b4 l y.2 D/\s'.heap.get? D=some (dG ys ep)/\TRs b1.w b6 be ys.toList
 | .error x=>∃b6 b4 c ex,y.1= .error c/\x= .ref ex/\bk L g b2 s' b6 b4/\St b1 r b6 b4 l y.2 s'.heap/\XN b1 r b6 b4 l y.2 s'.heap c ex
theorem Hp(hR:Rm A l n)(he:ER b1 l g b2 e env){b6:ay}{y:Except Addr (List T)×af}(p:bk L g b2 s b6 b4)(hc:y.1= .error c)(S:St b1 r b6 b4 l y.2 s.heap)(X:df b1 r b6 b4 l y.2 s.heap c ex):
  notedBy (model J b1.w) A env (λx s'=>uw b1 r l L g b2 D y (.error x) s') (.ref ex) s:=by
 refine al he.frame λe' be d=>?_;refine bc λno=>ac (S.frs e' be) λ_ c3=>aq c3 λf _ bi=>ac bi λhf _=>no (ug hR.frames (d▸hf) he.frame S X λb5 H I=>⟨b6,b4,c,ex,hc,rfl,p.heap b5 s.toks,H,I⟩)
theorem Hq{f:T->MM (Option T)}{U be:List T}:bZ f (t::U) be=bm (f t) λx=>match x with
  |some y=>if aJ be.length then bZ f U (be++[y]) else λ_=>none
  |none=>bZ f U be:=rfl
inductive ux (cx:Cx) (r:ay) (l:List Env) (F:T->MM (Option T)) (xs:List T) (cr:Except Addr (List T)×af) (s₀:Shared) (g:ay) (ρ:List Addr) (I D:Addr) (StW:Nat->Heap->Prop) (m:Nat) (s:Shared):Prop
 |mk (i:Nat) (acc:List T) (O':af) (g':ay) (ρ':List Addr) (ys:Array Value) (ep:Nat) (hm:m=xs.length - i) (hi:i<=xs.length) (q:bZ F (xs.drop i) acc O'=some cr) (p:bk s₀ g ρ s g' ρ')
   (S:St cx r g' ρ' l O' s.heap) (LI:aD cx r g' ρ' l O' I) (LD:aD cx r g' ρ' l O' D) (hD:s.heap.get? D=some (dG ys ep)) (ha:TRs cx.w g' acc ys.toList) (hw:StW i s.heap):ux cx r l F xs cr s₀ g ρ I D StW m s
theorem Hr(S:aL J b1 n rc)(hR:Rm A l n)(he:ER b1 l g b2 ce bd){o:Obj}{ys:Array Value}{y:Except Addr (List T)×af}{E:Value->Shared->Prop}{G:Shared->Prop}(ct:D≠I)(k:o.cls≠ .type "frame")
  (tu:TR b1.w g u v)(S0:St b1 r g b2 l O s.heap)(LI:aD b1 r g b2 l O I)(LD:aD b1 r g b2 l O D)(hI:s.heap.get? I=some o)(hD:s.heap.get? D=some (dG ys ep))(d3:TRs b1.w g be ys.toList)
  (q:bZ (dD rc ce Q (.Name x px) bi) (u::U) be O=some y)
  (kG:∀be M s' b6 b4 ys ep,bZ (dD rc ce Q (.Name x px) bi) U be M=some y->bk s g b2 s' b6 b4->St b1 r b6 b4 l M s'.heap->aD b1 r b6 b4 l M I->aD b1 r b6 b4 l M D->s'.heap.get? I=some o->s'.heap.get? D=some (dG ys ep)->TRs b1.w b6 be ys.toList->G s')
  (ke:∀c x s' b6 b4,y.1= .error c->bk s g b2 s' b6 b4->St b1 r b6 b4 l y.2 s'.heap->df b1 r b6 b4 l y.2 s'.heap c x->E (.ref x) s'):
  wpAny (model J b1.w) A (assign (.Name x px) bd v) (λ_ cv=>wpAny (model J b1.w) A (forIn bi true λc r=>if r=true then do let L<-PySem.isTrue c bd (eval c bd);pure (ForInStep.yield L) else pure (ForInStep.yield r))
   (λL m=>if L=true then wpAny (model J b1.w) A (eval Q bd) (λz d=>wpAny (model J b1.w) A (call (.builtin "list.append") [.ref D,z]) (λ_ d5=>G d5) E d) E m else G m) E cv) E s:=by
 have Y:(dG ys ep).cls≠ .type "frame":=by simp
 rw[Hq] at q;unfold dD at q;rw[du] at q;refine uv ct k Y S0 LI LD hI hD (λr'=>S.as hR he (.Name x px) (.t u) v tu) q (λ_ _ c6 cv c5 bl q p2 S2 dd d2 d9 cs _=>?_) ke;clear S0 LI LD hI hD tu;rw[du] at q;refine uv ct k Y S2 dd d2 d9 cs (λr'=>zk S hR bi c5 bl (he.mono p2.2.1 p2.2.2)) q (λb L c7 m c9 N q p3 S3 bs cd bo c1 hb=>?_) λc x s' b6 b4 e p=>ke c x s' b6 b4 e (p2.trans p);clear S2 dd d2 d9 cs;have f:=p2.trans p3;clear p2 p3;have hb:=hb;subst hb
 cases b with
 |false=>refine rwm _ ?_ (hW Bool.false_ne_true);exact kG be c7 m c9 N ys ep q f S3 bs cd bo c1 (TRs.mono f.2.1 _ _ d3)
 |true=>
  refine rwm _ ?_ (eb rfl);have q:bm (bm (rc.ev Q ce) λv=>bm (fr v) λu=>pm (some u)) _ c7=some y:=q;rw[du] at q;refine uv ct k Y S3 bs cd bo c1 (λr'=>S.ev hR (he.mono f.2.1 f.2.2) Q) q (λw z cr d c2 bb q j S4 da cl ds dr hz=>?_) λc x s' b6 b4 e p=>ke c x s' b6 b4 e (f.trans p);clear S3 bs cd bo c1;have de:=f.trans j;clear f j;rw[du] at q;have S6:=(S4.reserve da ds).reserve (cl.updR ct) dr;refine gV q (λt i C q=>?_) λc i C _=>?_
  .refine ch (mU 4 w z c2 cr _ S6 hz C) λt' g1 f2 fi dn S7 ht=>ac (pri fi) λe1 e2=>?_;have e1:=oke e1;subst e1 e2;(refine bc λno=>aw (S7.release (cl.updR ct).2.1 Y) λS8 d6 dt=>no ?_;clear no);(refine bc λno=>aw (S8.release da.2.1 k) λS9 dV di=>no ?_;clear no);clear S6 S7 S8 S4 C fi;refine ac (cL q) λhf q=>wpAny_list_append_plain (hsz:=by refine rwl _ ?_ (d3.len.trans (ej (xs:=ys)));exact hG hf) (⟨ep,dt⟩:d.heap.PlainList D ys) λB c4 c3=>?_;(refine ag c4 λcf cx=>?_;clear c4);have H:bk s g b2 {d with heap:=B} f2 bb:=by
    have:=de.heap B d.toks;exact⟨this.1,this.2.1.trans dn,this.2.2⟩
   refine kG _ _ {d with heap:=B} f2 bb (ys.push z) cf q H (S9.extBut d6.unR c3.extBut) dV d6.unR (c3.extBut _ _ ct.symm di) cx ?_;refine rwm _ ?_ Array.toList_push;exact(TRs.mono H.2.1 _ _ d3).app ⟨z,[],rfl,ht,rfl⟩
  .refine dZ (mU 4 w z c2 cr _ S6 hz C) λt' g1 f2 fi _=>eoe (pri fi).1
theorem Hs(S:aL J b1 n rc)(hR:Rm A l n)(he:ER b1 l g b2 ce bd){d6:Nat->Heap->Prop}(it:It J b1 g U I d6)
  {y:Except Addr (List T)×af}(ct:D≠I)(m0:Nat)(f:Shared)(E:ux b1 r l (dD rc ce Q (.Name x px) bi) U y L g b2 I D d6 m0 f):
   codeAny (model J b1.w) A (.compLoop (.ListComp Q [⟨.Name x px,iter,bi,0⟩] sc c4) 0 (.ref I) (.ref D) bd) (uw b1 r l L g b2 D y) f:=by
 refine b9 (it.walks A hR.handled) λfp Pn W wP g0=>codeAny_compLoop_tests (ux b1 r l (dD rc ce Q (.Name x px) bi) U y L g b2 I D d6) (λm s hI=>?_) m0 E;clear E;rcases hI with⟨i,be,M,b6,b4,ys,ep,hm,hi,q,p,S0,LI,LD,hD,d3,hw⟩
 by_cases C:i<U.length
 .refine W.item i s _ _ C hw λv b5 tk hv d hk=>al (wP i v hv) λu hu tu=>?_;have hx:Heap.ExtBut I s.heap b5:=λb o hb e=>hk b o (by simpa using hb) e;refine b9 (it.kind _ _ d) λo H ho hc c6=>?_;rw[List.getElem?_eq_getElem C] at hu;have hu:=ai hu;subst hu;rw[List.drop_eq_getElem_cons C] at q;have k:o.cls≠ .type "frame":=by
   refine rwm _ ?_ hc;intro z;clear hc;cases z;simp [il] at c6
  have p1:=p.heap b5 tk;have S1:=S0.extBut LI hx;refine Hr S hR (he.mono p.2.1 p.2.2) ct k (TR.mono p.2.1 _ _ tu) S1 LI LD ho (hx _ _ ct hD) d3 q (λbe M s' c5 bl ys ep q p2 S4 LI LD hI hD ha=>?_) λc x s' b6 b4 e p2 S2 X2=>Hp hR he (p1.trans p2) e S2 X2;refine⟨U.length - (i+1),wQ hm C,i+1,be,M,c5,bl,ys,ep,rfl,C,q,p1.trans p2,S4,LI,LD,hD,ha,W.frame (i+1) b5 s'.heap d λb hb ob e=>?_⟩
  by_cases c3:b=I
  .clear it;subst c3;rw[ho] at e;cases e;exact hI
  .refine ag (g0 b hb c3) λG w=>?_;have h1:=S1.fr _ _ (p.2.1 _ _ w);rw[h1] at e;clear h1;cases e;exact S4.fr _ _ (p2.2.1 _ _ (p.2.1 _ _ w))
 .have bs:=Nat.le_of_not_lt C|>Nat.le_antisymm hi
  clear hm hi C;subst bs;refine W.done s _ _ hw λb5 tk hk=>?_;rw[List.drop_length] at q;have q:=ai q;subst q;have hx:Heap.ExtBut I s.heap b5:=λb o hb e=>hk b o (by simpa using hb) e;exact⟨b6,b4,be,ys,ep,rfl,p.heap b5 tk,S0.extBut LI hx,LD,hx _ _ ct hD,d3⟩
set_option tactic.hygienic true in
theorem Ht{sc:Scope}(he:ER b1 l g b2 e env)(f5:kc sc=true)(h:eV e sc lh=some ce):
  ce.scope=relabel sc env/\ce.lh=lh/\ce.qual=e.qual/\ce.code=e.code/\ce.scope.kind= .function/\(∀y∈sc.names,(y.2==NameKind.cell)=false)/\∃cx,closureFor sc env=pure cx/\ck b2 ce.cells cx:=by
 unfold eV at h
 split at h
 .exact nso h
 .rename_i di
  have:(λp:Str×NameKind=>(e.cells.lookup p.1).map λc=>(p.1,c))=gW e:=rfl
  cases cr:((sc.names.filter λp=>p.2== .free).reverse.mapM (gW e)) with
  |none=>simp only[this,cr] at h;exact nso h
  |some cl=>
   simp only[this,cr] at h;cases h;refine al (y3 he.cells cr) λcx h1 h2=>?_;simp only[kc,Bool.and_eq_true,beq_iff_eq] at f5;refine⟨?_,rfl,rfl,rfl,f5.1,λy L=>?_,cx,h1,h2⟩
   .unfold relabel Env.kindOf;exact rwm _ rfl he.scope
   .cases q:y.2==NameKind.cell with
    |false=>rfl
    |true=>exact absurd (List.any_eq_true.mpr ⟨y,L,q⟩) di
theorem Hu{sc:Scope}{cx:List (Str×Addr)}{globals:Addr}{i:Str}{Q:Env->Shared->Prop}{E:Value->Shared->Prop}(di:∀y∈sc.names,(y.2==NameKind.cell)=false)
  (m:Q {scope:=sc,locals:=s.heap.objs.size,globals:=globals,cells:=cx,qual:=i,func:=none,code:=env.code,frame:=env.frame,builtins:=env.builtins} {s with heap:=s.heap.push {cls:= .type "dict",data:= .dict #[]}}):
  wpAny (model J b1.w) A (newFunctionEnv sc globals cx [] i none .none (some env)) Q E s:=by
 simp only[newFunctionEnv,Option.isSome_some,if_true];refine ae (wpAny_alloc ?_);rw[forIn_yield_id cx (λx hx c=>by
  rcases x with⟨bb,L⟩;have:=di _ hx;simp only at this;simp only[this,Bool.false_eq_true,if_false])]
 refine ae (ar ?_);simp only[List.forIn_nil];exact ae (ar (ar m))
theorem Hv{Y:List Addr}(he:ER b1 l g b2 e env)(hr:bu b2 Y)(h1:ce.scope=relabel sc env)(h2:ce.lh=lh)(h3:ce.qual=e.qual)(h4:ce.code=e.code)(h5:ce.scope.kind= .function)(G:ck b2 ce.cells cx)(M:Y[lh]? =some L):
  ER b1 l g Y ce {scope:=relabel sc env,locals:=L,globals:=env.globals,cells:=cx,qual:=env.qual,func:=none,code:=env.code,frame:=env.frame,builtins:=env.builtins}:=
 ⟨h1.symm,h5,by refine rwm _ ?_ h2;exact M,he.globals,G.mono hr,by refine rwm _ ?_ h3;exact he.qual,by refine rwm _ ?_ h4;exact he.code,he.builtins,he.frame⟩
theorem zl(S:St b1 r g b2 l O h)(ct:O[lh]? =some (.ns false N))(hC:b2[lh]? =some C):
  ∃oC m,h.get? C=some oC/\oC.cls≠ .type "frame"/\h.Ns C m/\St b1 r g b2 l (O.set lh .dead) h/\aD b1 r g b2 l (O.set lh .dead) C:=by
 refine hZ (S.own _ _ _ ct hC) λo m ho hn _ _ _ cr=>?_;have hc:o.cls≠ .type "frame":=by refine rwm _ ?_ cr;simp
 refine ac (S.lone_dead ct rfl hC ho hc) λS1 L1=>⟨o,m,ho,hc,xd.mpr ⟨o,ho,hn⟩,S1,L1⟩
set_option tactic.hygienic true in
theorem Hw(h:eV e sc 0=some ce):eV e sc lh=some {ce with lh:=lh}:=by
 unfold eV at h⊢
 split at h
 .exact nso h
 .rename_i hc
  refine a0 (hW hc) ?_;have:(λp:Str×NameKind=>(e.cells.lookup p.1).map λc=>(p.1,c))=gW e:=rfl
  cases cr:((sc.names.filter λp=>p.2== .free).reverse.mapM (gW e)) with
  |none=>simp only[this,cr] at h;exact nso h
  |some cl=>
   simp only[this,cr] at h⊢;cases h;rfl
theorem aD.alloc(hl:b2.length=O.length)(L:aD b1 r g b2 l O a)(b:a≠c):aD b1 r g (b2++[c]) l (O++[Q]) a:=by
 refine⟨L.1,L.2.1,L.2.2.1,λj f e1 e2=>?_,L.2.2.2.2⟩;(refine a2 (dB e2) (λe2=>?_) (λzz=>?_);rotate_left;refine ac zz λc2 bo=>?_;clear zz;subst c2;subst bo;rotate_right)
 ·(refine a2 (dB e1) (λe1=>?_) (λzz=>?_);rotate_left;refine ac zz λc2 bo=>?_;clear zz;subst c2;subst bo;rotate_right)
  .exact L.2.2.2.1 j f e1 e2
  .have:=(List.getElem?_eq_some_iff.mp e2).1;rw[hl] at this;exact absurd this (ka _)
 .exact absurd rfl b
theorem XN.ext(X:XN b1 r g b2 l O h C ex)(Y:∀b,aD b1 r g b2 l O b->aD b1 r g b2 l M b)(hx:Heap.ExtBut a h b5)(ha:∀b,aD b1 r g b2 l O b->b≠a):XN b1 r g b2 l M b5 C ex:=by
 refine bc λno=>aq X λo vs c=>db c λh1 h2 h3 h4 L d=>a9 d λt i vt cd=>db cd λk1 k2 k3 k4 k5 k6=>no (⟨o,vs,hx _ _ (ha _ L) h1,h2,h3,h4,Y _ L,t,i,vt,k1,hx _ _ (ha _ k6.1) k2,k3,k4,k5,Y _ k6.1,k6.2⟩)
set_option tactic.hygienic true in
theorem Hx{α:Type}{x:Option MO}{y:Option α}{z:α}(q:oz x y=some z):∃N,x=some (.ns false N)/\y=some z:=by
 cases x with
 |none=>exact nso q
 |some Q=>
  cases Q<;>first|exact nso q|skip
  rename_i b N
  cases b
  .exact⟨_,rfl,q⟩
  .exact nso q
theorem Hy{d2:Except Addr V×af}(dn:eV e sc O.length=some ce)(q:ju rc e Q tg bi sc U O=some d2):
  ∃rr cr N,bZ (dD rc ce Q tg bi) U [] (O++[.ns false []])=some (rr,cr)/\cr[O.length]? =some (.ns false N)/\(match rr with
    | .ok be=>d2=(.ok (.own (trunc O.length (cr.set O.length .dead)).length),trunc O.length (cr.set O.length .dead)++[.list be])
    | .error c=>d2=(.error c,cr.set O.length .dead)):=by
 have q:(match eV e sc O.length with
   |some ce=>λc6=>mP O.length O.length (bZ (dD rc ce Q tg bi) U [] c6)
   |none=>λ_=>none:MM V) (O++[.ns false []])=some d2:=q
 rw[dn] at q;have q:mP O.length O.length (bZ (dD rc ce Q tg bi) U [] (O++[.ns false []]))=some d2:=q
 cases b:bZ (dD rc ce Q tg bi) U [] (O++[.ns false []]) with
 |none=>rw[b] at q;exact nso q
 |some p=>
  rw[b] at q;clear b;rcases p with⟨rr,c7⟩;refine al (Hx (show oz c7[O.length]? (tP O.length O.length rr c7)=some d2 from q)) λN ct q=>⟨rr,c7,N,rfl,ct,?_⟩
  cases rr with
  |ok be=>exact(ai q).symm
  |error c=>exact(ai q).symm
abbrev Hz(d2:Except Addr V×af)(k:Nat)(rr:Except Addr (List T))(cr:af):Prop:=match rr with
 | .ok be=>d2=(.ok (.own (trunc k (cr.set k .dead)).length),trunc k (cr.set k .dead)++[.list be])
 | .error c=>d2=(.error c,cr.set k .dead)
theorem HA(S:aL J b1 n rc)(hR:Rm A l n){d6:Nat->Heap->Prop}(d5:It J b1 g U I d6)(dn:eV e sc O.length=some ce)(g5:ER b1 l g b2 ce bd)(g2:D≠I)
  (S5:St b1 r g b2 l (O++[.ns false []]) s.heap)(LI:aD b1 r g b2 l (O++[.ns false []]) I)(LD:aD b1 r g b2 l (O++[.ns false []]) D)(hD:s.heap.get? D=some (dG #[] 0))(cp:d6 0 s.heap){d2:Except Addr V×af}(q:ju rc e Q (.Name x px) bi sc U O=some d2):
  ∃rr cr N,codeAny (model J b1.w) A (.compStart (.ListComp Q [⟨.Name x px,it,bi,0⟩] sc c4) 0 (.ref I) (.ref D) bd) (uw b1 r l s g b2 D (rr,cr)) s/\cr[O.length]? =some (.ns false N)/\Hz d2 O.length rr cr:=by
 refine h8 (Hy dn q) λrr cr N k1 k2 k3=>b9 (d5.walks A hR.handled) λfp Pn W wP g0=>?_;have b:=Hs S hR g5 (iter:=it) (sc:=sc) (c4:=c4) d5 g2 _ s ⟨0,[],_,g,b2,#[],0,rfl,ix _,by refine rwm _ ?_ List.drop_zero;exact k1,.refl _ _ _,S5,LI,LD,hD,rfl,cp⟩;exact⟨rr,cr,N,codeAny_compStart_list b (W.self 0 _ _ _ cp b),k2,k3⟩
theorem HB{s':Shared}{ys:Array Value}(S6:St b1 r g b2 l O s'.heap)(ga:aD b1 r g b2 l O D)(gd:s'.heap.get? D=some (dG ys ep))(d3:TRs b1.w g be ys.toList)(ct:O[k]? =some (.ns false N))(hC:b2[k]? =some C)(fn:C≠D):
  ∃(oC:Obj)(m:Str->Option Value)(b4:List Addr),s'.heap.get? C=some oC/\oC.cls≠ .type "frame"/\s'.heap.Ns C m/\St b1 r g (b4++[D]) l (trunc k (O.set k .dead)++[.list be]) s'.heap/\aD b1 r g (b4++[D]) l (trunc k (O.set k .dead)++[.list be]) C/\(∀(j:Nat)(ad:Addr),(b2.take k)[j]? =some ad->(b4++[D])[j]? =some ad)/\b4.length=(trunc k (O.set k .dead)).length:=by
 refine ls (zl S6 ct hC) λoC m fs fk d9 S7 d=>?_;refine cD (S7.trunc k) λp S8 t1 I=>⟨oC,m,p,fs,fk,d9,S8.adopt ((ga.set (i:=k) (Q:= .dead) rfl).trunc I) rfl ⟨ys,ep,gd,d3⟩,(d.trunc I).alloc S8.len fn,λj ad h=>bu.app p [D] _ _ (t1 _ _ h),S8.len⟩
theorem HC{s s':Shared}{bs:ay}(S6:St b1 r g b2 l O s'.heap)(X:XN b1 r g b2 l O s'.heap c ex)(ct:O[k]? =some (.ns false N))(hC:b2[k]? =some C)(f:bk s bs Y s' g b2):
  ∃m,s'.heap.Ns C m/\∀b5,Heap.SameBut C s'.heap b5->∀bd:Env,wpAny (model J b1.w) A (PySem.passOn "comprehension.variables-let-go" (.ref ex) bd:Sem Value) (λ_ _=>False) (PE b1 r l s bs Y ((.error c,O.set k .dead):Except Addr γ×af)) {s' with heap:=b5}:=by
 refine ls (zl S6 ct hC) λoC m fs fk d9 S7 d=>⟨m,d9,λb5 c3 bd=>?_⟩;have i:XN b1 r g b2 l (O.set k .dead) b5 c ex:=X.ext (λb L=>L.set rfl) c3.extBut λb L z=>by
  clear fs d9;subst z;have:=L.2.2.2.1 _ _ ct hC;exact ftf this
 exact yM (S7.extBut d c3.extBut) i λw S9 j=>⟨g,b2,c,ex,rfl,f.heap w s'.toks,S9,rfl,j⟩
theorem HD(S2:St b1 r g b2 l O s.heap):∃D C H,(s.heap.push oI).objs.size=D/\((s.heap.push oI).push (dG #[] 0)).objs.size=C/\((s.heap.push oI).push (dG #[] 0)).push {cls:= .type "dict",data:= .dict #[]}=H/\D≠s.heap.objs.size/\C≠D/\
  St b1 r g (b2++[C]) l (O++[.ns false []]) H/\aD b1 r g (b2++[C]) l (O++[.ns false []]) s.heap.objs.size/\aD b1 r g (b2++[C]) l (O++[.ns false []]) D/\H.get? D=some (dG #[] 0)/\∀b o,(s.heap.push oI).get? b=some o->H.get? b=some o:=by
 have S3:St b1 r g b2 l O (s.heap.push oI):=S2.keep λ_ _ e=>a3 _ e;have LI:aD b1 r g b2 l O s.heap.objs.size:=S2.lone_new (cU _);have S4:St b1 r g b2 l O ((s.heap.push oI).push (dG #[] 0)):=S3.keep λ_ _ e=>a3 _ e;have LD:=S3.lone_new (cU _);have g2:(s.heap.push oI).objs.size≠s.heap.objs.size:=by rw[Heap.size_push];exact Nat.succ_ne_self _
 have fn:((s.heap.push oI).push (dG #[] 0)).objs.size≠(s.heap.push oI).objs.size:=by refine rwm _ ?_ (Heap.size_push _ (dG #[] 0));exact Nat.succ_ne_self _
 have c:((s.heap.push oI).push (dG #[] 0)).objs.size≠s.heap.objs.size:=by rw[Heap.size_push,Heap.size_push];exact DV
 exact⟨_,_,_,rfl,rfl,rfl,g2,fn,
  S4.alloc (cU _) (λ_ _ e=>a3 _ e) rfl ⟨{cls:= .type "dict",data:= .dict #[]},λ_=>none,a6 _ rfl,⟨#[],0,rfl,λ_ he=>by simp at he,λ_=>rfl⟩,trivial,λ_ _=>rfl,by simp,rfl⟩,
  LI.alloc S2.len c.symm,LD.alloc S2.len fn.symm,a3 _ (a6 _ rfl),λb o e=>a3 _ (a3 _ e)⟩
theorem HE{k:V->MM γ}{P:List Comprehension->MM γ->Prop}(no:∀I m,(∀O B,m O≠some B)->P I m)
  (yes:∀x px it bi ce,ic it=true->kc sc=true->eV e sc 0=some ce->P [⟨.Name x px,it,bi,0⟩] (bm (rc.ev it e) λw=>bm (fr w) λt=>bm (om (d7 t)) λU=>bm (ju rc e Q (.Name x px) bi sc U) k)):P I (bm (fu rc e Q I sc) k):=by
 by_cases h:∃tg it bi,I=[⟨tg,it,bi,0⟩]
 ·(refine a9 h λtg it bi bo=>?_;clear h;subst bo)
  by_cases hc:(ic it&&ql tg&&kc sc&&(eV e sc 0).isSome)=true
  .have c:=hc;simp only[Bool.and_eq_true] at hc;(refine ac hc λc7 dn=>?_;clear hc;rcases c7 with⟨⟨hs,b⟩,f5⟩);refine ag (Option.isSome_iff_exists.mp dn) λce dn=>?_;obtain⟨x,px,rfl⟩:∃x px,tg= .Name x px:=by cases tg<;>first|exact⟨_,_,rfl⟩|(first|exact ftf b|cases b)
   have e1:bm (fu rc e Q [⟨.Name x px,it,bi,0⟩] sc) k=bm (rc.ev it e) λw=>bm (fr w) λt=>bm (om (d7 t)) λU=>bm (ju rc e Q (.Name x px) bi sc U) k:=by
    have e2:fu rc e Q [⟨.Name x px,it,bi,0⟩] sc=bm (rc.ev it e) λw=>bm (fr w) λt=>bm (om (d7 t)) λU=>ju rc e Q (.Name x px) bi sc U:=eb c;refine rwm _ ?_ e2;simp only[du]
   refine rwm _ ?_ e1;exact yes x px it bi ce hs f5 dn
  .refine no _ _ λO B q=>?_;have e2:fu rc e Q [⟨tg,it,bi,0⟩] sc=λ_=>none:=hW hc;rw[e2] at q;exact nso q
 .refine no _ _ λO B q=>?_;have e2:fu rc e Q I sc=λ_=>none:=by
   rcases I with _|⟨⟨tg,it,bi,a⟩,_|⟨y,l⟩⟩
   .rfl
   .rcases a with(_|a)|a
    .exact absurd ⟨_,_,_,rfl⟩ h
    .rfl
    .rfl
   .clear h;rcases a with(_|a)|a<;>rfl
  rw[e2] at q;exact nso q
theorem zm(S:aL J b1 n rc)(hR:Rm A l n)(he:ER b1 l g b2 e env)(Q:Expr)(I:List Comprehension)(sc:Scope)(c4 p0:Pos){G:Rl γ δ}{t:Value->Sem δ}{d:δ}{k:V->MM γ}(f6:Option (Value->Sem Unit))
  (dd:f6=none->∀bs Y v x,aZ g bs->bu b2 Y->VR b1.w bs Y v x->aa J b1 r l A G bs Y (t x) (k v))
  (gt:∀u,f6=some u->(∀x,t x=pure d)/\∀r bs Y v x,aZ g bs->bu b2 Y->VR b1.w bs Y v x->aa J b1 r l A (λg b2 a (_:Unit)=>G g b2 a d) bs Y (u x) (k v)):
  aa J b1 r l A G g b2 (comprehension (.ListComp Q I sc c4) sc env p0 (newList []) (firstAsync I) (firstIter I env) f6>>=t) (bm (fu rc e Q I sc) k):=by
 refine HE (P:=λI m=>aa J b1 r l A G g b2 (comprehension (.ListComp Q I sc c4) sc env p0 (newList []) (firstAsync I) (firstIter I env) f6>>=t) m) (λI m f4 O B s bs Y _ _ _ q=>absurd q (f4 O B)) λx px it bi ce hs f5 dn=>?_;(refine bc λno=>mz (Ht he f5 dn) λdt ds f1 fx ft di cd=>ag cd λcx c1=>ac c1 λdV f3=>no ?_;clear c1 cd no);have f9:=f5;simp only[kc,Bool.and_eq_true,beq_iff_eq,List.all_eq_true,Bool.or_eq_true,bne_iff_ne] at f9;intro O B s bs Y a b S0 q;refine ae (wpAny_comprehension_free (use:=f6) rfl (y9 hs) dV f9.1 (λy L hl=>(f9.2 y L).resolve_left λz=>z hl) ?_);refine((S.ev hR he it).later a b).run S0 q (λv y c6 cf c5 bl q p1 S1 hv=>?_) λx s' z=>z;refine gV q (λtt c7 e3 q=>?_) λc c7 e3 _=>?_;rotate_left
 .refine dZ (mU 4 v y c5 c6 _ S1 hv e3) λt' g1 f2 fi _=>eoe (pri fi).1
 refine ch (mU 4 v y c5 c6 _ S1 hv e3) λt' g1 c9 e4 h7 S2 ht=>ac (pri e4) λe5 e6=>?_;have e5:=oke e5;subst e5 e6;clear e3 e4 S1 hv;refine al (dF q) λU de q=>?_;have gn:=p1.2.1.trans h7;have fa:=p1.2.2;refine yC hR.handled S2 ht de λoI d6 hc hb d5 cp=>wpAny_newList ?_ (by simp [sizeLine_eq]);refine Hu (s:={cf with heap:=(cf.heap.push oI).push (dG #[] 0)}) di ?_;(refine bc λno=>a9 (HD (oI:=oI) S2) λD C H f8=>Dm f8 λhD hC hH g2 fn S5 LI LD h5 h4=>no ?_;clear f8 no);have h6:({cf with heap:=((cf.heap.push oI).push (dG #[] 0)).push {cls:= .type "dict",data:= .dict #[]}}:Shared)={cf with heap:=H}:=by exact rwm _ rfl hH
 have g4:bk s bs Y {cf with heap:=H} c9 (bl++[C]):=by
  have:=p1.heap H cf.toks;exact⟨this.1,gn,fa.trans (.app _ _)⟩
 have g3:(bl++[C])[c7.length]? =some C:=by refine rwl _ ?_ S2.len;simp
 have bb:=S2.len;have g5:=Hv (ce:={ce with lh:=c7.length}) ((he.mono a b).mono gn fa) (bu.app bl [C]) dt rfl f1 fx ft ((f3.mono b).mono fa) g3;have gr:d6 0 H:=by
  refine b9 (d5.walks A hR.handled) λfp Pn W wP g0=>W.frame 0 _ _ cp λb _ o e=>h4 b o e
 have fI:=λd2=>HA (s:={cf with heap:=H}) (x:=x) (px:=px) (Q:=Q) (bi:=bi) (it:=it) (c4:=c4) (d2:=d2) S hR d5 (Hw (lh:=c7.length) dn) g5 g2 S5 LI LD h5 gr;simp only[hD,hC,hH];clear d5 gr cp h4 h5 LI LD S5 S2 g5 hD hC hH h6 he f3 de ht dt ds f1 fx ft dn hs f5 f9 dV di S0;refine gV q (λv cr e5 q=>?_) λc cr e5 e6=>?_<;>refine h8 (fI _ e5) λrr da N gi ct fv=>?_<;>clear fI e5
 .refine oc gi λr' s' z=>?_
  cases rr with
  |error c=>exact oee (pri fv).1
  |ok be=>
  cases r' with
  |error x=>
   refine cT z λb6 b4 c' ex z1 _=>oee z1
  |ok f=>
   (refine bc λno=>hV z λb6 b4 ha ys ep f7=>db f7 λz1 p2 S6 ga gd d3=>no ?_;clear f7 z no);have z1:=oke z1;subst z1;refine ac (pri fv) λe7 e8=>?_;have e7:=oke e7;subst e7 e8;(refine bc λno=>a9 (HB S6 ga gd d3 ct (p2.2.2 _ _ g3) fn) λoC m p cs=>mz cs λfs fk d9 S9 h0 t1 l6=>no ?_;clear cs no);have dr:bk s bs Y s' b6 (p++[D]):=by
    have:=g4.trans p2;refine⟨this.1,this.2.1,λj ad hj=>t1 _ _ (jy ?_ (this.2.2 _ _ hj))⟩;have:=(List.getElem?_eq_some_iff.mp (fa _ _ hj)).1;rw[bb] at this;exact this
   have h1:VR b1.w b6 (p++[D]) (.own (trunc c7.length (da.set c7.length .dead)).length) (.ref D):=⟨D,by refine rwl _ ?_ l6;simp,rfl⟩;clear S6 ga gd d3 ct p2 gi g4 t1 l6 fv
   cases f6 with
   |none=>
    refine⟨m,d9,λb5 c3=>?_⟩;exact ea (dd rfl b6 (p++[D]) _ _ (a.trans dr.2.1) (b.trans dr.2.2) h1 _ B {s' with heap:=b5} b6 (p++[D]) (.refl _) (.refl _) (S9.extBut h0 c3.extBut) q) (λ_ _ z=>z.up (dr.heap b5 s'.toks)) λ_ _ z=>z.up (dr.heap b5 s'.toks)
   |some u=>
    refine ac (gt u rfl) λht hu=>?_;show wpAny _ _ (u (.ref D)) _ _ _;refine zh (R:=λg b2 a (_:Unit)=>G g b2 a d) (B:=B) fk h0 (hu _ b6 (p++[D]) _ _ (a.trans dr.2.1) (b.trans dr.2.2) h1 _ B s' b6 (p++[D]) (.refl _) (.refl _) (S9.reserve h0 fs) q)
     (λw y cv c5 bl z1 p3 gs h2 h3 hw=>?_) λc x cv c5 bl z1 p3 gs h2 h3 X=>?_
    .refine⟨m,?_,λb5 c3=>?_⟩
     ·(refine dZ d9 λo es ep i E=>?_;clear d9);rw[fs] at i;cases i;exact⟨_,es,ep,h3,E⟩
     .show wpAny _ _ (t .none) _ _ _;rw[ht];exact ar ⟨c5,bl,w,z1,(dr.trans p3).heap b5 cv.toks,gs.extBut h2 c3.extBut,hw⟩
    .exact⟨c5,bl,c,x,z1,dr.trans p3,gs,rfl,X⟩
 .clear q;subst e6;refine oc gi λr' s' z=>?_
  cases rr with
  |ok be=>exact eoe (pri fv).1
  |error c'=>
  refine ac (pri fv) λe7 e8=>?_;have e7:=ere e7;clear q gi fv;clear q;subst e7 e8
  cases r' with
  |ok f=>
   refine bc λno=>hV z λb6 b4 be ys ep M=>ac M λz1 _=>no (eoe z1)
  |error x=>
   (refine bH z λb6 b4 c' ex cd=>bS cd λz1 bo p2 S6 X=>?_;clear cd;subst bo);have z1:=ere z1;subst z1;refine al (HC (J:=J) (A:=A) (γ:=γ) S6 X ct (p2.2.2 _ _ g3) (((g4.trans p2):bk s bs Y s' b6 b4))) λm d9 cl=>?_
   cases f6 with
   |none=>exact⟨m,d9,λb5 c3 bd _=>cl b5 c3 bd⟩
   |some u=>exact⟨m,d9,λb5 c3 bd _=>cl b5 c3 bd⟩
theorem HF{R:Rl α β}{t:Sem β}{m:MM α}(h:aa J b1 r l A R g b2 (t>>=pure) (bm m pm)):aa J b1 r l A R g b2 t m:=by
 have e1:=bind_pure t;have e2:bm m pm=m:=by
  funext O
  unfold bm
  cases m O with
  |none=>rfl
  |some q=>rcases q with⟨q1,c6⟩;cases q1<;>rfl
 rw[e1,e2] at h;exact h
theorem zn(S:aL J b1 n rc)(hR:Rm A l n)(he:ER b1 l g b2 e env)(Q:Expr)(I:List Comprehension)(sc:Scope)(c4:Pos):
  aa J b1 r l A (RV b1.w) g b2 (eval (.ListComp Q I sc c4) env) (fu rc e Q I sc):=by
 rw[eval_ListComp];exact HF (zm (d:=Value.none) S hR he Q I sc c4 _ none (λ_ bs Y v x _ _ hv=>aa.pure λ_ _ hg hr=>VR.mono hg hr _ _ hv) λu hu=>nomatch hu)
set_option tactic.hygienic true in
theorem zo(b:List Expr)(c:Expr)(c4:Pos):exec (.Assign b c c4) env=(do
  standAt c4
  if<-swapsWithSole b c c4.line env then do
   evalThenUse c env λv=>assignAll v ((assignEach b env).map (·.2))
   pure Flow.next
  else do
   let v<-eval c env
   assignStores env v (<-swappedStores b c env) ((assignEach b env).map (·.2))):=rfl
theorem qH(h:noStar tg=true):(assignEach [tg] env).map (·.2)=[assign tg env]:=by
 refine rwm _ ?_ (uf tg [] h);rfl
set_option tactic.hygienic true in
theorem HG(S:aL J b1 n rc)(hR:Rm A l n)(he:ER b1 l g b2 e env)(tg x:Expr)(hs:noStar tg=true)(hv:VR b1.w g b2 v y):
  aa J b1 r l A (RF b1.w) g b2 (swappedStores [tg] x env>>=λsw=>assignStores env y sw ((assignEach [tg] env).map (·.2))) (bm (lM rc e tg v (fQ e tg x)) λ_=>pm Fl.next):=by
 refine rwm _ ?_ (qH hs)
 cases j:fQ e tg x with
 |none=>exactλO B s bs Y _ _ _ q=>by exact nso q
 |some o=>
  refine rwm _ ?_ (zg he tg x j);refine aa.eqT (pure_bind _ _) ?_
  cases o with
  |none=>
   show aa J b1 r l A _ g b2 (do assign tg env y;pure Flow.next) (bm (rc.as tg e v) λ_=>pm Fl.next);exact aa.bind (S.as hR he tg v y hv) λbs Y _ _ _ _ _=>aa.pure λ_ _ _ _=>trivial
  |some d=>
   cases v with
   |own i=>exactλO B s bs Y _ _ _ q=>by exact nso q
   |t t=>
    cases t<;>first|exactλO B s bs Y _ _ _ q=>(by(first|exact nso q|cases q))|skip
    rename_i ts
    show aa J b1 r l A _ g b2 (do rule "assign.swapped-stores";let c<-unpackItems y d.length none;assignInOrder (d.reverse.map λn=>bindName env n) c.reverse;pure Flow.next)
     (bm (if ts.length=d.length then kf e d.reverse ts.reverse else λ_=>none) λ_=>pm Fl.next)
    refine aa.rule ?_
    split
    .rename_i bb
     intro O B s bs Y a b H q;have hv:=TR.mono a _ _ hv;(refine a9 hv λI ys ep D=>aw D λc2 ho f=>?_;clear D;clear hv;subst c2);have cp:d.length=ys.size:=by refine rwl _ ?_ bb;exact f.len.trans (ej)
     refine rwm _ ?_ cp;refine ae (wpAny_unpackItems_tuple hR.handled ⟨_,H.fr _ _ ho,rfl,ep,rfl⟩ λb5 hx=>?_);have S2:=H.extBut (H.lone_new (cU _)) hx;have st:bk s bs Y {s with heap:=b5} bs Y:=⟨⟨b5,s.toks,rfl⟩,.refl _,.refl _⟩;have k:aa J b1 r l A (RF b1.w) bs Y (assignInOrder (d.reverse.map λn=>bindName env n) ys.toList.reverse>>=λ_=>pure Flow.next) (bm (kf e d.reverse ts.reverse) λ_=>pm Fl.next):=
      aa.bind (ze d.reverse ts.reverse ys.toList.reverse bs Y (he.mono a b) (TRs.rev f)) λc5 bl _ _ _ _ _=>aa.pure λ_ _ _ _=>trivial
     exact ea (k O B {s with heap:=b5} bs Y (.refl _) (.refl _) S2 q) (λ_ _ z=>z.up st) λ_ _ z=>z.up st
    .exactλO B s bs Y _ _ _ q=>by exact nso q
theorem aa.tt{R:Rl α β}{t t':Sem β}{m:MM α}(h:c=true->aa J b1 r l A R g b2 t m)(b5:c=false->aa J b1 r l A R g b2 t' m):aa J b1 r l A R g b2 (if c=true then t else t') m:=by
 cases c with
 |true=>exact h rfl
 |false=>exact b5 rfl
theorem HH(Q:Expr)(I:List Comprehension)(sc:Scope)(c4:Pos)(tg:Expr)(c:Nat):∃b,swapsWithSole [tg] (.ListComp Q I sc c4) c env=pure b:=by
 cases tg<;>exact⟨_,rfl⟩
theorem zp(h:ie x=true)(c:Nat):swapsWithSole [tg] x c env=pure false:=by
 cases x<;>first|rfl|(first|exact ftf h|cases h)
theorem HI(h:ie x=true):ig rc e tg x=bm (rc.ev x e) λv=>lM rc e tg v (fQ e tg x):=by
 cases x<;>first|rfl|(first|exact ftf h|cases h)
set_option tactic.hygienic true in
theorem HJ(S:aL J b1 n rc)(hR:Rm A l n)(he:ER b1 l g b2 e env)(tg x:Expr)(c4:Pos)(hs:noStar tg=true):
  aa J b1 r l A (RF b1.w) g b2 (exec (.Assign [tg] x c4) env) (bm (ig rc e tg x) λ_=>pm Fl.next):=by
 rw[zo];refine aa.standAt ?_
 by_cases hx:ie x=true
 .rw[zp hx,HI hx,du];refine aa.eqT (pure_bind _ _) ?_;show aa J b1 r l A _ g b2 (eval x env>>=λv=>swappedStores [tg] x env>>=λsw=>assignStores env v sw ((assignEach [tg] env).map (·.2))) _;exact aa.bind (S.ev hR he x) λbs Y v y hg hr hv=>HG S hR (he.mono hg hr) tg x hs hv
 .cases x<;>first|exact absurd rfl hx|skip
  .rename_i Q I sc p2
   refine ag (HH (env:=env) Q I sc p2 tg c4.line) λb hb=>?_;refine rwm _ ?_ hb;refine aa.eqT (pure_bind _ _) ?_;show aa J b1 r l A _ g b2 _ (bm (bm (fu rc e Q I sc) λv=>rc.as tg e v) λ_=>pm Fl.next);refine aa.tt (λ_=>?_) λ_=>?_
   .refine rwm _ (rwm _ ?_ du) (qH hs);show aa J b1 r l A _ g b2 ((comprehension (.ListComp Q I sc p2) sc env (firstIterPos I p2) (newList []) (firstAsync I) (firstIter I env) (some λv=>assignAll v [assign tg env])>>=λ_=>pure ())>>=λ_=>pure Flow.next) _;refine aa.eqT (bind_assoc _ _ _) ?_;have e1:(λ(_:Value)=>(pure ():Sem Unit)>>=λ_=>(pure Flow.next:Sem Flow))=λ_=>pure Flow.next:=by funext _;exact pure_bind _ _
    refine rwm _ ?_ e1;refine zm (d:=Flow.next) S hR he Q I sc p2 _ (some λv=>assignAll v [assign tg env]) (λhu=>nomatch hu) λu hu=>?_;cases hu;refine⟨λ_=>rfl,λr bs Y v y hg hr hv=>?_⟩;show aa J b1 r l A _ bs Y (assign tg env y) (bm (rc.as tg e v) λ_=>pm Fl.next);intro O B s c5 bl a b S0 q;(refine a2 (ed q) (λzz=>?_) (λzz=>?_);refine aq zz λu c6 bi=>ac bi λe2 q=>?_;clear bi;rotate_left;refine aq zz λc c6 bi=>ac bi λe2 bo=>?_;clear bi;clear zz;subst bo;rotate_right)
    .clear zz;cases q;refine ea (S.as hR (he.mono hg hr) tg v y hv O _ s c5 bl a b S0 e2) (λw s' z=>?_) λw s' z=>?_
     ·(refine ch z λc9 N _ e3 p S3 _=>?_;clear z);(have D:=oke e3;clear e3;cases D);exact⟨c9,N,_,rfl,p,S3,trivial⟩
     .refine cT z λ_ _ _ _ e3 _=>oee e3
    .refine ea (S.as hR (he.mono hg hr) tg v y hv O _ s c5 bl a b S0 e2) (λw s' z=>?_) λw s' z=>?_
     .refine dZ z λ_ _ _ e3 _=>eoe e3
     .refine cT z λc9 N c' ex e3 z=>?_;(have D:=ere e3;clear e3;cases D);exact⟨c9,N,_,ex,rfl,z⟩
   .refine rwm _ ?_ du;show aa J b1 r l A _ g b2 (eval (.ListComp Q I sc p2) env>>=λv=>swappedStores [tg] (.ListComp Q I sc p2) env>>=λsw=>assignStores env v sw ((assignEach [tg] env).map (·.2))) _;refine aa.bind (zn S hR he Q I sc p2) λbs Y v y hg hr hv=>?_;have j:swappedStores [tg] (.ListComp Q I sc p2) env=pure none:=by clear hb;cases tg<;>rfl
    refine rwm _ (rwm _ ?_ (qH hs)) j;refine aa.eqT (pure_bind _ _) ?_;show aa J b1 r l A _ bs Y (do assign tg env y;pure Flow.next) (bm (rc.as tg e v) λ_=>pm Fl.next);exact aa.bind (S.as hR (he.mono hg hr) tg v y hv) λbs Y _ _ _ _ _=>aa.pure λ_ _ _ _=>trivial
  .exactλO B s bs Y _ _ _ q=>by exact nso q
  .exactλO B s bs Y _ _ _ q=>by exact nso q
set_option tactic.hygienic true in
theorem HK(S:aL J b1 n rc)(hR:Rm A l n)(he:ER b1 l g b2 e env)(d:List Expr)(x:Expr)(c4:Pos):
  aa J b1 r l A (RF b1.w) g b2 (exec (.Assign d x c4) env) (match d with
  |[tg]=>if noStar tg then bm (ig rc e tg x) λ_=>pm Fl.next else λ_=>none
  |_=>λ_=>none):=by
 rcases d with _|⟨tg,_|⟨a,b⟩⟩
 .exact aa.none
 .by_cases hs:noStar tg=true
  .dsimp only;refine rwm _ ?_ (eb hs);exact HJ S hR he tg x c4 hs
  .dsimp only;refine rwm _ ?_ (hW hs);exact aa.none
 .exact aa.none
set_option tactic.hygienic true in
theorem HL(S:aL J b1 n rc)(hR:Rm A l n)(he:ER b1 l g b2 e env)(x:Expr)(c4:Pos):
  aa J b1 r l A (RF b1.w) g b2 (exec (.Expr x c4) env) (if ie x then bm (rc.ev x e) λ_=>pm Fl.next else λ_=>none):=by
 by_cases hx:ie x=true
 .refine rwm _ ?_ (eb hx);exact GN S hR he x c4 (by cases x<;>first|rfl|(first|exact ftf hx|cases hx))
 .refine rwm _ ?_ (hW hx);exact aa.none
structure oN (K:Frag) (cx:Cx) (P:bt):Prop where
 X:K.In cx.B
 cls:∀D,P.exc D=true->instIn K (.ref D) (.type "tuple")=some false/\subIn K (.ref D) (.type "BaseException")=some true/\(clsIn K D).isSome=true
 sub:∀C D,P.exc C=true->P.exc D=true->subIn K (.ref C) (.ref D)=some (P.sub C D)
theorem HM{M:Model}(X:K.In h)(hc:clsIn K D=some c6):Looks M h (isType (.ref D)) true:=by
 intro A Q E s k q;unfold clsIn at hc
 cases ho:K.lookup D with
 |none=>rw[ho] at hc;exact nso hc
 |some o=>
  rw[ho] at hc;rcases o with⟨c,d,b,p⟩;cases b<;>first|exact nso hc|skip
  unfold isType;exact ae (rv (k _ _ (X _ _ ho)) (ar q))
theorem HN(U:oN K b1 P){o:Obj}(X:K.In s.heap)(hC:P.exc C=true)(hD:P.exc D=true)(ho:s.heap.get? ex=some o)(hc:o.cls= .ref C){Q:Bool->Shared->Prop}{E:Value->Shared->Prop}(hq:Q (P.sub C D) s):
  wpAny (model J b1.w) A (excMatches (.ref ex) (.ref D)) Q E s:=by
 (refine bc λno=>aw (U.cls D hD) λdt ds f1=>no ?_;clear no);refine ag (Option.isSome_iff_exists.mp f1) λc6 N=>?_;unfold excMatches;refine ae ((looks_instIn X dt).here ?_);refine rwm _ ?_ (hW (by decide));refine ae (ar ?_);simp only[List.forIn_cons,List.forIn_nil];unfold isExcClass;refine ae (ae (ae (ae ((HM X N).here ?_))));refine rwm _ ?_ (eb rfl);refine(looks_subIn X ds).here ?_;simp only[Bool.not_true,Bool.false_eq_true,if_false];refine ar (ar ?_);unfold typeOf;refine ae (ae (rv ho (ar ?_)));refine rwm _ ?_ hc;refine ae (ae (ae ((looks_subIn X (U.sub C D hC hD)).here ?_)))
 cases hb:P.sub C D with
 |true=>rw[hb] at hq;exact ar (ar (ar hq))
 |false=>rw[hb] at hq;exact ar (ar (ar hq))
theorem HO{x:Option Expr}{n:Str}(q:xS x=some n):∃u,x=some (.Name n u):=by
 cases x with
 |none=>exact nso q
 |some x=>cases x<;>first|exact nso q|exact⟨_,by exact rwl _ rfl (ai q)⟩
set_option tactic.hygienic true in
theorem HP(q:xT x=some c):∃k j,x= .Constant (.str c) k j:=by
 cases x<;>first|exact nso q|skip
 rename_i v k j
 cases v<;>first|exact nso q|exact⟨_,_,by exact rwl _ rfl (ai q)⟩
set_option tactic.hygienic true in
theorem HQ(q:xU b=some c):∃k j d,b=[.Return (some (.Constant (.str c) k j)) d]:=by
 rcases b with _|⟨x,_|⟨y,l⟩⟩
 .exact nso q
 .cases x<;>first|exact nso q|skip
  rename_i v p
  cases v with
  |none=>exact nso q
  |some v=>
   refine bc λno=>aq (HP q) λk j e=>no (⟨k,j,p,by exact rwm _ rfl e⟩)
 .cases x<;>first|exact nso q|skip
  rename_i v p
  cases v<;>exact nso q
theorem HS{hd:ExceptHandler}{x c:Str}(q:lN hd=some (x,c)):∃u k j d hp,hd= .ExceptHandler (some (.Name x u)) none [.Return (some (.Constant (.str c) k j)) d] hp:=by
 rcases hd with⟨t,n,b,p⟩
 cases n with
 |some n=>exact nso q
 |none=>
  refine al (Option.bind_eq_some_iff.mp q) λn h1 h2=>al (Option.map_eq_some_iff.mp h2) λs h3 h4=>ac (pri h4) λe1 e2=>?_;clear q h2 h4;subst e1 e2;refine ag (HO h1) λu e=>?_;refine bc λno=>a9 (HQ h3) λk j d e'=>no (⟨u,k,j,d,p,by exact rwm _ (rwm _ rfl e') e⟩)
theorem qI{B:Except Addr V×af}(q:cu P.glob e D O=some B):∃v,B=(.ok v,O):=by
 unfold cu at q;refine ac (Fr q) λ_ q=>?_
 .unfold qa at q
  have b:∀{B:Except Addr V×af},(match e.cells.lookup D with
   |some c=>bm (bw c) λQ=>match Q with
    | .cell v=>om v
    |_=>λ_=>none
   |none=>λ_=>none) O=some B->∃v,B=(.ok v,O):=by
   intro B q
   cases hc:e.cells.lookup D with
   |none=>rw[hc] at q;exact nso q
   |some c=>
    rw[hc] at q;refine al (dE q) λQ hi q=>?_;cases Q<;>first|exact nso q|skip
    refine al (dq q) λv _ e2=>⟨v,e2⟩
  cases hl:e.scope.names.lookup D with
  |none=>rw[hl] at q;exact nso q
  |some L=>
   rw[hl] at q;clear hl;cases L<;>first|exact b q|(rcases dE q with⟨Q,hi,q⟩;clear hi;cases Q<;>first|exact nso q|(refine al (dq q) λv _ e2=>⟨v,e2⟩))|(refine al (dq q) λv _ e2=>⟨v,e2⟩)
theorem HT(q:cu P.glob e x O=some (.error c,M)):False:=by
 refine ag (qI q) λv h=>eoe (pri h).1
theorem HU{B:Except Addr Fl×af}(q:gT P e C (hd::hs) O=some B):∃x c D,lN hd=some (x,c)/\cu P.glob e x O=some (.ok (.t (.top D)),O)/\P.exc D=true/\P.exc C=true/\
  (if P.sub C D then pm (.ret (.t (.str c))) else gT P e C hs) O=some B:=by
 have q:tU P e C hd (gT P e C hs) O=some B:=q;unfold tU at q
 cases hh:lN hd with
 |none=>rw[hh] at q;exact nso q
 |some b=>
  rcases b with⟨x,c⟩;rw[hh] at q;refine gV q (λf c6 e1 q=>?_) λc c6 e1 _=>(HT e1).elim;refine ag (qI e1) λv h=>?_;have h:=(pri h).2;subst h
  cases f with
  |own i=>exact nso q
  |t t=>
   cases t<;>first|exact nso q|skip
   refine ac (cL q) λh q=>?_;rw[Bool.and_eq_true] at h;exact⟨x,c,_,rfl,e1,h.1,h.2,q⟩
theorem XN.cls(X:XN b1 r g b2 l O h C ex):∃o,h.get? ex=some o/\o.cls= .ref C:=by
 refine b9 X λo vs a b _=>⟨o,a,b⟩
theorem HV{R:Rl α β}{t:Sem β}{s:Shared}{B:Except Addr α×af}{Q:β->Shared->Prop}{E:Value->Shared->Prop}(S:St b1 r g b2 l O s.heap)(X:XN b1 r g b2 l O s.heap C ex)
  (h:∀r',St b1 r' g b2 l O s.heap->wpAny (model J b1.w) A t (PQ R b1 r' l s g b2 B) (PE b1 r' l s g b2 B) s)
  (m:∀x y s' b6 b4,B.1= .ok x->bk s g b2 s' b6 b4->St b1 r b6 b4 l B.2 s'.heap->XN b1 r b6 b4 l B.2 s'.heap C ex->R b6 b4 x y->Q y s')
  (hE:∀c,B.1= .error c->False):wpAny (model J b1.w) A t Q E s:=by
 refine bc λno=>aq X λo vs z=>db z λh1 h2 h3 h4 L j=>a9 j λt i vt cs=>mz cs λk1 k2 k3 k4 k5 k6 U=>no (zi k5 (by refine rwm _ ?_ h2;simp) U S L k6 h1 k2 h (λx y s' b6 b4 e1 p S1 u d g1 g2 hR=>?_) λc x s' b6 b4 e1 _ _ _ _ _ _ _=>(hE c e1).elim);exact m x y s' b6 b4 e1 p S1 ⟨o,vs,g1,h2,h3,h4,u,t,i,vt,k1,g2,k3,k4,k5,d,U⟩ hR
set_option tactic.hygienic true in
theorem HW(G:Gl b1 P b7 mb)(U:oN K b1 P)(he:ER b1 l g b2 e env){B:Except Addr Fl×af}(hs:List ExceptHandler)(s:Shared)(O:af)(b6:ay)(b4:List Addr)(q:gT P e C hs O=some B)
  (p:bk L g b2 s b6 b4)(S:St b1 r b6 b4 l O s.heap)(X:XN b1 r b6 b4 l O s.heap C ex):wpAny (model J b1.w) A (handleBy (.ref ex) env hs) (PQ (RF b1.w) b1 r l L g b2 B) (PE b1 r l L g b2 B) s:=by
 induction hs generalizing s O b6 b4 with
 |nil=>
  cases q;unfold handleBy;exact yM S X λb5 H I=>⟨b6,b4,C,ex,rfl,p.heap b5 s.toks,H,rfl,I⟩
 |cons hd hs ih=>
  refine dm (HU q) λx c D hh e1 hD hC q1=>?_;clear q;(refine hV (HS hh) λu k j d hp c6=>?_;clear hh;subst c6);have i:(Value.ref ex)≠byPass:=by intro z;cases z
  refine wpAny_handleBy_cons (codeAny_handlers_test ?_) i;refine HV S X (λr' H=>qp G (he.mono p.2.1 p.2.2) x u O _ s b6 b4 (.refl _) (.refl _) H e1) (λv y cf c5 bl e2 p2 S2 X2 hv=>?_) λc e2=>oee e2;have e2:=oke e2;subst e2;have hx:=hv;clear hv;subst hx;refine al X2.cls λm b dn=>HN U (U.X.keeps S2.ground) hC hD b dn (gN q1 (λh q=>?_) λh q=>?_)
  .refine rwm _ ?_ h;have q:=ai q;clear q1;subst q;refine codeAny_handlers_suite (yK S2 X2 λb5 S3 X3=>?_);show wpAny _ _ (do match<-exec (.Return (some (.Constant (.str c) k j)) d) env with| .next=>execs [] env|f=>pure f) _ _ _;refine ae (wpAny_Return_some ?_);show wpAny _ _ (do let t<-fresh;pure (Value.str c t)) _ _ _;refine ae (wpAny_fresh (ar (ar ?_)));exact⟨c5,bl,_,rfl,(p.trans p2).heap b5 _,S3,kh (b1:=b1) (g:=c5)⟩
  .refine rwm _ ?_ (Bool.eq_false_iff.mpr h);exact ih cf O c5 bl q (p.trans p2) S2 X2
set_option tactic.hygienic true in
theorem HX(G:Gl b1 P b7 mb)(U:oN K b1 P)(S:aL J b1 n rc)(hR:Rm A l n)(he:ER b1 l g b2 e env)(j:List Stmt)(hs:List ExceptHandler)(i cl:List Stmt)(c4:Pos):
  aa J b1 r l A (RF b1.w) g b2 (exec (.Try j hs i cl c4) env) (match hs,i,cl with
  |h0::hs,[],[]=>λO=>match aR rc e j O with
   |some (.error C,M)=>gT P e C (h0::hs) M
   |x=>x
  |_,_,_=>λ_=>none):=by
 rcases hs with _|⟨h0,hs⟩
 .exact aa.none
 rcases i with _|⟨_,_⟩
 rotate_left
 .exact aa.none
 rcases cl with _|⟨_,_⟩
 rotate_left
 .exact aa.none
 intro O B s bs Y a b S0 q
 have q:(match aR rc e j O with
   |some (.error C,M)=>gT P e C (h0::hs) M
   |x=>x)=some B:=q
 refine wpAny_Try_except ?_;have cf:=he.mono a b
 cases e1:aR rc e j O with
 |none=>rw[e1] at q;exact nso q
 |some p=>
 rw[e1] at q;rcases p with⟨rr,M⟩
 cases rr with
 |error C=>
  refine ea (jx S hR j bs Y cf O _ s bs Y (.refl _) (.refl _) S0 e1) (λf s' z=>?_) λx s' z=>?_
  .refine dZ z λ_ _ _ e2 _=>eoe e2
  ·(refine bH z λc5 bl c ex cd=>bS cd λe2 p S1 bo X=>?_;clear cd;subst bo);(have D:=ere e2;clear e2;cases D);refine al cf.frame λe' be d=>?_;refine bc λno=>ac (S1.frs e' be) λ_ c3=>aq c3 λf _ bi=>ac bi λhf _=>no (ug hR.frames (d▸hf) cf.frame S1 X λb5 S2 X2=>yK S2 X2 λw S3 X3=>HW G U cf (h0::hs) {s' with heap:=w} M c5 bl q (p.heap w s'.toks) S3 X3)
 |ok f0=>
  have q:=ai q;subst q;refine ea (jx S hR j bs Y cf O _ s bs Y (.refl _) (.refl _) S0 e1) (λf s' z=>?_) λx s' z=>?_
  .cases f with
   |next=>exact ar z
   |_=>exact z
  ·(refine bH z λc5 bl c ex cd=>bS cd λe2 p S1 bo X=>?_;clear cd;clear z;subst bo);exact oee e2
structure mY (K:Frag) (cx:Cx) (P:bt):Prop where
 X:K.In cx.B
 isi:∀a b r,P.isi a b=some r->kitOne K (fm a) (fm b)=some r
 own:∀a b r,P.isi a b=some r->7<a->plainGet K a "__class__"=true/\hasDictIn K a=true/\findIn K (.ref a) "__class__"=some (some (.builtin "object.__class__"))/\mroIn K a (.type "object")=some true
 cls:specialIn K (.builtin "object.__class__") "__get__"=some (some (.builtin "getset_descriptor.__get__"))/\takesIn K (.builtin "object.__class__")=some true
theorem zq(C:mY K b1 P)(e:P.isi a b=some q)(ha:7<a):KitX K (.ref x) (.ref a) (λh=>InstAt h x ox a (some od)):=by
 refine bc λno=>bK (C.own a b q e ha) λh1 h2 h3 h4=>no (kitx_own h1 h2 h3 C.cls.1 C.cls.2 h4)
theorem gk{α:Type}{c:Prop}[Decidable c]{x y:Option α}{a:α}{P:Prop}(q:(if c then x else y)=some a)(k:c->x=some a->P)(E:y=some a->P):P:=by
 by_cases h:c
 .rw[if_pos h] at q;exact k h q
 .rw[if_neg h] at q;exact E q
theorem lP{n o:String}{k m:Nat}(hn:n=o)(q:some k=some m)(h:fm k= .type o):Value.type n=fm m:=by
 have q:=ai q;subst q hn;exact h.symm
theorem zr(q:qc c=some m)(b5:TR b1.w g c y):y=fm m:=by
 cases c<;>first|exact nso q|skip
 .have b5:=b5;subst b5;exact gk q (λh q=>lP h q rfl) λq=>gk q (λh q=>lP h q rfl) λq=>gk q (λh q=>lP h q rfl) λq=>gk q (λh q=>lP h q rfl) λq=>gk q (λh q=>lP h q rfl) λq=>gk q (λh q=>lP h q rfl) λq=>gk q (λh q=>lP h q rfl) nso
 .have b5:=b5;subst b5;refine ac (eT q) λhd q=>?_;have q:=ai q;subst q;unfold fm;exact rwm _ rfl (hW (Nat.not_le_of_gt hd))
theorem zt:(t:T)->lG (strip t)=lG t
 | .box _ t=>zt t
 | .none=>rfl
 | .bool _=>rfl
 | .int _=>rfl
 | .str _=>rfl
 | .bytes _=>rfl
 | .typ _=>rfl
 | .bi _=>rfl
 | .top _=>rfl
 | .range _ _=>rfl
 | .list _=>rfl
 | .tuple _=>rfl
 | .dict _=>rfl
 | .inst _ _=>rfl
theorem zu(C:mY K b1 P)(S:St b1 r g b2 l O s.heap)(ht:TR b1.w g t x)(ha:lG t=some a)(e:P.isi a b=some q){Q:Value->Shared->Prop}{E:Value->Shared->Prop}(hq:∀tk,Q (.bool q) {s with toks:=tk}):
  wpAny (model J b1.w) A (call (.builtin "isinstance") [x,fm b]) Q E s:=by
 have X:=C.X.keeps S.ground;have h1:=C.isi a b q e;have hs:=ub t;have ht:=TR.strip ht;rw[<-zt] at ha;generalize strip t=t at hs ht ha;have cl:∀{k:Nat}{x:Value}{p:Heap->Prop},some k=some a->KitX K x (fm k) p->p s.heap->x≠ .builtin "__main__.__loader__#opaque"->wpAny (model J b1.w) A (call (.builtin "isinstance") [x,fm b]) Q E s:=λe hk hp hx=>by
  have e:=ai e;subst e;exact kia_one hk X hp h1 hx hq
 cases t<;>first|exact nso ha|skip
 .have ht:=ht;subst ht;exact cl ha kitx_none trivial nofun
 .have ht:=ht;subst ht;exact cl ha kitx_bool trivial nofun
 ·(refine ag ht λ_ bo=>?_;clear ht;subst bo);exact cl ha kitx_int trivial nofun
 ·(refine ag ht λ_ bo=>?_;clear ht;subst bo);exact cl ha kitx_str trivial nofun
 ·(refine ag ht λ_ bo=>?_;clear ht;subst bo);exact cl ha kitx_bytes trivial nofun
 ·(refine a9 ht λ_ _ _ D=>aw D λc2 ho _=>?_;clear D;subst c2);exact cl ha kitx_list ⟨_,S.fr _ _ ho,rfl⟩ nofun
 ·(refine a9 ht λ_ _ _ D=>aw D λc2 ho _=>?_;clear D;subst c2);exact cl ha kitx_tuple ⟨_,S.fr _ _ ho,rfl⟩ nofun
 ·(refine a9 ht λ_ _ _ D=>aw D λc2 ho _=>?_;clear D;subst c2);exact cl ha kitx_dict ⟨_,S.fr _ _ ho,rfl⟩ nofun
 .refine ac (eT ha) λhC ha=>?_;have ha:=ai ha;clear cl;subst ha;(refine bH ht λI d od m cv=>bK cv λc2 ho c _=>?_;clear cv;clear ht;subst c2);rw[show fm _= .ref _ by unfold fm;exact rwm _ rfl (if_neg (Nat.not_le_of_gt hC))] at h1;exact kia_one (zq C e hC) X ⟨S.fr _ _ ho,rfl,rfl,S.fr _ _ c⟩ h1 (by intro z;cases z) hq
 .exact absurd rfl (hs _ _)
set_option tactic.hygienic true in
theorem zv{B:Except Addr Nat×af}(q:xB (.own i) O=some B):∃Q o,O[i]? =some Q/\B=(.ok o,O)/\(match Q with| .sh C _=>o=C/\C>7| .list _=>o=5| .dict _=>o=6| .fz t=>lG t=some o|_=>False):=by
 refine al (dE q) λQ f q=>?_;cases Q<;>first|((first|exact nso q|cases q);done)|skip
 .cases q;exact⟨_,5,f,rfl,rfl⟩
 .cases q;exact⟨_,6,f,rfl,rfl⟩
 .refine al (dq q) λo e1 e2=>?_
  split at e1
  .rename_i hC;cases e1;exact⟨_,_,f,e2,rfl,hC⟩
  .exact nso e1
 .refine al (dq q) λo e1 e2=>⟨_,_,f,e2,e1⟩
theorem HY(C:mY K b1 P)(hu:VR b1.w g b2 u x)(hv:VR b1.w g b2 v y):aa J b1 r l A (RV b1.w) g b2 (call (.builtin "isinstance") [x,y]) (tE P.isi u v):=by
 intro O B s bs Y a b S q;have hu:=VR.mono a b _ _ hu;have hv:=VR.mono a b _ _ hv
 cases v with
 |own i=>exact nso q
 |t c=>
  have cl:∀{o m:Nat}{c':Bool}{M:af}{B},qc c=some m->(bm (om (qc c)) λm=>om ((P.isi o m).map λr=>V.t (.bool r)):MM V) M=some B->∃q',P.isi o m=some q'/\B=(.ok (.t (.bool q')),M):=by
   intro o m c' M B hc q;refine al (dF q) λG hm q=>?_;rw[hc] at hm;cases hm;(refine ag (dq q) λ_ c1=>ac c1 λe1 bo=>?_;clear c1;subst bo);(refine ag (Option.map_eq_some_iff.mp e1) λq' c1=>ac c1 λe2 bo=>?_;clear c1;subst bo);exact⟨q',e2,rfl⟩
  have q:=q;have L:∀(q':Bool)(tk:Tok),PQ (RV b1.w) b1 r l s bs Y (.ok (.t (.bool q')),O) (.bool q') {s with toks:=tk}:=λq' tk=>PQ.vt S yc
  cases u with
  |t t=>
   refine al (dF q) λo hn q=>al (dF q) λm hm _=>?_;(refine ag (cl (c':=true) hm q) λq' c1=>ac c1 λe1 bo=>?_;clear c1;subst bo);refine rwm _ ?_ (zr hm hv);exact zu C S hu hn e1 λtk=>L q' tk
  |own i=>
   (refine ag hu λad c1=>ac c1 λj bo=>?_;clear c1;clear hu;subst bo);(refine bc λno=>a2 (ed q) (λzz=>aq zz λo c6 bi=>ac bi λe0 q=>no ?_) (λzz=>aq zz λc' c6 bi=>ac bi λe0 _=>no ?_)<;>clear bi zz no)
   .refine b9 (zv e0) λQ p f e1 k=>?_;cases e1;have w:=S.own i Q ad f j;have X:=C.X.keeps S.ground;refine al (dF q) λm hm _=>?_;(refine ag (cl (c':=true) hm q) λq' c1=>ac c1 λe1 bo=>?_;clear c1;clear q;subst bo);refine rwm _ ?_ (zr hm hv);cases Q<;>simp only at k<;>first|(exact k.elim)|skip
    .clear q;subst k;refine cS w λys ep ho _=>kia_one kitx_list X ⟨_,ho,rfl⟩ (C.isi _ _ _ e1) (by intro z;cases z) λtk=>L q' tk
    .clear q;subst k;refine cS w λes ep ho _=>kia_one kitx_dict X ⟨_,ho,rfl⟩ (C.isi _ _ _ e1) (by intro z;cases z) λtk=>L q' tk
    ·(refine ac k λc2 hC=>?_;clear k;subst c2);(refine h8 w λd od G h1 h2 _=>?_;clear w);have h3:=C.isi _ _ _ e1;rw[show fm o= .ref o from by unfold fm;exact rwm _ rfl (if_neg (Nat.not_le_of_gt hC))] at h3;exact kia_one (zq C e1 hC) X ⟨S.fr _ _ h1,rfl,rfl,S.fr _ _ h2⟩ h3 (by intro z;cases z) λtk=>L q' tk
    .exact zu C S w k e1 λtk=>L q' tk
   .refine b9 (zv e0) λQ p f e1 k=>?_;cases e1
theorem HZ(q:cX (t::U)=some ns):∃i f,t= .int i/\cX U=some f/\i::f=ns:=by
 cases t<;>first|exact nso q|skip
 refine al (Option.map_eq_some_iff.mp q) λf e1 e2=>⟨_,f,rfl,e1,e2⟩
theorem uy:∀{U:List T}{ns:List Int}{ys:List Value},cX U=some ns->TRs b1.w g U ys->IntsAre ys ns/\ns.length=U.length
 |[],ns,ys,q,h=>by cases q;have h:=h;subst h;exact⟨.nil,rfl⟩
 |x::U,ns,ys,q,h=>by
  (refine aq (HZ q) λi f c3=>aw c3 λc2 e1 cr=>?_;clear c3;clear q;subst c2;subst cr);(refine aq h λy rr c3=>aw c3 λc2 c h2=>?_;clear c3;clear h;subst c2;rcases c with⟨t,rfl⟩);refine ac (uy e1 h2) λC H=>⟨.cons i t C,hQ (·+1) H⟩
theorem zw:∀{ns:List Int}{m:Int},oo ns=some m->m∈ns/\∀a∈ns,a<=m
 |[],m,q=>by exact nso q
 |[a],m,q=>by cases q;exact⟨.head _,λb hb=>by refine rwm _ ?_ (List.mem_singleton.mp hb);exact Int.le_refl _⟩
 |a::b::r,m,q=>by
  have q:=q;(refine ag (Option.map_eq_some_iff.mp q) λk c1=>ac c1 λe1 bo=>?_;clear c1;clear q;subst bo);refine ac (zw e1) λC H=>?_
  by_cases hk:k>a
  .refine rwm _ ?_ (eb hk);exact⟨.tail _ C,λc hc=>by
    (refine a2 (hy.mp hc) (λzz=>?_) (λhc=>?_);clear q;subst zz;rotate_left;rotate_right)
    .exact Int.le_of_lt hk
    .exact H c hc⟩
  .refine rwm _ ?_ (hW hk);exact⟨.head _,λc hc=>by
    (refine a2 (hy.mp hc) (λzz=>?_) (λhc=>?_);clear q;subst zz;rotate_left;rotate_right)
    .exact Int.le_refl _
    .have:=H c hc;exact Int.le_trans this (Int.not_lt.mp hk)⟩
theorem H0{l:List Int}(h:i<l.length):l.getD i 0∈l:=by
 refine rwm _ (rwm _ ?_ (hS h)) (List.getD_eq_getElem?_getD);exact List.getElem_mem h
theorem H1{vs:List Value}{Q:Value->Shared->Prop}{E:Value->Shared->Prop}(hh:A.handled=none)(hl:s.heap.IsList a vs.toArray)(hi:IntsAre vs ns)(hm:oo ns=some m)
  (h:∀b5 t tk,(∀b o,s.heap.get? b=some o->b5.get? b=some o)->Q (.int m t) {s with heap:=b5,toks:=tk}):wpAny (model J b1.w) A (call (.builtin "max") [.ref a]) Q E s:=by
 refine ac (zw hm) λG m2=>ag hi.allInts.items λU e=>?_;have ct:ns=U.toList.map (·.1):=by rw[<-hi.numsOf,<-nums_intItems,<-e]
 have bb:ns.length=U.size:=by rw[ct,List.length_map,Array.length_toList]
 have cp:0<U.size:=by refine rwl _ ?_ bb;exact List.length_pos_of_mem G
 rw[e] at hl;refine max_intList hh hl cp λv b5 tk hv hk=>?_;(refine ag (intItems_at hv) λt bo=>?_;clear hv;subst bo);refine ac (argBest_gt (numAt U) (U.size - 1)) λh1 h2=>?_;have e1:numAt U (argBest (λi j=>decide (numAt U i>numAt U j)) (U.size - 1))=m:=by
  refine Int.le_antisymm (m2 _ ?_) ?_
  .rw[ct,numAt_eq];exact H0 (by rw[List.length_map,Array.length_toList];exact hO h1 (Nat.sub_lt cp (Nat.succ_pos 0)))
  .rw[ct] at G;(refine bc λno=>ag (List.getElem_of_mem G) λj c1=>ag c1 λhj c=>no ?_;clear c1 no);rw[List.length_map,Array.length_toList] at hj;have:=h2 j (Nat.le_sub_one_of_lt hj);rw[numAt_eq] at this;rw[List.getD_eq_getElem?_getD,List.getElem?_eq_getElem (by rw[List.length_map,Array.length_toList];exact hj),Option.getD_some,c] at this;exact this
 refine rwm _ ?_ e1;exact h b5 t tk hk
theorem PQ.keepT{s:Shared}{b5:Heap}{tk:Tok}(S:St b1 r g b2 l O s.heap)(k:∀b o,s.heap.get? b=some o->b5.get? b=some o)(ht:TR b1.w g t x):PQ (RV b1.w) b1 r l s g b2 (.ok (.t t),O) x {s with heap:=b5,toks:=tk}:=
 ⟨g,b2,_,rfl,⟨⟨b5,tk,rfl⟩,.refl _,.refl _⟩,S.keep k,ht⟩
theorem PQ.new{s:Shared}{b5:Heap}{tk:Tok}(S:St b1 r g b2 l O s.heap)(hn:s.heap.get? D=none)(k:∀b o,s.heap.get? b=some o->b5.get? b=some o)(hf:isFz Q=false)(ho:OR b1.w g (b2++[D]) b5 Q D):
  PQ (RV b1.w) b1 r l s g b2 (.ok (.own O.length),O++[Q]) (.ref D) {s with heap:=b5,toks:=tk}:=
 ⟨g,b2++[D],_,rfl,⟨⟨b5,tk,rfl⟩,.refl _,.app _ _⟩,S.alloc hn k hf ho,D,by refine rwl _ ?_ S.len;simp,rfl⟩
theorem zx(h:g a=some ⟨.type "range",.none,.fields #[.int i t,.int j u,.int 1 v],#[]⟩):TR b1.w g (.range i j) (.ref a):=by
 exact⟨a,t,u,v,rfl,h⟩
theorem qJ{a b:Int}{l:List Int}:j9 a (b::l)=if b<a then b::j9 a l else a::b::l:=rfl
theorem uz(a:Int):∀l:List Int,(j9 a l).Perm (a::l)
 |[]=> .refl _
 |b::l=>by
  by_cases hb:b<a
  .rw[qJ,if_pos hb];exact((uz a l).cons b).trans (List.Perm.swap a b l)
  .rw[qJ,if_neg hb]
theorem zy:∀l:List Int,(iK l).Perm l
 |[]=> .refl _
 |a::l=>(uz a _).trans ((zy l).cons a)
theorem zA(a:Int):∀{l:List Int},l.Pairwise (·<=·)->(j9 a l).Pairwise (·<=·)
 |[],_=>List.pairwise_singleton _ _
 |b::l,h=>by
  rw[List.pairwise_cons] at h
  by_cases hb:b<a
  .rw[qJ,if_pos hb,List.pairwise_cons];exact⟨λc hc=>by
    (refine a2 (hy.mp ((uz a l).mem_iff.mp hc)) (λzz=>?_) (λhc=>?_);subst zz;rotate_left;rotate_right)
    .exact Int.le_of_lt hb
    .exact h.1 c hc,zA a h.2⟩
  .rw[qJ,if_neg hb,List.pairwise_cons,List.pairwise_cons];exact⟨λc hc=>by
    (refine a2 (hy.mp hc) (λzz=>?_) (λhc=>?_);subst zz;rotate_left;rotate_right)
    .exact Int.not_lt.mp hb
    .have:=h.1 c hc;exact Int.le_trans (Int.not_lt.mp hb) this,h⟩
theorem zB:∀l:List Int,(iK l).Pairwise (·<=·)
 |[]=> .nil
 |a::l=>zA a (zB l)
theorem H2{l m:List Int}(hp:l.Perm m)(h1:l.Pairwise (·<=·))(h2:m.Pairwise (·<=·)):l=m:=hp.eq_of_pairwise (λa b _ _ x y=>Int.le_antisymm x y) h1 h2
theorem zC:∀{ys:List Value}{ns:List Int},IntsAre ys ns->TRs b1.w g (ns.map .int) ys
 |_,_,.nil=>rfl
 |_,_,.cons n t h=>by exact⟨_,_,rfl,iS,zC h⟩
theorem zD:∀{N:List (aj×T)}{ps:List (aj×Value)}{ns:List Int}{vs:List Value},cX (N.map λp=>dN p.1)=some ns->ps.map (·.1)=N.map (·.1)->vs.length=ps.length->
  (∀(j:Nat)(v:Value),vs[j]? =some v->∃k x,ps[j]? =some (k,x)/\gc k v=true)->IntsAre vs ns/\ns.length=vs.length
 |[],ps,ns,vs,q,h1,h2,h3=>by
  cases q
  cases ps with
  |nil=>cases vs with
   |nil=>exact⟨.nil,rfl⟩
   |cons a b=>simp at h2
  |cons a b=>simp at h1
 |(k,t)::N,ps,ns,vs,q,h1,h2,h3=>by
  cases ps with
  |nil=>simp at h1
  |cons p ps=>
   rcases p with⟨m,d⟩;simp only[List.map_cons,List.cons.injEq] at h1
   cases vs with
   |nil=>simp at h2
   |cons v vs=>
    refine cS (h3 0 v rfl) λE x e1 e2=>?_;simp only[List.getElem?_cons_zero,Option.some.injEq,Prod.mk.injEq] at e1;(refine ac e1 λc2 bo=>?_;clear e1;subst c2;subst bo);rw[List.map_cons] at q
    cases k with
    |str x=>exact nso (show(none:Option (List Int))=some ns from q)
    |int i=>
     (refine ag (Option.map_eq_some_iff.mp (show(cX (N.map λp=>dN p.1)).map (i::·)=some ns from q)) λf c1=>ac c1 λe3 bo=>?_;clear c1;clear q;subst bo);refine ac (zD e3 h1.2 (by simpa using h2) λj v hj=>h3 (j+1) v (by simpa using hj)) λC H=>?_;rw[h1.1] at e2;(refine ag (qu e2) λtk bo=>?_;clear h2 h3 e2;subst bo);exact⟨.cons i tk C,by simp [H]⟩
theorem H3{ps:List (aj×Value)}{N:List (aj×T)}{ns:List Int}{Q:Value->Shared->Prop}{E:Value->Shared->Prop}(hh:A.handled=none)(lo:(a==sysModules)=false)(hd:s.heap.DictOf (kk J b1.w) a ps)(hp:ps.map (·.1)=N.map (·.1))
  (hn:cX (N.map λp=>dN p.1)=some ns)(c:ns.length<64)
  (h:∀b5 D ys ep tk,(∀b o,s.heap.get? b=some o->b5.get? b=some o)->s.heap.get? D=none->b5.get? D=some (dG ys ep)->IntsAre ys.toList (iK ns)->Q (.ref D) {s with heap:=b5,toks:=tk}):
  wpAny (model J b1.w) A (call (.builtin "sorted") [.ref a]) Q E s:=by
 refine ag hd.dictAt λep t=>?_;have bb:ns.length=ps.length:=by
  have h2:∀{U:List T}{ns:List Int},cX U=some ns->ns.length=U.length:=by
   intro U
   induction U with
   |nil=>intro ns q;cases q;rfl
   |cons x U ih=>
    intro ns q;cases x<;>first|((first|exact nso q|cases q);done)|skip
    (refine ag (Option.map_eq_some_iff.mp q) λf c1=>ac c1 λe1 bo=>?_;clear c1;subst bo);simp [ih e1]
  refine a0 (h2 hn) ?_;simpa using(hQ List.length hp).symm
 have cp:ps.length<=sizeLine:=by refine rwm _ ?_ ms;exact Ev c bb
 refine call_function_entry kind_sorted plain_sorted entry_sorted (args_sorted1 _) ?_;unfold Builtin.«sorted»;refine ae (m:=checkCount "sorted" 1 1 _) (ar ?_);refine ae (kdu_collect (A:=A.in1) (kdl_dict (knd:=kk J b1.w) (kvs:=ps) (ep:=ep) lo) hh t cp λb5 tk be hk d3=>?_);have hl:be.toList.length=ps.length:=by refine a0 ej ?_;exact d3.1
 refine ae (wpAny_newList ?_ (by refine rwm _ ?_ hl;exact cp));(refine ac (zD hn hp hl λj v hj=>d3.2 j v (by refine rwl _ ?_ (pb);exact hj)) λC H=>?_);have ho:(b5.push (seqObj "list" be.toList.toArray 0)).get? b5.objs.size=some (seqObj "list" be.toList.toArray 0):=a6 _ rfl;refine ae (en (wpAny_call_entry slot_list_sort ⟨_,ho,rfl⟩ entry_list_sort (list_sort_tree ho C (Ew c bb hl) λk u a1 d B=>⟨_,rfl,?_⟩) (args_list_sort _)));refine ag (sortedHeap_at (out:=k) ho) λe he=>?_;have ct:=H2 (d.trans (zy ns).symm) B (zB ns);clear d B;subst ct;refine ar ⟨_,rfl,h _ b5.objs.size k e _ (λb o i=>?_) ?_ he a1⟩
 .have hb:=mm (hk b o i);refine a0 (sortedHeap_old (mi hb) (by rw[size_push'];exact Nat.lt_succ_of_lt hb)) (rwm _ ?_ (Heap.get?_push_ne _ _ _ (mi hb)));exact hk b o i
 .cases q:s.heap.get? b5.objs.size with
  |none=>rfl
  |some o=>exact absurd (mm (hk _ _ q)) (ka _)
theorem zE:entryFor table "dict.update.loop"=some Builtin.«dict.update.loop»:=entryFor_of_tree (by lk)
theorem qK:plainId "dict.update.loop"=true:=by decide+kernel
theorem H4:typeLookup (.type "list") "keys"=pure none:=am_miss_of_fast (by lk)
theorem H5{Q:Option Value->Shared->Prop}{E:Value->Shared->Prop}(hx:s.heap.get? a=some (dG U k))(hA:A.handled=none)
  (hq:∀b5 tk,(∀b o,s.heap.get? b=some o->b5.get? b=some o)->Q none {s with heap:=b5,toks:=tk}):wpAny (model J b1.w) A (getAttr? (.ref a) "keys") Q E s:=by
 rcases s with⟨hp,g,d,tk,os⟩;have hT:∀i,(⟨hp,g,d,i,os⟩:Shared).TypeIs (.ref a) "list":=λ_=>⟨_,hx,rfl⟩;have f1:=sub_AttributeError;have u:=p8.lookup;have t:=p8.bind (.ref a);have y:=am_list_getattr_none;unfold getAttr? getAttrBy?;refine ae (wpAny_mkText (ae (wpAny_attempt ?_)));unfold getAttrBy
 repeat (any_goals (first|assumption|exact hT _|((with_reducible show wpAny _ _ (call (Value.builtin "list.__getattribute__") _ _) _ _ _);refine si p8 (hT _) am_entry_list_getattribute (F.args_list_getattribute_2 _ _) (meets_getattribute_miss_list a U k #[] (Str.ofString "keys") _ H4 (by decide)) ⟨hx,hA,λb5 i e M=>?_⟩)|wp_step))
 (refine bc λno=>aq M.there λt' C he=>no ?_;clear no);show wpAny _ _ (getattributeRaised _ _ _ _ _ _ _) _ _ _;unfold getattributeRaised
 repeat (any_goals (first|assumption|wp_step))
 exact hq _ _ M.keeps
def zF(w:World)(g:ay)(v:Value)(kt:aj×T):Prop:=∃t G u ep,v= .ref t/\g t=some ⟨.type "tuple",.none,.seq #[G,u] ep,#[]⟩/\gc kt.1 G=true/\TR w g kt.2 u
set_option tactic.hygienic true in
theorem H6(q:fo (x::U)=some N):∃k v kk l,x= .tuple [k,v]/\cE k=some kk/\fo U=some l/\N=(kk,v)::l:=by
 cases x<;>first|exact nso q|skip
 rename_i ts
 rcases ts with _|⟨k,_|⟨v,_|⟨z,ts⟩⟩⟩<;>first|exact nso q|skip
 have q:(match cE k,fo U with|some k,some l=>some ((k,v)::l)|_,_=>none)=some N:=q
 cases e1:cE k with
 |none=>rw[e1] at q;exact nso q
 |some kk=>
  cases e2:fo U with
  |none=>rw[e1,e2] at q;exact nso q
  |some l=>rw[e1,e2] at q;exact⟨k,v,kk,l,rfl,e1,rfl,(ai q).symm⟩
theorem zG:∀{U:List T}{N:List (aj×T)}{ys:List Value},fo U=some N->TRs b1.w g U ys->N.length=ys.length/\∀(i:Nat) v,ys[i]? =some v->∃kt,N[i]? =some kt/\zF b1.w g v kt
 |[],N,ys,q,h=>by cases q;subst h;exact⟨rfl,λi v e=>by simp at e⟩
 |x::U,N,ys,q,h=>by
  (refine aq h λy rr c3=>aw c3 λc2 h1 h2=>?_;clear c3;clear h;subst c2);(refine bH (H6 q) λk v kk l cv=>bK cv λc2 hk hl bo=>?_;clear cv;subst c2;subst bo);refine ac (zG hl h2) λC H=>⟨hQ (·+1) C,λi v' e=>?_⟩
  cases i with
  |zero=>
   have e:=ai e;subst e;(refine a9 h1 λa m ep D=>aw D λc2 ho f=>?_;clear D;subst c2);(refine bc λno=>aq f λG r1 cd=>aw cd λe1 t1 M=>aq M λu r2 c3=>aw c3 λe2 I e3=>no ?_;clear c3 M cd f no);subst e3 e2;have:m= #[G,u]:=by
    obtain⟨l⟩:=m;simp only at e1;exact rwm _ rfl e1
   clear e1;subst this;exact⟨_,rfl,a,G,u,ep,rfl,ho,jw hk t1,I⟩
  |succ i=>exact H i v' e
theorem H7{L:Shared}{a D I:Addr}{ys:Array Value}{N:List (aj×T)}{k:Heap}{c:Value}{R:Result->Shared->Prop}(hh:A.handled=none)(q:∃ep,k.get? a=some (dG ys ep))(c1:k.get? D=none)(bl:k.get? I=none)(ct:D≠I)(bb:N.length=ys.size)
  (hg:∀b o,g b=some o->k.get? b=some o)(hp:∀(i:Nat) v,ys.toList[i]? =some v->∃kt,N[i]? =some kt/\zF b1.w g v kt)(cp:N.length<=sizeLine)
  (hR:∀(s:Shared)(ps:List (aj×Value)),(∃b5 tk,s={L with heap:=b5,toks:=tk})->(∀b o,k.get? b=some o->s.heap.get? b=some o)->s.heap.DictOf (kk J b1.w) D ps->DP b1.w g (N.foldl (λd p=>bj d p.1 p.2) []) ps->R (.ok (.ret c)) s)
  :∀(m i:Nat)(s:Shared)(ps:List (aj×Value))(dn:List (aj×T)),(∃b5 tk,s={L with heap:=b5,toks:=tk})->m=N.length - i->i<=N.length->(∀b o,k.get? b=some o->s.heap.get? b=some o)->s.heap.DictOf (kk J b1.w) D ps->DP b1.w g dn ps->dn=(N.take i).foldl (λd p=>bj d p.1 p.2) []->ps.length<=i->
   s.heap.IsListIter I a i->codeAny (model J b1.w) A (.builtin "dict.update.loop" ⟨[.ref D,.ref I,rawInt i,c],[]⟩) R s:=by
 intro m
 induction m with
 |zero=>
  intro i s ps dn hs hm hi hk hd E j Q d5;have bs:=Nat.le_antisymm hi (Nat.le_of_sub_eq_zero hm.symm);refine ag q λep q=>?_;have hl:s.heap.IsList a ys:=⟨_,hk _ _ q,rfl,ep,rfl⟩;refine codeAny_builtin zE ?_;refine rwm _ ?_ (Around.under_plainId qK _);unfold Builtin.«dict.update.loop»;show wpAny _ _ (pyNext (.ref I)>>=_) _ _ _;refine ae (wpAny_pyNext_list_end hh d5 hl (by refine rwm _ (rwm _ ?_ bb) bs;simp) λb5 hx=>?_);show wpAny _ _ (Builtin.Dict.addKeywords D []>>=λ_=>ret c) _ _ _;refine ae (ar (ar ?_));refine bc λno=>aq hs λh1 t1 hs=>no (hR _ ps ⟨b5,s.toks,by exact rwm _ rfl hs⟩ (λb o e=>hx b o (λz=>by subst z;rw[bl] at e;exact nso e) (hk b o e)) ?_ (by rw[j,bs,List.take_length] at E;exact E));refine dm hd λo es cf ho r1 r2 r3 r4=>⟨o,es,cf,hx _ _ ct ho,r1,r2,r3,r4⟩
 |succ m ih=>
  intro i s ps dn hs hm hi hk hd E j Q d5;have H:=DH hm;(refine ag q λep bo=>?_;clear q);have hl:s.heap.IsList a ys:=⟨_,hk _ _ bo,rfl,ep,rfl⟩;refine codeAny_builtin zE ?_;refine rwm _ ?_ (Around.under_plainId qK _);unfold Builtin.«dict.update.loop»;show wpAny _ _ (pyNext (.ref I)>>=_) _ _ _;have C:i<ys.size:=by refine rwl _ ?_ bb;exact H
  refine ae (wpAny_pyNext_list_item d5 hl (lt C) λb5 be c3=>?_);(refine bc λno=>ag (hp i ys[i] (by exact rwm _ (rwm _ rfl (lt C)) (pb))) λkt cs=>ac cs λM cd=>bH cd λt G u cf cv=>bK cv λe1 e2 e3 e4=>no ?_;clear cv cd cs no);refine rwm _ ?_ e1;have B:∀b o,k.get? b=some o->b5.get? b=some o:=λb o e=>c3.extBut b o (λz=>by clear d5;subst z;rw[bl] at e;exact nso e) (hk b o e);have ht:=B _ _ (hg _ _ e2);have c9:b5.DictOf (kk J b1.w) D ps:=by
   refine dm hd λo es y ho r1 r2 r3 r4=>⟨o,es,y,c3.extBut _ _ ct ho,r1,r2,r3,r4⟩
  refine ae (en (ae (wpAny_tryCatch ?_)));unfold Builtin.Dict.pairItems;refine ae (wpAny_typeOf ⟨_,ht,rfl⟩ ?_);refine rwm _ ?_ (eb (by decide));refine ae (wpAny_seqItems ht rfl (ar ?_));show wpAny _ _ (holding [G,u] (dictSet D G u)) _ _ _;refine en (wpAny_dictSet_pairs e3 c9 (λw bi U=>?_) (DI cp hm Q));refine ar ⟨plainId_quiet qK _,?_⟩;have c2:∀b o,k.get? b=some o->b≠D:=λb o e z=>by clear hR hd c9;subst z;rw[c1] at e;exact nso e
  have Y:((i:Nat):Int)+1=((i+1:Nat):Int):=by push_cast;rfl
  have f:=ih (i+1) {s with heap:=w,toks:=s.toks+1} (stored ps kt.1 u) (bj dn kt.1 kt.2) (by refine bc λno=>aq hs λh1 t1 hs=>no (⟨w,s.toks+1,by exact rwm _ rfl hs⟩)) (DJ hm) H (λb o e=>U.extBut b o (c2 b o e) (B b o e)) bi (E.put e4) (by
    rw[List.take_add_one,M,Option.toList_some,List.foldl_append,<-j];rfl) (by
    have:(stored ps kt.1 u).length<=ps.length+1:=by
     unfold stored;split<;>simp
    exact a5 this (i1 Q)) (by
    refine al be λo ho r=>⟨o,U.extBut _ _ ct.symm ho,r⟩)
  rw[<-Y] at f;exact f
theorem H8{ys:Array Value}{N:List (aj×T)}{Q:Value->Shared->Prop}{E:Value->Shared->Prop}(hh:A.handled=none)(ho:s.heap.get? a=some (dG ys ep))(hq:fo U=some N)(f:TRs b1.w g U ys.toList)
  (hg:∀b o,g b=some o->s.heap.get? b=some o)(cp:N.length<=sizeLine)
  (m:∀b5 tk ps,(∀b o,s.heap.get? b=some o->b5.get? b=some o)->b5.DictOf (kk J b1.w) s.heap.objs.size ps->DP b1.w g (N.foldl (λd p=>bj d p.1 p.2) []) ps->Q (.ref s.heap.objs.size) {s with heap:=b5,toks:=tk}):
  wpAny (model J b1.w) A (call (.type "dict") [.ref a]) Q E s:=by
 refine callType_codes (Q₁:=λv cf=>v= .ref s.heap.objs.size/\cf={s with heap:=s.heap.push {cls:= .type "dict",data:= .dict #[]}}) F.kt_called_dict (F.kt_typeCall_dict_1 _) F.entry_dict_init (kt_code_dict_new _ ⟨rfl,rfl⟩) ?_
 rintro v cf ⟨rfl,rfl⟩
 have q:(s.heap.push {cls:= .type "dict",data:= .dict #[]}).DictOf (kk J b1.w) s.heap.objs.size []:=Heap.DictOf.new s.heap;have w:(s.heap.push {cls:= .type "dict",data:= .dict #[]}).get? a=some (dG ys ep):=a3 _ ho;refine⟨q.typeIs,F.args_dict_init_2 _ _,?_⟩;unfold Builtin.«dict.__init__»;refine ae ?_;unfold Builtin.Dict.selfAndRest;refine ae (wpAny_notOrdered_dict q.typeIs ?_);show wpAny _ _ (pure (s.heap.objs.size,[Value.ref a])) _ _ _;refine ar ?_;show wpAny _ _ (Builtin.Dict.updateFrom "dict.__init__" s.heap.objs.size (.ref a) [] .none) _ _ _;unfold Builtin.Dict.updateFrom;refine ae (wpAny_typeOf ⟨_,w,rfl⟩ ?_);refine rwm _ ?_ (eb (by decide));refine ae (H5 w hh λc tk hk=>?_);refine rwm _ ?_ (eb (show(none:Option Value).isNone=true from rfl));refine ae (wpAny_rule ?_);have be:c.IsList a ys:=⟨_,hk _ _ w,rfl,ep,rfl⟩;refine ae (wpAny_pyIter_list be ?_);have t:∀b o,s.heap.get? b=some o->(c.push {cls:= .type "list_iterator",data:= .fields #[.ref a,.int 0 0]}).get? b=some o:=λb o e=>a3 _ (hk _ _ (a3 _ e));have j:=hk _ _ (a6 _ rfl);have ct:=mi (mm j);refine ac (zG hq f) λp1 p2=>?_;have C:=mm j;refine ar ⟨plainId_quiet qK _,?_⟩;refine H7 (A:=A.in1) (L:=s) (D:=s.heap.objs.size) (I:=c.objs.size) (N:=N) (ys:=ys) (k:=s.heap) hh ⟨ep,ho⟩ (cU _) (pk (lv C)) ct (by exact rwm _ (rwm _ rfl ej) p1) hg p2 cp (λs' ps u B c9 z=>?_)
  _ 0 _ [] [] ⟨_,_,rfl⟩ rfl (ix _) t (by
   refine dZ ((q:(s.heap.push {cls:= .type "dict",data:= .dict #[]}).DictOf (kk J b1.w) s.heap.objs.size [])) λo es y q1 q2=>⟨o,es,y,a3 _ (hk _ _ q1),q2⟩) .nil rfl (hX _) ⟨_,a6 _ rfl,rfl,rfl⟩
 (refine aq u λb5 i cr=>?_;clear u;subst cr);exact⟨rfl,m b5 i ps B c9 z⟩
theorem uA{α β γ:Type}{f:α->γ}{b:β->γ}{l:List α}{N:List β}(h:l.map f=N.map b):l.length=N.length:=by
 have:=hQ List.length h
 rwa [li,li] at this
theorem jz(h:aJ k=true):k<=sizeLine:=hG h
theorem qL(q:ib n=some k):aJ n=true/\n=k:=by
 refine ac (eT q) λh e=>⟨h,ai e⟩
theorem H9(J:Program)(S:St b1 r g b2 l O s.heap)(ht:HR b1.w g s.heap t x)(q:jq t=some k){Q:Value->Shared->Prop}{E:Value->Shared->Prop}(hq:∀t tk,Q (.int k t) {s with toks:=tk}):
  wpAny (model J b1.w) A (call (.builtin "len") [x]) Q E s:=by
 revert ht;refine gM q (λq=>?_) (λq=>gM q (λq=>?_) (λq=>gM q (λq=>?_) (λq=>?_)))
 .refine j5 q λU q ht=>?_;(refine ac (qL q) λhf bo=>?_;subst bo);(refine aq (ik ht) λa ys c3=>aw c3 λc2 hl hs=>?_;clear c3;subst c2);have bb:=hs.len.trans (ej);exact call_len_list hl (by refine rwl _ ?_ bb;exact mW hf) (by refine rwl _ ?_ bb;exact hq _ _)
 .refine Fq q λU q ht=>?_;(refine ac (qL q) λhf bo=>?_;subst bo);(refine a9 ht λa ys ep D=>aw D λc2 ho hs=>?_;clear D;subst c2);have bb:=hs.len.trans (ej);exact len_tuple ⟨_,S.fr _ _ ho,rfl,ep,rfl⟩ (by refine rwl _ ?_ bb;exact mW hf) (by refine rwl _ ?_ bb;exact hq _ _)
 .refine pZ q λN q ht=>?_;(refine ac (qL q) λhf bo=>?_;subst bo);(refine aq (gh J ht) λa ps M=>bS M λc2 hs hd h1 h2=>?_;clear M;subst c2);have bb:=uA h1;exact call_len_dict hs hd (by refine rwm _ ?_ bb;exact mW hf) (by refine rwm _ ?_ bb;exact hq _ _)
 .refine ge q λU q ht=>?_;(refine ac (qL q) λhf bo=>?_;subst bo);(refine ag (gj ht) λt bo=>?_;subst bo);refine PySem.P.len_str ?_ (hq _ _);have:=mW hf;exact Int.not_le.mpr this
theorem Ia(G:Gl b1 P b7 mb)(hs:∃o,b1.B.get? sysModules=some o)(S:St b1 r g b2 l O s.heap):s.heap.objs.size≠sysModules:=t9 G hs S
theorem Ib{B:Except Addr V×af}(S:St b1 r g b2 l O s.heap)(ht:HR b1.w g s.heap t x)(q:(eS t λs=>om ((xA s.cps.toList).map λ(c:Nat)=>V.t (.int (c:Int))) O)=some B):wpAny (model J b1.w) A (call (.builtin "ord") [x]) (PQ (RV b1.w) b1 r l s g b2 B) (PE b1 r l s g b2 B) s:=by
 revert ht;refine ge q λz q ht=>?_;(refine ag (gj ht) λtk bo=>?_;clear ht;subst bo);(refine ag (dq q) λ_ c1=>ac c1 λe1 bo=>?_;clear c1;clear q;subst bo);(refine ag (Option.map_eq_some_iff.mp e1) λc c1=>ac c1 λe2 bo=>?_;clear c1;clear e1 q;subst bo);obtain⟨⟨cl⟩⟩:=z;have hc:cl=[c]:=by
  rcases cl with _|⟨c',_|⟨b,cl⟩⟩
  .exact nso e2
  .exact hQ (λc=>[c]) (ai e2)
  .exact nso e2
 subst hc;exact PySem.P.ord_of_char (PQ.vt S iS)
theorem Ic{B:Except Addr V×af}(S:St b1 r g b2 l O s.heap)(ht:HR b1.w g s.heap t x)(q:(fJ t λi=>(if 0<=i/\i<256 then pm (.t (.str ⟨#[i.toNat]⟩)) else λ_=>none:MM V) O)=some B):wpAny (model J b1.w) A (call (.builtin "chr") [x]) (PQ (RV b1.w) b1 r l s g b2 B) (PE b1 r l s g b2 B) s:=by
 revert ht;refine ia q λi q ht=>?_;(refine ag (eH ht) λtk bo=>?_;clear ht;subst bo);refine ac (cL q) λhi q=>?_;cases q;refine PySem.P.chr_of_int ?_ (PQ.vt S kh);refine rwm _ (rwm _ ?_ (le (EZ hi))) (le (EY hi));rfl
theorem Id(hA:A.handled=none){B:Except Addr V×af}(S:St b1 r g b2 l O s.heap)(ht:HR b1.w g s.heap t x)(q:(fK t λU=>om (((cX U).bind oo).map λi=>V.t (.int i)) O)=some B):wpAny (model J b1.w) A (call (.builtin "max") [x]) (PQ (RV b1.w) b1 r l s g b2 B) (PE b1 r l s g b2 B) s:=by
 revert ht;refine j5 q λU q ht=>?_;(refine ag (dq q) λ_ c1=>ac c1 λe1 bo=>?_;clear c1;clear q;subst bo);(refine ag (Option.map_eq_some_iff.mp e1) λm c1=>ac c1 λe2 bo=>?_;clear c1;clear e1 q;subst bo);refine al (Option.bind_eq_some_iff.mp e2) λns e3 e4=>?_;(refine aq (ik ht) λad ys c3=>aw c3 λc2 hl hs=>?_;clear c3;clear ht;subst c2);refine ac (uy e3 hs) λC H=>H1 hA (by refine rwm _ ?_ Array.toArray_toList;exact hl) C e4 λb5 t tk hk=>PQ.keepT S hk iS
theorem Ie(hA:A.handled=none){B:Except Addr V×af}(S:St b1 r g b2 l O s.heap)(ht:HR b1.w g s.heap t x)(q:(lE t λN=>bm (om (cX (N.map λp=>dN p.1))) (λl=>if l.length<64 then bP (.list ((iK l).map .int)) else λ_=>none) O)=some B):wpAny (model J b1.w) A (call (.builtin "sorted") [x]) (PQ (RV b1.w) b1 r l s g b2 B) (PE b1 r l s g b2 B) s:=by
 revert ht;refine pZ q λN q ht=>al (dF q) λns e1 q=>ac (cL q) λc q=>?_;cases q;(refine aq (gh J ht) λad ps M=>bS M λc2 hs hd k1 k2=>?_;clear M;clear ht;subst c2);exact H3 hA hs hd k1 e1 c λb5 D ys ep tk hk hn ho hI=>PQ.new S hn hk rfl ⟨ys,ep,ho,zC hI⟩
theorem Ig(hA:A.handled=none)(hv:VR b1.w g b2 v x):aa J b1 r l A (RV b1.w) g b2 (call (.builtin c) [x]) (bm (aE v) λt=>oq c t):=by
 refine aa.vw hv λO s bs Y t B a b S ht q=>gN q (λh q=>?_) λ_ q=>gN q (λh q=>?_) λ_ q=>gN q (λh q=>?_) λ_ q=>gN q (λh q=>?_) λ_ q=>gN q (λh q=>?_) λ_ q=>nso q
 .subst h;(refine ag (dq q) λ_ c1=>ac c1 λe1 bo=>?_;clear c1;subst bo);(refine ag (Option.map_eq_some_iff.mp e1) λk c1=>ac c1 λe2 bo=>?_;clear c1;subst bo);exact H9 J S ht e2 λt tk=>PQ.vt S iS
 .subst h;exact Ib S ht q
 .subst h;exact Ic S ht q
 .subst h;exact Id hA S ht q
 .subst h;exact Ie hA S ht q
theorem Ih{B:Except Addr V×af}(S:St b1 r g b2 l O s.heap)(ht:HR b1.w g s.heap t x)(q:(fK t λU=>(if aJ U.length then bP (.list U) else λ_=>none:MM V) O)=some B):wpAny (model J b1.w) A (call (.type "list") [x]) (PQ (RV b1.w) b1 r l s g b2 B) (PE b1 r l s g b2 B) s:=by
 revert ht;refine j5 q λU q ht=>ac (cL q) λhf q=>?_;cases q;(refine a9 ht λad ys ep D=>aw D λc2 ho hs=>?_;clear D;clear ht;subst c2);refine call_list_seq (hsz:=by refine rwl _ ?_ (hs.len.trans (ej));exact jz hf) ad (.inl rfl) ho rfl rfl λb5 c' hk hD=>PQ.new (tk:=s.toks) S (cU _) hk rfl ⟨ys,c',hD,hs⟩
theorem Ii(hA:A.handled=none)(ct:s.heap.objs.size≠sysModules){B:Except Addr V×af}(S:St b1 r g b2 l O s.heap)(ht:HR b1.w g s.heap t x)(q:(fK t λU=>bm (om (fo U)) (λN=>if aJ N.length then bP (.dict (N.foldl (λd p=>bj d p.1 p.2) [])) else λ_=>none) O)=some B):wpAny (model J b1.w) A (call (.type "dict") [x]) (PQ (RV b1.w) b1 r l s g b2 B) (PE b1 r l s g b2 B) s:=by
 revert ht;refine j5 q λU q ht=>al (dF q) λN e1 q=>ac (cL q) λhf q=>?_;cases q;(refine a9 ht λad ys ep D=>aw D λc2 ho hs=>?_;clear D;clear ht;subst c2);exact H8 hA ho e1 hs (λb o e=>S.fr b o e) (jz hf) λb5 tk ps hk hd E=>PQ.new S (cU _) hk rfl (oJ hd E ct)
theorem Ij(ct:s.heap.objs.size≠sysModules){B:Except Addr V×af}(S:St b1 r g b2 l O s.heap)(ht:HR b1.w g s.heap t x)(q:(lE t λN=>(if aJ N.length then bP (.dict N) else λ_=>none:MM V) O)=some B):wpAny (model J b1.w) A (call (.type "dict") [x]) (PQ (RV b1.w) b1 r l s g b2 B) (PE b1 r l s g b2 B) s:=by
 revert ht;refine pZ q λN q ht=>ac (cL q) λhf q=>?_;cases q;(refine aq (gh J ht) λad ps M=>bS M λc2 hs hd k1 k2=>?_;clear M;subst c2);have bb:=uA k1;refine kt_call_dict hs hd (by refine rwm _ ?_ bb;exact jz hf) λb5 c9 c3=>PQ.new S (cU _) (λb o e=>c3.extBut b o (mi (mm e)) (a3 _ e)) rfl (oJ c9 ⟨k1,k2⟩ ct)
theorem Ik{B:Except Addr V×af}(S:St b1 r g b2 l O s.heap)(ht:HR b1.w g s.heap t x)(q:(fJ t λi=>(if i.natAbs<1000000 then pm (.t (.str (dp i))) else λ_=>none:MM V) O)=some B):wpAny (model J b1.w) A (call (.type "str") [x]) (PQ (RV b1.w) b1 r l s g b2 B) (PE b1 r l s g b2 B) s:=by
 revert ht;refine ia q λi q ht=>?_;(refine ag (eH ht) λtk bo=>?_;clear ht;subst bo);refine ac (cL q) λhi q=>?_;cases q;refine PySem.P.str_of_int ?_ (PQ.vt S kh);refine hO ?_ (show 20<1920 by decide)
 by_cases hz:i.natAbs=0
 .refine rwm _ ?_ hz;exact ix _
 .exact i2 ((Nat.log2_lt hz).mpr (by lia))
theorem Il{B:Except Addr V×af}(S:St b1 r g b2 l O s.heap)(ht:HR b1.w g s.heap t x)(q:(eS t λs=>(if s.length<=640 then om ((PySem.intText? s).map λi=>V.t (.int i)) else λ_=>none) O)=some B):wpAny (model J b1.w) A (call (.type "int") [x]) (PQ (RV b1.w) b1 r l s g b2 B) (PE b1 r l s g b2 B) s:=by
 revert ht;refine ge q λz q ht=>?_;(refine ag (gj ht) λtk bo=>?_;clear ht;subst bo);refine ac (cL q) λhz q=>?_;(refine ag (dq q) λ_ c1=>ac c1 λe1 bo=>?_;clear c1;clear q;subst bo);(refine ag (Option.map_eq_some_iff.mp e1) λk c1=>ac c1 λe2 bo=>?_;clear c1;clear e1 q;subst bo);exact KIN.call_text e2 hz (PQ.vt S iS)
theorem Im(hA:A.handled=none){B:Except Addr V×af}(S:St b1 r g b2 l O s.heap)(ht:HR b1.w g s.heap t x)(q:(fK t λU=>bm (om (cX U)) (λl=>if(l.all λn=>decide (0<=n)&&decide (n<256))&&aJ l.length then pm (V.t (.bytes (l.map λn=>n.toNat.toUInt8).toArray)) else λ_=>none) O)=some B):wpAny (model J b1.w) A (call (.type "bytes") [x]) (PQ (RV b1.w) b1 r l s g b2 B) (PE b1 r l s g b2 B) s:=by
 revert ht;refine j5 q λU q ht=>al (dF q) λns e1 q=>ac (cL q) λhc q=>?_;cases q;simp only[Bool.and_eq_true,List.all_eq_true,decide_eq_true_eq] at hc;(refine aq (ik ht) λad ys c3=>aw c3 λc2 hl hs=>?_;clear c3;subst c2);refine ac (uy e1 hs) λC H=>?_;exact call_bytes_ints (by refine rwm _ ?_ Array.toArray_toList;exact hl) C hc.1 (by refine rwl _ (rwl _ ?_ H) hs.len;exact jz hc.2) hA λb5 t tk hk=>PQ.keepT S hk ⟨t,rfl⟩
theorem Io(hA:A.handled=none)(G:Gl b1 P b7 mb)(d:∃o,b1.B.get? sysModules=some o)(hv:VR b1.w g b2 v x):aa J b1 r l A (RV b1.w) g b2 (call (.type c) [x]) (bm (aE v) λt=>jr c t):=by
 refine aa.vw hv λO s bs Y t B a b S ht q=>?_;have ct:=Ia G d S;refine gN q (λh q=>?_) λ_ q=>gN q (λh q=>?_) λ_ q=>gN q (λh q=>?_) λ_ q=>gN q (λh q=>?_) λ_ q=>gN q (λh q=>?_) λ_ q=>gN q (λh q=>?_) λ_ q=>nso q
 .subst h;revert ht;refine ia q λi q ht=>?_;(refine ag (eH ht) λtk bo=>?_;clear hv;subst bo);cases q;exact call_range_1 (PQ.allocG S rfl (zx (eR _ _ _)))
 .subst h;exact Ih S ht q
 .subst h;exact gM q (λq=>Ij ct S ht q) λq=>Ii hA ct S ht q
 .subst h;refine gM q (λq=>Ik S ht q) λq=>?_;revert ht;refine ge q λz q ht=>?_;(refine ag (gj ht) λtk bo=>?_;clear hv;subst bo);cases q;exact PySem.P.str_of_str (PQ.vt S kh)
 .subst h;exact Il S ht q
 .subst h;exact Im hA S ht q
set_option tactic.hygienic true in
theorem Ip(hA:A.handled=none)(G:Gl b1 P b7 mb)(d:∃o,b1.B.get? sysModules=some o)(C:mY K b1 P)(hf:TR b1.w g f m)(hv:LR (VR b1.w g b2) be U):
  aa J b1 r l A (RV b1.w) g b2 (call m U) (xD P f be):=by
 cases f<;>first|exact aa.none|skip
 .rename_i c
  subst hf;rcases be with _|⟨u,_|⟨v,_|⟨w,be⟩⟩⟩
  .exact aa.none
  ·(refine ag hv.one_inv λy c1=>ac c1 λc2 h1=>?_;clear c1;subst c2);exact Io hA G d h1
  ·(refine aq hv.two_inv λy z c3=>aw c3 λc2 h1 h2=>?_;clear c3;subst c2);show aa J b1 r l A _ g b2 _ (if c="range" then xC u v else λ_=>none)
   split
   .rename_i hr
    subst hr;intro O B s bs Y a b S q;revert h1 h2;refine bY q λt q=>ia q λi q=>bY q λt' q=>ia q λj q h1 h2=>?_;(refine ag h1 λt1 bo=>?_;clear h1;subst bo);(refine ag h2 λI bo=>?_;clear h2;subst bo);cases q;exact call_range_2 (PQ.allocG S rfl (zx (eR _ _ _)))
   .exact aa.none
  .exact aa.none
 .rename_i c
  subst hf;rcases be with _|⟨u,_|⟨v,_|⟨w,be⟩⟩⟩
  .exact aa.none
  ·(refine ag hv.one_inv λy c1=>ac c1 λc2 h1=>?_;clear c1;subst c2);exact Ig hA h1
  ·(refine aq hv.two_inv λy z c3=>aw c3 λc2 h1 h2=>?_;clear c3;subst c2);show aa J b1 r l A _ g b2 _ (if c="isinstance" then tE P.isi u v else λ_=>none)
   split
   .rename_i hr
    subst hr;exact HY C h1 h2
   .exact aa.none
  .exact aa.none
end
end Internal
end
noncomputable section
namespace Internal
open PySem PySem.W PySem.Calls PyProof.Rows Builtin Builtin.Str
section
variable {J:Program}{b1:Cx}{r g b6:ay}{b2 b4:List Addr}{l:List Env}{A:Around}{α β γ δ:Type}{P:bt}{b7 mb:PySem.Str->Option Value}{n:Nat}{rc:aG}{e ce:AE}{env bd:Env}{O:af}{h b5:Heap}{s:Shared}{K:Frag}
theorem uB:∀(q:List (PySem.Str×Tok)),TRs b1.w g ((q.map (·.1)).map .str) (strValues q)
 |[]=>rfl
 |(x,t)::q=>by
  exact⟨_,_,rfl,kh,uB q⟩
theorem Iq{x y:PySem.Str}{t u:Tok}{Q:Value->Shared->Prop}{E:Value->Shared->Prop}(L:(y.length==0)=false)(cp:x.length+2<=sizeLine)
  (h:∀(q:List (PySem.Str×Tok)) tk,q.map (·.1)=Txt.split x y->Q (.ref s.heap.objs.size) {s with heap:=s.heap.push {cls:= .type "list",data:= .seq (strValues q).toArray},toks:=tk}):
  wpAny (model J b1.w) A (call (.builtin "str.split") [.str x t,.str y u]) Q E s:=by
 have hn:(partsBetween x (occurrences x y 0 x.length (x.length+1)) y.length).length<=sizeLine:=by
  rw[length_partsBetween];exact hO (StrLaws.occ_length_le_len x y 0 x.length (x.length+1)) cp
 cases h1:(decide (x.length<y.length)||decide (Builtin.Str.strKind x<Builtin.Str.strKind y))
 .cases hf:(occurrences x y 0 x.length (x.length+1)).isEmpty
  .refine si o3 (typeIs_str _ _ _) oe (F.args_str_split_2 _ _) (meets_str_split_sep x y t u h1 L hf (a5 (iv _ _) cp) hn) ?_;show wants Q E _ {s with toks:=_,heap:=s.heap.push {cls:= .type "list",data:= .seq (strsFrom s.toks (partsBetween x (occurrences x y 0 x.length (x.length+1)) y.length)).toArray}};rw[strsFrom_eq];exact h (numbered s.toks _) _ ((numbered_texts _ _).trans ((hW (md h1)).trans (hW (md hf))).symm)
  .exact si o3 (typeIs_str _ _ _) oe (F.args_str_split_2 _ _) (meets_str_split_not_found x y t u h1 L hf)
    (h [(x,t)] s.toks ((hW (md h1)).trans (eb hf)).symm)
 .exact si o3 (typeIs_str _ _ _) oe (F.args_str_split_2 _ _) (meets_str_split_cannot_occur x y t u h1) (h [(x,t)] s.toks (eb h1).symm)
theorem Ir{x y:PySem.Str}{t u v:Tok}{Q:Value->Shared->Prop}{E:Value->Shared->Prop}(L:(y.length==0)=false)(cp:x.length+2<=sizeLine)
  (h:∀(q:List (PySem.Str×Tok)) tk,q.map (·.1)=Txt.splitMax x y 1->Q (.ref s.heap.objs.size) {s with heap:=s.heap.push {cls:= .type "list",data:= .seq (strValues q).toArray},toks:=tk}):
  wpAny (model J b1.w) A (call (.builtin "str.split") [.str x t,.str y u,.int 1 v]) Q E s:=by
 have hk:(decide ((1:Int)< -(2^63:Int))||decide ((1:Int)>=2^63))=false:=by decide
 have hn:(partsBetween x (occurrences x y 0 x.length (limitOf x 1)) y.length).length<=sizeLine:=by
  rw[length_partsBetween];exact hO (StrLaws.occ_length_le_len x y 0 x.length (limitOf x 1)) cp
 cases h1:(decide (x.length<y.length)||decide (Builtin.Str.strKind x<Builtin.Str.strKind y))
 .cases hf:(occurrences x y 0 x.length (limitOf x 1)).isEmpty
  .refine si o3 (typeIs_str _ _ _) oe (F.args_str_split_3 _ _ _) (meets_str_split_sep_max x y 1 t u v hk h1 L hf (a5 (iv _ _) cp) hn) ?_;show wants Q E _ {s with toks:=_,heap:=s.heap.push {cls:= .type "list",data:= .seq (strsFrom s.toks (partsBetween x (occurrences x y 0 x.length (limitOf x 1)) y.length)).toArray}};rw[strsFrom_eq];exact h (numbered s.toks _) _ ((numbered_texts _ _).trans ((hW (md h1)).trans (hW (md hf))).symm)
  .exact si o3 (typeIs_str _ _ _) oe (F.args_str_split_3 _ _ _) (meets_str_split_max_not_found x y 1 t u v hk h1 L hf)
    (h [(x,t)] s.toks ((hW (md h1)).trans (eb hf)).symm)
 .exact si o3 (typeIs_str _ _ _) oe (F.args_str_split_3 _ _ _) (meets_str_split_max_cannot_occur x y 1 t u v hk h1) (h [(x,t)] s.toks (eb h1).symm)
theorem Iu(q:jp (t::U)=some ns):∃i f,t= .str i/\jp U=some f/\i::f=ns:=by
 cases t<;>first|exact nso q|skip
 refine al (Option.map_eq_some_iff.mp q) λf e1 e2=>⟨_,f,rfl,e1,e2⟩
theorem zH:∀{U:List T}{ns:List PySem.Str}{ys:List Value},jp U=some ns->TRs b1.w g U ys->∃q:List (PySem.Str×Tok),ys=strValues q/\q.map (·.1)=ns
 |[],ns,ys,q,h=>by cases q;have h:=h;subst h;exact⟨[],rfl,rfl⟩
 |x::U,ns,ys,q,h=>by
  (refine aq (Iu q) λi f c3=>aw c3 λc2 e1 cr=>?_;clear c3;clear q;subst c2;subst cr);(refine aq h λy rr c3=>aw c3 λc2 c h2=>?_;clear c3;clear h;subst c2;rcases c with⟨t,rfl⟩);(refine ag (zH e1 h2) λq' c1=>ac c1 λc2 bo=>?_;clear c1;subst c2;subst bo);exact⟨(i,t)::q',rfl,rfl⟩
end
end Internal
end
noncomputable section
namespace Internal
open PySem PySem.W PySem.Calls PyProof.Rows
section
variable {J:Program}{b1:Cx}{r g b6:ay}{b2 b4:List Addr}{l:List Env}{A:Around}{α β γ δ:Type}{P:bt}{b7 mb:Str->Option Value}{n:Nat}{rc:aG}{e ce:AE}{env bd:Env}{O:af}{h b5:Heap}{s:Shared}{K:Frag}
theorem Iv(hv:VR b1.w g b2 v x)(ha:LR (VR b1.w g b2) be U):aa J b1 r l A (RV b1.w) g b2 (call (.builtin "str.strip") (x::U)) (bm (aE v) λt=>xF t be):=by
 refine aa.vw hv λO s bs Y t B a b S ht q=>?_;have ha:=ha.up a b;clear hv;revert ht ha;refine ge q λz q=>mG q λa q=>bY q λa q=>ge q λc q ht ha=>?_;(refine ag (gj ht) λtk bo=>?_;clear ht;subst bo);(refine ag ha.one_inv λy bi=>ac bi λc2 c1=>?_;clear bi;clear ha;subst c2;refine ag c1 λi bo=>?_;clear c1;clear ha;subst bo);refine ac (cL q) λhf q=>?_;cases q;exact SC.stripChars (λt' k=>PQ.vt S kh) (jz hf)
theorem Iw(hv:VR b1.w g b2 v x)(ha:LR (VR b1.w g b2) be U):aa J b1 r l A (RV b1.w) g b2 (call (.builtin "str.split") (x::U)) (bm (aE v) λt=>xG t be):=by
 refine aa.vw hv λO s bs Y t B a b S ht q=>?_;have ha:=ha.up a b;clear hv;revert ht ha;refine ge q λz q=>gM q (λq=>?_) λq=>?_
 .refine mG q λa q=>bY q λa q=>ge q λc q ht ha=>?_;(refine ag (gj ht) λtk bo=>?_;subst bo);(refine ag ha.one_inv λy bi=>ac bi λc2 c1=>?_;clear bi;subst c2;refine ag c1 λi bo=>?_;clear c1;subst bo);refine ac (cL q) λhf q=>?_;cases q;refine Iq (beq_eq_false_iff_ne.mpr hf.1) (jz hf.2) λH f e=>PQ.alloc S rfl (oF ?_);refine rwl _ (rwm _ ?_ List.toList_toArray) e;exact uB H
 .refine xx q λa b q=>bY q λa q=>ge q λc q=>bY q λb q=>ia q λk q ht ha=>?_;(refine ag (gj ht) λtk bo=>?_;clear ht;subst bo);(refine aq ha.two_inv λy z' D=>aw D λc2 d bi=>?_;clear D;clear ha;subst c2;clear ha;rcases d with⟨i,rfl⟩;refine ag bi λf bo=>?_;clear bi;subst bo);(refine ac (cL q) λc7 q1=>?_;rcases c7 with⟨m,j,rfl⟩);clear q;cases q1;refine Ir (beq_eq_false_iff_ne.mpr m) (jz j) λH f e=>PQ.alloc S rfl (oF ?_);refine rwl _ (rwm _ ?_ List.toList_toArray) e;exact uB H
theorem Ix(hv:VR b1.w g b2 v x)(ha:LR (VR b1.w g b2) be U):aa J b1 r l A (RV b1.w) g b2 (call (.builtin "str.join") (x::U)) (bm (aE v) λt=>tF t be):=by
 refine aa.vw hv λO s bs Y t B a b S ht q=>?_;have ha:=ha.up a b;clear hv;revert ht ha;refine ge q λz q=>mG q λa q ht ha=>?_;(refine ag (gj ht) λtk bo=>?_;clear ht;subst bo);(refine ag ha.one_inv λy c1=>ac c1 λc2 L=>?_;clear c1;subst c2);refine al (oB q) λI e2 q=>?_;have h2:=oA S L e2;clear e2 L ha;revert h2;refine j5 q λC q h2=>al (dF q) λd e3 q=>?_;(refine aq (ik h2) λad ys c3=>aw c3 λc2 hl hs=>?_;clear c3;clear ha h2;subst c2);refine al (zH e3 hs) λH e4 e5=>ac (cL q) λc q=>?_;cases q;exact SC.join (by refine rwl _ (rwm _ ?_ Array.toArray_toList) e4;exact hl) e5 c λt' k=>PQ.vt S kh
theorem Iy(hv:VR b1.w g b2 v x)(ha:LR (VR b1.w g b2) be U):aa J b1 r l A (RV b1.w) g b2 (call (.builtin "dict.get") (x::U)) (bm (aE v) λt=>tG t be):=by
 refine aa.vw hv λO s bs Y t B a b S ht q=>?_;have ha:=ha.up a b;clear hv;revert ht ha;refine pZ q λN q=>gM q (λq=>?_) λq=>?_
 .refine mG q λa q=>bY q λk q ht ha=>?_;(refine aq (gh J ht) λad ps M=>bS M λc2 hs hd k1 k2=>?_;clear M;subst c2);(refine ag ha.one_inv λy c1=>ac c1 λc2 L=>?_;clear c1;subst c2);refine al (dF q) λf hk q=>?_;cases q;refine ac (mV f k1 k2) λd1 m=>call_meetsIn F.slot_dict_get hd.mapOf.typeIs F.entry_dict_get (F.args_dict_get_2 _ _) (meets_dict_get (kk J b1.w) ad (jw hk L) hs) ⟨_,hd.mapOf,?_⟩;show PQ _ _ _ _ _ _ _ _ _ _
  cases hg:bg N f with
  |none=>refine rwm _ ?_ (d1 hg);exact PQ.vt S qr
  |some t=>refine al (m t hg) λz hz tz=>?_;refine rwm _ ?_ hz;exact PQ.vt S tz
 .refine xx q λa d q=>bY q λk q ht ha=>?_;(refine aq (gh J ht) λad ps M=>bS M λc2 hs hd k1 k2=>?_;clear M;clear ht;subst c2);(refine aq ha.two_inv λy z' c3=>aw c3 λc2 L hz=>?_;clear c3;clear ha;subst c2);refine al (dF q) λf hk q=>?_;cases q;refine ac (mV f k1 k2) λd1 m=>call_meetsIn F.slot_dict_get hd.mapOf.typeIs F.entry_dict_get (F.args_dict_get_3 _ _ _) (meets_dict_get_default (kk J b1.w) ad (jw hk L) hs z') ⟨_,hd.mapOf,?_⟩;show PQ _ _ _ _ _ _ _ _ _ _
  cases hg:bg N f with
  |none=>refine rwm _ ?_ (d1 hg);exact PQ.tok S hz
  |some t=>refine al (m t hg) λz hz tz=>?_;refine rwm _ ?_ hz;exact PQ.vt S tz
theorem Iz(h:gc k y=true):(keyPart y).isSome=true:=by
 (refine a2 (w5 h) (λzz=>?_) (λzz=>?_);refine aq zz λi t bi=>ac bi λc2 bo=>?_;clear bi;clear h;subst c2;subst bo;rotate_left;refine aq zz λx t bi=>ac bi λc2 bo=>?_;clear bi;subst c2;subst bo;rotate_right)<;>rfl
theorem IA(hv:VR b1.w g b2 v x)(ha:LR (VR b1.w g b2) be U):aa J b1 r l A (RV b1.w) g b2 (call (.builtin "dict.pop") (x::U)) (qd v be):=by
 intro O B s bs Y a b S q;have hv:=VR.mono a b _ _ hv;have ha:=ha.up a b;revert hv ha;refine xy q λi q=>mG q λa q=>bY q λk q hv ha=>?_;(refine ag ha.one_inv λy c1=>ac c1 λc2 L=>?_;clear c1;subst c2);(refine ag hv λad c1=>ac c1 λj bo=>?_;clear c1;subst bo);refine al (dE q) λQ hi q=>?_;revert hi;refine Fs q λN q hi=>al (dF q) λf hk q=>al (dF q) λt hg q=>ac (cL q) λhf q=>?_;cases q;have w:=S.own _ _ _ hi j;refine cS w λes ep ho z=>ls (gh J (show HR b1.w bs s.heap (.dict N) (.ref ad) from⟨ad,es,ep,rfl,ho,z⟩)) λI ps e1 hs hd k1 k2=>?_;cases e1;refine ac (mV f k1 k2) λd1 m=>al (m t hg) λz hz tz=>?_;have bb:=uA k1;refine call_meetsIn F.slot_dict_pop hd.mapOf.typeIs F.entry_dict_pop (F.args_dict_pop_2 _ _) (meets_dict_pop_there (kk J b1.w) ad (jw hk L) [] (.inl rfl) (Iz (jw hk L))) ⟨ps,z,hd,by refine rwm _ ?_ bb;exact jz hf,hz,λb5 c9 c3=>?_⟩;exact⟨bs,Y,_,rfl,⟨⟨b5,_,rfl⟩,.refl _,.refl _⟩,S.set hi rfl j c3.extBut rfl (oJ c9 (DP.del ⟨k1,k2⟩) (beq_eq_false_iff_ne.mp hs)) (λo' e1 e2=>by rw[ho] at e1;cases e1;simp at e2),tz⟩
theorem IB(hv:VR b1.w g b2 v x)(ha:LR (VR b1.w g b2) be U):aa J b1 r l A (RV b1.w) g b2 (call (.builtin "list.append") (x::U)) (xH v be):=by
 intro O B s bs Y a b S q;have hv:=VR.mono a b _ _ hv;have ha:=ha.up a b;revert hv ha;refine xy q λi q=>mG q λu q hv ha=>?_;(refine ag ha.one_inv λy c1=>ac c1 λc2 L=>?_;clear c1;clear ha;subst c2);(refine ag hv λad c1=>ac c1 λj bo=>?_;clear c1;clear hv;subst bo);refine aa.freeze L (λbs Y t hg hr ht=>?_) O B s bs Y (.refl _) (.refl _) S q;intro O B s c5 bl a b S q;have j:=b _ _ (hr _ _ j);refine al (dE q) λQ hi q=>?_;revert hi;refine Ft q λm q hi=>ac (cL q) λhf q=>?_;cases q;refine cS (S.own _ _ _ hi j) λys ep ho hs=>?_;refine wpAny_list_append_plain (hsz:=by have:=jz hf;refine rwl _ ?_ (hs.len.trans (ej (xs:=ys)));exact Nat.le_of_succ_le this) (⟨ep,ho⟩:s.heap.PlainList ad ys) λb5 c4 c3=>?_;refine ag c4 λcf w=>⟨c5,bl,_,rfl,⟨⟨b5,s.toks,rfl⟩,.refl _,.refl _⟩,S.set hi rfl j c3.extBut rfl ⟨ys.push y,cf,w,?_⟩ (λo' e1 e2=>by rw[ho] at e1;cases e1;simp at e2),qr (b1:=b1) (g:=c5)⟩;refine rwm _ ?_ Array.toList_push;exact hs.app ⟨y,[],rfl,TR.mono a _ _ ht,rfl⟩
theorem IC(k:Nat)(hv:VR b1.w g b2 v x)(ha:LR (VR b1.w g b2) be U):aa J b1 r l A (RV b1.w) g b2 (call (.builtin (xE k)) (x::U)) (iL k v be):=by
 rcases k with _|_|_|_|_|k
 .exact Iv hv ha
 .exact Iw hv ha
 .exact Ix hv ha
 .exact Iy hv ha
 .exact IA hv ha
 .exact IB hv ha
structure uC (K:Frag) (cx:Cx) (P:bt):Prop where
 X:K.In cx.B
 meth:∀C n f,P.meth C n=some f->findIn K (.ref C) "__getattribute__"=some (some (.builtin "object.__getattribute__"))/\findIn K (.ref C) "__getattr__"=some none/\findIn K (.ref C) n=some (some (.ref f))/\
  typeIn K (.ref f)=some (.type "function")/\∃o fd,cx.B.get? f=some o/\o.data= .func fd
theorem zI{m:Str->Option Value}(hn:fh o m)(hv:m x=none):lookIn x o=some none:=by
 (refine b9 hn λes ep hd hk hf=>?_;clear hn);have:=hf x;rw[hv] at this;unfold nsFind findBy at this;have dd:es.find? (λe=>e.key.isStr x)=none:=by
  cases q:es.find? (λe=>e.key.isStr x) with
  |none=>rfl
  |some f=>rw[q] at this;exact sno this
 have i:es.toList.any (·.refKey)=false:=by
  rw[List.any_eq_false];intro e he;(refine bc λno=>aq (hk e (by simpa using he)) λn t h=>no ?_;clear no);simp [DictEntry.refKey,h]
 unfold lookIn;refine rwm _ ?_ hd;dsimp only;refine rwm _ (rwm _ ?_ dd) (Array.find?_toList);simp [i]
theorem uD{α:Type}:∀{fs:List (Str×α)}{x:Str},(fs.lookup x).isNone=true->x∉fs.map (·.1)
 |[],x,_=>by simp
 |(k,v)::fs,x,h=>by
  rw[List.lookup_cons] at h
  cases q:x==k with
  |true=>rw[q] at h;exact ftf h
  |false=>
   rw[q] at h;simp only[List.map_cons,List.mem_cons,not_or];exact⟨beq_eq_false_iff_ne.mp q,uD h⟩
theorem zJ{α:Type}{fs:List (Str×α)}{B:Except Addr (Option Addr)×af}(q:tH x C fs O=some B):B=(.ok (some C),O)/\(fs.lookup x).isNone=true:=by
 refine ac (cL q) λh e=>⟨(ai e).symm,h⟩
theorem zK{B:Except Addr (Option Addr)×af}(q:qh x u O=some B):∃c,B=(.ok c,O)/\∀C,c=some C->∃fs,u= .inst C fs/\(fs.lookup x).isNone=true:=by
 cases u<;>first|exact⟨none,(ai q).symm,λC e=>nso e⟩|skip
 refine ac (zJ q) λe h=>⟨_,e,λC e=>⟨_,by exact rwm _ rfl (ai e),h⟩⟩
theorem ID{B:Except Addr (Option Addr)×af}(q:tI x u O=some B):∃c,B=(.ok c,O)/\∀C,c=some C->(∃fs,u= .sh C fs/\(fs.lookup x).isNone=true)\/∃fs,u= .fz (.inst C fs)/\(fs.lookup x).isNone=true:=by
 cases u<;>first|exact⟨none,(ai q).symm,λC e=>nso e⟩|skip
 .refine ac (zJ q) λe h=>⟨_,e,λC e=> .inl ⟨_,by exact rwm _ rfl (ai e),h⟩⟩
 .refine al (zK q) λc e h=>⟨c,e,λC e=>by refine al (h C e) λfs h1 h2=> .inr ⟨fs,by exact rwm _ rfl h1,h2⟩⟩
theorem zM{B:Except Addr (Option Addr)×af}(S:St b1 r g b2 l O h)(hv:VR b1.w g b2 v y)(q:mK v x O=some B):
  ∃c,B=(.ok c,O)/\∀C,c=some C->∃a ox od,y= .ref a/\InstAt h a ox C (some od)/\shadowIn (some od) x=some false:=by
 have tree:∀{C:Addr}{fs:List (Str×T)}{y:Value},TR b1.w g (.inst C fs) y->(fs.lookup x).isNone=true->∃a ox od,y= .ref a/\InstAt h a ox C (some od)/\shadowIn (some od) x=some false:=by
  intro C fs y ht hx;refine sR ht λa d od m e h1 h2 h3 h4 h5=>⟨a,_,od,e,⟨S.fr _ _ h1,rfl,rfl,S.fr _ _ h2⟩,?_⟩;show(lookIn x od).map _=_;refine rwm _ ?_ (zI h3 (h5 _ (uD hx)));rfl
 cases v with
 |t t=>
  refine al (zK q) λc e k=>⟨c,e,λC e=>by refine al (k C e) λfs h1 h2=>tree (h1▸TR.strip hv) h2⟩
 |own i=>
  (refine ag hv λad c1=>ac c1 λj bo=>?_;clear c1;clear hv;subst bo);refine al (dE q) λQ hi q=>?_;have w:=S.own i Q ad hi j;refine al (ID q) λc e k=>⟨c,e,λC e=>?_⟩;(refine bc λno=>a2 (k C e) (λzz=>ag zz λfs c1=>ac c1 λh1 h2=>no ?_) (λzz=>ag zz λfs c1=>ac c1 λh1 h2=>no ?_)<;>clear c1 zz no)
  .clear hi q k;subst h1;refine dm w λd od m h1 h3 h4 h5 G=>⟨ad,_,od,rfl,⟨S.fr _ _ h1,rfl,rfl,S.fr _ _ h3⟩,?_⟩;show(lookIn x od).map _=_;refine rwm _ ?_ (zI h4 (G _ (uD h2)));rfl
  .clear hi q k;subst h1;exact tree w h2
theorem IE{pl:Sem Bool}{Q:Value×List Value->Shared->Prop}{E:Value->Shared->Prop}(S:St b1 r g b2 l O s.heap)(ht:HR b1.w g s.heap t x)(h1:mI t=some L)(h2:lI L bb=some k)(hq:Q (.builtin (xE k),[x]) s):
  wpAny (model J b1.w) A (getMethod x bb pl) Q E s:=by
 revert ht;cases t<;>first|exact nso h1|(have h1:=ai h1;subst h1;intro ht)
 ·(refine ag (gj ht) λtk bo=>?_;subst bo);refine gk h2 (λhn e=>?_) λh2=>gk h2 (λhn e=>?_) λh2=>gk h2 (λhn e=>?_) nso<;>(subst hn;have e:=ai e;subst e)
  .exact GM.strip hq
  .exact GM.split hq
  .exact GM.join hq
 ·(refine a9 ht λa ys ep D=>aw D λc2 ho _=>?_;clear D;subst c2);refine gk h2 (λhn e=>?_) nso;subst hn;have e:=ai e;subst e;exact getMethod_builtin ⟨_,ho,rfl⟩ F.plainAttrs_list F.slot_list_append F.type_list_append (λa e=>by cases e;exact⟨_,ho,rfl⟩) hq
 ·(refine a9 ht λa es ep D=>aw D λc2 ho _=>?_;clear D;clear ht;subst c2);refine gk h2 (λhn e=>?_) λh2=>gk h2 (λhn e=>?_) nso<;>(clear h2;subst hn;have e:=ai e;subst e)
  .exact getMethod_builtin ⟨_,ho,rfl⟩ F.plainAttrs_dict F.slot_dict_get F.type_dict_get (λa e=>by cases e;exact⟨_,ho,rfl⟩) hq
  .exact getMethod_builtin ⟨_,ho,rfl⟩ F.plainAttrs_dict F.slot_dict_pop F.type_dict_pop (λa e=>by cases e;exact⟨_,ho,rfl⟩) hq
theorem zN(S:aL J b1 n rc)(hR:Rm A l n)(he:ER b1 l g b2 e env)(be:List Expr)(c4:Pos)(hs:be.all noStar=true)(hk:∀(s:Shared)(b6:ay)(b4:List Addr)(O:af),aZ g b6->St b1 r b6 b4 l O s.heap->∀(Q:Keeper->Shared->Prop)(E:Value->Shared->Prop),(∀k,Q k s)->wpAny (model J b1.w) A (keeperOf f) Q E s){m:List V->MM V}
  (hc:∀bs Y vs U,aZ g bs->bu b2 Y->LR (VR b1.w bs Y) vs U->aa J b1 r l A (RV b1.w) bs Y (call f (x::U)) (m vs)):
  aa J b1 r l A (RV b1.w) g b2 (callWith c4 f [x] (backTo c4 (starEach be env)) []) (bm (a8 rc e be) m):=by
 have d:=mX (c4:=c4) (env:=env) be hs;have i:(backTo c4 (starEach be env)).any (·.1)=false:=by
  rw[List.any_eq_false];intro p hp;simp [d p hp]
 intro O B s bs Y a b H q;unfold callWith;refine ae (en (qx d ?_));(refine a2 (ed q) (λzz=>?_) (λzz=>?_);refine aq zz λvs c6 bi=>ac bi λe1 q=>?_;clear bi;rotate_left;refine aq zz λc c6 bi=>ac bi λe1 bo=>?_;clear bi;clear zz;subst bo;rotate_right)
 .refine ea (jv S hR be c4 bs Y (he.mono a b) O _ s bs Y (.refl _) (.refl _) H e1) (λU s' z=>?_) λy s' z=>?_
  ·(refine ch z λc9 N j e2 p S3 c1=>?_;clear z);(have D:=oke e2;clear e2;cases D);refine ae (kV ?_);refine qy i (λQ' hq=>hk s' c9 N _ (a.trans p.2.1) S3 Q' _ hq) (ea (hc c9 N vs U (a.trans p.2.1) (b.trans p.2.2) c1 c6 B s' c9 N (.refl _) (.refl _) S3 q) (λ_ _ z=>z.up p) λ_ _ z=>z.up p)
  .refine cT z λ_ _ _ _ q1 _=>oee q1
 .refine ea (jv S hR be c4 bs Y (he.mono a b) O _ s bs Y (.refl _) (.refl _) H e1) (λU s' z=>?_) λy s' z=>?_
  .refine dZ z λ_ _ _ q1 _=>eoe q1
  .refine cT z λc9 N c' ex q1 z=>?_;(have D:=ere q1;clear q1;cases D);exact⟨c9,N,_,ex,rfl,z⟩
theorem zO(be:List Expr)(c4:Pos)(hs:be.all noStar=true)(hl:be.length<20):methodCallForm (be.length+0) (backTo c4 (starEach be env)) []=true:=by
 unfold methodCallForm;have:(backTo c4 (starEach be env)).all (!·.1)=true:=by
  rw[List.all_eq_true];intro p hp;simp [mX be hs p hp]
 refine rwm _ ?_ this;simp;exact lB hl rfl
theorem zP(o:Expr)(bb:Str)(d c4:Pos)(be:List Expr):eval (.Call (.Attribute o bb d) be [] c4) env=(do
  let M<-attributeBase o bb env (eval o env)
  standAt d.atName
  methodCall o bb d c4 env M (be.length+0) (backTo c4 (starEach be env)) []):=rfl
theorem IF(k9:uC K b1 P)(S:aL J b1 n rc)(hR:Rm A l n)(he:ER b1 l g b2 e env)(o:Expr)(bb:Str)(be:List Expr)(d c4:Pos):
  aa J b1 r l A (RV b1.w) g b2 (eval (.Call (.Attribute o bb d) be [] c4) env) (tO P rc e o bb be d c4):=by
 unfold tO
 by_cases hc:(d.endLine==c4.line&&be.all noStar&&decide (be.length<20)&&fN o)=true
 rotate_left
 .refine rwm _ ?_ (hW hc);exact aa.none
 refine rwm _ ?_ (eb hc);simp only[Bool.and_eq_true,decide_eq_true_eq] at hc;(refine ac hc λc7 fx=>?_;clear hc;rcases c7 with⟨⟨dt,ds⟩,f1⟩);rw[zP,ua fx];refine aa.bind (S.ev hR he o) λbs Y v x hg hr hv=>aa.standAt ?_;have cf:=he.mono hg hr;intro O B s c5 bl a b H q;have bo:=cf.mono a b;have hv:=VR.mono a b _ _ hv;unfold methodCall;refine rwm _ ?_ (zO be c4 ds f1);have z:methodCallPos true o env d c4=pure c4:=by
  unfold methodCallPos;refine rwm _ ?_ dt;rfl
 refine rwm _ ?_ z;have cl:∀{f:Value}{m:MM V},(∀(Q:Value×List Value->Shared->Prop)(E:Value->Shared->Prop),Q (f,[x]) s->wpAny (model J b1.w) A (calleeOf true o env x bb) Q E s)->m O=some B->
   aa J b1 r l A (RV b1.w) c5 bl (callWith c4 f [x] (backTo c4 (starEach be env)) []) m->
   wpAny (model J b1.w) A (do
    let(f,first)<-holding [x] (calleeOf true o env x bb)
    let j<-(pure c4:Sem Pos)
    callWith j f first (backTo c4 (starEach be env)) []) (PQ (RV b1.w) b1 r l s c5 bl B) (PE b1 r l s c5 bl B) s:=by
  intro f m c3 q hm;refine ae (en (c3 _ _ ?_));exact ae (ar (hm O B s c5 bl (.refl _) (.refl _) H q))
 (refine bc λno=>a2 (ed q) (λzz=>aq zz λc c6 bi=>ac bi λe1 q=>no ?_) (λzz=>aq zz λc c6 bi=>ac bi λe1 _=>no ?_)<;>clear bi zz no);rotate_left
 .refine al (zM H hv e1) λ_ e2 _=>?_;cases e2
 refine al (zM H hv e1) λc' e2 y=>?_;clear e1;cases e2
 cases c with
 |some C=>
  refine al (dF q) λf hm q=>?_;(refine bc λno=>bS (k9.meth C bb f hm) λG m2 m3 m4 cv=>aq cv λom fd bi=>ac bi λm5 m6=>no ?_;clear bi cv no);(refine a9 (y C rfl) λxa ox od D=>aw D λc2 I u=>?_;clear D;clear y;subst c2);have X:=k9.X.keeps H.ground;refine cl (λQ E hq=>method_fn X I G m2 m3 m4 u hq) q (zN S hR bo be c4 ds (λs' b6 b4 M w S3 Q E hq=>?_) λc9 N vs U w i c1=>?_)
  .unfold keeperOf;refine ae (qq (S3.ground _ _ m5) ?_);refine rwm _ ?_ m6;exact ar (hq _)
  .exact S.call hR (.t (.top f)) (v::vs) (.ref f) (.ref xa::U) rfl (.cons (VR.mono w i _ _ hv) c1)
 |none=>
  refine al (oB q) λt ht q=>?_;have hh:=oA H hv ht;refine al (dF q) λL p q=>al (dF q) λk hk q=>cl (λQ E hq=>IE H hh p hk hq) q (zN S hR bo be c4 ds (λs' b6 b4 M w S3 Q E hq=>?_) λc9 N vs U w i c1=>?_)
  .exact ar (hq _)
  .exact IC k (VR.mono w i _ _ hv) c1
noncomputable def cw(b2:List Addr)(p:List Nat):List Addr:=p.map λk=>(b2[k]?).getD 0
theorem mZ{p:List Nat}{i k:Nat}{a:Addr}(e:p[i]? =some k)(q:b2[k]? =some a):(cw b2 p)[i]? =some a:=by
 unfold cw;refine a0 (pc) (rwm _ ?_ e);simp [q]
theorem m7{p:List Nat}{i:Nat}{a:Addr}(q:(cw b2 p)[i]? =some a):∃k,p[i]? =some k/\a=(b2[k]?).getD 0:=by
 unfold cw at q;rw[List.getElem?_map] at q
 cases e:p[i]?with
 |none=>rw[e] at q;exact nso q
 |some k=>rw[e] at q;cases q;exact⟨k,rfl,rfl⟩
theorem uE(p b:List Nat):bu (cw b2 p) (cw b2 (p++b)):=by
 unfold cw;refine rwm _ ?_ i5;exact .app _ _
theorem uF:∀{p:List Nat}{j i:Nat},jt k p j=some i->∃d,i=j+d/\p[d]? =some k
 |[],_,_,e=>nomatch e
 |a::p,j,i,e=>by
  have e:(if a=k then some j else jt k p (j+1))=some i:=e
  by_cases q:a=k
  .rw[if_pos q] at e;cases e;subst q;exact⟨0,rfl,rfl⟩
  .rw[if_neg q] at e;refine al (uF e) λd e1 e2=>⟨d+1,e1.trans (Nat.add_right_comm _ _ _),by simpa using e2⟩
theorem zQ:∀{p:List Nat}{j:Nat},jt k p j=none->k∉p
 |[],_,_=>by simp
 |a::p,j,e=>by
  have e:(if a=k then some j else jt k p (j+1))=none:=e
  by_cases q:a=k
  .rw[if_pos q] at e;exact sno e
  .rw[if_neg q] at e;intro hm;(refine a2 (hy.mp hm) (λzz=>?_) (λhm=>?_);subst zz;rotate_left;rotate_right)
   .exact q rfl
   .exact zQ e hm
structure PI (cx:Cx) (g:ay) (ρ:List Addr) (O:af) (h:Heap) (p:Pk):Prop where
 len:p.S.length=p.σ.length
 nd:p.σ.Nodup
 at_:∀(i k:Nat),p.σ[i]? =some k->∃mo mo' a,O[k]? =some mo/\p.S[i]? =some mo'/\ρ[k]? =some a/\isFz mo=isFz mo'/\OR cx.w g (cw ρ p.σ) h mo' a
theorem PI.nil:PI b1 g b2 O h ⟨[],[]⟩:=⟨rfl,.nil,λi k e=>by simp at e⟩
theorem PI.push{p:Pk}(I:PI b1 g b2 O h p)(hk:k∉p.σ)(ho:O[k]? =some Q)(ha:b2[k]? =some a)(hf:isFz Q=isFz f)
  (c:OR b1.w g (cw b2 (p.σ++[k])) h f a):PI b1 g b2 O h ⟨p.σ++[k],p.S++[f]⟩:=by
 refine⟨by simp [I.len],?_,λi j e=>?_⟩
 .exact List.nodup_append.mpr ⟨I.nd,by simp,λx hx y L=>by simp at L;subst L;intro q;subst q;exact hk hx⟩
 ·(refine a2 (dB e) (λe=>?_) (λzz=>?_);rotate_left;refine ac zz λc2 bo=>?_;clear zz;subst c2;clear hk;subst bo;rotate_right)
  .refine dm (I.at_ i j e) λG m2 b e1 e2 e3 e4 e5=>⟨G,m2,b,e1,?_,e3,e4,e5.mono (.refl _) (uE _ _) (.same λ_ z=>z)⟩;show(p.S++[f])[i]? =_;refine a0 (List.getElem?_append_left (List.getElem?_eq_some_iff.mp e2).1) ?_;exact e2
  .refine⟨Q,f,a,ho,?_,ha,hf,c⟩;show(p.S++[f])[p.σ.length]? =_;refine rwl _ ?_ I.len;simp
noncomputable def fT(p B:Pk):Prop:=∃b,B.σ=p.σ++b
theorem fT.refl(p:Pk):fT p p:=⟨[],by simp⟩
theorem fT.trans(x:fT p q)(y:fT q t):fT p t:=by
 (refine ag x λa e=>?_;clear x);refine ag y λb e'=>⟨a++b,by rw[e',e,List.append_assoc]⟩
theorem fT.rle{p B:Pk}(x:fT p B):bu (cw b2 p.σ) (cw b2 B.σ):=by
 (refine ag x λt e=>?_;clear x);refine rwm _ ?_ e;exact uE _ _
theorem zR{p B:Pk}(I:PI b1 g b2 O h p)(ho:O[k]? =some Q)(ha:b2[k]? =some a)(w:OR b1.w g (cw b2 (p.σ++[k])) h Q a)(q:some (qi k Q p)=some (v,B)):
  PI b1 g b2 O h B/\fT p B/\VR b1.w g (cw b2 B.σ) v (.ref a):=by
 have q:=ai q;unfold qi at q
 cases hf:jt k p.σ 0 with
 |some i=>
  rw[hf] at q;cases q;refine al (uF hf) λd e1 e2=>⟨I,.refl _,a,mZ (by refine rwm _ ?_ e1;simpa using e2) ha,rfl⟩
 |none=>
  rw[hf] at q;cases q;exact⟨I.push (zQ hf) ho ha rfl w,⟨_,rfl⟩,a,mZ (by simp) ha,rfl⟩
theorem zS(S:St b1 r g b2 l O h){p B:Pk}(I:PI b1 g b2 O h p)(ha:b2[k]? =some a)(q:tK k p O[k]? =some (v',B)):
  PI b1 g b2 O h B/\fT p B/\VR b1.w g (cw b2 B.σ) v' (.ref a):=by
 cases ho:O[k]?with
 |none=>rw[ho] at q;exact nso q
 |some Q=>
  rw[ho] at q;have w:=S.own _ _ _ ho ha;cases Q<;>first|exact nso q|skip
  .exact zR I ho ha w q
  .exact zR I ho ha w q
  .cases q;exact⟨I,.refl _,w⟩
theorem IG(S:St b1 r g b2 l O h){p B:Pk}(I:PI b1 g b2 O h p)(hv:VR b1.w g b2 v x)(q:xK v O p=some (v',B)):
  PI b1 g b2 O h B/\fT p B/\VR b1.w g (cw b2 B.σ) v' x:=by
 cases v with
 |t t=>cases q;exact⟨I,.refl _,hv⟩
 |own k=>
  (refine ag hv λa c1=>ac c1 λha bo=>?_;clear c1;clear hv;subst bo);exact zS S I ha q
theorem zT(S:St b1 r g b2 l O h){m:Str->Option Value}:∀{fs b:List (Str×V)}{p B:Pk},PI b1 g b2 O h p->FR (VR b1.w g b2) fs m->tL O fs p=some (b,B)->
  PI b1 g b2 O h B/\fT p B/\FR (VR b1.w g (cw b2 B.σ)) b m/\b.map (·.1)=fs.map (·.1)
 |[],_,_,_,I,_,q=>by cases q;exact⟨I,.refl _,trivial,rfl⟩
 |(k,v)::fs,b,p,B,I,hv,q=>by
  (refine bc λno=>ag (Option.bind_eq_some_iff.mp q) λu c1=>?_;rcases u with⟨i,f⟩;refine ac c1 λh1 q=>no ?_;clear no);(refine bc λno=>ag (Option.bind_eq_some_iff.mp q) λu c1=>?_;rcases u with⟨c,t⟩;refine ac c1 λh2 q=>no ?_;clear no);clear c1;cases q;(refine ac hv λc7 hr=>?_;clear hv;rcases c7 with⟨x,e,hx⟩);(refine bc λno=>aw (IG S I hx h1) λo z w=>no ?_;clear no);refine bc λno=>bK (zT S o hr h2) λD d C j=>no (⟨D,z.trans d,⟨⟨x,e,VR.mono (.refl _) d.rle _ _ w⟩,C⟩,hQ (k::·) j⟩)
theorem IH{α:Type}{x:Option MO}{f:Addr->List (Str×V)->Option α}{y:Option α}{z:α}{P:Prop}(q:xL x f y=some z)(k1:∀C fs,x=some (.sh C fs)->f C fs=some z->P)(k2:y=some z->P):P:=by
 cases x with
 |none=>exact k2 q
 |some Q=>cases Q<;>first|exact k1 _ _ rfl q|exact k2 q
theorem II(S:St b1 r g b2 l O h){v v':V}{p B:Pk}{x:Value}(I:PI b1 g b2 O h p)(hv:VR b1.w g b2 v x)(q:xM v O p=some (v',B)):
  PI b1 g b2 O h B/\fT p B/\VR b1.w g (cw b2 B.σ) v' x:=by
 cases v with
 |t t=>cases q;exact⟨I,.refl _,hv⟩
 |own k=>
  (refine ag hv λa c1=>ac c1 λha bo=>?_;clear c1;clear hv;subst bo);refine IH q (λC fs ho q=>?_) λq=>zS S I ha q
  cases hf:jt k p.σ 0 with
  |some i=>
   rw[hf] at q;cases q;refine al (uF hf) λd e1 e2=>⟨I,.refl _,a,mZ (by refine rwm _ ?_ e1;simpa using e2) ha,rfl⟩
  |none=>
   rw[hf] at q;(refine bc λno=>ag (Option.bind_eq_some_iff.mp q) λu c1=>?_;rcases u with⟨c,f⟩;refine ac c1 λh1 q=>no ?_;clear no);refine ac (mF q) λhk q=>?_;clear c1;cases q;refine dm (S.own _ _ _ ho ha) λd od m e1 e2 e3 e4 e5=>?_;refine bc λno=>bK (zT S I e4 h1) λo z w b=>no (⟨o.push hk ho ha rfl ⟨d,od,m,e1,e2,e3,w.mono' (VR.mono (.refl _) (uE _ _)),λn hn=>e5 n (by refine rwl _ ?_ b;exact hn)⟩,z.trans ⟨_,rfl⟩,a,mZ (by simp) ha,rfl⟩)
theorem zU(S:St b1 r g b2 l O h):∀{vs j:List V}{p B:Pk}{U:List Value},PI b1 g b2 O h p->LR (VR b1.w g b2) vs U->iN O vs p=some (j,B)->
  PI b1 g b2 O h B/\fT p B/\LR (VR b1.w g (cw b2 B.σ)) j U
 |[],_,_,_,_,I,hv,q=>by cases q;exact⟨I,.refl _,hv⟩
 |v::vs,j,p,B,U,I,⟨y,ys,e,L,hr⟩,q=>by
  (refine bc λno=>ag (Option.bind_eq_some_iff.mp q) λu c1=>?_;rcases u with⟨i,f⟩;refine ac c1 λh1 q=>no ?_;clear no);(refine bc λno=>ag (Option.bind_eq_some_iff.mp q) λu c1=>?_;rcases u with⟨c,t⟩;refine ac c1 λh2 q=>no ?_;clear no);clear c1;cases q;(refine bc λno=>aw (II S I L h1) λo z w=>no ?_;clear no);refine bc λno=>aw (zU S o hr h2) λD d C=>no (⟨D,z.trans d,y,ys,e,VR.mono (.refl _) d.rle _ _ w,C⟩)
def Hd(b2:List Addr)(O:af)(p:List Nat)(b:Addr):Prop:=∃j Q,O[j]? =some Q/\isFz Q=false/\b2[j]? =some b/\j∉p
open Classical in
def fw(r:ay)(b2:List Addr)(O:af)(p:List Nat)(h:Heap):ay:=λb=>if Hd b2 O p b then h.get? b else r b
theorem uG(S:St b1 r g b2 l O h)(e:r b=some o):fw r b2 O p h b=some o:=by
 unfold fw;rw[if_neg];exact e
 rintro ⟨j,Q,e1,e2,e3,_⟩
 rw[(S.free j Q b e1 e3 e2).2.1] at e;exact nso e
theorem uH(S:St b1 r g b2 l O h)(e:fw r b2 O p h b=none):r b=none/\¬Hd b2 O p b:=by
 have h1:r b=none:=by
  cases z:r b with
  |none=>rfl
  |some o=>rw[uG S z] at e;exact sno e
 refine⟨h1,λhd=>?_⟩;unfold fw at e;rw[if_pos hd] at e;refine mA hd λj Q e1 e2 e3 _=>ag (OR.there e2 (S.own j Q b e1 e3)) λo ho=>?_;rw[ho] at e;exact sno e
set_option tactic.hygienic true in
theorem uI(S:St b1 r g b2 l O h){p:Pk}(I:PI b1 g b2 O h p):St b1 (fw r b2 O p.σ h) g (cw b2 p.σ) l p.S h where
 base:=S.base
 fr:=S.fr
 rs:=λb o e=>by
  unfold fw at e
  split at e
  .exact⟨o,e,.refl _⟩
  .exact S.rs b o e
 len:=by refine rwm _ ?_ I.len;simp [cw]
 own:=λi Q a e1 e2=>by
  (refine ag (m7 e2) λk c1=>ac c1 λe3 bo=>?_;clear c1;subst bo);refine dm (I.at_ i k e3) λG m2 b f1 f2 u t y=>?_;rw[e1] at f2;cases f2;refine rwm _ ?_ u;exact y
 free:=λi Q a e1 e2 q=>by
  (refine ag (m7 e2) λk c1=>ac c1 λe3 bo=>?_;clear c1;subst bo);refine dm (I.at_ i k e3) λG m2 b f1 f2 u t y=>?_;rw[e1] at f2;cases f2;refine rwm _ ?_ u;refine bc λno=>aw (S.free k G b f1 u (t.trans q)) λz1 v Y=>no (⟨z1,?_,Y⟩);unfold fw;simp only[Option.getD_some];rw[if_neg];exact v
  rintro ⟨j,f,g1,g2,g3,g4⟩
  have:=S.nd j k f G b g1 f1 g2 (t.trans q) g3 u;subst this;exact g4 (List.mem_of_getElem? e3)
 nd:=λi j Q f a e1 e2 q q' e3 e4=>by
  (refine ag (m7 e3) λk c1=>ac c1 λf1 bo=>?_;clear c1;subst bo);refine al (m7 e4) λE c f0=>dm (I.at_ i k f1) λG m2 b f2 u t y _=>dm (I.at_ j E c) λz H b' d N U C _=>?_;rw[e1] at u;cases u;rw[e2] at N;cases N;rw[t,U] at f0;simp only[Option.getD_some] at f0;subst f0;have:=S.nd k E G z b f2 d (y.trans q) (C.trans q') t U;clear d U;subst this;have w:=(List.getElem?_eq_some_iff.mp f1);(refine ag w λhi ei=>?_;clear w);refine ag ((List.getElem?_eq_some_iff.mp c)) λhj D=>(List.getElem_inj I.nd).mp (ei.trans D.symm)
 gr:=λb o e=>by
  unfold fw at e
  split at e
  .rename_i hd
   (refine mA hd λj Q e1 e2 e3 _=>?_;clear hd);refine bc λno=>aw (S.free j Q b e1 e3 e2) λz1 v Y=>no (⟨z1,Y⟩)
  .exact S.gr b o e
 gt:=S.gt
 tabs:=S.tabs
 frs:=S.frs
end
section
variable {J:Program}{b1:Cx}{r g b6:ay}{b2 b4:List Addr}{l:List Env}{A:Around}{α β γ δ:Type}{P:bt}{b7 mb:Str->Option Value}{n:Nat}{rc:aG}{e ce:AE}{env bd:Env}{O M H:af}{h b5:Heap}{s:Shared}{K:Frag}
theorem zV:∀{p:List Nat}{S O M:af},unpack c p S O=some M->p.Nodup->
  M.length=O.length/\(∀(k:Nat),k∉p->M[k]? =O[k]?)/\(∀(i k:Nat),p[i]? =some k->k<O.length->∃Q f,S[i]? =some Q/\ou c Q=some f/\M[k]? =some f)
 |[],_,O,M,q,_=>by cases q;exact⟨rfl,λ_ _=>rfl,λi k e=>by simp at e⟩
 |k::p,[],_,_,q,_=>nomatch q
 |k::p,Q::S,O,M,q,nd=>by
  refine al (Option.bind_eq_some_iff.mp (show((ou c Q).bind λf=>unpack c p S (O.set k f))=some M from q)) λf hm q=>?_
  .skip
   refine ac (ni.mp nd) λhk nd=>?_;refine bc λno=>aw (zV (O:=O.set k f) q nd) λe1 e2 e3=>no (⟨by exact rwm _ (rwm _ rfl np) e1,λj hj=>?_,λi j hi hl=>?_⟩)
   .have h1:j≠k:=λz=>hj (z▸qn);have h2:j∉p:=λz=>hj (List.mem_cons_of_mem _ z);exact rwm _ (rwm _ rfl (pv (Ne.symm h1))) (e2 j h2)
   .cases i with
    |zero=>
     simp at hi;subst hi;refine⟨Q,f,rfl,hm,?_⟩;exact rwm _ (rwm _ rfl (List.getElem?_set_self hl)) (e2 k hk)
    |succ i=>
     refine b9 (e3 i j (by simpa using hi) (by refine rwm _ ?_ np;exact hl)) λa b dt ds f1=>⟨a,b,by simpa using dt,ds,f1⟩
theorem IJ(hl:∀k∈p,∃a,b2[k]? =some a)(hr:bu (cw b2 p) b4)(q:xN p v=some v')(hv:VR w g b4 v x):VR w g b2 v' x:=by
 cases v with
 |t t=>cases q;exact hv
 |own i=>
  (refine ag hv λa c1=>ac c1 λha bo=>?_;clear c1;clear hv;subst bo);refine al (Option.map_eq_some_iff.mp q) λk hi q=>?_
  .cases q;refine ag (hl k (List.mem_of_getElem? hi)) λb hb=>?_;have:=hr _ _ (mZ hi hb);rw[ha] at this;cases this;exact⟨a,hb,rfl⟩
theorem zW(hl:∀k∈p,∃a,b2[k]? =some a)(hr:bu (cw b2 p) b4){m:Str->Option Value}:∀{fs b:List (Str×V)},tM p fs=some b->FR (VR w g b4) fs m->FR (VR w g b2) b m/\b.map (·.1)=fs.map (·.1)
 |[],_,q,_=>by cases q;exact⟨trivial,rfl⟩
 |(k,v)::fs,_,q,⟨⟨x,e,hx⟩,hf⟩=>by
  refine al (Option.bind_eq_some_iff.mp q) λv' h1 q=>al (Option.bind_eq_some_iff.mp q) λb h2 q=>?_
  ··cases q;refine ac (zW hl hr h2 hf) λf1 f2=>⟨⟨⟨x,e,IJ hl hr h1 hx⟩,f1⟩,by simp [f2]⟩
set_option tactic.hygienic true in
theorem lQ(hl:∀k∈p,∃a,b2[k]? =some a)(hr:bu (cw b2 p) b4)(q:ou p Q=some f)(x:OR w g b4 h Q a):OR w g b2 h f a/\isFz f=isFz Q:=by
 cases Q<;>first|exact nso q|skip
 .cases q;exact⟨x,rfl⟩
 .cases q;exact⟨x,rfl⟩
 .rename_i C fs
  refine al (Option.map_eq_some_iff.mp q) λb hf q=>?_
  .cases q;refine dm x λd od m e1 e2 e3 e4 e5=>ac (zW hl hr hf e4) λf1 f2=>⟨⟨d,od,m,e1,e2,e3,f1,λn hn=>e5 n (by refine rwl _ ?_ f2;exact hn)⟩,rfl⟩
 .cases q;exact⟨x,rfl⟩
theorem uJ(S0:St b1 r g b2 l O h){p:Pk}(I:PI b1 g b2 O h p)(S1:St b1 (fw r b2 O p.σ h) b6 b4 l H b5)(hg:aZ g b6)(hr:bu (cw b2 p.σ) b4)(q:unpack p.σ p.σ H O=some M):
  St b1 r b6 b2 l M b5/\∀a,aD b1 (fw r b2 O p.σ h) b6 b4 l H a->aD b1 r b6 b2 l M a:=by
 (refine bc λno=>aw (zV q I.nd) λq1 q2 q3=>no ?_;clear no);have hl:∀k∈p.σ,∃a,b2[k]? =some a:=λk hk=>by
  refine ag (List.mem_iff_getElem?.mp hk) λi hi=>ch (I.at_ i k hi) λ_ _ a _ _ e _=>⟨a,e⟩
 have y:∀{k:Nat}{Q:MO}{a:Addr},M[k]? =some Q->b2[k]? =some a->
   (∃i m,p.σ[i]? =some k/\b4[i]? =some a/\H[i]? =some m/\ou p.σ m=some Q)\/(k∉p.σ/\O[k]? =some Q):=λ{k}{Q}{a} e1 e2=>by
  by_cases hk:k∈p.σ
  .refine ag (List.mem_iff_getElem?.mp hk) λi hi=>?_;have C:=(List.getElem?_eq_some_iff.mp e2).1;rw[S0.len] at C;refine b9 (q3 i k hi C) λG m2 f1 f2 u=>?_;rw[e1] at u;cases u;exact .inl ⟨i,G,hi,hr _ _ (mZ hi e2),f1,f2⟩
  .exact .inr ⟨hk,by refine rwl _ ?_ (q2 k hk);exact e1⟩
 have hid:∀{k:Nat}{Q:MO}{a:Addr},k∉p.σ->O[k]? =some Q->b2[k]? =some a->isFz Q=false->∃o,h.get? a=some o/\fw r b2 O p.σ h a=some o:=λ{k}{Q}{a} hk e1 e2 q=>by
  refine ag (OR.there q (S0.own k Q a e1 e2)) λo ho=>⟨o,ho,?_⟩;unfold fw;refine a0 (eb ⟨k,Q,e1,q,e2,hk⟩) ?_;exact ho
 refine⟨⟨S1.base,S1.fr,λb o e=>S1.rs b o (uG S0 e),by exact rwm _ (rwm _ rfl q1) S0.len,λk Q a e1 e2=>?_,λk Q a e1 e2 z=>?_,λk E Q f a e1 e2 z z' e3 e4=>?_,λb o e=>S1.gr b o (uG S0 e),S1.gt,S1.tabs,S1.frs⟩,λa L=>?_⟩
 ·(refine bc λno=>a2 (y e1 e2) (λzz=>?_) (λzz=>?_);refine aq zz λi G D=>bK D λf1 f2 u t=>no ?_;clear no;rotate_left;refine ac zz λhk f1=>no ?_;clear no;rotate_right)
  .exact(lQ hl hr t (S1.own i G a u f2)).1
  .have w:=S0.own k Q a f1 e2
   cases z:isFz Q with
   |true=>exact(w.still z).mono hg (.refl _) (.same λ_ e=>e)
   |false=>
    refine al (hid hk f1 e2 z) λo ho hh=>al (S1.rs a o hh) λo' e' sq=>w.mono hg (.refl _) (λo1 e=>by rw[ho] at e;cases e;exact⟨o',e',sq⟩)
 ·(refine bc λno=>a2 (y e1 e2) (λzz=>?_) (λzz=>?_);refine aq zz λi G D=>bK D λf1 f2 u t=>no ?_;clear no;rotate_left;refine ac zz λhk f1=>no ?_;clear no;rotate_right)
  .refine bc λno=>aw (S1.free i G a u f2 (((lQ hl hr t (S1.own i G a u f2)).2)▸z)) λz1 v Y=>no (⟨z1,(uH S0 v).1,Y⟩)
  .refine al (hid hk f1 e2 z) λo ho hh=>ac (S1.gr a o hh) λz1 v=>⟨z1,(S0.free k Q a f1 e2 z).2.1,v⟩
 ·(refine bc λno=>a2 (y e1 e3) (λzz=>?_) (λzz=>?_);refine aq zz λi G D=>bK D λf1 f2 u t=>no ?_;clear no;rotate_left;refine ac zz λhk f1=>no ?_;clear no;rotate_right)<;>(refine bc λno=>a2 (y e2 e4) (λzz=>?_) (λzz=>?_);refine aq zz λj m2 D=>bK D λc d N U=>no ?_;clear no;rotate_left;refine ac zz λB c=>no ?_;clear no;rotate_right)
  .have h1:=(lQ hl hr t (S1.own i G a u f2)).2;have h2:=(lQ hl hr U (S1.own j m2 a N d)).2;have:=S1.nd i j G m2 a u N (h1▸z) (h2▸z') f2 d;subst this;rw[f1] at c;cases c;rfl
  .have h1:=(lQ hl hr t (S1.own i G a u f2)).2;refine al (hid B c e4 z') λo ho hh=>?_;rw[(S1.free i G a u f2 (h1▸z)).2.1] at hh;exact nso hh
  .have h1:=(lQ hl hr U (S1.own j m2 a N d)).2;refine al (hid hk f1 e3 z) λo ho hh=>?_;rw[(S1.free j m2 a N d (h1▸z')).2.1] at hh;exact nso hh
  .exact S0.nd k E Q f a f1 c z z' e3 e4
 .refine⟨L.1,(uH S0 L.2.1).1,L.2.2.1,λk Q e1 e2=>?_,L.2.2.2.2⟩;(refine bc λno=>a2 (y e1 e2) (λzz=>?_) (λzz=>?_);refine aq zz λi G D=>bK D λf1 f2 u t=>no ?_;clear no;rotate_left;refine ac zz λhk f1=>no ?_;clear no;rotate_right)
  .refine a0 ((lQ hl hr t (S1.own i G a u f2)).2) ?_;exact L.2.2.2.1 i G u f2
  .cases z:isFz Q with
   |true=>rfl
   |false=>exact absurd ⟨k,Q,f1,z,e2,hk⟩ (uH S0 L.2.1).2
theorem df.lift{r':ay}(k:∀a,aD b1 r g Y l c6 a->aD b1 r' g bl l c7 a)(X:df b1 r g Y l c6 h C x):df b1 r' g bl l c7 h C x:=by
 refine hZ X λo vs a1 d B D E c=>⟨o,vs,a1,d,B,D,k _ E,?_⟩;rcases c with c|⟨t,i,vt,bb,c5,b3,U,y,z,cd⟩
 .exact .inl c
 .exact .inr ⟨t,i,vt,bb,c5,b3,U,y,k _ z,cd⟩
def cM(J:Program)(b1:Cx)(b:Nat)(i:Addr->List V->af->Option (Option (Except Addr T×af))):Prop:=
 ∀{A l r g b2},Rm A l b->∀(a:Addr)(be:List V)(U:List Value)(S:af)(q:Except Addr T×af)(s:Shared),i a be S=some (some q)->
  LR (VR b1.w g b2) be U->St b1 r g b2 l S s.heap->wpAny (model J b1.w) A (call (.ref a) U) (PQ (RT b1.w) b1 r l s g b2 q) (PE b1 r l s g b2 q) s
theorem cM.none:cM J b1 b λ_ _ _=>none:=λ_ _ _ _ _ _ _ e=>nomatch e
theorem IK(hb:b<=n)(hc:cM J b1 b P.con)(hR:Rm A l n)(hv:LR (VR b1.w g b2) be U)
  (u:aa J b1 r l A (RV b1.w) g b2 (call (.ref a) U) (ij P rc a be)):aa J b1 r l A (RV b1.w) g b2 (call (.ref a) U) (fR P rc a be):=by
 intro O B s bs Y d i S q;unfold fR at q
 cases hp:iN O be ⟨[],[]⟩ with
 |none=>rw[hp] at q;exact u O B s bs Y d i S q
 |some z=>
  rcases z with⟨bi,p⟩;rw[hp] at q;dsimp only at q
  cases hq:P.con a bi p.S with
  |none=>rw[hq] at q;exact u O B s bs Y d i S q
  |some z=>
   rw[hq] at q
   cases z with
   |none=>exact nso q
   |some z=>
    (refine bc λno=>aw (zU S .nil (LR.up hv d i) hp) λI _ j=>no ?_;clear no);refine ea (hc (hR.mono hb) a bi U p.S z s hq j (uI S I)) (λx s' y=>?_) λx s' y=>?_
    ·(refine ch y λg2 m t e1 p1 S2 ht=>?_;clear y);clear hq;rcases z with⟨z1,S3⟩;cases e1;refine al (Option.map_eq_some_iff.mp q) λM hu q=>?_
     .cases q;exact⟨g2,Y,.t t,rfl,⟨p1.1,p1.2.1,.refl _⟩,(uJ S I S2 p1.2.1 p1.2.2 hu).1,ht⟩
    ·(refine n0 y λg2 m c ex e1 p1 S2 e2 X=>?_;clear y);clear hq;rcases z with⟨z1,S3⟩;cases e1;refine al (Option.map_eq_some_iff.mp q) λM hu q=>?_
     .cases q;refine ac (uJ S I S2 p1.2.1 p1.2.2 hu) λB1 D=>⟨g2,Y,c,ex,rfl,⟨p1.1,p1.2.1,.refl _⟩,B1,e2,X.lift D⟩
end
structure gX (bm:List Value):Prop where
 hB:bm.contains (.type "Exception")=true
 hA:bm.contains (.type "AttributeError")=false
 hN:bm.contains (.type "NameError")=false
 hE:bm.contains (.type "BaseException")=true
section
variable {J:Program}{w:World}{A:Around}{R:Result->Shared->Prop}{h:Heap}{g:Array GenState}{d:Drawn}{t:Nat}{os:OsState}
variable {bb q:Str}{C N:Addr}{H bm:List Value}{bd:Bool}{sn:List Str}{sub:List Value}{ab:Bool}{bi:Option Bool}{dd:Option Addr}{k0 k1 k2 k3 k5:Option Value}
noncomputable abbrev im(C b:Addr):Obj:={cls:= .ref C,data:= .fields #[.ref b,.none,.none,.none,.bool false,.none]}
theorem IL{M:Model}{E:Value->Shared->Prop}(X:gX bm){Q:Unit->Shared->Prop}(hC:h.get? C=some (excClassObj bb q C N H bm bd sn sub ab bi dd k0 k1 k2 k3 k5 "Exception.__new__"))
  (hq:Q () ⟨h,g,d,t,os⟩):wpAny M A (checkBuiltinCall "Exception.__new__" ⟨.ref C::j,[]⟩) Q E ⟨h,g,d,t,os⟩:=by
 have F:=ov;have hc:(Value.ref C::bm).contains (.type "Exception")=true:=by rw[List.contains_cons,X.hB,Bool.or_true]
 have hs:=F.noStar;simp only[checkBuiltinCall,F.newKind,F.newSplit,F.newRow]
 repeat (first|refine l4 hC ?_|(refine ow hC ?_;refine rwm _ ?_ hc)|refine wpAny_staticBase_exc hC ?_|refine wpAny_madeBy_exc hC ?_|simp only[bne_self_eq_false,Bool.false_eq_true,if_false]|wp_step)
 exact hq
theorem IM(X:gX bm){j:List Value}(hC:h.get? C=some (excClassObj bb q C N H bm bd sn sub ab bi dd k0 k1 k2 k3 k5 "Exception.__new__"))
  (hq:R (.ok (.ret (.ref (h.objs.size+1)))) ⟨(h.push {cls:= .type "tuple",data:= .seq j.toArray}).push (im C h.objs.size),g,d,t,os⟩)(B:j.length<=sizeLine):
  codeAny (model J w) A (.builtin "Exception.__new__" ⟨.ref C::j,[]⟩) R ⟨h,g,d,t,os⟩:=by
 have F:=ov;have he:=F.ends;have dt:(Value.ref C::bm).contains (.type "Exception")=true:=by rw[List.contains_cons,X.hB,Bool.or_true]
 have ds:(Value.ref C::bm).contains (.type "AttributeError")=false:=by refine a0 List.contains_cons (rwm _ ?_ X.hA);rfl
 have f1:(Value.ref C::bm).contains (.type "NameError")=false:=by refine a0 List.contains_cons (rwm _ ?_ X.hN);rfl
 refine codeAny_builtinAt F.entry ?_;unfold Builtin.«BaseException.__new__»;refine PySem.wpAt_bind ?_;show PySem.wpAt _ _ _ (stack>>=_) _ _ _;refine PySem.wpAt_bind (PySem.wpAt_stack λp b=>PySem.wpAt_of_wpAny ?_)
 wp_walk
 refine PySem.wpAt_of_wpAny ?_;refine rwm _ ?_ F.owner
 repeat (first|with_reducible refine wpAny_madeHere_exc F.canon hC ?_|with_reducible refine l4 hC ?_|(with_reducible refine ow hC ?_;first|rw[dt]|rw[ds]|refine rwm _ ?_ f1)|wp_step)
 show R _ _;rw[Heap.size_push];exact hq
theorem IN{K:Frag}(X:gX bm)(XK:K.In h)(e7:specialIn K (.ref C) "__call__"=some (some (.builtin "type.__call__")))(e8:instIn K (.ref C) (.type "type")=some true)
  (ei:findIn K (.ref C) "__init__"=some (some (.ref fI)))(ef:typeIn K (.ref fI)=some (.type "function")){j:List Value}
  (hC:h.get? C=some (excClassObj bb q C N H bm bd sn sub ab bi dd k0 k1 k2 k3 k5 "Exception.__new__"))(B:j.length<=sizeLine)
  (hq:codeAny (model J w) (A.under (.builtin "type.__call__" ⟨.ref C::j,[]⟩)) (.call (.ref fI) ⟨.ref (h.objs.size+1)::j,[]⟩) (InitBack (h.objs.size+1) R)
   ⟨(h.push {cls:= .type "tuple",data:= .seq j.toArray}).push (im C h.objs.size),g,d,t,os⟩):
  codeAny (model J w) A (.call (.ref C) ⟨j,[]⟩) R ⟨h,g,d,t,os⟩:=by
 refine codeAny_of_tree ?_;show wpAny _ _ (callAny (.ref C) _) _ _ _;refine nd_load hC ?_;show wpAny _ _ (callAny.viaDunder (.ref C) _) _ _ _;unfold callAny.viaDunder;refine ae ((looks_specialIn XK e7).at ?_);dsimp only;rw[tc_bind];refine ae (ar (ae (ar ?_)));refine ar (a:=Fin.again (.call (.builtin "type.__call__") ⟨.ref C::j,[]⟩)) (And.intro rfl ?_);refine codeAny_call_builtin_at (Code.quiet_builtin _ (by decide+kernel)) entry_typeCall (check_slot tc_kind tc_split (looks_instIn XK e8) (tc_args _ _ _) ?_);unfold Builtin.«type.__call__»
 repeat (first|with_reducible refine l4 hC ?_|with_reducible refine wpAny_madeBy_exc hC ?_|wp_step)
 refine codeAny_call_builtin_code (Code.quiet_builtin _ ov.quiet) (IL X hC ?_);refine IM X hC ?_ B;show wpAny _ _ _ _ _ _;have k:∀b o,h.get? b=some o->((h.push {cls:= .type "tuple",data:= .seq j.toArray}).push (im C h.objs.size)).get? b=some o:=λb o e=>a3 _ (a3 _ e);have c:=XK.keeps k;have c3:((h.push {cls:= .type "tuple",data:= .seq j.toArray}).push (im C h.objs.size)).get? (h.objs.size+1)=some (im C h.objs.size):=by heap_get
 have fk:(Value.ref C::bm).contains (.ref C)=true:=by simp
 unfold isInstance
 repeat (first|with_reducible refine l4 c3 ?_|(with_reducible refine ow (k _ _ hC) ?_;refine rwm _ ?_ fk)|wp_step)
 refine(looks_findIn c ei).here ?_;dsimp only;refine en (ae ((bind_fn c _ ef).here ?_));dsimp only;refine ae (ss (oc hq λr s' z=>?_));rcases r with e|(v|_|_|_)<;>first|exact z|exact z.elim|skip
 rcases z with⟨rfl,z⟩;exact ar (ar z)
end
end Internal
end
noncomputable section
namespace Internal
open PySem PySem.W PySem.Calls PyProof.Rows Builtin.ObjectAttr
structure m8 (K:Frag) (C:Addr) (cd:ClassData):Prop where
 cls:clsIn K C=some cd
 hd:cd.hasDict=true
 ne:cd.mro.isEmpty=false
 top:cd.mro.contains (.type "object")=true
 pass:∀self,refuseLoop self "__setattr__" cd.mro=pure ()
 sa:findIn K (.ref C) "__setattr__"=some (some (.builtin "object.__setattr__"))
section
variable {J:Program}{b1:Cx}{r g b6:ay}{b2 b4:List Addr}{l:List Env}{A:Around}{α β γ δ:Type}{P:bt}{b7 mb:Str->Option Value}{n:Nat}{rc:aG}{e:AE}{env:Env}{O:af}{h b5:Heap}{s:Shared}{K:Frag}{C:Addr}{bm:List Value}{w:World}
def EX(b1:Cx)(r g:ay)(b2:List Addr)(l:List Env)(O:af)(h:Heap)(C x:Addr)(k:Nat):Prop:=
 ∃ob vs,h.get? x=some ob/\ob.cls= .ref C/\ob.data= .fields vs/\vs.size=6/\vs[1]? =some .none/\aD b1 r g b2 l O x/\
  (ob.dict=none\/∃d es ep m,ob.dict=some d/\d≠x/\h.get? d=some ⟨.type "dict",.none,.dict es ep,#[]⟩/\fh ⟨.type "dict",.none,.dict es ep,#[]⟩ m/\es.size<=k/\aD b1 r g b2 l O d)
theorem zX{R:Result->Shared->Prop}(X:K.In s.heap)(I:InstAt s.heap x ox C od)(p:m8 K C c6)(ht:findIn K (.ref C) B=some none)
  (h:∀b,wpAny (model J w) A.in1 (storeInOwnDict (.ref x) (.ref C) (.str B tk) B v b)
   (λcl s'=>match cl with| .done f=>R (.ok f) s'| .again c'=>c'.quiet=true/\codeAny (model J w) A c' R s') (λe s'=>R (.error e) s') s):
  codeAny (model J w) A (.call (.builtin "object.__setattr__") ⟨[.ref x,.str B tk,v],[]⟩) R s:=by
 have c:=PySem.F.store_object;have sub:Looks (model J w) s.heap (isInstance (.ref x) (.type "object")) true:=I.type.andThen (looks_mroIn X (by unfold mroIn;rw[p.cls,Option.bind_some,if_neg (by rw[p.ne];decide),p.top]));refine codeAny_call_builtin c.slot.plain c.entry (@check_slot (model J w) _ _ s "object.__setattr__" "object" "__setattr__" (.ref x) [.str B tk,v] [] _ c.kind c.split sub (c.args (.ref x) (.str B tk) v) ?_);have hm:Looks (model J w) s.heap (mroOf (.ref C)) c6.mro:=(looks_clsIn X p.cls).andThen .now;have L3:Looks (model J w) s.heap (storeTaker? none) none:= .now;rw[osa_eq,refuse_eq];refine ae (ae (I.type.here (ae (hm.here ?_))));rw[p.pass];refine ar (ae (I.type.here (ae ((looks_findIn X ht).here (ae (L3.here ?_))))));exact h _
set_option tactic.hygienic true in
theorem IO(KX:K.In b1.B)(p:m8 K C c6)(ht:findIn K (.ref C) B=some none){v:Value}(hk:k<=900)(S:St b1 r g b2 l O s.heap)(X:EX b1 r g b2 l O s.heap C x k)
  {Q:Unit->Shared->Prop}{E:Value->Shared->Prop}(hq:∀b5 tk,St b1 r g b2 l O b5->EX b1 r g b2 l O b5 C x (k+1)->Q () {s with heap:=b5,toks:=tk}):
  wpAny (model J b1.w) A (setAttr (.ref x) B v) Q E s:=by
 (refine jZ X λob vs hx cr f cp h1 L c=>?_;clear X);have XK:=KX.keeps S.ground;have f4:notCls ob=true:=by unfold notCls;exact rwm _ rfl f
 have cl:∀{h1:Heap}{d:Addr}{es:Array DictEntry}{ep:Nat}{m:Str->Option Value}{G:Obj},St b1 r g b2 l O h1->h1.get? x=some G->G.cls=ob.cls->G.data=ob.data->G.dict=some d->d≠x->
   h1.get? d=some ⟨.type "dict",.none,.dict es ep,#[]⟩->fh ⟨.type "dict",.none,.dict es ep,#[]⟩ m->es.size<=k->aD b1 r g b2 l O d->∀{A'}{E':Value->Shared->Prop}{Q':PySem.Fin->Shared->Prop},
   (∀s',Q () s'->Q' (.done (.ret .none)) s')->wpAny (model J b1.w) A' (storeInDict d (.str B s.toks) B v) Q' E' {s with heap:=h1,toks:=s.toks+1}:=by
  intro h1 d es ep m G S1 M dt ds f1 U hD hn be Ld A' E' Q' bb;refine ae (ar (ae ?_));refine ud hD hn λu t=>?_;refine bc λno=>bS (uc (x:=B) (v:=v) u t hn) λn1 n2 n3 n4 n5=>no (cS (yz (x:=B) (v:=v) (es:=es) (ep:=ep) u t rfl) λH cf e1 e2=>?_);have c3:=ko (Obj.putName B u (.str B t) v) hD n3;rw[e1] at c3 n1;have y:H.size<=k+1:=by rcases e2 with e2|⟨e2,_⟩<;>lia
  refine ae (wpAny_lookBehind c3 (pastItsLine_dict (by refine rwm _ ?_ ms;exact wT hk y)) ?_);refine ar (bb _ (hq _ _ (S1.extBut Ld (js ..).extBut) ?_));have bl:=(js h1 d (Obj.putName B u (.str B t) v)).extBut x G (Ne.symm U) M;exact⟨G,vs,bl,dt.trans cr,ds.trans f,cp,‹_›,L,.inr ⟨d,H,cf,_,f1,U,c3,n1,y,Ld⟩⟩
 (refine bc λno=>a2 c (λj=>?_) (λzz=>?_);(try clear c);refine no ?_;clear no;rotate_left;(try clear c);refine bH zz λd es ep m cs=>db cs λY U hD hn be Ld=>no ?_;clear no;rotate_right)
 .have I:InstAt s.heap x ob C none:=⟨hx,cr,f4,by refine rwm _ ?_ j;trivial⟩;refine set_plain XK I p.sa (zX XK I p ht λb=>ae (ar (ae (ae (rv hx ?_)))));dsimp only;refine rwm _ ?_ cr;refine ae (looks_clsIn XK p.cls _ _ _ _ (λ_ _ e=>e) ?_);refine rwm _ (rwm _ (rwm _ ?_ f) j) p.hd;simp only[Bool.not_true,Bool.false_eq_true,if_false,typeHasDict,Bool.or_self];refine ae (wpAny_alloc ?_);have i:=a3 {cls:= .type "dict",data:= .dict #[]} hx;refine ae (wpAny_update i ?_);refine ar (ae (ar ?_));have S1:=S.keep (b5:=s.heap.push {cls:= .type "dict",data:= .dict #[]}) λ_ _ e=>a3 _ e;have de:=mi (mm hx);have N:(s.heap.push {cls:= .type "dict",data:= .dict #[]}).get? s.heap.objs.size=some ⟨.type "dict",.none,.dict #[] 0,#[]⟩:=Heap.get?_push_at rfl rfl;have q:=(js (s.heap.push {cls:= .type "dict",data:= .dict #[]}) x λo=>{o with dict:=some s.heap.objs.size}).extBut _ _ (Ne.symm de) N;have bl:=ko (λo=>{o with dict:=some s.heap.objs.size}) i (by
   clear j i;rcases ob with⟨D,od,bo,bs⟩;simp only at f;subst f;rfl)
  exact cl (S1.extBut L (js (s.heap.push {cls:= .type "dict",data:= .dict #[]}) x λo=>{o with dict:=some s.heap.objs.size}).extBut) bl rfl rfl rfl (Ne.symm de) q ⟨#[],0,rfl,λ_ he=>by simp at he,λ_=>rfl⟩ (ix _) (S.lone_new (cU _)) λs' z=>z
 .have I:InstAt s.heap x ob C (some ⟨.type "dict",.none,.dict es ep,#[]⟩):=⟨hx,cr,f4,by refine rwm _ ?_ Y;exact hD⟩;refine set_plain XK I p.sa (zX XK I p ht λb=>ae (ar (ae (ae (rv hx ?_)))));dsimp only;refine rwm _ ?_ cr;refine ae (looks_clsIn XK p.cls _ _ _ _ (λ_ _ e=>e) ?_);refine rwm _ (rwm _ ?_ Y) p.hd;refine ar (ae (ar ?_));exact cl S hx rfl rfl Y U hD hn be Ld λs' z=>z
variable {bb q:Str}{N:Addr}{H:List Value}{bd:Bool}{sn:List Str}{sub:List Value}{ab:Bool}{bi:Option Bool}{dd:Option Addr}{k0 k1 k2 k3 k5:Option Value}
theorem IP{M:Model}{E:Value->Shared->Prop}(X:gX bm){ob:Obj}{Q:Unit->Shared->Prop}
  (hC:s.heap.get? C=some (excClassObj bb q C N H bm bd sn sub ab bi dd k0 k1 k2 k3 k5 "Exception.__new__"))(hx:s.heap.get? x=some ob)(cr:ob.cls= .ref C)(hq:Q () s):
  wpAny M A (checkBuiltinCall "Exception.__init__" ⟨.ref x::j,[]⟩) Q E s:=by
 rcases s with⟨hh,gn,dr,tk,os⟩;have F:=ov;have hc:(Value.ref C::bm).contains (.type "Exception")=true:=by rw[List.contains_cons,X.hB,Bool.or_true]
 have hs:=F.noStar;simp only[checkBuiltinCall,F.initKind,F.initSplit,F.initRow]
 repeat (first|(with_reducible refine l4 hx ?_;refine rwm _ ?_ cr)|with_reducible refine l4 hC ?_|(with_reducible refine ow hC ?_;refine rwm _ ?_ hc)|wp_step)
 refine wpAny_onRaise ?_;rw[show∀(a b:String)(n:Nat),Bind.check ⟨.positional,"*","Exception",.self,[⟨"args",.varPos,false⟩]⟩ a b n (List.map (λx=>x.fst) ({pos:=Value.ref x::j}:Args).kw)=pure () from
  λa b n=>check_star_args _ _ _ _ _ _]
 exact ar hq
theorem IQ(X:gX bm){y:Value}(hC:s.heap.get? C=some (excClassObj bb q C N H bm bd sn sub ab bi dd k0 k1 k2 k3 k5 "Exception.__new__"))
  (S:St b1 r g b2 l O s.heap)(b:EX b1 r g b2 l O s.heap C x k){Q:Value->Shared->Prop}{E:Value->Shared->Prop}(hq:∀b5,St b1 r g b2 l O b5->EX b1 r g b2 l O b5 C x k->Q .none {s with heap:=b5}):
  wpAny (model J b1.w) A (call (.builtin "Exception.__init__") [.ref x,y]) Q E s:=by
 have F:=ov;refine jZ b λob vs hx cr f cp h1 L c=>ss (codeAny_call_builtin F.init.plain F.initEntry (IP X hC hx cr ?_));unfold Builtin.«BaseException.__init__»;dsimp only;refine rwm _ ?_ (hW (by simp));unfold newTuple Builtin.BaseException.bexcPut;have h0:=Ef cp;have i:=a3 (h:=s.heap) {cls:= .type "tuple",data:= .seq [y].toArray} hx;have p:=lt h0;refine ae (rp (ae (ae (po i f p (ae (wpAny_setField i f h0 ?_))))) (by refine(?_:[y].toArray.size<=sizeLine);refine rwm _ ?_ List.size_toArray;exact a5 (by decide:1<=1000) (by refine rwm _ ?_ ms;exact nr _ _)));have S1:=S.keep (b5:=s.heap.push {cls:= .type "tuple",data:= .seq [y].toArray}) λ_ _ e=>a3 _ e;have bl:((s.heap.push {cls:= .type "tuple",data:= .seq [y].toArray}).update x (Obj.mapFields (·.setIfInBounds 0 (.ref s.heap.objs.size)))).get? x=some ⟨ob.cls,ob.dict,.fields (vs.setIfInBounds 0 (.ref s.heap.objs.size)),ob.slots⟩:=by
  clear hx;rcases ob with⟨D,od,bo,bs⟩;simp only at f;subst f;exact ko _ i rfl
 have cl:Q .none {s with heap:=(s.heap.push {cls:= .type "tuple",data:= .seq [y].toArray}).update x (Obj.mapFields (·.setIfInBounds 0 (.ref s.heap.objs.size)))}:=by
  refine hq _ (S1.extBut L (js (s.heap.push {cls:= .type "tuple",data:= .seq [y].toArray}) x (Obj.mapFields (·.setIfInBounds 0 (.ref s.heap.objs.size)))).extBut) ⟨_,_,bl,cr,rfl,by refine a0 Array.size_setIfInBounds ?_;exact cp,?_,L,?_⟩
  .refine a0 (Array.getElem?_setIfInBounds_ne (by decide)) ?_;exact h1
  ·(refine bc λno=>a2 c (λj=>?_) (λzz=>?_);(try clear c);refine no ?_;clear no;rotate_left;(try clear c);refine bH zz λd es ep m cs=>db cs λY U hD hn be Ld=>no ?_;clear no;rotate_right)
   .exact .inl j
   .exact .inr ⟨d,es,ep,m,Y,U,(js _ x _).extBut _ _ U (a3 _ hD),hn,be,Ld⟩
 split
 .refine wpAny_letGo (ar cl)
 .exact ar (ar cl)
theorem oO{R:Rl α β}{tt:Sem β}{m:MM α}{v:α}(hs:∀r,aa J b1 r l A R g b2 tt m)(q:m O=some (.ok v,M))(S:St b1 r g b2 l O s.heap)(X:EX b1 r g b2 l O s.heap C x k)
  {Q:β->Shared->Prop}{E:Value->Shared->Prop}(hq:∀s' b6 b4 y,bk s g b2 s' b6 b4->St b1 r b6 b4 l M s'.heap->EX b1 r b6 b4 l M s'.heap C x k->R b6 b4 v y->Q y s'):wpAny (model J b1.w) A tt Q E s:=by
 (refine jZ X λob vs hx cr f cp h1 L c=>?_;clear X);have cf:ob.cls≠ .type "frame":=by refine rwm _ ?_ cr;simp
 have b:=S.reserve L hx;(refine bc λno=>a2 c (λj=>?_) (λzz=>?_);(try clear c);refine no ?_;clear no;rotate_left;(try clear c);refine bH zz λd es ep G cs=>db cs λY U hD hn be Ld=>no ?_;clear no;rotate_right)
 .refine ea (hs _ O _ s g b2 (.refl _) (.refl _) b q) (λy s' z=>?_) λy s' z=>?_
  ·(refine ch z λc5 bl v' e1 p S2 hR=>?_;clear z);(have D:=oke e1;clear e1;cases D);refine bc λno=>aw (S2.release L.2.1 cf) λS3 L3 u=>no (hq s' c5 bl y p S3 ⟨ob,vs,u,cr,f,cp,h1,L3,.inl j⟩ hR)
  .refine cT z λ_ _ _ _ e1 _=>oee e1
 .have i:aD b1 (upd r x ob) g b2 l O d:=⟨Ld.1,by unfold upd;refine a0 (hW U) ?_;exact Ld.2.1,Ld.2.2⟩;refine ea (hs _ O _ s g b2 (.refl _) (.refl _) (b.reserve i hD) q) (λy s' z=>?_) λy s' z=>?_
  ·(refine ch z λc5 bl v' e1 p S2 hR=>?_;clear z);(have D:=oke e1;clear e1;cases D);(refine bc λno=>aw (S2.release i.2.1 (by simp)) λS3 L3 t=>no ?_;clear no);(refine bc λno=>aw (S3.release L.2.1 cf) λS4 I B=>no ?_;clear no);have o:aD b1 r c5 bl l M d:=⟨L3.1,(oH L3.2.1).2,L3.2.2⟩;exact hq s' c5 bl y p S4 ⟨ob,vs,B,cr,f,cp,h1,I,.inr ⟨d,es,ep,G,Y,U,t,hn,be,o⟩⟩ hR
  .refine cT z λ_ _ _ _ e1 _=>oee e1
end
end Internal
end
noncomputable section
set_option maxHeartbeats 2000000
namespace Internal
open PySem PySem.W PySem.Calls PyProof.Rows Builtin.ObjectAttr
section
variable {J:Program}{b1:Cx}{r g b6:ay}{b2 b4:List Addr}{l:List Env}{A:Around}{α β γ δ:Type}{P:bt}{b7 mb:Str->Option Value}{n:Nat}{rc:aG}{e:AE}{env:Env}{O:af}{h b5:Heap}{s:Shared}{K:Frag}{C:Addr}{bl:List Value}{w:World}
def qM(P:bt):aG:=⟨λex e=>match ex with| .Name n _=>cu P.glob e n|_=>λ_=>none,λ_ _ _=>none,λ_ _ _=>none,λ_ _ _ _=>none,λ_ _ _=>none⟩
theorem zY(G:Gl b1 P b7 mb)(n:Nat):aL J b1 n (qM P) where
 ev:=λ_ he ex=>by
  cases ex<;>first|exact aa.none|skip
  exact qp G he _ _
 test:=λ_ _ _=> .none
 ex:=λ_ _ _=> .none
 as:=λ_ _ _ _ _ _=> .none
 call:=λ_ _ _ _ _ _ _=> .none
 star:=λ_ _ _ _=>rfl
 set:=λ_ _ _ _ _=>rfl
theorem IR{T:String}{B:Str}{v:Value}{pl:Sem Bool}{Q:Value×List Value->Shared->Prop}{E:Value->Shared->Prop}(X:K.In s.heap)(ht:typeOf (.type T)=pure (.type "type"))(hs:Manifest.isStub T=false)
  (e:findCls K (.type T) (.type "type") B=some (.val v))(hh:handedIn v=true)(h:Q (v,[]) {s with toks:=s.toks+1}):wpAny (model J w) A (getMethod (.type T) B pl) Q E s:=by
 have cp:opaqueClassAbove (.type T)=pure none:=by unfold opaqueClassAbove;dsimp only;refine rwm _ ?_ hs;rfl
 have D:Looks (model J w) s.heap (typeOf (.type T)) (.type "type"):=Looks.of_pure ht;have hg:findIn K (.type "type") "__getattribute__"=some (some (.builtin "type.__getattribute__")):=type_tga;unfold getMethod specialOf;refine ae (ae (D.here ((looks_findIn X hg).here ?_)));dsimp only;refine rwm _ ?_ (eb canon_tga);refine ae (ea ?_ (λ_ _ z=>ar z) λ_ _ z=>z);have b:Looks (model J w) s.heap (opaqueClassAbove (.type T)) none:=Looks.of_pure cp;exact cls_open X b D hg (looks_hook X (by rfl)) (by show subIn K _ _=_;rfl) e
  (ar (by show wpAny _ _ (handedOut v) _ _ _;refine rwm _ ?_ (handedOut_of hh);exact ar h))
set_option tactic.hygienic true in
theorem IS(G:Gl b1 P b7 mb)(hR:Rm A l n)(KX:K.In b1.B)(ki:findCls K (.type "Exception") (.type "type") "__init__"=some (.val (.builtin "Exception.__init__")))(XM:gX bl)
  {bb q:Str}{N:Addr}{H:List Value}{bd:Bool}{sn:List Str}{sub:List Value}{ab:Bool}{bi:Option Bool}{dd:Option Addr}{k0 k1 k2 k3 k5:Option Value}
  (hC:b1.B.get? C=some (excClassObj bb q C N H bl bd sn sub ab bi dd k0 k1 k2 k3 k5 "Exception.__new__"))
  (he:ER b1 l g b2 e env){x:Addr}{t:T}{k:Nat}(h1:cu P.glob e "Exception" O=some (.ok (.t (.typ "Exception")),O))(h2:cu P.glob e "self" O=some (.ok (.t (.top x)),O))(h3:cu P.glob e "what" O=some (.ok (.t t),O))
  (S:St b1 r g b2 l O s.heap)(X:EX b1 r g b2 l O s.heap C x k){p1 p2 p3 D j ep:Pos}(hp:(D.endLine==j.line)=true){Q:Flow->Shared->Prop}{E:Value->Shared->Prop}
  (hq:∀s' b6 b4,bk s g b2 s' b6 b4->St b1 r b6 b4 l O s'.heap->EX b1 r b6 b4 l O s'.heap C x k->Q .next s'):
  wpAny (model J b1.w) A (exec (.Expr (.Call (.Attribute (.Name "Exception" p1) "__init__" D) [.Name "self" p2,.Name "what" p3] [] j) ep) env) Q E s:=by
 have b:aL J b1 n (qM P):=zY G n;have hi:interactive env=false:=by unfold interactive;refine rwm _ (rwm _ ?_ he.kind) he.scope;rfl
 rw[exec_Expr env _ ep hi rfl,zP,ua rfl];refine ae (kV (ae (ae ?_)));refine oO (R:=RV b1.w) (λr=>b.ev (r:=r) hR he (.Name "Exception" p1)) h1 S X λY g1 B y u S1 X1 L=>?_;have L:y= .type "Exception":=by exact L
 subst L;refine ae (kV ?_);unfold methodCall;refine rwm _ ?_ (zO _ j rfl (by refine(?_:2<20);decide));have z:methodCallPos true (.Name "Exception" p1) env D j=pure j:=by unfold methodCallPos;refine rwm _ ?_ hp;rfl
 refine rwm _ ?_ z;refine ae (en ?_);refine IR (KX.keeps S1.ground) (by lk) (by decide+kernel) ki (by decide+kernel) (ae (ar ?_));have c:bk Y g1 B {Y with toks:=Y.toks+1} g1 B:=⟨⟨Y.heap,Y.toks+1,rfl⟩,.refl _,.refl _⟩;unfold callWith;have hs:[Expr.Name "self" p2,Expr.Name "what" p3].all noStar=true:=rfl;have d:=mX (c4:=j) (env:=env) [Expr.Name "self" p2,Expr.Name "what" p3] hs;have i:(backTo j (starEach [Expr.Name "self" p2,Expr.Name "what" p3] env)).any (·.1)=false:=by
  rw[List.any_eq_false];intro p hp;simp [d p hp]
 refine ae (en (qx d ?_));have qe:a8 (qM P) e [Expr.Name "self" p2,Expr.Name "what" p3] O=some (.ok [.t (.top x),.t t],O):=by
  have e1:bm (cu P.glob e "what") (λv=>bm (pm []) λvs=>pm (v::vs)) O=some (.ok [.t t],O):=by refine a0 (az h3) ?_;rfl
  show bm (cu P.glob e "self") (λv=>bm (bm (cu P.glob e "what") λv=>bm (pm []) λvs=>pm (v::vs)) λvs=>pm (v::vs)) O=_;refine a0 (az h2) (rwm _ ?_ (az e1));rfl
 refine oO (s:={Y with toks:=Y.toks+1}) (R:=x0 b1.w) (λr=>jv (r:=r) b hR [Expr.Name "self" p2,Expr.Name "what" p3] j g1 B (he.mono u.2.1 u.2.2)) qe S1 X1 λs2 g2 m U bo S2 X2 de=>?_;(refine aq de λy1 r1 cd=>aw cd λc2 f M=>?_;clear cd;clear de;subst c2;refine aq M λI r2 c3=>aw c3 λc2 o cr=>?_;clear c3;subst c2;subst cr);have f:y1= .ref x:=by exact f
 subst f;refine ae (kV ?_);refine qy i (λQ' hq=>ar (hq _)) (IQ XM (S2.ground _ _ hC) S2 X2 λb5 S3 X3=>wpAny_dropValue (hq _ g2 m (u.trans (c.trans (bo.trans ⟨⟨b5,s2.toks,rfl⟩,.refl _,.refl _⟩))) S3 X3))
set_option tactic.hygienic true in
theorem zZ(G:Gl b1 P b7 mb)(hR:Rm A l n)(KX:K.In b1.B)(p:m8 K C c6)(he:ER b1 l g b2 e env)(hk:k<=900)(hf:findIn K (.ref C) f=some none)
  (h2:cu P.glob e "self" O=some (.ok (.t (.top x)),O))(h3:cu P.glob e nv O=some (.ok (.t t),O))
  (S:St b1 r g b2 l O s.heap)(X:EX b1 r g b2 l O s.heap C x k){Q:Flow->Shared->Prop}{E:Value->Shared->Prop}
  (hq:∀s' b6 b4,bk s g b2 s' b6 b4->St b1 r b6 b4 l O s'.heap->EX b1 r b6 b4 l O s'.heap C x (k+1)->Q .next s'):
  wpAny (model J b1.w) A (exec (.Assign [.Attribute (.Name "self" p1) f p2] (.Name nv p3) j) env) Q E s:=by
 have b:aL J b1 n (qM P):=zY G n;rw[zo];refine ae (kV ?_);rw[zp rfl,pure_bind];show wpAny _ _ (eval (.Name nv p3) env>>=λv=>swappedStores [.Attribute (.Name "self" p1) f p2] (.Name nv p3) env>>=λsw=>assignStores env v sw ((assignEach [.Attribute (.Name "self" p1) f p2] env).map (·.2))) _ _ _;refine ae (oO (λr=>b.ev hR he (.Name nv p3)) h3 S X λY g1 B y u S1 X1 L=>?_);refine rwm _ (rwm _ ?_ (qH rfl)) (zg (he.mono u.2.1 u.2.2) (.Attribute (.Name "self" p1) f p2) (.Name nv p3) rfl);refine ae (ar ?_);show wpAny _ _ (do assign (.Attribute (.Name "self" p1) f p2) env y;pure Flow.next) _ _ _;show wpAny _ _ ((do
  let M<-holding [y] (eval (.Name "self" p1) env)
  standAt p2.atName
  holding [y,M] (setAttr M f y)
  release [y,M] [])>>=λ_=>pure Flow.next) _ _ _
 refine ae (ae (en ?_));refine oO (λr=>b.ev hR (he.mono u.2.1 u.2.2) (.Name "self" p1)) h2 S1 X1 λs2 g2 m z c S2 X2 hz=>?_;have hz:z= .ref x:=by exact hz
 subst hz;refine ae (kV (ae (en ?_)));refine IO KX p hf hk S2 X2 λb5 tk S3 X3=>?_;intro U pp I;rw[Sem.wp_release];exact ar (hq _ g2 m (u.trans (c.trans ⟨⟨b5,tk,rfl⟩,.refl _,.refl _⟩)) S3 X3)
end
noncomputable def oP(x:Addr)(t:Str):List (Str×V):=[(Str.ofString "self",.t (.top x)),(Str.ofString "what",.t (.str t)),(Str.ofString "at",.t (.int (-1)))]
def ee(x:Addr)(t:Str):af:=[.ns true (oP x t)]
structure qN (cx:Cx) (P:bt) (a:Addr) (fi:j8) (o:Obj) (fd:FuncData):Prop where
 fn:oM cx a fi o fd
 body:∃p1 p2 p3 ap cp ep q1 q2 q3 q4 u1 u2 u3 u4,(ap.endLine==cp.line)=true/\fd.body= .stmts [
  .Expr (.Call (.Attribute (.Name "Exception" p1) "__init__" ap) [.Name "self" p2,.Name "what" p3] [] cp) ep,
  .Assign [.Attribute (.Name "self" q1) "what" q2] (.Name "what" q3) q4,
  .Assign [.Attribute (.Name "self" u1) "at" u2] (.Name "at" u3) u4]
 bind:∀x t,d8 fd.params.args [.t (.top x),.t (.str t)] fi.dfl=some (oP x t)
 env:∀x t,(bm (new (.ns true [])) λlh=>bm (et fd.scope.names []) λcl=>bm (gS ⟨fd.scope,lh,cl,fd.qualname++nm ".<locals>.",fi.code⟩ (oP x t)) λ_=>pm (⟨fd.scope,lh,cl,fd.qualname++nm ".<locals>.",fi.code⟩:AE)) []
  =some (.ok ⟨fd.scope,0,[],fd.qualname++nm ".<locals>.",fi.code⟩,ee x t)
 nE:∀x t q c,cu P.glob ⟨fd.scope,0,[],q,c⟩ "Exception" (ee x t)=some (.ok (.t (.typ "Exception")),ee x t)
 nS:∀x t q c,cu P.glob ⟨fd.scope,0,[],q,c⟩ "self" (ee x t)=some (.ok (.t (.top x)),ee x t)
 nW:∀x t q c,cu P.glob ⟨fd.scope,0,[],q,c⟩ "what" (ee x t)=some (.ok (.t (.str t)),ee x t)
 nA:∀x t q c,cu P.glob ⟨fd.scope,0,[],q,c⟩ "at" (ee x t)=some (.ok (.t (.int (-1))),ee x t)
structure oQ (K:Frag) (cx:Cx) (P:bt):Prop where
 X:K.In cx.B
 ini:findCls K (.type "Exception") (.type "type") "__init__"=some (.val (.builtin "Exception.__init__"))
 exc:∀C,P.exc C=true->∀(Z:Prop),(∀(nm' q:Str)(N:Addr)(bs bl:List Value)(hdct:Bool)(sn:List Str)(sub:List Value)(ab:Bool)(col:Option Bool)(dd:Option Addr)(k0 k1 k2 k3 k5:Option Value)(cd:ClassData)(fI:Addr)(fi:j8)(o:Obj)(fd:FuncData),cx.B.get? C=some (excClassObj nm' q C N bs bl hdct sn sub ab col dd k0 k1 k2 k3 k5 "Exception.__new__")->gX bl->m8 K C cd->findIn K (.ref C) "what"=some none->findIn K (.ref C) "at"=some none->specialIn K (.ref C) "__call__"=some (some (.builtin "type.__call__"))->instIn K (.ref C) (.type "type")=some true->findIn K (.ref C) "__init__"=some (some (.ref fI))->typeIn K (.ref fI)=some (.type "function")->qN cx P fI fi o fd->Z)->Z
section
variable {J:Program}{b1:Cx}{r g b6:ay}{b2 b4:List Addr}{l:List Env}{A:Around}{α β γ δ:Type}{P:bt}{b7 mb:Str->Option Value}{n:Nat}{rc:aG}{e:AE}{env:Env}{O:af}{h b5:Heap}{s:Shared}{K:Frag}{C:Addr}{bl:List Value}{w:World}
theorem EX.push{x:Addr}{k i:Nat}{N:List (Str×V)}(X:EX b1 r g b2 l O h C x k)(hi:O[i]? =some (.ns true N)){L:Addr}(M:b2[i]? =some L)(hf:env.frame=some L):EX b1 r g b2 (env::l) O h C x k:=by
 have p:∀{a:Addr},aD b1 r g b2 l O a->aD b1 r g b2 (env::l) O a:=λ{a} v=>⟨v.1,v.2.1,v.2.2.1,v.2.2.2.1,λe he q=>by
  (refine a2 (hy.mp he) (λzz=>?_) (λhe=>?_);subst zz;rotate_left;rotate_right)
  .rw[hf] at q;cases q;have:=v.2.2.2.1 i _ hi M;exact ftf this
  .exact v.2.2.2.2 e he q⟩
 refine jZ X λob vs hx cr f cp h1 v c=>⟨ob,vs,hx,cr,f,cp,h1,p v,?_⟩;(refine bc λno=>a2 c (λj=>?_) (λzz=>?_);(try clear c);refine no ?_;clear no;rotate_left;(try clear c);refine bH zz λd es ep m cs=>db cs λY U hD hn be Ld=>no ?_;clear no;rotate_right)
 .exact .inl j
 .exact .inr ⟨d,es,ep,m,Y,U,hD,hn,be,p Ld⟩
theorem EX.pop(X:EX b1 r g b2 (env::l) O h C x k):EX b1 r g b2 l O h C x k:=by
 refine jZ X λob vs hx cr f cp h1 v c=>⟨ob,vs,hx,cr,f,cp,h1,v.pop,?_⟩;(refine bc λno=>a2 c (λj=>?_) (λzz=>?_);(try clear c);refine no ?_;clear no;rotate_left;(try clear c);refine bH zz λd es ep m cs=>db cs λY U hD hn be Ld=>no ?_;clear no;rotate_right)
 .exact .inl j
 .exact .inr ⟨d,es,ep,m,Y,U,hD,hn,be,Ld.pop⟩
set_option tactic.hygienic true in
theorem IT(G:Gl b1 P b7 mb)(KX:K.In b1.B)(ki:findCls K (.type "Exception") (.type "type") "__init__"=some (.val (.builtin "Exception.__init__")))(hR:Rg A l n){bb q:Str}{N:Addr}{H:List Value}{bd:Bool}{sn:List Str}{sub:List Value}{ab:Bool}{bi:Option Bool}{dd:Option Addr}{k0 k1 k2 k3 k5:Option Value}{c6:ClassData}{fI:Addr}{fi:j8}{o:Obj}{fd:FuncData}
  (hC:b1.B.get? C=some (excClassObj bb q C N H bl bd sn sub ab bi dd k0 k1 k2 k3 k5 "Exception.__new__"))(XM:gX bl)(p:m8 K C c6)(f1:findIn K (.ref C) "what"=some none)(f2:findIn K (.ref C) "at"=some none)(I:qN b1 P fI fi o fd)
  {x:Addr}{t:Str}{tk:Tok}(S:St b1 r g [] l [] s.heap)(X:EX b1 r g [] l [] s.heap C x 0){R:Result->Shared->Prop}
  (hq:∀s' b6 b4 M,bk s g [] s' b6 b4->St b1 r b6 b4 l M s'.heap->EX b1 r b6 b4 l M s'.heap C x 2->R (.ok (.ret .none)) s'):
  codeAny (model J b1.w) A (.call (.ref fI) ⟨[.ref x,.str t tk],[]⟩) R s:=by
 have F:=I.fn;(refine bc λno=>aw (qE F.sc) λo1 v L=>no ?_;clear no);have b:LR (VR b1.w g []) [.t (.top x),.t (.str t)] [.ref x,.str t tk]:= .cons rfl (.cons (by exact⟨tk,rfl⟩) .nil);refine cD (qD S F.ps F.dfl F.len (I.bind x t) b) λys hb h1 h2=>uj (by have:=hR.depth;refine(?_:A.depth<1000);exact wG this) (S.ground _ _ F.at_) F.data v L ((F.rec_).keeps S.ground) ?_;refine hb _ _ _ _ ?_;refine rwm _ (rwm _ (rwm _ (rwm _ ?_ F.clos) F.code) F.bui) F.glob;refine oO (λr=>ui (λ_=>rfl) o1 (cl:=[]) rfl h1 h2) (I.env x t) S X λY g1 B env u S1 X1 he=>ac he λhe c2=>⟨G.nolimit.keeps S1.ground,?_⟩;(refine bc λno=>my I.body λp1 p2 p3 D j ep q1 c=>my c λq2 q3 q4 k u2 u3 U cd=>ac cd λhp z=>no ?_;clear cd c no);refine rwm _ ?_ z;have hk:env.scope.kind= .function:=by refine rwm _ ?_ he.scope;exact he.kind
 have be:ER b1 (env::l) g1 B ⟨fd.scope,0,[],fd.qualname++nm ".<locals>.",fi.code⟩ env:=⟨he.scope,he.kind,he.loc,he.globals,he.cells,he.qual,he.code,he.builtins,⟨env,.head _,rfl⟩⟩;have X2:=X1.push rfl he.loc c2;refine codeAny_func ?_;have d:=hR.deeper env;show wpAny _ _ (execs [_,_,_] env) _ _ _;refine ae (IS G d KX ki XM hC be (I.nE x t _ _) (I.nS x t _ _) (I.nW x t _ _) (S1.pushF rfl he.loc hk c2) X2 hp λs3 g3 c9 bo S3 X3=>?_);have i:=be.mono bo.2.1 bo.2.2;show wpAny _ _ (execs [_,_] env) _ _ _;refine ae (zZ G d KX p i (by decide) f1 (I.nS x t _ _) (I.nW x t _ _) S3 X3 λs4 g4 f ce S4 X4=>?_);show wpAny _ _ (execs [_] env) _ _ _;refine ae (zZ G d KX p (i.mono ce.2.1 ce.2.2) (by decide) f2 (I.nS x t _ _) (I.nA x t _ _) S4 X4 λs5 y m E S5 Q=>?_);show wpAny _ _ (pure Flow.next) _ _ _;refine ar (hq s5 y m (ee x t) (u.trans (bo.trans (ce.trans E))) S5.pop Q.pop)
theorem IU(S:St b1 r g b2 l O h)(L:aD b1 r g b2 l O x):aD b1 (fw r b2 O [] h) g [] l [] x:=by
 refine⟨L.1,?_,L.2.2.1,λi Q e1 _=>by simp at e1,L.2.2.2.2⟩;unfold fw;rw[if_neg];exact L.2.1
 rintro ⟨j,Q,e1,e2,e3,_⟩
 rw[L.2.2.2.1 j Q e1 e3] at e2;exact tff e2
theorem IV(G:Gl b1 P b7 mb)(c5:oQ K b1 P)(hR:Rm A l (n+1))(hE:P.exc C=true)(S:St b1 r g b2 l O s.heap){Q:Value->Shared->Prop}{E:Value->Shared->Prop}
  (hq:∀s' b6 x,bk s g b2 s' b6 b2->St b1 r b6 b2 l O s'.heap->EX b1 r b6 b2 l O s'.heap C x 2->Q (.ref x) s'):wpAny (model J b1.w) A (call (.ref C) [.str t tk]) Q E s:=by
 refine c5.exc C hE _ λbb q N H bl bd sn sub ab bi dd k0 k1 k2 k3 k5 c6 fI fi o fd hC XM p f1 f2 e7 e8 ei ef I=>?_;rcases s with⟨hh,gn,dr,i,os⟩;have B:[Value.str t tk].length<=sizeLine:=by refine rwm _ ?_ ms;show 1<=_;exact nr _ _
 refine ss (IN XM (c5.X.keeps S.ground) e7 e8 ei ef (S.ground _ _ hC) B ?_);have k:∀b o,hh.get? b=some o->((hh.push {cls:= .type "tuple",data:= .seq [Value.str t tk].toArray}).push (im C hh.objs.size)).get? b=some o:=λb o e=>a3 _ (a3 _ e);have S1:=S.keep k;have L:=S.lone_new (pk (pa _));have c3:((hh.push {cls:= .type "tuple",data:= .seq [Value.str t tk].toArray}).push (im C hh.objs.size)).get? (hh.objs.size+1)=some (im C hh.objs.size):=by heap_get
 have X2:EX b1 (fw r b2 O [] ((hh.push {cls:= .type "tuple",data:= .seq [Value.str t tk].toArray}).push (im C hh.objs.size))) g [] l [] ((hh.push {cls:= .type "tuple",data:= .seq [Value.str t tk].toArray}).push (im C hh.objs.size)) C (hh.objs.size+1) 0:=
  ⟨_,_,c3,rfl,rfl,rfl,rfl,IU S1 L,.inl rfl⟩
 refine IT (s:=⟨(hh.push {cls:= .type "tuple",data:= .seq [Value.str t tk].toArray}).push (im C hh.objs.size),gn,dr,i,os⟩) G c5.X c5.ini (Rg.under hR C [.str t tk]) hC XM p f1 f2 I (uI S1 (PI.nil (b1:=b1))) X2 λs' b6 b4 M st S3 X3=>?_;(refine aw st λu p2 p3=>?_;clear st;rcases u with⟨h4,y,rfl⟩);refine ac (uJ S1 (PI.nil (b1:=b1)) S3 p2 p3 (M:=O) rfl) λB1 D=>⟨rfl,hq _ b6 _ ⟨⟨h4,y,rfl⟩,p2,.refl _⟩ B1 ?_⟩;refine jZ X3 λob vs hx cr f cp h1 v c=>⟨ob,vs,hx,cr,f,cp,h1,D _ v,?_⟩;(refine bc λno=>a2 c (λj=>?_) (λzz=>?_);(try clear c);refine no ?_;clear no;rotate_left;(try clear c);refine bH zz λd es ep m cs=>db cs λY U hD hn be Ld=>no ?_;clear no;rotate_right)
 .exact .inl j
 .exact .inr ⟨d,es,ep,m,Y,U,hD,hn,be,D _ Ld⟩
theorem IW(G:Gl b1 P b7 mb)(c5:oQ K b1 P)(hh:A.handled=none)(hE:P.exc C=true){x:Sem Value}{Q:Flow->Shared->Prop}{E:Value->Shared->Prop}
  (h:wpAny (model J b1.w) A x (λv cf=>∃a b6 b4 k,v= .ref a/\St b1 r b6 b4 l O cf.heap/\EX b1 r b6 b4 l O cf.heap C a k/\E (.ref a) cf) E s):wpAny (model J b1.w) A (raiseStmt env (some x) none) Q E s:=by
 refine c5.exc C hE _ λbb q N H bl bd sn sub ab bi dd k0 k1 k2 k3 k5 c6 fI fi o fd hC XM p f1 f2 e7 e8 ei ef I=>?_;have i:(Value.ref C::bl).contains (.type "BaseException")=true:=by rw[List.contains_cons,XM.hE,Bool.or_true]
 unfold raiseStmt;refine ae (ea h (λv cf c=>?_) λ_ _ x=>x);(refine bH c λa b6 b4 k cv=>bK cv λc2 S X hE=>?_;clear cv;clear c;subst c2);have hC:=S.ground _ _ hC;rcases cf with⟨hp,gn,dr,tk,os⟩;(refine bc λno=>aq X λb vs cv=>?_;clear X;rcases b with⟨D,od,bo,bs⟩;refine db cv λhx cr f _ d _=>no ?_;clear no);simp only at cr f;clear cv;subst cr f
 repeat (first|with_reducible refine l4 hx ?_|with_reducible refine l4 hC ?_|(with_reducible refine ow hC ?_;refine rwm _ ?_ i)|wp_step)
 refine rwm _ ?_ d;refine ar (ar (wpAny_raiseNew_none hh hE))
theorem EX.xat(X:EX b1 r g b2 l O h C x k):df b1 r g b2 l O h C x:=by
 refine jZ X λob vs hx cr f cp h1 v _=>⟨ob,vs,hx,cr,f,cp,v,.inl h1⟩
set_option tactic.hygienic true in
theorem IX{B:Except Addr Fl×af}(q:tV P rc e x O=some B):∃D u be j C,x= .Call (.Name D u) be [] j/\be.all noStar=true/\cu P.glob e D O=some (.ok (.t (.top C)),O)/\P.exc C=true/\
  bm (a8 rc e be) (λvs=>match vs with
   |[.t (.str _)]=>λO=>some (.error C,O)
   |_=>λ_=>none) O=some B:=by
 cases x<;>first|exact nso q|skip
 rename_i f be m j
 cases f<;>first|exact nso q|skip
 rename_i D u
 cases m with
 |cons a b=>exact nso q
 |nil=>
 refine ac (cL q) λcp q=>gV q (λfv c6 e1 q=>?_) λc c6 e1 _=>?_;rotate_left
 .refine ag (qI e1) λ_ e2=>eoe (pri e2).1
 refine ag (qI e1) λ_ e2=>?_;have e3:=(pri e2).2;clear e2;subst e3
 cases fv with
 |own i=>exact nso q
 |t d=>
 cases d<;>first|exact nso q|skip
 refine ac (cL q) λhE q=>⟨_,_,_,_,_,rfl,cp,e1,hE,q⟩
theorem IY{vs:List V}{C:Addr}{B:Except Addr Fl×af}(q:(match vs with
   |[.t (.str _)]=>λO=>some (.error C,O)
   |_=>λ_=>none:MM Fl) O=some B):∃t,vs=[.t (.str t)]/\B=(.error C,O):=by
 rcases vs with _|⟨v,_|⟨b,c⟩⟩
 .exact nso q
 .cases v with
  |own i=>exact nso q
  |t t=>cases t<;>first|exact nso q|exact⟨_,rfl,(ai q).symm⟩
 .cases v with
  |own i=>exact nso q
  |t t=>cases t<;>exact nso q
theorem IZ(G:Gl b1 P b7 mb)(c5:oQ K b1 P)(S:aL J b1 n rc)(hR:Rm A l (n+1))(he:ER b1 l g b2 e env)(x c:Option Expr)(c4:Pos):
  aa J b1 r l A (RF b1.w) g b2 (exec (.Raise x c c4) env) (match x,c with
  |some x,none=>tV P rc e x
  |_,_=>λ_=>none):=by
 cases x with
 |none=>exact aa.none
 |some x=>
 cases c with
 |some c=>exact aa.none
 |none=>
 intro O B s bs Y a b S0 q;(refine bc λno=>hV (IX q) λD u be j C cs=>bS cs λe0 cp e1 hE q1=>no ?_;clear cs no);clear q;subst e0;have cf:=he.mono a b;show wpAny (model J b1.w) A (do standAt c4;raiseStmt env (some (do let v<-(do callWith j (<-eval (.Name D u) env) [] (backTo j (starEach be env)) (backToKw j (keywordEach [] env)):Sem Value);standAt c4;pure v)) none) _ _ s;refine ae (kV ?_);have keep:∀(s:Shared)(b6:ay)(b4:List Addr)(O:af),St b1 r b6 b4 l O s.heap->∀(Q:Keeper->Shared->Prop)(E:Value->Shared->Prop),(∀k,Q k s)->wpAny (model J b1.w) A (keeperOf (.ref C)) Q E s:=λs b6 b4 O S Q E hq=>by
  refine c5.exc C hE _ λbb q N H bl bd sn sub ab bi dd k0 k1 k2 k3 k5 c6 fI fi o fd hC XM p f1 f2 e7 e8 ei ef I=>?_;unfold keeperOf;refine ae (qq (S.ground _ _ hC) ?_);refine ae (looks_specialIn (c5.X.keeps S.ground) e7 _ _ _ _ (λ_ _ e=>e) ?_);exact ar (hq _)
 have d:=mX (c4:=j) (env:=env) be cp;have i:(backTo j (starEach be env)).any (·.1)=false:=by
  rw[List.any_eq_false];intro p hp;simp [d p hp]
 refine IW (l:=l) (r:=r) (O:=B.2) G c5 hR.handled hE (ae (ae ?_));refine ea (qp G cf D u O _ s bs Y (.refl _) (.refl _) S0 e1) (λy s2 z=>?_) λy s' z=>?_;rotate_left
 .refine cT z λ_ _ _ _ e2 _=>oee e2
 (refine ch z λg2 m v e2 p S2 hv=>?_;clear z);have e2:=oke e2;subst e2;have L:=hv;clear hv;subst L;unfold callWith;refine ae (en (qx d ?_));clear S0 he e1 d cp;refine aa.run (jv S (hR.mono (pa n)) be j g2 m (cf.mono p.2.1 p.2.2)) S2 q1 (λvs U c7 s3 g3 c9 q p3 S3 de=>?_) λx s' z=>?_
 ·(refine ag (IY q) λt c1=>ac c1 λc2 bo=>?_;clear c1;clear q;subst c2;subst bo);(refine aq de λy1 r1 c3=>aw c3 λc2 f cr=>?_;clear c3;clear de;subst c2;subst cr);(refine ag f λtk bo=>?_;clear f;subst bo);refine ae (kV ?_);refine qy i (λQ' hq=>keep s3 g3 c9 _ S3 Q' _ hq) (IV G c5 hR hE S3 λs4 g4 a ce S4 X4=>ae (kV (ar ?_)));exact⟨a,g4,c9,2,rfl,S4,X4,g4,c9,C,a,rfl,p.trans (p3.trans ce),S4,rfl,X4.xat⟩
 .refine bc λno=>bH z λg3 c9 c' ex M=>aw M λe4 p3 z=>no (⟨g3,c9,c',ex,e4,p.trans p3,z⟩)
end
end Internal
end
noncomputable section
set_option maxHeartbeats 2000000
namespace Internal
open PySem PySem.W PySem.Calls PyProof.Rows
structure gY (K:Frag) (cx:Cx) (P:bt) (mg mb:Str->Option Value):Prop where
 G:Gl cx P mg mb
 k1:Kt K cx P
 k2:oK K cx P
 k3:qz K cx P
 k5:uq cx P mg
 k6:ut K cx P
 k7:oN K cx P
 k8:mY K cx P
 k9:uC K cx P
 k10:oQ K cx P
 sys:∃o,cx.B.get? sysModules=some o
section
variable {J:Program}{b1:Cx}{r g b6:ay}{b2 b4:List Addr}{l:List Env}{A:Around}{α β γ δ:Type}{P:bt}{b7 mb:Str->Option Value}{n:Nat}{rc:aG}{e:AE}{env:Env}{O:af}{h b5:Heap}{s:Shared}{K:Frag}
theorem I0(T:gY K b1 P b7 mb)(S:aL J b1 n rc)(hR:Rm A l (n+1))(hv:LR (VR b1.w g b2) be U):aa J b1 r l A (RV b1.w) g b2 (call (.ref a) U) (ij P rc a be):=by
 intro O B s bs Y d i S0 q;have hv:=LR.up hv d i;unfold ij at q
 cases hf:P.fns a with
 |some fi=>
  rw[hf] at q;refine bc λno=>aq (T.k6.fns _ _ hf) λo fd F=>no (ss (uo T.G S hR.rg F hv S0 q))
 |none=>
  rw[hf] at q
  cases hi:P.init a with
  |none=>rw[hi] at q;exact nso q
  |some m=>
   rw[hi] at q;exact ss (Hg T.G T.k6 T.sys S hR hi hv S0 q)
set_option tactic.hygienic true in
theorem I3(T:gY K b1 P b7 mb)(hb:b<=n)(hc:cM J b1 b P.con)(S:aL J b1 n rc)(hR:Rm A l (n+1))(hf:VR b1.w g b2 f m)(hv:LR (VR b1.w g b2) be U):
  aa J b1 r l A (RV b1.w) g b2 (call m U) (xX P rc f be):=by
 cases f with
 |t t=>
  cases t<;>first|exact Ip hR.handled T.G T.sys T.k8 hf hv|skip
  rename_i a
  have hf:m= .ref a:=by exact hf
  subst hf;exact IK (l3 hb) hc hR hv (I0 T S hR hv)
 |own k=>
  intro O B s bs Y d i S0 q;(refine ag (VR.mono d i _ _ hf) λa c1=>ac c1 λha bo=>?_;clear c1;clear hf;subst bo);refine al (dE q) λQ hk q=>?_;cases Q<;>first|((first|exact nso q|cases q);done)|skip
  exact ss (Ha T.G S hR.rg (LR.up hv d i) S0 hk ha q)
set_option tactic.hygienic true in
theorem I4(T:gY K b1 P b7 mb)(S:aL J b1 n rc)(hR:Rm A l n)(he:ER b1 l g b2 e env)(ex:Expr):aa J b1 r l A (RV b1.w) g b2 (eval ex env) (xQ P rc ex e):=by
 cases ex<;>first|exact aa.none|skip
 case Constant c k p=>exact FD c
 case Name x p=>exact qp T.G he x p
 case BoolOp w vs p=>exact yp S hR p w vs g b2 he
 case BinOp a w b p=>exact F3 S hR he w a b p
 case UnaryOp w a p=>exact F4 S hR he w a p
 case Lambda ps v sc p=>exact Hc T.G T.k5 he ps v sc p
 case IfExp c a b p=>exact F2 S hR he c a b p
 case Compare a j U p=>exact F1 S hR he a j U p
 case Call f be m p=>
  cases m with
  |cons a b=>exact aa.none
  |nil=>
   cases f
   case Attribute o x D=>exact IF T.k9 S hR he o x be D p
   all_goals exact GP T.k3 S hR he _ be p rfl
 case Attribute o x p=>exact Gu T.k1 S hR he o x p
 case Subscript o i p=>exact Gj S hR he o i p
 case List U p=>exact F8 S hR he U p
 case Tuple U k p=>exact F9 S hR he U k p
 case Dict C vs p=>exact Gn T.G T.sys S hR he C vs p
 case ListComp Q I sc p=>exact zn S hR he Q I sc p
set_option tactic.hygienic true in
theorem I6(T:gY K b1 P b7 mb)(S:aL J b1 n rc)(hR:Rm A l (n+1))(he:ER b1 l g b2 e env)(st:Stmt):aa J b1 r l A (RF b1.w) g b2 (exec st env) (xV P rc st e):=by
 have f:=hR.mono (pa n);cases st<;>first|exact aa.none|skip
 case Expr x p=>exact HL S f he x p
 case Pass p=>exact GL p
 case Return x p=>exact GK S f he x p
 case Assign d x p=>exact HK S f he d x p
 case If c a b p=>exact GJ S f he c a b p
 case For tg it j i p=>exact Hl S f he tg it j i p
 case While c j i p=>exact Hn S f he c j i p
 case Raise x c p=>exact IZ T.G T.k10 S hR he x c p
 case Try j hs i cl p=>exact HX T.G T.k7 S f he j hs i cl p
theorem I7(T:gY K b1 P b7 mb)(hb:b<=n)(hc:cM J b1 b P.con)(S:aL J b1 n rc):aL J b1 (n+1) (xZ P rc) where
 ev:=λhR he ex=>I4 T S (hR.mono (pa n)) he ex
 test:=λhR he ex=>F5 (P:=P) S (hR.mono (pa n)) he (λex=>S.ev (hR.mono (pa n)) he ex) ex
 ex:=λhR he st=>I6 T S hR he st
 as:=λhR he ex v x hv=>GI T.k2 S (hR.mono (pa n)) he ex hv
 call:=λhR f be m U hf hv=>I3 T hb hc S hR hf hv
 star:=λ_ _ _ _=>rfl
 set:=λ_ _ _ _ _=>rfl
theorem qO(T:gY K b1 P b7 mb)(hc:cM J b1 b P.con):∀n,aL J b1 (b+n) (tX P n)
 |0=>Fz _ _ _
 |n+1=>I7 T (iv b n) hc (qO T hc n)
end
end Internal
end
noncomputable section
namespace Internal
open PySem PySem.W PySem.Calls PyProof.Rows
def TC(t t':T):Prop:=∀w g x,TR w g t x->TR w g t' x
def bG(l N:List T):Prop:=∀w g x,TRs w g l x->TRs w g N x
def b0(l N:List (aj×T)):Prop:=(∀w g x,TRd w g l x->TRd w g N x)/\N.map (·.1)=l.map (·.1)
def gZ(l N:List (Str×T)):Prop:=(∀w g m,TRf w g l m->TRf w g N m)/\N.map (·.1)=l.map (·.1)
def VC:V->V->Prop
 | .t t,.t t'=>TC t t'
 | .own i,.own j=>i=j
 |_,_=>False
def OC:MO->MO->Prop
 | .list l,.list N=>bG l N
 | .dict l,.dict N=>b0 l N
 |a,b=>a=b
noncomputable def LC:List V->List V->Prop
 |[],[]=>True
 |a::l,b::m=>VC a b/\LC l m
 |_,_=>False
def SC:af->af->Prop
 |[],[]=>True
 |a::l,b::m=>OC a b/\SC l m
 |_,_=>False
def QC:Except Addr V×af->Except Addr T×af->Prop
 |(.ok (.t t),S),(.ok t',H)=>TC t t'/\SC S H
 |(.error c,S),(.error c',H)=>c=c'/\SC S H
 |_,_=>False
theorem TC.refl(t:T):TC t t:=λ_ _ _ h=>h
theorem TC.trans(x:TC a b)(y:TC b c):TC a c:=λ_ _ _ h=>y _ _ _ (x _ _ _ h)
theorem bG.refl(t:List T):bG t t:=λ_ _ _ h=>h
theorem bG.cons(x:TC t t')(y:bG l N):bG (t::l) (t'::N):=λw g v h=>by
 refine b9 h λa r e p q=>⟨a,r,e,x _ _ _ p,y _ _ _ q⟩
theorem b0.refl(t:List (aj×T)):b0 t t:=⟨λ_ _ _ h=>h,rfl⟩
theorem b0.cons(x:TC t t')(y:b0 l N):b0 ((k,t)::l) ((k,t')::N):=⟨λw g v h=>by
 refine mA h λa r e p q z=>⟨a,r,e,p,x _ _ _ q,y.1 _ _ _ z⟩,by simp [y.2]⟩
theorem gZ.refl(t:List (Str×T)):gZ t t:=⟨λ_ _ _ h=>h,rfl⟩
theorem gZ.cons(x:TC t t')(y:gZ l N):gZ ((k,t)::l) ((k,t')::N):=⟨λw g m h=>by
 (refine ac h λc7 z=>?_;clear h;rcases c7 with⟨a,e,p⟩);exact⟨⟨a,e,x _ _ _ p⟩,y.1 _ _ _ z⟩,by simp [y.2]⟩
theorem TC.list(x:bG l N):TC (.list l) (.list N):=λw g v h=>by
 refine h8 h λa ys ep e q z=>⟨a,ys,ep,e,q,x _ _ _ z⟩
theorem TC.tuple(x:bG l N):TC (.tuple l) (.tuple N):=λw g v h=>by
 refine h8 h λa ys ep e q z=>⟨a,ys,ep,e,q,x _ _ _ z⟩
theorem TC.dict(x:b0 l N):TC (.dict l) (.dict N):=λw g v h=>by
 refine dm h λa ys ep e q z n1 n2=>⟨a,ys,ep,e,q,x.1 _ _ _ z,by refine rwm _ ?_ x.2;exact n1,n2⟩
theorem TC.inst(x:gZ l N):TC (.inst C l) (.inst C N):=λw g v h=>by
 refine sR h λa d od m e q q' n z o=>⟨a,d,od,m,e,q,q',n,x.1 _ _ _ z,λk hk=>o k (by refine rwl _ ?_ x.2;exact hk)⟩
theorem TC.box(x:TC t t')(h:lA k t'):TC t (.box k t'):=λw g v z=>by
 exact⟨h,x _ _ _ z⟩
theorem TC.unbox(x:TC t t'):TC (.box k t) t':=λw g v z=>by
 exact x _ _ _ z.2
theorem VC.refl:∀v,VC v v
 | .t t=>TC.refl t
 | .own i=>rfl
theorem OC.refl(Q:MO):OC Q Q:=by cases Q<;>first|rfl|exact bG.refl _|exact b0.refl _
theorem LC.refl:∀l,LC l l
 |[]=>trivial
 |a::l=>⟨VC.refl a,LC.refl l⟩
theorem SC.refl:∀l,SC l l
 |[]=>trivial
 |a::l=>⟨OC.refl a,SC.refl l⟩
section
variable {J:Program}{b1:Cx}{r g b6:ay}{b2 b4:List Addr}{l:List Env}{A:Around}{n:Nat}{rc:aG}{O M:af}{h:Heap}{s:Shared}
theorem VR.conv(c:VC v v')(h:VR w g b2 v x):VR w g b2 v' x:=by
 cases v<;>cases v'<;>first|exact c.elim|skip
 .exact c _ _ _ h
 .have e:=c;clear c;subst e;exact h
theorem LR.conv:∀{v v':List V}{x:List Value},LC v v'->LR (VR w g b2) v x->LR (VR w g b2) v' x
 |[],[],_,_,h=>h
 |a::l,b::m,_,c,⟨y,r,e,p,q⟩=>⟨y,r,e,VR.conv c.1 p,LR.conv c.2 q⟩
 |[],_::_,_,c,_=>c.elim
 |_::_,[],_,c,_=>c.elim
theorem OC.e{P:MO->MO->Prop}(c:OC a b)(eq:∀a,P a a)(w:∀l N,bG l N->P (.list l) (.list N))(f:∀l N,b0 l N->P (.dict l) (.dict N)):P a b:=by
 cases a with
 |list l=>cases b<;>first|exact w _ _ c|(have c:=c;exact MO.noConfusion c)
 |dict l=>cases b<;>first|exact f _ _ c|(have c:=c;exact MO.noConfusion c)
 |inst C d=>have c:=c;subst c;exact eq _
 |sh C d=>have c:=c;subst c;exact eq _
 |ns C d=>have c:=c;subst c;exact eq _
 |idt C=>have c:=c;subst c;exact eq _
 |cell C=>have c:=c;subst c;exact eq _
 |clo p q r s t=>have c:=c;subst c;exact eq _
 |fz t=>have c:=c;subst c;exact eq _
 |dead=>have c:=c;subst c;exact eq _
theorem OR.conv(c:OC Q f)(z:OR w g b2 h Q a):OR w g b2 h f a:=by
 revert z;refine OC.e (P:=λQ f=>OR w g b2 h Q a->OR w g b2 h f a) c (λ_ z=>z) (λl N c z=>?_) λl N c z=>?_
 .refine cS z λys ep e q=>⟨ys,ep,e,c _ _ _ q⟩
 .refine mA z λys ep e q n1 n2=>⟨ys,ep,e,c.1 _ _ _ q,by refine rwm _ ?_ c.2;exact n1,n2⟩
theorem OC.isFz(c:OC Q f):isFz f=isFz Q:=OC.e (P:=λQ f=>Internal.isFz f=Internal.isFz Q) c (λ_=>rfl) (λ_ _ _=>rfl) λ_ _ _=>rfl
theorem SC.get:∀{S H:af},SC S H->H.length=S.length/\∀(i:Nat)(f:MO),H[i]? =some f->∃Q,S[i]? =some Q/\OC Q f
 |[],[],_=>⟨rfl,λi Q e=>by simp at e⟩
 |a::l,b::m,c=>by
  refine ac (SC.get c.2) λe1 e2=>⟨by simp [e1],λi Q e=>?_⟩
  cases i with
  |zero=>simp at e;subst e;exact⟨a,rfl,c.1⟩
  |succ i=>simpa using e2 i Q (by simpa using e)
 |[],_::_,c=>c.elim
 |_::_,[],c=>c.elim
theorem St.conv(S:St b1 r g b2 l O h)(c:SC O M):St b1 r g b2 l M h:=by
 refine ac c.get λe1 e2=>⟨S.base,S.fr,S.rs,by exact rwm _ (rwm _ rfl e1) S.len,λi Q a h1 h2=>?_,λi Q a h1 h2 q=>?_,λi j Q f a h1 h2 q q' h3 h4=>?_,S.gr,S.gt,S.tabs,S.frs⟩
 .refine al (e2 i Q h1) λG f1 f2=>(S.own i G a f1 h2).conv f2
 .refine al (e2 i Q h1) λG f1 f2=>S.free i G a f1 h2 (f2.isFz▸q)
 .refine al (e2 i Q h1) λG f1 f2=>al (e2 j f h2) λm2 u t=>S.nd i j G m2 a f1 u (f2.isFz▸q) (t.isFz▸q') h3 h4
theorem aD.conv(L:aD b1 r g b2 l O a)(c:SC O M):aD b1 r g b2 l M a:=by
 refine ac c.get λe1 e2=>⟨L.1,L.2.1,L.2.2.1,λi Q h1 h2=>?_,L.2.2.2.2⟩;refine al (e2 i Q h1) λG f1 f2=>?_;refine a0 f2.isFz ?_;exact L.2.2.2.1 i G f1 h2
def oR(t:T):Prop:=∃w g x,TR w g t x
def cN(v:V):Prop:=∃w g b2 x,VR w g b2 v x
def eW(Q:MO):Prop:=∃w g b2 h a,OR w g b2 h Q a
def gl(rc:aG)(a:Addr)(be:List V)(S:af)(q:Except Addr T×af):Prop:=
 ∃bi H q',LC be bi/\SC S H/\rc.call (.t (.top a)) bi H=some q'/\QC q' q
theorem LR.sat:∀{v:List V}{x:List Value},LR (VR w g b2) v x->∀u∈v,cN u
 |[],_,_,_,h=>nomatch h
 |a::l,_,⟨y,r,e,p,q⟩,u,h=>by
  (refine a2 (hy.mp h) (λzz=>?_) (λh=>?_);subst zz;rotate_left;rotate_right)
  .exact⟨w,g,b2,y,p⟩
  .exact LR.sat q u h
theorem cM.run(d:aL J b1 b rc){c:Addr->List V->af->Option (Option (Except Addr T×af))}
  (hc:∀a be S q,c a be S=some (some q)->(∀v∈be,cN v)->(∀Q∈S,eW Q)->gl rc a be S q):cM J b1 b c:=by
 intro A l r g b2 hR a be U S q s e hv S0;refine ch (hc a be S q e hv.sat λQ hm=>by
  obtain⟨i,hi⟩:=List.mem_iff_getElem?.mp hm;have hl:=(List.getElem?_eq_some_iff.mp hi).1;rw[<-S0.len] at hl;exact⟨_,_,_,_,_,S0.own i Q _ hi (hS hl)⟩) λbi H q' dt ds f1 fx=>?_
 refine ea (d.call hR (.t (.top a)) bi (.ref a) U rfl (hv.conv dt) H q' s g b2 (.refl _) (.refl _) (S0.conv ds) f1) (λx s' z=>?_) λx s' z=>?_
 ·(refine ch z λg2 m v e1 p S2 hr=>?_;clear z);clear f1;rcases q' with⟨q1,O2⟩;cases e1;clear e;rcases q with⟨k,u2⟩
  cases v with
  |own i=>cases k<;>exact fx.elim
  |t t=>
   cases k with
   |error c=>exact fx.elim
   |ok t'=>exact⟨g2,m,t',rfl,p,S2.conv fx.2,fx.1 _ _ _ hr⟩
 ·(refine n0 z λg2 m c' ex e1 p S2 e2 X=>?_;clear z);clear f1;rcases q' with⟨q1,O2⟩;cases e1;clear e;rcases q with⟨k,u2⟩
  cases k with
  |ok t=>exact fx.elim
  |error c=>
   (refine ac fx λe3 ft=>?_;clear fx);subst e3;exact⟨g2,m,_,ex,rfl,p,S2.conv ft,e2,X.lift λa L=>L.conv ft⟩
theorem cM.mono{c:Addr->List V->af->Option (Option (Except Addr T×af))}(k:cM J b1 b c)(h:b<=b'):cM J b1 b' c:=
 λhR=>k (hR.mono h)
noncomputable def qP(c c':Addr->List V->af->Option (Option (Except Addr T×af))):Addr->List V->af->Option (Option (Except Addr T×af)):=λa be S=>match c a be S with
 |some q=>some q
 |none=>c' a be S
theorem cM.or{c c':Addr->List V->af->Option (Option (Except Addr T×af))}(x:cM J b1 b c)(y:cM J b1 b c'):cM J b1 b (qP c c'):=by
 intro A l r g b2 hR a be U S q s e;unfold qP at e
 cases h:c a be S with
 |some z=>rw[h] at e;cases e;exact x hR a be U S q s h
 |none=>rw[h] at e;exact y hR a be U S q s e
end
inductive BT (α:Type) where
 |nil|leaf (k:Nat) (v:α)|node (m:Nat) (l r:BT α)
noncomputable def BT.get{α:Type}:BT α->Nat->Option α
 | .nil,_=>none
 | .leaf k v,x=>cond (Nat.beq x k) (some v) none
 | .node m l r,x=>cond (Nat.ble x m) (l.get x) (r.get x)
noncomputable def BT.all{α:Type}:BT α->List (Nat×α)
 | .nil=>[]
 | .leaf k v=>[(k,v)]
 | .node _ l r=>l.all++r.all
theorem BT.get_mem{α:Type}:∀{t:BT α}{x:Nat}{v:α},t.get x=some v->(x,v)∈t.all
 | .nil,_,_,e=>nomatch e
 | .leaf k v,x,u,e=>by
  have e:cond (Nat.beq x k) (some v) none=some u:=e
  cases q:Nat.beq x k with
  |false=>rw[q] at e;exact nso e
  |true=>rw[q] at e;cases e;refine rwm _ ?_ (hY q);exact .head _
 | .node m l r,x,u,e=>by
  have e:cond (Nat.ble x m) (l.get x) (r.get x)=some u:=e
  cases q:Nat.ble x m with
  |true=>rw[q] at e;exact List.mem_append_left _ (BT.get_mem e)
  |false=>rw[q] at e;exact List.mem_append_right _ (BT.get_mem e)
noncomputable def qQ:List Nat->List Nat->Bool
 |[],[]=>true
 |a::l,b::m=>Nat.beq a b&&qQ l m
 |_,_=>false
theorem z0:∀{a b:List Nat},qQ a b=true->a=b
 |[],[],_=>rfl
 |a::l,b::m,e=>by
  have e:(Nat.beq a b&&qQ l m)=true:=e;rw[Bool.and_eq_true] at e;exact rwm _ (rwm _ rfl (z0 e.2)) (hY e.1)
def seq(a b:Str):Bool:=qQ a.cps.toList b.cps.toList
theorem qR(e:seq a b=true):a=b:=by
 obtain⟨⟨a⟩⟩:=a;obtain⟨⟨b⟩⟩:=b;have:=z0 e;simp at this;clear e;subst this;rfl
noncomputable def hkey(n:Str):Nat:=n.cps.toList.foldl (λh c=>Nat.add (Nat.mul h 257) c) 7
noncomputable def oS{α:Type}:List (Str×α)->Str->Option α
 |[],_=>none
 |(k,v)::r,n=>cond (seq n k) (some v) (oS r n)
theorem z8{α:Type}:∀{l:List (Str×α)}{n:Str}{v:α},oS l n=some v->(n,v)∈l
 |[],_,_,e=>nomatch e
 |(k,v)::r,n,u,e=>by
  have e:cond (seq n k) (some v) (oS r n)=some u:=e
  cases q:seq n k with
  |true=>rw[q] at e;cases e;refine rwm _ ?_ (qR q);exact .head _
  |false=>rw[q] at e;exact .tail _ (z8 e)
noncomputable def lf{α:Type}:List (Nat×α)->BT α
 |[]=> .nil
 |p::_=> .leaf p.1 p.2
noncomputable def ky{α:Type}:List (Nat×α)->Nat
 |[]=>0
 |p::_=>p.1
noncomputable def uK{α:Type}:Nat->Nat->List (Nat×α)->BT α
 |0,_,_=> .nil
 |f+1,n,l=>cond (Nat.ble n 1) (lf l) (.node (ky (l.drop (Nat.pred (Nat.div n 2)))) (uK f (Nat.div n 2) l) (uK f (Nat.sub n (Nat.div n 2)) (l.drop (Nat.div n 2))))
def BT.mk{α:Type}(l:List (Nat×α)):BT α:=uK 8 l.length l
def gB:BT (Str×T):= .mk ([("chr",.bi "chr"),("int",.typ "int"),("law",.top 670),("len",.bi "len"),("max",.bi "max"),("ord",.bi "ord"),("str",.typ "str"),("Name",.top 250),("bool",.typ "bool"),("dict",.typ "dict"),("list",.typ "list"),("told",.top 344),("Bench",.top 90),("Shelf",.top 435),("_wall",.top 21),("bytes",.typ "bytes"),("range",.typ "range"),("Lookup",.top 381),("Stream",.top 293),("String",.top 272),("copied",.top 349),("sorted",.bi "sorted"),("Decimal",.top 222),("NOTHING",.str (S "none")),("kind_of",.top 332),("word_at",.top 451),("is_group",.top 465),("items_at",.top 458),("purposes",.top 498),("switched",.top 545),("whole_in",.top 123),("DeskFault",.top 71),("Exception",.typ "Exception"),("MOST_HOPS",.int 30),("Reference",.top 321),("_law_draw",.top 624),("_law_refs",.top 634),("_law_some",.top 629),("_law_text",.top 649),("groups_in",.top 472),("keep_laid",.top 609),("put_group",.top 564),("rows_text",.top 571),("sign_text",.top 233),("DraftFault",.top 59),("PaperError",.top 46),("_law_fault",.top 663),("copy_grown",.top 583),("first_word",.top 118),("isinstance",.bi "isinstance"),("layer_head",.top 479),("layer_laid",.top 616),("numbers_in",.top 128),("put_states",.top 557),("told_plain",.top 339),("_law_labels",.tuple [.bytes #[97],.bytes #[],.bytes #[98,32,99],.bytes #[233],.bytes #[122]]),("group_label",.top 493),("layers_text",.top 595),("line_octets",.top 106),("octets_line",.top 111),("switch_told",.top 602),("_law_started",.top 644),("bench_turned",.top 101),("copy_changed",.top 578),("layer_states",.top 588),("shelf_copied",.top 444),("told_objects",.top 344),("Configuration",.top 515),("_law_document",.top 639),("_law_switched",.top 656),("configuration",.top 530),("group_numbers",.top 486),("put_layer_head",.top 552),("starting_states",.top 538),("configuration_of",.top 524),("MOST_FIGURES_OF_LINES",.int 9)].map λp:String×T=>(hkey (S p.1),S p.1,p.2))
noncomputable def I8:List (Nat×List T):=[(29,[.int (-1)]),(262,[.bool false]),(357,[.none,.none]),(525,[.int (-1)]),(531,[.none])]
def KR.dfl(r:KR):List T:=(I8.lookup r.d).getD []
def fB:BT j8:= .mk (pS.map λr=>(r.a,⟨r.s,S r.q,r.dfl,r.a - 1⟩))
def mB:BT (List (Str×Addr)):= .mk [(222,[(S "compared",177),(S "floor",191),(S "is_whole",184),(S "least_text",219),(S "minus",156),(S "negated",170),(S "plus",149),(S "rounded",198),(S "text",212),(S "times",163),(S "told",205)]),(321,[(S "pair",318)]),(381,[(S "fetch",371),(S "get",378)]),(435,[(S "add",406),(S "drop",413),(S "fetch",371),(S "get",378),(S "numbers",420),(S "put",399),(S "root",427),(S "told",432)])]
def iB:BT Addr:= .mk [(90,87),(222,142),(250,247),(272,269),(293,290),(321,311),(381,364),(435,364),(515,512)]
def sB:BT (List Addr):= .mk [(46,[46]),(59,[59,46]),(71,[71,46]),(90,[90]),(222,[222]),(250,[250]),(272,[272]),(293,[293]),(321,[321]),(381,[381]),(435,[435,381]),(515,[515])]
def eB:BT Unit:= .mk [(46,()),(59,()),(71,())]
def qS:BT (List Str):= .mk ([(90,["data","base","shelf"]),(222,["top","places"]),(250,["text"]),(272,["octets","is_hex"]),(293,["head","octets"]),(321,["number","generation"]),(381,["table","trailer"]),(435,["table","trailer"]),(515,["base","on","off","radio","locked","order","words"])].map λp:Nat×List String=>(p.1,p.2.map S))
noncomputable def z9:List Nat:=[90,222,250,272,293,321,381,435,515]
def m9:BT (BT Bool):= .mk ((List.range 8++z9).map λa=>(a,.mk ([1,2,3,4,5,6,7,222,250,272,293,321].map λb=>(b,Nat.beq a b||(Nat.beq a 1&&Nat.beq b 2)))))
def Aa:BT Str:= .mk [(608,(S "keep_laid.<locals>.<lambda>")),(615,(S "layer_laid.<locals>.<lambda>")),(669,(S "law.<locals>.<lambda>"))]
def Ab:BT Bool:= .mk ([21,36,43,87,90,101,106,111,118,123,128,142,149,156,163,170,177,184,191,198,205,212,219,222,233,247,250,269,272,290,293,311,318,321,332,339,344,349,364,371,378,381,399,406,413,420,427,432,435,444,451,458,465,472,479,486,493,498,512,515,524,530,538,545,552,557,564,571,578,583,588,595,602,609,616,624,629,634,639,644,649,656,663,670].map λa=>(a,!z9.any (Nat.beq a)))
abbrev aN:=Addr->List V->af->Option (Option (Except Addr T×af))
noncomputable def av:aN:=λ_ _ _=>none
def Pc(c:aN):bt where
 glob:=λn=>match gB.get (hkey n) with|some p=>cond (seq n p.1) (some p.2) none|none=>none
 con:=c
 fns:=λa=>fB.get a
 init:=λa=>iB.get a
 meth:=λa n=>match mB.get a with|some l=>oS l n|none=>none
 sub:=λa b=>match sB.get a with|some l=>l.any (Nat.beq b)|none=>false
 exc:=λa=>(eB.get a).isSome
 fld:=λa n=>match qS.get a with|some l=>l.any (seq n)|none=>false
 kd:=λa=>Ab.get a
 tb:=λa=>Aa.get a
 isi:=λa b=>match m9.get a with|some t=>t.get b|none=>none
end Internal
end
noncomputable section
namespace Internal
open PySem PySem.W PySem.Calls PyProof.Rows
set_option profiler.threshold 100
noncomputable def dH(x:Option (Option Value))(v:Option Value):Bool:=x==some v
def qT(K:Frag)(C:Addr)(n:Str):Bool:=(clsIn K C).any (·.hasDict)&&dH (findIn K (.ref C) n) none&&dH (findIn K (.ref C) "__getattribute__") (some (.builtin "object.__getattribute__"))&&
 dH (findIn K (.ref C) "__setattr__") (some (.builtin "object.__setattr__"))&&plainOver K C
theorem I9(b:Params):(qS.all.all λp=>p.2.all λn=>qT (heap b) p.1 n)=true:=by lk
noncomputable def Ac(o:Obj):Bool:=match o.data with
 | .func _=>true
 |_=>false
noncomputable def uL(o:Obj):Bool:=match o.data with
 | .cls _=>true
 |_=>false
theorem Ad{o:Obj}(h:Ac o=true):∃f,o.data= .func f:=by
 rcases o with⟨_,_,d,_⟩;cases d<;>first|exact ftf h|exact⟨_,rfl⟩
theorem Ja{o:Obj}(h:uL o=true):∃f,o.data= .cls f:=by
 rcases o with⟨_,_,d,_⟩;cases d<;>first|exact ftf h|exact⟨_,rfl⟩
def uM(K:Frag)(a:Addr)(b:Bool):Bool:=(K.lookup a).any λo=>cond b (Ac o) (uL o&&dH (specialIn K (.ref a) "__call__") (some (.builtin "type.__call__")))
theorem Jb(b:Params):(Ab.all.all λp=>uM (heap b) p.1 p.2)=true:=by lk
def Ae(K:Frag)(C g:Addr):Bool:=makesIn K C&&dH (findIn K (.ref C) "__init__") (some (.ref g))&&typeIn K (.ref g)==some (.type "function")
theorem Jc(b:Params):(iB.all.all λp=>Ae (heap b) p.1 p.2)=true:=by lk
noncomputable def Af(K:Frag)(D:Addr):Bool:=instIn K (.ref D) (.type "tuple")==some false&&subIn K (.ref D) (.type "BaseException")==some true&&(clsIn K D).isSome
theorem Jd(b:Params):(eB.all.all λp=>Af (heap b) p.1)=true:=by lk
theorem Je(b:Params):(eB.all.all λp=>eB.all.all λq=>subIn (heap b) (.ref p.1) (.ref q.1)==some ((Pc av).sub p.1 q.1))=true:=by lk
theorem Jf(b:Params):(m9.all.all λp=>p.2.all.all λq=>kitOne (heap b) (fm p.1) (fm q.1)==some q.2)=true:=by lk
def Ag(K:Frag)(a:Addr):Bool:=Nat.ble a 7||(plainGet K a "__class__"&&hasDictIn K a&&dH (findIn K (.ref a) "__class__") (some (.builtin "object.__class__"))&&mroIn K a (.type "object")==some true)
theorem Jg(b:Params):(m9.all.all λp=>Ag (heap b) p.1)=true:=by lk
theorem Jh(b:Params):(specialIn (heap b) (.builtin "object.__class__") "__get__",takesIn (heap b) (.builtin "object.__class__"))=(some (some (.builtin "getset_descriptor.__get__")),some true):=by lk
def Ah(K:Frag)(C:Addr)(n:Str)(f:Addr):Bool:=dH (findIn K (.ref C) "__getattribute__") (some (.builtin "object.__getattribute__"))&&dH (findIn K (.ref C) "__getattr__") none&&dH (findIn K (.ref C) n) (some (.ref f))&&
 typeIn K (.ref f)==some (.type "function")&&uM K f true
theorem Ji(b:Params):(mB.all.all λp=>p.2.all λq=>Ah (heap b) p.1 q.1 q.2)=true:=by lk
structure lR where
 a:Addr
 s:Stmt
 q:Str
 d:Value
 pm:Value
 c:Addr
 dfl:List T
def fl:List lR:=pS.map λr=>⟨r.a,r.s,S r.q,r.dv,r.m,r.a - 1,r.dfl⟩
theorem Jj:fB.all=fl.map λp=>(p.a,⟨p.s,p.q,p.dfl,p.c⟩):=by lk
theorem Jk(b:Params):(fl.map λp=>(heap b).lookup p.a)=fl.map λp=>some (⟨.type "function",none,.func (sY p.s p.q p.d .none .none p.pm (.ref p.c) .none 3 0),#[]⟩:Obj):=by lk
noncomputable def uN(t:T)(v:Value):Bool:=match t with
 | .none=>v== .none
 | .bool a=>v== .bool a
 | .int i=>Value.isInt i v
 |_=>false
noncomputable def qU:List T->List Value->Bool
 |[],[]=>true
 |a::l,b::m=>uN a b&&qU l m
 |_,_=>false
def Ai(K:Frag)(d:Value)(l:List T):Bool:=match d,l with
 | .none,[]=>true
 | .ref t,l=>match K.lookup t with
  |some ⟨_,_,.seq c _,_⟩=>qU l c.toList
  |_=>false
 |_,_=>false
noncomputable def Aj:Stmt->Bool
 | .FunctionDef .. =>true
 |_=>false
def Ak(K:Frag)(p:lR):Bool:=Aj p.s&&gU (aV p.s)&&gg (fg p.s)&&codeIn K (.ref p.c) p.q&&Ai K p.d p.dfl&&decide (p.dfl.length<=(fg p.s).args.length)
theorem Jl(b:Params):(fl.all λp=>Ak (heap b) p)=true:=by lk
end Internal
end
noncomputable section
set_option maxHeartbeats 2000000
namespace Internal
open PySem PySem.W PySem.Calls PyProof.Rows
theorem oT{K:Frag}{h:Heap}{b7:Str->Option Value}(X:K.In h)(G:h.Ns N b7)(e:nsIn K N n=some (some v)):b7 n=some v:=by
 (refine ch G λo es ep ho hd _ hf=>?_;clear G);unfold nsIn at e
 cases q:K.lookup N with
 |none=>rw[q] at e;exact nso e
 |some o'=>
  rw[q] at e;have h1:=X _ _ q;rw[ho] at h1;have h1:=ai h1;clear q;subst h1;rcases o with⟨c,d,b,sl⟩;have hd:b=_:=hd;subst hd;dsimp only at e;rw[<-hf];unfold nsFind findBy;refine rwl _ ?_ (Array.find?_toList)
  cases he:es.toList.find? (·.key.isStr n) with
  |none=>
   rw[he] at e;cases hq:es.toList.any (·.refKey)<;>rw[hq] at e
   .exact nso (ai e)
   .exact nso e
  |some f=>
   rw[he] at e;exact ai e
noncomputable def sv(x:Option (Option Value))(f:Value->Bool):Bool:=match x with
 |some (some v)=>f v
 |_=>false
theorem uO{f:Value->Bool}(h:sv x f=true):∃v,x=some (some v)/\f v=true:=by
 rcases x with _|_|v
 .exact ftf h
 .exact ftf h
 .exact⟨v,rfl,h⟩
noncomputable def Jm(a:Array UInt8)(v:Value):Bool:=match v with
 | .bytes b _=>decide (a=b)
 |_=>false
def uP(t:T)(v:Value):Bool:=match t with
 | .bytes a=>Jm a v
 |_=>false
noncomputable def qV(l:List T)(m:List Value):Bool:=match l,m with
 |[],[]=>true
 |a::l,b::m=>uP a b&&qV l m
 |_,_=>false
def uQ(l:List T)(o:Obj):Bool:=o.cls== .type "tuple"&&o.dict.isNone&&o.slots.isEmpty&&match o.data with
 | .seq c _=>qV l c.toList
 |_=>false
def Jn(K:Frag)(l:List T)(v:Value):Bool:=match v with
 | .ref a=>(K.lookup a).any (uQ l)
 |_=>false
def Al(K:Frag)(n:Str)(t:T):Bool:=match t with
 | .top a=>dH (nsIn K 3 n) (some (.ref a))
 | .int i=>sv (nsIn K 3 n) (Value.isInt i)
 | .str s=>sv (nsIn K 3 n) (Value.isStrOf s)
 | .typ s=>dH (nsIn K 3 n) none&&bootBuiltins n==some (.type s)&&decide (n≠"__name__")
 | .bi s=>dH (nsIn K 3 n) none&&bootBuiltins n==some (.builtin s)&&decide (n≠"__name__")
 | .tuple l=>sv (nsIn K 3 n) (Jn K l)
 |_=>false
set_option profiler.threshold 100
theorem Jo(b:Params):(gB.all.all λp=>Al (heap b) p.2.1 p.2.2)=true:=by lk
def oU:List (Addr×Addr×Str):=[(608,604,S "keep_laid.<locals>.<lambda>"),(615,611,S "layer_laid.<locals>.<lambda>"),(669,665,S "law.<locals>.<lambda>")]
abbrev bU(w:World)(B:Heap):Cx:=⟨w,B,oU⟩
section
variable {w:World}{B:Heap}{b7 mb:Str->Option Value}{c:aN}
theorem eI(h:dH x v=true):x=some v:=by
 unfold dH at h;exact nf.mp h
theorem Jp(h:(Pc c).glob n=some t):∃k,(k,(n,t))∈gB.all:=by
 have h:(match gB.get (hkey n) with|some p=>cond (seq n p.1) (some p.2) none|none=>none)=some t:=h
 cases hg:gB.get (hkey n) with
 |none=>rw[hg] at h;exact nso h
 |some p=>
  rw[hg] at h;dsimp only at h
  cases hs:seq n p.1 with
  |false=>rw[hs] at h;exact nso h
  |true=>
   rw[hs] at h;cases h;refine⟨hkey n,?_⟩;have:=BT.get_mem hg;refine rwm _ ?_ (qR hs);rw[qR hs] at this;exact this
theorem Jq{g:ay}(h:uP t v=true):TR w g t v:=by
 cases t<;>first|exact ftf h|skip
 cases v<;>first|exact ftf h|skip
 exact⟨_,by exact rwm _ rfl (hG h)⟩
theorem Am{g:ay}:∀{l:List T}{m:List Value},qV l m=true->TRs w g l m
 |[],[],_=>rfl
 |[],_::_,h=>ftf h
 |_::_,[],h=>ftf h
 |a::l,b::m,h=>by
  have h:(uP a b&&qV l m)=true:=h;rw[Bool.and_eq_true] at h;exact⟨b,m,rfl,Jq h.1,Am h.2⟩
theorem Jr{g:ay}(h:uQ l o=true)(ho:g a=some o):TR w g (.tuple l) (.ref a):=by
 rcases o with⟨c,d,j,sl⟩;unfold uQ at h;refine ac (Bool.and_eq_true_iff.mp h) λh0 h4=>?_;clear h;simp only[Bool.and_eq_true,Array.isEmpty_iff,Option.isNone_iff_eq_none] at h0;rcases h0 with⟨⟨h1,h2⟩,h3⟩;have h1:=nf.mp h1;subst h1 h2 h3;cases j<;>first|exact ftf h4|exact⟨a,_,_,rfl,ho,Am h4⟩
theorem Js(X:(heap w.params).In B)(hg:B.Ns mainGlobals b7)(f:∀x:Str,x≠"__name__"->mb x=bootBuiltins x)(h:Al (heap w.params) n t=true):
  ∃x,(b7 n=some x\/(b7 n=none/\mb n=some x))/\TR w B.get? t x:=by
 have b:∀{v:Value},(dH (nsIn (heap w.params) 3 n) none&&bootBuiltins n==some v&&decide (n≠"__name__"))=true->b7 n=none/\mb n=some v:=λ{v} h=>by
  simp only[Bool.and_eq_true,decide_eq_true_eq] at h;exact⟨ns_none_of X hg (eI h.1.1),(f _ h.2).trans (nf.mp h.1.2)⟩
 cases t<;>first|exact ftf h|skip
 .refine al (uO h) λv e h=>?_;(refine ag (qu h) λtk bo=>?_;subst bo);exact⟨_,.inl (oT X hg e),tk,rfl⟩
 .refine al (uO h) λv e h=>?_;(refine ag (Value.isStrOf_shape h) λtk bo=>?_;subst bo);exact⟨_,.inl (oT X hg e),tk,rfl⟩
 .exact⟨_,.inr (b h),rfl⟩
 .exact⟨_,.inr (b h),rfl⟩
 .exact⟨_,.inl (oT X hg (eI h)),rfl⟩
 .refine al (uO h) λv e h=>?_;cases v<;>first|exact ftf h|skip
  refine al (any_some h) λo e2 h=>⟨_,.inl (oT X hg e),Jr h (X _ _ e2)⟩
theorem Jt(X:(heap w.params).In B)(hg:B.Ns mainGlobals b7)(hb:B.Ns builtinsNs mb)(hn:B.NoLimit)(f:∀x:Str,x≠"__name__"->mb x=bootBuiltins x):Gl (bU w B) (Pc c) b7 mb:=
 ⟨hg,hb,hn,λn t h=>by
  refine ag (Jp h) λk hm=>Js X hg f (hL.mp (Jo w.params) _ hm)⟩
theorem An(h:(Pc c).fld C n=true):qT (heap w.params) C n=true:=by
 have h:(match qS.get C with|some l=>l.any (seq n)|none=>false)=true:=h
 cases hl:qS.get C with
 |none=>rw[hl] at h;exact ftf h
 |some l=>
  rw[hl] at h;refine al (List.any_eq_true.mp h) λm hm hs=>?_;refine rwm _ ?_ (qR hs);exact hL.mp (hL.mp (I9 w.params) _ (BT.get_mem hl)) _ hm
theorem Ju(X:(heap w.params).In B):Kt (heap w.params) (bU w B) (Pc c):=
 ⟨X,λC n h=>by
  have h:=An (w:=w) h;unfold qT at h;simp only[Bool.and_eq_true] at h;refine al (any_some h.1.1.1.1) λc6 e1 e2=>⟨c6,e1,e2,eI h.1.1.1.2,eI h.1.1.2⟩⟩
theorem Jv(X:(heap w.params).In B):oK (heap w.params) (bU w B) (Pc c):=
 ⟨X,λC n h=>by
  have h:=An (w:=w) h;unfold qT at h;simp only[Bool.and_eq_true] at h;refine⟨eI h.1.2,h.2,?_,h.1.1.1.1⟩;unfold takerIn;refine rwm _ ?_ (eI h.1.1.1.2);rfl⟩
theorem Ao(h:(Pc c).kd a=some b):uM (heap w.params) a b=true:=
 hL.mp (Jb w.params) _ (BT.get_mem h)
theorem Jw(X:(heap w.params).In B):qz (heap w.params) (bU w B) (Pc c):=by
 refine⟨X,λa h=>?_,λa h=>?_⟩
 .refine al (any_some (Ao h)) λo e h=>ag (Ad h) λf hf=>⟨o,f,X _ _ e,hf⟩
 .refine al (any_some (Ao (w:=w) h)) λo e h=>?_;have h:(uL o&&dH (specialIn (heap w.params) (.ref a) "__call__") (some (.builtin "type.__call__")))=true:=h;rw[Bool.and_eq_true] at h;refine ag (Ja h.1) λf hf=>⟨⟨o,f,X _ _ e,hf⟩,eI h.2⟩
theorem Ap(b:Params):codeHdIn (heap b) 608 604=true:=by lk
theorem Aq(b:Params):codeHdIn (heap b) 615 611=true:=by lk
theorem Ar(b:Params):codeHdIn (heap b) 669 665=true:=by lk
theorem Jx:Aa.all=[(608,S "keep_laid.<locals>.<lambda>"),(615,S "layer_laid.<locals>.<lambda>"),(669,S "law.<locals>.<lambda>")]:=rfl
theorem Jy(X:(heap w.params).In B)(g:∃b o,b7 "__builtins__"=some (.ref b)/\b≠builtinsNs/\b≠mainGlobals/\B.get? b=some o/\o.cls= .type "module"/\o.dict=some builtinsNs/\o.data= .plain):uq (bU w B) (Pc c) b7:=by
 refine⟨λa q h=>?_,λq hq q' d h=>?_,g⟩
 .have hm:=BT.get_mem h;rw[Jx] at hm;(refine bc λno=>a2 (hy.mp hm) (λe=>?_) (λhm=>?_);refine no ?_;clear no;rotate_left;refine no ?_;clear no;rotate_right)
  .cases e;exact⟨by decide,604,.head _,sz X (Ap _)⟩
  (refine bc λno=>a2 (hy.mp hm) (λe=>?_) (λhm=>?_);refine no ?_;clear no;rotate_left;refine no ?_;clear no;rotate_right)
  .cases e;exact⟨by decide,611,.tail _ (.head _),sz X (Aq _)⟩
  (refine bc λno=>a2 (hy.mp hm) (λe=>?_) (λhm=>?_);refine no ?_;clear no;rotate_left;refine no ?_;clear no;rotate_right)
  .cases e;exact⟨by decide,665,.tail _ (.tail _ (.head _)),sz X (Ar _)⟩
  .cases hm
 .have hq:=hq;have d:=d;simp only[oU,List.mem_cons,List.not_mem_nil,or_false] at hq d;rcases hq with rfl|rfl|rfl<;>rcases d with rfl|rfl|rfl<;>first|rfl|exact absurd h (by decide)
theorem Jz{g:ay}(h:uN t v=true):TR w g t v:=by
 cases t<;>first|exact ftf h|exact nf.mp h|exact qu h
theorem As{g:ay}:∀{l:List T}{m:List Value},qU l m=true->TRs w g l m
 |[],[],_=>rfl
 |[],_::_,h=>ftf h
 |_::_,[],h=>ftf h
 |a::l,b::m,h=>by
  have h:(uN a b&&qU l m)=true:=h;rw[Bool.and_eq_true] at h;exact⟨b,m,rfl,Jz h.1,As h.2⟩
theorem JA(h:Aj s=true):∃bb v d r f ts b p,s= .FunctionDef bb (fg s) v d r f (aV s) ts b p/\FuncBody.stmts (ba s)= .stmts v:=by
 cases s<;>first|((first|exact ftf h|cases h);done)|skip
 exact⟨_,_,_,_,_,_,_,_,rfl,rfl⟩
abbrev lR.fd(p:lR):FuncData:=sY p.s p.q p.d .none .none p.pm (.ref p.c) .none 3 0
set_option tactic.hygienic true in
theorem uR(X:(heap w.params).In B){p:lR}(hp:p∈fl):oM (bU w B) p.a ⟨p.s,p.q,p.dfl,p.c⟩ ⟨.type "function",none,.func p.fd,#[]⟩ p.fd:=by
 have hk:=hL.mp (Jl w.params) p hp;unfold Ak at hk;simp only[Bool.and_eq_true,decide_eq_true_eq] at hk;(refine ac hk λc7 G=>?_;clear hk;rcases c7 with⟨⟨⟨⟨h1,h2⟩,h3⟩,h4⟩,h5⟩);refine⟨X _ _ (List.map_inj_left.mp (Jk w.params) p hp),rfl,?_,rfl,rfl,rfl,rfl,h2,h3,rfl,codeRec_of X h4,?_,G⟩
 .exact JA h1
 .refine(?_:um B w p.d p.dfl);revert h5;generalize p.d=dv;generalize p.dfl=dl;intro h5;cases dv<;>first|((first|exact ftf h5|cases h5);done)|skip
  .cases dl with
   |nil=>exact .inl ⟨rfl,rfl⟩
   |cons a l=>exact ftf h5
  .rename_i t
   unfold Ai at h5;dsimp only at h5
   cases hk:(heap w.params).lookup t with
   |none=>rw[hk] at h5;exact ftf h5
   |some ob=>
    rw[hk] at h5;rcases ob with⟨D,od,bo,bs⟩;cases bo<;>first|((first|exact ftf h5|cases h5);done)|skip
    exact .inr ⟨t,_,_,_,rfl,X _ _ hk,rfl,As h5⟩
theorem JB(X:(heap w.params).In B)(h:(Pc c).fns a=some fi):∃o fd,oM (bU w B) a fi o fd:=by
 have hm:=BT.get_mem h;rw[Jj] at hm;refine al (hK.mp hm) λp hp e=>?_;clear h hm;cases e;exact⟨_,_,uR X hp⟩
theorem JC(X:(heap w.params).In B):ut (heap w.params) (bU w B) (Pc c):=by
 refine⟨X,λC g h=>?_,λa fi h=>JB X h⟩;have:=hL.mp (Jc w.params) _ (BT.get_mem (show iB.get C=some g from h));unfold Ae at this;simp only[Bool.and_eq_true] at this;exact⟨this.1.1,eI this.1.2,nf.mp this.2⟩
theorem qW(h:(Pc c).exc D=true):(D,())∈eB.all:=by
 have h:=h;refine ag (Option.isSome_iff_exists.mp h) λu hu=>BT.get_mem hu
theorem JD(X:(heap w.params).In B):oN (heap w.params) (bU w B) (Pc c):=by
 refine⟨X,λD h=>?_,λC D h b5=>?_⟩
 .have:=hL.mp (Jd w.params) _ (qW h);unfold Af at this;simp only[Bool.and_eq_true] at this;exact⟨nf.mp this.1.1,nf.mp this.1.2,this.2⟩
 .exact nf.mp (hL.mp (hL.mp (Je w.params) _ (qW h)) _ (qW b5))
theorem At(h:(Pc c).isi a b=some q):∃t,(a,t)∈m9.all/\(b,q)∈t.all:=by
 have h:(match m9.get a with|some t=>t.get b|none=>none)=some q:=h
 cases ht:m9.get a with
 |none=>rw[ht] at h;exact nso h
 |some t=>rw[ht] at h;exact⟨t,BT.get_mem ht,BT.get_mem h⟩
theorem JE(X:(heap w.params).In B):mY (heap w.params) (bU w B) (Pc c):=by
 refine⟨X,λa b q h=>?_,λa b q h ha=>?_,?_⟩
 .refine al (At h) λt h1 h2=>nf.mp (hL.mp (hL.mp (Jf w.params) _ h1) _ h2)
 .refine al (At h) λt h1 h2=>?_;have:=hL.mp (Jg w.params) _ h1;unfold Ag at this;have hb:Nat.ble a 7=false:=by
   cases z:Nat.ble a 7 with
   |false=>rfl
   |true=>have:=a4 z;exact absurd ha (Nat.not_lt.mpr this)
  dsimp only at this;rw[hb,Bool.false_or] at this;simp only[Bool.and_eq_true] at this;exact⟨this.1.1.1,this.1.1.2,eI this.1.2,nf.mp this.2⟩
 .have:=Jh w.params;simp only[Prod.mk.injEq] at this;exact this
theorem JF(X:(heap w.params).In B):uC (heap w.params) (bU w B) (Pc c):=by
 refine⟨X,λC n f h=>?_⟩;have h:(match mB.get C with|some l=>oS l n|none=>none)=some f:=h
 cases hl:mB.get C with
 |none=>rw[hl] at h;exact nso h
 |some l=>
  rw[hl] at h;have:=hL.mp (hL.mp (Ji w.params) _ (BT.get_mem hl)) _ (z8 h);unfold Ah at this;simp only[Bool.and_eq_true] at this;refine⟨eI this.1.1.1.1,eI this.1.1.1.2,eI this.1.1.2,nf.mp this.1.2,?_⟩;refine al (any_some this.2) λo e hk=>ag (Ad hk) λf hf=>⟨o,f,X _ _ e,hf⟩
def qX:lR:=⟨36,bf 2 0,S "PaperError.__init__",(.ref 29),(.str (S "paperhold.errors") 194),35,[(.int (-1))]⟩
theorem JG:qX∈fl:= .tail _ (.head _)
noncomputable def JH:Stmt->List Pos
 | .Expr (.Call (.Attribute (.Name _ p1) _ D) [.Name _ p2,.Name _ p3] _ j) ep=>[p1,p2,p3,D,j,ep]
 | .Assign [.Attribute (.Name _ q1) _ q2] (.Name _ q3) q4=>[q1,q2,q3,q4]
 |_=>[]
def ps(i j:Nat):Pos:=((JH ((ba (bf 2 0))[i]?.getD (.Pass ⟨0,0,0,0⟩)))[j]?).getD ⟨0,0,0,0⟩
theorem JI:FuncBody.stmts (ba (bf 2 0))= .stmts [
  .Expr (.Call (.Attribute (.Name "Exception" (ps 0 0)) "__init__" (ps 0 3)) [.Name "self" (ps 0 1),.Name "what" (ps 0 2)] [] (ps 0 4)) (ps 0 5),
  .Assign [.Attribute (.Name "self" (ps 1 0)) "what" (ps 1 1)] (.Name "what" (ps 1 2)) (ps 1 3),
  .Assign [.Attribute (.Name "self" (ps 2 0)) "at" (ps 2 1)] (.Name "at" (ps 2 2)) (ps 2 3)]:=by lk
theorem JJ:((ps 0 3).endLine==(ps 0 4).line)=true:=by lk
theorem JK(x:Addr)(t:Str):d8 (fg (bf 2 0)).args [.t (.top x),.t (.str t)] [.int (-1)]=some (oP x t):=by lk
theorem JL(x:Addr)(t:Str):(bm (new (.ns true [])) λlh=>bm (et (aV (bf 2 0)).names []) λcl=>bm (gS ⟨aV (bf 2 0),lh,cl,S "PaperError.__init__"++nm ".<locals>.",35⟩ (oP x t)) λ_=>pm (⟨aV (bf 2 0),lh,cl,S "PaperError.__init__"++nm ".<locals>.",35⟩:AE)) []
  =some (.ok ⟨aV (bf 2 0),0,[],S "PaperError.__init__"++nm ".<locals>.",35⟩,ee x t):=by lk
theorem JM(c:aN)(x:Addr)(t q:Str)(a:Addr):cu (Pc c).glob ⟨aV (bf 2 0),0,[],q,a⟩ "Exception" (ee x t)=some (.ok (.t (.typ "Exception")),ee x t):=by lk
theorem JN(c:aN)(x:Addr)(t q:Str)(a:Addr):cu (Pc c).glob ⟨aV (bf 2 0),0,[],q,a⟩ "self" (ee x t)=some (.ok (.t (.top x)),ee x t):=by lk
theorem JO(c:aN)(x:Addr)(t q:Str)(a:Addr):cu (Pc c).glob ⟨aV (bf 2 0),0,[],q,a⟩ "what" (ee x t)=some (.ok (.t (.str t)),ee x t):=by lk
theorem JP(c:aN)(x:Addr)(t q:Str)(a:Addr):cu (Pc c).glob ⟨aV (bf 2 0),0,[],q,a⟩ "at" (ee x t)=some (.ok (.t (.int (-1))),ee x t):=by lk
noncomputable def oV:List Value:=[.type "Exception",.type "BaseException",.type "object"]
theorem JQ(b:Params):(heap b).lookup 46=some (excClassObj (S "PaperError") (S "PaperError") 46 45 [.type "Exception"] oV true [] [.ref 59,.ref 71] false none none (some (.ref 22)) none (some (.str (S "PaperError") 196)) (some (.str (S "PaperError") 204)) (some (.bool true)) "Exception.__new__"):=by lk
theorem JR(b:Params):(heap b).lookup 59=some (excClassObj (S "DraftFault") (S "DraftFault") 59 58 [.ref 46] (.ref 46::oV) true [] [] false none none (some (.ref 50)) none (some (.str (S "DraftFault") 236)) (some (.str (S "DraftFault") 244)) (some (.bool true)) "Exception.__new__"):=by lk
theorem JS(b:Params):(heap b).lookup 71=some (excClassObj (S "DeskFault") (S "DeskFault") 71 70 [.ref 46] (.ref 46::oV) true [] [] false none none (some (.ref 62)) none (some (.str (S "DeskFault") 252)) (some (.str (S "DeskFault") 260)) (some (.bool true)) "Exception.__new__"):=by lk
theorem JT:gX oV:=⟨by decide+kernel,by decide+kernel,by decide+kernel,by decide+kernel⟩
theorem Au:gX (.ref 46::oV):=⟨by decide+kernel,by decide+kernel,by decide+kernel,by decide+kernel⟩
def uS(K:Frag)(C:Addr):Bool:=(clsIn K C).any (λc6=>c6.hasDict&& !c6.mro.isEmpty&&c6.mro.contains (.type "object"))&&dH (findIn K (.ref C) "__setattr__") (some (.builtin "object.__setattr__"))&&dH (findIn K (.ref C) "what") none&&dH (findIn K (.ref C) "at") none&&
 dH (specialIn K (.ref C) "__call__") (some (.builtin "type.__call__"))&&instIn K (.ref C) (.type "type")==some true&&dH (findIn K (.ref C) "__init__") (some (.ref 36))
theorem JU(b:Params):([46,59,71].all λC=>uS (heap b) C)=true:=by lk
theorem JV(b:Params):typeIn (heap b) (.ref 36)=some (.type "function"):=by lk
theorem JW(b:Params):findCls (heap b) (.type "Exception") (.type "type") "__init__"=some (.val (.builtin "Exception.__init__")):=by lk
theorem JX:eB.all.map (·.1)=[46,59,71]:=by lk
theorem JY(X:(heap w.params).In B):qN (bU w B) (Pc c) 36 ⟨bf 2 0,S "PaperError.__init__",[(.int (-1))],35⟩ ⟨.type "function",none,.func qX.fd,#[]⟩ qX.fd:=
 ⟨uR X JG,⟨_,_,_,_,_,_,_,_,_,_,_,_,_,_,JJ,JI⟩,JK,JL,JM c,JN c,JO c,JP c⟩
theorem JZ{K:Frag}{C:Addr}{bb q:Str}{N:Addr}{H bl:List Value}{bd:Bool}{sn:List Str}{sub:List Value}{ab:Bool}{bi:Option Bool}{dd:Option Addr}{k0 k1 k2 k3 k5:Option Value}{b:String}
  (h:K.lookup C=some (excClassObj bb q C N H bl bd sn sub ab bi dd k0 k1 k2 k3 k5 b)):∃c6,clsIn K C=some c6/\c6.mro= .ref C::bl:=by
 unfold clsIn;refine rwm _ ?_ h;exact⟨_,rfl,rfl⟩
theorem uU(X:(heap w.params).In B){C:Addr}{bb q:Str}{N:Addr}{H bl:List Value}{bd:Bool}{sn:List Str}{sub:List Value}{ab:Bool}{bi:Option Bool}{dd:Option Addr}{k0 k1 k2 k3 k5:Option Value}
  (h:(heap w.params).lookup C=some (excClassObj bb q C N H bl bd sn sub ab bi dd k0 k1 k2 k3 k5 "Exception.__new__"))(hm:gX bl)(hp:∀self,refuseLoop self "__setattr__" (.ref C::bl)=pure ())(hk:uS (heap w.params) C=true):
  ∀(Z:Prop),(∀(bb q:Str)(N:Addr)(H bl:List Value)(bd:Bool)(sn:List Str)(sub:List Value)(ab:Bool)(bi:Option Bool)(dd:Option Addr)(k0 k1 k2 k3 k5:Option Value)(c6:ClassData)(fI:Addr)(fi:j8)(o:Obj)(fd:FuncData),B.get? C=some (excClassObj bb q C N H bl bd sn sub ab bi dd k0 k1 k2 k3 k5 "Exception.__new__")->gX bl->m8 (heap w.params) C c6->findIn (heap w.params) (.ref C) "what"=some none->findIn (heap w.params) (.ref C) "at"=some none->specialIn (heap w.params) (.ref C) "__call__"=some (some (.builtin "type.__call__"))->instIn (heap w.params) (.ref C) (.type "type")=some true->findIn (heap w.params) (.ref C) "__init__"=some (some (.ref fI))->typeIn (heap w.params) (.ref fI)=some (.type "function")->qN (bU w B) (Pc c) fI fi o fd->Z)->Z:=by
 refine al (JZ h) λc6 e1 e2=>?_;unfold uS at hk;simp only[Bool.and_eq_true] at hk;(refine ac hk λc7 b=>?_;clear hk;rcases c7 with⟨⟨⟨⟨⟨z1,v⟩,Y⟩,t⟩,G⟩,A⟩);rw[e1] at z1;simp only[Option.any_some,Bool.and_eq_true,Bool.not_eq_true'] at z1;exactλZ k=>k _ _ _ _ _ _ _ _ _ _ _ _ _ _ _ _ c6 36 _ _ _ (X _ _ h) hm ⟨e1,z1.1.1,z1.1.2,z1.2,λself=>by refine rwm _ ?_ e2;exact hp self,eI v⟩ (eI Y) (eI t) (eI G) (nf.mp A) (eI b) (JV _) (JY X)
theorem J0(X:(heap w.params).In B):oQ (heap w.params) (bU w B) (Pc c):=by
 refine⟨X,JW _,λC h=>?_⟩;have hm:=List.mem_map_of_mem (f:=(·.1)) (qW h);rw[JX] at hm;have b:=F.store_Exception.passes;have hx:=JU w.params;simp only[List.mem_cons,List.not_mem_nil,or_false] at hm;clear h;rcases hm with rfl|rfl|rfl
 .exact uU X (JQ _) JT (λself=>by rw[refuseLoop_ref];exact b self) (hL.mp hx _ (by simp))
 .exact uU X (JR _) Au (λself=>by rw[refuseLoop_ref,refuseLoop_ref];exact b self) (hL.mp hx _ (by simp))
 .exact uU X (JS _) Au (λself=>by rw[refuseLoop_ref,refuseLoop_ref];exact b self) (hL.mp hx _ (by simp))
theorem J1(X:(heap w.params).In B)(hg:B.Ns mainGlobals b7)(hb:B.Ns builtinsNs mb)(hn:B.NoLimit)(f:∀x:Str,x≠"__name__"->mb x=bootBuiltins x)
  (g:∃b o,b7 "__builtins__"=some (.ref b)/\b≠builtinsNs/\b≠mainGlobals/\B.get? b=some o/\o.cls= .type "module"/\o.dict=some builtinsNs/\o.data= .plain)(d:∃o,B.get? sysModules=some o):
  gY (heap w.params) (bU w B) (Pc c) b7 mb:=
 ⟨Jt X hg hb hn f,Ju X,Jv X,Jw X,Jy X g,JC X,JD X,JE X,JF X,J0 X,d⟩
end
noncomputable abbrev ew:List Addr:=[611,604,665]
abbrev hid(h:Heap):Heap:=hideAll h ew
theorem J2(b:Params):(ew.map λa=>(heap b).lookup a)=ew.map λ_=>(none:Option Obj):=by lk
section
variable {w:World}{h:Heap}{b7 mb:Str->Option Value}{c:aN}{p:Program}{loose:List Str}{y:ExcName->Option Value}
theorem J3(KX:(heap w.params).In h):(heap w.params).In (hid h):=λa o e=>by
 refine qs _ (KX a o e) λhm=>?_;have:=List.map_inj_left.mp (J2 w.params) a hm;rw[this] at e;exact nso e
theorem uV{m:Str->Option Value}(ha:a∉ew)(n:h.Ns a m):(hid h).Ns a m:=by
 refine dZ n λo es ep e r=>⟨o,es,ep,qs _ e ha,r⟩
theorem J4(T:Top p loose y b7 mb h)(hs:importsNone p=true)(KX:(heap w.params).In h)(hT:∀P∈ew,h.get? P=some (tabObj #[])):gY (heap w.params) (bU w (hid h)) (Pc c) b7 mb:=by
 refine J1 (J3 KX) (uV (by decide) T.g) (uV (by decide) T.b) ?_ T.builtins ?_ ?_
 .refine al T.nolimit λd n e=>⟨d,uV (by decide) n,e⟩
 .refine hZ T.bmain λb o h1 h2 h3 h4 h5 G=>⟨b,o,h1,h2,λe=>?_,qs _ h3 λhm=>?_,h4,h5,G⟩
  .clear h1 h2;subst e;refine h8 T.g λo' es ep e1 e2 _=>?_;rw[h3] at e1;cases e1;rw[G] at e2;cases e2
  .rw[hT b hm] at h3;clear h5 G;cases h3;cases h4
 .refine al ((T.seer hs).mods) λf n _=>?_;refine dZ n λo es ep e _=>⟨o,qs _ e (by decide)⟩
theorem J5(KX:(heap w.params).In h)(hT:∀P∈ew,h.get? P=some (tabObj #[])):St (bU w (hid h)) (λ_=>none) (hid h).get? [] [] [] h where
 base:=λ_ _ e=>e
 fr:=λ_ _ e=>of_hideAll _ e
 rs:=λ_ _ e=>nomatch e
 len:=rfl
 own:=λi Q a e=>by simp at e
 free:=λi Q a e=>by simp at e
 nd:=λi j Q f a e=>by simp at e
 gr:=λ_ _ e=>nomatch e
 gt:=λb o e ⟨q,hq,hb⟩=>by
  have hq:=hq;have:b∈ew:=by
   simp only[oU,List.mem_cons,List.not_mem_nil,or_false] at hq;rcases hq with rfl|rfl|rfl<;>subst hb<;>simp [ew]
  rw[hideAll_none _ this] at e;exact nso e
 tabs:=λq hq=>by
  have hq:=hq;have:q.2.1∈ew:=by
   simp only[oU,List.mem_cons,List.not_mem_nil,or_false] at hq;rcases hq with rfl|rfl|rfl<;>simp [ew]
  exact⟨#[],hT _ this,by trivial,λc4 bd e=>by exact nso e⟩
 frs:=λ_ he=>nomatch he
theorem J6{r g:ay}(KX:(heap w.params).In h)(hT:∀P∈ew,h.get? P=some (tabObj #[]))(S:St (bU w (hid h)) r g b2 l O b5):OldK h b5:=by
 have tab:∀b∈ew,∃q∈oU,q.2.1=b:=λb hb=>by
  simp only[ew,List.mem_cons,List.not_mem_nil,or_false] at hb;rcases hb with rfl|rfl|rfl
  .exact⟨_,.tail _ (.head _),rfl⟩
  .exact⟨_,.head _,rfl⟩
  .exact⟨_,.tail _ (.tail _ (.head _)),rfl⟩
 have i:∀b∈ew,∃ps,b5.get? b=some (tabObj ps):=λb hb=>by
  (refine ag (tab b hb) λq c1=>ac c1 λhq bo=>?_;clear c1;subst bo);refine al (S.tabs q hq) λps e _=>⟨ps,e⟩
 have f:∀{c P:Addr},CodeHd h c P->isCodeTable h P:=λx=>by
  refine bc λno=>my x λo vs _ _ _ _ _ d=>aq d λ_ _ M=>bS M λe1 e2 e3 e4 _=>no (⟨_,o,vs,e1,e2,e3,e4⟩)
 have hd:∀b∈ew,isCodeTable h b:=λb hb=>by
  simp only[ew,List.mem_cons,List.not_mem_nil,or_false] at hb;rcases hb with rfl|rfl|rfl
  .exact f (sz KX (Aq _))
  .exact f (sz KX (Ap _))
  .exact f (sz KX (Ar _))
 refine⟨λb o e=>?_,λb o e=>?_⟩
 .by_cases hb:b∈ew
  .rw[hT b hb] at e;cases e;refine ag (i b hb) λps e'=> .inr (.inl ⟨hd b hb,rfl,#[],ps,rfl,?_⟩);exact rwm _ (rwm _ rfl Array.empty_append) e'
  .exact .inl (S.ground b o (qs _ e hb))
 .by_cases hb:b∈ew
  .refine ag (i b hb) λps e'=>⟨_,e'⟩
  .exact⟨o,S.ground b o (qs _ e hb)⟩
end
end Internal
end
noncomputable section
namespace Internal
open PySem PySem.W PySem.Calls PyProof.Rows
abbrev R(c:aN)(n:Nat):aG:=tX (Pc c) n
noncomputable def an(l:List Stmt)(k:Nat):Stmt:=(l[k]?).getD (.Pass ⟨0,0,0,0⟩)
noncomputable def g6:Expr:= .Name ⟨#[]⟩ ⟨0,0,0,0⟩
def J7:Stmt->Expr
 | .Return (some e) _=>e
 |_=>g6
def bz:Expr->Expr
 | .BinOp a _ _ _=>a
 | .Subscript a _ _=>a
 |_=>g6
def bn:Expr->Expr
 | .BinOp _ _ a _=>a
 | .Subscript _ a _=>a
 |_=>g6
noncomputable def jA:Expr->Pos
 | .BinOp _ _ _ p=>p
 | .Subscript _ _ p=>p
 |_=>⟨0,0,0,0⟩
theorem jB{c:aN}(hE:E= .BinOp a w b p)(hx:(R c n).ev a e O=some (.ok (.t (.int x)),O))(L:(R c n).ev b e O=some (.ok (.t (.int y)),O))
  (d:eG w (.int x) (.int y)=pm (.t (.int z))):(R c (n+1)).ev E e O=some (.ok (.t (.int z)),O):=by
 subst hE;show bm ((R c n).ev a e) (λx=>bm ((R c n).ev b e) λy=>bm (aE x) λs=>bm (aE y) λt=>eG w s t) O=_;unfold bm;refine rwm _ ?_ hx;dsimp only;refine rwm _ ?_ L;show eG w (.int x) (.int y) O=_;refine rwm _ ?_ d;rfl
def J8:List Stmt:=ba (at_ 60)
def uW(sc:Scope):AE:=⟨sc,1,[],S "_law_draw"++nm ".<locals>.",623⟩
def bM(X:List T)(i m:Int):af:=[.list [.list X,.int (i+1)],.ns true [(S "tape",.own 0),(S "many",.t (.int m)),(S "cells",.t (.list X)),(S "at",.t (.int i))]]
def iW:Expr:=J7 (an J8 2)
set_option tactic.hygienic true in
def uX(r:aG)(e:AE)(n:Nat)(m:MM V):MM V:=bm (bm (bm (bm m λv=>pm (Fl.ret v)) λf=>match f with| .next=>aR r e []| .ret v=>pm (.ret v)) λfl=>match fl with| .ret v=>pm v| .next=>pm (.t .none)) λv=>fq n v
theorem J9{m:MM V}(h:m O=some (.ok v,M)):uX r e n m O=fq n v M:=by
 unfold uX bm;refine rwm _ ?_ h;rfl
theorem d1(X:List T)(i m:Int):(R av 30).call (.t (.top 624)) [.own 0,.t (.int m)] [.list [.list X,.int i]]=
  uX (R av 29) (uW (aV (at_ 60))) 1 ((R av 28).ev iW (uW (aV (at_ 60)))) (bM X i m):=by lk
def dS:AE:=uW (aV (at_ 60))
def Ei:Expr:=bz (bz iW)
def Ep:Expr:=bn (bz iW)
def Av:Expr:=bn (bn Ei)
theorem q1:iW= .BinOp (bz iW) .Mod (bn iW) (jA iW):=by lk
theorem q2:bz iW= .BinOp Ei .Add Ep (jA (bz iW)):=by lk
theorem q3:bn Ei= .BinOp (bz (bn Ei)) .Mod Av (jA (bn Ei)):=by lk
theorem q4:Ep= .BinOp (bz Ep) .Mult (bn Ep) (jA Ep):=by lk
theorem q5:bz Ep= .BinOp (bz (bz Ep)) .FloorDiv (bn (bz Ep)) (jA (bz Ep)):=by lk
theorem q6:bn Ep= .BinOp (bz (bn Ep)) .Add (bn (bn Ep)) (jA (bn Ep)):=by lk
theorem q7:bz (bn Ep)= .BinOp (bz (bz (bn Ep))) .Add (bn (bz (bn Ep))) (jA (bz (bn Ep))):=by lk
theorem q8:bz (bz (bn Ep))= .BinOp (bz (bz (bz (bn Ep)))) .Mult (bn (bz (bz (bn Ep)))) (jA (bz (bz (bn Ep)))):=by lk
theorem q9:bn (bn Ep)= .BinOp (bz (bn (bn Ep))) .FloorDiv (bn (bn (bn Ep))) (jA (bn (bn Ep))):=by lk
theorem n1(X:List T)(i m:Int):(R av 24).ev (bz (bn Ei)) dS (bM X i m)=some (.ok (.t (.int i)),bM X i m):=by lk
theorem n2(X:List T)(i m:Int):(R av 27).ev (bn iW) dS (bM X i m)=some (.ok (.t (.int m)),bM X i m):=by lk
theorem n3(X:List T)(i m:Int):(R av 24).ev (bz (bz Ep)) dS (bM X i m)=some (.ok (.t (.int i)),bM X i m):=by lk
theorem n4(X:List T)(i m:Int):(R av 23).ev (bz (bn (bn Ep))) dS (bM X i m)=some (.ok (.t (.int i)),bM X i m):=by lk
theorem n5(X:List T)(i m:Int):(R av 23).ev (bn (bn (bn Ep))) dS (bM X i m)=some (.ok (.t (.int 2)),bM X i m):=by lk
theorem n6(X:List T)(i m:Int):(R av 23).ev (bn (bz (bn Ep))) dS (bM X i m)=some (.ok (.t (.int 3)),bM X i m):=by lk
theorem n7(X:List T)(i m:Int):(R av 22).ev (bz (bz (bz (bn Ep)))) dS (bM X i m)=some (.ok (.t (.int 7)),bM X i m):=by lk
theorem n8(X:List T)(i m:Int):(R av 22).ev (bn (bz (bz (bn Ep)))) dS (bM X i m)=some (.ok (.t (.int i)),bM X i m):=by lk
theorem Ka(X:List T)(i m:Int):(R av 24).ev Av dS (bM X i m)=om ((jq (.list X)).map λ(k:Nat)=>V.t (.int (k:Int))) (bM X i m):=by lk
theorem Kb(X:List T)(i m:Int):(R av 24).ev (bn (bz Ep)) dS (bM X i m)=om ((jq (.list X)).map λ(k:Nat)=>V.t (.int (k:Int))) (bM X i m):=by lk
theorem Kc{X:List T}(h:X.length<=50):(jq (.list X)).map (λ(k:Nat)=>V.t (.int (k:Int)))=some (.t (.int (X.length:Int))):=by
 have h1:aJ X.length=true:=by unfold aJ;refine rwm _ ?_ ms;exact ii (lB h rfl)
 show(d4 (ib X.length) _).map _=_;unfold ib;refine rwm _ ?_ h1;rfl
theorem Kd(X:List T)(i m:Int):(R av 26).ev Ei dS (bM X i m)=bm ((R av 25).ev (bz Ei) dS) (λM=>bm ((R av 25).ev (bn Ei) dS) λL=>bm (aE M) λt=>match L with
  | .t k=>om ((dQ t k).map .t)
  |_=>λ_=>none) (bM X i m):=by lk
theorem Ke(X:List T)(i m:Int):(R av 25).ev (bz Ei) dS (bM X i m)=some (.ok (.t (.list X)),bM X i m):=by lk
theorem Aw(h:Builtin.Int.intBits a<=shortFactorBits):ol a b=true:=by
 unfold ol;refine rwm _ ?_ (le (Nat.not_lt.mpr h));rfl
set_option tactic.hygienic true in
theorem Ax(h0:0<=a)(h:a<1000):Builtin.Int.intBits a<=shortFactorBits:=by
 unfold Builtin.Int.intBits
 split
 .exact ix _
 .rename_i hz
  have hz:a≠0:=by simpa using hz
  have:a.natAbs.log2<10:=(Nat.log2_lt (Int.natAbs_ne_zero.mpr hz)).mpr (Eh h0 h);show _<=64;exact lB this rfl
theorem Ay(h0:0<y)(h:y<=50):Builtin.divisionGoesByPylong x y=false:=by
 unfold Builtin.divisionGoesByPylong;have h1:(if(y==0)=true then 0 else y.natAbs.log2/30+1)<=300:=by
  split
  .exact ix _
  .have:=Nat.log2_le_self y.natAbs;exact Ej h0 h this
 simp only[Bool.and_eq_false_iff];exact .inl (le (Nat.not_lt.mpr h1))
theorem Kf{i l:Int}(h0:0<=i)(h:i<1000)(hl:0<l):0<=i.fdiv l/\i.fdiv l<1000:=by
 refine rwm _ ?_ (Int.fdiv_eq_ediv_of_nonneg _ (Int.le_of_lt hl));exact⟨Int.ediv_nonneg h0 (Int.le_of_lt hl),kv (Int.ediv_le_self _ h0) h⟩
theorem Kg{ns:List Int}{k:Int}(h0:0<=k)(hk:k<ns.length)(hl:ns.length<=50):dQ (.list (ns.map T.int)) (.int k)=some (.int (ns[k.toNat]?.getD 0)):=by
 (refine ag (o2 h0) λj bo=>?_;clear h0;subst bo);have hj:=Int.ofNat_lt.mp hk;unfold dQ jo;dsimp only;rw[List.length_map,if_pos (by constructor<;>lia)];have e1:seqIndex? (j:Int) ns.length=some j:=by
  unfold seqIndex?;simp;lia
 refine rwm _ ?_ e1;simp [hj]
theorem Kh{ns:List Int}(hn:ns≠[])(hl:ns.length<=50)(h0:0<=i)(h:i<1000)(hm:0<m):
  (R av 30).call (.t (.top 624)) [.own 0,.t (.int m)] [.list [.list (ns.map T.int),.int i]]=some (.ok (.t (.int (drawn ns i m))),[.list [.list (ns.map T.int),.int (i+1)]]):=by
 have c:(ns.map T.int).length=ns.length:=li ..;have z:0<ns.length:=List.length_pos_iff.mpr hn;have M:(0:Int)<ns.length:=Int.ofNat_lt.mpr z;have l1:=Ka (ns.map T.int) i m;have l2:=Kb (ns.map T.int) i m;rw[Kc (by refine rwm _ ?_ c;exact hl),c] at l1 l2;have f:(R av 25).ev (bn Ei) dS (bM (ns.map T.int) i m)=some (.ok (.t (.int (i.fmod ns.length))),bM (ns.map T.int) i m):=
  jB q3 (n1 _ i m) l1 (by unfold eG;dsimp only;exact rwm _ rfl (hW (Int.ne_of_gt (Int.natCast_pos.mpr z))))
 have c5:=Int.fmod_lt_of_pos i M;have b:(R av 26).ev Ei dS (bM (ns.map T.int) i m)=some (.ok (.t (.int (ns[(i.fmod ns.length).toNat]?.getD 0))),bM (ns.map T.int) i m):=by
  rw[Kd];unfold bm;rw[Ke];dsimp only;refine rwm _ ?_ f;show om ((dQ (.list (ns.map T.int)) (.int (i.fmod ns.length))).map V.t) _=_;refine rwm _ ?_ (Kg (Int.fmod_nonneg_of_pos i M) c5 hl);rfl
 have d:(R av 25).ev (bz Ep) dS (bM (ns.map T.int) i m)=some (.ok (.t (.int (i.fdiv ns.length))),bM (ns.map T.int) i m):=
  jB q5 (n3 _ i m) l2 (by unfold eG;dsimp only;exact rwm _ (rwm _ (rwm _ rfl (hW (by decide))) (Ay M (Int.ofNat_le.mpr hl))) (hW (Int.ne_of_gt (Int.natCast_pos.mpr z))))
 have j:(R av 23).ev (bz (bz (bn Ep))) dS (bM (ns.map T.int) i m)=some (.ok (.t (.int (7*i))),bM (ns.map T.int) i m):=
  jB q8 (n7 _ i m) (n8 _ i m) (by unfold eG;dsimp only;refine rwm _ ?_ (Aw (Ax Ek El));rfl)
 have g:(R av 24).ev (bz (bn Ep)) dS (bM (ns.map T.int) i m)=some (.ok (.t (.int (7*i+3))),bM (ns.map T.int) i m):=
  jB q7 j (n6 _ i m) rfl
 have h2:(R av 24).ev (bn (bn Ep)) dS (bM (ns.map T.int) i m)=some (.ok (.t (.int (i.fdiv 2))),bM (ns.map T.int) i m):=
  jB q9 (n4 _ i m) (n5 _ i m) (by unfold eG;dsimp only;exact rwm _ (rwm _ (rwm _ rfl (hW (by decide))) (Ay (Int.natCast_pos.mpr (Nat.succ_pos _)) (by lia))) (hW Em))
 have hs:=jB q6 g h2 rfl;refine ac (Kf h0 h M) λf1 f2=>?_;have hp:=
  jB q4 d hs (by unfold eG;dsimp only;refine rwm _ ?_ (Aw (Ax f1 f2));rfl)
 have he:=
  jB q1 (jB q2 b hp rfl) (n2 _ i m) (by unfold eG;dsimp only;refine a0 (hW ((Int.ne_of_gt hm))) ?_;rfl)
 rw[d1];exact(J9 he).trans rfl
theorem kj(h:oR (.box k t)):lA k t/\oR t:=by
 (refine bc λno=>a9 h λw g x h=>no ?_;clear no);exact⟨h.1,w,g,x,h.2⟩
theorem Az{g:ay}:∀{l:List T}{ys:List Value},TRs w g l ys->∀t∈l,oR t
 |[],_,_,_,h=>nomatch h
 |a::l,_,z,t,h=>by
  (refine b9 z λy r e p q=>?_;clear z);(refine a2 (hy.mp h) (λzz=>?_) (λh=>?_);subst zz;rotate_left;rotate_right)
  .exact⟨w,g,y,p⟩
  .exact Az q t h
theorem AA(h:eW (.list l)):∀t∈l,oR t:=by
 refine bc λno=>my h λw g b2 h a ys ep cd=>ac cd λe q=>no (Az q)
theorem kl(h:cN (.t t)):oR t:=by
 refine bc λno=>bH h λw g b2 x h=>no (⟨w,g,x,h⟩)
noncomputable def AB:T->Int
 | .int i=>i
 |_=>0
def cy:T->List Int
 | .list U=>U.map AB
 |_=>[]
theorem jC(ns:List Int):cy (ak ns)=ns:=by
 unfold cy ak;dsimp only;refine a0 mc ?_;exact List.map_id'' (f:=AB∘T.int) (λ_=>rfl) ns
def qY(H:List (Int×Int×Int))(ns:List Int)(at_ b:Int):Int:=match H.find? λq=>decide (q.1=at_)&&decide (q.2.1=b) with
 |some q=>q.2.2
 |none=>drawn ns at_ b
theorem AC(h:∀q∈H,drawn ns q.1 q.2.1=q.2.2)(i m:Int):qY H ns i m=drawn ns i m:=by
 unfold qY
 cases hf:H.find? λq=>decide (q.1=i)&&decide (q.2.1=m) with
 |none=>rfl
 |some q=>
  have h1:=List.find?_some hf;simp only[Bool.and_eq_true,decide_eq_true_eq] at h1;have h2:=h q (List.mem_of_find?_eq_some hf);rw[h1.1,h1.2] at h2;exact h2.symm
abbrev cF:=Option (Option (Except Addr T×af))
noncomputable def yes(t:T)(S:af):cF:=some (some (.ok t,S))
section
variable {α β:Type}{q:α}
noncomputable def uY(m:MO)(f:List T->Option α):Option α:=match m with
 | .list l=>f l
 |_=>none
@[elab_as_elim] theorem AD{f:List T->Option α}{P:MO->Prop}(h:uY m f=some q)(k:∀l,f l=some q->P (.list l)):P m:=by
 cases m<;>first|exact nso h|exact k _ h
def qZ(m:MO)(f:List (Int×Int×Int)->T->Int->Option α):Option α:=uY m λl=>un l λa l=>un l λb l=>nl l (j4 a λg t=>xi g λc=>fJ b λi=>f c t i)
theorem uZ{f:List (Int×Int×Int)->T->Int->Option α}{P:MO->Prop}(h:qZ m f=some q)(k:∀c t i,f c t i=some q->P (.list [.box (.tape c) t,.int i])):P m:=by
 refine AD h λl h=>cK h λa l h=>cK h λb l h=>bT h λh=>jm h λg t h=>Fm h λc h=>ia h λi h=>k c t i h
end
def km(be:List V)(O:af):cF:=un be λa l=>un l λb l=>nl l (un O λm l=>nl l (lD a 0 (aT b λt=>fJ t λn=>qZ m λH t i=>
 if 0<=i/\i<1000/\0<n then yes (.int (qY H (cy t) i n)) [.list [.box (.tape H) t,.int (i+1)]] else none)))
def AF:aN:=λa be S=>cond (Nat.beq a 624) (km be S) none
theorem Ki(a:Addr)(be:List V)(S:af)(q:Except Addr T×af)(h:AF a be S=some (some q))(c:∀Q∈S,eW Q):gl (R av 30) a be S q:=by
 unfold AF at h
 cases ha:Nat.beq a 624 with
 |false=>rw[ha] at h;exact nso h
 |true=>
  rw[ha] at h;have:=hY ha;clear ha;subst this;dsimp only[cond] at h;revert c;refine cK h λa l h=>cK h λb l h=>bT h λh=>cK h λm l h=>bT h λh=>mE h λh=>bY h λt h=>ia h λm h=>uZ (P:=λo=>(∀Q∈[o],eW Q)->gl (R av 30) 624 [.own 0,.t (.int m)] [o] q) h λH t i h c=>?_
  by_cases hc:0<=i/\i<1000/\0<m
  .rw[if_pos hc] at h;cases h;refine ac (kj (AA (c _ (.head _)) _ (.head _))) λtg _=>?_;(refine ag tg λns c3=>bK c3 λn1 n2 cr n3=>?_;clear c3;subst cr);have tk:lA (.tape H) (ak ns):=⟨ns,n1,n2,rfl,n3⟩;refine⟨[.own 0,.t (.int m)],[.list [ak ns,.int i]],_,LC.refl _,⟨bG.cons (TC.unbox (TC.refl _)) (bG.refl _),trivial⟩,Kh n1 n2 hc.1 hc.2.1 hc.2.2,?_⟩;rw[jC,AC n3];exact⟨TC.refl _,bG.cons (TC.box (TC.refl _) tk) (bG.refl _),trivial⟩
  .rw[if_neg hc] at h;exact nso h
theorem rb:∀{ns L:List Int},ns.Nodup->(∀n∈ns,n∈L)->ns.length<=L.length
 |[],_,_,_=>ix _
 |a::ns,L,h1,h2=>by
  refine ac (ni.mp h1) λn1 n2=>?_;have ha:=h2 a (.head _);have:=rb (L:=L.erase a) n2 λn hn=>(List.mem_erase_of_ne (λe=>by clear h1;subst e;exact n1 hn)).mpr (h2 n (.tail _ hn));rw[List.length_erase_of_mem ha] at this;have:0<L.length:=List.length_pos_of_mem ha;simp;lia
theorem rd(m:Nat):(aQ m).length=m:=by simp [aQ]
end Internal
end
noncomputable section
set_option maxHeartbeats 2000000
namespace Internal
open PySem PySem.W PySem.Calls PyProof.Rows
section
variable {J:Program}{b1:Cx}{r g b6 H:ay}{b2 b4 o:List Addr}{l:List Env}{A:Around}{n:Nat}{rc:aG}{e:AE}{env:Env}{O M:af}{h b5:Heap}{s L:Shared}
def cB(b1:Cx)(r:ay)(l:List Env)(L:Shared)(H:ay)(o:List Addr)(e:AE)(env:Env)(O:af)(s:Shared):Prop:=
 ∃g b2,bk L H o s g b2/\St b1 r g b2 l O s.heap/\ER b1 l g b2 e env
theorem cB.conv(k:cB b1 r l L H o e env O s)(c:SC O M):cB b1 r l L H o e env M s:=by
 refine b9 k λg b2 p S he=>⟨g,b2,p,S.conv c,he⟩
set_option tactic.hygienic true in
set_option backward.match.sparseCases true in
theorem cB.cons(d:aL J b1 n rc)(hR:Rm A l n){st:Stmt}{j:List Stmt}(k:cB b1 r l L H o e env O s)(q:rc.ex st e O=some (.ok .next,M)){Q:Flow->Shared->Prop}{E:Value->Shared->Prop}
  (hq:∀s',cB b1 r l L H o e env M s'->wpAny (model J b1.w) A (execs j env) Q E s'):wpAny (model J b1.w) A (execs (st::j) env) Q E s:=by
 (refine b9 k λg b2 p S he=>?_;clear k);show wpAny _ _ (do match<-exec st env with| .next=>execs j env|f=>pure f) _ _ _;refine ae (ea (d.ex hR he st O _ s g b2 (.refl _) (.refl _) S q) (λf s' z=>?_) λx s' z=>?_)
 ·(refine ch z λg2 m b e1 p2 S2 hf=>?_;clear z);(have D:=oke e1;clear e1;cases D);cases f<;>first|exact hf.elim|skip
  exact hq s' ⟨g2,m,p.trans p2,S2,he.mono p2.2.1 p2.2.2⟩
 .refine cT z λ_ _ _ _ e1 _=>oee e1
set_option tactic.hygienic true in
set_option backward.match.sparseCases true in
theorem cB.ret(d:aL J b1 n rc)(hR:Rm A l n){st:Stmt}{j:List Stmt}{v:V}(k:cB b1 r l L H o e env O s)(q:rc.ex st e O=some (.ok (.ret v),M)){Q:Flow->Shared->Prop}{E:Value->Shared->Prop}
  (hq:∀s' g b2 x,bk L H o s' g b2->St b1 r g b2 l M s'.heap->VR b1.w g b2 v x->Q (.ret x) s'):wpAny (model J b1.w) A (execs (st::j) env) Q E s:=by
 (refine b9 k λg b2 p S he=>?_;clear k);show wpAny _ _ (do match<-exec st env with| .next=>execs j env|f=>pure f) _ _ _;refine ae (ea (d.ex hR he st O _ s g b2 (.refl _) (.refl _) S q) (λf s' z=>?_) λx s' z=>?_)
 ·(refine ch z λg2 m b e1 p2 S2 hf=>?_;clear z);(have D:=oke e1;clear e1;cases D);cases f<;>first|exact hf.elim|skip
  exact ar (hq s' g2 m _ (p.trans p2) S2 hf)
 .refine cT z λ_ _ _ _ e1 _=>oee e1
end
def Kj:lR:=(fl.find? λp=>p.a==670).getD qX
theorem Kk:fl.find? (λp=>p.a==670)=some ⟨670,at_ 68,S "law",.none,Kj.pm,669,[]⟩:=by rfl
def re:Scope:=aV (at_ 68)
def aH:AE:=⟨re,0,[(S "shelf",4),(S "line",3),(S "kept",2),(S "bench",1)],S "law"++nm ".<locals>.",669⟩
def ca(X:T):af:=[.ns true [(S "script",.t X)],.cell none,.cell none,.cell none,.cell none]
theorem Kl(X:T):d8 (fg (at_ 68)).args [.t X] []=some [(S "script",.t X)]:=by lk
theorem Km(X:T):(bm (new (.ns true [])) λlh=>bm (et re.names []) λcl=>bm (gS ⟨re,lh,cl,S "law"++nm ".<locals>.",669⟩ [(S "script",.t X)]) λ_=>pm (⟨re,lh,cl,S "law"++nm ".<locals>.",669⟩:AE)) []
  =some (.ok aH,ca X):=by lk
def AG:Prop:=∀(w:World)(s:Shared)(b7 mb:Str->Option Value)(ns:List Int)(x:Value),(∀c,gY (heap w.params) (bU w (hid s.heap)) (Pc c) b7 mb)->St (bU w (hid s.heap)) (λ_=>none) (hid s.heap).get? [] [] [] s.heap->
 ns.length<=63->TR w (hid s.heap).get? (ak ns) x->
 wpAny (model PW w) callerA (call (.ref 670) [x]) (λv s'=>v= .bool true/\∃g b2 O,bk s (hid s.heap).get? [] s' g b2/\St (bU w (hid s.heap)) (λ_=>none) g b2 [] O s'.heap) (λ_ _=>False) s
theorem Kn(n:Nat):sliceBounds none (some 50) none n=((0:Int),((min 50 n:Nat):Int),(1:Int)):=by
 unfold sliceBounds;simp;exact EI
theorem Ko(X:List T):lK X none (some 50) none=X.take 50:=by
 unfold lK;rw[Kn];dsimp only;have h:=sliceRange_one 0 (min 50 X.length);rw[show((0:Nat):Int)=0 from rfl] at h;refine rwm _ (rwm _ (rwm _ ?_ List.drop_zero) (StrLaws.picks X _ 0 EJ)) h;(refine bc λno=>a2 (Nat.le_total 50 X.length) (λq=>?_) (λq=>?_);refine no ?_;clear no;rotate_left;refine no ?_;clear no;rotate_right)
 .exact rwm _ rfl (show min 50 X.length - 0=50 from Nat.min_eq_left q)
 .exact rwm _ (rwm _ (rwm _ rfl (r0 q)) List.take_length) (show min 50 X.length - 0=X.length from Nat.min_eq_right q)
def Kq:Stmt->Expr
 | .Assign _ e _=>e
 |_=>g6
noncomputable def lS:Expr->List Expr
 | .List l _=>l
 | .BoolOp _ l _=>l
 | .Call _ l _ _=>l
 |_=>[]
def aY(l:List Expr)(k:Nat):Expr:=(l[k]?).getD g6
def iX:Stmt:=an (ba (at_ 68)) 0
def io:Expr:=Kq iX
def na:Expr:=aY (lS io) 0
def rf:Expr:=aY (lS na) 0
def u0:Expr:=aY (lS rf) 0
noncomputable def u5(r:aG)(E:Expr)(e:AE):MM (List V):=bm (r.ev E e) λv=>bm (a8 r e []) λvs=>pm (v::vs)
theorem Kr{r:aG}(h:r.ev E e O=some (.ok v,M)):u5 r E e O=some (.ok [v],M):=by
 unfold u5 bm;refine rwm _ ?_ h;rfl
def AH:Expr:=aY (lS na) 1
theorem Ks{r:aG}(h:r.ev a e O=some (.ok v,M))(ht:vw v M=some t)(hb:j7 t=some true):gR r e .Or [a,b] O=some (.ok v,M):=by
 show bm (r.ev a e) (λv=>bm (fO v) λc=>match BoolOp.Or,c with| .And,false| .Or,true=>pm v|_,_=>gR r e .Or [b]) O=_;refine a0 (az h) ?_;have h2:fO v M=some (.ok true,M):=by
  show bm (aE v) (λt=>om (j7 t)) M=_;have:aE v M=some (.ok t,M):=by unfold aE;exact rwm _ rfl ht
  refine a0 (az this) (rwm _ ?_ hb);rfl
 refine a0 (az h2) ?_;rfl
theorem Ku{r:aG}(h:r.ev a e O=some (.ok v,M))(ht:vw v M=some t)(hb:j7 t=some false):gR r e .Or [a,b] O=r.ev b e M:=by
 show bm (r.ev a e) (λv=>bm (fO v) λc=>match BoolOp.Or,c with| .And,false| .Or,true=>pm v|_,_=>gR r e .Or [b]) O=_;refine a0 (az h) ?_;have h2:fO v M=some (.ok false,M):=by
  show bm (aE v) (λt=>om (j7 t)) M=_;have:aE v M=some (.ok t,M):=by unfold aE;exact rwm _ rfl ht
  refine a0 (az this) (rwm _ ?_ hb);rfl
 refine a0 (az h2) ?_;rfl
noncomputable def eg(ns:List Int):List Int:=match ns.take 50 with
 |[]=>[2]
 |l=>l
section
variable {J:Program}{b1:Cx}{r g H:ay}{b2 o:List Addr}{l:List Env}{e:AE}{env:Env}{O:af}{h:Heap}{s L:Shared}
theorem St.select(S:St b1 r g b2 l O h){p:Pk}(I:PI b1 g b2 O h p):St b1 r g (cw b2 p.σ) l p.S h where
 base:=S.base
 fr:=S.fr
 rs:=S.rs
 len:=by refine rwm _ ?_ I.len;simp [cw]
 own:=λi Q a e1 e2=>by
  (refine ag (m7 e2) λk c1=>ac c1 λe3 bo=>?_;clear c1;subst bo);refine dm (I.at_ i k e3) λG m2 b f1 f2 u t y=>?_;rw[e1] at f2;cases f2;refine rwm _ ?_ u;exact y
 free:=λi Q a e1 e2 q=>by
  (refine ag (m7 e2) λk c1=>ac c1 λe3 bo=>?_;clear c1;clear e2;subst bo);refine dm (I.at_ i k e3) λG m2 b f1 f2 u t y=>?_;rw[e1] at f2;clear y;cases f2;refine rwm _ ?_ u;exact S.free k G b f1 u (t.trans q)
 nd:=(uI S I).nd
 gr:=S.gr
 gt:=S.gt
 tabs:=S.tabs
 frs:=S.frs
end
abbrev b8:=List V->af->cF
def aC(c:aN)(b:Nat):Prop:=∀(w:World)(b7 mb:Str->Option Value)(B:Heap),(∀c,gY (heap w.params) (bU w B) (Pc c) b7 mb)->cM PW (bU w B) b c
def cG(rc:aG)(a:Addr)(f:b8):Prop:=∀be O q,f be O=some (some q)->(∀v∈be,cN v)->(∀Q∈O,eW Q)->gl rc a be O q
def iY(f:V->af->cF):b8:=λbe O=>un be λx l=>nl l (f x O)
@[elab_as_elim] theorem Kv{f:V->af->cF}{P:List V->Prop}(h:iY f be O=some q)(k:∀x,f x O=some q->P [x]):P be:=by
 refine cK h λx l h=>bT h λh=>k x h
theorem jD{f:V->af->cF}(H:∀x O q,f x O=some (some q)->cN x->(∀Q∈O,eW Q)->gl rc a [x] O q):cG rc a (iY f):=λbe O q h hv ho=>by
 revert hv;exact Kv h λx h hv=>H x O q h (hv _ (.head _)) ho
def jE(f:V->V->af->cF):b8:=λbe O=>un be λx l=>un l λy l=>nl l (f x y O)
@[elab_as_elim] theorem AI{f:V->V->af->cF}{P:List V->Prop}(h:jE f be O=some q)(k:∀x y,f x y O=some q->P [x,y]):P be:=by
 refine cK h λx l h=>cK h λy l h=>bT h λh=>k x y h
theorem nb{f:V->V->af->cF}(H:∀x y O q,f x y O=some (some q)->cN x->cN y->(∀Q∈O,eW Q)->gl rc a [x,y] O q):cG rc a (jE f):=λbe O q h hv ho=>by
 revert hv;exact AI h λx y h hv=>H x y O q h (hv _ (.head _)) (hv _ (.tail _ (.head _))) ho
def oW(f:V->V->V->af->cF):b8:=λbe O=>un be λx l=>un l λy l=>un l λz l=>nl l (f x y z O)
@[elab_as_elim] theorem Kw{f:V->V->V->af->cF}{P:List V->Prop}(h:oW f be O=some q)(k:∀x y z,f x y z O=some q->P [x,y,z]):P be:=by
 refine cK h λx l h=>cK h λy l h=>cK h λz l h=>bT h λh=>k x y z h
theorem u6{f:V->V->V->af->cF}(H:∀x y z O q,f x y z O=some (some q)->cN x->cN y->cN z->(∀Q∈O,eW Q)->gl rc a [x,y,z] O q):cG rc a (oW f):=λbe O q h hv ho=>by
 revert hv;exact Kw h λx y z h hv=>H x y z O q h (hv _ (.head _)) (hv _ (.tail _ (.head _))) (hv _ (.tail _ (.tail _ (.head _)))) ho
def rh(f:V->V->V->V->af->cF):b8:=λbe O=>un be λx l=>un l λy l=>un l λz l=>un l λu l=>nl l (f x y z u O)
@[elab_as_elim] theorem Kx{f:V->V->V->V->af->cF}{P:List V->Prop}(h:rh f be O=some q)(k:∀x y z u,f x y z u O=some q->P [x,y,z,u]):P be:=by
 refine cK h λx l h=>cK h λy l h=>cK h λz l h=>cK h λu l h=>bT h λh=>k x y z u h
theorem AJ{f:V->V->V->V->af->cF}(H:∀x y z u O q,f x y z u O=some (some q)->cN x->cN y->cN z->cN u->(∀Q∈O,eW Q)->gl rc a [x,y,z,u] O q):cG rc a (rh f):=λbe O q h hv ho=>by
 revert hv;exact Kx h λx y z u h hv=>H x y z u O q h (hv _ (.head _)) (hv _ (.tail _ (.head _))) (hv _ (.tail _ (.tail _ (.head _)))) (hv _ (.tail _ (.tail _ (.tail _ (.head _))))) ho
noncomputable def bp(a:Addr)(f:b8)(c:aN):aN:=λx be O=>cond (Nat.beq x a) (f be O) (c x be O)
theorem aC.start:aC av 0:=λ_ _ _ _ _=>cM.none
theorem aC.mono{c:aN}(h:aC c b)(hb:b<=b'):aC c b':=λw b7 mb B k=>cM.mono (h w b7 mb B k) hb
theorem aC.add{c d:aN}{f:b8}(h:aC c b)(hd:aC d k)(hk:b+n<=k)(hr:cG (R c n) a f):aC (bp a f d) k:=by
 intro w b7 mb B C;have h1:cM PW (bU w B) (b+n) (λx be O=>cond (Nat.beq x a) (f be O) Option.none):=cM.run (qO (C c) (h w b7 mb B C) n) λx be O q e h2 h3=>by
  cases hx:Nat.beq x a with
  |false=>rw[hx] at e;exact nso e
  |true=>
   rw[hx] at e;have:=hY hx;subst this;exact hr be O q e h2 h3
 intro A l r g b2 hR x be U O q s e;unfold bp at e
 cases hx:Nat.beq x a with
 |true=>
  rw[hx] at e;exact h1 (hR.mono hk) x be U O q s (by show(cond (Nat.beq x a) _ _:cF)=_;refine rwm _ ?_ hx;exact e)
 |false=>
  rw[hx] at e;exact hd w b7 mb B C hR x be U O q s e
section
variable {c:aN}{n:Nat}{e:AE}{O E O2 O3:af}{r:aG}
set_option tactic.hygienic true in
theorem aW(h:r.ex s e O=some (.ok .next,E))(h2:aR r e l E=B):aR r e (s::l) O=B:=by
 show bm (r.ex s e) _ O=_;refine a0 (az h) ?_;exact h2
theorem ci(h:r.ex s e O=some (.ok (.ret v),E)):aR r e (s::l) O=some (.ok (.ret v),E):=by
 show bm (r.ex s e) _ O=_;refine a0 (az h) ?_;rfl
set_option tactic.hygienic true in
theorem gm:aR r e [] O=some (.ok .next,O):=rfl
set_option tactic.hygienic true in
theorem bv(h:r.ex s e O=some (.ok .next,E)):aR r e [s] O=some (.ok .next,E):=aW h rfl
set_option tactic.hygienic true in
theorem Ky(k:Nat){l:List Stmt}(h:aR r e (l.take k) O=some (.ok .next,E))(h2:aR r e (l.drop k) E=B):aR r e l O=B:=by
 suffices H:∀(k:Nat)(l:List Stmt)(O:af),aR r e (l.take k) O=some (.ok .next,E)->aR r e (l.drop k) E=B->aR r e l O=B from H k l O h h2
 intro k
 induction k with
 |zero=>intro l O h h2;(refine ac (okp h) λD b=>?_;clear h;cases D;cases b);exact h2
 |succ k ih=>
  intro l O h h2
  cases l with
  |nil=>(refine ac (okp h) λD b=>?_;clear h;cases D;cases b);exact h2
  |cons s l=>
   rw[List.take_succ_cons] at h
   refine(?_:bm (r.ex s e) (λf=>match f with
    | .next=>aR r e l
    | .ret v=>pm (.ret v)) O=B)
   have h:bm (r.ex s e) (λf=>match f with
    | .next=>aR r e (l.take k)
    | .ret v=>pm (.ret v)) O=_:=h
   unfold bm at h⊢
   cases hx:r.ex s e O with
   |none=>rw[hx] at h;exact nso h
   |some q=>
    rw[hx] at h;clear hx;rcases q with⟨q1,M⟩
    cases q1 with
    |error c=>exact eop h
    |ok f=>
     cases f with
     |ret v=>cases h
     |next=>exact ih l M h h2
theorem eh(h:(R c n).ev x e O=some (.ok v,E)):(R c (n+1)).ex (.Return (some x) p) e O=some (.ok (.ret v),E):=by
 show bm ((R c n).ev x e) (λv=>pm (Fl.ret v)) O=_;refine a0 (az h) ?_;rfl
theorem ri(h:(R c n).test t e O=some (.ok q,E))(h2:aR (R c n) e (cond q a b) E=B):(R c (n+1)).ex (.If t a b p) e O=B:=by
 show bm ((R c n).test t e) (λq=>if q then aR (R c n) e a else aR (R c n) e b) O=_;refine a0 (az h) (rwl _ ?_ h2);clear h h2;cases q<;>rfl
set_option tactic.hygienic true in
theorem jF(hx:ie x=true)(h:(R c n).ev x e O=some (.ok v,E)):(R c (n+1)).ex (.Expr x p) e O=some (.ok .next,E):=by
 show(if ie x then bm ((R c n).ev x e) λ_=>pm .next else λ_=>none:MM Fl) O=_;refine rwm _ (rwm _ (rwm _ ?_ (az h)) (eb rfl)) hx;rfl
set_option tactic.hygienic true in
theorem oX(hs:noStar tg=true)(h:ig (R c n) e tg x O=some (.ok (),E)):(R c (n+1)).ex (.Assign [tg] x p) e O=some (.ok .next,E):=by
 show(if noStar tg then bm (ig (R c n) e tg x) λ_=>pm .next else λ_=>none:MM Fl) O=_;refine rwm _ (rwm _ (rwm _ ?_ (az h)) (eb rfl)) hs;rfl
theorem ey(h1:(R c n).ev a e O=some (.ok v,E))(h2:(R c n).ev b e E=some (.ok u,O2))(h3:dP w v u O2=B):
  (R c (n+1)).test (.Compare a [w] [b] p) e O=B:=by
 show bm ((R c n).ev a e) (λv=>bm ((R c n).ev b e) λu=>dP w v u) O=_;exact rwm _ (rwm _ (rwm _ rfl h3) (az h2)) (az h1)
theorem AK(h1:(R c n).test a e O=some (.ok q,E))(h2:cond q (iO (R c n) e .And l E) (some (.ok false,E))=B):
  (R c (n+1)).test (.BoolOp .And (a::l) p) e O=B:=by
 show bm ((R c n).test a e) (λb=>match BoolOp.And,b with
  | .And,false=>pm false
  | .Or,true=>pm true
  |_,_=>iO (R c n) e .And l) O=_
 refine a0 (az h1) (rwl _ ?_ h2);clear h1 h2;cases q<;>rfl
theorem AL(h1:(R c n).test a e O=some (.ok q,E))(h2:cond q (some (.ok true,E)) (iO (R c n) e .Or l E)=B):
  (R c (n+1)).test (.BoolOp .Or (a::l) p) e O=B:=by
 show bm ((R c n).test a e) (λb=>match BoolOp.Or,b with
  | .And,false=>pm false
  | .Or,true=>pm true
  |_,_=>iO (R c n) e .Or l) O=_
 refine a0 (az h1) (rwl _ ?_ h2);clear h1 h2;cases q<;>rfl
theorem jG(h:(R c n).test t e O=some (.ok true,E))(h2:aR (R c n) e a E=B):(R c (n+1)).ex (.If t a b p) e O=B:=ri h h2
theorem iZ(h:(R c n).test t e O=some (.ok false,E))(h2:aR (R c n) e b E=B):(R c (n+1)).ex (.If t a b p) e O=B:=ri h h2
theorem rj(h1:(R c n).test a e O=some (.ok true,E))(h2:iO (R c n) e .And l E=B):(R c (n+1)).test (.BoolOp .And (a::l) p) e O=B:=AK h1 h2
theorem Kz(h1:(R c n).test a e O=some (.ok true,E)):(R c (n+1)).test (.BoolOp .Or (a::l) p) e O=some (.ok true,E):=AL h1 rfl
theorem u7(h1:(R c n).test a e O=some (.ok false,E))(h2:iO (R c n) e .Or l E=B):(R c (n+1)).test (.BoolOp .Or (a::l) p) e O=B:=AL h1 h2
theorem lT(h1:r.test a e O=some (.ok q,E)):iO r e w [a] O=some (.ok q,E):=by
 show bm (r.test a e) (λb=>match w,b with
  | .And,false=>pm false
  | .Or,true=>pm true
  |_,_=>pm (w== .And)) O=_
 refine a0 (az h1) ?_;cases w<;>(clear h1;cases q)<;>rfl
theorem rk(h1:(R c n).ev (.Call f be [] p) e O=some (.ok v,E))(h2:fO v E=B):(R c (n+1)).test (.Call f be [] p) e O=B:=by
 show bm ((R c n).ev (.Call f be [] p) e) (λv=>fO v) O=_;exact rwm _ (rwm _ rfl h2) (az h1)
theorem AM(h1:(R c n).ev a e O=some (.ok v,E))(h2:(R c n).ev b e E=some (.ok u,O2))(h3:dP w v u O2=some (.ok q,O3)):
  (R c (n+1)).ev (.Compare a [w] [b] p) e O=some (.ok (.t (.bool q)),O3):=by
 show bm ((R c n).ev a e) (λv=>bm (bm ((R c n).ev b e) λu=>dP w v u) λb=>pm (V.t (T.bool b))) O=_;refine a0 (az h1) ?_;have:bm ((R c n).ev b e) (λu=>dP w v u) E=some (.ok q,O3):=by exact rwm _ (rwm _ rfl h3) (az h2)
 refine a0 (az this) ?_;rfl
theorem go(h1:(R c n).ev a e O=some (.ok v,E))(h2:(R c n).ev b e E=some (.ok u,O2))(hv:vw v O2=some x)(hu:vw u O2=some y)
  (h3:eG w x y O2=B):(R c (n+1)).ev (.BinOp a w b p) e O=B:=by
 show bm ((R c n).ev a e) (λx=>bm ((R c n).ev b e) λy=>bm (aE x) λs=>bm (aE y) λt=>eG w s t) O=_;exact rwm _ (rwm _ (rwm _ (rwm _ (rwm _ rfl h3) (az (show aE u O2=some (.ok y,O2) by unfold aE;exact rwm _ rfl hu))) (az (show aE v O2=some (.ok x,O2) by unfold aE;exact rwm _ rfl hv))) (az h2)) (az h1)
theorem u8(h:(R c n).test t e O=some (.ok q,E))(h2:(R c n).ev (cond q a b) e E=B):(R c (n+1)).ev (.IfExp t a b p) e O=B:=by
 show bm ((R c n).test t e) (λq=>if q then(R c n).ev a e else(R c n).ev b e) O=_;refine a0 (az h) (rwl _ ?_ h2);clear h h2;cases q<;>rfl
theorem u9(h:(R c n).test t e O=some (.ok true,E))(h2:(R c n).ev a e E=B):(R c (n+1)).ev (.IfExp t a b p) e O=B:=u8 h h2
theorem KA(h:(R c n).test t e O=some (.ok false,E))(h2:(R c n).ev b e E=B):(R c (n+1)).ev (.IfExp t a b p) e O=B:=u8 h h2
theorem aO{be:List Expr}(ha:(be.all noStar&&decide (be.length<30))=true)(h1:(R c n).ev (.Name f fp) e O=some (.ok fv,O))
  (h2:a8 (R c n) e be O=some (.ok vs,E))(h3:kb (Pc c) fv E=some (.ok (),E))(h4:(R c n).call fv vs E=B):(R c (n+1)).ev (.Call (.Name f fp) be [] p) e O=B:=by
 show(if be.all noStar&&decide (be.length<30) then bm ((R c n).ev (.Name f fp) e) λfv=>bm (a8 (R c n) e be) λvs=>bm (kb (Pc c) fv) λ_=>(R c n).call fv vs else λ_=>none:MM V) O=_;exact rwm _ (rwm _ (rwm _ (rwm _ (rwm _ (rwm _ rfl h4) (az h3)) (az h2)) (az h1)) (eb rfl)) ha
theorem rl{D p:Pos}{be:List Expr}(ha:(D.endLine==p.line&&be.all noStar&&decide (be.length<20)&&fN o)=true)
  (h1:(R c n).ev o e O=some (.ok M,E))(hc:mK M m E=some (.ok (some C),E))(hm:(Pc c).meth C m=some f)
  (h2:a8 (R c n) e be E=some (.ok vs,O2))(h4:(R c n).call (.t (.top f)) (M::vs) O2=B):(R c (n+1)).ev (.Call (.Attribute o m D) be [] p) e O=B:=by
 show(if D.endLine==p.line&&be.all noStar&&decide (be.length<20)&&fN o then bm ((R c n).ev o e) λM=>bm (mK M m) λc'=>match c' with
  |some C=>bm (om ((Pc c).meth C m)) λf=>bm (a8 (R c n) e be) λvs=>(R c n).call (.t (.top f)) (M::vs)
  |none=>bm (aE M) λt=>bm (om (mI t)) λL=>bm (om (lI L m)) λk=>bm (a8 (R c n) e be) λvs=>iL k M vs
 else λ_=>none:MM V) O=_
 refine rwm _ (rwm _ (rwm _ (rwm _ ?_ (az hc)) (az h1)) (eb rfl)) ha;show bm (om ((Pc c).meth C m)) (λf=>bm (a8 (R c n) e be) λvs=>(R c n).call (.t (.top f)) (M::vs)) E=_;refine rwm _ ?_ hm;show bm (a8 (R c n) e be) (λvs=>(R c n).call (.t (.top f)) (M::vs)) E=_;exact rwm _ (rwm _ rfl h4) (az h2)
theorem kn{o:Expr}{m:Str}{D p:Pos}{be:List Expr}{M:V}{t:T}{L k:Nat}{vs:List V}{B:Option (Except Addr V×af)}(ha:(D.endLine==p.line&&be.all noStar&&decide (be.length<20)&&fN o)=true)
  (h1:(R c n).ev o e O=some (.ok M,E))(hc:mK M m E=some (.ok none,E))(hv:vw M E=some t)(hk:mI t=some L)(hm:lI L m=some k)
  (h2:a8 (R c n) e be E=some (.ok vs,O2))(h4:iL k M vs O2=B):(R c (n+1)).ev (.Call (.Attribute o m D) be [] p) e O=B:=by
 show(if D.endLine==p.line&&be.all noStar&&decide (be.length<20)&&fN o then bm ((R c n).ev o e) λM=>bm (mK M m) λc'=>match c' with
  |some C=>bm (om ((Pc c).meth C m)) λf=>bm (a8 (R c n) e be) λvs=>(R c n).call (.t (.top f)) (M::vs)
  |none=>bm (aE M) λt=>bm (om (mI t)) λL=>bm (om (lI L m)) λk=>bm (a8 (R c n) e be) λvs=>iL k M vs
 else λ_=>none:MM V) O=_
 refine rwm _ (rwm _ (rwm _ (rwm _ ?_ (az hc)) (az h1)) (eb rfl)) ha;show bm (aE M) (λt=>bm (om (mI t)) λL=>bm (om (lI L m)) λk=>bm (a8 (R c n) e be) λvs=>iL k M vs) E=_;refine a0 (az (show aE M E=some (.ok t,E) by unfold aE;exact rwm _ rfl hv)) (rwm _ ?_ hk);show bm (om (lI L m)) (λk=>bm (a8 (R c n) e be) λvs=>iL k M vs) E=_;refine rwm _ ?_ hm;show bm (a8 (R c n) e be) (λvs=>iL k M vs) E=_;exact rwm _ (rwm _ rfl h4) (az h2)
theorem cb:a8 r e [] O=some (.ok [],O):=rfl
theorem bx(h:r.ev a e O=some (.ok v,E))(h2:a8 r e l E=some (.ok vs,O2)):a8 r e (a::l) O=some (.ok (v::vs),O2):=by
 show bm (r.ev a e) (λv=>bm (a8 r e l) λvs=>pm (v::vs)) O=_;refine a0 (az h) (rwm _ ?_ (az h2));rfl
theorem cm{p:Pk}(h1:iN O be ⟨[],[]⟩=some (bi,p))(h2:c a bi p.S=some (some (.ok t,X)))(h3:unpack p.σ p.σ X O=some E):
  (R c (n+1)).call (.t (.top a)) be O=some (.ok (.t t),E):=by
 show fR (Pc c) (R c n) a be O=_;unfold fR;refine rwm _ ?_ h1;show mT (Pc c) (R c n) a be p (c a bi p.S) O=_;refine rwm _ ?_ h2;show(unpack p.σ p.σ X O).map _=_;refine rwm _ ?_ h3;rfl
theorem vb{p:Pk}(h1:iN O be ⟨[],[]⟩=some (bi,p))(h2:c a bi p.S=some (some (.error t,X)))(h3:unpack p.σ p.σ X O=some E):
  (R c (n+1)).call (.t (.top a)) be O=some (.error t,E):=by
 show fR (Pc c) (R c n) a be O=_;unfold fR;refine rwm _ ?_ h1;show mT (Pc c) (R c n) a be p (c a bi p.S) O=_;refine rwm _ ?_ h2;show(unpack p.σ p.σ X O).map _=_;refine rwm _ ?_ h3;rfl
noncomputable def oY:Stmt->Bool
 | .FunctionDef _ _ _ _ _ _ _ _ _ _=>true
 |_=>false
def kp(sc:Scope)(q:Str)(c6:Addr)(H:List (Str×V)):MM AE:=bm (new (.ns true [])) λlh=>bm (et sc.names []) λcl=>bm (gS ⟨sc,lh,cl,q++nm ".<locals>.",c6⟩ H) λ_=>pm ⟨sc,lh,cl,q++nm ".<locals>.",c6⟩
theorem KB{r:aG}{st:Stmt}{q:Str}{d:List T}{c6:Addr}{be:List V}(h:oY st=true):mS r ⟨st,q,d,c6⟩ be=bm (om (d8 (fg st).args be d)) λH=>dR r (aV st) q c6 [] H (eu r (ba st)):=by
 cases st<;>first|exact ftf h|rfl
theorem KC:dR r sc q c6 [] H (eu r j) O=bm (kp sc q c6 H) (λe=>bm (eu r j e) λv=>fq O.length v) O:=by
 unfold dR kp;refine rwm _ ?_ du
 congr 1
 funext lh
 refine rwm _ ?_ du
 congr 1
 funext cl
 rw[du];rfl
theorem vc{a:Addr}{be:List V}{st:Stmt}{q:Str}{d:List T}{c6:Addr}{H:List (Str×V)}(ht:fR (Pc c) (R c n) a be O=ij (Pc c) (R c n) a be O)(hf:(Pc c).fns a=some ⟨st,q,d,c6⟩)(cp:oY st=true)
  (hb:d8 (fg st).args be d=some H)(he:kp (aV st) q c6 H O=some (.ok e,E)):(R c (n+1)).call (.t (.top a)) be O=bm (eu (R c n) (ba st) e) (λv=>fq O.length v) E:=by
 show fR (Pc c) (R c n) a be O=_;refine a0 ht ?_;unfold ij;refine rwm _ ?_ hf;show mS _ _ _ O=_;refine rwm _ (rwm _ ?_ hb) (KB cp);show dR (R c n) (aV st) q c6 [] H (eu (R c n) (ba st)) O=_;exact rwm _ (rwm _ rfl (az he)) KC
theorem kq{a:Addr}{be:List V}{st:Stmt}{q:Str}{d:List T}{c6:Addr}{H:List (Str×V)}{v v':V}(ht:fR (Pc c) (R c n) a be O=ij (Pc c) (R c n) a be O)(hf:(Pc c).fns a=some ⟨st,q,d,c6⟩)(cp:oY st=true)
  (hb:d8 (fg st).args be d=some H)(he:kp (aV st) q c6 H O=some (.ok e,E))(hr:aR (R c n) e (ba st) E=some (.ok (.ret v),O2))(hl:fq O.length v O2=some (.ok v',O3)):
  (R c (n+1)).call (.t (.top a)) be O=some (.ok v',O3):=by
 have h5:eu (R c n) (ba st) e E=some (.ok v,O2):=by
  unfold eu;refine a0 (az hr) ?_;rfl
 exact rwm _ (rwm _ (rwm _ rfl hl) (az h5)) (vc ht hf cp hb he)
def i0(r:aG)(e:AE)(tg:Expr)(j:List Stmt)(k:Nat):T->MM Fl:=λt=>noErr (mN (bm (r.as tg e (.t t)) λ_=>aR r e j) k)
theorem oZ(hs:ic it=true)(h1:(R c n).ev it e O=some (.ok x,E))(h2:fr x E=some (.ok t,O2))(h3:d7 t=some U)
  (h4:dC (i0 (R c n) e tg j O2.length) U O2=B):(R c (n+1)).ex (.For tg it j [] p) e O=B:=by
 show(if ic it then bm ((R c n).ev it e) λx=>bm (fr x) λt=>bm (om (d7 t)) λU=>tT (R c n) e tg j U else λ_=>none:MM Fl) O=_;refine rwm _ (rwm _ (rwm _ (rwm _ (rwm _ ?_ h3) (az h2)) (az h1)) (eb rfl)) hs;exact h4
set_option tactic.hygienic true in
theorem dI(h1:r.as tg e (.t t) O=some (.ok (),E))(h2:aR r e j E=some (.ok .next,O2)):i0 r e tg j k t O=some (.ok .next,trunc k O2):=by
 unfold i0 noErr mN;exact rwm _ (rwm _ rfl h2) (az h1)
set_option tactic.hygienic true in
theorem AN{α p:Type}(d:α->T)(I:p->af)(step:p->α->p)(F:T->MM Fl):∀(l:List α)(s:p),(∀A a B,l=A++a::B->F (d a) (I (A.foldl step s))=some (.ok .next,I (step (A.foldl step s) a)))->
  dC F (l.map d) (I s)=some (.ok .next,I (l.foldl step s))
 |[],s,_=>rfl
 |a::l,s,H=>by
  show bm (F (d a)) (λfl=>match fl with
   | .next=>dC F (l.map d)
   | .ret v=>pm (.ret v)) (I s)=_
  refine a0 (az (show F (d a) (I s)=some (.ok .next,I (step s a)) from H [] a l rfl)) ?_;exact AN d I step F l (step s a) λA b B e=>H (a::A) b B (by refine rwm _ ?_ e;rfl)
noncomputable def ku{α:Type}(g:List α->α->Option T):List α->List α->List T
 |_,[]=>[]
 |A,a::l=>(g A a).toList++ku g (A++[a]) l
theorem AO{α:Type}(g:α->Option T):∀(A l:List α),ku (λ_ a=>g a) A l=l.filterMap g
 |_,[]=>rfl
 |A,a::l=>by
  refine a0 (hQ ((g a).toList++·) (AO g (A++[a]) l)) ?_;cases h:g a<;>simp [h]
theorem eX(h:k<=1000):aJ k=true:=by unfold aJ;refine rwm _ ?_ ms;exact ii (lB h rfl)
theorem rm{α:Type}(d:α->T)(I:List α->af)(g:List α->α->Option T)(F:T->MM (Option T)):∀(l A:List α)(be:List T),be.length+l.length<=1000->
  (∀p a q,A++l=p++a::q->F (d a) (I p)=some (.ok (g p a),I (p++[a])))->bZ F (l.map d) be (I A)=some (.ok (be++ku g A l),I (A++l))
 |[],A,be,_,_=>by
  show pm be (I A)=_;rw[show ku g A []=[] from rfl,List.append_nil,List.append_nil];rfl
 |a::l,A,be,hn,H=>by
  show bm (F (d a)) (λx=>match x with
   |some y=>if aJ be.length then bZ F (l.map d) (be++[y]) else λ_=>none
   |none=>bZ F (l.map d) be) (I A)=_
  refine a0 (az (H A a l rfl)) ?_;rw[List.length_cons] at hn;have f:∀p b q,(A++[a])++l=p++b::q->F (d b) (I p)=some (.ok (g p b),I (p++[b])):=λp b q e=>H p b q (by rw[<-e,List.append_assoc];rfl);have e1:A++a::l=(A++[a])++l:=by simp
  rw[show ku g A (a::l)=(g A a).toList++ku g (A++[a]) l from rfl]
  cases h:g A a with
  |none=>
   show bZ F (l.map d) be (I (A++[a]))=_;refine a0 (rm d I g F l (A++[a]) be (Nat.le_of_succ_le hn) f) (rwm _ ?_ e1);rfl
  |some y=>
   show(if aJ be.length then bZ F (l.map d) (be++[y]) else λ_=>none:MM (List T)) (I (A++[a]))=_;rw[eX (Nat.le_trans (Nat.le_add_right _ _) hn),if_pos rfl,rm d I g F l (A++[a]) (be++[y]) (by simp;exact EH hn) f,e1,List.append_assoc];rfl
theorem vd(hk:(ic it&&ql tg&&kc sc&&(eV e sc 0).isSome)=true)(h1:(R c n).ev it e O=some (.ok x,E))(h2:fr x E=some (.ok t,O2))
  (h3:d7 t=some U)(hc:eV e sc O2.length=some ce)(h4:bZ (dD (R c n) ce Q tg bi) U [] (O2++[.ns false []])=some (.ok be,O3))(h5:O3[O2.length]? =some (.ns false N)):
  fu (R c n) e Q [⟨tg,it,bi,0⟩] sc O=bP (.list be) (trunc O2.length (O3.set O2.length .dead)):=by
 show(if ic it&&ql tg&&kc sc&&(eV e sc 0).isSome then bm ((R c n).ev it e) λx=>bm (fr x) λt=>bm (om (d7 t)) λU=>ju (R c n) e Q tg bi sc U else λ_=>none:MM V) O=_;refine rwm _ (rwm _ (rwm _ (rwm _ (rwm _ ?_ h3) (az h2)) (az h1)) (eb rfl)) hk;show ju (R c n) e Q tg bi sc U O2=_;unfold ju;refine a0 (az (show new (.ns false []) O2=some (.ok O2.length,O2++[.ns false []]) from rfl)) (rwm _ ?_ hc);show mP O2.length O2.length (bZ (dD (R c n) ce Q tg bi) U [] (O2++[.ns false []]))=_;refine rwm _ ?_ h4;show oz O3[O2.length]? (bP (.list be) (trunc O2.length (O3.set O2.length .dead)))=_;refine rwm _ ?_ h5;rfl
theorem kx(h1:r.as tg ce (.t t) O=some (.ok (),E))(h2:oy r ce bi E=some (.ok q,O2))(h3:q=true->bm (r.ev Q ce) (λv=>fr v) O2=some (.ok u,O3))(h4:q=false->O3=O2):
  dD r ce Q tg bi t O=some (.ok (cond q (some u) none),O3):=by
 unfold dD;refine a0 (az h1) (rwm _ ?_ (az h2))
 cases q with
 |false=>refine rwm _ ?_ (h4 rfl);rfl
 |true=>
  have:=h3 rfl;show bm (r.ev Q ce) (λv=>bm (fr v) λu=>pm (some u)) O2=_;refine rwm _ (rwm _ ?_ (az this)) (show bm (r.ev Q ce) (λv=>bm (fr v) λu=>pm (some u))=bm (bm (r.ev Q ce) λv=>fr v) λu=>pm (some u) from du.symm);rfl
end
end Internal
end
noncomputable section
namespace Internal
open PySem PySem.W PySem.Calls PyProof.Rows
section
variable {α β γ δ:Type}{P:α->Prop}(w:α){a:α}
@[elab_as_elim] theorem oE{f:β->α}(h:w=a\/∃b,w=f b)(k:P a)(E:∀b,P (f b)):P w:=by
 (refine a2 h (λzz=>?_) (λzz=>?_);(try clear h);subst zz;rotate_left;(try clear h);refine ag zz λb bo=>?_;clear zz;subst bo;rotate_right)
 .exact k
 .exact E b
@[elab_as_elim] theorem KD{f:β->γ->α}(h:w=a\/∃b c,w=f b c)(k:P a)(E:∀b c,P (f b c)):P w:=by
 (refine a2 h (λzz=>?_) (λzz=>?_);(try clear h);subst zz;rotate_left;(try clear h);refine aq zz λb c cr=>?_;clear zz;subst cr;rotate_right)
 .exact k
 .exact E b c
@[elab_as_elim] theorem cV{f:β->γ->δ->α}(h:w=a\/∃b c d,w=f b c d)(k:P a)(E:∀b c d,P (f b c d)):P w:=by
 (refine a2 h (λzz=>?_) (λzz=>?_);(try clear h);subst zz;rotate_left;(try clear h);refine a9 zz λb c d bo=>?_;clear zz;subst bo;rotate_right)
 .exact k
 .exact E b c d
@[elab_as_elim] theorem nc{f:β->α}{g:γ->δ->α}(h:w=a\/(∃b,w=f b)\/∃b c,w=g b c)(k:P a)(E:∀b,P (f b))(k2:∀b c,P (g b c)):P w:=by
 rcases h with rfl|⟨b,rfl⟩|⟨b,c,rfl⟩
 .exact k
 .exact E b
 .exact k2 b c
end
section
variable {c:aN}{n:Nat}{e:AE}{O E O2 O3:af}{P:bt}{r:aG}
theorem KE{m:MM V}(h2:x=some (some (.ok t,[])))(h:m O=mT P r a be ⟨[],[]⟩ x O):m O=some (.ok (.t t),O):=h.trans (by refine rwm _ ?_ h2;rfl)
theorem jH(a:Addr)(h2:c a as []=some (some (.ok t,[])))(h:(R c (n+2)).ev (.Call f be [] c4) e O=mT (Pc c) (R c n) a as ⟨[],[]⟩ (c a as []) O):
  (R c (n+2)).ev (.Call f be [] c4) e O=some (.ok (.t t),O):=KE h2 h
theorem o0(h3:fM x y=some q)(h:r.test t e O=om (fM x y) O):r.test t e O=some (.ok q,O):=h.trans (by refine rwm _ ?_ h3;rfl)
theorem AP(h3:fM x y=some q)(h:r.test t e O=om ((fM x y).map (!·)) O):r.test t e O=some (.ok (!q),O):=h.trans (by refine rwm _ ?_ h3;rfl)
theorem KF{N:List (aj×T)}(hk:cE it=some f)(hf:N.length<1000)(h:r.as tg e (.t t) O=lL (.dict N) k it t O):r.as tg e (.t t) O=some (.ok (),O.set k (.dict (bj N f t))):=by
 refine a0 h ?_;show bm (om (cE it)) (λf=>if aJ (N.length+1) then put k (.dict (bj N f t)) else λ_=>none) O=_;refine rwm _ ?_ hk;show(if aJ (N.length+1) then put k (.dict (bj N f t)) else λ_=>none:MM Unit) O=_;refine rwm _ (rwm _ ?_ (eb rfl)) (eX (lB hf rfl));rfl
set_option tactic.hygienic true in
def AQ(i:Nat)(U:List T)(u:T):MM Fl:=λO=>match(if aJ (U.length+1) then bm (put i (.list (U++[u]))) λ_=>pm (V.t .none) else λ_=>none:MM V) O with
 |some (.ok _,O)=>some (.ok .next,O)
 |some (.error c,O)=>some (.error c,O)
 |none=>none
set_option tactic.hygienic true in
theorem KG{U:List T}(h2:U.length<1000)(h3:O.set i (.list (U++[u]))=O3)(h:r.ex s e O=AQ i U u O):r.ex s e O=some (.ok .next,O3):=by
 refine a0 h ?_;unfold AQ;refine rwm _ (rwm _ (rwl _ ?_ h3) (eb rfl)) (eX (lB h2 rfl));rfl
def ve(c:aN)(a:Addr)(be:List V)(O:af):Option (AE×List Stmt×af):=
 (cond ((iN O be ⟨[],[]⟩).all λz=>(c a z.1 z.2.S).isNone) ((Pc c).fns a) none).bind λfi=>(cond (oY fi.st) (d8 (fg fi.st).args be fi.dfl) none).bind λH=>match kp (aV fi.st) fi.qual fi.code H O with
  |some (.ok e,E)=>some (e,ba fi.st,E)
  |_=>none
theorem AR{α:Type}{b:Bool}{x:Option α}{y:α}(h:cond b x none=some y):b=true/\x=some y:=by
 cases b
 .exact nso h
 .exact⟨rfl,h⟩
theorem AS(h:ve c a be O=some (e,b,E)):(R c (n+1)).call (.t (.top a)) be O=bm (eu (R c n) b e) (λv=>fq O.length v) E:=by
 refine al (Option.bind_eq_some_iff.mp h) λfi h1 h=>ac (AR h1) λhn hf=>al (Option.bind_eq_some_iff.mp h) λH h1 h=>ac (AR h1) λhs hb=>?_;clear h1;rcases fi with⟨st,q,d,c6⟩;have ht:fR (Pc c) (R c n) a be O=ij (Pc c) (R c n) a be O:=by
  unfold fR
  cases hp:iN O be ⟨[],[]⟩ with
  |none=>rfl
  |some z=>
   rcases z with⟨as,p⟩;rw[hp] at hn;have hn:=Option.isNone_iff_eq_none.mp hn;show mT (Pc c) (R c n) a be p (c a as p.S) O=_;refine rwm _ ?_ hn;rfl
 cases he:kp (aV st) q c6 H O with
 |none=>rw[he] at h;exact nso h
 |some p=>
  rw[he] at h;rcases p with⟨x,O2⟩
  cases x with
  |error C=>exact nso h
  |ok e'=>
   cases h;exact vc ht hf hs hb he
theorem dT(h:ve c a be O=some (e,b,E))(hr:aR (R c n) e b E=some (.ok (.ret v),O2))(hl:fq O.length v O2=some (.ok v',O3)):
  (R c (n+1)).call (.t (.top a)) be O=some (.ok v',O3):=by
 exact rwm _ (rwm _ (rwm _ rfl hl) (az (show eu (R c n) b e E=some (.ok v,O2) by unfold eu;refine a0 (az hr) ?_;rfl))) (AS h)
theorem rn(h:ve c a be O=some (e,b,E))(hr:aR (R c n) e b E=some (.error C,O2)):(R c (n+1)).call (.t (.top a)) be O=some (.error C,O2):=by
 refine a0 (AS h) ?_;unfold eu bm;exact rwm _ rfl hr
theorem gp(h4:dC (i0 (R c n) e tg j O2.length) U O2=B)(h:(R c (n+1)).ex (.For tg it j [] p) e O=dC (i0 (R c n) e tg j O2.length) U O2):(R c (n+1)).ex (.For tg it j [] p) e O=B:=h.trans h4
def ro(e:AE)(tg x:Expr):Bool:=noStar tg&&ie x&&(fQ e tg x).any (·.isNone)
set_option tactic.hygienic true in
theorem ng(h:ro e tg x=true)(h1:(R c n).ev x e O=some (.ok v,E))(h2:(R c n).as tg e v E=some (.ok (),O2)):(R c (n+1)).ex (.Assign [tg] x p) e O=some (.ok .next,O2):=by
 unfold ro at h;rw[Bool.and_eq_true,Bool.and_eq_true] at h;(refine ac h λc7 hw=>?_;clear h;rcases c7 with⟨hs,hx⟩);refine oX hs ?_;have e1:ig (R c n) e tg x=bm ((R c n).ev x e) λv=>lM (R c n) e tg v (fQ e tg x):=by
  cases x<;>first|rfl|exact ftf hx
 refine rwm _ (rwm _ ?_ (az h1)) e1
 cases hq:fQ e tg x with
 |none=>rw[hq] at hw;exact ftf hw
 |some o=>
  rw[hq] at hw
  cases o with
  |none=>exact h2
  |some l=>exact ftf hw
theorem lU{F:T->MM (Option T)}(hc:bZ F U [] (O2++[.ns false []])=some (.ok be,O3))(h5:O3[O2.length]? =some (.ns false N))(G:bP (.list be) (trunc O2.length (O3.set O2.length .dead))=some (.ok v,O4))
  (h:X=mP O2.length O2.length (bZ F U [] (O2++[.ns false []]))):X=some (.ok v,O4):=by
 refine a0 h (rwm _ ?_ hc);show oz O3[O2.length]? (tP O2.length O2.length (.ok be) O3)=_;refine rwm _ ?_ h5;exact G
theorem KH(h4:dQ t it=some u)(h:r.ev x e O=om ((dQ t it).map .t) O):r.ev x e O=some (.ok (.t u),O):=h.trans (by refine rwm _ ?_ h4;rfl)
theorem KI(h1:(R c n).test a e O=some (.ok true,O))(h2:(R c n).test b e O=some (.ok q,O)):(R c (n+1)).test (.BoolOp .And [a,b] p) e O=some (.ok q,O):=rj h1 (lT h2)
set_option tactic.hygienic true in
theorem lV{N:List (aj×T)}(hf:N.length<1000)(h:ro e tg x=true)(h1:(R c n).ev x e O=some (.ok (.t t),O))(hk:cE it=some f)(h2:(R c n).as tg e (.t t) O=lL (.dict N) k it t O):
  (R c (n+1)).ex (.Assign [tg] x p) e O=some (.ok .next,O.set k (.dict (bj N f t))):=ng h h1 (KF hk hf h2)
theorem lW(h:(R c n).test t e O=some (.ok true,O))(h2:aR (R c n) e a O=B):(R c (n+1)).ex (.If t a b p) e O=B:=ri h h2
theorem lX(h:(R c n).test t e O=some (.ok false,O))(h2:aR (R c n) e b O=B):(R c (n+1)).ex (.If t a b p) e O=B:=ri h h2
theorem KJ(h1:(R c n).test a e O=some (.ok false,O)):(R c (n+1)).test (.BoolOp .And (a::l) p) e O=some (.ok false,O):=AK h1 rfl
set_option tactic.hygienic true in
theorem vf(h:ro e tg x=true)(h1:(R c n).ev x e O=some (.ok v,O))(h2:(R c n).as tg e v O=some (.ok (),O2)):(R c (n+1)).ex (.Assign [tg] x p) e O=some (.ok .next,O2):=ng h h1 h2
theorem nh(h:r.ev a e O=some (.ok v,O))(h2:a8 r e l O=some (.ok vs,O)):a8 r e (a::l) O=some (.ok (v::vs),O):=bx h h2
end
noncomputable def nj(q:Option (Except Addr V×af)):cF:=match q with
 |some (.error C,X)=>some (some (.error C,X))
 |some (.ok (.t u),X)=>some (some (.ok u,X))
 |_=>none
theorem vg{rc:aG}{q:Except Addr T×af}(hl:LC be bi)(h:nj (rc.call (.t (.top a)) bi O)=some (some q)):gl rc a be O q:=by
 refine⟨bi,O,?_⟩
 cases e:rc.call (.t (.top a)) bi O with
 |none=>rw[e] at h;exact nso h
 |some p=>
  rw[e] at h;clear e;rcases p with⟨x,X⟩
  cases x with
  |error C=>have h:=ai (ai h);subst h;exact⟨_,hl,SC.refl _,rfl,rfl,SC.refl _⟩
  |ok v=>
   cases v with
   |t u=>have h:=ai (ai h);subst h;exact⟨_,hl,SC.refl _,rfl,TC.refl _,SC.refl _⟩
   |own i=>exact nso h
noncomputable def AT{α:Type}(x:α):α:=Classical.choose (⟨x,rfl⟩:∃y,y=x)
theorem AU{α:Type}(x:α):AT x=x:=Classical.choose_spec (⟨x,rfl⟩:∃y,y=x)
def br(c:aN)(n:Nat)(a:Addr)(be:List V)(O:af):Option (Except Addr V×af):=(R c n).call (.t (.top a)) be O
def rK(c:aN)(n:Nat)(a:Addr):b8:=λbe O=>AT (nj (br c n a be O))
theorem nk{c:aN}(h:br c n a be O=some (.ok (.t u),X)):rK c n a be O=yes u X:=(AU _).trans (by refine rwm _ ?_ h;rfl)
theorem aC.addK{c d:aN}(h:aC c b)(hd:aC d k)(hk:b+n<=k):aC (bp a (rK c n a) d) k:=
 aC.add h hd hk λbe O q h hv ho=>vg (LC.refl _) ((AU _).symm.trans h)
end Internal
end
noncomputable section
set_option maxHeartbeats 200000
namespace Internal
open PySem PySem.W PySem.Calls PyProof.Rows
def ah.all(D:ah):List Int:=D.order++D.more [D.k]
def ah.headT(D:ah):T:= .dict [(.str (aA "OCGs"),.list ((D.order++D.more [D.k]).map ao)),(.str (aA "D"),.dict D.firstT)]
def ah.labN(D:ah)(n:Int):List UInt8:=if D.st=2/\n=D.k then cj else gL ((n - 10).toNat/3)
theorem KK(D:ah):(R av 60).call (.t (.top 479)) [.t D.tree] []=some (.ok (.t D.headT),[]):=by lk
abbrev au(D:ah):V:= .t (.box (.doc D) D.tree)
theorem gq{α β:Type}{f g:α->β}{l:List α}(h:l.map f=l.map g){a:α}(ha:a∈l):f a=g a:=List.map_inj_left.mp h a ha
noncomputable def i3:List (Nat×Nat):=[(1,0),(2,0),(2,1),(3,0),(3,1),(3,2),(4,0),(4,1),(4,2),(4,3)]
noncomputable def jI:List (Nat×Nat):=[0,1,2,3,4].flatMap λm=>[0,1,2,3,4,5,6,7,8].map λj=>(m,j)
theorem AV(h:i<m)(hm:m<=4):(m,i)∈i3:=(by decide+kernel:∀m,m<=4->∀i,i<m->(m,i)∈i3) m hm i h
theorem AW(h:j<9)(hm:m<=4):(m,j)∈jI:=(by decide+kernel:∀m,m<=4->∀j,j<9->(m,j)∈jI) m hm j h
theorem i4:n∈aQ m↔∃i:Nat,i<m/\n=10+3*(i:Int):=by
 unfold aQ;simp only[List.mem_map,List.mem_range];exact⟨λ⟨i,h,e⟩=>⟨i,h,e.symm⟩,λ⟨i,h,e⟩=>⟨i,h,e.symm⟩⟩
theorem i7{D:ah}:n∈D.order↔n∈aQ D.m:=by
 unfold ah.order;cases D.rev<;>simp
theorem AX{D:ah}(h:D.Wf)(hn:n∈D.all):(∃i:Nat,(D.m,i)∈i3/\n=10+3*(i:Int))\/(D.st=2/\∃j:Nat,(D.m,j)∈jI/\n=D.k/\D.k=23+(j:Int)):=by
 unfold ah.all at hn;(refine bc λno=>a2 (List.mem_append.mp hn) (λhn=>?_) (λhn=>?_);refine no ?_;clear no;rotate_left;refine no ?_;clear no;rotate_right)
 .refine al (i4.mp (i7.mp hn)) λi h1 h2=> .inl ⟨i,AV h1 h.m,h2⟩
 .have cp:D.st=2:=by
   have:=h.st;unfold ah.more at hn;rcases hs:D.st with _|_|_|s
   .rw[hs] at hn;cases hn
   .rw[hs] at hn;cases hn
   .rfl
   .exact ET this hs
  have hk:=h.k cp;unfold ah.more at hn;rw[cp] at hn;have hn:n=D.k:=by simpa using hn
  exact .inr ⟨cp,(D.k - 23).toNat,AW (wJ hk) h.m,hn,wK hk⟩
theorem KL(rev:Bool)(b:Nat)(x y z:List Int)(B:List (List Int))(st:Nat)(k:Int):i3.map (λp=>br av 60 465 [au ⟨p.1,rev,b,x,y,z,B,st,k⟩,.t (ao (10+3*(p.2:Int)))] [])=
  i3.map λ_=>some (.ok (.t (.bool true)),[]):=by lk
theorem KM(rev:Bool)(b:Nat)(x y z:List Int)(B:List (List Int)):jI.map (λp=>br av 60 465 [au ⟨p.1,rev,b,x,y,z,B,2,23+(p.2:Int)⟩,.t (ao (23+(p.2:Int)))] [])=
  jI.map λ_=>some (.ok (.t (.bool true)),[]):=by lk
theorem KN(rev:Bool)(b:Nat)(x y z:List Int)(B:List (List Int))(st:Nat)(k:Int):i3.map (λp=>br av 60 493 [au ⟨p.1,rev,b,x,y,z,B,st,k⟩,.t (.int (10+3*(p.2:Int)))] [])=
  i3.map λp=>some (.ok (.t (.bytes (gL p.2).toArray)),[]):=by lk
theorem KO(rev:Bool)(b:Nat)(x y z:List Int)(B:List (List Int)):jI.map (λp=>br av 60 493 [au ⟨p.1,rev,b,x,y,z,B,2,23+(p.2:Int)⟩,.t (.int (23+(p.2:Int)))] [])=
  jI.map λ_=>some (.ok (.t (.bytes cj.toArray)),[]):=by lk
theorem KQ{D:ah}(h:D.Wf)(hn:n∈D.all):br av 60 465 [au D,.t (ao n)] []=some (.ok (.t (.bool true)),[]):=by
 (refine a2 (AX h hn) (λzz=>?_) (λzz=>?_);refine ag zz λi c1=>ac c1 λh1 bo=>?_;clear c1;clear hn;subst bo;rotate_left;refine ac zz λcp c3=>ag c3 λj bi=>aw bi λh1 bo h2=>?_;clear bi;clear hn zz c3;subst bo;rotate_right)
 .rcases D with⟨m,rev,b,x,y,z,B,st,k⟩;have q:=gq (KL rev b x y z B st k) h1;dsimp only at q;exact q
 .rcases D with⟨m,rev,b,x,y,z,B,st,k⟩;cases cp;cases h2;have q:=gq (KM rev b x y z B) h1;dsimp only at q;exact q
theorem KS{D:ah}(h:D.Wf)(hn:n∈D.all):br av 60 493 [au D,.t (.int n)] []=some (.ok (.t (.bytes (D.labN n).toArray)),[]):=by
 have hw:=h;(refine a2 (AX h hn) (λzz=>?_) (λzz=>?_);refine ag zz λi c1=>ac c1 λh1 bo=>?_;clear c1;clear hn;subst bo;rotate_left;refine ac zz λcp c3=>ag c3 λj bi=>aw bi λh1 bo h2=>?_;clear bi;clear hn zz c3;subst bo;rotate_right)
 .have e:D.labN (10+3*(i:Int))=gL i:=by
   unfold ah.labN;have hi:i<4:=by
    have:=h1;unfold i3 at this;simp only[List.mem_cons,Prod.mk.injEq,List.not_mem_nil,or_false] at this;exact EU this
   rw[if_neg (λhc=>by have:=h.k hc.1;exact EV hi hc this)];exact rwm _ rfl EW
  refine rwm _ ?_ e;rcases D with⟨m,rev,b,x,y,z,B,st,k⟩;have q:=gq (KN rev b x y z B st k) h1;dsimp only at q;exact q
 .have e:D.labN D.k=cj:=by unfold ah.labN;exact rwm _ rfl (eb ⟨cp,rfl⟩)
  refine rwm _ ?_ e;rcases D with⟨m,rev,b,x,y,z,B,st,k⟩;cases cp;cases h2;have q:=gq (KO rev b x y z B) h1;dsimp only at q;exact q
open Classical in
def gu(p:Prop)(a:cF):cF:=if p then a else none
set_option tactic.hygienic true in
theorem ip{p:Prop}{a:cF}{q:Except Addr T×af}(h:gu p a=some (some q)):p/\a=some (some q):=by
 unfold gu at h
 split at h
 .rename_i hp;exact⟨hp,h⟩
 .exact nso h
theorem fU{p:Prop}{a:cF}(h:p):gu p a=a:=eb h
theorem KT{D:ah}(h:cN (.t (.box (.doc D) t))):D.Wf/\t=D.tree:=(kj (kl h)).1
def i8{α:Type}(v:V)(f:ah->Option α):Option α:=aT v λt=>j4 t λg _=>tq g f
@[elab_as_elim] theorem jJ{α:Type}{q:α}{f:ah->Option α}{P:V->Prop}(h:i8 v f=some q)(s:cN v)(k:∀D:ah,D.Wf->f D=some q->P (.t (.box (.doc D) D.tree))):P v:=by
 revert s;refine bY h λt h=>jm h λg X h=>xj h λD h s=>ac (KT s) λhw e=>?_;clear s;subst e;exact k D hw h
def AY:b8:=iY λx O=>nl O (i8 x λD=>yes D.headT [])
theorem KU:cG (R av 60) 479 AY:=jD λx O q h s _=>bT h λh=>jJ h s λD hw h=>by
 cases h;exact⟨[.t D.tree],[],_,⟨TC.unbox (TC.refl _),trivial⟩,trivial,KK D,TC.refl _,trivial⟩
theorem KV{D:ah}(h:D.Wf)(hn:n∈D.all):rK av 60 465 [au D,.t (ao n)] []=yes (.bool true) []:=nk (KQ h hn)
theorem AZ{D:ah}(h:D.Wf)(hn:n∈D.all):rK av 60 493 [au D,.t (.int n)] []=yes (.bytes (D.labN n).toArray) []:=nk (KS h hn)
def k1:aN:=bp 479 AY (bp 465 (rK av 60 465) (bp 493 (rK av 60 493) (bp 624 km av)))
theorem vh:cG (R av 30) 624 km:=λbe O q h hv ho=>Ki 624 be O q h ho
theorem A0:aC k1 60:=aC.add aC.start (aC.addK aC.start (aC.addK aC.start (aC.add aC.start (aC.mono aC.start (ix _)) (by decide) vh) (by decide)) (by decide)) (by decide) KU
noncomputable def dU(x:Int)(l:List Int):Bool:=l.any λa=>decide (a=x)
theorem nn(x:Int)(l:List Int):fM (.int x) (ak l)=some (dU x l):=by
 show gf (.int x) (l.map T.int)=_
 induction l with
 |nil=>rfl
 |cons a l ih=>
  show(match dO (.int a) (.int x),gf (.int x) (l.map T.int) with
   |some p,some q=>some (p||q)
   |_,_=>none)=_
  refine rwm _ ?_ ih;rfl
theorem rq(h:x∉l):dU x l=false:=by
 unfold dU;rw[List.any_eq_false];intro a ha;simp;intro e;subst e;exact h ha
theorem A1(h:x∈l):dU x l=true:=by
 unfold dU;rw[List.any_eq_true];exact⟨x,h,by simp⟩
def vi:AE:=⟨aV (at_ 35),0,[],S "groups_in"++nm ".<locals>.",471⟩
def jK(D:ah)(X:T)(w:List (Str×V))(l:List Int):af:=[.ns true ([(S "shelf",au D),(S "items",.t X),(S "found",.own 1)]++w),.list (l.map T.int)]
noncomputable def bE(f:Int->T)(n:Str)(A:List Int):List (Str×V):=match A.getLast? with
 |none=>[]
 |some a=>[(n,.t (f a))]
theorem nq(f:Int->T)(n:Str)(A:List Int)(a:Int):bE f n (A++[a])=[(n,.t (f a))]:=by unfold bE;exact rwm _ rfl (pB)
theorem iq(f:Int->T)(n:Str)(A:List Int):bE f n A=[]\/∃a,bE f n A=[(n,.t (f a))]:=by
 unfold bE
 cases A.getLast? with
 |none=>exact .inl rfl
 |some a=>exact .inr ⟨a,rfl⟩
set_option tactic.hygienic true in
theorem kE(d:Int->T)(I:List Int->af)(F:T->MM Fl)(l:List Int)(H:∀A a B,l=A++a::B->F (d a) (I A)=some (.ok .next,I (A++[a]))):dC F (l.map d) (I [])=some (.ok .next,I l):=by
 have e:∀(l s:List Int),l.foldl (λs a=>s++[a]) s=s++l:=λl=>by
  induction l with
  |nil=>intro s;simp
  |cons a l ih=>intro s;rw[List.foldl_cons,ih];simp
 have h:=AN d I (λs a=>s++[a]) F l [] λA a B q=>by
  rw[e];exact H A a B q
 rw[e] at h;exact h
theorem o4{l:List Int}(h:l.Nodup)(e:l=A++a::B):a∉A:=by
 rw[e,List.nodup_append] at h;intro ha;exact h.2.2 a ha a (.head _) rfl
def dw:Stmt->Expr
 | .For t _ _ _ _=>t
 |_=>g6
noncomputable def dx:Stmt->List Stmt
 | .For _ _ b _ _=>b
 |_=>[]
def cz(c:aN)(n:Nat)(a:AE)(s:Stmt)(k:Nat):T->MM Fl:=i0 (R c n) a (dw s) (dx s) k
theorem ek{O:af}(h:O.length<=k):trunc k O=O:=by
 unfold trunc;refine rwm _ ?_ (r0 h)
 split<;>rfl
theorem vj(h1:vw v O=some x)(h2:vw u O=some y)(h3:fM x y=some b):dP .NotIn v u O=some (.ok (!b),O):=by
 show bm (aE v) (λx=>bm (aE u) λy=>om (gQ .NotIn x y)) O=_;refine a0 (az (show aE v O=some (.ok x,O) by unfold aE;exact rwm _ rfl h1)) (rwm _ ?_ (az (show aE u O=some (.ok y,O) by unfold aE;exact rwm _ rfl h2)));show om ((fM x y).map (!·)) O=_;refine rwm _ ?_ h3;rfl
theorem vl(h1:vw v O=some x)(h2:vw u O=some y)(h3:fM x y=some b):dP .In v u O=some (.ok b,O):=by
 show bm (aE v) (λx=>bm (aE u) λy=>om (gQ .In x y)) O=_;refine a0 (az (show aE v O=some (.ok x,O) by unfold aE;exact rwm _ rfl h1)) (rwm _ ?_ (az (show aE u O=some (.ok y,O) by unfold aE;exact rwm _ rfl h2)));show om (fM x y) O=_;refine rwm _ ?_ h3;rfl
theorem A2{O M:af}{U:List T}(h1:O[i]? =some (.list U))(h2:U.length<1000)(h3:O.set i (.list (U++[t]))=M):iL 5 (.own i) [.t t] O=some (.ok (.t .none),M):=by
 show bm (bw i) (λQ O=>tC Q λys=>(if aJ (ys.length+1) then bm (put i (.list (ys++[t]))) λ_=>pm (V.t .none) else λ_=>none:MM V) O) O=_;refine a0 (az (show bw i O=some (.ok (.list U),O) by unfold bw;exact rwm _ rfl h1)) ?_;show(if aJ (U.length+1) then bm (put i (.list (U++[t]))) λ_=>pm (V.t .none) else λ_=>none:MM V) O=_;refine rwm _ (rwm _ (rwl _ ?_ h3) (eb rfl)) (eX (lB h2 rfl));rfl
def o5:Stmt:=an (ba (at_ 35)) 1
set_option tactic.hygienic true in
theorem KW{D:ah}{A:List Int}(h:D.Wf)(ha:a∈D.all)(hp:a∉A)(hl:A.length<100):cz k1 38 vi o5 2 (ao a) (jK D X (bE ao (S "item") A) A)=some (.ok .next,jK D X (bE ao (S "item") (A++[a])) (A++[a])):=by
 rw[nq];have hw:=iq ao (S "item") A;generalize bE ao (S "item") A=w at hw;have h1:(R k1 38).as (dw o5) vi (.t (ao a)) (jK D X w A)=some (.ok (),jK D X [(S "item",.t (ao a))] A):=by
  refine oE w hw ?_ λb=>?_<;>lk
 refine(dI (O2:=jK D X [(S "item",.t (ao a))] (A++[a])) h1 (bv (jG (rj (rk (jH 465 (KV h ha) ?_) rfl)
  (lT (AP (x:= .int a) (y:=ak A) (q:=false) (by rw[nn,rq hp]) ?_))) (bv (KG (i:=1) (U:=A.map T.int) (u:= .int a) (by rw[List.length_map];exact lB hl rfl) ?_ ?_))))).trans ?_
 .lk
 .lk
 .unfold jK;refine rwm _ ?_ i5;rfl
 .lk
 .exact rwm _ rfl (ek (hX 2))
theorem KY{D:ah}{ns:List Int}(h:D.Wf)(hn:ns.Nodup)(ha:∀n∈ns,n∈D.all)(hl:ns.length<100):br k1 40 472 [au D,.t (aK ns)] []=some (.ok (.t (ak ns)),[]):=by
 refine dT (e:=vi) (b:=ba (at_ 35)) (E:=[.ns true [(S "shelf",au D),(S "items",.t (aK ns))]]) (O2:=jK D (aK ns) (bE ao (S "item") ns) ns) (v:= .own 1) (by lk) ?_ rfl;refine aW (E:=jK D (aK ns) [] []) ?_ (aW (gp (kE ao (λA=>jK D (aK ns) (bE ao (S "item") A) A) _ ns λA a B e=>KW h (ha a (by refine rwm _ ?_ e;simp)) (o4 hn e) (by rw[e] at hl;simp at hl;exact pR hl)) ?_) (ci ?_))
 .lk
 .lk
 .have hw:=iq ao (S "item") ns;generalize bE ao (S "item") ns=w at hw;refine oE w hw ?_ λb=>?_<;>lk
theorem VC.ofEq(h:t=u):VC (.t t) (.t u):=by subst h;exact TC.refl _
def k2:aN:=bp 472 (rK k1 40 472) k1
theorem vm:aC k2 100:=aC.addK A0 (A0.mono (by decide)) (by decide)
theorem A3{D:ah}{ns:List Int}(h:D.Wf)(hn:ns.Nodup)(ha:∀n∈ns,n∈D.all)(hl:ns.length<100):rK k1 40 472 [au D,.t (aK ns)] []=yes (ak ns) []:=nk (KY h hn ha hl)
theorem vn(m:Nat):(aQ m).Nodup:=by
 unfold aQ;have h:List.Pairwise (λ(a b:Nat)=>a≠b) (List.range m):=List.nodup_range;exact List.pairwise_map.mpr (h.imp λ{a b} z e=>z (wz e))
theorem kF(D:ah):D.order.Nodup:=by
 unfold ah.order;cases D.rev
 .exact vn _
 .exact List.pairwise_reverse.mpr (List.Pairwise.imp (λ{a b}(z:a≠b)=>z.symm) (vn _))
theorem gv(D:ah):D.order.length=D.m:=by
 unfold ah.order;cases D.rev<;>simp [aQ]
theorem jL{D:ah}(h:D.Wf)(hn:n∈D.order):10<=n/\n<=19:=by
 refine al (i4.mp (i7.mp hn)) λi h1 h2=>?_;have:=h.m;exact DR h1 h2 this
theorem rt(h:n<=2):n=0\/n=1\/n=2:=(by decide+kernel:∀n,n<=2->n=0\/n=1\/n=2) n h
theorem vo{D:ah}(h:D.Wf):D.st=0\/D.st=1\/D.st=2:=rt h.st
theorem i9{D:ah}(h:D.st=0\/D.st=1):D.all=D.order:=by
 unfold ah.all ah.more;rcases h with h|h<;>refine rwm _ ?_ h<;>exact List.append_nil _
theorem ru{D:ah}(h:D.st=2):D.all=D.order++[D.k]:=by unfold ah.all ah.more;refine rwm _ ?_ h;rfl
theorem lY{D:ah}(h:D.Wf):D.all.Nodup:=by
 rcases vo h with e|e|e
 .refine rwm _ ?_ (i9 (.inl e));exact kF D
 .refine rwm _ ?_ (i9 (.inr e));exact kF D
 .rw[ru e,List.nodup_append];refine⟨kF D,by simp,λa ha b hb=>?_⟩;have h1:=jL h ha;have h2:=h.k e;simp at hb;exactλz=>wR h2 h1 (z.trans hb)
theorem jM{D:ah}(h:D.Wf):D.all.length<=5:=by
 have:=h.m;rcases vo h with e|e|e
 .rw[i9 (.inl e),gv];exact l3 this
 .rw[i9 (.inr e),gv];exact l3 this
 .rw[ru e,List.length_append,gv];simp;exact lB this rfl
theorem vp{D:ah}(h:D.Wf)(hn:n∈D.all):10<=n/\n<=31:=by
 rcases vo h with e|e|e
 .rw[i9 (.inl e)] at hn;have:=jL h hn;exact sW this
 .rw[i9 (.inr e)] at hn;have:=jL h hn;exact sW this
 .rw[ru e] at hn;(refine bc λno=>a2 (List.mem_append.mp hn) (λhn=>?_) (λhn=>?_);refine no ?_;clear no;rotate_left;refine no ?_;clear no;rotate_right)
  .have:=jL h hn;exact sW this
  .simp at hn;have:=h.k e;exact DS hn this
theorem rx{D:ah}(hs:eQ D.m ns):∀n∈ns,n∈D.all:=λn hn=>List.mem_append_left _ (i7.mpr (hs.2 n hn))
theorem ry{D:ah}(h:D.Wf){ns:List Int}(hs:eQ D.m ns):ns.length<100:=by
 have:=rb hs.1 hs.2;rw[rd] at this;exact lC (a5 this h.m) rfl
noncomputable def ah.sh{α:Type}(F:ah->α)(m:Nat)(rev:Bool)(b:Nat)(on:List Int)(a:Int)(l lk:List Int)(rows:List (List Int))(k:Int):List α:=
 let G:=λ(b st:Nat)(off:List Int)=>F ⟨m,rev,b,on,off,lk,rows,st,k⟩
 [G 0 0 l,G 1 0 l,G 2 0 l,G b 1 [],G b 1 (a::l),G b 2 [],G b 2 (a::l)]
theorem ah.two{α:Type}{F G:ah->α}(D:ah)(hs:D.st<=2)(hb:D.base<=2)(e:ah.sh F=ah.sh G):F D=G D:=by
 rcases D with⟨m,rev,b,on,off,lk,rows,st,k⟩;have e:=λ(a:Int)(l:List Int)(i:Nat)=>hQ (λx:List α=>x[i]?) (p4 (p4 (p4 (p4 (p4 (p4 (p4 (p4 (p4 e m) rev) b) on) a) l) lk) rows) k);rcases rt hs with rfl|rfl|rfl
 .clear hs;rcases rt hb with rfl|rfl|rfl
  .exact ai (e 0 off 0)
  .exact ai (e 0 off 1)
  .exact ai (e 0 off 2)
 .cases off with
  |nil=>exact ai (e 0 [] 3)
  |cons a l=>exact ai (e a l 4)
 .cases off with
  |nil=>exact ai (e 0 [] 5)
  |cons a l=>exact ai (e a l 6)
theorem ah.twoW{α:Type}{F G:ah->α}(D:ah)(h:D.Wf)(e:ah.sh F=ah.sh G):F D=G D:=ah.two D h.st h.base e
def ah.sh3{α:Type}(F:ah->α):=(ah.sh λD=>F {D with rows:=[]},ah.sh λD a=>F {D with rows:=[a]},ah.sh λD a b=>F {D with rows:=[a,b]})
theorem ah.two3{α:Type}{F G:ah->α}(D:ah)(h:D.Wf)(e:ah.sh3 F=ah.sh3 G):F D=G D:=by
 rcases D with⟨m,rev,b,on,off,lk,rows,st,k⟩;have hf:rows.length<=2:=h.few;rcases rows with _|⟨x,_|⟨y,_|⟨z,l⟩⟩⟩
 .exact ah.two (F:=λD=>F {D with rows:=[]}) (G:=λD=>G {D with rows:=[]}) ⟨m,rev,b,on,off,lk,[],st,k⟩ h.st h.base (hQ Prod.fst e)
 .exact p4 (ah.two (F:=λD a=>F {D with rows:=[a]}) (G:=λD a=>G {D with rows:=[a]}) ⟨m,rev,b,on,off,lk,[],st,k⟩ h.st h.base (hQ (λe=>e.2.1) e)) x
 .exact p4 (p4 (ah.two (F:=λD a b=>F {D with rows:=[a,b]}) (G:=λD a b=>G {D with rows:=[a,b]}) ⟨m,rev,b,on,off,lk,[],st,k⟩ h.st h.base (hQ (λe=>e.2.2) e)) x) y
 .exact absurd hf (by simp)
def KZ:AE:=⟨aV (at_ 37),0,[],S "group_numbers"++nm ".<locals>.",485⟩
def A4(D:ah):af:=[.ns true [(S "shelf",au D)]]
theorem K0{D:ah}(h:D.Wf):br k2 60 486 [au D] []=some (.ok (.t (ak D.all)),[]):=
 dT (e:=KZ) (b:=ba (at_ 37)) (E:=A4 D) (O2:=A4 D) (v:= .t (ak D.all)) (by lk) (ci (eh (jH 472 (A3 h (lY h) (λn hn=>hn) (by have:=jM h;exact lC this rfl)) (by lk)))) rfl
def A6(rc:aG)(a:Addr)(be:List V)(O:af)(q:Except Addr T×af):Prop:=
 ∃bi M v E t O2 u X,LC be bi/\SC O M/\rc.call (.t (.top a)) bi M=some (.ok v,E)/\fr v E=some (.ok t,O2)/\q=(.ok u,X)/\TC t u/\SC (trunc O.length O2) X
def A7(rc:aG)(a:Addr)(f:b8):Prop:=∀be O q,f be O=some (some q)->(∀v∈be,cN v)->(∀Q∈O,eW Q)->A6 rc a be O q
section
variable {J:Program}{b1:Cx}{r g b6:ay}{b2 b4:List Addr}{l:List Env}{A:Around}{n:Nat}{rc:aG}{O M:af}{h:Heap}{s:Shared}
theorem cM.run2(d:aL J b1 b rc){c:Addr->List V->af->Option (Option (Except Addr T×af))}
  (hc:∀a be S q,c a be S=some (some q)->(∀v∈be,cN v)->(∀Q∈S,eW Q)->A6 rc a be S q):cM J b1 b c:=by
 intro A l r g b2 hR a be U S q s e hv S0;(refine my (hc a be S q e hv.sat λQ hm=>by
  obtain⟨i,hi⟩:=List.mem_iff_getElem?.mp hm;have hl:=(List.getElem?_eq_some_iff.mp hi).1;rw[<-S0.len] at hl;exact⟨_,_,_,_,_,S0.own i Q _ hi (hS hl)⟩) λbi H o E w O2 u j=>?_;refine ag j λX cv=>mz cv λdt ds f1 ft bd k t=>?_;clear cv;clear e j;subst bd)
 have S1:=S0.conv ds
 refine ea (d.call hR (.t (.top a)) bi (.ref a) U rfl (hv.conv dt) H _ s g b2 (.refl _) (.refl _) S1 f1) (λx s' z=>?_) λx s' z=>?_
 ·(refine ch z λg2 m v e1 p S2 hr=>?_;clear z);(have D:=oke e1;clear e1;cases D);refine ch (mU 4 o x g2 E _ S2 hr ft) λt' M g3 q3 hg S3 ht=>?_;cases q3;refine cD (S3.trunc S.length) λf S4 h1 h2=>?_;have hl:=S0.len.symm;refine⟨g3,f,u,rfl,⟨p.1,p.2.1.trans hg,?_⟩,S4.conv t,k _ _ _ ht⟩;have:=bu.take_len p.2.2;rw[hl] at h1;exact this.trans h1
 .refine n0 z λg2 m c' ex e1 p S2 e2 X=>oee e1
end
theorem aC.add2{c d:aN}{f:b8}(h:aC c b)(hd:aC d k)(hk:b+n<=k)(hr:A7 (R c n) a f):aC (bp a f d) k:=by
 intro w b7 mb B C;have h1:cM PW (bU w B) (b+n) (λx be O=>cond (Nat.beq x a) (f be O) Option.none):=cM.run2 (qO (C c) (h w b7 mb B C) n) λx be O q e h2 h3=>by
  cases hx:Nat.beq x a with
  |false=>rw[hx] at e;exact nso e
  |true=>
   rw[hx] at e;have:=hY hx;subst this;exact hr be O q e h2 h3
 intro A l r g b2 hR x be U O q s e;unfold bp at e
 cases hx:Nat.beq x a with
 |true=>
  rw[hx] at e;exact h1 (hR.mono hk) x be U O q s (by show(cond (Nat.beq x a) _ _:cF)=_;refine rwm _ ?_ hx;exact e)
 |false=>
  rw[hx] at e;exact hd w b7 mb B C hR x be U O q s e
def A8:b8:=iY λx O=>nl O (i8 x λD=>yes (ak D.all) [])
theorem K3:cG (R k2 60) 486 A8:=jD λx O q h s _=>bT h λh=>jJ h s λD hw h=>by
 cases h;exact⟨[au D],[],_,⟨TC.refl _,trivial⟩,trivial,K0 hw,TC.refl _,trivial⟩
noncomputable def ah.onL(D:ah):List Int:=match D.st with
 |0=>D.on
 |_=>[]
def ah.baseW(D:ah):Str:=match D.st with
 |0=>match D.base with
  |1=>S "OFF"
  |_=>S "ON"
 |_=>S "ON"
def ah.ordT(D:ah):List T:=match D.st with
 |0=>[]
 |1=>[]
 |_=>[ao D.k]
def eJ(D:ah):T:= .inst 515 [(S "base",.str D.baseW),(S "on",ak D.onL),(S "off",ak D.off),(S "radio",.list (D.rows.map ak)),(S "locked",ak D.lk),(S "order",.list D.ordT),(S "words",.list [.str (S "View")])]
def jN:Stmt->Expr
 | .Assign (t::_) _ _=>t
 |_=>g6
theorem A9{c:aN}(h1:fu (R c n) e Q I sc O=some (.ok v,E))(h2:(R c n).as tg e v E=some (.ok (),O2)):
  ig (R c n) e tg (.ListComp Q I sc p) O=some (.ok (),O2):=by
 show bm (fu (R c n) e Q I sc) (λv=>(R c n).as tg e v) O=_;exact rwm _ (rwm _ rfl h2) (az h1)
theorem Ba{c:aN}(h1:fu (R c n) e Q I sc O=B):(R c (n+1)).ev (.ListComp Q I sc p) e O=B:=h1
noncomputable def cO{α:Type}(f:α->T)(n:Str)(A:List α):List (Str×V):=match A.getLast? with
 |none=>[]
 |some a=>[(n,.t (f a))]
theorem Bb{α:Type}(f:α->T)(n:Str)(A:List α)(a:α):cO f n (A++[a])=[(n,.t (f a))]:=by unfold cO;exact rwm _ rfl (pB)
theorem Bc{α:Type}(f:α->T)(n:Str)(A:List α):cO f n A=[]\/∃a,cO f n A=[(n,.t (f a))]:=by
 unfold cO
 cases A.getLast? with
 |none=>exact .inl rfl
 |some a=>exact .inr ⟨a,rfl⟩
theorem jO{α:Type}(d:α->T)(f:Str)(g:α->Option T)(F:T->MM (Option T))(O:af)(l:List α)(hn:l.length<=1000)
  (H:∀a∈l,∀w,(w=[]\/∃b,w=[(f,V.t (d b))])->F (d a) (O++[.ns false w])=some (.ok (g a),O++[.ns false [(f,.t (d a))]])):
  bZ F (l.map d) [] (O++[.ns false []])=some (.ok (l.filterMap g),O++[.ns false (cO d f l)]):=by
 have:=rm d (λA=>O++[.ns false (cO d f A)]) (λ_ a=>g a) F l [] [] (by simpa using hn) λp a q e=>by
  rw[Bb];exact H a (by rw[List.nil_append] at e;refine rwm _ ?_ e;simp) _ (Bc d f p)
 rw[AO] at this;exact this
def nt(D:ah):MO:= .cell (some (au D))
def g7(D:ah):af:=[.ns true [(S "head",.t (.dict D.firstT)),(S "rows",.own 2)],nt D,.list (D.rows.map aK)]
def kI(D:ah):af:=[.ns true [(S "head",.t (.dict D.firstT)),(S "rows",.own 2)],nt D,.fz (.list (D.rows.map aK))]
def ir(D:ah):af:=kI D++[.list (D.rows.map ak)]
def fy:AE:=⟨aV (at_ 41),0,[(S "shelf",1)],S "configuration_of"++nm ".<locals>.",523⟩
def Bd:List Stmt:=ba (at_ 41)
noncomputable def a7:Expr->List Expr
 | .Call f l _ _=>f::l
 | .ListComp e [⟨t,i,bi,_⟩] _ _=>e::t::i::bi
 | .BinOp a _ b _=>[a,b]
 | .BoolOp _ l _=>l
 | .UnaryOp _ a _=>[a]
 | .Compare a _ l _=>a::l
 | .Attribute o _ _=>[o]
 | .Subscript o i _=>[o,i]
 | .IfExp c a b _=>[c,a,b]
 | .List l _=>l
 | .Tuple l _ _=>l
 |_=>[]
def bV:Stmt->Expr
 | .Return (some e) _=>e
 | .Assign _ e _=>e
 | .Expr e _=>e
 | .If e _ _ _=>e
 | .For _ e _ _ _=>e
 | .While e _ _ _=>e
 |_=>g6
def gw(k:Nat):Expr:=aY (a7 (bV (an Bd 1))) (k+1)
set_option tactic.hygienic true in
theorem K4:ah.sh3 (λD=>(R k2 79).ex (an Bd 0) fy [.ns true [(S "head",.t (.dict D.firstT))],nt D])=ah.sh3 λD=>some (.ok .next,g7 D):=by lk
theorem K5:ah.sh (λD=>(R k2 77).ev (gw 0) fy (g7 D))=ah.sh λD=>some (.ok (.t (.str D.baseW)),g7 D):=by lk
theorem K6:ah.sh (λD=>(R k2 77).ev (gw 5) fy (ir D))=ah.sh λD=>some (.ok (.t (.list D.ordT)),ir D):=by lk
theorem K7:ah.sh (λD=>(R k2 77).ev (gw 6) fy (ir D))=ah.sh λD=>some (.ok (.t (.list [.str (S "View")])),ir D):=by lk
theorem rz{D:ah}{f fp p be}{ns:List Int}(ha:(be.all noStar&&decide (be.length<30))=true)(h1:(R k2 (n+1)).ev (.Name f fp) e O=some (.ok (.t (.top 472)),O))(h2:a8 (R k2 (n+1)) e be O=some (.ok [au D,.t (aK ns)],E))
  (hw:D.Wf)(hn:ns.Nodup)(hs:∀n∈ns,n∈D.all)(hl:ns.length<100):(R k2 (n+2)).ev (.Call (.Name f fp) be [] p) e O=some (.ok (.t (ak ns)),E):=
 aO ha h1 h2 (by lk) (cm rfl (A3 hw hn hs hl) rfl)
theorem rA{D:ah}(h:D.Wf):eQ D.m D.onL:=by
 rcases D with⟨m,rev,b,on,off,lk,rows,st,k⟩;cases st
 .exact h.on
 .exact⟨List.nodup_nil,λn hn=>nomatch hn⟩
theorem K8:ah.sh (λD=>a8 (R k2 76) fy (a7 (gw 1)).tail (g7 D))=ah.sh λD=>some (.ok [au D,.t (aK D.onL)],g7 D):=by lk
theorem K9:ah.sh (λD=>a8 (R k2 76) fy (a7 (gw 2)).tail (g7 D))=ah.sh λD=>some (.ok [au D,.t (aK D.off)],g7 D):=by lk
theorem Lc:ah.sh (λD=>a8 (R k2 76) fy (a7 (gw 4)).tail (ir D))=ah.sh λD=>some (.ok [au D,.t (aK D.lk)],ir D):=by lk
theorem Le(D:ah)(h:D.Wf):(R k2 77).ev (gw 1) fy (g7 D)=some (.ok (.t (ak D.onL)),g7 D):=
 have q:=ah.twoW D h K8
 rz rfl (by lk) q h (rA h).1 (rx (rA h)) (ry h (rA h))
theorem Lf(D:ah)(h:D.Wf):(R k2 77).ev (gw 2) fy (g7 D)=some (.ok (.t (ak D.off)),g7 D):=
 have q:=ah.twoW D h K9
 rz rfl (by lk) q h h.off.1 (rx h.off) (ry h h.off)
theorem Lg(D:ah)(h:D.Wf):(R k2 77).ev (gw 4) fy (ir D)=some (.ok (.t (ak D.lk)),ir D):=
 have q:=ah.twoW D h Lc
 rz rfl (by lk) q h h.lk.1 (rx h.lk) (ry h h.lk)
def iu:Expr->Scope
 | .ListComp _ _ sc _=>sc
 | .Lambda _ _ sc _=>sc
 |_=>aV (at_ 0)
noncomputable def kJ:Expr->List Expr
 | .ListComp _ [⟨_,_,bi,_⟩] _ _=>bi
 |_=>[]
def ja(e:AE)(x:Expr)(k:Nat):AE:=(eV e (iu x) k).getD e
def cP(c:aN)(n:Nat)(a:AE)(E:Expr)(k:Nat):T->MM (Option T):=dD (R c n) (ja a E k) (aY (a7 E) 0) (aY (a7 E) 1) (kJ E)
theorem rC:fr (.t t) O=some (.ok t,O):=rfl
theorem o6{m:MM V}(h:m O=some (.ok (.t t),M)):bm m (λv=>fr v) O=some (.ok t,M):=by refine a0 (az h) ?_;rfl
theorem Lh{D:ah}(h:D.Wf)(hs:eQ D.m a)(hw:w=[]\/∃b,w=[(S "row",V.t (aK b))]):
  cP k2 76 fy (gw 3) 3 (aK a) (kI D++[.ns false w])=some (.ok (some (ak a)),kI D++[.ns false [(S "row",.t (aK a))]]):=by
 refine kx (q:=true) (E:=kI D++[.ns false [(S "row",.t (aK a))]]) (O2:=kI D++[.ns false [(S "row",.t (aK a))]]) ?_ ?_ (λ_=>?_) (λe=>nomatch e)
 .refine oE w hw ?_ λb=>?_<;>lk
 .lk
 .refine o6 (rz ?_ ?_ ?_ h hs.1 (rx hs) (ry h hs))
  .rfl
  .lk
  .lk
theorem Li(D:ah)(h:D.Wf):(R k2 77).ev (gw 3) fy (g7 D)=some (.ok (.own 3),ir D):=by
 have hc:bZ (cP k2 76 fy (gw 3) 3) (D.rows.map aK) [] (kI D++[.ns false []])=some (.ok (D.rows.map ak),kI D++[.ns false (cO aK (S "row") D.rows)]):=by
  have:=jO aK (S "row") (λa=>some (ak a)) (cP k2 76 fy (gw 3) 3) (kI D) D.rows (by have:=h.few;exact lB this rfl) λa ha w hw=>Lh h (h.rows a ha) hw;refine a0 this ?_
  congr 2
  exact rwm _ rfl ln
 exact lU hc rfl rfl (by lk)
def Be(D:ah):af:=ir D++[.dead,.sh 515 [(S "base",.t (.str D.baseW)),(S "on",.t (ak D.onL)),(S "off",.t (ak D.off)),(S "radio",.own 3),(S "locked",.t (ak D.lk)),(S "order",.t (.list D.ordT)),(S "words",.t (.list [.str (S "View")]))]]
theorem Lj{D:ah}(h:D.Wf):br k2 80 524 [au D,.t (.dict D.firstT)] []=some (.ok (.own 5),Be D):=by
 have e0:=ah.twoW D h K5;have e5:=ah.twoW D h K6;have e6:=ah.twoW D h K7;refine dT (e:=fy) (b:=ba (at_ 41)) (O2:=Be D) (v:= .own 5) (by lk) (aW (ah.two3 D h K4) (ci (eh (aO (fv:= .t (.top 515)) (E:=ir D) rfl (by lk)
  (bx e0 (bx (Le D h) (bx (Lf D h) (bx (Li D h) (bx (Lg D h) (bx e5 (bx e6 cb))))))) ?_ ?_)))) rfl<;>lk
def Bf:b8:=jE λx y O=>nl O (i8 x λD=>aT y λu=>gu (u= .dict D.firstT) (yes (eJ D) []))
theorem vq(O:af):trunc 0 O=[]:=by unfold trunc;simp
theorem Lk:A7 (R k2 80) 524 Bf:=λbe O q h hv ho=>by
 revert hv;refine AI h λx y h hv=>bT h λh=>jJ h (hv _ (.head _)) λD hw h=>bY h λu h=>ac (ip h) λh1 h=>?_;cases h;refine⟨[au D,.t (.dict D.firstT)],[],.own 5,_,eJ D,_,_,_,⟨TC.refl _,VC.ofEq h1,trivial⟩,trivial,Lj hw,rfl,rfl,TC.refl _,?_⟩;rw[show([]:af).length=0 from rfl,vq];trivial
def k3:aN:=bp 486 A8 (bp 524 Bf k2)
theorem vu:aC k3 180:=aC.add vm (aC.add2 vm (vm.mono (by decide)) (by decide) Lk) (by decide) K3
def Ll:AE:=⟨aV (at_ 42),0,[(S "shelf",1)],S "configuration"++nm ".<locals>.",529⟩
theorem Lm:br k3 40 530 [au D] []=some (.ok (.t (eJ D)),[]):=by
 refine dT (e:=Ll) (b:=ba (at_ 42)) (E:=[.ns true [(S "index",.t (.int (-1)))],nt D]) (O2:=[.ns true [(S "index",.t (.int (-1))),(S "head",.t (.dict D.firstT))],nt D])
  (v:= .t (eJ D)) (by lk) (ci (jG (E:=[.ns true [(S "index",.t (.int (-1)))],nt D]) ?_ (aW ?_ (ci (eh (jH 524 (as:=[au D,.t (.dict D.firstT)]) (fU rfl) ?_)))))) rfl<;>lk
def Bg:b8:=iY λx O=>nl O (i8 x λD=>yes (eJ D) [])
theorem Ln:cG (R k3 40) 530 Bg:=jD λx O q h s _=>bT h λh=>jJ h s λD hw h=>by
 cases h;exact⟨[au D],[],_,⟨TC.refl _,trivial⟩,trivial,Lm,TC.refl _,trivial⟩
section
variable {c:aN}{n:Nat}{e:AE}{O E O2 O3:af}{r:aG}
def Bh(r:aG)(e:AE)(o i:Expr)(v:V):MM Unit:=bm (r.ev o e) λM=>bm (r.ev i e) λL=>bm (fr v) λt=>match M,L with
  | .own k,.t it=>bm (bw k) λQ=>lL Q k it t
  |_,_=>λ_=>none
theorem o7{N:List (aj×T)}(hi:mR (R c n) e o i v=Bh (R c n) e o i v)(h1:(R c n).ev o e O=some (.ok (.own k),E))(h2:(R c n).ev i e E=some (.ok (.t it),O2))(h3:fr v O2=some (.ok t,O3))
  (h4:O3[k]? =some (.dict N))(hk:cE it=some f)(hf:N.length<1000):(R c (n+1)).as (.Subscript o i p) e v O=some (.ok (),O3.set k (.dict (bj N f t))):=by
 show mR (R c n) e o i v O=_;refine rwm _ ?_ hi;unfold Bh;refine a0 (az h1) (rwm _ (rwm _ ?_ (az h3)) (az h2));show bm (bw k) (λQ=>lL Q k it t) O3=_;refine a0 (az (show bw k O3=some (.ok (.dict N),O3) by unfold bw;exact rwm _ rfl h4)) ?_;show bm (om (cE it)) (λf=>if aJ (N.length+1) then put k (.dict (bj N f t)) else λ_=>none) O3=_;refine rwm _ ?_ hk;show(if aJ (N.length+1) then put k (.dict (bj N f t)) else λ_=>none:MM Unit) O3=_;refine rwm _ (rwm _ ?_ (eb rfl)) (eX (lB hf rfl));rfl
set_option tactic.hygienic true in
theorem dW(hs:noStar tg=true)(hx:ig (R c n) e tg x=bm ((R c n).ev x e) λv=>lM (R c n) e tg v (fQ e tg x))(hw:fQ e tg x=some none)(h1:(R c n).ev x e O=some (.ok v,E))(h2:(R c n).as tg e v E=some (.ok (),O2)):
  (R c (n+1)).ex (.Assign [tg] x p) e O=some (.ok .next,O2):=by
 refine oX hs ?_;refine rwm _ (rwm _ (rwm _ ?_ hw) (az h1)) hx;exact h2
theorem nu(hi:mO (R c n) e M i=bm ((R c n).ev i e) λL=>bm (aE M) λt=>match L with
  | .t k=>om ((dQ t k).map .t)
  |_=>λ_=>none)(h1:(R c n).ev o e O=some (.ok M,E))(h2:(R c n).ev i e E=some (.ok (.t it),O2))(h3:vw M O2=some t)(h4:dQ t it=some u):(R c (n+1)).ev (.Subscript o i p) e O=some (.ok (.t u),O2):=by
 show bm ((R c n).ev o e) (λM=>mO (R c n) e M i) O=_;refine a0 (az h1) (rwm _ (rwm _ (rwm _ ?_ (az (show aE M O2=some (.ok t,O2) by unfold aE;exact rwm _ rfl h3))) (az h2)) hi);show om ((dQ t it).map V.t) O2=_;refine rwm _ ?_ h4;rfl
end
noncomputable def ax(l:List Int)(f:Int->Bool):List (aj×T):=l.map λn=>(.int n,.bool (f n))
theorem fV(l:List Int)(f:Int->Bool):(ax l f).length=l.length:=li ..
theorem rD{f g:Int->Bool}(h:∀n∈l,f n=g n):ax l f=ax l g:=ks λn hn=>by exact rwm _ rfl (h n hn)
theorem kO{f:Int->Bool}:bg (ax l f) (.int a)=if a∈l then some (.bool (f a)) else none:=by
 unfold bg ax
 induction l with
 |nil=>rfl
 |cons b l ih=>
  refine rwm _ (rwm _ ?_ m1) ot
  by_cases h:a=b
  .subst h;simp
  .have:((aj.int a)==(aj.int b))=false:=beq_eq_false_iff_ne.mpr λe=>h (aj.int.inj e);refine rwm _ ?_ this;dsimp only;refine a0 ih ?_;simp [h]
theorem vx{f:Int->Bool}(h:a∈l):bj (ax l f) (.int a) (.bool b)=ax l λn=>if n=a then b else f n:=by
 unfold bj;have h1:(ax l f).any (λG=>decide (G.1=aj.int a))=true:=by
  rw[List.any_eq_true];exact⟨(.int a,.bool (f a)),hK.mpr ⟨a,h,rfl⟩,by simp⟩
 refine rwm _ (rwm _ ?_ (eb rfl)) h1;unfold ax;refine a0 mc ?_;refine ks λn hn=>?_;dsimp only[Function.comp]
 by_cases e:n=a
 .exact rwm _ (rwm _ rfl (eb e)) (eb (by exact rwm _ rfl e))
 .exact rwm _ (rwm _ rfl (hW e)) (hW (λz=>e (aj.int.inj z)))
theorem nw{l:List (aj×T)}(h:k∉l.map (·.1)):bj l k t=l++[(k,t)]:=by
 unfold bj;have h1:l.any (λG=>decide (G.1=k))=false:=by
  rw[List.any_eq_false];intro x hx;simp;intro e;exact h (hK.mpr ⟨x,hx,e⟩)
 exact rwm _ (rwm _ rfl (hW (by decide))) h1
theorem Bi{f:Int->Bool}(h:a∉l):aj.int a∉(ax l f).map (·.1):=by
 intro hm;refine al (hK.mp hm) λx hx e=>?_;(refine ag (hK.mp hx) λn c1=>ac c1 λhn bo=>?_;clear c1;clear hx;subst bo);exact h (aj.int.inj e▸hn)
theorem rE{f:Int->Bool}:fM (.int a) (.dict (ax l f))=some (decide (a∈l)):=by
 show some ((bg (ax l f) (.int a)).isSome)=_;refine rwm _ ?_ kO
 by_cases h:a∈l<;>simp [h]
def bW(q:Bool):Str:=cond q (S "ON") (S "OFF")
def eY(b:Str)(on off:List Int)(y lk od o:T):T:= .inst 515 [(S "base",.str b),(S "on",ak on),(S "off",ak off),(S "radio",y),(S "locked",lk),(S "order",od),(S "words",o)]
noncomputable def bB(f:Int->Bool)(l:List Int)(b:Bool)(n:Int):Bool:=if n∈l then b else f n
theorem rF{f:Int->Bool}(ha:a∈ns):bj (ax ns (bB f A b)) (.int a) (.bool b)=ax ns (bB f (A++[a]) b):=by
 refine a0 (vx ha) ?_;refine rD λn hn=>?_;unfold bB
 by_cases e:n=a
 .clear ha;subst e;simp
 .simp [e]
theorem Bj{f:Int->Bool}(ha:a∉ns):ax ns (bB f A b)=ax ns (bB f (A++[a]) b):=rD λn hn=>by
 unfold bB;have:n≠a:=λe=>ha (e▸hn);simp [this]
noncomputable def lZ(x:T)(A:List Int):T:=match A.getLast? with
 |none=>x
 |some a=> .int a
theorem Lp(x:T)(A:List Int)(a:Int):lZ x (A++[a])= .int a:=by unfold lZ;exact rwm _ rfl (pB)
def iw:List Stmt:=ba (at_ 43)
def iy:AE:=⟨aV (at_ 43),0,[],S "starting_states"++nm ".<locals>.",537⟩
def dg(X C:T)(w:List (Str×V))(N:List (aj×T)):af:=[.ns true ([(S "numbers",.t X),(S "config",.t C),(S "before",.t .none),(S "states",.own 1)]++w),.dict N]
def gx(x l:T)(b:Bool):List (Str×V):=[(S "number",.t x),(S "listed",.t l),(S "is_on",.t (.bool b))]
section
variable {q:Bool}{on off:List Int}{y lk od o:T}{X:T}
set_option tactic.hygienic true in
theorem Lq{A:List Int}(hp:a∉A)(hl:A.length<100):cz k3 38 iy (an iw 1) 2 (.int a) (dg X (eY (bW q) on off y lk od o) (bE T.int (S "number") A) (ax A λ_=>q))=
  some (.ok .next,dg X (eY (bW q) on off y lk od o) (bE T.int (S "number") (A++[a])) (ax (A++[a]) λ_=>q)):=by
 rw[nq];have hw:=iq T.int (S "number") A;generalize bE T.int (S "number") A=w at hw;have h1:(R k3 38).as (dw (an iw 1)) iy (.t (.int a)) (dg X (eY (bW q) on off y lk od o) w (ax A λ_=>q))=some (.ok (),dg X (eY (bW q) on off y lk od o) [(S "number",.t (.int a))] (ax A λ_=>q)):=by
  refine oE w hw ?_ λb=>?_<;>lk
 refine(dI h1 (bv (lX (KJ ?_) (bv (lV (k:=1) (it:= .int a) (t:= .bool q) (N:=ax A λ_=>q) ?_ rfl ?_ rfl ?_))))).trans ?_
 .clear h1;cases q<;>lk
 .rw[fV];exact lB hl rfl
 .clear h1;cases q<;>lk
 .lk
 .refine rwm _ (rwm _ ?_ (nw (Bi hp))) (ek (hX 2));unfold ax;refine rwm _ ?_ i5;rfl
set_option tactic.hygienic true in
theorem Lr{ns:List Int}{f:Int->Bool}(hl:ns.length<100):cz k3 37 iy (an (dx (an iw 2)) 0) 2 (.int a) (dg X C (gx x L b) (ax ns (bB f A b)))=
  some (.ok .next,dg X C (gx (.int a) L b) (ax ns (bB f (A++[a]) b))):=by
 have h1:(R k3 37).as (dw (an (dx (an iw 2)) 0)) iy (.t (.int a)) (dg X C (gx x L b) (ax ns (bB f A b)))=some (.ok (),dg X C (gx (.int a) L b) (ax ns (bB f A b))):=by lk
 have ht:(R k3 36).test (bV (an (dx (an (dx (an iw 2)) 0)) 0)) iy (dg X C (gx (.int a) L b) (ax ns (bB f A b)))=some (.ok (decide (a∈ns)),dg X C (gx (.int a) L b) (ax ns (bB f A b))):=o0 (rE (f:=bB f A b)) (by lk)
 by_cases ha:a∈ns
 .rw[decide_eq_true ha] at ht;refine(dI h1 (bv (lW ht (bv (lV (k:=1) (it:= .int a) (t:= .bool b) (N:=ax ns (bB f A b)) (by rw[fV];exact Dn hl) rfl ?_ rfl ?_))))).trans ?_
  .lk
  .lk
  .refine rwm _ (rwm _ ?_ (rF ha)) (ek (hX 2));rfl
 .rw[decide_eq_false ha] at ht;refine(dI h1 (bv (iZ ht gm))).trans ?_;exact rwm _ (rwm _ rfl (Bj ha)) (ek (hX 2))
set_option tactic.hygienic true in
theorem Ls{ns:List Int}{f:Int->Bool}(hl:ns.length<100)(l:List Int):dC (cz k3 37 iy (an (dx (an iw 2)) 0) 2) (l.map T.int) (dg X C (gx x L b) (ax ns f))=
  some (.ok .next,dg X C (gx (lZ x l) L b) (ax ns (bB f l b))):=by
 have:=kE T.int (λA=>dg X C (gx (lZ x A) L b) (ax ns (bB f A b))) (cz k3 37 iy (an (dx (an iw 2)) 0) 2) l λA a B e=>by
  rw[Lp];exact Lr hl
 refine rwl _ ?_ this
 congr 2
set_option tactic.hygienic true in
theorem Lu{F:T->MM Fl}(h1:F a O=some (.ok .next,E))(h2:F b E=some (.ok .next,O2)):dC F [a,b] O=some (.ok .next,O2):=by
 show bm (F a) (λfl=>match fl with
  | .next=>dC F [b]
  | .ret v=>pm (.ret v)) O=_
 refine a0 (az h1) ?_
 show bm (F b) (λfl=>match fl with
  | .next=>dC F []
  | .ret v=>pm (.ret v)) E=_
 refine a0 (az h2) ?_;rfl
noncomputable def rG(ns:List Int):T:= .int (ns.getLast?.getD 0)
theorem Lv(h:ns≠[]):bE T.int (S "number") ns=[(S "number",.t (rG ns))]:=by
 unfold bE rG
 cases e:ns.getLast? with
 |none=>exact absurd (List.getLast?_eq_none_iff.mp e) h
 |some a=>rfl
set_option tactic.hygienic true in
theorem Bk{ns l:List Int}{f:Int->Bool}(hw:w=[]\/∃d b',w=[(S "listed",.t d),(S "is_on",.t (.bool b'))])(hl:ns.length<100):
  cz k3 38 iy (an iw 2) 2 (.tuple [ak l,.bool b]) (dg X C ([(S "number",.t x)]++w) (ax ns f))=
  some (.ok .next,dg X C (gx (lZ x l) (ak l) b) (ax ns (bB f l b))):=by
 have h1:(R k3 38).as (dw (an iw 2)) iy (.t (.tuple [ak l,.bool b])) (dg X C ([(S "number",.t x)]++w) (ax ns f))=some (.ok (),dg X C (gx x (ak l) b) (ax ns f)):=by
  refine KD w hw ?_ λd b'=>?_<;>lk
 exact(dI h1 (bv (gp (O2:=dg X C (gx x (ak l) b) (ax ns f)) (Ls hl l) (by lk)))).trans (by exact rwm _ rfl (ek (hX 2)))
noncomputable def startF(q:Bool)(on off:List Int)(n:Int):Bool:=if n∈off then false else if n∈on then true else q
theorem Lw{ns:List Int}(hn:ns.Nodup)(hl:ns.length<100)(h0:ns≠[]):br k3 40 538 [.t (ak ns),.t (eY (bW q) on off y lk od o)] []=some (.ok (.t (aS ns (startF q on off))),[]):=by
 have be:=kE T.int (λA=>dg (ak ns) (eY (bW q) on off y lk od o) (bE T.int (S "number") A) (ax A λ_=>q)) (cz k3 38 iy (an iw 1) 2) ns λA a B e=>Lq (o4 hn e) (by rw[e] at hl;simp at hl;exact pR hl);rw[Lv h0] at be;refine dT (e:=iy) (b:=iw) (E:=[.ns true [(S "numbers",.t (ak ns)),(S "config",.t (eY (bW q) on off y lk od o)),(S "before",.t .none)]])
  (O2:=dg (ak ns) (eY (bW q) on off y lk od o) (gx (lZ (lZ (rG ns) on) off) (ak off) false) (ax ns (startF q on off))) (v:= .own 1) (by lk)
  (aW (E:=dg (ak ns) (eY (bW q) on off y lk od o) [] []) ?_ (aW (gp (O2:=dg (ak ns) (eY (bW q) on off y lk od o) [] []) be ?_)
   (aW (gp (O2:=dg (ak ns) (eY (bW q) on off y lk od o) [(S "number",.t (rG ns))] (ax ns λ_=>q)) (Lu (Bk (w:=[]) (.inl rfl) hl) (Bk (l:=off) (b:=false) (.inr ⟨ak on,true,rfl⟩) hl)) ?_) (ci ?_)))) rfl<;>lk
theorem Lx:br k3 40 538 [.t (ak []),.t (eY (bW q) [] [] y lk od o)] []=some (.ok (.t (aS [] (startF q [] []))),[]):=by lk
end
noncomputable def gy(k:Nat):T->T
 | .inst _ fs=>((fs[k]?).map (·.2)).getD .none
 |_=> .none
def Ly:T->Str
 | .str s=>s
 |_=>S ""
theorem o8(ns:List Int):cy (ak ns)=ns:=jC ns
theorem Bl{on off ns:List Int}(hn:ns.Nodup)(hl:ns.length<100)(h0:ns≠[]\/(ns=[]/\on=[]/\off=[])):
  rK k3 40 538 [.t (ak ns),.t (eY (bW q) on off y lk od o)] []=yes (aS ns (startF q on off)) []:=nk (by
 rcases h0 with h0|⟨rfl,rfl,rfl⟩
 .exact Lw hn hl h0
 .exact Lx)
def k4:aN:=bp 530 Bg (bp 538 (rK k3 40 538) k3)
theorem o9:aC k4 220:=aC.add vu (aC.addK vu (vu.mono (by decide)) (by decide)) (by decide) Ln
noncomputable def ah.bq(D:ah):Bool:=match D.st with
 |0=>match D.base with
  |1=>false
  |_=>true
 |_=>true
theorem vy{D:ah}(h:D.Wf):eJ D=eY (bW D.bq) D.onL D.off (.list (D.rows.map ak)) (ak D.lk) (.list D.ordT) (.list [.str (S "View")]):=
 ah.twoW (G:=λD=>eY (bW D.bq) D.onL D.off (.list (D.rows.map ak)) (ak D.lk) (.list D.ordT) (.list [.str (S "View")])) D h (by lk)
noncomputable def ah.startF(D:ah):Int->Bool:=Internal.startF D.bq D.onL D.off
theorem Bm(h:eQ 0 ns):ns=[]:=by
 cases ns with
 |nil=>rfl
 |cons a l=>have:=h.2 a (.head _);exact nomatch this
theorem Bn{D:ah}(h:D.Wf)(e:D.all=[]):D.onL=[]/\D.off=[]:=by
 have h0:D.order=[]:=by
  unfold ah.all at e;exact(List.append_eq_nil_iff.mp e).1
 have hm:D.m=0:=by refine rwl _ (rwm _ ?_ h0) (gv D);rfl
 have h1:=rA h;have h2:=h.off;rw[hm] at h1 h2;exact⟨Bm h1,Bm h2⟩
def pd:AE:=⟨aV (at_ 53),0,[(S "states",2),(S "kept",1)],S "layer_states"++nm ".<locals>.",587⟩
def vz:List Stmt:=ba (at_ 53)
def g8(D:ah)(K F:T):af:=[.ns true [(S "shelf",au D)],.cell (some (.t K)),.cell (some (.t F))]
def l0:Expr:=aY (a7 (bV (an vz 1))) 1
theorem Bo(l:List Int)(f:Int->Bool):d7 (aS l f)=some (l.map T.int):=by
 show some ((l.map λn=>(aj.int n,T.bool (f n))).map λp=>dN p.1)=_;refine rwm _ ?_ mc;rfl
theorem nx{c:aN}(h1:(R c n).ev a e O=some (.ok (.t t),E))(h2:(R c n).ev b e E=some (.ok (.t u),O2)):(R c (n+1)).ev (.Tuple [a,b] b1 p) e O=some (.ok (.t (.tuple [t,u])),O2):=by
 show bm (a8 (R c n) e [a,b]) (λvs=>bm (eU fr vs) λts=>if aJ ts.length then pm (V.t (T.tuple ts)) else λ_=>none) O=_;refine a0 (az (bx h1 (bx h2 cb))) ?_;show(if aJ 2 then pm (V.t (.tuple [t,u])) else λ_=>none:MM V) O2=_;refine rwm _ (rwm _ ?_ (eb rfl)) (eX (by decide));rfl
theorem Lz{c:aN}(h1:(R c n).ev a e O=some (.ok (.t t),O))(h2:(R c n).ev b e O=some (.ok (.t u),O)):(R c (n+1)).ev (.Tuple [a,b] b1 p) e O=some (.ok (.t (.tuple [t,u])),O):=nx h1 h2
theorem LA{c:aN}{n:Nat}{e:AE}{O:af}{o:Expr}{D p:Pos}{be:List Expr}{K d kt:T}{kk:List (aj×T)}{f:aj}(ha:(D.endLine==p.line&&be.all noStar&&decide (be.length<20)&&fN o)=true)(h1:(R c n).ev o e O=some (.ok (.t K),O))(m:strip K= .dict kk)(hk:cE kt=some f)
  (h2:a8 (R c n) e be O=some (.ok [.t kt,.t d],O)):(R c (n+1)).ev (.Call (.Attribute o (S "get") D) be [] p) e O=some (.ok (.t ((bg kk f).getD d)),O):=by
 refine kn (t:= .dict kk) (L:=1) (k:=3) ha h1 ?_ ?_ rfl (by decide) h2 ?_
 .show qh _ (strip K) _=_;refine rwm _ ?_ m;rfl
 .show some (strip K)=_;exact rwm _ rfl m
 .show bm (aE (.t K)) (λt=>tG t [.t kt,.t d]) _=_;refine a0 (az (show aE (.t K) O=some (.ok (.dict kk),O) by unfold aE vw;dsimp only;exact rwm _ rfl m)) ?_;show bm (om (cE kt)) (λk=>pm (match bg kk k with|some t=>V.t t|none=> .t d)) O=_;refine rwm _ ?_ hk;show pm (match bg kk f with|some t=>V.t t|none=> .t d) O=_;cases bg kk f<;>rfl
section
variable {D:ah}{K:T}{kk:List (aj×T)}{G:Int->Option Bool}{f:Int->Bool}
theorem LB(m:strip K= .dict kk)(B:∀n,bg kk (.int n)=(G n).map T.bool){a:Int}(ha:a∈D.all){w:List (Str×V)}(hw:w=[]\/∃b,w=[(S "number",V.t (.int b))]):
  cP k4 36 pd l0 3 (.int a) (g8 D K (aS D.all f)++[.ns false w])=some (.ok (some (.tuple [.int a,.bool ((G a).getD (f a))])),g8 D K (aS D.all f)++[.ns false [(S "number",.t (.int a))]]):=by
 have e:(bg kk (.int a)).getD (.bool (f a))= .bool ((G a).getD (f a)):=by rw[B];cases G a<;>rfl
 refine rwl _ ?_ e;refine kx (q:=true) (E:=g8 D K (aS D.all f)++[.ns false [(S "number",.t (.int a))]]) ?_ rfl (λ_=>o6 (Lz ?_ (LA (kt:= .int a) rfl ?_ m rfl (nh ?_ (nh (KH (t:=aS D.all f) (it:= .int a) (u:= .bool (f a)) ?_ ?_) cb))))) (λe=>nomatch e)
 .refine oE w hw ?_ λb=>?_<;>lk
 .lk
 .lk
 .lk
 .show bg (ax D.all f) (.int a)=_;exact rwm _ (rwm _ rfl (eb ha)) kO
 .lk
theorem LF(l:List Int)(f:Int->Bool):fo (l.map λn=> .tuple [.int n,.bool (f n)])=some (ax l f):=by
 induction l with
 |nil=>rfl
 |cons a l ih=>
  show(match cE (.int a),fo (l.map λn=> .tuple [.int n,.bool (f n)]) with
   |some k,some l=>some ((k,T.bool (f a))::l)
   |_,_=>none)=_
  refine rwm _ ?_ ih;rfl
theorem Bp{f:Int->Bool}:∀(l A:List Int),(A++l).Nodup->(ax l f).foldl (λd p=>bj d p.1 p.2) (ax A f)=ax (A++l) f
 |[],A,_=>by rw[List.append_nil];rfl
 |a::l,A,h=>by
  show(ax l f).foldl (λd p=>bj d p.1 p.2) (bj (ax A f) (.int a) (.bool (f a)))=_;have ha:a∉A:=λhm=>by
   rw[List.nodup_append] at h;exact h.2.2 a hm a (.head _) rfl
  rw[nw (Bi ha),show ax A f++[(aj.int a,T.bool (f a))]=ax (A++[a]) f by unfold ax;rw[List.map_append];rfl,Bp l (A++[a]) (by rw[List.append_assoc];exact h),List.append_assoc];rfl
theorem vA{l:List Int}{g:Int->Bool}{O:af}(hn:l.Nodup)(hl:l.length<100):jr "dict" (.list (l.map λn=> .tuple [.int n,.bool (g n)])) O=some (.ok (.own O.length),O++[.dict (ax l g)]):=by
 show bm (om (fo (l.map λn=> .tuple [.int n,.bool (g n)]))) (λN=>if aJ N.length then bP (.dict (N.foldl (λd p=>bj d p.1 p.2) [])) else λ_=>none) O=_;rw[LF];show(if aJ (ax l g).length then bP (.dict ((ax l g).foldl (λd p=>bj d p.1 p.2) [])) else λ_=>none:MM V) O=_;rw[fV,eX (lB (Nat.le_of_lt hl) rfl),if_pos rfl];have:=Bp (f:=g) l [] (by simpa using hn);refine rwm _ ?_ (show(ax l g).foldl (λd p=>bj d p.1 p.2) []=ax l g from this);rfl
def kQ(D:ah)(G:Int->Option Bool):List T:=D.all.map λn=> .tuple [.int n,.bool ((G n).getD (D.startF n))]
theorem Bq(h:D.Wf)(m:strip K= .dict kk)(B:∀n,bg kk (.int n)=(G n).map T.bool):br k4 40 588 [au D,.t K] []=some (.ok (.t (aS D.all λn=>(G n).getD (D.startF n))),[]):=by
 have hl:D.all.length<100:=by have:=jM h;exact lC this rfl
 have c:bZ (cP k4 36 pd l0 3) (D.all.map T.int) [] (g8 D K (aS D.all D.startF)++[.ns false []])=some (.ok (kQ D G),g8 D K (aS D.all D.startF)++[.ns false (cO T.int (S "number") D.all)]):=by
  have:=jO T.int (S "number") (λn=>some (.tuple [.int n,.bool ((G n).getD (D.startF n))])) (cP k4 36 pd l0 3) (g8 D K (aS D.all D.startF)) D.all (lB (lv hl) rfl) λa ha w hw=>LB m B ha hw;refine a0 this ?_;unfold kQ
  congr 2
  exact rwm _ rfl ln
 have hd:(R k4 37).call (.t (.typ "dict")) [.own 3] (g8 D K (aS D.all D.startF)++[.list (kQ D G)])=some (.ok (.own 4),g8 D K (aS D.all D.startF)++[.list (kQ D G)]++[.dict (ax D.all λn=>(G n).getD (D.startF n))]):=
  show jr "dict" (.list (kQ D G)) (g8 D K (aS D.all D.startF)++[MO.list (kQ D G)])=_ from vA (g:=λn=>(G n).getD (D.startF n)) (lY h) hl
 refine dT (e:=pd) (b:=vz) (E:=[.ns true [(S "shelf",au D)],.cell (some (.t K)),.cell none])
  (O2:=g8 D K (aS D.all D.startF)++[.list (kQ D G)]++[.dict (ax D.all λn=>(G n).getD (D.startF n))]) (v:= .own 4) (by lk)
  (aW (E:=g8 D K (aS D.all D.startF)) (vf (v:= .t (aS D.all D.startF)) (by lk) (jH 538 (as:=[.t (ak D.all),.t (eJ D)]) ?_ ?_) ?_)
   (ci (eh (aO (fv:= .t (.typ "dict")) (vs:=[.own 3]) (E:=g8 D K (aS D.all D.startF)++[.list (kQ D G)]) rfl (by lk) (bx (lU c rfl rfl ?_) cb) ?_ hd)))) rfl
 .refine rwm _ ?_ (vy h);refine Bl (lY h) hl ?_
  by_cases e:D.all=[]
  .exact .inr ⟨e,Bn h e⟩
  .exact .inl e
 .lk
 .lk
 .show _=mP 3 3 (bZ (cP k4 36 pd l0 3) (D.all.map T.int) [] _);refine rwl _ ?_ (ai (Bo D.all D.startF));lk
 .lk
end
theorem LG{l:List Int}{st:Int->Bool}(h:cN (.t (.box (.sts l st) t))):l.Nodup/\t=aS l st:=(kj (kl h)).1
def kR{α:Type}(t:T)(f:List Int->(Int->Bool)->Option α):Option α:=j4 t λg _=>xq g f
@[elab_as_elim] theorem vB{α:Type}{q:α}{f:List Int->(Int->Bool)->Option α}{P:T->Prop}(h:kR t f=some q)(s:cN (.t t))(k:∀l st,l.Nodup->f l st=some q->P (.box (.sts l st) (aS l st))):P t:=by
 revert s;refine jm h λg X h=>xr h λl st h s=>ac (LG s) λhw e=>?_;clear s;subst e;exact k l st hw h
@[elab_as_elim] theorem vC{α:Type}{q:α}{f:List Int->(Int->Bool)->Option α}{P:V->Prop}(h:aT v (λt=>kR t f)=some q)(s:cN v)(k:∀l st,l.Nodup->f l st=some q->P (.t (.box (.sts l st) (aS l st)))):P v:=by
 revert s;refine bY h λt h s=>vB h s k
def l5:b8:=jE λx y O=>nl O (i8 x λD=>aT y λt=>d4 (pY t (yes (.box (.sts D.all D.startF) (aS D.all D.startF)) [])) (kR t λl st=>gu (l=D.all) (yes (.box (.sts D.all st) (aS D.all st)) [])))
theorem Br:cG (R k4 40) 588 l5:=nb λx y O q h s s2 _=>bT h λh=>jJ h s λD hw h=>by
 revert s2;refine bY h λt h s2=>gM h (λh=>to h λh=>?_) (λh=>vB h s2 λl st hn h=>?_)
 .cases h;refine⟨[au D,.t (.dict [])],[],_,⟨TC.refl _,TC.refl _,trivial⟩,trivial,Bq (G:=λ_=>none) hw rfl (λ_=>rfl),?_,trivial⟩;exact TC.box (TC.refl _) ⟨lY hw,rfl⟩
 .refine ac (ip h) λhl b5=>?_;clear h;subst hl;clear h;cases b5;have e:aS D.all (λn=>((if n∈D.all then some (st n) else none:Option Bool)).getD (D.startF n))=aS D.all st:=by
   show T.dict (ax _ _)=T.dict (ax _ _);rw[rD λn hn=>?_];refine rwm _ ?_ (eb hn);rfl
  have hr:=Bq (K:= .box (.sts D.all st) (aS D.all st)) (kk:=ax D.all st) (G:=λn=>if n∈D.all then some (st n) else none) hw rfl (λn=>by
   refine a0 kO ?_
   by_cases hn:n∈D.all
   .refine a0 (eb hn) (rwm _ ?_ (eb hn));rfl
   .refine a0 (hW hn) (rwm _ ?_ (hW hn));rfl)
  rw[e] at hr;exact⟨[au D,.t (.box (.sts D.all st) (aS D.all st))],[],_,⟨TC.refl _,TC.refl _,trivial⟩,trivial,hr,TC.box (TC.refl _) ⟨hn,rfl⟩,trivial⟩
noncomputable def ny(l:List UInt8):Str:=⟨(l.map λc=>c.toNat).toArray⟩
def kT:List (List UInt8):=[[97],[],[98,32,99],[233],[122],cj]
def pe(n:Int)(b:Bool)(l:Str):Str:=dp n++cond b (S " on ") (S " off ")++l
def gz:List Str->Str
 |[]=>S "none"
 |l=>Txt.join (S "\n") l
theorem LH:kT.map (λl=>br av 40 111 [.t (.bytes l.toArray)] [])=kT.map λl=>some (.ok (.t (.str (ny l))),[]):=by lk
theorem Bs(n:Nat):gL n∈kT:=by
 rcases n with _|_|_|_|n<;>first|decide|exact(by decide:gL 4∈kT)
theorem pf(D:ah)(n:Int):D.labN n∈kT:=by
 unfold ah.labN
 by_cases h:D.st=2/\n=D.k
 .refine rwm _ ?_ (eb h);decide
 .refine rwm _ ?_ (hW h);exact Bs _
theorem Bt{l:List UInt8}(h:l∈kT):rK av 40 111 [.t (.bytes l.toArray)] []=yes (.str (ny l)) []:=nk (gq LH h)
theorem Bu{s:Str}{l:List Str}(h1:s.length<=10)(h2:l.length<=100)(h3:∀x∈l,x.length<=100):JoinOk s l=true:=by
 have f:∀(l:List Str)(k:Nat),(∀x∈l,x.length<=100)->l.foldl (λa (x:Str)=>a+x.length+s.length) k<=k+110*l.length:=by
  intro l
  induction l with
  |nil=>intro k _;simp
  |cons a l ih=>
   intro k h;have:=ih (k+a.length+s.length) λx hx=>h x (.tail _ hx);refine rwm _ (rwm _ ?_ r8) List.foldl_cons;exact wB this (Nat.add_le_add (h a (.head _)) h1)
 have:=f l 0 h3;unfold JoinOk;rw[List.foldl_toArray];show(!decide (_>sizeLine))=true;refine rwm _ ?_ (le (DD h2 this ms));rfl
section
variable {c:aN}{n:Nat}{e:AE}{O E O2 O3:af}{r:aG}
theorem dX(h:vw v O=some t):aE v O=some (.ok t,O):=by unfold aE;exact rwm _ rfl h
theorem LJ{U:List T}(h:vw v O=some (.list U))(hl:U.length<1000):(R c (n+1)).call (.t (.bi "len")) [v] O=some (.ok (.t (.int (U.length:Int))),O):=by
 show bm (aE v) (λt=>oq "len" t) O=_;refine a0 (az (dX h)) ?_;show om ((jq (.list U)).map λ(k:Nat)=>V.t (.int (k:Int))) O=_;have:jq (.list U)=some U.length:=by
  show d4 (ib U.length) _=_;unfold ib;refine rwm _ (rwm _ ?_ (eb rfl)) (eX (Nat.le_of_succ_le hl));rfl
 refine rwm _ ?_ this;rfl
theorem Bv{U:List (aj×T)}(h:vw v O=some (.dict U))(hl:U.length<1000):(R c (n+1)).call (.t (.bi "len")) [v] O=some (.ok (.t (.int (U.length:Int))),O):=by
 show bm (aE v) (λt=>oq "len" t) O=_;refine a0 (az (dX h)) ?_;show om ((jq (.dict U)).map λ(k:Nat)=>V.t (.int (k:Int))) O=_;have:jq (.dict U)=some U.length:=by
  show d4 (ib U.length) _=_;unfold ib;refine rwm _ (rwm _ ?_ (eb rfl)) (eX (Nat.le_of_succ_le hl));rfl
 refine rwm _ ?_ this;rfl
theorem pg{i:Int}(h:i.natAbs<1000000):(R c (n+1)).call (.t (.typ "str")) [.t (.int i)] O=some (.ok (.t (.str (dp i))),O):=by
 show bm (aE (.t (.int i))) (λt=>jr "str" t) O=_;refine a0 (az (dX rfl)) ?_;show d4 ((if i.natAbs<1000000 then pm (V.t (.str (dp i))) else λ_=>none:MM V) O) _=_;refine rwm _ ?_ (eb h);rfl
theorem jb{x y:Str}(h:x.length+y.length<=1000):eG .Add (.str x) (.str y) O=some (.ok (.t (.str (x++y))),O):=by
 show(if aJ (x.length+y.length) then pm (V.t (.str (x++y))) else λ_=>none:MM V) O=_;refine rwm _ (rwm _ ?_ (eb rfl)) (eX h);rfl
theorem LK(l:List Str):jp (l.map T.str)=some l:=by
 induction l with
 |nil=>rfl
 |cons a l ih=>
  show(jp (l.map T.str)).map (a::·)=_;refine rwm _ ?_ ih;rfl
theorem Bw{l:List Str}(h:vw v O=some (.list (l.map T.str)))(hj:JoinOk s l=true):iL 2 (.t (.str s)) [v] O=some (.ok (.t (.str (Txt.join s l))),O):=by
 show bm (aE (.t (.str s))) (λt=>tF t [v]) O=_;refine a0 (az (dX rfl)) ?_;show bm (aE v) (λt O=>fK t λU=>bm (om (jp U)) (λl=>if JoinOk s l then pm (V.t (.str (Txt.join s l))) else λ_=>none) O) O=_;refine a0 (az (dX h)) ?_;show bm (om (jp (l.map T.str))) (λl=>if JoinOk s l then pm (V.t (.str (Txt.join s l))) else λ_=>none) O=_;rw[LK];show(if JoinOk s l then pm (V.t (.str (Txt.join s l))) else λ_=>none:MM V) O=_;refine rwm _ (rwm _ ?_ (eb rfl)) hj;rfl
theorem LL(h1:vw v O=some (.int a))(h2:vw u O=some (.int b)):dP .Gt v u O=some (.ok (decide (a>b)),O):=by
 show bm (aE v) (λx=>bm (aE u) λy=>om (gQ .Gt x y)) O=_;refine a0 (az (dX h1)) (rwm _ ?_ (az (dX h2)));rfl
theorem jP{x y:Str}(h1:(R c n).ev a e O=some (.ok (.t (.str x)),O))(h2:(R c n).ev b e O=some (.ok (.t (.str y)),O))(h:x.length+y.length<=1000):(R c (n+1)).ev (.BinOp a .Add b p) e O=some (.ok (.t (.str (x++y))),O):=go h1 h2 rfl rfl (jb h)
theorem ph{i:Int}(h:i.natAbs<1000000)(hx:r.ev x e O=jr "str" (.int i) O):r.ev x e O=some (.ok (.t (.str (dp i))),O):=hx.trans (by
 show d4 ((if i.natAbs<1000000 then pm (V.t (.str (dp i))) else λ_=>none:MM V) O) _=_;refine rwm _ ?_ (eb h);rfl)
theorem vD(h:(R c n).test t e O=some (.ok q,O))(h2:(R c n).ev (cond q a b) e O=B):(R c (n+1)).ev (.IfExp t a b p) e O=B:=u8 h h2
theorem vE(h4:dQ t it=some (.bool q))(h:r.test x e O=bm (om ((dQ t it).map V.t)) (λv=>fO v) O):r.test x e O=some (.ok q,O):=h.trans (by refine rwm _ ?_ h4;rfl)
set_option tactic.hygienic true in
theorem vF{D p B:Pos}{U:List T}(ha:(D.endLine==p.line&&[x].all noStar&&decide ([x].length<20)&&fN o)=true)(h1:(R c n).ev o e O=some (.ok (.own i),O))(hi:O[i]? =some (.list U))(hx:(R c n).ev x e O=some (.ok (.t u),O))(hl:U.length<1000)(h3:O.set i (.list (U++[u]))=O3):
  (R c (n+2)).ex (.Expr (.Call (.Attribute o (S "append") D) [x] [] p) B) e O=some (.ok .next,O3):=by
 refine jF rfl (kn (t:= .list U) (L:=2) (k:=5) ha h1 ?_ ?_ rfl (by decide) (bx hx cb) (A2 hi hl h3))
 .show bm (bw i) (tI _) O=_;refine a0 (az (show bw i O=some (.ok (.list U),O) by unfold bw;exact rwm _ rfl hi)) ?_;rfl
 .show O[i]?.bind xz=_;refine rwm _ ?_ hi;rfl
theorem Bx(a:Addr){be:List Expr}(h2:c a as []=some (some (.ok t,[])))(hv:a8 (R c (n+1)) e be O=some (.ok as,O))(ha:(be.all noStar&&decide (be.length<30))=true)
  (h1:((R c (n+1)).ev (.Name f fp) e O,kb (Pc c) (.t (.top a)) O,iN O as ⟨[],[]⟩)=(some (.ok (.t (.top a)),O),some (.ok (),O),some (as,⟨[],[]⟩))):(R c (n+2)).ev (.Call (.Name f fp) be [] p) e O=some (.ok (.t t),O):=
 aO ha (hQ Prod.fst h1) hv (hQ (λx=>x.2.1) h1) (cm (hQ (λx=>x.2.2) h1) h2 rfl)
end
def LM:AE:=⟨aV (at_ 50),1,[],S "rows_text"++nm ".<locals>.",570⟩
def kU(rows:List Str):af:=[.list (rows.map T.str),.ns true [(S "rows",.own 0)]]
theorem LN{rows:List Str}(hl:rows.length<=100)(hx:∀x∈rows,x.length<=100):br av 20 571 [.own 0] [.list (rows.map T.str)]=some (.ok (.t (.str (gz rows))),[.list (rows.map T.str)]):=by
 refine dT (e:=LM) (b:=ba (at_ 50)) (E:=kU rows) (O2:=kU rows) (v:= .t (.str (gz rows))) (by lk) (ci (eh ?_)) rfl
 cases rows with
 |nil=>lk
 |cons a l=>
  refine u9 (E:=kU (a::l)) (ey (v:= .t (.int (((a::l).map T.str).length:Nat))) (u:= .t (.int 0)) (E:=kU (a::l)) (O2:=kU (a::l)) (aO (fv:= .t (.bi "len")) (vs:=[.own 0]) (E:=kU (a::l)) rfl ?_ ?_ ?_ (LJ (n:=14) rfl ?_)) ?_ ((LL rfl rfl).trans ?_))
   (kn (E:=kU (a::l)) (O2:=kU (a::l)) (M:= .t (.str (S "\n"))) (t:= .str (S "\n")) (L:=0) (k:=2) (vs:=[.own 0]) ?_ ?_ ?_ rfl rfl rfl ?_ (Bw rfl (Bu (by decide) hl hx)))
  .lk
  .lk
  .lk
  .rw[List.length_map];exact lC hl rfl
  .lk
  .exact rwm _ rfl (ii (by simp only[List.map_cons,List.length_cons];exact Int.natCast_pos.mpr (Nat.succ_pos _)))
  .rfl
  all_goals lk
theorem By{rows:List Str}(hl:rows.length<=100)(hx:∀x∈rows,x.length<=100):rK av 20 571 [.own 0] [.list (rows.map T.str)]=yes (.str (gz rows)) [.list (rows.map T.str)]:=nk (LN hl hx)
def k5:aN:=bp 588 l5 (bp 571 (rK av 20 571) (bp 111 (rK av 40 111) k4))
theorem Bz:aC k5 260:=aC.add o9 (aC.addK aC.start (aC.addK aC.start (o9.mono (by decide)) (by decide)) (by decide)) (by decide) Br
def rH:AE:=⟨aV (at_ 54),0,[],S "layers_text"++nm ".<locals>.",594⟩
def kW:List Stmt:=ba (at_ 54)
def aF(l:List Int)(g:Int->Bool):T:= .box (.sts l g) (aS l g)
def iz(D:ah)(K:T)(g:Int->Bool)(w:List (Str×V))(rows:List Str):af:=[.ns true ([(S "shelf",au D),(S "kept",.t K),(S "states",.t (aF D.all g)),(S "rows",.own 1)]++w),.list (rows.map T.str)]
def bQ(D:ah)(g:Int->Bool)(n:Int):Str:=pe n (g n) (ny (D.labN n))
theorem LP:∀i:Nat,i<32->(dp (i:Int)).length<=10:=by decide
theorem g9(h:0<=n/\n<=31):(dp n).length<=10:=by
 (refine ag (o2 h.1) λk bo=>?_;subst bo);exact LP k (Nat.lt_succ_of_le (Int.ofNat_le.mp h.2))
theorem pi:∀l∈kT,(ny l).length<=10:=by decide
theorem jc(x y:Str):(x++y).length=x.length+y.length:=by
 show(x.cps++y.cps).size=_;refine a0 Array.size_append ?_;rfl
theorem BA{l:Str}(h1:(dp n).length<=10)(h2:l.length<=10):(pe n b l).length<=30:=by
 unfold pe;rw[jc,jc];have:(cond b (S " on ") (S " off ")).length<=5:=by cases b<;>decide
 exact lB (Nat.add_le_add (Nat.add_le_add h1 this) h2) rfl
theorem BB{D:ah}(h:D.Wf){g:Int->Bool}(hn:n∈D.all):(bQ D g n).length<=30:=BA (g9 (by have:=vp h hn;exact sT this)) (pi _ (pf D n))
set_option tactic.hygienic true in
theorem LQ{D:ah}(h:D.Wf){K:T}{g:Int->Bool}{A:List Int}{a:Int}(ha:a∈D.all)(hl:A.length<100):
  cz k5 38 rH (an kW 2) 2 (.int a) (iz D K g (bE T.int (S "number") A) (A.map (bQ D g)))=some (.ok .next,iz D K g (bE T.int (S "number") (A++[a])) ((A++[a]).map (bQ D g))):=by
 rw[nq];have hw:=iq T.int (S "number") A;generalize bE T.int (S "number") A=w at hw;have h1:(R k5 38).as (dw (an kW 2)) rH (.t (.int a)) (iz D K g w (A.map (bQ D g)))=some (.ok (),iz D K g [(S "number",.t (.int a))] (A.map (bQ D g))):=by
  refine oE w hw ?_ λb=>?_<;>lk
 have v:=vp h ha;have l1:=g9 (n:=a) (sT v);have C:(cond (g a) (S " on ") (S " off ")).length<=5:=by cases g a<;>decide
 refine(dI (O2:=iz D K g [(S "number",.t (.int a))] ((A++[a]).map (bQ D g))) h1 (bv (vF (i:=1) (U:=(A.map (bQ D g)).map T.str) (u:= .str (bQ D g a)) rfl ?_ rfl (jP (jP (ph (i:=a) (wC v) ?_) (vD (vE (t:=aS D.all g) (it:= .int a) (q:=g a) ?_ ?_) ?_) (lB (Nat.add_le_add l1 C) rfl))
  (Bx 111 (Bt (pf D a)) (nh (jH 493 (AZ h ha) ?_) cb) rfl ?_) ?_) (by rw[List.length_map,List.length_map];exact lB hl rfl) ?_))).trans ?_
 .lk
 .lk
 .show bg (ax D.all g) (.int a)=_;exact rwm _ (rwm _ rfl (eb ha)) kO
 .lk
 .cases g a<;>lk
 .lk
 .lk
 .rw[jc];exact lB (Nat.add_le_add (Nat.add_le_add l1 C) (pi _ (pf D a))) rfl
 .unfold iz;refine rwm _ (rwm _ ?_ i5) i5;rfl
 .exact rwm _ rfl (ek (hX 2))
theorem BC{D:ah}(h:D.Wf){K:T}{g:Int->Bool}(m:l5 [au D,.t K] []=yes (aF D.all g) []):br k5 40 595 [au D,.t K] []=some (.ok (.t (.str (gz (D.all.map (bQ D g))))),[]):=by
 have bb:=jM h;have hw:=iq T.int (S "number") D.all;have hl:=kE T.int (λA=>iz D K g (bE T.int (S "number") A) (A.map (bQ D g))) (cz k5 38 rH (an kW 2) 2) D.all λA a B e=>LQ h (by refine rwm _ ?_ e;simp) (by rw[e] at bb;simp at bb;exact sU bb);generalize bE T.int (S "number") D.all=w at hw hl;refine dT (e:=rH) (b:=kW) (E:=[.ns true [(S "shelf",au D),(S "kept",.t K)]]) (O2:=iz D K g w (D.all.map (bQ D g))) (v:= .t (.str (gz (D.all.map (bQ D g))))) (by lk)
  (aW (E:=[.ns true [(S "shelf",au D),(S "kept",.t K),(S "states",.t (aF D.all g))]]) (vf (v:= .t (aF D.all g)) (by lk) (jH 588 (as:=[au D,.t K]) m ?_) ?_)
   (aW (E:=iz D K g [] []) ?_ (aW (gp (O2:=iz D K g [] []) hl ?_)
    (ci (eh (aO (fv:= .t (.top 571)) (vs:=[.own 1]) (E:=iz D K g w (D.all.map (bQ D g))) rfl ?_ ?_ ?_ (cm (p:=⟨[1],[.list ((D.all.map (bQ D g)).map T.str)]⟩) (bi:=[.own 0]) (X:=[.list ((D.all.map (bQ D g)).map T.str)]) rfl ?_ rfl))))))) rfl
 .lk
 .lk
 .lk
 .lk
 .refine oE w hw ?_ λb=>?_<;>lk
 .refine oE w hw ?_ λb=>?_<;>lk
 .lk
 .exact By (by rw[List.length_map];exact lB bb rfl) (λx hx=>by
   (refine ag (hK.mp hx) λn c1=>ac c1 λhn bo=>?_;clear c1;clear hx;subst bo);have:=BB (g:=g) h hn;exact lB this rfl)
def ah.txt(D:ah)(g:Int->Bool):Str:=gz (D.all.map (bQ D g))
def kX:b8:=jE λx y O=>nl O (i8 x λD=>aT y λt=>d4 (pY t (yes (.str (D.txt D.startF)) [])) (kR t λl st=>gu (l=D.all) (yes (.str (D.txt st)) [])))
theorem LS:cG (R k5 40) 595 kX:=nb λx y O q h s s2 _=>bT h λh=>jJ h s λD hw h=>by
 revert s2;refine bY h λt h s2=>gM h (λh=>to h λh=>?_) (λh=>vB h s2 λl st hn h=>?_)
 .cases h;exact⟨[au D,.t (.dict [])],[],_,⟨TC.refl _,TC.refl _,trivial⟩,trivial,BC hw rfl,TC.refl _,trivial⟩
 .refine ac (ip h) λhl b5=>?_;clear hn h;subst hl;clear h;cases b5;exact⟨[au D,.t (aF D.all st)],[],_,⟨TC.refl _,TC.refl _,trivial⟩,trivial,BC hw (fU rfl),TC.refl _,trivial⟩
noncomputable def dY{α:Type}(f:α->List (Str×V))(A:List α):List (Str×V):=match A.getLast? with
 |none=>[]
 |some a=>f a
theorem BD{α:Type}(f:α->List (Str×V))(A:List α)(a:α):dY f (A++[a])=f a:=by unfold dY;exact rwm _ rfl (pB)
theorem nz{α:Type}(f:α->List (Str×V))(A:List α):dY f A=[]\/∃a,dY f A=f a:=by
 unfold dY
 cases A.getLast? with
 |none=>exact .inl rfl
 |some a=>exact .inr ⟨a,rfl⟩
abbrev cn(D:ah):V:= .t (.box (.told D) D.toldT)
theorem LT{D:ah}(h:cN (.t (.box (.told D) t))):D.Wf/\t=D.toldT:=(kj (kl h)).1
def rI{α:Type}(v:V)(f:ah->Option α):Option α:=aT v λt=>j4 t λg _=>xk g f
@[elab_as_elim] theorem vG{α:Type}{q:α}{f:ah->Option α}{P:V->Prop}(h:rI v f=some q)(s:cN v)(k:∀D:ah,D.Wf->f D=some q->P (cn D)):P v:=by
 revert s;refine bY h λt h=>jm h λg X h=>Fn h λD h s=>ac (LT s) λhw e=>?_;clear s;subst e;exact k D hw h
def kY:AE:=⟨aV (at_ 65),0,[],S "_law_text"++nm ".<locals>.",648⟩
def kZ:List Stmt:=ba (at_ 65)
def nB(n:Int):Str:=ny (gL ((n - 10).toNat/3))
def cY(g:Int->Bool)(n:Int):Str:=pe n (g n) (nB n)
def hF(n:Int):List (Str×V):=[(S "number",.t (.int n)),(S "label",.t (.str (nB n)))]
def dh(D:ah)(g:Int->Bool)(w:List (Str×V))(rows:List Str):af:=[.ns true ([(S "told_of",cn D),(S "states",.t (aF D.order g)),(S "rows",.own 1)]++w),.list (rows.map T.str)]
def zL(n:Int):List MO:=[.list ((gL ((n - 10).toNat/3)).map λc=> .str ⟨#[c.toNat]⟩)]
def l7(c:aN)(n:Nat)(s:Stmt)(e:AE)(O:af):Option (Except Addr Fl×af):=(R c n).ex s e O
noncomputable def l8:List Nat:=[0,1,2,3]
theorem LU(h:i<4):i∈l8:=(by decide+kernel:∀i,i<4->i∈l8) i h
set_option tactic.hygienic true in
theorem LV(D:ah)(g:Int->Bool)(rows:List Str):l8.map (λ(i:Nat)=>l7 av 38 (an (dx (an kZ 1)) 0) kY (dh D g [(S "number",.t (.int (10+3*(i:Int))))] rows))=l8.map λ(i:Nat)=>some (.ok .next,dh D g (hF (10+3*(i:Int))) rows++zL (10+3*(i:Int))):=by lk
set_option tactic.hygienic true in
theorem LW(D:ah)(g:Int->Bool)(rows:List Str)(x:T):l8.map (λ(i:Nat)=>l7 av 38 (an (dx (an kZ 1)) 0) kY (dh D g [(S "number",.t (.int (10+3*(i:Int)))),(S "label",.t x)] rows))=l8.map λ(i:Nat)=>some (.ok .next,dh D g (hF (10+3*(i:Int))) rows++zL (10+3*(i:Int))):=by lk
theorem LX{D:ah}(h:D.Wf)(hn:n∈D.order):∃i:Nat,i∈l8/\n=10+3*(i:Int):=by
 refine al (i4.mp (i7.mp hn)) λi h1 h2=>?_;have:=h.m;exact⟨i,LU (a5 h1 this),h2⟩
set_option tactic.hygienic true in
theorem LY{D:ah}(h:D.Wf){g:Int->Bool}(hn:n∈D.order)(hw:w=[]\/∃x,w=[(S "label",V.t x)]):
  l7 av 38 (an (dx (an kZ 1)) 0) kY (dh D g ([(S "number",.t (.int n))]++w) rows)=some (.ok .next,dh D g (hF n) rows++zL n):=by
 (refine ag (LX h hn) λi c1=>ac c1 λhi bo=>?_;clear c1;clear hn;subst bo);exact oE w hw (gq (LV D g rows) hi) λx=>gq (LW D g rows x) hi
theorem BE(n:Int):gL ((n - 10).toNat/3)∈kT:=Bs _
set_option tactic.hygienic true in
theorem LZ{D:ah}(h:D.Wf){g:Int->Bool}{A:List Int}(ha:a∈D.order)(hl:A.length<100):
  cz av 38 kY (an kZ 1) 2 (.int a) (dh D g (dY hF A) (A.map (cY g)))=some (.ok .next,dh D g (dY hF (A++[a])) ((A++[a]).map (cY g))):=by
 rw[BD];have hw:=nz hF A;generalize dY hF A=w at hw;have h1:∃G,(G=[]\/∃x,G=[(S "label",V.t x)])/\(R av 38).as (dw (an kZ 1)) kY (.t (.int a)) (dh D g w (A.map (cY g)))=some (.ok (),dh D g ([(S "number",.t (.int a))]++G) (A.map (cY g))):=by
  (refine a2 hw (λzz=>?_) (λzz=>?_);(try clear hw);subst zz;rotate_left;(try clear hw);refine ag zz λb bo=>?_;clear zz;subst bo;rotate_right)
  .exact⟨[],.inl rfl,by lk⟩
  .exact⟨[(S "label",.t (.str (nB b)))],.inr ⟨_,rfl⟩,by lk⟩
 refine al h1 λG d h1=>?_;have h2:(R av 38).ex (an (dx (an kZ 1)) 0) kY (dh D g ([(S "number",.t (.int a))]++G) (A.map (cY g)))=some (.ok .next,dh D g (hF a) (A.map (cY g))++zL a):=LY h ha d;have v:=jL h ha;have l1:=g9 (n:=a) (wM v);have l2:=pi _ (BE a);have C:(cond (g a) (S " on ") (S " off ")).length<=5:=by cases g a<;>decide
 have N:=l2;refine(dI (O2:=dh D g (hF a) ((A++[a]).map (cY g))++zL a) h1 (aW h2 (bv (vF (i:=1) (U:=(A.map (cY g)).map T.str) (u:= .str (cY g a)) rfl ?_ rfl
  (jP (y:=nB a) (jP (ph (i:=a) (Eg v) ?_) (vD (vE (t:=aS D.order g) (it:= .int a) (q:=g a) ?_ ?_) ?_) (lB (Nat.add_le_add l1 C) rfl)) ?_ ?_) (by rw[List.length_map,List.length_map];exact lB hl rfl) ?_)))).trans ?_
 .lk
 .lk
 .show bg (ax D.order g) (.int a)=_;exact rwm _ (rwm _ rfl (eb ha)) kO
 .lk
 .cases g a<;>lk
 .lk
 .rw[jc];exact lB (Nat.add_le_add (Nat.add_le_add l1 C) N) rfl
 .unfold dh;refine rwm _ (rwm _ ?_ i5) i5;rfl
 .rfl
theorem BF{D:ah}(h:D.Wf){g:Int->Bool}(hn:n∈D.order):(cY g n).length<=30:=BA (g9 (by have:=jL h hn;exact wM this)) (pi _ (BE n))
def cC(l:List Int)(g:Int->Bool):Str:=gz (l.map (cY g))
theorem L5(h1:vw v O=some (.list (a::l)))(h2:vw u O=some (.list [])):dP .NotEq v u O=some (.ok true,O):=by
 show bm (aE v) (λx=>bm (aE u) λy=>om (gQ .NotEq x y)) O=_;refine a0 (az (dX h1)) (rwm _ ?_ (az (dX h2)));rfl
theorem L6{D:ah}(h:D.Wf){g:Int->Bool}:br av 40 649 [cn D,.t (aF D.order g)] []=some (.ok (.t (.str (cC D.order g))),[]):=by
 have bb:D.order.length<=5:=by rw[gv];have:=h.m;exact l3 this
 have c:∀x∈D.order.map (cY g),x.length<=100:=λx hx=>by
  (refine ag (hK.mp hx) λn c1=>ac c1 λhn bo=>?_;clear c1;clear hx;subst bo);have:=BF (g:=g) h hn;exact lB this rfl
 have hw:=nz hF D.order;have hl:=kE T.int (λA=>dh D g (dY hF A) (A.map (cY g))) (cz av 38 kY (an kZ 1) 2) D.order λA a B e=>LZ h (by refine rwm _ ?_ e;simp) (by rw[e] at bb;simp at bb;exact sU bb);generalize dY hF D.order=w at hw hl;have bd:(D.order.map (cY g)).length<=100:=by rw[List.length_map];exact lB bb rfl
 refine dT (e:=kY) (b:=kZ) (E:=[.ns true [(S "told_of",cn D),(S "states",.t (aF D.order g))]]) (O2:=dh D g w (D.order.map (cY g))++[.list []]) (v:= .t (.str (cC D.order g))) (by lk)
  (aW (E:=dh D g [] []) ?_ (aW (gp (O2:=dh D g [] []) hl ?_) (ci (eh ?_)))) rfl
 .lk
 .lk
 .unfold cC;generalize D.order.map (cY g)=rows at c bd
  cases rows with
  |nil=>refine oE w hw ?_ λb=>?_<;>lk
  |cons a l=>
   refine u9 (E:=dh D g w (a::l)++[.list []]) (ey (v:= .own 1) (u:= .own 2) (E:=dh D g w (a::l)) (O2:=dh D g w (a::l)++[.list []]) ?_ ?_ (L5 (a:= .str a) (l:=l.map T.str) rfl rfl))
    (kn (E:=dh D g w (a::l)++[.list []]) (O2:=dh D g w (a::l)++[.list []]) (M:= .t (.str (S "\n"))) (t:= .str (S "\n")) (L:=0) (k:=2) (vs:=[.own 1]) rfl ?_ rfl rfl rfl rfl ?_ (Bw (l:=a::l) rfl (Bu (by decide) bd c)))<;>refine oE w hw ?_ λb=>?_<;>lk
set_option tactic.hygienic true in
theorem la{α:Type}(d:α->T)(P:List α->af->Prop)(F:T->MM Fl)(l:List α)(h0:P [] O)(H:∀A a B O,l=A++a::B->P A O->∃M,F (d a) O=some (.ok .next,M)/\P (A++[a]) M):
  ∃M,dC F (l.map d) O=some (.ok .next,M)/\P l M:=by
 have f:∀(l2 A:List α)(O:af),l=A++l2->P A O->∃M,dC F (l2.map d) O=some (.ok .next,M)/\P l M:=by
  intro l2
  induction l2 with
  |nil=>intro A O e h;rw[List.append_nil] at e;subst e;exact⟨O,rfl,h⟩
  |cons a l2 ih=>
   intro A O e h;refine al (H A a l2 O e h) λE h1 h2=>?_;refine al (ih (A++[a]) E (by rw[e,List.append_assoc];rfl) h2) λO2 h3 h4=>⟨O2,?_,h4⟩
   show bm (F (d a)) (λfl=>match fl with
    | .next=>dC F (l2.map d)
    | .ret v=>pm (.ret v)) O=_
   refine a0 (az h1) ?_;exact h3
 exact f l [] O rfl h0
noncomputable def ah.bq0(D:ah):Bool:=match D.base with
 |1=>false
 |_=>true
def lb:AE:=⟨aV (at_ 64),0,[(S "told_of",1)],S "_law_started"++nm ".<locals>.",643⟩
def nC:List Stmt:=ba (at_ 64)
def jd(D:ah):af:=[.ns true [],.cell (some (cn D))]
def vH:Expr:=aY (a7 (bV (an nC 0))) 1
noncomputable def jQ(q:Bool)(n:Int):T:= .tuple [.int n,.bool q]
def gA(D:ah)(w:List (Str×V))(f:Int->Bool):af:=[.ns true ([(S "states",.own 3)]++w),.cell (some (cn D)),.list (D.order.map (jQ D.bq0)),.dict (ax D.order f)]
theorem L7{D:ah}(h:D.Wf):D.base=0\/D.base=1\/D.base=2:=rt h.base
theorem L8{D:ah}(h:D.Wf)(a:Int)(hw:w=[]\/∃b,w=[(S "number",V.t (.int b))]):
  cP av 36 lb vH 2 (.int a) (jd D++[.ns false w])=some (.ok (some (jQ D.bq0 a)),jd D++[.ns false [(S "number",.t (.int a))]]):=by
 have hb:=L7 h;clear h;rcases D with⟨m,rev,b,on,off,lk,rows,st,k⟩;dsimp only at hb;rcases hb with rfl|rfl|rfl<;>refine oE w hw ?_ λb=>?_<;>lk
set_option tactic.hygienic true in
theorem BG{D:ah}{j:Expr}{f:Int->Bool}(k:Nat)(hk:(k=1/\b=true)\/(k=2/\b=false))(hw:w=[]\/∃x,w=[(S "number",V.t (.int x))])(l:List Int)(hl:∀n∈l,n∈D.order)(ho:D.order.length<100):
  ∃G,(G=[]\/∃x,G=[(S "number",V.t (.int x))])/\dC (cz av 38 lb (an nC k) 4) (l.map T.int) (gA D w f)=some (.ok .next,gA D G (bB f l b)):=by
 (refine ag (la T.int (λA O=>∃G,(G=[]\/∃x,G=[(S "number",V.t (.int x))])/\O=gA D G (bB f A b)) (cz av 38 lb (an nC k) 4) l (O:=gA D w f) ⟨w,hw,rfl⟩ λA a B O e Y=>by
  obtain⟨G,d,rfl⟩:=Y;have ha:=hl a (by refine rwm _ ?_ e;simp);refine⟨gA D [(S "number",.t (.int a))] (bB f (A++[a]) b),?_,_,.inr ⟨a,rfl⟩,rfl⟩;have h1:(R av 38).as (dw (an nC k)) lb (.t (.int a)) (gA D G (bB f A b))=some (.ok (),gA D [(S "number",.t (.int a))] (bB f A b)):=by
   rcases hk with⟨rfl,rfl⟩|⟨rfl,rfl⟩<;>refine oE G d ?_ λb=>?_<;>lk
  have h2:aR (R av 38) lb (dx (an nC k)) (gA D [(S "number",.t (.int a))] (bB f A b))=some (.ok .next,(gA D [(S "number",.t (.int a))] (bB f A b)).set 3 (.dict (bj (ax D.order (bB f A b)) (.int a) (.bool b)))):=by
   rcases hk with⟨rfl,rfl⟩|⟨rfl,rfl⟩<;>refine bv (lV (k:=3) (it:= .int a) (t:= .bool _) (N:=ax D.order (bB f A _)) (by rw[fV];exact lB ho rfl) rfl ?_ rfl ?_)<;>lk
  exact(dI h1 h2).trans (by refine rwm _ (rwm _ ?_ (rF ha)) (ek (hX 4));rfl)) λM c3=>?_;refine ac c3 λh1 bi=>ag bi λG c1=>ac c1 λd bo=>?_;clear c1;clear c3 bi;subst bo)
 exact⟨G,d,h1⟩
theorem L9{D:ah}(h:D.Wf):br av 40 644 [cn D] []=some (.ok (.t (aS D.order (startF D.bq0 D.on D.off))),[]):=by
 have bb:D.order.length<=5:=by rw[gv];have:=h.m;exact l3 this
 have c:bZ (cP av 36 lb vH 2) (D.order.map T.int) [] (jd D++[.ns false []])=some (.ok (D.order.map (jQ D.bq0)),jd D++[.ns false (cO T.int (S "number") D.order)]):=by
  have:=jO T.int (S "number") (λn=>some (jQ D.bq0 n)) (cP av 36 lb vH 2) (jd D) D.order (lB bb rfl) λa ha w hw=>L8 h a hw;refine a0 this ?_
  congr 2
  exact rwm _ rfl ln
 have hd:(R av 37).call (.t (.typ "dict")) [.own 2] (jd D++[.list (D.order.map (jQ D.bq0))])=some (.ok (.own 3),jd D++[.list (D.order.map (jQ D.bq0))]++[.dict (ax D.order λ_=>D.bq0)]):=
  by exact vA (O:=jd D++[MO.list (D.order.map (jQ D.bq0))]) (g:=λ_=>D.bq0) (kF D) (lC bb rfl)
 refine al (BG (D:=D) (j:=g6) (b:=true) (f:=λ_=>D.bq0) (w:=[]) 1 (.inl ⟨rfl,rfl⟩) (.inl rfl) D.on (λn hn=>i7.mpr (h.on.2 n hn)) (lC bb rfl)) λd i L1=>al (BG (D:=D) (j:=g6) (b:=false) (f:=bB (λ_=>D.bq0) D.on true) (w:=d) 2 (.inr ⟨rfl,rfl⟩) i D.off (λn hn=>i7.mpr (h.off.2 n hn)) (lC bb rfl)) λI Q t=>dT (e:=lb) (b:=nC) (E:=[.ns true [],.cell (some (cn D))]) (O2:=gA D I (startF D.bq0 D.on D.off)) (v:= .own 3) (by lk)
  (aW (E:=gA D [] λ_=>D.bq0) (ng (v:= .own 3) (E:=jd D++[.list (D.order.map (jQ D.bq0))]++[.dict (ax D.order λ_=>D.bq0)]) (by lk)
   (aO (fv:= .t (.typ "dict")) (vs:=[.own 2]) (E:=jd D++[.list (D.order.map (jQ D.bq0))]) rfl ?_ (bx (lU c rfl rfl ?_) cb) ?_ hd) ?_)
   (aW (gp (O2:=gA D [] λ_=>D.bq0) L1 ?_) (aW (gp (O2:=gA D d (bB (λ_=>D.bq0) D.on true)) t ?_) (ci ?_)))) rfl
 .lk
 .lk
 .lk
 .lk
 .lk
 .refine oE d i ?_ λx=>?_<;>lk
 .refine oE I Q ?_ λx=>?_<;>lk
def vI:b8:=iY λx O=>nl O (rI x λD=>yes (aF D.order (startF D.bq0 D.on D.off)) [])
theorem Ma:cG (R av 40) 644 vI:=jD λx O q h s _=>bT h λh=>vG h s λD hw h=>by
 cases h;exact⟨[cn D],[],_,⟨TC.refl _,trivial⟩,trivial,L9 hw,TC.box (TC.refl _) ⟨kF D,rfl⟩,trivial⟩
def rJ:b8:=jE λx y O=>nl O (rI x λD=>aT y λt=>kR t λl g=>gu (l=D.order) (yes (.str (cC D.order g)) []))
theorem Mb:cG (R av 40) 649 rJ:=nb λx y O q h s s2 _=>bT h λh=>vG h s λD hw h=>vC h s2 λl g hn h=>by
 refine ac (ip h) λhl b5=>?_;clear hn h;subst hl;clear h;cases b5;exact⟨[cn D,.t (aF D.order g)],[],_,⟨TC.refl _,TC.refl _,trivial⟩,trivial,L6 hw,TC.refl _,trivial⟩
def dj(n:Int)(b:Bool)(f:Int->Bool)(rows:List (List Int)):Int->Bool:=rows.foldl (λf c=>cond (b&&dU n c) (bB f c false) f) f
def eK(rows:List (List Int))(st:Int->Bool)(n:Int)(b:Bool)(x:Int):Bool:=if x=n then b else dj n b st rows x
theorem vJ(n:Int)(b:Bool)(f:Int->Bool)(rows:List (List Int))(r:List Int):dj n b f (rows++[r])=cond (b&&dU n r) (bB (dj n b f rows) r false) (dj n b f rows):=by
 unfold dj;refine a0 List.foldl_append ?_;rfl
def l9:AE:=⟨aV (at_ 66),0,[],S "_law_switched"++nm ".<locals>.",655⟩
def rL:List Stmt:=ba (at_ 66)
def eL(D:ah)(K:T)(n:Int)(b:Bool)(w:List (Str×V))(N:List (aj×T)):af:=[.ns true ([(S "told_of",cn D),(S "states",.t K),(S "number",.t (.int n)),(S "is_on",.t (.bool b)),(S "later",.own 1)]++w),.dict N]
def pj(w:List (Str×V)):Prop:=w=[]\/(∃x,w=[(S "row",V.t (ak x))])\/∃x y,w=[(S "row",V.t (ak x)),(S "other",V.t (.int y))]
def je(c:List Int)(w:List (Str×V)):Prop:=(w=[(S "row",V.t (ak c))])\/∃y,w=[(S "row",V.t (ak c)),(S "other",V.t (.int y))]
@[elab_as_elim] theorem ma{P:List (Str×V)->Prop}(w:List (Str×V))(h:je c w)(k:P [(S "row",V.t (ak c))])(E:∀y,P [(S "row",V.t (ak c)),(S "other",V.t (.int y))]):P w:=by
 (refine a2 h (λzz=>?_) (λzz=>?_);(try clear h);subst zz;rotate_left;(try clear h);refine ag zz λy bo=>?_;clear zz;subst bo;rotate_right)
 .exact k
 .exact E y
theorem BH{r:aG}{O:af}{t:List (aj×T)}(hl:t.length<1000)(h:r.ev x e O=jr "dict" (.dict t) O):r.ev x e O=some (.ok (.own O.length),O++[.dict t]):=h.trans (by
 show d4 ((if aJ t.length then bP (.dict t) else λ_=>none:MM V) _) _=_;refine rwm _ (rwm _ ?_ (eb rfl)) (eX (Nat.le_of_succ_le hl));rfl)
def rM:Stmt:=an (dx (an rL 1)) 0
section
variable {D:ah}{K:T}{n:Int}{b:Bool}
set_option tactic.hygienic true in
theorem Mc(f:Int->Bool)(c:List Int)(hr:∀x∈c,x∈D.order)(ho:D.order.length<100)(hw:je c w):
  ∃G,je c G/\dC (cz av 37 l9 rM 2) (c.map T.int) (eL D K n b w (ax D.order f))=some (.ok .next,eL D K n b G (ax D.order (cond (b&&dU n c) (bB f c false) f))):=by
 (refine ag (la T.int (λA O=>∃G,je c G/\O=eL D K n b G (ax D.order (cond (b&&dU n c) (bB f A false) f))) (cz av 37 l9 rM 2) c
  ⟨w,hw,by rw[rD λx _=>by cases(b&&dU n c)<;>rfl]⟩ λA a B O e Y=>by
  obtain⟨G,d,rfl⟩:=Y;have ha:=hr a (by refine rwm _ ?_ e;simp);generalize hf:cond (b&&dU n c) (bB f A false) f=f1;refine⟨eL D K n b [(S "row",.t (ak c)),(S "other",.t (.int a))] (ax D.order (cond (b&&dU n c) (bB f (A++[a]) false) f)),?_,_,.inr ⟨a,rfl⟩,rfl⟩;have h1:(R av 37).as (dw rM) l9 (.t (.int a)) (eL D K n b G (ax D.order f1))=some (.ok (),eL D K n b [(S "row",.t (ak c)),(S "other",.t (.int a))] (ax D.order f1)):=by
   refine ma G d ?_ λb=>?_<;>lk
  have ht:(R av 36).test (bV (an (dx rM) 0)) l9 (eL D K n b [(S "row",.t (ak c)),(S "other",.t (.int a))] (ax D.order f1))=some (.ok (b&&dU n c),eL D K n b [(S "row",.t (ak c)),(S "other",.t (.int a))] (ax D.order f1)):=by
   cases b with
   |false=>lk
   |true=>exact KI (by lk) (o0 (nn n c) (by lk))
  cases hc:(b&&dU n c) with
  |false=>
   rw[hc] at ht hf;exact(dI h1 (bv (lX ht gm))).trans (by refine rwm _ (rwl _ ?_ hf) (ek (hX 2));rfl)
  |true=>
   rw[hc] at ht hf;subst hf;refine(dI h1 (bv (lW ht (bv (lV (k:=1) (it:= .int a) (t:= .bool false) (N:=ax D.order (bB f A false)) (by rw[fV];exact lB ho rfl) rfl ?_ rfl ?_))))).trans ?_
   .lk
   .lk
   .refine rwm _ (rwm _ ?_ (rF ha)) (ek (hX 2));rfl) λM c3=>?_;refine ac c3 λh1 bi=>ag bi λG c1=>ac c1 λd bo=>?_;clear c1;clear c3 bi;subst bo)
 exact⟨G,d,h1⟩
theorem Md(h:D.Wf){st:Int->Bool}(hn:n∈D.order):br av 40 656 [cn D,.t (aF D.order st),.t (.int n),.t (.bool b)] []=some (.ok (.t (aS D.order (eK D.rows st n b))),[]):=by
 have bb:D.order.length<=5:=by rw[gv];have:=h.m;exact l3 this
 (refine ag (la ak (λA O=>∃G,pj G/\O=eL D (aF D.order st) n b G (ax D.order (dj n b st A))) (cz av 38 l9 (an rL 1) 2) D.rows (O:=eL D (aF D.order st) n b [] (ax D.order st)) ⟨[],.inl rfl,rfl⟩ λA c B O e Y=>by
  obtain⟨G,d,rfl⟩:=Y;have hr:∀x∈c,x∈D.order:=λx hx=>i7.mpr ((h.rows c (by refine rwm _ ?_ e;simp)).2 x hx);have h1:∃I,je c I/\(R av 38).as (dw (an rL 1)) l9 (.t (ak c)) (eL D (aF D.order st) n b G (ax D.order (dj n b st A)))=some (.ok (),eL D (aF D.order st) n b I (ax D.order (dj n b st A))):=by
   rcases d with rfl|⟨x,rfl⟩|⟨x,y,rfl⟩
   .exact⟨_,.inl rfl,by lk⟩
   .exact⟨_,.inl rfl,by lk⟩
   .exact⟨_,.inr ⟨y,rfl⟩,by lk⟩
  obtain⟨I,Q,h1⟩:=h1;obtain⟨w3,f,h3⟩:=Mc (K:=aF D.order st) (n:=n) (b:=b) (dj n b st A) c hr (lC bb rfl) Q;refine⟨_,(dI h1 (bv (gp (O2:=eL D (aF D.order st) n b I (ax D.order (dj n b st A))) h3 ?_))).trans (by exact rwm _ rfl (ek (hX 2))),w3,?_,by rw[vJ]⟩
  .refine ma I Q ?_ λb=>?_<;>lk
  .exact ma w3 f (.inr (.inl ⟨c,rfl⟩)) λy=> .inr (.inr ⟨c,y,rfl⟩)) λM c3=>?_;refine ac c3 λL1 bi=>ag bi λG c1=>ac c1 λd bo=>?_;clear c1;clear c3 bi;subst bo)
 refine dT (e:=l9) (b:=rL) (E:=[.ns true [(S "told_of",cn D),(S "states",.t (aF D.order st)),(S "number",.t (.int n)),(S "is_on",.t (.bool b))]])
  (O2:=eL D (aF D.order st) n b G (ax D.order (eK D.rows st n b))) (v:= .own 1) (by lk) (aW (E:=eL D (aF D.order st) n b [] (ax D.order st)) (ng (v:= .own 1) (by lk) (BH (t:=ax D.order st) ?_ ?_) ?_)
   (aW (gp (O2:=eL D (aF D.order st) n b [] (ax D.order st)) L1 ?_)
   (aW (E:=eL D (aF D.order st) n b G (ax D.order (eK D.rows st n b))) ((lV (k:=1) (it:= .int n) (t:= .bool b) (N:=ax D.order (dj n b st D.rows)) ?_ rfl ?_ rfl ?_).trans ?_) (ci ?_)))) rfl
 .rw[fV];exact lC bb rfl
 .lk
 .lk
 .lk
 .rw[fV];exact lC bb rfl
 .refine nc G d ?_ (λx=>?_) λx y=>?_<;>lk
 .refine nc G d ?_ (λx=>?_) λx y=>?_<;>lk
 .refine rwm _ ?_ (vx hn);rfl
 .refine nc G d ?_ (λx=>?_) λx y=>?_<;>lk
end
def rN:b8:=rh λx y z u O=>nl O (rI x λD=>aT y λt=>kR t λl st=>aT z λz=>fJ z λn=>aT u λu=>tn u λb=>gu (l=D.order/\n∈D.order) (yes (aF D.order (eK D.rows st n b)) []))
theorem Me:cG (R av 40) 656 rN:=AJ λx y z u O q h s s2 _ _ _=>bT h λh=>vG h s λD hw h=>vC h s2 λl st hn h=>bY h λz h=>ia h λn h=>bY h λu h=>xh h λb h=>by
 (refine ac (ip h) λc7 b5=>?_;rcases c7 with⟨hl,hm⟩);clear hn h;subst hl;clear h;cases b5;exact⟨[cn D,.t (aF D.order st),.t (.int n),.t (.bool b)],[],_,⟨TC.refl _,TC.refl _,TC.refl _,TC.refl _,trivial⟩,trivial,Md hw hm,TC.box (TC.refl _) ⟨kF D,rfl⟩,trivial⟩
noncomputable def nD:Stmt->List Stmt
 | .If _ b _ _=>b
 |_=>[]
section
variable {c:aN}{n:Nat}{e:AE}{O E O2 O3:af}{r:aG}
theorem jR(h:r.ex s e O=some (.error C,E)):aR r e (s::l) O=some (.error C,E):=by
 show bm (r.ex s e) _ O=_;unfold bm;exact rwm _ rfl h
theorem BI{be:List Expr}(ha:be.all noStar=true)(hn:cu (Pc c).glob e x O=some (.ok (.t (.top C)),O))(hC:(Pc c).exc C=true)(hv:a8 (R c n) e be O=some (.ok [.t (.str s)],E)):
  (R c (n+1)).ex (.Raise (some (.Call (.Name x xp) be [] p)) none B) e O=some (.error C,E):=by
 show(if be.all noStar then bm (cu (Pc c).glob e x) λf=>match f with
  | .t (.top C)=>if(Pc c).exc C then bm (a8 (R c n) e be) λvs=>match vs with
   |[.t (.str _)]=>λO=>some (.error C,O)
   |_=>λ_=>none
   else λ_=>none
  |_=>λ_=>none
  else λ_=>none:MM Fl) O=_
 refine rwm _ (rwm _ (rwm _ ?_ (az hn)) (eb rfl)) ha
 show(if(Pc c).exc C then bm (a8 (R c n) e be) λvs=>match vs with
   |[.t (.str _)]=>λO=>some (.error C,O)
   |_=>λ_=>none
   else λ_=>none:MM Fl) O=_
 exact rwm _ (rwm _ (rwm _ rfl (az hv)) (eb rfl)) hC
end
def fW:AE:=⟨aV (at_ 44),0,[],S "switched"++nm ".<locals>.",544⟩
def lc:List Stmt:=ba (at_ 44)
def hJ(l:List Int)(st:Int->Bool)(C:T)(n:Int)(b:Bool):af:=[.ns true [(S "states",.t (aF l st)),(S "config",.t C),(S "number",.t (.int n)),(S "is_on",.t (.bool b))]]
def dk(l:List Int)(st:Int->Bool)(C:T)(n:Int)(b:Bool)(w:List (Str×V))(N:List (aj×T)):af:=[.ns true ([(S "states",.t (aF l st)),(S "config",.t C),(S "number",.t (.int n)),(S "is_on",.t (.bool b)),(S "found",.own 1)]++w),.dict N]
def pn:Stmt:=an (nD (an lc 3)) 0
def rO:Stmt:=an (nD (an (dx pn) 0)) 0
section
variable {l lk:List Int}{st:Int->Bool}{H:Str}{on off:List Int}{rows:List (List Int)}{od o:T}{n:Int}{b:Bool}
abbrev dy(H:Str)(on off:List Int)(rows:List (List Int))(lk:List Int)(od o:T):T:=eY H on off (.list (rows.map ak)) (ak lk) od o
def C5(H:Str)(on off:List Int)(rows:List (List Int))(lk:List Int)(od o:T)(l:List Int)(st:Int->Bool)(n:Int)(b:Bool):List V:=[.t (aF l st),.t (dy H on off rows lk od o),.t (.int n),.t (.bool b)]
theorem vK:(R av 38).test (bV (an lc 0)) fW (hJ l st C n b)=some (.ok (!decide (n∈l)),hJ l st C n b):=AP (rE (f:=st)) (by lk)
theorem BJ:(R av 38).test (bV (an lc 1)) fW (hJ l st (dy H on off rows lk od o) n b)=some (.ok (dU n lk),hJ l st (dy H on off rows lk od o) n b):=o0 (nn n lk) (by lk)
theorem Mf(hn:n∉l)(hb:0<=n/\n<=31):br av 40 545 (C5 H on off rows lk od o l st n b) []=some (.error 59,hJ l st (dy H on off rows lk od o) n b):=by
 have ht:=vK (l:=l) (st:=st) (C:=dy H on off rows lk od o) (n:=n) (b:=b);rw[decide_eq_false hn] at ht;refine rn (e:=fW) (b:=lc) (E:=hJ l st (dy H on off rows lk od o) n b) (by lk) (jR (lW ht (jR (BI (s:=S "no group "++dp n) rfl ?_ ?_ (nh (jP ?_ (ph (sX hb) ?_) ?_) cb)))))
 .lk
 .lk
 .lk
 .lk
 .have:(S "no group ").length=9:=by decide
  exact lB (Nat.add_le_add (ec this) (g9 hb)) rfl
theorem Mg(hn:n∈l)(hk:n∈lk)(hb:0<=n/\n<=31):br av 40 545 (C5 H on off rows lk od o l st n b) []=some (.error 59,hJ l st (dy H on off rows lk od o) n b):=by
 have ht:=vK (l:=l) (st:=st) (C:=dy H on off rows lk od o) (n:=n) (b:=b);rw[decide_eq_true hn] at ht;have hu:=BJ (l:=l) (st:=st) (H:=H) (on:=on) (off:=off) (rows:=rows) (lk:=lk) (od:=od) (o:=o) (n:=n) (b:=b);rw[A1 hk] at hu;have hl:=g9 hb;refine rn (e:=fW) (b:=lc) (E:=hJ l st (dy H on off rows lk od o) n b) (by lk) (aW (lX ht gm) (jR (lW hu (jR (BI (s:=S "the group "++dp n++S " is locked") rfl ?_ ?_ (nh (jP (y:=S " is locked") (jP (x:=S "the group ") ?_ (ph (i:=n) (sX hb) ?_) ?_) ?_ ?_) cb))))))
 .lk
 .lk
 .lk
 .lk
 .have:(S "the group ").length=10:=by decide
  exact lB (Nat.add_le_add (ec this) hl) rfl
 .lk
 .have h1:(S "the group ").length=10:=by decide
  have h2:(S " is locked").length=10:=by decide
  rw[jc];exact E1 hl h1 h2
set_option tactic.hygienic true in
theorem Mh(f:Int->Bool)(c:List Int)(ho:l.length<100)(hw:je c w):
  ∃G,je c G/\dC (cz av 35 fW rO 2) (c.map T.int) (dk l st C n b w (ax l f))=some (.ok .next,dk l st C n b G (ax l (bB f c false))):=by
 (refine ag (la T.int (λA O=>∃G,je c G/\O=dk l st C n b G (ax l (bB f A false))) (cz av 35 fW rO 2) c (O:=dk l st C n b w (ax l f))
  ⟨w,hw,rfl⟩ λA a B O e Y=>by
  obtain⟨G,d,rfl⟩:=Y;refine⟨dk l st C n b [(S "row",.t (ak c)),(S "other",.t (.int a))] (ax l (bB f (A++[a]) false)),?_,_,.inr ⟨a,rfl⟩,rfl⟩;have h1:(R av 35).as (dw rO) fW (.t (.int a)) (dk l st C n b G (ax l (bB f A false)))=some (.ok (),dk l st C n b [(S "row",.t (ak c)),(S "other",.t (.int a))] (ax l (bB f A false))):=by
   refine ma G d ?_ λb=>?_<;>lk
  have ht:(R av 34).test (bV (an (dx rO) 0)) fW (dk l st C n b [(S "row",.t (ak c)),(S "other",.t (.int a))] (ax l (bB f A false)))=some (.ok (decide (a∈l)),dk l st C n b [(S "row",.t (ak c)),(S "other",.t (.int a))] (ax l (bB f A false))):=
   o0 (rE (f:=bB f A false)) (by lk)
  by_cases ha:a∈l
  .rw[decide_eq_true ha] at ht;refine(dI h1 (bv (lW ht (bv (lV (k:=1) (it:= .int a) (t:= .bool false) (N:=ax l (bB f A false)) (by rw[fV];exact lB ho rfl) rfl ?_ rfl ?_))))).trans ?_
   .lk
   .lk
   .refine rwm _ (rwm _ ?_ (rF ha)) (ek (hX 2));rfl
  .rw[decide_eq_false ha] at ht;exact(dI h1 (bv (lX ht gm))).trans (by exact rwm _ (rwm _ rfl (Bj ha)) (ek (hX 2)))) λM c3=>?_;refine ac c3 λh1 bi=>ag bi λG c1=>ac c1 λd bo=>?_;clear c1;clear c3 bi;subst bo)
 exact⟨G,d,h1⟩
theorem Mi(n:Int)(f:Int->Bool)(rows:List (List Int)):dj n false f rows=f:=by
 unfold dj
 induction rows with
 |nil=>rfl
 |cons a l ih=>refine a0 List.foldl_cons ?_;exact ih
set_option tactic.hygienic true in
theorem Mj(rows:List (List Int))(ho:l.length<100):∃G,pj G/\dC (cz av 37 fW pn 2) (rows.map ak) (dk l st C n true [] (ax l st))=some (.ok .next,dk l st C n true G (ax l (dj n true st rows))):=by
 (refine ag (la ak (λA O=>∃G,pj G/\O=dk l st C n true G (ax l (dj n true st A))) (cz av 37 fW pn 2) rows ⟨[],.inl rfl,rfl⟩ λA c B O e Y=>by
  obtain⟨G,d,rfl⟩:=Y;have h1:∃I,je c I/\(R av 37).as (dw pn) fW (.t (ak c)) (dk l st C n true G (ax l (dj n true st A)))=some (.ok (),dk l st C n true I (ax l (dj n true st A))):=by
   rcases d with rfl|⟨x,rfl⟩|⟨x,y,rfl⟩
   .exact⟨_,.inl rfl,by lk⟩
   .exact⟨_,.inl rfl,by lk⟩
   .exact⟨_,.inr ⟨y,rfl⟩,by lk⟩
  obtain⟨I,Q,h1⟩:=h1;have ht:(R av 36).test (bV (an (dx pn) 0)) fW (dk l st C n true I (ax l (dj n true st A)))=some (.ok (dU n c),dk l st C n true I (ax l (dj n true st A))):=
   o0 (nn n c) (by refine ma I Q ?_ λy=>?_<;>lk)
  have up:∀{w},je c w->pj w:=λ{w} h=>ma w h (.inr (.inl ⟨c,rfl⟩)) λy=> .inr (.inr ⟨c,y,rfl⟩)
  cases hc:dU n c with
  |false=>
   rw[hc] at ht;exact⟨_,(dI h1 (bv (lX ht gm))).trans (by exact rwm _ rfl (ek (hX 2))),I,up Q,by rw[vJ,hc];rfl⟩
  |true=>
   rw[hc] at ht;obtain⟨w3,f,h3⟩:=Mh (dj n true st A) c ho Q;refine⟨_,(dI h1 (bv (lW ht (bv (gp (O2:=dk l st C n true I (ax l (dj n true st A))) h3 ?_))))).trans (by exact rwm _ rfl (ek (hX 2))),w3,up f,by rw[vJ,hc];rfl⟩;refine ma I Q ?_ λy=>?_<;>lk) λM c3=>?_;refine ac c3 λL1 bi=>ag bi λG c1=>ac c1 λd bo=>?_;clear c1;clear c3 bi;subst bo)
 exact⟨G,d,L1⟩
set_option tactic.hygienic true in
theorem Mk(hn:n∈l)(hk:n∉lk)(hl:l.length<100):br av 40 545 (C5 H on off rows lk od o l st n b) []=some (.ok (.t (aS l (eK rows st n b))),[]):=by
 have ht:=vK (l:=l) (st:=st) (C:=dy H on off rows lk od o) (n:=n) (b:=b);rw[decide_eq_true hn] at ht;have hu:=BJ (l:=l) (st:=st) (H:=H) (on:=on) (off:=off) (rows:=rows) (lk:=lk) (od:=od) (o:=o) (n:=n) (b:=b);rw[rq hk] at hu;have h3:∃G,pj G/\(R av 39).ex (an lc 3) fW (dk l st (dy H on off rows lk od o) n b [] (ax l st))=some (.ok .next,dk l st (dy H on off rows lk od o) n b G (ax l (dj n b st rows))):=by
  cases b with
  |false=>exact⟨[],.inl rfl,by rw[Mi];lk⟩
  |true=>
   refine al (Mj (l:=l) (st:=st) (n:=n) (C:=dy H on off rows lk od o) rows hl) λG d L1=>⟨G,d,lW (by lk) (bv (gp (O2:=dk l st (dy H on off rows lk od o) n true [] (ax l st)) L1 (by lk)))⟩
 refine al h3 λG d h3=>dT (e:=fW) (b:=lc) (E:=hJ l st (dy H on off rows lk od o) n b) (O2:=dk l st (dy H on off rows lk od o) n b G (ax l (eK rows st n b))) (v:= .own 1) (by lk)
  (aW (lX ht gm) (aW (lX hu gm) (aW (E:=dk l st (dy H on off rows lk od o) n b [] (ax l st)) (ng (v:= .own 1) (by lk) (BH (t:=ax l st) ?_ ?_) ?_)
   (aW (s:=an lc 3) h3 (aW (E:=dk l st (dy H on off rows lk od o) n b G (ax l (eK rows st n b))) ((lV (k:=1) (it:= .int n) (t:= .bool b) (N:=ax l (dj n b st rows)) ?_ rfl ?_ rfl ?_).trans ?_) (ci ?_)))))) rfl
 .rw[fV];exact lB hl rfl
 .lk
 .lk
 .rw[fV];exact lB hl rfl
 .refine nc G d ?_ (λx=>?_) λx y=>?_<;>lk
 .refine nc G d ?_ (λx=>?_) λx y=>?_<;>lk
 .refine rwm _ ?_ (vx hn);rfl
 .refine nc G d ?_ (λx=>?_) λx y=>?_<;>lk
end
def me:T->List (List Int)
 | .list U=>U.map cy
 |_=>[]
theorem BK(rows:List (List Int)):me (.list (rows.map ak))=rows:=by
 unfold me;dsimp only;refine a0 mc ?_;exact(ks (λr _=>o8 r)).trans (List.map_id rows)
def nF(v:T):T:=dy (Ly (gy 0 v)) (cy (gy 1 v)) (cy (gy 2 v)) (me (gy 3 v)) (cy (gy 4 v)) (gy 5 v) (gy 6 v)
theorem Ml(H:Str)(on off:List Int)(rows:List (List Int))(lk:List Int)(od o:T):nF (dy H on off rows lk od o)=dy H on off rows lk od o:=by
 show dy H (cy (ak on)) (cy (ak off)) (me (.list (rows.map ak))) (cy (ak lk)) od o=_;rw[o8,o8,o8,BK]
open Classical in
def pq(l:List Int)(st:Int->Bool)(v:T)(n:Int)(b:Bool):cF:=gu (v=nF v/\l.length<100/\0<=n/\n<=31) (if n∈l/\n∉cy (gy 4 v) then yes (aF l (eK (me (gy 3 v)) st n b)) [] else some (some (.error 59,hJ l st v n b)))
def rP:b8:=rh λx y z u O=>nl O (aT x λt=>kR t λl st=>aT y λv=>aT z λz=>fJ z λn=>aT u λu=>tn u λb=>pq l st v n b)
theorem Mm:cG (R av 40) 545 rP:=AJ λx y z u O q h s _ _ _ _=>bT h λh=>vC h s λl st hn h=>bY h λv h=>bY h λz h=>ia h λn h=>bY h λu h=>xh h λb h=>by
 (refine ac (ip h) λc7 h=>?_;rcases c7 with⟨h1,h2,h3⟩)
 by_cases hc:n∈l/\n∉cy (gy 4 v)
 .rw[if_pos hc] at h;cases h;refine⟨[.t (aF l st),.t (nF v),.t (.int n),.t (.bool b)],[],(.ok (.t (aS l (eK (me (gy 3 v)) st n b))),[]),⟨TC.refl _,VC.ofEq h1,TC.refl _,TC.refl _,trivial⟩,trivial,?_,TC.box (TC.refl _) ⟨hn,rfl⟩,trivial⟩;exact Mk hc.1 hc.2 h2
 .rw[if_neg hc] at h;cases h;refine⟨[.t (aF l st),.t (nF v),.t (.int n),.t (.bool b)],[],(.error 59,hJ l st (nF v) n b),⟨TC.refl _,VC.ofEq h1,TC.refl _,TC.refl _,trivial⟩,trivial,?_,rfl,?_⟩
  .by_cases hm:n∈l
   .exact Mg hm (p6 λhk=>hc ⟨hm,hk⟩) h3
   .exact Mf hm h3
  .refine rwl _ ?_ h1;exact SC.refl _
def k6:aN:=bp 545 rP k5
theorem Mn:aC k6 260:=aC.add aC.start Bz (by decide) Mm
def cW(D:ah)(K:T):Option (Int->Bool):=d4 (pY K (some D.startF)) (kR K λl st=> @ite _ (l=D.all) (Classical.propDecidable _) (some st) none)
theorem BL{D:ah}{K:T}{g:Int->Bool}{P:T->(Int->Bool)->Prop}(h:cW D K=some g)(k0:P (.dict []) D.startF)(k1:∀st t,P (.box (.sts D.all st) t) st):P K g:=by
 refine gM h (λh=>?_) λh=>?_
 .exact to h λh=>ai h▸k0
 .refine jm h λa X h=>xr h λl st h=>?_;(refine ac (@eT _ _ (Classical.propDecidable _) _ _ h) λc2 q1=>?_;clear h;subst c2);exact ai q1▸k1 _ _
theorem BM{D:ah}{K:T}{g:Int->Bool}(h:cW D K=some g):l5 [au D,.t K] []=yes (aF D.all g) []:=
 BL (P:=λK g=>l5 [au D,.t K] []=yes (aF D.all g) []) h rfl λst t=>fU (p:=D.all=D.all) rfl
def BN:Nat->Str
 |0=>S "10"
 |1=>S "13"
 |2=>S "16"
 |3=>S "19"
 |4=>S "22"
 |_=>S "x"
def eZ:Nat->Str
 |0=>S "on"
 |1=>S "off"
 |2=>S "of"
 |3=>S ""
 |_=>S "on on"
def bR(i j:Nat):Str:=BN i++S " "++eZ j
noncomputable def ld:List Nat:=[0,1,2,3,4,5]
noncomputable def fA:List Nat:=[0,1,2,3,4]
noncomputable def vL{α:Type}:Option (Except Addr α×af)->Option Addr
 |some (.error c,_)=>some c
 |_=>none
theorem BO{α:Type}{q:Option (Except Addr α×af)}{c:Addr}(h:vL q=some c):∃X,q=some (.error c,X):=by
 match q with
 |some (.error d,X)=>cases h;exact⟨X,rfl⟩
 |some (.ok _,_)=>exact nso h
 |none=>exact nso h
def fX:AE:=⟨aV (at_ 55),0,[],S "switch_told"++nm ".<locals>.",601⟩
def iA:List Stmt:=ba (at_ 55)
def pr(D:ah)(K:T)(s:Str):af:=[.ns true [(S "shelf",au D),(S "kept",.t K),(S "rest",.t (.str s))]]
def el(D:ah)(K:T)(s:Str)(i j:Nat):af:=[.ns true [(S "shelf",au D),(S "kept",.t K),(S "rest",.t (.str s)),(S "word",.t (.str (BN i))),(S "way",.t (.str (eZ j)))]]
def Mo(c:aN)(n:Nat)(e:AE)(l:List Stmt)(O:af):Option (Except Addr Fl×af):=aR (R c n) e l O
set_option tactic.hygienic true in
theorem Mp(D:ah)(K:T):ld.map (λi=>fA.map λj=>l7 k6 39 (an iA 0) fX (pr D K (bR i j)))=ld.map λi=>fA.map λj=>some (.ok .next,el D K (bR i j) i j):=by lk
theorem Mq(D:ah)(K:T)(s:Str)(i:Nat):[2,3,4].map (λj=>vL (l7 k6 39 (an iA 1) fX (el D K s i j)))=[2,3,4].map λj=>some 71:=by lk
set_option tactic.hygienic true in
theorem Mr(D:ah)(K:T)(s:Str)(i:Nat):[0,1].map (λj=>l7 k6 39 (an iA 1) fX (el D K s i j))=[0,1].map λj=>some (.ok .next,el D K s i j):=by lk
def nG:Expr:=bV (an iA 2)
def rQ(c:aN)(n:Nat)(x:Expr)(e:AE)(O:af):Option (Except Addr V×af):=(R c n).ev x e O
theorem Ms(D:ah)(K:T)(s:Str)(j:Nat):fA.map (λ(i:Nat)=>rQ k6 37 (aY (a7 nG) 3) fX (el D K s i j))=fA.map λ(i:Nat)=>some (.ok (.t (.int (10+3*(i:Int)))),el D K s i j):=by lk
theorem Mt(D:ah)(K:T)(s:Str)(j:Nat):vL (rQ k6 37 (aY (a7 nG) 3) fX (el D K s 5 j))=some 71:=by lk
theorem Mu(D:ah)(K:T)(s:Str)(i:Nat):[0,1].map (λj=>rQ k6 37 (aY (a7 nG) 4) fX (el D K s i j))=[0,1].map λj=>some (.ok (.t (.bool (Nat.beq j 0))),el D K s i j):=by lk
section
variable {c:aN}{n:Nat}{e:AE}{O E O2 O3:af}{r:aG}
theorem Mv{a:Expr}{l:List Expr}{C:Addr}(h:r.ev a e O=some (.error C,E)):a8 r e (a::l) O=some (.error C,E):=by
 show bm (r.ev a e) _ O=_;unfold bm;exact rwm _ rfl h
theorem BP{a:Expr}{l:List Expr}{v:V}{C:Addr}(h:r.ev a e O=some (.ok v,E))(h2:a8 r e l E=some (.error C,O2)):a8 r e (a::l) O=some (.error C,O2):=by
 show bm (r.ev a e) (λv=>bm (a8 r e l) λvs=>pm (v::vs)) O=_;refine a0 (az h) ?_;unfold bm;exact rwm _ rfl h2
theorem Mw{f:Str}{fp p:Pos}{be:List Expr}{fv:V}{C:Addr}(ha:(be.all noStar&&decide (be.length<30))=true)(h1:(R c n).ev (.Name f fp) e O=some (.ok fv,O))
  (h2:a8 (R c n) e be O=some (.error C,E)):(R c (n+1)).ev (.Call (.Name f fp) be [] p) e O=some (.error C,E):=by
 show(if be.all noStar&&decide (be.length<30) then bm ((R c n).ev (.Name f fp) e) λfv=>bm (a8 (R c n) e be) λvs=>bm (kb (Pc c) fv) λ_=>(R c n).call fv vs else λ_=>none:MM V) O=_;refine rwm _ (rwm _ (rwm _ ?_ (az h1)) (eb rfl)) ha;unfold bm;exact rwm _ rfl h2
theorem BQ{x:Expr}{p:Pos}{C:Addr}(h:(R c n).ev x e O=some (.error C,E)):(R c (n+1)).ex (.Return (some x) p) e O=some (.error C,E):=by
 show bm ((R c n).ev x e) (λv=>pm (Fl.ret v)) O=_;unfold bm;exact rwm _ rfl h
end
theorem vM{i:Nat}(h:i<6):i∈ld:=(by decide+kernel:∀i,i<6->i∈ld) i h
theorem mf{i:Nat}(h:i<5):i∈fA:=(by decide+kernel:∀i,i<5->i∈fA) i h
section
variable {D:ah}{K:T}{g:Int->Bool}{i j:Nat}
set_option tactic.hygienic true in
theorem rR(hi:i<6)(hj:j<5):(R k6 39).ex (an iA 0) fX (pr D K (bR i j))=some (.ok .next,el D K (bR i j) i j):=by
 exact gq (gq (Mp D K) (vM hi)) (mf hj)
theorem vN{j:Nat}(h:j<2):j∈[0,1]:=(by decide+kernel:∀j,j<2->j∈[0,1]) j h
set_option tactic.hygienic true in
theorem vO(hj:j<2){s:Str}:(R k6 39).ex (an iA 1) fX (el D K s i j)=some (.ok .next,el D K s i j):=gq (Mr D K s i) (vN hj)
theorem BR(h:D.Wf)(hg:cW D K=some g){s:Str}:(R k6 37).ev (aY (a7 nG) 1) fX (el D K s i j)=some (.ok (.t (aF D.all g)),el D K s i j):=
 jH 588 (as:=[au D,.t K]) (BM hg) (by lk)
theorem BS{s:Str}:(R k6 37).ev (aY (a7 nG) 2) fX (el D K s i j)=some (.ok (.t (eJ D)),el D K s i j):=by lk
theorem Mx(h:D.Wf)(hg:cW D K=some g)(hi:i<6)(hj:j<5)(hb:2<=j\/i=5):∃X,br k6 40 602 [au D,.t K,.t (.str (bR i j))] []=some (.error 71,X):=by
 have f:∃X,aR (R k6 39) fX iA (pr D K (bR i j))=some (.error 71,X):=by
  by_cases b:2<=j
  .have:j∈[2,3,4]:=by
    exact(by decide+kernel:∀j,j<5->2<=j->j∈[2,3,4]) j hj b
   refine ag (BO (gq (Mq D K (bR i j) i) this)) λX c=>⟨X,aW (rR hi hj) (jR c)⟩
  .have h5:=hb.resolve_left b;clear hb;subst h5;refine ag (BO (Mt D K (bR 5 j) j)) λX c=>⟨X,aW (rR hi hj) (aW (vO (Nat.not_le.mp b)) (jR (BQ (Mw (fv:= .t (.top 545)) rfl ?_ (BP (BR h hg) (BP BS (Mv c)))))))⟩;lk
 refine ag f λX c=>⟨X,rn (by lk) c⟩
theorem BU(h:D.Wf)(hg:cW D K=some g)(hi:i<5)(hj:j<2){s:Str}:a8 (R k6 37) fX (a7 nG).tail (el D K s i j)=some (.ok [.t (aF D.all g),.t (eJ D),.t (.int (10+3*(i:Int))),.t (.bool (Nat.beq j 0))],el D K s i j):=by
 have h3:=gq (Ms D K s j) (mf hi);have h4:=gq (Mu D K s i) (vN hj);exact bx (BR h hg) (bx BS (bx h3 (bx h4 cb)))
theorem BV{D:ah}(h:D.Wf){l:List Int}{st:Int->Bool}{n:Int}{b:Bool}(hl:l.length<100)(hn:0<=n/\n<=31):
  (n∈l->n∉D.lk->rP [.t (aF l st),.t (eJ D),.t (.int n),.t (.bool b)] []=yes (aF l (eK D.rows st n b)) [])/\(¬(n∈l/\n∉D.lk)->rP [.t (aF l st),.t (eJ D),.t (.int n),.t (.bool b)] []=some (some (.error 59,hJ l st (eJ D) n b))):=by
 have e0:=vy h;have e1:eJ D=nF (eJ D):=by rw[e0,Ml]
 have e2:cy (gy 4 (eJ D))=D.lk:=by refine rwm _ ?_ e0;exact o8 _
 have e3:me (gy 3 (eJ D))=D.rows:=by refine rwm _ ?_ e0;exact BK _
 refine⟨λh1 h2=>?_,λh1=>?_⟩
 .show pq _ _ _ _ _=_;unfold pq;exact rwm _ (rwm _ (rwm _ (rwm _ rfl (eb ⟨h1,h2⟩)) e3) e2) (fU ⟨e1,hl,hn⟩)
 .show pq _ _ _ _ _=_;unfold pq;exact rwm _ (rwm _ (rwm _ (rwm _ rfl (hW h1)) e3) e2) (fU ⟨e1,hl,hn⟩)
theorem My(h:D.Wf)(hg:cW D K=some g)(hi:i<5)(hj:j<2)(hb:¬((10+3*(i:Int))∈D.all/\(10+3*(i:Int))∉D.lk)):∃X,br k6 40 602 [au D,.t K,.t (.str (bR i j))] []=some (.error 59,X):=by
 have hc:=(BV h (l:=D.all) (st:=g) (n:=10+3*(i:Int)) (b:=Nat.beq j 0) (by have:=jM h;exact lC this rfl) (wD hi)).2 hb;refine⟨_,rn (e:=fX) (b:=iA) (E:=pr D K (bR i j)) (by lk)
  (aW (rR (l3 hi) (lB hj rfl)) (aW (s:=an iA 1) (vO hj) (jR (BQ (aO (fv:= .t (.top 545)) rfl ?_ (BU h hg hi hj) ?_ (vb rfl hc rfl))))))⟩<;>lk
theorem Mz(h:D.Wf)(hg:cW D K=some g)(hi:i<5)(hj:j<2)(h1:(10+3*(i:Int))∈D.all)(h2:(10+3*(i:Int))∉D.lk):
  br k6 40 602 [au D,.t K,.t (.str (bR i j))] []=some (.ok (.t (aF D.all (eK D.rows g (10+3*(i:Int)) (Nat.beq j 0)))),[]):=by
 have hc:=(BV h (l:=D.all) (st:=g) (n:=10+3*(i:Int)) (b:=Nat.beq j 0) (by have:=jM h;exact Do this) (wD hi)).1 h1 h2;refine dT (e:=fX) (b:=iA) (E:=pr D K (bR i j)) (O2:=el D K (bR i j) i j) (by lk)
  (aW (rR (Dp hi) (Dq hj)) (aW (s:=an iA 1) (vO hj) (ci (eh (aO (fv:= .t (.top 545)) rfl ?_ (BU h hg hi hj) ?_ (cm rfl hc rfl)))))) rfl<;>lk
end
def mh:b8:=oW λx y z O=>nl O (i8 x λD=>aT y λK=>aT z λz=>eS z λs=>nj (br k6 40 602 [au D,.t K,.t (.str s)] []))
theorem MA:cG (R k6 40) 602 mh:=u6 λx y z O q h s _ _ _=>bT h λh=>jJ h s λD hw h=>bY h λK h=>bY h λz h=>ge h λs h=>vg (LC.refl _) h
def kA:aN:=bp 624 km av
theorem BW:aC kA 30:=aC.add aC.start (aC.start.mono (ix _)) (by decide) vh
theorem vP{r:aG}(h:r.test a e O=some (.ok b,E)):oy r e [a] O=some (.ok b,E):=by
 show bm (r.test a e) (λb=>if b then pm true else pm false) O=_;refine a0 (az h) ?_;clear h;cases b<;>rfl
theorem MB(h1:vw v O=some (.int a))(h2:vw u O=some (.int b)):dP .Eq v u O=some (.ok (decide (a=b)),O):=by
 show bm (aE v) (λx=>bm (aE u) λy=>om (gQ .Eq x y)) O=_;refine rwm _ (rwm _ ?_ (az (dX h2))) (az (dX h1));rfl
noncomputable def eM(ns:List Int):List Int->Int->List Int
 |[],_=>[]
 |n::l,at_=>if drawn ns at_ 3=1 then n::eM ns l (at_+1) else eM ns l (at_+1)
theorem BX(ns:List Int)(i:Int):∀(A l:List Int),ku (λA a=>cond (decide (drawn ns (i+(A.length:Int)) 3=1)) (some (T.int a)) none) A l=(eM ns l (i+(A.length:Int))).map T.int
 |_,[]=>rfl
 |A,a::l=>by
  unfold ku;refine rwm _ ?_ (BX ns i (A++[a]) l);show _=(if drawn ns (i+(A.length:Int)) 3=1 then a::eM ns l (i+(A.length:Int)+1) else eM ns l (i+(A.length:Int)+1)).map T.int;have e:i+((A++[a]).length:Int)=i+(A.length:Int)+1:=by refine rwm _ ?_ i6;simp;exact(Int.add_assoc _ _ _).symm
  refine rwm _ ?_ e
  by_cases h:drawn ns (i+(A.length:Int)) 3=1
  .refine rwm _ (rwm _ ?_ (ii h)) (eb h);rfl
  .refine rwm _ (rwm _ ?_ (le h)) (hW h);rfl
noncomputable def cZ(H:List (Int×Int×Int))(t:T):T:= .box (.tape H) t
noncomputable def vQ(q:Bool)(U:List T):af:=cond q [.fz (.list U)] []
noncomputable def rS(q:Bool)(U:List T):V:=cond q (.own 1) (.t (.list U))
def rT(q:Bool):AE:=⟨aV (at_ 61),cond q 2 1,[(S "tape",cond q 3 2)],S "_law_some"++nm ".<locals>.",628⟩
def BY:List Stmt:=ba (at_ 61)
def vR:Expr:=bV (an BY 0)
def iC(q:Bool)(H:List (Int×Int×Int))(t:T)(U:List T)(i:Int):af:=[.list [cZ H t,.int i]]++vQ q U++[.ns true [(S "numbers",rS q U)],.cell (some (.own 0))]
def MC(q:Bool)(H:List (Int×Int×Int))(t:T)(U:List T)(i:Int):af:=[.list [cZ H t,.int i]]++cond q [.list U] []++[.ns true [(S "numbers",rS q U)],.cell (some (.own 0))]
section
variable {q:Bool}{H:List (Int×Int×Int)}{ns:List Int}{U:List T}
theorem pw(hc:∀p∈H,drawn ns p.1 p.2.1=p.2.2)(hi:0<=i/\i<1000/\0<m):km [.own 0,.t (.int m)] [.list [cZ H (ak ns),.int i]]=yes (.int (drawn ns i m)) [.list [cZ H (ak ns),.int (i+1)]]:=by
 have e:km [.own 0,.t (.int m)] [.list [cZ H (ak ns),.int i]]=if 0<=i/\i<1000/\0<m then yes (.int (qY H (cy (ak ns)) i m)) [.list [cZ H (ak ns),.int (i+1)]] else none:=rfl
 rw[e,if_pos hi,jC,AC hc]
theorem MD(hc:∀p∈H,drawn ns p.1 p.2.1=p.2.2)(hi:0<=i/\i<1000)(hw:w=[]\/∃b,w=[(S "number",V.t (.int b))]):
  cP kA 27 (rT q) vR (cond q 4 3) (.int a) (iC q H (ak ns) U i++[.ns false w])=some (.ok (cond (decide (drawn ns i 3=1)) (some (.int a)) none),iC q H (ak ns) U (i+1)++[.ns false [(S "number",.t (.int a))]]):=by
 refine kx (q:=decide (drawn ns i 3=1)) (E:=iC q H (ak ns) U i++[.ns false [(S "number",.t (.int a))]]) ?_
  (vP (ey (u:= .t (.int 1)) (E:=iC q H (ak ns) U (i+1)++[.ns false [(S "number",.t (.int a))]]) (O2:=iC q H (ak ns) U (i+1)++[.ns false [(S "number",.t (.int a))]])
   (aO (fv:= .t (.top 624)) (vs:=[.own 0,.t (.int 3)]) (E:=iC q H (ak ns) U i++[.ns false [(S "number",.t (.int a))]]) rfl ?_ ?_ ?_ (cm (p:=⟨[0],[.list [cZ H (ak ns),.int i]]⟩) (bi:=[.own 0,.t (.int 3)]) (X:=[.list [cZ H (ak ns),.int (i+1)]]) ?_ (pw hc ⟨hi.1,hi.2,by decide⟩) ?_)) ?_ (MB rfl rfl))) (λ_=>?_) (λ_=>rfl)
 .cases q<;>refine oE w hw ?_ λb=>?_<;>lk
 all_goals cases q<;>first|rfl|lk
theorem ME(hc:∀p∈H,drawn ns p.1 p.2.1=p.2.2){l:List Int}(hi:0<=i/\i<900)(hl:l.length<50):
  br kA 30 629 [.own 0,rS q (l.map T.int)] ([.list [cZ H (ak ns),.int i]]++cond q [.list (l.map T.int)] [])=some (.ok (.t (ak (eM ns l i))),[.list [cZ H (ak ns),.int (i+(l.length:Int))]]++vQ q (l.map T.int)):=by
 have c:bZ (cP kA 27 (rT q) vR (cond q 4 3)) (l.map T.int) [] (iC q H (ak ns) (l.map T.int) i++[.ns false []])=
   some (.ok ((eM ns l i).map T.int),iC q H (ak ns) (l.map T.int) (i+(l.length:Int))++[.ns false (cO T.int (S "number") l)]):=by
  have:=rm T.int (λA=>iC q H (ak ns) (l.map T.int) (i+(A.length:Int))++[.ns false (cO T.int (S "number") A)]) (λA a=>cond (decide (drawn ns (i+(A.length:Int)) 3=1)) (some (T.int a)) none)
   (cP kA 27 (rT q) vR (cond q 4 3)) l [] [] (by simp;exact lB (lv hl) rfl) λA a B e=>by
    rw[Bb];have c4:A.length<l.length:=by rw[List.nil_append] at e;refine rwm _ ?_ e;simp
    refine a0 (MD (q:=q) (U:=l.map T.int) (a:=a) hc (i:=i+(A.length:Int)) (DT hi hl c4) (Bc T.int (S "number") A)) ?_
    congr 4
    refine rwm _ ?_ i6;simp;exact Int.add_assoc _ _ _
  rw[BX] at this;simp at this;rw[show cO T.int (S "number") ([]:List Int)=[] from rfl] at this;exact this
 refine dT (e:=rT q) (b:=BY) (E:=MC q H (ak ns) (l.map T.int) i) (O2:=iC q H (ak ns) (l.map T.int) (i+(l.length:Int))++[.list ((eM ns l i).map T.int)]) (v:= .own (cond q 4 3)) ?_
  (ci (eh (lU (O2:=iC q H (ak ns) (l.map T.int) i) c (N:=cO T.int (S "number") l) ?_ ?_ ?_))) ?_<;>(clear c;cases q)<;>first|rfl|lk
end
def rU(U:List T):Option (List Int):=match cX U with
 |some l=>cond (decide (l=aQ l.length)&&Nat.ble l.length 4) (some l) none
 |none=>none
def rV(q:Bool)(H:List (Int×Int×Int))(t:T)(i:Int)(U:List T):cF:=match rU U with
 |some l=>cond (decide (0<=i)&&decide (i<900)) (yes (.box (.ints 4) (ak (eM (cy t) l i))) ([.list [.box (.tape H) t,.int (i+(l.length:Int))]]++vQ q U)) none
 |none=>none
def BZ:b8:=jE λx y O=>lD x 0 (un O λm l=>qZ m λH t i=>d4 (lD y 1 (un l λm2 l2=>nl l2 (uY m2 λU=>rV true H t i U))) (aT y λu=>nl l (fK u λU=>rV false H t i U)))
theorem vS:∀{U:List T}{l:List Int},cX U=some l->U=l.map T.int
 |[],l,h=>by cases h;rfl
 | .int a::U,l,h=>by
  have h:(cX U).map (a::·)=some l:=h
  cases e:cX U with
  |none=>rw[e] at h;exact nso h
  |some N=>
   rw[e] at h;cases h;refine rwm _ ?_ (vS e);rfl
 | .none::_,_,h=>nomatch h
 | .bool _::_,_,h=>nomatch h
 | .str _::_,_,h=>nomatch h
 | .bytes _::_,_,h=>nomatch h
 | .typ _::_,_,h=>nomatch h
 | .bi _::_,_,h=>nomatch h
 | .top _::_,_,h=>nomatch h
 | .range _ _::_,_,h=>nomatch h
 | .list _::_,_,h=>nomatch h
 | .tuple _::_,_,h=>nomatch h
 | .dict _::_,_,h=>nomatch h
 | .inst _ _::_,_,h=>nomatch h
 | .box _ _::_,_,h=>nomatch h
theorem MF{l:List Int}(h:rU U=some l):U=l.map T.int/\l=aQ l.length/\l.length<=4:=by
 unfold rU at h
 cases e:cX U with
 |none=>rw[e] at h;exact nso h
 |some N=>
  rw[e] at h;dsimp only at h
  cases hc:(decide (N=aQ N.length)&&Nat.ble N.length 4) with
  |false=>rw[hc] at h;exact nso h
  |true=>
   rw[hc] at h;cases h;rw[Bool.and_eq_true] at hc;exact⟨vS e,hG hc.1,a4 hc.2⟩
theorem rW(ns:List Int):∀(l:List Int)(i:Int),List.Sublist (eM ns l i) l
 |[],_=> .slnil
 |a::l,i=>by
  by_cases h:drawn ns i 3=1
  .refine rwm _ ?_ (show eM ns (a::l) i=_ from eb h);exact(rW ns l (i+1)).cons₂ a
  .refine rwm _ ?_ (show eM ns (a::l) i=_ from hW h);exact(rW ns l (i+1)).cons a
theorem py(ns:List Int)(m:Nat)(i:Int):eQ m (eM ns (aQ m) i):=
 ⟨(rW ns (aQ m) i).nodup (vn m),λn hn=>(rW ns (aQ m) i).subset hn⟩
theorem MG(h:m<=k)(hn:n∈aQ m):n∈aQ k:=by
 refine al (i4.mp hn) λi h1 h2=>i4.mpr ⟨i,a5 h1 h,h2⟩
theorem MH(h:m<=k)(hs:eQ m ns):eQ k ns:=⟨hs.1,λn hn=>MG h (hs.2 n hn)⟩
theorem B0(h:eW (.list (.box (.tape H) t::U))):lA (.tape H) t:=(kj (AA h _ (.head _))).1
theorem B3{p:Except Addr T×af}(h:rV q H t i U=some (some p))(ho:eW (.list [.box (.tape H) t,.int i])):gl (R kA 30) 629 [.own 0,rS q U] ([.list [.box (.tape H) t,.int i]]++cond q [.list U] []) p:=by
 unfold rV at h
 cases hl:rU U with
 |none=>rw[hl] at h;exact nso h
 |some l=>
  rw[hl] at h;(refine aw (MF hl) λc2 e2 e3=>?_;clear hl;subst c2);(refine ag (B0 ho) λns c3=>bK c3 λn1 n2 cr n3=>?_;clear c3;clear ho;subst cr)
  cases hc:(decide (0<=i)&&decide (i<900)) with
  |false=>rw[hc] at h;exact nso h
  |true=>
   rw[hc] at h;cases h;rw[Bool.and_eq_true] at hc;refine⟨_,_,_,LC.refl _,SC.refl _,(ME (q:=q) (l:=l) n3 ⟨hG hc.1,hG hc.2⟩ (lC e3 rfl)),?_,SC.refl _⟩;rw[jC];exact TC.box (TC.refl _) ⟨_,by refine rwm _ ?_ e2;exact MH e3 (py _ _ _),rfl⟩
theorem MI:cG (R kA 30) 629 BZ:=nb λx y O q h _ _ ho=>by
 revert ho;refine mE h λh=>cK h λm l h=>uZ (P:=λm=>(∀Q∈m::l,eW Q)->gl (R kA 30) 629 [V.own 0,y] (m::l) q) h λH t i h=>gM h (λh=>?_) (λh=>?_)
 .refine mE h λh=>cK h λm2 l2 h=>bT h λh=>AD h λU h ho=>B3 h (ho _ (.head _))
 .refine bY h λu h=>bT h λh=>j5 h λU h ho=>B3 h (ho _ (.head _))
def rX:AE:=⟨aV (at_ 62),0,[],S "_law_refs"++nm ".<locals>.",633⟩
def vT:Expr:=bV (an (ba (at_ 62)) 0)
def nH(l:List Int):af:=[.ns true [(S "numbers",.t (ak l))]]
theorem MJ(l:List Int)(a:Int)(hw:w=[]\/∃b,w=[(S "number",V.t (.int b))]):
  cP av 27 rX vT 1 (.int a) (nH l++[.ns false w])=some (.ok (some (ao a)),nH l++[.ns false [(S "number",.t (.int a))]]):=by
 refine oE w hw ?_ λb=>?_<;>lk
theorem B4{l:List Int}(hl:l.length<100):br av 30 634 [.t (ak l)] []=some (.ok (.t (aK l)),[]):=by
 have c:bZ (cP av 27 rX vT 1) (l.map T.int) [] (nH l++[.ns false []])=some (.ok (l.map ao),nH l++[.ns false (cO T.int (S "number") l)]):=by
  have:=jO T.int (S "number") (λn=>some (ao n)) (cP av 27 rX vT 1) (nH l) l (lB (lv hl) rfl) λa ha w hw=>MJ l a hw;refine a0 this ?_
  congr 2
  exact rwm _ rfl ln
 exact dT (e:=rX) (b:=ba (at_ 62)) (E:=nH l) (by lk) (ci (eh (lU c rfl rfl (by lk)))) rfl
def vU(U:List T):Option (List Int):=match cX U with
 |some l=>cond (Nat.ble l.length 50) (some l) none
 |none=>none
def B5(U:List T):cF:=match vU U with
 |some l=>yes (.list (l.map ao)) []
 |none=>none
def B6:b8:=iY λx O=>nl O (aT x λu=>d4 (j4 u λg t=>xm g λk=>cond (Nat.beq k 4) (yes (.box (.refs 4) (aK (cy t))) []) none) (fK u B5))
theorem MK:cG (R av 30) 634 B6:=jD λx O q h s _=>bT h λh=>by
 revert s;refine bY h λu h=>gM h (λh=>?_) (λh=>?_)
 .refine jm h λg t h=>Fo h λk h s=>?_
  cases hk:Nat.beq k 4 with
  |false=>rw[hk] at h;exact nso h
  |true=>
  rw[hk] at h;have hk:=hY hk;subst hk;(refine ag ((kj (kl s)).1) λns c1=>ac c1 λhs bo=>?_;clear c1;subst bo);cases h;have hl:ns.length<100:=by have:=rb hs.1 hs.2;rw[rd] at this;exact lC this rfl
  refine⟨[.t (ak ns)],[],_,⟨TC.unbox (TC.refl _),trivial⟩,trivial,B4 hl,?_,trivial⟩;rw[jC];exact TC.box (TC.refl _) ⟨ns,hs,rfl⟩
 .refine j5 h λU h s=>?_;unfold B5 at h
  cases hl:vU U with
  |none=>rw[hl] at h;exact nso h
  |some l=>
   rw[hl] at h;unfold vU at hl
   cases e:cX U with
   |none=>rw[e] at hl;exact nso hl
   |some N=>
    rw[e] at hl;dsimp only at hl
    cases hb:Nat.ble N.length 50 with
    |false=>rw[hb] at hl;exact nso hl
    |true=>
     rw[hb] at hl;cases hl;cases h;have:=vS e;clear s e;subst this;have:=a4 hb;exact⟨[.t (ak l)],[],_,LC.refl _,trivial,B4 (lC this rfl),TC.refl _,trivial⟩
def kB:aN:=bp 629 BZ (bp 634 B6 kA)
theorem ML:aC kB 60:=aC.add BW (aC.add aC.start (BW.mono (by decide)) (by decide) MK) (by decide) MI
noncomputable def nI(ns:List Int)(l:List Int):Nat->Int->List (List Int)
 |0,_=>[]
 |k+1,at_=>eM ns l at_::nI ns l k (at_+(l.length:Int))
def B7(ns:List Int)(m b c:Nat)(o:Bool):ah:=
 ⟨m,o,b,eM ns (aQ m) 2,eM ns (aQ m) (2+(m:Int)),eM ns (aQ m) (3+2*(m:Int)+(c:Int)*(m:Int)),nI ns (aQ m) c (3+2*(m:Int)),0,0⟩
noncomputable def vV(m c:Nat):Int:=4+3*(m:Int)+(c:Int)*(m:Int)
noncomputable def rY(m b c:Nat)(o:Bool):List (Int×Int×Int):=[(0,5,(m:Int)),(1,3,(b:Int)),(2+2*(m:Int),3,(c:Int)),(3+3*(m:Int)+(c:Int)*(m:Int),2,cond o 1 0)]
def rB(l:List Int):T:= .box (.refs 4) (aK (cy (ak l)))
def hM(l:List Int):T:= .box (.ints 4) (ak l)
def pz(D:ah):T:= .inst 435 [(aA "table",.dict ((.int 1,.tuple [.int 0,.dict [(.str (aA "Type"),gK "Catalog"),
  (.str (aA "OCProperties"),.dict [(.str (aA "OCGs"),.list (D.order.map ao)),(.str (aA "D"),.dict ([(.str (aA "ON"),rB D.on),(.str (aA "OFF"),rB D.off),(.str (aA "Locked"),rB D.lk),(.str (aA "RBGroups"),.list (D.rows.map rB))]++lz D.base))])]])::aI 0 D.m)),
 (aA "trailer",.dict [(.str (aA "Root"),ao 1)])]
def pA(D:ah):T:= .dict [(.str (aA "base"),.str (aA (th D.base))),(.str (aA "on"),hM D.on),(.str (aA "off"),hM D.off),(.str (aA "rows"),.list (D.rows.map hM)),
 (.str (aA "locked"),hM D.lk),(.str (aA "order"),ak D.order)]
noncomputable def vW:List (Nat×Nat×Nat×Bool):=[0,1,2,3,4].flatMap λm=>[0,1,2].flatMap λb=>[0,1,2].flatMap λc=>[false,true].map λo=>(m,b,c,o)
def jf:AE:=⟨aV (at_ 63),1,[(S "numbers",3),(S "tape",2)],S "_law_document"++nm ".<locals>.",638⟩
def lg:List Stmt:=ba (at_ 63)
noncomputable def nJ(f:List T):af:=[.list f,.ns true [],.cell (some (.own 0)),.cell none]
def vX(f:List T)(o:Bool)(m:Nat)(tk:List (aj×T))(d g h b c:T)(tab:List (aj×T)):af:=[.list f,.ns true [(S "told_of",.own 5),(S "first",.own (cond o 8 7)),(S "table",.own (cond o 12 11))],.cell (some (.own 0)),.cell (some (.own 4)),.fz (ak (aQ m)),.dict tk,.fz d]++
 cond o [.fz (ak (aQ m).reverse)] []++[.fz g,.fz h,.fz b,.fz c,.dict tab]
def rZ(D:ah):T:= .dict ([(.str (aA "ON"),rB D.on),(.str (aA "OFF"),rB D.off),(.str (aA "Locked"),rB D.lk),(.str (aA "RBGroups"),.list (D.rows.map rB))]++lz D.base)
def r5(D:ah):T:= .dict [(.str (aA "OCGs"),.list (D.order.map ao)),(.str (aA "D"),rZ D)]
def nK(D:ah):T:= .dict [(.str (aA "Type"),gK "Catalog"),(.str (aA "OCProperties"),r5 D)]
def vY(D:ah):List (aj×T):=[(.str (aA "base"),.str (aA (th D.base))),(.str (aA "on"),hM D.on),(.str (aA "off"),hM D.off),(.str (aA "rows"),.list (D.rows.map hM)),(.str (aA "locked"),hM D.lk),(.str (aA "order"),ak D.order)]
def r7(f:List T)(o:Bool)(D:ah):af:=vX f o D.m (vY D) (.list (D.rows.map hM)) (rZ D) (.list (D.rows.map rB)) (r5 D) (nK D) [(.int 1,.tuple [.int 0,nK D])]
def fb(r:aG)(e:AE)(l:List Stmt)(k:Nat)(O:af):Option (Except Addr V×af):=bm (eu r l e) (λv=>fq k v) O
noncomputable def fC{α β:Type}(f:α->β):List α->List β
 |[]=>[]
 |a::l=>f a::fC f l
theorem fY{α β:Type}{f g:α->β}:∀{l:List α},l.map f=fC g l->∀{a:α},a∈l->f a=g a
 |b::l,h,a,ha=>by
  have h:=h
  injection h with h1 h2
  (refine a2 (hy.mp ha) (λzz=>?_) (λha=>?_);clear h;subst zz;rotate_left;rotate_right)
  .exact h1
  .exact fY h2 ha
theorem MN(f:List T)(o:Bool)(tk:List (aj×T))(d g h b c x:T):fA.map (λm=>fb (R kB 59) jf (lg.drop 9) 1 (vX f true m tk d g h b c [(.int 1,x)]))=
  fC (λm=>some (.ok (.t (.tuple [.inst 435 [(aA "table",.dict ((.int 1,x)::aI 0 m)),(aA "trailer",.dict [(.str (aA "Root"),ao 1)])],.dict tk])),[.list f])) fA:=by lk
theorem MP(f:List T)(o:Bool)(tk:List (aj×T))(d g h b c x:T):fA.map (λm=>fb (R kB 59) jf (lg.drop 9) 1 (vX f false m tk d g h b c [(.int 1,x)]))=
  fC (λm=>some (.ok (.t (.tuple [.inst 435 [(aA "table",.dict ((.int 1,x)::aI 0 m)),(aA "trailer",.dict [(.str (aA "Root"),ao 1)])],.dict tk])),[.list f])) fA:=by lk
def iD(t:T)(m b c:Nat)(o:Bool)(i:Int):List T:=[.box (.tape (rY m b c o)) t,.int i]
set_option tactic.hygienic true in
theorem MQ(t:T):vW.map (λp=>Mo kB 59 jf (lg.take 9) (nJ (iD t p.1 p.2.1 p.2.2.1 p.2.2.2 0)))=
  fC (λp=>some (.ok .next,r7 (iD t p.1 p.2.1 p.2.2.1 p.2.2.2 (vV p.1 p.2.2.1)) p.2.2.2 (B7 (cy t) p.1 p.2.1 p.2.2.1 p.2.2.2))) vW:=by lk
def mD(ns:List Int):Nat:=(drawn ns 0 5).toNat
def bD(ns:List Int):Nat:=(drawn ns 1 3).toNat
def cQ(ns:List Int):Nat:=(drawn ns (2+2*(mD ns:Int)) 3).toNat
def oD(ns:List Int):Bool:=decide (drawn ns (3+3*(mD ns:Int)+(cQ ns:Int)*(mD ns:Int)) 2=1)
def cR(ns:List Int):ah:=B7 ns (mD ns) (bD ns) (cQ ns) (oD ns)
def fD(ns:List Int):Int:=vV (mD ns) (cQ ns)
theorem gC(ns:List Int)(i:Int)(hm:0<m):0<=drawn ns i m/\drawn ns i m<m:=⟨Int.fmod_nonneg_of_pos _ hm,Int.fmod_lt_of_pos _ hm⟩
theorem sb(ns:List Int):mD ns<=4:=by have:=gC ns 0 (m:=5) (by decide);unfold mD;exact i2 (pP this.1 this.2)
theorem B8(ns:List Int):bD ns<=2:=by have:=gC ns 1 (m:=3) (by decide);unfold bD;exact i2 (pP this.1 this.2)
theorem vZ(ns:List Int):cQ ns<=2:=by have:=gC ns (2+2*(mD ns:Int)) (m:=3) (by decide);unfold cQ;exact i2 (pP this.1 this.2)
theorem MR(ns:List Int):∀q∈rY (mD ns) (bD ns) (cQ ns) (oD ns),drawn ns q.1 q.2.1=q.2.2:=by
 intro q hq;unfold rY at hq;simp only[List.mem_cons,List.not_mem_nil,or_false] at hq;rcases hq with rfl|rfl|rfl|rfl
 .have:=gC ns 0 (m:=5) (by decide);refine(?_:drawn ns 0 5=(mD ns:Int));unfold mD;exact(Int.toNat_of_nonneg this.1).symm
 .have:=gC ns 1 (m:=3) (by decide);refine(?_:drawn ns 1 3=(bD ns:Int));unfold bD;exact(Int.toNat_of_nonneg this.1).symm
 .have:=gC ns (2+2*(mD ns:Int)) (m:=3) (by decide);refine(?_:drawn ns (2+2*(mD ns:Int)) 3=(cQ ns:Int));unfold cQ;exact(Int.toNat_of_nonneg this.1).symm
 .have:=gC ns (3+3*(mD ns:Int)+(cQ ns:Int)*(mD ns:Int)) (m:=2) (by decide);refine(?_:drawn ns (3+3*(mD ns:Int)+(cQ ns:Int)*(mD ns:Int)) 2=cond (oD ns) 1 0);unfold oD
  by_cases h:drawn ns (3+3*(mD ns:Int)+(cQ ns:Int)*(mD ns:Int)) 2=1
  .refine rwm _ ?_ (ii h);exact h
  .refine rwm _ ?_ (le h);show _=(0:Int);exact DF this h
theorem v4(ns:List Int)(m:Nat):∀(k:Nat)(i:Int),(nI ns (aQ m) k i).length=k/\∀r∈nI ns (aQ m) k i,eQ m r
 |0,_=>⟨rfl,λ_ h=>nomatch h⟩
 |k+1,i=>by
  refine ac (v4 ns m k (i+((aQ m).length:Int))) λh1 h2=>⟨by show(nI ns (aQ m) k _).length+1=k+1;exact rwm _ rfl h1,λr hr=>?_⟩;(refine a2 (hy.mp hr) (λzz=>?_) (λhr=>?_);subst zz;rotate_left;rotate_right)
  .exact py _ _ _
  .exact h2 r hr
theorem v5(ns:List Int):(cR ns).Wf where
 m:=sb ns
 base:=B8 ns
 on:=py _ _ _
 off:=py _ _ _
 lk:=py _ _ _
 few:=by have:=(v4 ns (mD ns) (cQ ns) (3+2*(mD ns:Int))).1;refine(?_:(nI ns (aQ (mD ns)) (cQ ns) (3+2*(mD ns:Int))).length<=2);exact DG this (vZ ns)
 rows:=(v4 ns (mD ns) (cQ ns) (3+2*(mD ns:Int))).2
 st:=by refine(?_:0<=2);decide
 k:=λh=>nomatch (h:0=2)
theorem B9(h:n<=2):n∈[0,1,2]:=(by decide+kernel:∀n,n<=2->n∈[0,1,2]) n h
theorem MS(hm:m<=4)(hb:b<=2)(hn:c<=2):(m,b,c,o)∈vW:=
 List.mem_flatMap.mpr ⟨m,mf (Nat.lt_succ_of_le hm),List.mem_flatMap.mpr ⟨b,B9 hb,List.mem_flatMap.mpr ⟨c,B9 hn,hK.mpr ⟨o,by cases o<;>simp,rfl⟩⟩⟩⟩
theorem sd(l:List Int):TC (rB l) (aK l):=by
 unfold rB;rw[jC];exact TC.unbox (TC.refl _)
theorem se(l:List Int):TC (hM l) (ak l):=TC.unbox (TC.refl _)
theorem v6{α:Type}{f g:α->T}(h:∀a,TC (f a) (g a)):∀l:List α,bG (l.map f) (l.map g)
 |[]=>bG.refl _
 |a::l=>bG.cons (h a) (v6 h l)
theorem Ca{D:ah}(h:D.st=0):D.tree= .inst 435 [(aA "table",.dict ((.int 1,.tuple [.int 0,.dict [(.str (aA "Type"),gK "Catalog"),(.str (aA "OCProperties"),.dict [(.str (aA "OCGs"),.list (D.order.map ao)),(.str (aA "D"),
  .dict ([(.str (aA "ON"),aK D.on),(.str (aA "OFF"),aK D.off),(.str (aA "Locked"),aK D.lk),(.str (aA "RBGroups"),.list (D.rows.map aK))]++lz D.base))])]])::aI 0 D.m)),(aA "trailer",.dict [(.str (aA "Root"),ao 1)])]:=by
 rcases D with⟨m,rev,b,on,off,lk,rows,st,k⟩;cases h;show T.inst 435 [(aA "table",.dict ((.int 1,.tuple [.int 0,.dict [(.str (aA "Type"),gK "Catalog"),(.str (aA "OCProperties"),.dict [(.str (aA "OCGs"),.list ((ah.order ⟨m,rev,b,on,off,lk,rows,0,k⟩++[]).map ao)),(.str (aA "D"),
  .dict ([(.str (aA "ON"),aK on),(.str (aA "OFF"),aK off),(.str (aA "Locked"),aK lk),(.str (aA "RBGroups"),.list (rows.map aK))]++lz b))])]])::(aI 0 m++[]))),(aA "trailer",.dict [(.str (aA "Root"),ao 1)])]=_
 rw[List.append_nil,List.append_nil]
theorem MT{D:ah}(h:D.st=0):TC (pz D) D.tree:=by
 refine rwm _ ?_ (Ca h);exact TC.inst (gZ.cons (TC.dict (b0.cons (TC.tuple (bG.cons (TC.refl _) (bG.cons (TC.dict (b0.cons (TC.refl _) (b0.cons (TC.dict (b0.cons (TC.refl _) (b0.cons
  (TC.dict (b0.cons (sd _) (b0.cons (sd _) (b0.cons (sd _) (b0.cons (TC.list (v6 sd _)) (b0.refl _)))))) (b0.refl _)))) (b0.refl _)))) (bG.refl _)))) (b0.refl _))) (gZ.refl _))
theorem MU(D:ah):TC (pA D) D.toldT:=
 TC.dict (b0.cons (TC.refl _) (b0.cons (se _) (b0.cons (se _) (b0.cons (TC.list (v6 se _)) (b0.cons (se _) (b0.refl _))))))
theorem lj{c:aN}{n:Nat}{e:AE}{O E O3:af}{a:Addr}{be:List V}{st:Stmt}{q:Str}{d:List T}{c6:Addr}{H:List (Str×V)}{v:V}(ht:fR (Pc c) (R c n) a be O=ij (Pc c) (R c n) a be O)(hf:(Pc c).fns a=some ⟨st,q,d,c6⟩)(cp:oY st=true)
  (hb:d8 (fg st).args be d=some H)(he:kp (aV st) q c6 H O=some (.ok e,E))(hr:fb (R c n) e (ba st) O.length E=some (.ok v,O3)):(R c (n+1)).call (.t (.top a)) be O=some (.ok v,O3):=by
 refine a0 (vc ht hf cp hb he) ?_;exact hr
set_option tactic.hygienic true in
theorem eN{l:List Stmt}(h1:aR r e (l.take j) O=some (.ok .next,E))(h2:fb r e (l.drop j) k E=B):fb r e l k O=B:=by
 have e1:=Ky j h1 rfl;have e2:eu r l e O=eu r (l.drop j) e E:=by
  unfold eu bm;exact rwm _ rfl e1
 refine rwl _ ?_ h2;unfold fb bm;exact rwm _ rfl e2
theorem MV(o:Bool)(f:List T)(D:ah)(hm:D.m∈fA):fb (R kB 59) jf (lg.drop 9) 1 (r7 f o D)=some (.ok (.t (.tuple [pz D,pA D])),[.list f]):=by
 cases o with
 |true=>exact fY (MN f true (vY D) (.list (D.rows.map hM)) (rZ D) (.list (D.rows.map rB)) (r5 D) (nK D) (.tuple [.int 0,nK D])) hm
 |false=>exact fY (MP f false (vY D) (.list (D.rows.map hM)) (rZ D) (.list (D.rows.map rB)) (r5 D) (nK D) (.tuple [.int 0,nK D])) hm
theorem MW(f:List T):fR (Pc kB) (R kB 59) 639 [.own 0] [.list f]=ij (Pc kB) (R kB 59) 639 [.own 0] [.list f]:=by lk
theorem MX(f:List T):kp (aV (at_ 63)) (S "_law_document") 638 [(S "tape",.own 0)] [.list f]=some (.ok jf,nJ f):=by lk
set_option tactic.hygienic true in
theorem MY(ns:List Int):aR (R kB 59) jf (lg.take 9) (nJ (iD (ak ns) (mD ns) (bD ns) (cQ ns) (oD ns) 0))=some (.ok .next,r7 (iD (ak ns) (mD ns) (bD ns) (cQ ns) (oD ns) (fD ns)) (oD ns) (cR ns)):=by
 have h1:=fY (MQ (ak ns)) (MS (o:=oD ns) (sb ns) (B8 ns) (vZ ns));dsimp only at h1;rw[jC] at h1;exact h1
theorem MZ(ns:List Int):fb (R kB 59) jf (lg.drop 9) 1 (r7 (iD (ak ns) (mD ns) (bD ns) (cQ ns) (oD ns) (fD ns)) (oD ns) (cR ns))=some (.ok (.t (.tuple [pz (cR ns),pA (cR ns)])),[.list (iD (ak ns) (mD ns) (bD ns) (cQ ns) (oD ns) (fD ns))]):=
 MV (oD ns) (iD (ak ns) (mD ns) (bD ns) (cQ ns) (oD ns) (fD ns)) (cR ns) (mf (by have:=sb ns;refine(?_:mD ns<5);exact lC this rfl))
theorem M0(ns:List Int):fb (R kB 59) jf lg 1 (nJ (iD (ak ns) (mD ns) (bD ns) (cQ ns) (oD ns) 0))=some (.ok (.t (.tuple [pz (cR ns),pA (cR ns)])),[.list (iD (ak ns) (mD ns) (bD ns) (cQ ns) (oD ns) (fD ns))]):=
 eN (MY ns) (MZ ns)
theorem M1(f b:List T)(v:V)(h:fb (R kB 59) jf lg 1 (nJ f)=some (.ok v,[.list b])):(R kB 60).call (.t (.top 639)) [.own 0] [.list f]=some (.ok v,[.list b]):=by
 refine lj (e:=jf) (H:=[(S "tape",.own 0)]) (E:=nJ f) (st:=at_ 63) (q:=S "_law_document") (d:=[]) (MW _) ?_ rfl ?_ (MX _) h
 .lk
 .lk
theorem M2(ns:List Int):(R kB 60).call (.t (.top 639)) [.own 0] [.list (iD (ak ns) (mD ns) (bD ns) (cQ ns) (oD ns) 0)]=some (.ok (.t (.tuple [pz (cR ns),pA (cR ns)])),[.list (iD (ak ns) (mD ns) (bD ns) (cQ ns) (oD ns) (fD ns))]):=M1 _ _ _ (M0 ns)
def M3(t:T):cF:=yes (.tuple [.box (.doc (cR (cy t))) (cR (cy t)).tree,.box (.told (cR (cy t))) (cR (cy t)).toldT]) [.list [.box (.tape []) t,.int (fD (cy t))]]
def sf:b8:=iY λx O=>lD x 0 (un O λm l=>nl l (qZ m λc t i=>nl c (cond (decide (i=0)) (M3 t) none)))
theorem M4:cG (R kB 60) 639 sf:=jD λx O q h _ ho=>by
 revert ho;refine mE h λh=>cK h λm l h=>bT h λh=>uZ (P:=λm=>(∀Q∈[m],eW Q)->gl (R kB 60) 639 [V.own 0] [m] q) h λc t i h=>bT (l:=c) (P:=λc=>(∀Q∈[MO.list [.box (.tape c) t,.int i]],eW Q)->gl (R kB 60) 639 [V.own 0] [MO.list [.box (.tape c) t,.int i]] q) h λhf=>?_
 cases hi:decide (i=0) with
 |false=>rw[hi] at hf;exact nso hf
 |true=>
  rw[hi] at hf;have hi:=hG hi;clear h;subst hi;intro ho;(refine ag (B0 (ho _ (.head _))) λns c3=>bK c3 λn1 n2 cr n3=>?_;clear c3;clear h ho;subst cr);clear h;cases hf;have tk:lA (.tape (rY (mD ns) (bD ns) (cQ ns) (oD ns))) (ak ns):=⟨ns,n1,n2,rfl,MR ns⟩;have b:lA (.tape []) (ak ns):=⟨ns,n1,n2,rfl,n3⟩;rw[jC];refine⟨[.own 0],_,_,LC.refl _,?_,M2 ns,?_,?_⟩
  .exact⟨bG.cons (TC.box (TC.unbox (TC.refl _)) tk) (bG.refl _),trivial⟩
  .exact TC.tuple (bG.cons (TC.box (MT rfl) ⟨v5 ns,rfl⟩) (bG.cons (TC.box (MU _) ⟨v5 ns,rfl⟩) (bG.refl _)))
  .exact⟨bG.cons (TC.box (TC.unbox (TC.refl _)) b) (bG.refl _),trivial⟩
def jg:AE:=⟨aV (at_ 27),0,[(S "value",1)],S "copied"++nm ".<locals>.",348⟩
def Cb:List Stmt:=ba (at_ 27)
noncomputable def Cc(t:T):af:=[.ns true [],.cell (some (.t t))]
def cc(k:Str)(t:T):af:=[.ns true [(S "kind",.t (.str k))],.cell (some (.t t))]
def v7(d:Nat):b8:=iY λx O=>nl O (aT x λu=>j4 u λg t=>xn g λk=>gu (k<=d) (yes (.box (.plain k) t) []))
def cq(d:Nat):aN:=bp 349 (v7 d) av
def gD:Expr:=bV (an (nD (an Cb 1)) 0)
def gE:Expr:=aY (a7 (bV (an (nD (an Cb 2)) 0))) 1
noncomputable def bN(d:Nat)(t:T):T:= .box (.plain d) t
section
variable {d j:Nat}
theorem Cd{f fp p be}(hj:j<=d)(ha:(be.all noStar&&decide (be.length<30))=true)(h1:(R (cq d) (n+1)).ev (.Name f fp) e O=some (.ok (.t (.top 349)),O))(h2:a8 (R (cq d) (n+1)) e be O=some (.ok [.t (bN j t)],E)):
  (R (cq d) (n+2)).ev (.Call (.Name f fp) be [] p) e O=some (.ok (.t (bN j t)),E):=
 aO ha h1 h2 (by lk) (cm rfl (fU hj) rfl)
theorem M5(hj:j<=d)(X:T)(a:T)(hw:w=[]\/∃b,w=[(S "part",V.t (bN j b))]):
  dD (R (cq d) 11) (ja jg gD 2) (aY (a7 gD) 0) (aY (a7 gD) 1) (kJ gD) (bN j a) (cc (S "array") X++[.ns false w])=some (.ok (some (bN j a)),cc (S "array") X++[.ns false [(S "part",.t (bN j a))]]):=by
 refine kx (q:=true) (E:=cc (S "array") X++[.ns false [(S "part",.t (bN j a))]]) (O2:=cc (S "array") X++[.ns false [(S "part",.t (bN j a))]]) ?_ rfl (λ_=>o6 ?_) (λe=>nomatch e)
 .refine oE w hw ?_ λb=>?_<;>lk
 .refine Cd hj ?_ ?_ ?_
  .rfl
  .lk
  .lk
theorem M6(hj:j<=d){U:List T}(hl:U.length<=20):(R (cq d) 15).call (.t (.top 349)) [.t (.list (U.map (bN j)))] []=some (.ok (.t (.list (U.map (bN j)))),[]):=by
 have c:∀X,bZ (dD (R (cq d) 11) (ja jg gD 2) (aY (a7 gD) 0) (aY (a7 gD) 1) (kJ gD)) (U.map (bN j)) [] (cc (S "array") X++[.ns false []])=some (.ok (U.map (bN j)),cc (S "array") X++[.ns false (cO (bN j) (S "part") U)]):=λX=>by
  have:=jO (bN j) (S "part") (λn=>some (bN j n)) (dD (R (cq d) 11) (ja jg gD 2) (aY (a7 gD) 0) (aY (a7 gD) 1) (kJ gD)) (cc (S "array") X) U (lB hl rfl) λa ha w hw=>M5 hj X a hw;refine a0 this ?_
  congr 2
  exact rwm _ rfl ln
 generalize C:U.map (bN j)=ys at c;refine dT (e:=jg) (b:=ba (at_ 27)) (E:=Cc (.list ys)) (O2:=cc (S "array") (.list ys)++[.list ys]) (v:= .own 2) (by lk) ?_ rfl;refine aW (E:=cc (S "array") (.list ys)) ?_ (ci (jG (E:=cc (S "array") (.list ys)) ?_ (ci (eh ((Ba (vd (E:=cc (S "array") (.list ys)) (O2:=cc (S "array") (.list ys)) (x:= .t (.list ys)) (t:= .list ys) (U:=ys) (ce:=ja jg gD 2) (be:=ys) (O3:=cc (S "array") (.list ys)++[.ns false (cO (bN j) (S "part") U)]) (N:=cO (bN j) (S "part") U) ?_ ?_ rfl rfl ?_ (c _) rfl)).trans ?_)))))
 .lk
 .lk
 .rfl
 .lk
 .lk
 .rfl
def dK(j:Nat)(l:List (Str×T)):List (aj×T):=l.map λp=>(.str p.1,bN j p.2)
theorem M7{l:List (Str×T)}(hn:(l.map (·.1)).Nodup)(h:(s,t)∈l):bg (dK j l) (.str s)=some (bN j t):=by
 unfold bg dK
 induction l with
 |nil=>cases h
 |cons a l ih=>
  rw[List.map_cons,List.nodup_cons] at hn;refine rwm _ (rwm _ ?_ m1) ot;(refine bc λno=>a2 (hy.mp h) (λe=>?_) (λh=>?_);refine no ?_;clear no;rotate_left;refine no ?_;clear no;rotate_right)
  .subst e;simp
  .have:(aj.str s==aj.str a.1)=false:=beq_eq_false_iff_ne.mpr λe=>hn.1 (hK.mpr ⟨(s,t),h,aj.str.inj e⟩);refine rwm _ ?_ this;exact ih hn.2 h
theorem M8(l:List (Str×T)):fo (l.map λp=> .tuple [.str p.1,bN j p.2])=some (dK j l):=by
 induction l with
 |nil=>rfl
 |cons a l ih=>
  show(match cE (.str a.1),fo (l.map λp=> .tuple [.str p.1,bN j p.2]) with
   |some k,some l=>some ((k,bN j a.2)::l)
   |_,_=>none)=_
  refine rwm _ ?_ ih;rfl
theorem Ce:∀(l A:List (Str×T)),((A++l).map (·.1)).Nodup->(dK j l).foldl (λd p=>bj d p.1 p.2) (dK j A)=dK j (A++l)
 |[],A,_=>by rw[List.append_nil];rfl
 |a::l,A,h=>by
  show(dK j l).foldl (λd p=>bj d p.1 p.2) (bj (dK j A) (.str a.1) (bN j a.2))=_;have ha:aj.str a.1∉(dK j A).map (·.1):=λhm=>by
   rw[List.map_append,List.nodup_append] at h;refine al (hK.mp hm) λx hx e=>?_;(refine ag (hK.mp hx) λy c1=>ac c1 λL bo=>?_;clear c1;clear hx;subst bo);exact h.2.2 y.1 (hK.mpr ⟨y,L,rfl⟩) a.1 (.head _) (aj.str.inj e)
  rw[nw ha,show dK j A++[(aj.str a.1,bN j a.2)]=dK j (A++[a]) by unfold dK;rw[List.map_append];rfl,Ce l (A++[a]) (by rw[List.append_assoc];exact h),List.append_assoc];rfl
theorem M9(hj:j<=d){l:List (Str×T)}(hn:(l.map (·.1)).Nodup){a:Str×T}(ha:a∈l)(hw:w=[]\/∃b:Str×T,w=[(S "key",V.t (.str b.1))]):
  dD (R (cq d) 10) (ja jg gE 2) (aY (a7 gE) 0) (aY (a7 gE) 1) (kJ gE) (.str a.1) (cc (S "dict") (.dict (dK j l))++[.ns false w])=some (.ok (some (.tuple [.str a.1,bN j a.2])),cc (S "dict") (.dict (dK j l))++[.ns false [(S "key",.t (.str a.1))]]):=by
 have hg:=M7 (j:=j) hn (show(a.1,a.2)∈l from ha);generalize dK j l=ys at hg;refine kx (q:=true) (E:=cc (S "dict") (.dict ys)++[.ns false [(S "key",.t (.str a.1))]]) (O2:=cc (S "dict") (.dict ys)++[.ns false [(S "key",.t (.str a.1))]]) ?_ rfl (λ_=>o6 (nx (E:=cc (S "dict") (.dict ys)++[.ns false [(S "key",.t (.str a.1))]]) ?_
  (Cd (n:=7) hj ?_ ?_ (bx (nu (M:= .t (.dict ys)) (t:= .dict ys) (it:= .str a.1) (E:=cc (S "dict") (.dict ys)++[.ns false [(S "key",.t (.str a.1))]]) rfl ?_ ?_ rfl hg) cb)))) (λe=>nomatch e)
 .refine oE w hw ?_ λb=>?_<;>lk
 .lk
 .rfl
 .lk
 .lk
 .lk
theorem Na(hj:j<=d){l:List (Str×T)}(hn:(l.map (·.1)).Nodup)(hl:l.length<=20):(R (cq d) 15).call (.t (.top 349)) [.t (.dict (dK j l))] []=some (.ok (.t (.dict (dK j l))),[]):=by
 have c:bZ (dD (R (cq d) 10) (ja jg gE 2) (aY (a7 gE) 0) (aY (a7 gE) 1) (kJ gE)) (l.map λp=> .str p.1) [] (cc (S "dict") (.dict (dK j l))++[.ns false []])=some (.ok (l.map λp=> .tuple [.str p.1,bN j p.2]),cc (S "dict") (.dict (dK j l))++[.ns false (cO (λp:Str×T=>T.str p.1) (S "key") l)]):=by
  have:=jO (λp:Str×T=>T.str p.1) (S "key") (λp=>some (.tuple [.str p.1,bN j p.2])) (dD (R (cq d) 10) (ja jg gE 2) (aY (a7 gE) 0) (aY (a7 gE) 1) (kJ gE)) (cc (S "dict") (.dict (dK j l))) l (lB hl rfl) λa ha w hw=>M9 hj hn ha hw;refine a0 this ?_
  congr 2
  exact rwm _ rfl ln
 have d5:d7 (.dict (dK j l))=some (l.map λp=> .str p.1):=by
  show some ((l.map λp=>(aj.str p.1,bN j p.2)).map λp=>dN p.1)=_;refine rwm _ ?_ mc;rfl
 have lN:(dK j l).length<=20:=by unfold dK;rw[List.length_map];exact hl
 have hp:=M8 (j:=j) l;have hf:(dK j l).foldl (λd p=>bj d p.1 p.2) []=dK j l:=Ce l [] (by simpa using hn);generalize C:dK j l=ys at c d5 lN hp hf;generalize f:(l.map λp=>T.tuple [.str p.1,bN j p.2])=m at c hp;have hd:(R (cq d) 11).call (.t (.typ "dict")) [.own 2] (cc (S "dict") (.dict ys)++[.list m])=some (.ok (.own 3),cc (S "dict") (.dict ys)++[.list m]++[.dict ys]):=by
  show bm (om (fo m)) (λN=>if aJ N.length then bP (.dict (N.foldl (λd p=>bj d p.1 p.2) [])) else λ_=>none) _=_;refine rwm _ ?_ hp;show(if aJ ys.length then bP (.dict (ys.foldl (λd p=>bj d p.1 p.2) [])) else λ_=>none:MM V) _=_;refine rwm _ (rwm _ (rwm _ ?_ hf) (eb rfl)) (eX (lB lN rfl));rfl
 refine dT (e:=jg) (b:=ba (at_ 27)) (E:=Cc (.dict ys)) (O2:=cc (S "dict") (.dict ys)++[.list m]++[.dict ys]) (v:= .own 3) (by lk) ?_ rfl;refine aW (E:=cc (S "dict") (.dict ys)) ?_ (aW (E:=cc (S "dict") (.dict ys)) ?_ (ci (jG (E:=cc (S "dict") (.dict ys)) ?_ (ci (eh (aO (fv:= .t (.typ "dict")) (vs:=[.own 2]) (E:=cc (S "dict") (.dict ys)++[.list m]) rfl ?_
  (bx ((Ba (vd (E:=cc (S "dict") (.dict ys)) (O2:=cc (S "dict") (.dict ys)) (x:= .t (.dict ys)) (t:= .dict ys) (U:=l.map λp=> .str p.1) (ce:=ja jg gE 2) (be:=m) (O3:=cc (S "dict") (.dict ys)++[.ns false (cO (λp:Str×T=>T.str p.1) (S "key") l)]) (N:=cO (λp:Str×T=>T.str p.1) (S "key") l) ?_ ?_ rfl d5 ?_ c rfl)).trans ?_) cb) ?_ hd))))))
 .lk
 .lk
 .lk
 .lk
 .rfl
 .lk
 .lk
 .rfl
 .rfl
theorem Nb(hC:C=250\/C=272\/C=321)(fs:List (Str×T)):(R (cq d) 15).call (.t (.top 349)) [.t (.inst C fs)] []=some (.ok (.t (.inst C fs)),[]):=by
 rcases hC with rfl|rfl|rfl<;>lk
end
theorem Cf:∀{U:List T},(∀x∈U,bC j x=true)->bG U (U.map (bN j))
 |[],_=>bG.refl _
 |a::l,h=>bG.cons (TC.box (TC.refl _) (h a (.head _))) (Cf λx hx=>h x (.tail _ hx))
theorem Cg:∀U:List T,bG (U.map (bN j)) U
 |[]=>bG.refl _
 |a::l=>bG.cons (TC.unbox (TC.refl _)) (Cg l)
theorem Ch:∀{l:List (Str×T)},(∀x∈l,bC j x.2=true)->b0 (l.map λp=>(aj.str p.1,p.2)) (dK j l)
 |[],_=>b0.refl _
 |a::l,h=>b0.cons (TC.box (TC.refl _) (h a (.head _))) (Ch λx hx=>h x (.tail _ hx))
theorem Ci:∀l:List (Str×T),b0 (dK j l) (l.map λp=>(aj.str p.1,p.2))
 |[]=>b0.refl _
 |a::l=>b0.cons (TC.unbox (TC.refl _)) (Ci l)
theorem Cj:∀{N:List (aj×T)},(∀p∈N,j2 p.1=true)->∃l:List (Str×T),N=l.map λp=>(aj.str p.1,p.2)
 |[],_=>⟨[],rfl⟩
 |(.str s,t)::N,h=>by
  (refine ag (Cj (N:=N) λp hp=>h p (.tail _ hp)) λl bo=>?_;subst bo);exact⟨(s,t)::l,rfl⟩
 |(.int i,t)::N,h=>nomatch h _ (.head _)
set_option tactic.hygienic true in
theorem Ck(d:Nat):cG (R (cq d) 15) 349 (v7 (d+1)):=jD λx O q h0 s _=>bT h0 λh1=>by
 revert s;clear h0;refine bY h1 λu h2=>?_;clear h1;refine jm h2 λg t h3=>?_;clear h2;refine xo h3 λk h hv=>?_;clear h3
 .skip
  refine ac (kj (kl hv)) λf st=>?_;have tg:=f;clear f;refine ac (ip h) λhk b5=>?_;clear h;cases b5;clear hv
  cases k with
  |zero=>exact ftf tg
  |succ j=>
   have hj:=Nat.le_sub_one_of_lt hk;cases t<;>first|((first|exact ftf tg|cases tg);done)|skip
   .rename_i U
    have c:(decide (U.length<=20)&&U.all (bC j))=true:=tg;rw[Bool.and_eq_true] at c;exact⟨[.t (.list (U.map (bN j)))],[],_,⟨TC.unbox (TC.list (Cf λx hx=>hL.mp c.2 x hx)),trivial⟩,trivial,M6 hj (hG c.1),TC.box (TC.list (Cg U)) tg,trivial⟩
   .rename_i N
    have c:(decide (N.length<=20)&&N.all λp=>j2 p.1&&bC j p.2)=true:=tg;rw[Bool.and_eq_true] at c;have ha:=hL.mp c.2;(refine ag (Cj λp hp=>by have q:=ha p hp;rw[Bool.and_eq_true] at q;exact q.1) λl bo=>?_;subst bo);have hl:∀x∈l,bC j x.2=true:=λx hx=>by have q:=ha (aj.str x.1,x.2) (hK.mpr ⟨x,hx,rfl⟩);rw[Bool.and_eq_true] at q;exact q.2
    have hn:(l.map (·.1)).Nodup:=by
     (refine bc λno=>a9 st λw g x z=>no ?_;clear st no);(refine dm z λ_ _ _ _ _ _ n1 _=>?_;clear z);rw[List.map_map] at n1;have n2:=n1;refine List.pairwise_map.mpr ((List.pairwise_map.mp n2).imp λ{a b} h e=>h ?_);refine(?_:aj.str a.1=aj.str b.1);exact rwm _ rfl e
    have bb:l.length<=20:=by have:=hG c.1;rwa [li] at this
    exact⟨[.t (.dict (dK j l))],[],_,⟨TC.unbox (TC.dict (Ch hl)),trivial⟩,trivial,Na hj hn bb,TC.box (TC.dict (Ci l)) tg,trivial⟩
   .rename_i C fs
    have c:(Nat.beq C 250||Nat.beq C 272||Nat.beq C 321)=true:=tg;have hC:C=250\/C=272\/C=321:=by
     rw[Bool.or_eq_true,Bool.or_eq_true] at c;rcases c with(h|h)|h
     .exact .inl (hY h)
     .exact .inr (.inl (hY h))
     .exact .inr (.inr (hY h))
    exact⟨[.t (.inst C fs)],[],_,⟨TC.unbox (TC.refl _),trivial⟩,trivial,Nb hC fs,TC.box (TC.refl _) tg,trivial⟩
theorem Nc:cG (R av 0) 349 (v7 0):=jD λx O q h0 s _=>bT h0 λh1=>by
 revert s;clear h0;refine bY h1 λu h2=>?_;clear h1;refine jm h2 λg t h3=>?_;clear h2;refine xo h3 λk h hv=>?_;clear h3
 .skip
  refine ac (kj (kl hv)) λtg st=>?_;have tg:=tg;refine ac (ip h) λhk h=>?_;have:k=0:=Nat.eq_zero_of_le_zero hk;clear hv hk h;subst this;exact ftf tg
theorem Cl:∀d,aC (cq d) (15*d)
 |0=>aC.add aC.start aC.start (by decide) Nc
 |d+1=>aC.add (Cl d) (aC.start.mono (ix _)) (show 15*d+15<=15*(d+1) from hX _) (Ck d)
def bO(c:aN)(n:Nat)(a:Addr):b8:=λbe O=>nj ((R c n).call (.t (.top a)) be O)
theorem jS(c:aN)(n:Nat)(a:Addr):cG (R c n) a (bO c n a):=λbe O q h _ _=>vg (LC.refl _) h
theorem VC.trans(x:VC a b)(y:VC b c):VC a c:=by
 cases a<;>cases b<;>first|exact x.elim|skip
 .cases c<;>first|exact y.elim|exact TC.trans x y
 .cases c<;>first|exact y.elim|exact a0 x y
theorem LC.trans:∀{a b c:List V},LC a b->LC b c->LC a c
 |[],[],[],_,_=>trivial
 |_::_,_::_,_::_,x,y=>⟨VC.trans x.1 y.1,LC.trans x.2 y.2⟩
 |[],_::_,_,x,_=>x.elim
 |_::_,[],_,x,_=>x.elim
 |[],[],_::_,_,y=>y.elim
 |_::_,_::_,[],_,y=>y.elim
def Cm:b8:=iY λx O=>nl O (aT x λt=>gu (bC 6 t=true) (yes t []))
theorem Nd:cG (R (cq 5) 15) 349 Cm:=jD λx O q h s _=>bT h λh=>by
 revert s;refine bY h λt h hv=>?_
 .skip
  refine ac (ip h) λhp b5=>?_;cases b5;(refine bc λno=>a9 (kl hv) λw g x hx=>no ?_;clear no);have hb:=TC.box (k:= .plain 6) (TC.refl t) hp;have hs:cN (.t (bN 6 t)):=⟨w,g,[],x,hb _ _ _ hx⟩;refine ch (Ck 5 [.t (bN 6 t)] [] (.ok (bN 6 t),[]) (fU (p:=6<=6) (hX 6)) (λv hv=>by rcases hy.mp hv with rfl|hv;exact hs;cases hv) (λ_ h=>nomatch h)) λbi M q' h1 h2 h3 h4=>⟨bi,M,q',LC.trans (b:=[.t (bN 6 t)]) ⟨hb,trivial⟩ h1,h2,h3,?_⟩;clear h3;rcases q' with⟨u,Y⟩
  match u,h4 with
  | .ok (.t u),h4=>exact⟨TC.trans h4.1 (TC.unbox (TC.refl _)),h4.2⟩
def bI:T:= .dict [(.str (aA "Root"),ao 1)]
def sS(tab:List (aj×T)):af:=[.dict tab,.sh 435 [(S "table",.own 0),(S "trailer",.t bI)]]
theorem Nf(x:T)(more:List (aj×T)):i3.map (λp=>br av 22 465 [.own 1,.t (ao (10+3*(p.2:Int)))] (sS ((.int 1,x)::(aI 0 p.1++more))))=fC (λp=>some (.ok (.t (.bool true)),sS ((.int 1,x)::(aI 0 p.1++more)))) i3:=by lk
theorem Ng(x:T):jI.map (λp=>br av 22 465 [.own 1,.t (ao (23+(p.2:Int)))] (sS ((.int 1,x)::(aI 0 p.1++[(.int (23+(p.2:Int)),dc cj)]))))=fC (λp=>some (.ok (.t (.bool true)),sS ((.int 1,x)::(aI 0 p.1++[(.int (23+(p.2:Int)),dc cj)])))) jI:=by lk
theorem jh{c:aN}(h:br c n a be O=some (.ok (.t t),X)):bO c n a be O=some (some (.ok t,X)):=by
 have h:(R c n).call (.t (.top a)) be O=some (.ok (.t t),X):=h;unfold bO;refine rwm _ ?_ h;rfl
theorem Cn(hm:m<=4)(hn:n∈aQ m)(x:T)(more:List (aj×T)):bO av 22 465 [.own 1,.t (ao n)] (sS ((.int 1,x)::(aI 0 m++more)))=some (some (.ok (.bool true),sS ((.int 1,x)::(aI 0 m++more)))):=by
 (refine ag (i4.mp hn) λi c1=>ac c1 λh1 bo=>?_;clear c1;clear hn;subst bo);have q:=fY (Nf x more) (AV h1 hm);dsimp only at q;exact jh q
def kP:aN:=bp 465 (bO av 22 465) av
theorem Co:aC kP 22:=aC.add aC.start (aC.start.mono (ix _)) (by decide) (jS av 22 465)
def fE(ord:List Int)(A:List (aj×T)):List (aj×T):=[(.str (aA "OCGs"),.list (ord.map ao)),(.str (aA "D"),.dict A)]
def hP(ord:List Int)(A:List (aj×T)):T:= .dict [(.str (aA "Type"),gK "Catalog"),(.str (aA "OCProperties"),.dict (fE ord A))]
def aB(ord:List Int)(A:List (aj×T))(l:List (aj×T)):List (aj×T):=(.int 1,.tuple [.int 0,hP ord A])::l
def co(b:Nat)(on off lk:List Int)(rows:List (List Int)):List (aj×T):=[(.str (aA "ON"),aK on),(.str (aA "OFF"),aK off),(.str (aA "Locked"),aK lk),(.str (aA "RBGroups"),.list (rows.map aK))]++lz b
def bA(lk:List Int)(rows:List (List Int))(I:List Int):List (aj×T):=[(.str (aA "Locked"),aK lk),(.str (aA "RBGroups"),.list (rows.map aK))]++oi I
def iE:AE:=⟨aV (at_ 46),2,[(S "states",4),(S "shelf",3)],S "put_states"++nm ".<locals>.",556⟩
def jT:List Stmt:=ba (at_ 46)
def sg(tab:List (aj×T))(Z:T):af:=sS tab++[.ns true [],.cell (some (.own 1)),.cell (some (.t Z))]
def fc(tab:List (aj×T))(Z:T)(ord:List Int)(A:List (aj×T)):af:=sS tab++[.ns true [(S "head",.own 5),(S "found",.t (.dict A)),(S "first",.own 6)],.cell (some (.own 1)),.cell (some (.t Z)),.dict (fE ord A),.dict A]
def sj(tab:List (aj×T))(Z:T)(ord:List Int)(A:List (aj×T))(I:List Int):af:=sS tab++[.ns true [(S "head",.own 5),(S "found",.t (.dict A)),(S "first",.own 6),(S "off",.own 7)],.cell (some (.own 1)),.cell (some (.t Z)),.dict (fE ord A),.dict A,.list (I.map ao)]
def v8:Expr:=bV (an jT 3)
theorem b3{P:Nat->Prop}(h0:P 0)(h1:P 1)(h2:P 2)(hb:b<=2):P b:=by
 have:b=0\/b=1\/b=2:=sV hb;clear hb;rcases this with rfl|rfl|rfl<;>assumption
section
variable {ord on off lk:List Int}{rows:List (List Int)}{l:List (aj×T)}{f:Int->Bool}{b m:Nat}
set_option tactic.hygienic true in
theorem Nh(Z:T)(hb:b<=2):aR (R kP 34) iE (jT.take 3) (sg (aB ord (co b on off lk rows) l) Z)=some (.ok .next,fc (aB ord (co b on off lk rows) l) Z ord (co b on off lk rows)):=
 b3 (P:=λb=>aR (R kP 34) iE (jT.take 3) (sg (aB ord (co b on off lk rows) l) Z)=some (.ok .next,fc (aB ord (co b on off lk rows) l) Z ord (co b on off lk rows))) (by lk) (by lk) (by lk) hb
theorem Ni{c:aN}(h:(R c n).test a e O=some (.ok q,E)):(R c (n+1)).test (.UnaryOp .Not a p) e O=some (.ok (!q),E):=by
 show bm ((R c n).test a e) (λb=>pm !b) O=_;refine a0 (az h) ?_;rfl
theorem Cp(be:List V)(O:af):kP 465 be O=bO av 22 465 be O:=by lk
theorem Nj(hm:m<=4)(ha:a∈aQ m)(c:a∈ord)(A more:List (aj×T))(hw:w=[]\/∃b,w=[(S "item",V.t (ao b))]):
  cP kP 33 iE v8 7 (ao a) (fc (aB ord A (aI 0 m++more)) (aF ord f) ord A++[.ns false w])=some (.ok (cond (!f a) (some (ao a)) none),fc (aB ord A (aI 0 m++more)) (aF ord f) ord A++[.ns false [(S "item",.t (ao a))]]):=by
 have hc:=Cn hm ha (.tuple [.int 0,hP ord A]) more;have hc:bO av 22 465 [.own 1,.t (ao a)] (sS (aB ord A (aI 0 m++more)))=some (some (.ok (.bool true),sS (aB ord A (aI 0 m++more)))):=hc;generalize aB ord A (aI 0 m++more)=tab at hc;refine kx (q:= !f a) (E:=fc tab (aF ord f) ord A++[.ns false [(S "item",.t (ao a))]]) (O2:=fc tab (aF ord f) ord A++[.ns false [(S "item",.t (ao a))]]) ?_
  (vP (rj (E:=fc tab (aF ord f) ord A++[.ns false [(S "item",.t (ao a))]]) (rk (v:= .t (.bool true)) (E:=fc tab (aF ord f) ord A++[.ns false [(S "item",.t (ao a))]])
   (aO (fv:= .t (.top 465)) (vs:=[.own 1,.t (ao a)]) (E:=fc tab (aF ord f) ord A++[.ns false [(S "item",.t (ao a))]]) rfl ?_ ?_ ?_ (cm (p:=⟨[0,1],sS tab⟩) (bi:=[.own 1,.t (ao a)]) (X:=sS tab) ?_ ((Cp _ _).trans hc) ?_)) rfl)
   (lT (Ni (q:=f a) (rk (v:= .t (.bool (f a))) (E:=fc tab (aF ord f) ord A++[.ns false [(S "item",.t (ao a))]])
    (kn (E:=fc tab (aF ord f) ord A++[.ns false [(S "item",.t (ao a))]]) (O2:=fc tab (aF ord f) ord A++[.ns false [(S "item",.t (ao a))]]) (M:= .t (aF ord f)) (t:=aS ord f) (L:=1) (k:=3) (vs:=[.t (.int a),.t (.bool true)]) rfl ?_ rfl rfl rfl rfl ?_ ?_) rfl))))) (λ_=>?_) (λ_=>rfl)
 .refine oE w hw ?_ λb=>?_<;>lk
 .lk
 .lk
 .lk
 .lk
 .lk
 .lk
 .lk
 .show pm (match bg (ax ord f) (.int a) with|some t=>V.t t|none=> .t (.bool true)) _=_;refine rwm _ (rwm _ ?_ (eb c)) kO;rfl
 .lk
end
theorem Cq{l:List (aj×T)}(h:k∉l.map (·.1)):bj ((k,t)::l) k u=(k,u)::l:=by
 unfold bj;refine a0 (eb (by simp)) ?_;refine a0 ot (rwm _ ?_ (eb rfl));have e:l.map (λG=>if G.1=k then(G.1,u) else G)=l.map λG=>G:=ks λx hx=>hW λe=>h (hK.mpr ⟨x,hx,e⟩);rw[e,List.map_id']
theorem pC:∀(n i:Nat),(aI i n).map (·.1)=(List.range n).map λj=>aj.int (10+3*((i+j:Nat):Int))
 |0,_=>rfl
 |n+1,i=>by
  refine rwm _ ?_ ra;show aj.int (10+3*(i:Int))::(aI (i+1) n).map (·.1)=_;refine rwm _ (rwm _ (rwm _ ?_ mc) ot) (pC n (i+1))
  congr 1
  refine ks λj _=>(?_:aj.int (10+3*((i+1+j:Nat):Int))=aj.int (10+3*((i+(j+1):Nat):Int)));exact rwm _ rfl (show i+1+j=i+(j+1) from Nat.succ_add i j)
theorem Cr(n i:Nat):aj.int 1∉(aI i n).map (·.1):=by
 rw[pC];intro h;refine al (hK.mp h) λj _ e=>?_;have:=aj.int.inj e;exact wA this
section
variable {ord on off lk:List Int}{rows:List (List Int)}{l:List (aj×T)}{f:Int->Bool}{b m:Nat}
noncomputable def c0(ord:List Int)(f:Int->Bool):List Int:=ord.filter λn=> !f n
theorem Nk(f:Int->Bool)(l:List Int):l.filterMap (λa=>cond (!f a) (some (ao a)) none)=(c0 l f).map ao:=by
 unfold c0
 induction l with
 |nil=>rfl
 |cons a l ih=>
  cases h:f a
  .exact rwm _ (rwm _ (rwm _ (rwm _ rfl ih) ot) (List.filter_cons_of_pos (by refine rwm _ ?_ h;rfl))) (p7 (by refine rwm _ ?_ h;rfl))
  .exact rwm _ (rwm _ (rwm _ rfl ih) (List.filter_cons_of_neg (by refine rwm _ ?_ h;decide))) (List.filterMap_cons_none (by refine rwm _ ?_ h;rfl))
set_option tactic.hygienic true in
theorem Nl(hm:m<=4)(ho:∀a∈ord,a∈aQ m)(hl:ord.length<100)(A more:List (aj×T)):(R kP 34).ex (an jT 3) iE (fc (aB ord A (aI 0 m++more)) (aF ord f) ord A)=some (.ok .next,sj (aB ord A (aI 0 m++more)) (aF ord f) ord A (c0 ord f)):=by
 have c:bZ (cP kP 33 iE v8 7) (ord.map ao) [] (fc (aB ord A (aI 0 m++more)) (aF ord f) ord A++[.ns false []])=
   some (.ok ((c0 ord f).map ao),fc (aB ord A (aI 0 m++more)) (aF ord f) ord A++[.ns false (cO ao (S "item") ord)]):=by
  have:=jO ao (S "item") (λa=>cond (!f a) (some (ao a)) none) (cP kP 33 iE v8 7) (fc (aB ord A (aI 0 m++more)) (aF ord f) ord A) ord (lB (lv hl) rfl) λa ha w hw=>Nj hm (ho a ha) ha A more hw;rw[this,Nk]
 exact oX rfl (A9 (lU c rfl rfl (by lk)) (by lk))
noncomputable def pD:List (Nat×Nat):=[0,1,2,3,4].flatMap λm=>[0,1,2].map λb=>(m,b)
theorem Cs(hm:m<=4)(hb:b<=2):(m,b)∈pD:=by
 refine List.mem_flatMap.mpr ⟨m,mf (lC hm rfl),hK.mpr ⟨b,?_,rfl⟩⟩;have:b=0\/b=1\/b=2:=sV hb;clear hb;rcases this with rfl|rfl|rfl<;>simp
theorem Nm(Z:T):pD.map (λp=>fb (R kP 34) iE (jT.drop 4) 2 (sj (aB ord (co p.2 on off lk rows) (aI 0 p.1)) Z ord (co p.2 on off lk rows) []))=fC (λp=>some (.ok (.t .none),sS (bj (aB ord (co p.2 on off lk rows) (aI 0 p.1)) (.int 1) (.tuple [.int 0,hP ord (bA lk rows [])])))) pD:=by lk
theorem Nn(Z:T)(a:Int)(r:List Int):pD.map (λp=>fb (R kP 34) iE (jT.drop 4) 2 (sj (aB ord (co p.2 on off lk rows) (aI 0 p.1)) Z ord (co p.2 on off lk rows) (a::r)))=fC (λp=>some (.ok (.t .none),sS (bj (aB ord (co p.2 on off lk rows) (aI 0 p.1)) (.int 1) (.tuple [.int 0,hP ord (bA lk rows (a::r))])))) pD:=by lk
theorem No(Z:T)(hm:m<=4)(hb:b<=2)(I:List Int):fb (R kP 34) iE (jT.drop 4) 2 (sj (aB ord (co b on off lk rows) (aI 0 m)) Z ord (co b on off lk rows) I)=some (.ok (.t .none),sS (bj (aB ord (co b on off lk rows) (aI 0 m)) (.int 1) (.tuple [.int 0,hP ord (bA lk rows I)]))):=by
 cases I with
 |nil=>
  have q:=fY (Nm (ord:=ord) (on:=on) (off:=off) (lk:=lk) (rows:=rows) Z) (Cs hm hb);dsimp only at q;exact q
 |cons a r=>
  have q:=fY (Nn (ord:=ord) (on:=on) (off:=off) (lk:=lk) (rows:=rows) Z a r) (Cs hm hb);dsimp only at q;exact q
theorem Np(tab:List (aj×T))(Z:T)(h:fb (R kP 34) iE jT 2 (sg tab Z)=some (.ok (.t .none),X)):br kP 35 557 [.own 1,.t Z] (sS tab)=some (.ok (.t .none),X):=by
 refine lj (e:=iE) (H:=[(S "shelf",.own 1),(S "states",.t Z)]) (E:=sg tab Z) (st:=at_ 46) (q:=S "put_states") (d:=[]) (c6:=556) ?_ ?_ ?_ ?_ ?_ h
 .lk
 .lk
 .rfl
 .lk
 .lk
theorem Nq(hm:m<=4)(hb:b<=2)(ho:∀a∈ord,a∈aQ m)(hl:ord.length<100):br kP 35 557 [.own 1,.t (aF ord f)] (sS (aB ord (co b on off lk rows) (aI 0 m)))=some (.ok (.t .none),sS (aB ord (bA lk rows (c0 ord f)) (aI 0 m))):=by
 have h1:=Nl (f:=f) (ord:=ord) (m:=m) hm ho hl (co b on off lk rows) [];rw[List.append_nil] at h1;have h2:=No (ord:=ord) (on:=on) (off:=off) (lk:=lk) (rows:=rows) (aF ord f) hm hb (c0 ord f);rw[show bj (aB ord (co b on off lk rows) (aI 0 m)) (.int 1) (.tuple [.int 0,hP ord (bA lk rows (c0 ord f))])=aB ord (bA lk rows (c0 ord f)) (aI 0 m) from Cq (Cr m 0)] at h2;exact Np _ _ (eN (Nh _ hb) (eN (j:=1) (bv (s:=an jT 3) h1) h2))
end
def Nr:AE:=⟨aV (bf 29 0),2,[],S "Shelf.put"++nm ".<locals>.",398⟩
def Nt:List Stmt:=ba (bf 29 0)
def pE(N:List (aj×T))(n g:T)(v:T):af:=sS N++[.ns true [(S "self",.own 1),(S "number",.t n),(S "generation",.t g),(S "value",.t v)]]
theorem Nu{N:List (aj×T)}(hl:N.length<900)(n:Int)(v:T):br av 15 399 [.own 1,.t (.int n),.t (.int 0),.t v] (sS N)=some (.ok (.t .none),sS (bj N (.int n) (.tuple [.int 0,v]))):=by
 refine lj (e:=Nr) (H:=[(S "self",.own 1),(S "number",.t (.int n)),(S "generation",.t (.int 0)),(S "value",.t v)]) (E:=pE N (.int n) (.int 0) v) (st:=bf 29 0) (q:=S "Shelf.put") (d:=[]) (c6:=398) ?_ ?_ ?_ ?_ ?_ ?_
 .lk
 .lk
 .rfl
 .lk
 .lk
 .refine eN (j:=1) (E:=pE (bj N (.int n) (.tuple [.int 0,v])) (.int n) (.int 0) v) (bv ((dW (v:= .t (.tuple [.int 0,v])) (E:=pE N (.int n) (.int 0) v) rfl rfl rfl ?_ (o7 (k:=0) (it:= .int n) (t:= .tuple [.int 0,v]) (N:=N) (f:= .int n) (E:=pE N (.int n) (.int 0) v) (O2:=pE N (.int n) (.int 0) v) rfl ?_ ?_ rC rfl rfl ?_)).trans ?_)) ?_
  .lk
  .lk
  .lk
  .exact lB hl rfl
  .rfl
  .lk
def Nv:AE:=⟨aV (bf 29 2),2,[],S "Shelf.drop"++nm ".<locals>.",412⟩
def hU(N:List (aj×T))(n:T):af:=sS N++[.ns true [(S "self",.own 1),(S "number",.t n)]]
theorem Nw{N:List (aj×T)}(hl:N.length<900)(hn:bg N (.int n)=some t):br av 15 413 [.own 1,.t (.int n)] (sS N)=some (.ok (.t .none),sS (gO N (.int n))):=by
 refine lj (e:=Nv) (H:=[(S "self",.own 1),(S "number",.t (.int n))]) (E:=hU N (.int n)) (st:=bf 29 2) (q:=S "Shelf.drop") (d:=[]) (c6:=412) ?_ ?_ ?_ ?_ ?_ ?_
 .lk
 .lk
 .rfl
 .lk
 .lk
 .refine eN (j:=1) (E:=hU (gO N (.int n)) (.int n)) (bv (jG (E:=hU N (.int n)) (ey (v:= .t (.int n)) (u:= .own 0) (E:=hU N (.int n)) (O2:=hU N (.int n)) ?_ ?_ (vl (x:= .int n) (y:= .dict N) rfl rfl ?_))
   (bv (jF (v:= .t t) rfl (kn (E:=hU N (.int n)) (O2:=hU N (.int n)) (M:= .own 0) (t:= .dict N) (L:=1) (k:=4) (vs:=[.t (.int n)]) ?_ ?_ ?_ rfl rfl ?_ ?_ ?_))))) ?_
  .lk
  .lk
  .show some ((bg N (.int n)).isSome)=_;refine rwm _ ?_ hn;rfl
  .rfl
  .lk
  .lk
  .lk
  .lk
  .show qd (.own 0) [.t (.int n)] (hU N (.int n))=_;refine a0 (show qd (.own 0) [.t (.int n)] (hU N (.int n))=bm (bw 0) (λQ O=>tB Q λN=>bm (om (cE (.int n))) (λk=>bm (om (bg N k)) λt=>if aJ N.length then bm (put 0 (.dict (gO N k))) λ_=>pm (V.t t) else λ_=>none) O) (hU N (.int n)) from rfl) ?_;refine a0 (az (show bw 0 (hU N (.int n))=some (.ok (.dict N),hU N (.int n)) from rfl)) ?_;show bm (om (bg N (.int n))) (λt=>if aJ N.length then bm (put 0 (.dict (gO N (.int n)))) λ_=>pm (V.t t) else λ_=>none) _=_;refine rwm _ ?_ hn;show(if aJ N.length then bm (put 0 (.dict (gO N (.int n)))) λ_=>pm (V.t t) else λ_=>none:MM V) _=_;refine rwm _ (rwm _ ?_ (eb rfl)) (eX (lB (lv hl) rfl));rfl
  .lk
def kH:aN:=bp 399 (bO av 15 399) av
def kG:aN:=bp 406 (bO av 20 406) (bp 552 (bO kH 30 552) av)
def kK:aN:=bp 557 (bO kP 35 557) (bp 564 (bO kG 40 564) (bp 399 (bO av 15 399) (bp 413 (bO av 15 413) (bp 472 (bO kP 30 472) (bp 349 Cm (bp 588 l5 av))))))
theorem Nx:aC kH 15:=aC.add aC.start (aC.start.mono (ix _)) (by decide) (jS av 15 399)
theorem Ny:aC kG 45:=aC.add aC.start (aC.add Nx (aC.start.mono (ix _)) (by decide) (jS kH 30 552)) (by decide) (jS av 20 406)
theorem Ct:aC kK 260:=aC.add Co (aC.add Ny (aC.add aC.start (aC.add aC.start (aC.add Co (aC.add (Cl 5) (aC.add o9 (aC.start.mono (ix _)) (by decide) Br) (by decide) Nd) (by decide) (jS kP 30 472)) (by decide) (jS av 15 413)) (by decide) (jS av 15 399)) (by decide) (jS kG 40 564)) (by decide) (jS kP 35 557)
noncomputable def aM(l:List (Int×T)):List (aj×T):=l.map λp=>(.int p.1,.tuple [.int 0,p.2])
theorem Cu(l:List (Int×T)):(aM l).length=l.length:=li ..
theorem Nz{l:List (Int×T)}(hn:(l.map (·.1)).Nodup)(h:(s,t)∈l):bg (aM l) (.int s)=some (.tuple [.int 0,t]):=by
 unfold bg aM
 induction l with
 |nil=>cases h
 |cons a l ih=>
  rw[List.map_cons,List.nodup_cons] at hn;refine rwm _ (rwm _ ?_ m1) ot;(refine bc λno=>a2 (hy.mp h) (λe=>?_) (λh=>?_);refine no ?_;clear no;rotate_left;refine no ?_;clear no;rotate_right)
  .subst e;simp
  .have:(aj.int s==aj.int a.1)=false:=beq_eq_false_iff_ne.mpr λe=>hn.1 (hK.mpr ⟨(s,t),h,aj.int.inj e⟩);refine rwm _ ?_ this;exact ih hn.2 h
theorem NA{l:List (Int×T)}(h:a∉l.map (·.1)):aj.int a∉(aM l).map (·.1):=by
 intro hm;refine al (hK.mp hm) λx hx e=>?_;(refine ag (hK.mp hx) λy c1=>ac c1 λL bo=>?_;clear c1;clear hx;subst bo);exact h (hK.mpr ⟨y,L,aj.int.inj e⟩)
section
variable {c:aN}{n:Nat}{e:AE}{O E:af}
theorem ll{fs:List (Str×T)}(hb:fN o=true)(h1:(R c n).ev o e O=some (.ok (.t X),E))(h2:strip X= .inst C fs)(h3:(Pc c).fld C f=true)(h4:fs.lookup f=some t)(h5:iM (.t t)=some (.t t)):
  (R c (n+1)).ev (.Attribute o f p) e O=some (.ok (.t t),E):=by
 show(if fN o then bm ((R c n).ev o e) λM=>qg (Pc c).fld M f else λ_=>none:MM V) O=_;refine rwm _ (rwm _ (rwm _ ?_ (az h1)) (eb rfl)) hb;show mJ (Pc c).fld (strip X) f E=_;refine rwm _ ?_ h2;show(if(Pc c).fld C f then om ((fs.lookup f).bind λt=>iM (.t t)) else λ_=>none:MM V) E=_;refine rwm _ (rwm _ (rwm _ ?_ h4) (eb rfl)) h3;show om (iM (.t t)) E=_;refine rwm _ ?_ h5;rfl
end
def c8(l:List (aj×T))(G:T):T:= .inst 435 [(S "table",.dict l),(S "trailer",G)]
noncomputable def v9(x:Expr)(c:Str)(cl:List (Str×Nat)):MO:=match x with
 | .Lambda ps b sc _=> .clo ps b sc c cl
 |_=> .dead
def lm:List Stmt:=ba (at_ 56)
def lp:List Stmt:=ba (at_ 57)
def mj:Expr:=aY (a7 (aY (a7 (bV (an lm 2))) 0)) 2
def nL:Expr:=aY (a7 (bV (an lp 1))) 3
def pF:MO:=v9 mj (S "keep_laid"++nm ".<locals>."++nm "<lambda>") [(S "states",1)]
def ml:MO:=v9 nL (S "layer_laid"++nm ".<locals>."++nm "<lambda>") [(S "label",1)]
def gF(q:Bool)(y u s z:T):af:=cond q [.ns true [(S "bench",.t y),(S "kept",.t u),(S "rest",.t s)],.cell (some (.t z)),pF,.ns true [(S "bench",.t y),(S "change",.own 2)]]
 [.ns true [(S "bench",.t y),(S "beyond",.t u),(S "rest",.t s)],.cell (some (.t z)),ml,.ns true [(S "bench",.t y),(S "beyond",.t u),(S "change",.own 2)],.cell none]
def sk(q:Bool):AE:=⟨aV (at_ 30),cond q 4 5,[],S "shelf_copied"++nm ".<locals>.",443⟩
def pG:List Stmt:=ba (at_ 30)
def cA(q:Bool)(y u s z:T)(X:T)(w:List (Str×V))(l:List (aj×T)):af:=gF q y u s z++[.ns true ([(S "shelf",.t X),(S "table",.own (cond q 5 6))]++w),.dict l]
def dz(p:Int×T):List (Str×V):=[(S "number",.t (.int p.1)),(S "generation",.t (.int 0)),(S "value",.t p.2)]
section
variable {q:Bool}{y u s z:T}{X:T}{l:List (Int×T)}
set_option tactic.hygienic true in
theorem NB(c:strip X=c8 (aM l) bI)(hn:(l.map (·.1)).Nodup)(hp:∀p∈l,bC 6 p.2=true)(hl:l.length<100){a:Int×T}(e:l=A++a::B):
  i0 (R kK 28) (sk q) (dw (an pG 1)) (dx (an pG 1)) (cond q 6 7) (.int a.1) (cA q y u s z X (dY dz A) (aM A))=some (.ok .next,cA q y u s z X (dY dz (A++[a])) (aM (A++[a]))):=by
 have ha:a∈l:=by refine rwm _ ?_ e;simp
 have hf:a.1∉A.map (·.1):=by
  rw[e,List.map_append,List.nodup_append] at hn;intro hm;exact hn.2.2 a.1 hm a.1 (by simp) rfl
 have c4:A.length<100:=by rw[e] at hl;simp at hl;exact pR hl
 rw[BD];have hw:=nz dz A;generalize dY dz A=w at hw;have h1:∃G,(G=[(S "number",V.t (.int a.1))]\/∃g v,G=[(S "number",V.t (.int a.1)),(S "generation",g),(S "value",v)])/\(R kK 28).as (dw (an pG 1)) (sk q) (.t (.int a.1)) (cA q y u s z X w (aM A))=some (.ok (),cA q y u s z X G (aM A)):=by
  (refine a2 hw (λzz=>?_) (λzz=>?_);(try clear hw);subst zz;rotate_left;(try clear hw);refine ag zz λb bo=>?_;clear zz;subst bo;rotate_right)
  .exact⟨_,.inl rfl,by cases q<;>lk⟩
  .exact⟨_,.inr ⟨.t (.int 0),.t b.2,rfl⟩,by cases q<;>lk⟩
 refine al h1 λG d h1=>(dI (O2:=cA q y u s z X (dz a) (aM (A++[a]))) h1 (aW (E:=cA q y u s z X (dz a) (aM A)) (dW (v:= .t (.tuple [.int 0,a.2])) (E:=cA q y u s z X G (aM A)) rfl rfl rfl
  (nu (M:= .t (.dict (aM l))) (t:= .dict (aM l)) (it:= .int a.1) (E:=cA q y u s z X G (aM A)) rfl (ll (X:=X) (E:=cA q y u s z X G (aM A)) rfl ?_ c ?_ rfl rfl) ?_ rfl (Nz hn ha)) ?_)
  (bv ((dW (v:= .t (.tuple [.int 0,a.2])) (E:=cA q y u s z X (dz a) (aM A)) rfl rfl rfl (nx (E:=cA q y u s z X (dz a) (aM A)) ?_ (aO (fv:= .t (.top 349)) (vs:=[.t a.2]) (E:=cA q y u s z X (dz a) (aM A)) rfl ?_ ?_ ?_ (cm (p:=⟨[],[]⟩) (X:=[]) rfl (fU (p:=bC 6 a.2=true) (hp a ha)) rfl)))
   (o7 (k:=cond q 5 6) (it:= .int a.1) (t:= .tuple [.int 0,a.2]) (N:=aM A) (f:= .int a.1) (E:=cA q y u s z X (dz a) (aM A)) (O2:=cA q y u s z X (dz a) (aM A)) rfl ?_ ?_ rC ?_ rfl ?_)).trans ?_)))).trans ?_
 ·(refine a2 d (λzz=>?_) (λzz=>?_);(try clear d);clear h1;subst zz;rotate_left;(try clear d);refine aq zz λg v cr=>?_;clear zz;clear h1;subst cr;rotate_right)<;>(clear h1;cases q)<;>lk
 .lk
 ·(refine a2 d (λzz=>?_) (λzz=>?_);(try clear d);clear h1;subst zz;rotate_left;(try clear d);refine aq zz λg v cr=>?_;clear zz;clear h1;subst cr;rotate_right)<;>(clear h1;cases q)<;>lk
 ·(refine a2 d (λzz=>?_) (λzz=>?_);(try clear d);clear h1;subst zz;rotate_left;(try clear d);refine aq zz λg v cr=>?_;clear zz;clear h1;subst cr;rotate_right)<;>(clear h1;cases q)<;>lk
 .clear h1;cases q<;>lk
 .clear h1;cases q<;>lk
 .clear h1;cases q<;>lk
 .clear h1;cases q<;>lk
 .clear h1;cases q<;>lk
 .clear h1;cases q<;>lk
 .clear h1;cases q<;>rfl
 .rw[Cu];exact lB c4 rfl
 .refine rwm _ (rwm _ ?_ (show aM A++[(aj.int a.1,T.tuple [.int 0,a.2])]=aM (A++[a]) by unfold aM;refine rwm _ ?_ i5;rfl)) (nw (NA hf));clear h1;cases q<;>rfl
 .exact hQ (λY=>some (Except.ok Fl.next,Y)) (ek (by clear h1;cases q<;>exact hX _))
theorem Cv(c:strip X=c8 (aM l) bI)(hn:(l.map (·.1)).Nodup)(hp:∀p∈l,bC 6 p.2=true)(hl:l.length<100)(ht:bC 6 bI=true):
  (R kK 30).call (.t (.top 444)) [.t X] (gF q y u s z)=some (.ok (.own (cond q 7 8)),cA q y u s z X (dY dz l) (aM l)++[.dead,.sh 435 [(S "table",.own (cond q 5 6)),(S "trailer",.t bI)]]):=by
 have L:=la (λp:Int×T=>T.int p.1) (λA O=>O=cA q y u s z X (dY dz A) (aM A)) (i0 (R kK 28) (sk q) (dw (an pG 1)) (dx (an pG 1)) (cond q 6 7)) l (O:=cA q y u s z X [] []) rfl λA a B O e Y=>by
  subst Y;exact⟨_,NB c hn hp hl e,rfl⟩
 (refine ag L λM c1=>ac c1 λL1 bo=>?_;clear c1;subst bo);have d5:d7 (.dict (aM l))=some (l.map λp=>T.int p.1):=by
  show some ((l.map λp=>(aj.int p.1,T.tuple [.int 0,p.2])).map λp=>dN p.1)=_;refine rwm _ ?_ mc;rfl
 have hw:=nz dz l;generalize dY dz l=w at hw L1;refine kq (e:=sk q) (H:=[(S "shelf",.t X)]) (E:=gF q y u s z++[.ns true [(S "shelf",.t X)]]) (O2:=cA q y u s z X w (aM l)++[.dead,.sh 435 [(S "table",.own (cond q 5 6)),(S "trailer",.t bI)]]) (v:= .own (cond q 7 8)) (st:=at_ 30) (q:=S "shelf_copied") (d:=[]) (c6:=443) ?_ ?_ ?_ ?_ ?_ ?_ ?_
 .clear L;cases q<;>lk
 .lk
 .rfl
 .lk
 .clear L;cases q<;>lk
 .refine aW (E:=cA q y u s z X [] []) ?_ (aW (E:=cA q y u s z X w (aM l)) (oZ (E:=cA q y u s z X [] []) (O2:=cA q y u s z X [] []) (x:= .t (.dict (aM l))) (t:= .dict (aM l)) (U:=l.map λp=>T.int p.1) rfl (ll (X:=X) rfl ?_ c ?_ rfl rfl) rfl d5 ?_)
   (ci (eh (aO (fv:= .t (.top 435)) (vs:=[.own (cond q 5 6),.t bI]) (E:=cA q y u s z X w (aM l)) rfl ?_
    (bx (E:=cA q y u s z X w (aM l)) ?_ (bx (aO (fv:= .t (.top 349)) (vs:=[.t bI]) (E:=cA q y u s z X w (aM l)) rfl ?_ (bx (ll (X:=X) rfl ?_ c ?_ rfl rfl) cb) ?_ (cm (p:=⟨[],[]⟩) (X:=[]) rfl (fU (p:=bC 6 bI=true) ht) rfl)) cb)) ?_ ?_))))
  .clear L;cases q<;>lk
  .clear L;cases q<;>lk
  .lk
  .clear L;cases q<;>exact L1
  ·(refine a2 hw (λzz=>?_) (λzz=>?_);(try clear hw);clear L1;subst zz;rotate_left;(try clear hw);refine ag zz λb bo=>?_;clear zz;clear L1;subst bo;rotate_right)<;>cases q<;>lk
  ·(refine a2 hw (λzz=>?_) (λzz=>?_);(try clear hw);clear L1;subst zz;rotate_left;(try clear hw);refine ag zz λb bo=>?_;clear zz;clear L1;subst bo;rotate_right)<;>cases q<;>lk
  ·(refine a2 hw (λzz=>?_) (λzz=>?_);(try clear hw);clear L1;subst zz;rotate_left;(try clear hw);refine ag zz λb bo=>?_;clear zz;clear L1;subst bo;rotate_right)<;>cases q<;>lk
  ·(refine a2 hw (λzz=>?_) (λzz=>?_);(try clear hw);clear L1;subst zz;rotate_left;(try clear hw);refine ag zz λb bo=>?_;clear zz;clear L1;subst bo;rotate_right)<;>cases q<;>lk
  .lk
  .lk
  .lk
  ·(refine a2 hw (λzz=>?_) (λzz=>?_);(try clear hw);clear L1;subst zz;rotate_left;(try clear hw);refine ag zz λb bo=>?_;clear zz;clear L1;subst bo;rotate_right)<;>cases q<;>lk
 ·(refine a2 hw (λzz=>?_) (λzz=>?_);(try clear hw);clear L1;subst zz;rotate_left;(try clear hw);refine ag zz λb bo=>?_;clear zz;clear L1;subst bo;rotate_right)<;>cases q<;>rfl
end
theorem Cw{U:List T}(h:U.length<=20)(hx:∀x∈U,bC n x=true):bC (n+1) (.list U)=true:=by
 refine(?_:(decide (U.length<=20)&&U.all (bC n))=true);refine rwm _ (rwm _ ?_ (hL.mpr hx)) (ii h);rfl
theorem wa{N:List (aj×T)}(h:N.length<=20)(hx:∀p∈N,j2 p.1=true/\bC n p.2=true):bC (n+1) (.dict N)=true:=by
 refine(?_:(decide (N.length<=20)&&N.all λp=>j2 p.1&&bC n p.2)=true);rw[decide_eq_true h,List.all_eq_true.mpr λp hp=>by refine rwm _ (rwm _ ?_ ((hx p hp).2)) ((hx p hp).1);rfl];rfl
theorem mn{l:List Int}(h:l.length<=20):bC (n+2) (aK l)=true:=
 Cw (by rw[List.length_map];exact h) λx hx=>by
  (refine ag (hK.mp hx) λa c1=>ac c1 λ_ bo=>?_;clear c1;clear hx;subst bo);rfl
theorem Cy{rows:List (List Int)}(h:rows.length<=20)(hr:∀r∈rows,r.length<=20):bC (n+3) (.list (rows.map aK))=true:=
 Cw (by rw[List.length_map];exact h) λx hx=>by
  (refine ag (hK.mp hx) λa c1=>ac c1 λha bo=>?_;clear c1;clear hx;subst bo);exact mn (hr a ha)
theorem Cz{ord:List Int}{A:List (aj×T)}(ho:ord.length<=20)(hl:A.length<=20)(hf:∀p∈A,j2 p.1=true/\bC 3 p.2=true):bC 6 (hP ord A)=true:=by
 refine wa (show 2<=20 by decide) λp hp=>?_;simp only[List.mem_cons,List.not_mem_nil,or_false] at hp;(refine a2 hp (λzz=>?_) (λzz=>?_);(try clear hp);subst zz;rotate_left;(try clear hp);subst zz;rotate_right)
 .exact⟨rfl,rfl⟩
 .refine⟨rfl,wa (show 2<=20 by decide) λp hp=>?_⟩;have hp:p∈[(aj.str (aA "OCGs"),T.list (ord.map ao)),(aj.str (aA "D"),T.dict A)]:=hp;simp only[List.mem_cons,List.not_mem_nil,or_false] at hp;(refine a2 hp (λzz=>?_) (λzz=>?_);(try clear hp);subst zz;rotate_left;(try clear hp);clear hp;subst zz;rotate_right)
  .exact⟨rfl,mn ho⟩
  .exact⟨rfl,wa hl hf⟩
theorem mq{D:ah}(h:D.Wf){ns:List Int}(hs:eQ D.m ns):ns.length<=20:=by
 have:=rb hs.1 hs.2;rw[rd] at this;exact lB (a5 this h.m) rfl
def CA(l:List UInt8):T:= .dict [(.str (aA "Type"),gK "OCG"),(.str (aA "Name"),tf l)]
noncomputable def gG(i:Nat):Nat->List (Int×T)
 |0=>[]
 |n+1=>(10+3*(i:Int),CA (gL i))::gG (i+1) n
theorem CB:∀(n i:Nat),aM (gG i n)=aI i n
 |0,_=>rfl
 |n+1,i=>by
  show(aj.int (10+3*(i:Int)),T.tuple [.int 0,CA (gL i)])::aM (gG (i+1) n)=_;refine rwm _ ?_ (CB n (i+1));rfl
theorem CC:∀(n i:Nat),(gG i n).map (·.1)=(List.range n).map λj=>10+3*((i+j:Nat):Int)
 |0,_=>rfl
 |n+1,i=>by
  refine rwm _ ?_ ra;show(10+3*(i:Int))::(gG (i+1) n).map (·.1)=_;refine rwm _ (rwm _ (rwm _ ?_ mc) ot) (CC n (i+1))
  congr 1
  refine ks λj _=>(?_:10+3*((i+1+j:Nat):Int)=10+3*((i+(j+1):Nat):Int));exact rwm _ rfl (show i+1+j=i+(j+1) from Nat.succ_add i j)
theorem wb:∀(n i:Nat),∀p∈gG i n,bC 6 p.2=true
 |0,_,_,h=>nomatch h
 |n+1,i,p,h=>by
  (refine a2 (hy.mp h) (λzz=>?_) (λh=>?_);subst zz;rotate_left;rotate_right)
  .rfl
  .exact wb n (i+1) p h
theorem wc:∀(n i:Nat),(gG i n).length=n
 |0,_=>rfl
 |n+1,i=>by show(gG (i+1) n).length+1=_;rw[wc n (i+1)]
def iF(ord:List Int)(A:List (aj×T))(m:Nat)(more:List (Int×T)):List (Int×T):=(1,hP ord A)::(gG 0 m++more)
theorem sm(ord:List Int)(A:List (aj×T))(m:Nat):aM (iF ord A m [])=aB ord A (aI 0 m):=by
 show(aj.int 1,T.tuple [.int 0,hP ord A])::aM (gG 0 m++[])=_;rw[List.append_nil,CB];rfl
theorem CD:((iF ord A m []).map (·.1)).Nodup:=by
 refine(?_:((1:Int)::((gG 0 m++[]).map λp:Int×T=>p.1)).Nodup);rw[List.append_nil,List.nodup_cons,CC];refine⟨λh=>?_,?_⟩
 .refine al (hK.mp h) λj _ e=>?_;exact wA e
 .have h:List.Pairwise (λ(a b:Nat)=>a≠b) (List.range m):=List.nodup_range;exact List.pairwise_map.mpr (h.imp λ{a b} z e=>z (Nat.add_left_cancel (wz e)))
theorem CE{D:ah}(h:D.st=0):D.tree=c8 (aB D.order (co D.base D.on D.off D.lk D.rows) (aI 0 D.m)) bI:=Ca h
theorem CF{D:ah}(h:D.st=1):D.tree=c8 (aB D.order (bA D.lk D.rows D.off) (aI 0 D.m)) bI:=by
 rcases D with⟨m,rev,b,on,off,lk,rows,st,k⟩;cases h;show c8 (aB (ah.order ⟨m,rev,b,on,off,lk,rows,1,k⟩++[]) (bA lk rows off) (aI 0 m++[])) bI=_;rw[List.append_nil,List.append_nil]
def ah.kept(D:ah)(st:Int->Bool):ah:={D with st:=1,on:=[],base:=2,off:=c0 D.order st}
theorem NC{D:ah}(h:D.Wf)(st:Int->Bool):(D.kept st).Wf where
 m:=h.m
 base:=by refine(?_:2<=2);decide
 on:=⟨List.nodup_nil,λ_ hn=>nomatch hn⟩
 off:=⟨(kF D).filter _,λn hn=>i7.mp (p9.mp hn).1⟩
 lk:=h.lk
 few:=h.few
 rows:=h.rows
 st:=by refine(?_:1<=2);decide
 k:=λe=>nomatch (e:1=2)
section
variable {c:aN}{n:Nat}{e:AE}{O E O2 O3:af}{r:aG}
def nM(sc:Scope)(q:Str)(cl:List (Str×Nat))(H:List (Str×V)):MM AE:=bm (new (.ns true [])) λlh=>bm (et sc.names cl) λcl=>bm (gS ⟨sc,lh,cl,q++nm ".<locals>.",0⟩ H) λ_=>pm ⟨sc,lh,cl,q++nm ".<locals>.",0⟩
theorem CG{ps:Arguments}(hk:O[k]? =some (.clo ps j sc q cl))(hp:(gg ps&&gU sc)=true)(hb:d8 ps.args be []=some H)
  (he:nM sc q cl H O=some (.ok e,E))(hr:(R c n).ev j e E=some (.ok v,O2))(hl:fq O.length v O2=some (.ok v',O3)):(R c (n+1)).call (.own k) be O=some (.ok v',O3):=by
 show bm (bw k) (λQ=>match Q with
  | .clo ps b sc q cl=>if gg ps&&gU sc then bm (om (d8 ps.args be [])) λH=>dR (R c n) sc q 0 cl H ((R c n).ev b) else λ_=>none
  |_=>λ_=>none) O=_
 refine a0 (az (show bw k O=some (.ok (.clo ps j sc q cl),O) by unfold bw;exact rwm _ rfl hk)) ?_;show(if gg ps&&gU sc then bm (om (d8 ps.args be [])) λH=>dR (R c n) sc q 0 cl H ((R c n).ev j) else λ_=>none:MM V) O=_;refine rwm _ (rwm _ (rwm _ ?_ hb) (eb rfl)) hp;show dR (R c n) sc q 0 cl H ((R c n).ev j) O=_;have f:dR (R c n) sc q 0 cl H ((R c n).ev j) O=bm (nM sc q cl H) (λe=>bm ((R c n).ev j e) λv=>fq O.length v) O:=by
  unfold dR nM;refine rwm _ ?_ du
  congr 1
  funext lh
  refine rwm _ ?_ du
  congr 1
  funext cl
  refine rwm _ ?_ du;rfl
 exact rwm _ (rwm _ (rwm _ (rwm _ rfl hl) (az hr)) (az he)) f
theorem we{ts:List T}(h1:a8 (R c n) e l O=some (.ok vs,E))(h2:eU fr vs E=some (.ok ts,O2))(h3:ts.length<1000):(R c (n+1)).ev (.Tuple l b1 p) e O=some (.ok (.t (.tuple ts)),O2):=by
 show bm (a8 (R c n) e l) (λvs=>bm (eU fr vs) λts=>if aJ ts.length then pm (V.t (T.tuple ts)) else λ_=>none) O=_;refine a0 (az h1) (rwm _ (rwm _ (rwm _ ?_ (eb rfl)) (eX (Nat.le_of_succ_le h3))) (az h2));rfl
end
def so:Expr->Arguments
 | .Lambda ps _ _ _=>ps
 |_=>fg (at_ 0)
def lq:Expr->Expr
 | .Lambda _ b _ _=>b
 |_=>g6
theorem wf(h:strip X= .inst C fs):iM (.t X)=some (.t X):=by
 show cond (qf (strip X)) none (some (V.t X))=_;refine rwm _ ?_ h;rfl
def am(dd:Array UInt8)(X:T):T:= .inst 90 [(S "data",.bytes dd),(S "base",.none),(S "shelf",X)]
def em:Str:=S ""
def pH:AE:=⟨aV (at_ 56),0,[(S "states",1)],S "keep_laid"++nm ".<locals>.",608⟩
def sp:AE:=⟨aV (at_ 51),3,[],S "copy_changed"++nm ".<locals>.",577⟩
def nN:List Stmt:=ba (at_ 51)
def nO(y K:T):af:=[.ns true [(S "bench",.t y),(S "kept",.t K),(S "rest",.t (.str em))],.cell none]
def nP(y K Z:T):af:=[.ns true [(S "bench",.t y),(S "kept",.t K),(S "rest",.t (.str em))],.cell (some (.t Z))]
def gH(y K Z X:T)(w:List (Str×V))(tab:List (aj×T)):af:=nP y K Z++[pF,.ns true [(S "bench",.t y),(S "change",.own 2),(S "shelf",.own 7)],.ns true ([(S "shelf",.t X),(S "table",.own 5)]++w),.dict tab,.dead,.sh 435 [(S "table",.own 5),(S "trailer",.t bI)]]
def eo(w:List (Str×V)):Prop:=w=[]\/∃p,w=dz p
section
variable {dd:Array UInt8}{K Z X:T}
set_option tactic.hygienic true in
theorem ND{l:List (Int×T)}(c:strip X=c8 (aM l) bI)(hn:(l.map (·.1)).Nodup)(hp:∀p∈l,bC 6 p.2=true)(hl:l.length<100):∃w,eo w/\(R kK 32).ex (an nN 0) sp (gF true (am dd X) K (.str em) Z)=some (.ok .next,gH (am dd X) K Z X w (aM l)):=by
 have h1:(R kK 30).call (.t (.top 444)) [.t X] (gF true (am dd X) K (.str em) Z)=some (.ok (.own 7),cA true (am dd X) K (.str em) Z X (dY dz l) (aM l)++[MO.dead,MO.sh 435 [(S "table",.own 5),(S "trailer",.t bI)]]):=Cv (q:=true) (y:=am dd X) (u:=K) (s:= .str em) (z:=Z) (X:=X) c hn hp hl rfl;have hw:=nz dz l;generalize dY dz l=w at hw h1;refine⟨w,hw,dW (v:= .own 7) (E:=cA true (am dd X) K (.str em) Z X w (aM l)++[.dead,.sh 435 [(S "table",.own 5),(S "trailer",.t bI)]]) rfl rfl rfl (aO (fv:= .t (.top 444)) (vs:=[.t X]) (E:=gF true (am dd X) K (.str em) Z) ?_ ?_
  (bx (ll (X:=am dd X) (C:=90) (fs:=[(S "data",.bytes dd),(S "base",.none),(S "shelf",X)]) (E:=gF true (am dd X) K (.str em) Z) ?_ ?_ ?_ ?_ ?_ (wf c)) cb) ?_ h1) ?_⟩
 .rfl
 .lk
 .rfl
 .lk
 .rfl
 .lk
 .lk
 .lk
 .refine oE w hw ?_ λp=>?_<;>lk
theorem NE(be:List V)(O:af):kK 557 be O=bO kP 35 557 be O:=by lk
set_option tactic.hygienic true in
theorem NF(hw:eo w)(hc:bO kP 35 557 [.own 1,.t Z] (sS tab)=some (some (.ok .none,sS tab'))):
  (R kK 32).ex (an nN 1) sp (gH (am dd X) K Z X w tab)=some (.ok .next,gH (am dd X) K Z X w tab'):=by
 have hb:(R kK 29).ev (lq mj) ⟨iu mj,8,[(S "states",1)],S "keep_laid"++nm ".<locals>."++nm "<lambda>"++nm ".<locals>.",0⟩ (gH (am dd X) K Z X w tab++[.ns true [(S "shelf",.own 7)]])=some (.ok (.t .none),gH (am dd X) K Z X w tab'++[.ns true [(S "shelf",.own 7)]]):=by
  refine aO (fv:= .t (.top 557)) (vs:=[.own 7,.t Z]) (E:=gH (am dd X) K Z X w tab++[.ns true [(S "shelf",.own 7)]]) ?_ ?_ ?_ ?_ (cm (p:=⟨[5,7],sS tab⟩) (bi:=[.own 1,.t Z]) (X:=sS tab') ?_ ((NE _ _).trans hc) ?_)
  .rfl
  .refine oE w hw ?_ λp=>?_<;>lk
  .refine oE w hw ?_ λp=>?_<;>lk
  .lk
  .refine oE w hw ?_ λp=>?_<;>lk
  .refine oE w hw ?_ λp=>?_<;>lk
 have cr:(R kK 30).call (.own 2) [.own 7] (gH (am dd X) K Z X w tab)=some (.ok (.t .none),gH (am dd X) K Z X w tab'):=by
  refine CG (ps:=so mj) (j:=lq mj) (sc:=iu mj) (q:=S "keep_laid"++nm ".<locals>."++nm "<lambda>") (cl:=[(S "states",1)]) (H:=[(S "shelf",.own 7)]) (e:=⟨iu mj,8,[(S "states",1)],S "keep_laid"++nm ".<locals>."++nm "<lambda>"++nm ".<locals>.",0⟩) (E:=gH (am dd X) K Z X w tab++[.ns true [(S "shelf",.own 7)]])
   (O2:=gH (am dd X) K Z X w tab'++[.ns true [(S "shelf",.own 7)]]) (v:= .t .none) ?_ ?_ ?_ ?_ ?_ ?_
  .lk
  .lk
  .lk
  .refine oE w hw ?_ λp=>?_<;>lk
  .exact hb
  .refine oE w hw ?_ λp=>?_<;>lk
 refine jF (v:= .t .none) rfl (aO (fv:= .own 2) (vs:=[.own 7]) (E:=gH (am dd X) K Z X w tab) ?_ ?_ ?_ ?_ cr)
 .rfl
 .refine oE w hw ?_ λp=>?_<;>lk
 .refine oE w hw ?_ λp=>?_<;>lk
 .lk
def mr(y K Z X:T)(w:List (Str×V))(tab:List (aj×T))(dd:Array UInt8):af:=gH y K Z X w tab++[.ns true [(S "bench",.t y),(S "shelf",.own 7)],.dict [],.dead,.sh 90 [(S "data",.t (.bytes dd)),(S "base",.t .none),(S "shelf",.own 7)]]
def CH(y K Z X:T)(w:List (Str×V))(tab:List (aj×T))(dd:Array UInt8):af:=nP y K Z++[pF,.ns true [(S "bench",.t y),(S "change",.own 2),(S "shelf",.own 7)],.ns true ([(S "shelf",.t X),(S "table",.own 5)]++w),.fz (.dict tab),.dead,.fz (c8 tab bI),
 .ns true [(S "bench",.t y),(S "shelf",.own 7)],.dict [],.dead,.fz (am dd (c8 tab bI))]
theorem NG(hw:eo w):(R kK 32).ex (an nN 2) sp (gH (am dd X) K Z X w (aB ord A l))=some (.ok (.ret (.own 11)),mr (am dd X) K Z X w (aB ord A l) dd):=by
 refine oE w hw ?_ λp=>?_<;>lk
theorem NH(hw:eo w):eU fr [.own 11,.t (.str s)] (mr (am dd X) K Z X w tab dd)=some (.ok [am dd (c8 tab bI),.str s],CH (am dd X) K Z X w tab dd):=by
 refine oE w hw ?_ λp=>?_<;>lk
theorem NI{l:List (Int×T)}(c:strip X=c8 (aM l) bI)(hn:(l.map (·.1)).Nodup)(hp:∀p∈l,bC 6 p.2=true)(hl:l.length<100)(hc:bO kP 35 557 [.own 1,.t Z] (sS (aM l))=some (some (.ok .none,sS (aB ord A N)))):
  ∃w,eo w/\(R kK 33).call (.t (.top 578)) [.t (am dd X),.own 2] (nP (am dd X) K Z++[pF])=some (.ok (.own 11),mr (am dd X) K Z X w (aB ord A N) dd):=by
 refine al (ND (dd:=dd) (K:=K) (Z:=Z) c hn hp hl) λw hw h1=>?_;have h3:=NG (dd:=dd) (K:=K) (Z:=Z) (X:=X) hw (ord:=ord) (A:=A) (l:=N);refine⟨w,hw,kq (e:=sp) (H:=[(S "bench",.t (am dd X)),(S "change",.own 2)]) (E:=gF true (am dd X) K (.str em) Z) (O2:=mr (am dd X) K Z X w (aB ord A N) dd) (v:= .own 11) (st:=at_ 51) (q:=S "copy_changed") (d:=[]) (c6:=577) ?_ ?_ ?_ ?_ ?_ ?_ ?_⟩
 .lk
 .lk
 .rfl
 .lk
 .lk
 .exact aW (s:=an nN 0) h1 (aW (s:=an nN 1) (NF (dd:=dd) (K:=K) (X:=X) hw hc) (ci (s:=an nN 2) h3))
 .rfl
theorem NJ(be:List V)(O:af):kK 588 be O=l5 be O:=by lk
def jU(n:Nat):Str:=S "kept "++dp (n:Int)++S " layers"
set_option tactic.hygienic true in
theorem NK{D:ah}(h:D.Wf)(h0:D.st=0){g:Int->Bool}(hg:cW D K=some g):br kK 37 609 [.t (am dd (.box (.doc D) D.tree)),.t K,.t (.str em)] []=some (.ok (.t (.tuple [am dd (D.kept g).tree,.str (jU D.m)])),[]):=by
 have c:strip (.box (.doc D) D.tree)=c8 (aM (iF D.order (co D.base D.on D.off D.lk D.rows) D.m [])) bI:=by
  show strip D.tree=_;rw[CE h0,sm];rfl
 have m:D.order.length<=20:=by rw[gv];have:=h.m;exact lB this rfl
 have i:=i9 (.inl h0);have t:(co D.base D.on D.off D.lk D.rows).length<=20/\∀p∈co D.base D.on D.off D.lk D.rows,j2 p.1=true/\bC 3 p.2=true:=by
  have f:bC 3 (.list (D.rows.map aK))=true:=Cy (by have:=h.few;exact lB this rfl) λr hr=>mq h (h.rows r hr);have h1:bC 3 (aK D.on)=true:=mn (mq h h.on);have h2:bC 3 (aK D.off)=true:=mn (mq h h.off);have h3:bC 3 (aK D.lk)=true:=mn (mq h h.lk);unfold co;have hb:=h.base;have j:=sV hb;rcases j with e|e|e<;>refine rwm _ ?_ e<;>refine⟨a4 rfl,λp hp=>?_⟩<;>
   simp only[lz,List.mem_append,List.mem_cons,List.not_mem_nil,or_false] at hp
  .rcases hp with(rfl|rfl|rfl|rfl)|rfl
   .exact⟨rfl,h1⟩
   .exact⟨rfl,h2⟩
   .exact⟨rfl,h3⟩
   .exact⟨rfl,f⟩
   .exact⟨rfl,rfl⟩
  .rcases hp with(rfl|rfl|rfl|rfl)|rfl
   .exact⟨rfl,h1⟩
   .exact⟨rfl,h2⟩
   .exact⟨rfl,h3⟩
   .exact⟨rfl,f⟩
   .exact⟨rfl,rfl⟩
  .rcases hp with rfl|rfl|rfl|rfl
   .exact⟨rfl,h1⟩
   .exact⟨rfl,h2⟩
   .exact⟨rfl,h3⟩
   .exact⟨rfl,f⟩
 have A:=Cz m t.1 t.2;have c4:∀p∈iF D.order (co D.base D.on D.off D.lk D.rows) D.m [],bC 6 p.2=true:=λp hp=>by
  (refine a2 (hy.mp hp) (λzz=>?_) (λhp=>?_);subst zz;rotate_left;rotate_right)
  .exact A
  .rw[List.append_nil] at hp;exact wb _ _ p hp
 have bb:(iF D.order (co D.base D.on D.off D.lk D.rows) D.m []).length<100:=by
  refine(?_:(gG 0 D.m++[]).length+1<100);rw[List.append_nil,wc];have:=h.m;exact lC (i1 this) rfl
 have hc:bO kP 35 557 [.own 1,.t (aF D.order g)] (sS (aM (iF D.order (co D.base D.on D.off D.lk D.rows) D.m [])))=some (some (.ok .none,sS (aB D.order (bA D.lk D.rows (c0 D.order g)) (aI 0 D.m)))):=by
  rw[sm];exact jh (Nq h.m h.base (λa ha=>i7.mp ha) (lC m rfl))
 refine al (NI (dd:=dd) (K:=K) (Z:=aF D.order g) c CD c4 bb hc) λw hw h1=>?_;have ht:(D.kept g).tree=c8 (aB D.order (bA D.lk D.rows (c0 D.order g)) (aI 0 D.m)) bI:=CF rfl;refine rwm _ ?_ ht;have I:(R kK 36).ex (an lm 0) pH (nO (am dd (.box (.doc D) D.tree)) K)=some (.ok .next,nO (am dd (.box (.doc D) D.tree)) K):=by lk
 have o:(R kK 36).ex (an lm 1) pH (nO (am dd (.box (.doc D) D.tree)) K)=some (.ok .next,nP (am dd (.box (.doc D) D.tree)) K (aF D.order g)):=by
  refine dW (v:= .t (aF D.order g)) (E:=nO (am dd (.box (.doc D) D.tree)) K) rfl rfl rfl (aO (fv:= .t (.top 588)) (vs:=[au D,.t K]) (E:=nO (am dd (.box (.doc D) D.tree)) K) ?_ ?_ ?_ ?_ (cm (p:=⟨[],[]⟩) (X:=[]) rfl ((NJ _ _).trans (by refine a0 (BM hg) (rwm _ ?_ i);rfl)) rfl)) ?_
  .rfl
  .lk
  .lk
  .lk
  .lk
 have k:(ax D.order g).length<1000:=by rw[fV];exact lC m rfl
 have b:((ax D.order g).length:Int)=(D.m:Int):=by rw[fV,gv]
 have hm:=h.m;have be:=g9 (n:=(D.m:Int)) (wE hm);have l:(R kK 34).ev (aY (a7 (bV (an lm 2))) 1) pH (mr (am dd (.box (.doc D) D.tree)) K (aF D.order g) (.box (.doc D) D.tree) w (aB D.order (bA D.lk D.rows (c0 D.order g)) (aI 0 D.m)) dd)=
   some (.ok (.t (.str (jU D.m))),mr (am dd (.box (.doc D) D.tree)) K (aF D.order g) (.box (.doc D) D.tree) w (aB D.order (bA D.lk D.rows (c0 D.order g)) (aI 0 D.m)) dd):=by
  generalize aB D.order (bA D.lk D.rows (c0 D.order g)) (aI 0 D.m)=tab;generalize Y:mr (am dd (.box (.doc D) D.tree)) K (aF D.order g) (.box (.doc D) D.tree) w tab dd=O;refine go (v:= .t (.str (S "kept "++dp (D.m:Int)))) (u:= .t (.str (S " layers"))) (E:=O) (O2:=O) (go (v:= .t (.str (S "kept "))) (u:= .t (.str (dp (D.m:Int)))) (E:=O) (O2:=O) ?_
   (aO (fv:= .t (.typ "str")) (vs:=[.t (.int ((ax D.order g).length:Int))]) (E:=O) ?_ ?_ (bx (E:=O) (aO (fv:= .t (.bi "len")) (vs:=[.t (aF D.order g)]) (E:=O) ?_ ?_ (bx (E:=O) ?_ cb) ?_ (Bv rfl k)) cb) ?_ ?_) rfl rfl (jb ?_)) ?_ rfl rfl (jb ?_)
  .lk
  .rfl
  .subst Y;refine oE w hw ?_ λp=>?_<;>lk
  .rfl
  .subst Y;refine oE w hw ?_ λp=>?_<;>lk
  .subst Y;refine oE w hw ?_ λp=>?_<;>lk
  .lk
  .lk
  .refine rwm _ ?_ b;exact pg (DU k b)
  .have:(S "kept ").length=5:=by decide
   exact lB (Nat.add_le_add (ec this) be) rfl
  .lk
  .have h1:(S "kept ").length=5:=by decide
   have h2:(S " layers").length=7:=by decide
   rw[jc];exact wF be h1 h2
 have L:(R kK 36).ex (an lm 2) pH (nP (am dd (.box (.doc D) D.tree)) K (aF D.order g))=some (.ok (.ret (.t (.tuple [am dd (c8 (aB D.order (bA D.lk D.rows (c0 D.order g)) (aI 0 D.m)) bI),.str (jU D.m)]))),
   CH (am dd (.box (.doc D) D.tree)) K (aF D.order g) (.box (.doc D) D.tree) w (aB D.order (bA D.lk D.rows (c0 D.order g)) (aI 0 D.m)) dd):=by
  refine eh (we (bx (aO (fv:= .t (.top 578)) (vs:=[.t (am dd (.box (.doc D) D.tree)),.own 2]) (E:=nP (am dd (.box (.doc D) D.tree)) K (aF D.order g)++[pF]) ?_ ?_ ?_ ?_ h1) (bx l cb)) (NH hw) (show 2<1000 by decide))
  .rfl
  .lk
  .lk
  .lk
 refine kq (e:=pH) (H:=[(S "bench",.t (am dd (.box (.doc D) D.tree))),(S "kept",.t K),(S "rest",.t (.str em))]) (E:=nO (am dd (.box (.doc D) D.tree)) K) (st:=at_ 56) (q:=S "keep_laid") (d:=[]) (c6:=608) ?_ ?_ ?_ ?_ ?_ (aW (s:=an lm 0) I (aW (s:=an lm 1) o (ci (s:=an lm 2) L))) ?_
 .lk
 .lk
 .rfl
 .lk
 .lk
 .show some (Except.ok _,trunc 0 _)=_;rw[vq]
end
def NL:AE:=⟨aV (bf 29 0),3,[],S "Shelf.put"++nm ".<locals>.",398⟩
def pI(N:List (aj×T))(r:MO)(n:Int):af:=sS N++[r,.ns true [(S "self",.own 1),(S "number",.t (.int n)),(S "generation",.t (.int 0)),(S "value",.own 2)]]
theorem NM{N r:List (aj×T)}(hl:N.length<900)(n:Int):br av 15 399 [.own 1,.t (.int n),.t (.int 0),.own 2] (sS N++[.dict r])=some (.ok (.t .none),sS (bj N (.int n) (.tuple [.int 0,.dict r]))++[.fz (.dict r)]):=by
 refine lj (e:=NL) (H:=[(S "self",.own 1),(S "number",.t (.int n)),(S "generation",.t (.int 0)),(S "value",.own 2)]) (E:=pI N (.dict r) n) (st:=bf 29 0) (q:=S "Shelf.put") (d:=[]) (c6:=398) ?_ ?_ ?_ ?_ ?_ ?_
 .lk
 .lk
 .rfl
 .lk
 .lk
 .refine eN (l:=Nt) (j:=1) (E:=pI (bj N (.int n) (.tuple [.int 0,.dict r])) (.fz (.dict r)) n) (bv ((dW (v:= .t (.tuple [.int 0,.dict r])) (E:=pI N (.fz (.dict r)) n) rfl rfl rfl ?_ (o7 (k:=0) (it:= .int n) (t:= .tuple [.int 0,.dict r]) (N:=N) (f:= .int n) (E:=pI N (.fz (.dict r)) n) (O2:=pI N (.fz (.dict r)) n) rfl ?_ ?_ rC rfl rfl ?_)).trans ?_)) ?_
  .lk
  .lk
  .lk
  .exact lB hl rfl
  .rfl
  .lk
theorem NN(be:List V)(O:af):kH 399 be O=bO av 15 399 be O:=by lk
def wg:AE:=⟨aV (at_ 45),3,[],S "put_layer_head"++nm ".<locals>.",551⟩
def sr:List Stmt:=ba (at_ 45)
def CI(tab hk:List (aj×T)):af:=sS tab++[.dict hk,.ns true [(S "shelf",.own 1),(S "head",.own 2)]]
def fe(hk:List (aj×T)):List (aj×T):=[(.str (aA "Type"),gK "Catalog"),(.str (aA "OCProperties"),.dict hk)]
def nQ(tab hk:List (aj×T))(r:MO):af:=sS tab++[.fz (.dict hk),.ns true [(S "shelf",.own 1),(S "head",.own 2),(S "root",.own 5),(S "place",.t (ao 1))],.dict [],r]
set_option tactic.hygienic true in
theorem CJ:aR (R kH 29) wg (sr.take 4) (CI (aB ord A l) hk)=some (.ok .next,nQ (aB ord A l) hk (.dict (fe hk))):=by lk
set_option tactic.hygienic true in
theorem NO{A l hk:List (aj×T)}(hl:l.length<800)(h1:aj.int 1∉l.map (·.1)):br kH 30 552 [.own 1,.own 2] (sS (aB ord A l)++[.dict hk])=some (.ok (.t .none),sS ((.int 1,.tuple [.int 0,.dict (fe hk)])::l)++[.fz (.dict hk)]):=by
 have hp:=jh (NM (N:=aB ord A l) (r:=fe hk) (by refine(?_:l.length+1<900);exact lC hl rfl) 1);rw[show bj (aB ord A l) (.int 1) (.tuple [.int 0,.dict (fe hk)])=(.int 1,.tuple [.int 0,.dict (fe hk)])::l from Cq h1] at hp;have h4:aR (R kH 29) wg (sr.drop 4) (nQ (aB ord A l) hk (.dict (fe hk)))=some (.ok .next,nQ ((.int 1,.tuple [.int 0,.dict (fe hk)])::l) hk (.fz (.dict (fe hk)))):=by
  have I:=CJ (ord:=ord) (A:=A) (l:=l) (hk:=hk);clear I;generalize aB ord A l=tab at hp;refine bv (jG (E:=nQ tab hk (.dict (fe hk))) ?_ (bv (jF (v:= .t .none) rfl (rl (E:=nQ tab hk (.dict (fe hk))) (O2:=nQ tab hk (.dict (fe hk))) (M:= .own 1) (C:=435) (f:=399) (vs:=[.t (.int 1),.t (.int 0),.own 5]) ?_ ?_ ?_ ?_ ?_
   (cm (p:=⟨[0,1,5],sS tab++[.dict (fe hk)]⟩) (bi:=[.own 1,.t (.int 1),.t (.int 0),.own 2]) (X:=sS ((.int 1,.tuple [.int 0,.dict (fe hk)])::l)++[.fz (.dict (fe hk))]) ?_ ((NN _ _).trans hp) ?_)))))
  .lk
  .rfl
  .lk
  .lk
  .lk
  .lk
  .lk
  .lk
 refine lj (e:=wg) (H:=[(S "shelf",.own 1),(S "head",.own 2)]) (E:=CI (aB ord A l) hk) (st:=at_ 45) (q:=S "put_layer_head") (d:=[]) (c6:=551) ?_ ?_ ?_ ?_ ?_ (eN (l:=sr) (j:=4) CJ (eN (l:=sr.drop 4) (j:=5) h4 ?_))
 .lk
 .lk
 .rfl
 .lk
 .lk
 .lk
set_option tactic.hygienic true in
theorem CK{r:aG}(P:Nat->af)(n:Nat)(h1:∀i,i<n->r.test c e (P i)=some (.ok true,P i))(h2:∀i,i<n->aR r e j (P i)=some (.ok .next,P (i+1)))(h3:r.test c e (P n)=some (.ok false,P n)):
  ∀(k i m:Nat),i+k=n->k<m->iQ r e c j m (P i)=some (.ok .next,P n)
 |0,i,m+1,hi,_=>by
  have:i=n:=hi;subst this;show bm (noErr (r.test c e)) _ (P i)=_;refine a0 (az (show noErr (r.test c e) (P i)=some (.ok false,P i) by unfold noErr;exact rwm _ rfl h3)) ?_;rfl
 |k+1,i,m+1,hi,hm=>by
  show bm (noErr (r.test c e)) (λq=>if q then bm (noErr (aR r e j)) λf=>match f with
   | .next=>iQ r e c j m
   | .ret v=>pm (Fl.ret v) else pm .next) (P i)=_
  refine a0 (az (show noErr (r.test c e) (P i)=some (.ok true,P i) by unfold noErr;exact rwm _ rfl (h1 i (wO hi)))) ?_
  show bm (noErr (aR r e j)) (λf=>match f with
   | .next=>iQ r e c j m
   | .ret v=>pm (Fl.ret v)) (P i)=_
  refine a0 (az (show noErr (aR r e j) (P i)=some (.ok .next,P (i+1)) by unfold noErr;exact rwm _ rfl (h2 i (wO hi)))) ?_;exact CK P n h1 h2 h3 k (i+1) m ((Nat.add_right_comm _ _ _).trans hi) (Nat.le_sub_one_of_lt hm)
theorem NP{c:aN}(h:iQ (R c n) e t j 80 O=B):(R c (n+1)).ex (.While t j [] p) e O=B:=h
def pJ:AE:=⟨aV (bf 29 1),3,[],S "Shelf.add"++nm ".<locals>.",405⟩
def jV:List Stmt:=ba (bf 29 1)
def CL(tab c:List (aj×T)):af:=sS tab++[.dict c,.ns true [(S "self",.own 1),(S "value",.own 2)]]
def fZ(tab:List (aj×T))(r:MO)(n:Int):af:=sS tab++[r,.ns true [(S "self",.own 1),(S "value",.own 2),(S "number",.t (.int n))]]
def NQ:Stmt->Expr
 | .While t _ _ _=>t
 |_=>g6
noncomputable def NR:Stmt->List Stmt
 | .While _ b _ _=>b
 |_=>[]
set_option tactic.hygienic true in
theorem NS{tab c:List (aj×T)}(hl:tab.length<900)(hk:k<70)(h1:∀i:Nat,i<k->(bg tab (.int (1+(i:Int)))).isSome=true)(h2:bg tab (.int (1+(k:Int)))=none):
  br av 20 406 [.own 1,.own 2] (sS tab++[.dict c])=some (.ok (.t (ao (1+(k:Int)))),sS (bj tab (.int (1+(k:Int))) (.tuple [.int 0,.dict c]))++[.fz (.dict c)]):=by
 have ht:∀i:Nat,∀b,(bg tab (.int (1+(i:Int)))).isSome=b->(R av 18).test (NQ (an jV 1)) pJ (fZ tab (.dict c) (1+(i:Int)))=some (.ok b,fZ tab (.dict c) (1+(i:Int))):=λi b hb=>by
  refine ey (v:= .t (.int (1+(i:Int)))) (u:= .own 0) (E:=fZ tab (.dict c) (1+(i:Int))) (O2:=fZ tab (.dict c) (1+(i:Int))) ?_ ?_ (vl (x:= .int (1+(i:Int))) (y:= .dict tab) rfl rfl ?_)
  .lk
  .lk
  .show some ((bg tab (.int (1+(i:Int)))).isSome)=_;exact rwm _ rfl hb
 have hw:(R av 19).ex (an jV 1) pJ (fZ tab (.dict c) (1+((0:Nat):Int)))=some (.ok .next,fZ tab (.dict c) (1+(k:Int))):=by
  refine NP (CK (λi=>fZ tab (.dict c) (1+(i:Int))) k (λi hi=>ht i true (h1 i hi)) (λi hi=>?_) (ht k false (by refine rwm _ ?_ h2;rfl)) k 0 80 (Nat.zero_add _) (lB hk rfl));have hb:aR (R av 18) pJ (NR (an jV 1)) (fZ tab (.dict c) (1+(i:Int)))=some (.ok .next,fZ tab (.dict c) (1+(i:Int)+1)):=by lk
  refine hb.trans ?_;exact rwm _ rfl (show(1+(i:Int)+1)=1+((i+1:Nat):Int) from Int.add_assoc _ _ _)
 have h0:(R av 19).ex (an jV 0) pJ (CL tab c)=some (.ok .next,fZ tab (.dict c) (1+((0:Nat):Int))):=by lk
 generalize (1+(k:Int))=n at*;refine lj (e:=pJ) (H:=[(S "self",.own 1),(S "value",.own 2)]) (E:=CL tab c) (st:=bf 29 1) (q:=S "Shelf.add") (d:=[]) (c6:=405) ?_ ?_ ?_ ?_ ?_ (eN (l:=jV) (j:=1) (bv (s:=an jV 0) h0) (eN (l:=jV.drop 1) (j:=1) (bv (s:=an jV 1) hw)
  (eN (l:=(jV.drop 1).drop 1) (j:=1) (E:=fZ (bj tab (.int n) (.tuple [.int 0,.dict c])) (.fz (.dict c)) n) (bv ((dW (v:= .t (.tuple [.int 0,.dict c])) (E:=fZ tab (.fz (.dict c)) n) rfl rfl rfl ?_
   (o7 (k:=0) (it:= .int n) (t:= .tuple [.int 0,.dict c]) (N:=tab) (f:= .int n) (E:=fZ tab (.fz (.dict c)) n) (O2:=fZ tab (.fz (.dict c)) n) rfl ?_ ?_ rC rfl rfl ?_)).trans ?_)) ?_)))
 .lk
 .lk
 .rfl
 .lk
 .lk
 .lk
 .lk
 .lk
 .exact lB hl rfl
 .rfl
 .lk
theorem CM{U ys:List T}{O:af}(h:U.length+ys.length<=1000):eG .Add (.list U) (.list ys) O=some (.ok (.own O.length),O++[.list (U++ys)]):=by
 show(if aJ (U.length+ys.length) then bP (.list (U++ys)) else λ_=>none:MM V) O=_;refine rwm _ (rwm _ ?_ (eb rfl)) (eX h);rfl
theorem NT(be:List V)(O:af):kG 406 be O=bO av 20 406 be O:=by lk
theorem NU(be:List V)(O:af):kG 552 be O=bO kH 30 552 be O:=by lk
def dJ:T:= .bytes cj.toArray
def mt:List (aj×T):=[(.str (aA "Type"),gK "OCG"),(.str (aA "Name"),tf cj)]
def jW:AE:=⟨aV (at_ 47),2,[],S "put_group"++nm ".<locals>.",563⟩
def ez:List Stmt:=ba (at_ 47)
def wh(tab:List (aj×T)):af:=sS tab++[.ns true [(S "shelf",.own 1),(S "label",.t dJ)]]
def wi(A:List (aj×T)):List (Str×V):=[(S "shelf",.own 1),(S "label",.t dJ),(S "head",.own 3),(S "found",.t (.dict A)),(S "first",.own 4)]
def su(tab hk A:List (aj×T)):af:=sS tab++[.ns true (wi A),.dict hk,.dict A,.dict []]
def eA(tab:List (aj×T))(hk:MO)(A:List (aj×T))(f2:MO)(k:Int)(o:af):af:=sS tab++[.ns true (wi A++[(S "place",.t (ao k))]),hk,f2,.dict [],.fz (.dict mt)]++o
def fF(lk:List Int)(rows:List (List Int))(I:List Int)(k:Int):List (aj×T):=bA lk rows I++[(.str (aA "Order"),.list [ao k])]
section
variable {ord lk I:List Int}{rows:List (List Int)}{l:List (aj×T)}{k:Int}
set_option tactic.hygienic true in
theorem NV:aR (R kG 39) jW (ez.take 4) (wh (aB ord (bA lk rows I) l))=some (.ok .next,su (aB ord (bA lk rows I) l) (fE ord (bA lk rows I)) (bA lk rows I)):=by
 cases I<;>lk
set_option tactic.hygienic true in
theorem NW(hc:bO av 20 406 [.own 1,.own 2] (sS tab++[.dict mt])=some (some (.ok (ao k),sS tab'++[.fz (.dict mt)]))):
  (R kG 39).ex (an ez 4) jW (su tab hk A)=some (.ok .next,eA tab' (.dict hk) A (.dict A) k []):=by
 refine dW (v:= .t (ao k)) (E:=eA tab' (.dict hk) A (.dict A) k []|>.set 2 (.ns true (wi A))) rfl rfl rfl (rl (E:=su tab hk A) (O2:=su tab hk A++[.dict mt]) (M:= .own 1) (C:=435) (f:=406) (vs:=[.own 6]) ?_ ?_ ?_ ?_ ?_
  (cm (p:=⟨[0,1,6],sS tab++[.dict mt]⟩) (bi:=[.own 1,.own 2]) (X:=sS tab'++[.fz (.dict mt)]) ?_ ((NT _ _).trans hc) ?_)) ?_
 .rfl
 .lk
 .lk
 .lk
 .lk
 .lk
 .lk
 .lk
set_option tactic.hygienic true in
theorem NX:aR (R kG 39) jW ((ez.drop 5).take 2) (eA (aB ord (bA lk rows I) l) (.dict (fE ord (bA lk rows I))) (bA lk rows I) (.dict (bA lk rows I)) k [])=
  some (.ok .next,eA (aB ord (bA lk rows I) l) (.dict (fE ord (bA lk rows I))) (bA lk rows I) (.dict (fF lk rows I k)) k [.list [ao k],.fz (.list [ao k])]):=by
 cases I<;>lk
def nR(ord:List Int)(k:Int)(A:List (aj×T)):List (aj×T):=[(.str (aA "OCGs"),.list (ord.map ao++[ao k])),(.str (aA "D"),.dict A)]
set_option tactic.hygienic true in
theorem NY{A f2 tab:List (aj×T)}(hl:ord.length<900):(R kG 39).ex (an ez 7) jW (eA (aB ord A l) (.dict (fE ord A)) A (.dict f2) k [.list [ao k],.fz (.list [ao k])])=
  some (.ok .next,eA (aB ord A l) (.dict (nR ord k A)) A (.dict f2) k [.list [ao k],.fz (.list [ao k]),.list [ao k],.fz (.list (ord.map ao++[ao k]))]):=by
 have bb:(ord.map ao).length+[ao k].length<=1000:=by rw[List.length_map];refine(?_:ord.length+1<=1000);exact lB hl rfl
 refine(dW (v:= .own 10) (E:=eA (aB ord A l) (.dict (fE ord A)) A (.dict f2) k [.list [ao k],.fz (.list [ao k]),.list [ao k],.list (ord.map ao++[ao k])]) rfl rfl rfl
  ((go (v:= .t (.list (ord.map ao))) (u:= .own 9) (x:= .list (ord.map ao)) (y:= .list [ao k]) (E:=eA (aB ord A l) (.dict (fE ord A)) A (.dict f2) k [.list [ao k],.fz (.list [ao k])]) (O2:=eA (aB ord A l) (.dict (fE ord A)) A (.dict f2) k [.list [ao k],.fz (.list [ao k]),.list [ao k]]) ?_ ?_ rfl rfl (CM bb)).trans ?_)
  (o7 (k:=3) (it:= .str (S "OCGs")) (t:= .list (ord.map ao++[ao k])) (N:=fE ord A) (f:= .str (S "OCGs")) (E:=eA (aB ord A l) (.dict (fE ord A)) A (.dict f2) k [.list [ao k],.fz (.list [ao k]),.list [ao k],.list (ord.map ao++[ao k])]) (O2:=eA (aB ord A l) (.dict (fE ord A)) A (.dict f2) k [.list [ao k],.fz (.list [ao k]),.list [ao k],.list (ord.map ao++[ao k])])
   (O3:=eA (aB ord A l) (.dict (fE ord A)) A (.dict f2) k [.list [ao k],.fz (.list [ao k]),.list [ao k],.fz (.list (ord.map ao++[ao k]))]) rfl ?_ ?_ ?_ rfl rfl (show 2<1000 by decide))).trans ?_
 .lk
 .lk
 .rfl
 .lk
 .lk
 .lk
 .lk
set_option tactic.hygienic true in
theorem NZ{o:af}:(R kG 39).ex (an ez 8) jW (eA tab (.dict (nR ord k A)) A (.dict f2) k [.list [ao k],.fz (.list [ao k]),.list [ao k],.fz (.list (ord.map ao++[ao k]))])=
  some (.ok .next,eA tab (.dict (nR ord k f2)) A (.fz (.dict f2)) k [.list [ao k],.fz (.list [ao k]),.list [ao k],.fz (.list (ord.map ao++[ao k]))]):=by lk
set_option tactic.hygienic true in
theorem N0(hc:bO kH 30 552 [.own 1,.own 2] (sS tab++[.dict hk])=some (some (.ok .none,sS tab'++[.fz (.dict hk)]))):
  (R kG 39).ex (an ez 9) jW (eA tab (.dict hk) A f2 k [a,b,c,d])=some (.ok .next,eA tab' (.fz (.dict hk)) A f2 k [a,b,c,d]):=by
 refine jF (v:= .t .none) rfl (aO (fv:= .t (.top 552)) (vs:=[.own 1,.own 3]) (E:=eA tab (.dict hk) A f2 k [a,b,c,d]) ?_ ?_ ?_ ?_
  (cm (p:=⟨[0,1,3],sS tab++[.dict hk]⟩) (bi:=[.own 1,.own 2]) (X:=sS tab'++[.fz (.dict hk)]) ?_ ?_ ?_))
 .rfl
 .lk
 .lk
 .lk
 .lk
 .exact(NU _ _).trans hc
 .lk
theorem N3{hk f2 b d:MO}:fb (R kG 39) jW (ez.drop 10) 2 (eA tab (.fz x) A (.fz y) k [.list [ao k],.fz (.list [ao k]),.list [ao k],.fz (.list (ord.map ao++[ao k]))])=some (.ok (.t (ao k)),sS tab):=by lk
theorem N4(tab:List (aj×T))(h:fb (R kG 39) jW ez 2 (wh tab)=some (.ok v,X)):br kG 40 564 [.own 1,.t dJ] (sS tab)=some (.ok v,X):=by
 refine lj (e:=jW) (H:=[(S "shelf",.own 1),(S "label",.t dJ)]) (E:=wh tab) (st:=at_ 47) (q:=S "put_group") (d:=[]) (c6:=563) ?_ ?_ ?_ ?_ ?_ h
 .lk
 .lk
 .rfl
 .lk
 .lk
theorem N5{K:Nat}(hk:k=1+(K:Int))(m:K<70)(hl:l.length<700)(ho:ord.length<900)(h1:aj.int 1∉l.map (·.1))(u:∀i:Nat,i<K->(bg (aB ord (bA lk rows I) l) (.int (1+(i:Int)))).isSome=true)(q:aj.int k∉(aB ord (bA lk rows I) l).map (·.1))(c3:bg (aB ord (bA lk rows I) l) (.int k)=none):
  br kG 40 564 [.own 1,.t dJ] (sS (aB ord (bA lk rows I) l))=some (.ok (.t (ao k)),sS (aB (ord++[k]) (fF lk rows I k) (l++[(.int k,dc cj)]))):=by
 have ha:=jh (NS (tab:=aB ord (bA lk rows I) l) (c:=mt) (k:=K) (by refine(?_:l.length+1<900);exact lC hl rfl) m u (by refine rwl _ ?_ hk;exact c3));rw[<-hk,nw q] at ha;have ha:=ha;have f:aj.int 1∉(l++[(aj.int k,dc cj)]).map (·.1):=by
  rw[List.map_append,List.mem_append]
  rintro (h|h)
  .exact h1 h
  .have:aj.int 1=aj.int k:=by simpa using h
   exact q (this▸qn)
 have hp:=jh (NO (ord:=ord) (A:=bA lk rows I) (l:=l++[(aj.int k,dc cj)]) (hk:=nR ord k (fF lk rows I k)) (by refine rwm _ ?_ i6;refine(?_:l.length+1<800);exact lC hl rfl) f);have e:(aj.int 1,T.tuple [.int 0,.dict (fe (nR ord k (fF lk rows I k)))])::(l++[(aj.int k,dc cj)])=aB (ord++[k]) (fF lk rows I k) (l++[(.int k,dc cj)]):=by
  unfold aB hP fE nR fe;refine rwm _ ?_ i5;rfl
 rw[e] at hp;exact N4 _ (eN (l:=ez) (j:=4) NV (eN (l:=ez.drop 4) (j:=1) (bv (s:=an ez 4) (NW ha)) (eN (l:=ez.drop 5) (j:=2) NX
  (eN (l:=ez.drop 7) (j:=1) (bv (s:=an ez 7) (NY (tab:=[]) ho)) (eN (l:=ez.drop 8) (j:=1) (bv (s:=an ez 8) (NZ (tab:=aB ord (bA lk rows I) (l++[(.int k,dc cj)])) (o:=[]))) (eN (l:=ez.drop 9) (j:=1) (bv (s:=an ez 9) (N0 hp)) (N3 (hk:= .dead) (f2:= .dead) (b:= .dead) (d:= .dead))))))))
end
def sx:AE:=⟨aV (at_ 35),2,[],S "groups_in"++nm ".<locals>.",471⟩
def er(tab:List (aj×T))(X:T)(w:List (Str×V))(l:List Int):af:=sS tab++[.ns true ([(S "shelf",.own 1),(S "items",.t X),(S "found",.own 3)]++w),.list (l.map T.int)]
set_option tactic.hygienic true in
theorem N6{A:List Int}(ha:bO av 22 465 [.own 1,.t (ao a)] (sS tab)=some (some (.ok (.bool true),sS tab)))(hp:a∉A)(hl:A.length<100):
  cz kP 28 sx o5 4 (ao a) (er tab X (bE ao (S "item") A) A)=some (.ok .next,er tab X (bE ao (S "item") (A++[a])) (A++[a])):=by
 rw[nq];have hw:=iq ao (S "item") A;generalize bE ao (S "item") A=w at hw;have h1:(R kP 28).as (dw o5) sx (.t (ao a)) (er tab X w A)=some (.ok (),er tab X [(S "item",.t (ao a))] A):=by
  refine oE w hw ?_ λb=>?_<;>lk
 refine(dI (O2:=er tab X [(S "item",.t (ao a))] (A++[a])) h1 (bv (jG (E:=er tab X [(S "item",.t (ao a))] A) (rj (E:=er tab X [(S "item",.t (ao a))] A) ?_ (lT ?_)) (bv ?_)))).trans ?_
 .refine rk (v:= .t (.bool true)) (E:=er tab X [(S "item",.t (ao a))] A) (aO (fv:= .t (.top 465)) (vs:=[.own 1,.t (ao a)]) (E:=er tab X [(S "item",.t (ao a))] A) ?_ ?_ ?_ ?_ (cm (p:=⟨[0,1],sS tab⟩) (bi:=[.own 1,.t (ao a)]) (X:=sS tab) ?_ ?_ ?_)) rfl
  .rfl
  .lk
  .lk
  .lk
  .lk
  .exact(Cp _ _).trans ha
  .lk
 .refine ey (v:= .t (.int a)) (u:= .own 3) (E:=er tab X [(S "item",.t (ao a))] A) (O2:=er tab X [(S "item",.t (ao a))] A) ?_ ?_ (vj (x:= .int a) (y:=ak A) rfl rfl (by rw[nn,rq hp]))
  .lk
  .lk
 .refine jF (v:= .t .none) rfl (kn (E:=er tab X [(S "item",.t (ao a))] A) (O2:=er tab X [(S "item",.t (ao a))] A) (M:= .own 3) (t:=ak A) (L:=2) (k:=5) (vs:=[.t (.int a)]) ?_ ?_ ?_ rfl rfl ?_ ?_ (A2 (U:=A.map T.int) rfl (by rw[List.length_map];exact lB hl rfl) ?_))
  .rfl
  .lk
  .lk
  .lk
  .lk
  .unfold er;refine rwm _ ?_ i5;rfl
 .exact rwm _ rfl (ek (hX 4))
theorem N7{ns:List Int}(hn:ns.Nodup)(ha:∀n∈ns,bO av 22 465 [.own 1,.t (ao n)] (sS tab)=some (some (.ok (.bool true),sS tab)))(hl:ns.length<100):br kP 30 472 [.own 1,.t (aK ns)] (sS tab)=some (.ok (.t (ak ns)),sS tab):=by
 have L:=kE ao (λA=>er tab (aK ns) (bE ao (S "item") A) A) (cz kP 28 sx o5 4) ns λA a B e=>N6 (ha a (by refine rwm _ ?_ e;simp)) (o4 hn e) (by rw[e] at hl;simp at hl;exact pR hl);have hw:=iq ao (S "item") ns;generalize bE ao (S "item") ns=w at hw L;refine dT (e:=sx) (b:=ba (at_ 35)) (E:=sS tab++[.ns true [(S "shelf",.own 1),(S "items",.t (aK ns))]]) (O2:=er tab (aK ns) w ns) (v:= .own 3) (by lk) ?_ rfl;refine aW (E:=er tab (aK ns) [] []) ?_ (aW (E:=er tab (aK ns) w ns) (oZ (E:=er tab (aK ns) [] []) (x:= .t (aK ns)) (t:=aK ns) (U:=ns.map ao) rfl ?_ rfl rfl ?_) (ci ?_))
 .lk
 .lk
 .exact L
 .refine oE w hw ?_ λb=>?_<;>lk
noncomputable def cg(l:List Int):List (aj×T):=l.map λn=>(.int n,.tuple [.int 0,.none])
theorem sy:k∈(cg l).map (·.1)↔∃n∈l,k= .int n:=by
 unfold cg;refine rwm _ ?_ mc;simp only[List.mem_map,Function.comp];exact⟨λ⟨n,hn,e⟩=>⟨n,hn,e.symm⟩,λ⟨n,hn,e⟩=>⟨n,hn,e.symm⟩⟩
theorem pK{l:List (aj×T)}:(bg l k).isSome=decide (k∈l.map (·.1)):=by
 unfold bg
 induction l with
 |nil=>rfl
 |cons a l ih=>
  rcases a with⟨j,t⟩;refine rwm _ ?_ m1
  by_cases h:k=j
  .subst h;simp
  .have:(k==j)=false:=beq_eq_false_iff_ne.mpr h;refine rwm _ ?_ this;dsimp only;refine a0 ih ?_;simp [h]
theorem N8{l:List (aj×T)}(h:k∉l.map (·.1)):bg l k=none:=by
 have:=pK (l:=l) (k:=k);rw[decide_eq_false h] at this
 cases e:bg l k with
 |none=>rfl
 |some t=>rw[e] at this;exact tff this
noncomputable def eC(l:List (aj×T))(g:List Int):List (aj×T):=l.filter λG=> !g.any λn=>decide (G.1=aj.int n)
theorem N9(l:List (aj×T)):eC l []=l:=by
 unfold eC;exact List.filter_eq_self.mpr λ_ _=>rfl
theorem Oa(l:List (aj×T))(g:List Int)(a:Int):eC l (g++[a])=gO (eC l g) (.int a):=by
 unfold eC gO;refine rwm _ ?_ List.filter_filter;refine List.filter_congr λG _=>?_;refine rwm _ ?_ List.any_append;simp;rw[Bool.and_comm]
theorem Ob{l:List (aj×T)}(h:aj.int a∈l.map (·.1))(ha:a∉g):aj.int a∈(eC l g).map (·.1):=by
 refine al (hK.mp h) λG h1 h2=>hK.mpr ⟨G,p9.mpr ⟨h1,?_⟩,h2⟩;rw[Bool.not_eq_true',List.any_eq_false];intro n hn;refine rwm _ ?_ h2;simp;intro e;subst e;exact ha hn
theorem wj{l:List (aj×T)}(h:∀n∈g,aj.int n∉l.map (·.1)):eC l g=l:=by
 unfold eC;refine List.filter_eq_self.mpr λG B=>?_;rw[Bool.not_eq_true',List.any_eq_false];intro n hn;simp;intro e;exact h n hn (hK.mpr ⟨G,B,e⟩)
theorem Oc(g:List Int):eC (cg g) g=[]:=by
 unfold eC;refine List.filter_eq_nil_iff.mpr λG B=>?_;(refine ag (hK.mp B) λn c1=>ac c1 λhn bo=>?_;clear c1;clear B;subst bo);simp only[Bool.not_eq_true',Bool.not_eq_false,List.any_eq_true];exact⟨n,hn,by simp⟩
theorem wk(a b:List (aj×T))(g:List Int):eC (a++b) g=eC a g++eC b g:=List.filter_append ..
theorem Od(be:List V)(O:af):kK 399 be O=bO av 15 399 be O:=by lk
theorem Oe(be:List V)(O:af):kK 413 be O=bO av 15 413 be O:=by lk
theorem Of(be:List V)(O:af):kK 564 be O=bO kG 40 564 be O:=by lk
theorem Og(be:List V)(O:af):kK 472 be O=bO kP 30 472 be O:=by lk
def eD:T:= .str (S "new one")
def dL:AE:=⟨aV (at_ 52),3,[(S "shelf",4)],S "copy_grown"++nm ".<locals>.",582⟩
def dA:List Stmt:=ba (at_ 52)
def jX:Expr:=bV (an dA 1)
def nT(y:T)(k:Int):af:=[.ns true [(S "bench",.t y),(S "beyond",.t (.int k)),(S "rest",.t eD)],.cell (some (.t dJ))]
def aU(y:T)(k:Int)(X:T)(I w:List (Str×V))(tab:List (aj×T))(o:af):af:=nT y k++[ml,.ns true ([(S "bench",.t y),(S "beyond",.t (.int k)),(S "change",.own 2)]++I),.cell (some (.own 8)),.ns true ([(S "shelf",.t X),(S "table",.own 6)]++w),.dict tab,.dead,.sh 435 [(S "table",.own 6),(S "trailer",.t bI)]]++o
noncomputable def fG(K:Nat):List Int:=(List.range K).map λ(i:Nat)=>1+(i:Int)
section
variable {dd:Array UInt8}{X:T}{k:Int}{w I:List (Str×V)}{tab:List (aj×T)}
set_option tactic.hygienic true in
theorem Oh{l:List (Int×T)}(c:strip X=c8 (aM l) bI)(hn:(l.map (·.1)).Nodup)(hp:∀p∈l,bC 6 p.2=true)(hl:l.length<100):∃w,eo w/\(R kK 32).ex (an dA 0) dL (gF false (am dd X) (.int k) eD dJ)=some (.ok .next,aU (am dd X) k X [] w (aM l) []):=by
 have h1:(R kK 30).call (.t (.top 444)) [.t X] (gF false (am dd X) (.int k) eD dJ)=some (.ok (.own 8),cA false (am dd X) (.int k) eD dJ X (dY dz l) (aM l)++[MO.dead,MO.sh 435 [(S "table",.own 6),(S "trailer",.t bI)]]):=Cv (q:=false) (y:=am dd X) (u:= .int k) (s:=eD) (z:=dJ) (X:=X) c hn hp hl rfl;have hw:=nz dz l;generalize dY dz l=w at hw h1;refine⟨w,hw,dW (v:= .own 8) (E:=cA false (am dd X) (.int k) eD dJ X w (aM l)++[.dead,.sh 435 [(S "table",.own 6),(S "trailer",.t bI)]]) rfl rfl rfl (aO (fv:= .t (.top 444)) (vs:=[.t X]) (E:=gF false (am dd X) (.int k) eD dJ) ?_ ?_
  (bx (ll (X:=am dd X) (C:=90) (fs:=[(S "data",.bytes dd),(S "base",.none),(S "shelf",X)]) (E:=gF false (am dd X) (.int k) eD dJ) ?_ ?_ ?_ ?_ ?_ (wf c)) cb) ?_ h1) ?_⟩
 .rfl
 .lk
 .rfl
 .lk
 .rfl
 .lk
 .lk
 .lk
 .refine oE w hw ?_ λp=>?_<;>lk
theorem Oi(hw:eo w)(a:Int)(hv:v=[]\/∃b,v=[(S "number",V.t (.int b))]):
  cP kK 31 dL jX 9 (.int a) (aU (am dd X) k X [] w tab []++[.ns false v])=some (.ok (cond (!(bg tab (.int a)).isSome) (some (.int a)) none),aU (am dd X) k X [] w tab []++[.ns false [(S "number",.t (.int a))]]):=by
 refine kx (q:= !(bg tab (.int a)).isSome) (E:=aU (am dd X) k X [] w tab []++[.ns false [(S "number",.t (.int a))]]) (O2:=aU (am dd X) k X [] w tab []++[.ns false [(S "number",.t (.int a))]]) ?_
  (vP (ey (v:= .t (.int a)) (u:= .own 6) (E:=aU (am dd X) k X [] w tab []++[.ns false [(S "number",.t (.int a))]]) (O2:=aU (am dd X) k X [] w tab []++[.ns false [(S "number",.t (.int a))]]) ?_ ?_ (vj (x:= .int a) (y:= .dict tab) ?_ ?_ ?_))) (λ_=>?_) (λ_=>rfl)
 ·(refine a2 hw (λzz=>?_) (λzz=>?_);(try clear hw);subst zz;rotate_left;(try clear hw);refine ag zz λp bo=>?_;clear zz;subst bo;rotate_right)<;>refine oE v hv ?_ λb=>?_<;>lk
 .refine oE w hw ?_ λp=>?_<;>lk
 .refine oE w hw ?_ λp=>?_<;>lk
 .rfl
 .rfl
 .rfl
 .refine oE w hw ?_ λp=>?_<;>lk
def ff(tab:List (aj×T))(K:Nat):List Int:=(fG K).filter λn=> !(bg tab (.int n)).isSome
theorem Oj(p:Int->Bool)(l:List Int):l.filterMap (λa=>cond (p a) (some (T.int a)) none)=(l.filter p).map T.int:=by
 induction l with
 |nil=>rfl
 |cons a l ih=>
  cases h:p a
  .exact rwm _ (rwm _ (rwm _ rfl ih) (List.filter_cons_of_neg (by refine rwm _ ?_ h;decide))) (List.filterMap_cons_none (by refine rwm _ ?_ h;rfl))
  .exact rwm _ (rwm _ (rwm _ (rwm _ rfl ih) ot) (List.filter_cons_of_pos h)) (p7 (by refine rwm _ ?_ h;rfl))
set_option tactic.hygienic true in
theorem Ok(hw:eo w){K:Nat}(m:K<900)(hr:d7 (.range 1 k)=some ((fG K).map T.int)):(R kK 32).ex (an dA 1) dL (aU (am dd X) k X [] w tab [])=some (.ok .next,aU (am dd X) k X [(S "gaps",.own 9)] w tab [.list ((ff tab K).map T.int)]):=by
 have c:bZ (cP kK 31 dL jX 9) ((fG K).map T.int) [] (aU (am dd X) k X [] w tab []++[.ns false []])=
   some (.ok ((ff tab K).map T.int),aU (am dd X) k X [] w tab []++[.ns false (cO T.int (S "number") (fG K))]):=by
  have:=jO T.int (S "number") (λa=>cond (!(bg tab (.int a)).isSome) (some (T.int a)) none) (cP kK 31 dL jX 9) (aU (am dd X) k X [] w tab []) (fG K) (by unfold fG;rw[List.length_map,List.length_range];exact lB (lv m) rfl) λa ha v hv=>Oi hw a hv;rw[this,Oj];rfl
 generalize (ff tab K).map T.int=G at c;unfold cP at c;have hl:fu (R kK 31) dL (aY (a7 jX) 0) [⟨aY (a7 jX) 1,aY (a7 jX) 2,kJ jX,0⟩] (iu jX) (aU (am dd X) k X [] w tab [])=some (.ok (.own 9),aU (am dd X) k X [] w tab [.list G]):=by
  refine(vd (x:= .t (.range 1 k)) (t:= .range 1 k) (U:=(fG K).map T.int) (ce:=ja dL jX 9) (be:=G) (O3:=aU (am dd X) k X [] w tab []++[.ns false (cO T.int (S "number") (fG K))]) (N:=cO T.int (S "number") (fG K)) ?_ ?_ rfl hr ?_ c rfl).trans ?_
  .rfl
  .refine oE w hw ?_ λp=>?_<;>lk
  .refine oE w hw ?_ λp=>?_<;>lk
  .refine oE w hw ?_ λp=>?_<;>lk
 refine oX rfl (A9 hl ?_);refine oE w hw ?_ λp=>?_<;>lk
set_option tactic.hygienic true in
theorem Ol(hw:eo w){A:List Int}(hl:tab.length<800)(c4:A.length<90)(hf:aj.int a∉(tab++cg A).map (·.1)):
  cz kK 31 dL (an dA 2) 10 (.int a) (aU (am dd X) k X ([(S "gaps",.own 9)]++bE T.int (S "number") A) w (tab++cg A) [.fz G])=some (.ok .next,aU (am dd X) k X ([(S "gaps",.own 9)]++bE T.int (S "number") (A++[a])) w (tab++cg (A++[a])) [.fz G]):=by
 have hc:=jh (Nu (N:=tab++cg A) (by refine rwm _ ?_ i6;unfold cg;rw[List.length_map];exact lB (Nat.add_le_add (lv hl) c4) rfl) a .none);rw[nw hf,List.append_assoc,show cg A++[(aj.int a,T.tuple [.int 0,.none])]=cg (A++[a]) by unfold cg;refine rwm _ ?_ List.map_append;rfl] at hc;rw[nq];have hv:=iq T.int (S "number") A;generalize bE T.int (S "number") A=v at hv;generalize tab++cg A=c at hc;generalize tab++cg (A++[a])=m at hc;have h1:(R kK 31).as (dw (an dA 2)) dL (.t (.int a)) (aU (am dd X) k X ([(S "gaps",.own 9)]++v) w c [.fz G])=some (.ok (),aU (am dd X) k X [(S "gaps",.own 9),(S "number",.t (.int a))] w c [.fz G]):=by
  (refine a2 hw (λzz=>?_) (λzz=>?_);(try clear hw);subst zz;rotate_left;(try clear hw);refine ag zz λp bo=>?_;clear zz;subst bo;rotate_right)<;>refine oE v hv ?_ λb=>?_<;>lk
 have h2:aR (R kK 31) dL (dx (an dA 2)) (aU (am dd X) k X [(S "gaps",.own 9),(S "number",.t (.int a))] w c [.fz G])=some (.ok .next,aU (am dd X) k X [(S "gaps",.own 9),(S "number",.t (.int a))] w m [.fz G]):=by
  refine bv (jF (v:= .t .none) rfl (rl (E:=aU (am dd X) k X [(S "gaps",.own 9),(S "number",.t (.int a))] w c [.fz G]) (O2:=aU (am dd X) k X [(S "gaps",.own 9),(S "number",.t (.int a))] w c [.fz G]) (M:= .own 8) (C:=435) (f:=399) (vs:=[.t (.int a),.t (.int 0),.t .none]) ?_ ?_ ?_ ?_ ?_
   (cm (p:=⟨[6,8],sS c⟩) (bi:=[.own 1,.t (.int a),.t (.int 0),.t .none]) (X:=sS m) ?_ ?_ ?_)))
  .rfl
  .refine oE w hw ?_ λp=>?_<;>lk
  .refine oE w hw ?_ λp=>?_<;>lk
  .lk
  .refine oE w hw ?_ λp=>?_<;>lk
  .refine oE w hw ?_ λp=>?_<;>lk
  .exact(Od _ _).trans hc
  .refine oE w hw ?_ λp=>?_<;>lk
 refine(dI h1 h2).trans (hQ (λY=>some (Except.ok Fl.next,Y)) (ek (hX 10)))
set_option tactic.hygienic true in
theorem Om(hw:eo w)(hv:v=[]\/∃b,v=[(S "number",V.t (.int b))])(hl:tab.length<900)(hf:aj.int a∈tab.map (·.1)):
  cz kK 31 dL (an dA 4) 10 (.int a) (aU (am dd X) k X ([(S "gaps",.own 9)]++v) w tab [.fz G])=some (.ok .next,aU (am dd X) k X [(S "gaps",.own 9),(S "number",.t (.int a))] w (gO tab (.int a)) [.fz G]):=by
 have hs:(bg tab (.int a)).isSome=true:=by exact rwm _ (rwm _ rfl (ii hf)) pK
 refine ag (Option.isSome_iff_exists.mp hs) λt ht=>?_;have hc:=jh (Nw hl ht);generalize gO tab (.int a)=m at hc;have h1:(R kK 31).as (dw (an dA 4)) dL (.t (.int a)) (aU (am dd X) k X ([(S "gaps",.own 9)]++v) w tab [.fz G])=some (.ok (),aU (am dd X) k X [(S "gaps",.own 9),(S "number",.t (.int a))] w tab [.fz G]):=by
  (refine a2 hw (λzz=>?_) (λzz=>?_);(try clear hw);subst zz;rotate_left;(try clear hw);refine ag zz λp bo=>?_;clear zz;subst bo;rotate_right)<;>refine oE v hv ?_ λb=>?_<;>lk
 have h2:aR (R kK 31) dL (dx (an dA 4)) (aU (am dd X) k X [(S "gaps",.own 9),(S "number",.t (.int a))] w tab [.fz G])=some (.ok .next,aU (am dd X) k X [(S "gaps",.own 9),(S "number",.t (.int a))] w m [.fz G]):=by
  refine bv (jF (v:= .t .none) rfl (rl (E:=aU (am dd X) k X [(S "gaps",.own 9),(S "number",.t (.int a))] w tab [.fz G]) (O2:=aU (am dd X) k X [(S "gaps",.own 9),(S "number",.t (.int a))] w tab [.fz G]) (M:= .own 8) (C:=435) (f:=413) (vs:=[.t (.int a)]) ?_ ?_ ?_ ?_ ?_
   (cm (p:=⟨[6,8],sS tab⟩) (bi:=[.own 1,.t (.int a)]) (X:=sS m) ?_ ?_ ?_)))
  .rfl
  .refine oE w hw ?_ λp=>?_<;>lk
  .refine oE w hw ?_ λp=>?_<;>lk
  .lk
  .refine oE w hw ?_ λp=>?_<;>lk
  .refine oE w hw ?_ λp=>?_<;>lk
  .exact(Oe _ _).trans hc
  .refine oE w hw ?_ λp=>?_<;>lk
 refine(dI h1 h2).trans (hQ (λY=>some (Except.ok Fl.next,Y)) (ek (hX 10)))
def iG(v:List (Str×V)):Prop:=v=[]\/∃b,v=[(S "number",V.t (.int b))]
theorem CN(l:List Int):(cg l).length=l.length:=li ..
set_option tactic.hygienic true in
theorem On(hw:eo w){G:List Int}(z:G.Nodup)(hg:∀n∈G,aj.int n∉tab.map (·.1))(hl:tab.length<800)(g:G.length<90):
  ∃v,iG v/\(R kK 32).ex (an dA 2) dL (aU (am dd X) k X [(S "gaps",.own 9)] w tab [.list (G.map T.int)])=some (.ok .next,aU (am dd X) k X ([(S "gaps",.own 9)]++v) w (tab++cg G) [.fz (ak G)]):=by
 have H:∀A a B,G=A++a::B->cz kK 31 dL (an dA 2) 10 (.int a) (aU (am dd X) k X ([(S "gaps",.own 9)]++bE T.int (S "number") A) w (tab++cg A) [.fz (ak G)])=some (.ok .next,aU (am dd X) k X ([(S "gaps",.own 9)]++bE T.int (S "number") (A++[a])) w (tab++cg (A++[a])) [.fz (ak G)]):=by
  intro A a B e;refine Ol hw hl (by rw[e] at g;simp at g;exact hO (iv _ _) g) ?_;have ha:a∈G:=by refine rwm _ ?_ e;simp
  rw[List.map_append,List.mem_append]
  rintro (h|h)
  .exact hg a ha h
  .refine al (sy.mp h) λn hn e1=>o4 z e (aj.int.inj e1▸hn)
 have L:dC (cz kK 31 dL (an dA 2) 10) (G.map T.int) (aU (am dd X) k X ([(S "gaps",.own 9)]++[]) w (tab++cg []) [.fz (ak G)])=some (.ok .next,aU (am dd X) k X ([(S "gaps",.own 9)]++bE T.int (S "number") G) w (tab++cg G) [.fz (ak G)]):=
  kE T.int (λA=>aU (am dd X) k X ([(S "gaps",.own 9)]++bE T.int (S "number") A) w (tab++cg A) [.fz (ak G)]) _ G H
 have hv:=iq T.int (S "number") G;generalize bE T.int (S "number") G=v at hv L;rw[show cg []=[] from rfl,List.append_nil,List.append_nil] at L;refine⟨v,hv,oZ (x:= .own 9) (t:=ak G) (U:=G.map T.int) (E:=aU (am dd X) k X [(S "gaps",.own 9)] w tab [.list (G.map T.int)]) (O2:=aU (am dd X) k X [(S "gaps",.own 9)] w tab [.fz (ak G)]) rfl ?_ ?_ rfl ?_⟩
 .refine oE w hw ?_ λp=>?_<;>lk
 .refine oE w hw ?_ λp=>?_<;>lk
 .exact L
def CO:AE:=⟨iu nL,10,[(S "label",1)],S "layer_laid"++nm ".<locals>."++nm "<lambda>"++nm ".<locals>.",0⟩
set_option tactic.hygienic true in
theorem Oo(hw:eo w)(hv:iG v)(hc:bO kG 40 564 [.own 1,.t dJ] (sS tab)=some (some (.ok t,sS tab'))):
  (R kK 32).ex (an dA 3) dL (aU (am dd X) k X ([(S "gaps",.own 9)]++v) w tab [.fz G])=some (.ok .next,aU (am dd X) k X ([(S "gaps",.own 9)]++v) w tab' [.fz G]):=by
 have hb:(R kK 29).ev (lq nL) CO (aU (am dd X) k X ([(S "gaps",.own 9)]++v) w tab [.fz G,.ns true [(S "shelf",.own 8)]])=some (.ok (.t t),aU (am dd X) k X ([(S "gaps",.own 9)]++v) w tab' [.fz G,.ns true [(S "shelf",.own 8)]]):=by
  refine aO (fv:= .t (.top 564)) (vs:=[.own 8,.t dJ]) (E:=aU (am dd X) k X ([(S "gaps",.own 9)]++v) w tab [.fz G,.ns true [(S "shelf",.own 8)]]) ?_ ?_ ?_ ?_ (cm (p:=⟨[6,8],sS tab⟩) (bi:=[.own 1,.t dJ]) (X:=sS tab') ?_ ?_ ?_)
  .rfl
  ·(refine a2 hw (λzz=>?_) (λzz=>?_);(try clear hw);subst zz;rotate_left;(try clear hw);refine ag zz λp bo=>?_;clear zz;subst bo;rotate_right)<;>refine oE v hv ?_ λb=>?_<;>lk
  ·(refine a2 hw (λzz=>?_) (λzz=>?_);(try clear hw);subst zz;rotate_left;(try clear hw);refine ag zz λp bo=>?_;clear zz;subst bo;rotate_right)<;>refine oE v hv ?_ λb=>?_<;>lk
  .lk
  ·(refine a2 hw (λzz=>?_) (λzz=>?_);(try clear hw);subst zz;rotate_left;(try clear hw);refine ag zz λp bo=>?_;clear zz;subst bo;rotate_right)<;>refine oE v hv ?_ λb=>?_<;>lk
  .exact(Of _ _).trans hc
  ·(refine a2 hw (λzz=>?_) (λzz=>?_);(try clear hw);subst zz;rotate_left;(try clear hw);refine ag zz λp bo=>?_;clear zz;subst bo;rotate_right)<;>refine oE v hv ?_ λb=>?_<;>lk
 have cr:(R kK 30).call (.own 2) [.own 8] (aU (am dd X) k X ([(S "gaps",.own 9)]++v) w tab [.fz G])=some (.ok (.t t),aU (am dd X) k X ([(S "gaps",.own 9)]++v) w tab' [.fz G]):=by
  refine CG (ps:=so nL) (j:=lq nL) (sc:=iu nL) (q:=S "layer_laid"++nm ".<locals>."++nm "<lambda>") (cl:=[(S "label",1)]) (H:=[(S "shelf",.own 8)]) (e:=CO) (E:=aU (am dd X) k X ([(S "gaps",.own 9)]++v) w tab [.fz G,.ns true [(S "shelf",.own 8)]])
   (O2:=aU (am dd X) k X ([(S "gaps",.own 9)]++v) w tab' [.fz G,.ns true [(S "shelf",.own 8)]]) (v:= .t t) ?_ ?_ ?_ ?_ ?_ ?_
  .lk
  .lk
  .lk
  ·(refine a2 hw (λzz=>?_) (λzz=>?_);(try clear hw);subst zz;rotate_left;(try clear hw);refine ag zz λp bo=>?_;clear zz;subst bo;rotate_right)<;>refine oE v hv ?_ λb=>?_<;>lk
  .exact hb
  ·(refine a2 hw (λzz=>?_) (λzz=>?_);(try clear hw);clear hb;subst zz;rotate_left;(try clear hw);refine ag zz λp bo=>?_;clear zz;clear hb;subst bo;rotate_right)<;>refine oE v hv ?_ λb=>?_<;>lk
 refine jF (v:= .t t) rfl (aO (fv:= .own 2) (vs:=[.own 8]) (E:=aU (am dd X) k X ([(S "gaps",.own 9)]++v) w tab [.fz G]) ?_ ?_ ?_ ?_ ?_)
 .rfl
 ·(refine a2 hw (λzz=>?_) (λzz=>?_);(try clear hw);clear hb;subst zz;rotate_left;(try clear hw);refine ag zz λp bo=>?_;clear zz;clear hb;subst bo;rotate_right)<;>refine oE v hv ?_ λb=>?_<;>lk
 ·(refine a2 hw (λzz=>?_) (λzz=>?_);(try clear hw);clear hb;subst zz;rotate_left;(try clear hw);refine ag zz λp bo=>?_;clear zz;clear hb;subst bo;rotate_right)<;>refine oE v hv ?_ λb=>?_<;>lk
 .lk
 .exact cr
set_option tactic.hygienic true in
theorem Op(hw:eo w)(hv:iG v){G:List Int}(z:G.Nodup)(hg:∀n∈G,aj.int n∈tab.map (·.1))(hl:tab.length<900):
  ∃v',iG v'/\(R kK 32).ex (an dA 4) dL (aU (am dd X) k X ([(S "gaps",.own 9)]++v) w tab [.fz (ak G)])=some (.ok .next,aU (am dd X) k X ([(S "gaps",.own 9)]++v') w (eC tab G) [.fz (ak G)]):=by
 (refine ag (la T.int (λA O=>∃v',iG v'/\O=aU (am dd X) k X ([(S "gaps",.own 9)]++v') w (eC tab A) [.fz (ak G)]) (cz kK 31 dL (an dA 4) 10) G (O:=aU (am dd X) k X ([(S "gaps",.own 9)]++v) w tab [.fz (ak G)]) ⟨v,hv,by rw[N9]⟩ λA a B O e Y=>by
  obtain⟨f,d,rfl⟩:=Y;have ha:a∈G:=by refine rwm _ ?_ e;simp
  refine⟨_,Om hw d (hO (List.length_filter_le _ _) hl) (Ob (hg a ha) (o4 z e)),[(S "number",.t (.int a))],.inr ⟨a,rfl⟩,?_⟩;rw[Oa];rfl) λM c3=>?_;refine ac c3 λL bi=>ag bi λv' c1=>ac c1 λj bo=>?_;clear c1;clear c3 bi;subst bo)
 refine⟨v',j,oZ (x:= .own 9) (t:=ak G) (U:=G.map T.int) (E:=aU (am dd X) k X ([(S "gaps",.own 9)]++v) w tab [.fz (ak G)]) (O2:=aU (am dd X) k X ([(S "gaps",.own 9)]++v) w tab [.fz (ak G)]) rfl ?_ ?_ rfl ?_⟩
 ·(refine a2 hw (λzz=>?_) (λzz=>?_);(try clear hw);subst zz;rotate_left;(try clear hw);refine ag zz λp bo=>?_;clear zz;subst bo;rotate_right)<;>refine oE v hv ?_ λb=>?_<;>lk
 ·(refine a2 hw (λzz=>?_) (λzz=>?_);(try clear hw);subst zz;rotate_left;(try clear hw);refine ag zz λp bo=>?_;clear zz;subst bo;rotate_right)<;>refine oE v hv ?_ λb=>?_<;>lk
 .exact L
def eE(y:T)(G:T)(dd:Array UInt8):af:=[.fz G,.ns true [(S "bench",.t y),(S "shelf",.own 8)],.dict [],.dead,.sh 90 [(S "data",.t (.bytes dd)),(S "base",.t .none),(S "shelf",.own 8)]]
theorem Oq(hw:eo w)(hv:iG v):(R kK 32).ex (an dA 5) dL (aU (am dd X) k X ([(S "gaps",.own 9)]++v) w (aB ord A l) [.fz G])=some (.ok (.ret (.own 13)),aU (am dd X) k X ([(S "gaps",.own 9)]++v) w (aB ord A l) (eE (am dd X) G dd)):=by
 (refine a2 hw (λzz=>?_) (λzz=>?_);(try clear hw);subst zz;rotate_left;(try clear hw);refine ag zz λp bo=>?_;clear zz;subst bo;rotate_right)<;>refine oE v hv ?_ λb=>?_<;>lk
theorem Os{l:List (Int×T)}{K:Nat}{ord:List Int}{A N f:List (aj×T)}{t:T}(c:strip X=c8 (aM l) bI)(hn:(l.map (·.1)).Nodup)(hp:∀p∈l,bC 6 p.2=true)(hl:l.length<100)(m:K<80)(hr:d7 (.range 1 k)=some ((fG K).map T.int))
  (hc:bO kG 40 564 [.own 1,.t dJ] (sS (aM l++cg (ff (aM l) K)))=some (some (.ok t,sS f)))(h3:f.length<900)(u:∀n∈ff (aM l) K,aj.int n∈f.map (·.1))(ho:eC f (ff (aM l) K)=aB ord A N):
  ∃w v,eo w/\iG v/\(R kK 33).call (.t (.top 583)) [.t (am dd X),.t (.int k),.own 2] (nT (am dd X) k++[ml])=some (.ok (.own 13),aU (am dd X) k X ([(S "gaps",.own 9)]++v) w (aB ord A N) (eE (am dd X) (ak (ff (aM l) K)) dd)):=by
 have o:(ff (aM l) K).Nodup:=by
  unfold ff fG;have h:List.Pairwise (λ(a b:Nat)=>a≠b) (List.range K):=List.nodup_range;have h2:((List.range K).map λ(i:Nat)=>1+(i:Int)).Nodup:=List.pairwise_map.mpr (h.imp λ{a b} z e=>z (Int.ofNat.inj (Int.add_left_cancel e)));exact h2.filter _
 have r:∀n∈ff (aM l) K,aj.int n∉(aM l).map (·.1):=λn hn hm=>by
  have:=(p9.mp hn).2;rw[pK,decide_eq_true hm] at this;exact ftf this
 have g:(ff (aM l) K).length<90:=by
  refine hO (List.length_filter_le _ _) ?_;unfold fG;rw[List.length_map,List.length_range];exact lB m rfl
 refine al (Oh (dd:=dd) (k:=k) c hn hp hl) λw hw e0=>?_;have e1:=Ok (dd:=dd) (X:=X) (tab:=aM l) hw (lB m rfl) hr;(refine al (On (dd:=dd) (X:=X) (k:=k) (tab:=aM l) hw o r (by rw[Cu];exact lB hl rfl) g) λv hv e2=>?_);refine al (Op (dd:=dd) (X:=X) (k:=k) (tab:=f) hw hv o u h3) λv' j e4=>?_;rw[ho] at e4;have e5:=Oq (dd:=dd) (X:=X) (k:=k) hw j (G:=ak (ff (aM l) K)) (ord:=ord) (A:=A) (l:=N);refine⟨w,v',hw,j,kq (e:=dL) (H:=[(S "bench",.t (am dd X)),(S "beyond",.t (.int k)),(S "change",.own 2)]) (E:=gF false (am dd X) (.int k) eD dJ) (O2:=aU (am dd X) k X ([(S "gaps",.own 9)]++v') w (aB ord A N) (eE (am dd X) (ak (ff (aM l) K)) dd)) (v:= .own 13) (st:=at_ 52) (q:=S "copy_grown") (d:=[]) (c6:=582) ?_ ?_ ?_ ?_ ?_ ?_ ?_⟩
 .lk
 .lk
 .rfl
 .lk
 .lk
 .exact aW (s:=an dA 0) e0 (aW (s:=an dA 1) e1 (aW (s:=an dA 2) e2 (aW (s:=an dA 3) (Oo (dd:=dd) (X:=X) (k:=k) hw hv (G:=ak (ff (aM l) K)) hc) (aW (s:=an dA 4) e4 (ci (s:=an dA 5) e5)))))
 .rfl
end
theorem Ot{l:List Int}(hl:l.length<100):dQ (ak (l++[k])) (.int (-1))=some (.int k):=by
 show(jo ((l++[k]).map T.int).length (-1)).bind (((l++[k]).map T.int)[·]?)=_;have e:jo ((l++[k]).map T.int).length (-1)=some l.length:=by
  unfold jo;refine a0 (eb (by constructor<;>decide)) ?_;unfold seqIndex?;simp;exact Ex
 refine rwm _ ?_ e;show((l++[k]).map T.int)[l.length]? =_;simp
def pL:AE:=⟨aV (at_ 57),0,[(S "label",1)],S "layer_laid"++nm ".<locals>.",615⟩
def CP(y:T)(k:Int):af:=[.ns true [(S "bench",.t y),(S "beyond",.t (.int k)),(S "rest",.t eD)],.cell none]
def CQ(y:T)(k:Int):MO:= .ns true [(S "bench",.t y),(S "beyond",.t (.int k)),(S "rest",.t eD),(S "fresh",.own 13)]
def gI(y:T)(k:Int)(X:T)(I w:List (Str×V))(tab:List (aj×T))(o:af):af:=[CQ y k,.cell (some (.t dJ)),ml,.ns true ([(S "bench",.t y),(S "beyond",.t (.int k)),(S "change",.own 2)]++I),.cell (some (.own 8)),.ns true ([(S "shelf",.t X),(S "table",.own 6)]++w),.dict tab,.dead,.sh 435 [(S "table",.own 6),(S "trailer",.t bI)]]++o
def CR(y:T)(k:Int)(X:T)(I w:List (Str×V))(tab:List (aj×T))(G:T)(dd:Array UInt8):af:=[CQ y k,.cell (some (.t dJ)),ml,.ns true ([(S "bench",.t y),(S "beyond",.t (.int k)),(S "change",.own 2)]++I),.cell (some (.own 8)),.ns true ([(S "shelf",.t X),(S "table",.own 6)]++w),.fz (.dict tab),.dead,.fz (c8 tab bI),
 .fz G,.ns true [(S "bench",.t y),(S "shelf",.own 8)],.dict [],.dead,.fz (am dd (c8 tab bI))]
def ji(k:Int):Str:=S "layer "++dp k
def Ou:Expr:=aY (a7 (bV (an lp 2))) 1
def CS:AE:=⟨aV (at_ 37),14,[],S "group_numbers"++nm ".<locals>.",485⟩
section
variable {dd:Array UInt8}{X:T}{k:Int}{w v:List (Str×V)}
theorem Ov(hw:eo w)(hv:iG v)(hc:bO kP 30 472 [.own 1,.t (aK ord)] (sS (aB ord A l))=some (some (.ok (ak ord),sS (aB ord A l)))):
  (R kK 29).call (.t (.top 486)) [.own 8] (gI (am dd X) k X ([(S "gaps",.own 9)]++v) w (aB ord A l) (eE (am dd X) G dd))=some (.ok (.t (ak ord)),gI (am dd X) k X ([(S "gaps",.own 9)]++v) w (aB ord A l) (eE (am dd X) G dd)):=by
 have hq:(R kK 28).ex (an (ba (at_ 37)) 0) CS (gI (am dd X) k X ([(S "gaps",.own 9)]++v) w (aB ord A l) (eE (am dd X) G dd)++[.ns true [(S "shelf",.own 8)]])=some (.ok (.ret (.t (ak ord))),gI (am dd X) k X ([(S "gaps",.own 9)]++v) w (aB ord A l) (eE (am dd X) G dd)++[.ns true [(S "shelf",.own 8)]]):=by
  refine eh (aO (fv:= .t (.top 472)) (vs:=[.own 8,.t (aK ord)]) (E:=gI (am dd X) k X ([(S "gaps",.own 9)]++v) w (aB ord A l) (eE (am dd X) G dd)++[.ns true [(S "shelf",.own 8)]]) ?_ ?_ ?_ ?_ (cm (p:=⟨[6,8],sS (aB ord A l)⟩) (bi:=[.own 1,.t (aK ord)]) (X:=sS (aB ord A l)) ?_ ?_ ?_))
  .rfl
  ·(refine a2 hw (λzz=>?_) (λzz=>?_);(try clear hw);subst zz;rotate_left;(try clear hw);refine ag zz λp bo=>?_;clear zz;subst bo;rotate_right)<;>refine oE v hv ?_ λb=>?_<;>lk
  ·(refine a2 hw (λzz=>?_) (λzz=>?_);(try clear hw);subst zz;rotate_left;(try clear hw);refine ag zz λp bo=>?_;clear zz;subst bo;rotate_right)<;>refine oE v hv ?_ λb=>?_<;>lk
  .lk
  ·(refine a2 hw (λzz=>?_) (λzz=>?_);(try clear hw);subst zz;rotate_left;(try clear hw);refine ag zz λp bo=>?_;clear zz;subst bo;rotate_right)<;>refine oE v hv ?_ λb=>?_<;>lk
  .exact(Og _ _).trans hc
  ·(refine a2 hw (λzz=>?_) (λzz=>?_);(try clear hw);subst zz;rotate_left;(try clear hw);refine ag zz λp bo=>?_;clear zz;subst bo;rotate_right)<;>refine oE v hv ?_ λb=>?_<;>lk
 refine kq (e:=CS) (H:=[(S "shelf",.own 8)]) (E:=gI (am dd X) k X ([(S "gaps",.own 9)]++v) w (aB ord A l) (eE (am dd X) G dd)++[.ns true [(S "shelf",.own 8)]]) (O2:=gI (am dd X) k X ([(S "gaps",.own 9)]++v) w (aB ord A l) (eE (am dd X) G dd)++[.ns true [(S "shelf",.own 8)]]) (v:= .t (ak ord)) (st:=at_ 37) (q:=S "group_numbers") (d:=[]) (c6:=485) ?_ ?_ ?_ ?_ ?_ ?_ ?_
 ·(refine a2 hw (λzz=>?_) (λzz=>?_);(try clear hw);subst zz;rotate_left;(try clear hw);refine ag zz λp bo=>?_;clear zz;subst bo;rotate_right)<;>refine oE v hv ?_ λb=>?_<;>lk
 .lk
 .rfl
 .lk
 ·(refine a2 hw (λzz=>?_) (λzz=>?_);(try clear hw);subst zz;rotate_left;(try clear hw);refine ag zz λp bo=>?_;clear zz;subst bo;rotate_right)<;>refine oE v hv ?_ λb=>?_<;>lk
 .exact ci (s:=an (ba (at_ 37)) 0) hq
 ·(refine a2 hw (λzz=>?_) (λzz=>?_);(try clear hw);subst zz;rotate_left;(try clear hw);refine ag zz λp bo=>?_;clear zz;subst bo;rotate_right)<;>refine oE v hv ?_ λb=>?_<;>lk
theorem Ow(hw:eo w)(hv:iG v){ord:List Int}(ho:ord.length<100)(hk:0<=k/\k<=31)(hc:bO kP 30 472 [.own 1,.t (aK (ord++[k]))] (sS (aB (ord++[k]) A l))=some (some (.ok (ak (ord++[k])),sS (aB (ord++[k]) A l)))):
  (R kK 33).ev Ou pL (gI (am dd X) k X ([(S "gaps",.own 9)]++v) w (aB (ord++[k]) A l) (eE (am dd X) G dd))=some (.ok (.t (.str (ji k))),gI (am dd X) k X ([(S "gaps",.own 9)]++v) w (aB (ord++[k]) A l) (eE (am dd X) G dd)):=by
 have h1:=Ov (dd:=dd) (X:=X) (k:=k) hw hv (G:=G) hc;have hs:=g9 hk;generalize Y:gI (am dd X) k X ([(S "gaps",.own 9)]++v) w (aB (ord++[k]) A l) (eE (am dd X) G dd)=O at h1;refine go (v:= .t (.str (S "layer "))) (u:= .t (.str (dp k))) (E:=O) (O2:=O) ?_ (aO (fv:= .t (.typ "str")) (vs:=[.t (.int k)]) (E:=O) ?_ ?_ (bx (E:=O) (nu (M:= .t (ak (ord++[k]))) (t:=ak (ord++[k])) (it:= .int (-1)) (E:=O) ?_
  (aO (fv:= .t (.top 486)) (vs:=[.own 8]) (E:=O) ?_ ?_ ?_ ?_ ?_) ?_ rfl (Ot ho)) cb) ?_ (pg (sX hk))) rfl rfl (jb ?_)
 .lk
 .rfl
 .subst Y;(refine a2 hw (λzz=>?_) (λzz=>?_);(try clear hw);subst zz;rotate_left;(try clear hw);refine ag zz λp bo=>?_;clear zz;subst bo;rotate_right)<;>refine oE v hv ?_ λb=>?_<;>lk
 .rfl
 .rfl
 .subst Y;(refine a2 hw (λzz=>?_) (λzz=>?_);(try clear hw);subst zz;rotate_left;(try clear hw);refine ag zz λp bo=>?_;clear zz;subst bo;rotate_right)<;>refine oE v hv ?_ λb=>?_<;>lk
 .subst Y;(refine a2 hw (λzz=>?_) (λzz=>?_);(try clear hw);subst zz;rotate_left;(try clear hw);refine ag zz λp bo=>?_;clear zz;subst bo;rotate_right)<;>refine oE v hv ?_ λb=>?_<;>lk
 .lk
 .exact h1
 .clear h1;subst Y;(refine a2 hw (λzz=>?_) (λzz=>?_);(try clear hw);subst zz;rotate_left;(try clear hw);refine ag zz λp bo=>?_;clear zz;subst bo;rotate_right)<;>refine oE v hv ?_ λb=>?_<;>lk
 .lk
 .have:(S "layer ").length=6:=by decide
  exact lB (Nat.add_le_add (ec this) hs) rfl
theorem Ox(hw:eo w)(hv:iG v):eU fr [.own 13,.t (.str s)] (gI (am dd X) k X ([(S "gaps",.own 9)]++v) w tab (eE (am dd X) G dd))=some (.ok [am dd (c8 tab bI),.str s],CR (am dd X) k X ([(S "gaps",.own 9)]++v) w tab G dd):=by
 (refine a2 hw (λzz=>?_) (λzz=>?_);(try clear hw);subst zz;rotate_left;(try clear hw);refine ag zz λp bo=>?_;clear zz;subst bo;rotate_right)<;>refine oE v hv ?_ λb=>?_<;>lk
set_option tactic.hygienic true in
theorem Oy(hw:eo w)(hv:iG v){ord:List Int}(ho:ord.length<100)(hk:0<=k/\k<=31)(hc:bO kP 30 472 [.own 1,.t (aK (ord++[k]))] (sS (aB (ord++[k]) A l))=some (some (.ok (ak (ord++[k])),sS (aB (ord++[k]) A l))))
  (h1:(R kK 33).call (.t (.top 583)) [.t (am dd X),.t (.int k),.own 2] (nT (am dd X) k++[ml])=some (.ok (.own 13),aU (am dd X) k X ([(S "gaps",.own 9)]++v) w (aB (ord++[k]) A l) (eE (am dd X) G dd))):
  br kK 36 616 [.t (am dd X),.t (.int k),.t eD] []=some (.ok (.t (.tuple [am dd (c8 (aB (ord++[k]) A l) bI),.str (ji k)])),[]):=by
 have I:(R kK 35).ex (an lp 0) pL (CP (am dd X) k)=some (.ok .next,nT (am dd X) k):=by lk
 have o:(R kK 35).ex (an lp 1) pL (nT (am dd X) k)=some (.ok .next,gI (am dd X) k X ([(S "gaps",.own 9)]++v) w (aB (ord++[k]) A l) (eE (am dd X) G dd)):=by
  refine dW (v:= .own 13) (E:=aU (am dd X) k X ([(S "gaps",.own 9)]++v) w (aB (ord++[k]) A l) (eE (am dd X) G dd)) rfl rfl rfl (aO (fv:= .t (.top 583)) (vs:=[.t (am dd X),.t (.int k),.own 2]) (E:=nT (am dd X) k++[ml]) ?_ ?_ ?_ ?_ ?_) ?_
  .rfl
  .lk
  .lk
  .lk
  .exact h1
  ·(refine a2 hw (λzz=>?_) (λzz=>?_);(try clear hw);clear h1;subst zz;rotate_left;(try clear hw);refine ag zz λp bo=>?_;clear zz;clear h1;subst bo;rotate_right)<;>refine oE v hv ?_ λb=>?_<;>lk
 have L:(R kK 35).ex (an lp 2) pL (gI (am dd X) k X ([(S "gaps",.own 9)]++v) w (aB (ord++[k]) A l) (eE (am dd X) G dd))=some (.ok (.ret (.t (.tuple [am dd (c8 (aB (ord++[k]) A l) bI),.str (ji k)]))),CR (am dd X) k X ([(S "gaps",.own 9)]++v) w (aB (ord++[k]) A l) G dd):=by
  have hb:=Ow (dd:=dd) (X:=X) hw hv (G:=G) ho hk hc;refine eh (we (bx ?_ (bx hb cb)) (Ox hw hv) (show 2<1000 by decide));(refine a2 hw (λzz=>?_) (λzz=>?_);(try clear hw);clear h1 hb;subst zz;rotate_left;(try clear hw);refine ag zz λp bo=>?_;clear zz;clear h1 hb;subst bo;rotate_right)<;>refine oE v hv ?_ λb=>?_<;>lk
 refine kq (e:=pL) (H:=[(S "bench",.t (am dd X)),(S "beyond",.t (.int k)),(S "rest",.t eD)]) (E:=CP (am dd X) k) (st:=at_ 57) (q:=S "layer_laid") (d:=[]) (c6:=615) ?_ ?_ ?_ ?_ ?_ (aW (s:=an lp 0) I (aW (s:=an lp 1) o (ci (s:=an lp 2) L))) ?_
 .lk
 .lk
 .rfl
 .lk
 .lk
 .show some (Except.ok _,trunc 0 _)=_;rw[vq]
end
noncomputable def sA:List Nat:=[0,1,2,3,4,5,6,7,8]
theorem Oz(h:j<9):j∈sA:=(by decide+kernel:∀j,j<9->j∈sA) j h
theorem OA:sA.map (λ(j:Nat)=>d7 (.range 1 (23+(j:Int))))=fC (λ(j:Nat)=>some ((fG (22+j)).map T.int)) sA:=by lk
theorem OB{m j:Nat}(hm:m<=4)(hj:j<9)(x:T):bO av 22 465 [.own 1,.t (ao (23+(j:Int)))] (sS ((.int 1,x)::(aI 0 m++[(.int (23+(j:Int)),dc cj)])))=some (some (.ok (.bool true),sS ((.int 1,x)::(aI 0 m++[(.int (23+(j:Int)),dc cj)])))):=by
 have q:=fY (Ng x) (AW hj hm);dsimp only at q;exact jh q
noncomputable def ah.grown(D:ah)(k:Int):ah:={D with st:=2,k:=k}
theorem OD{D:ah}(h:D.Wf)(hk:23<=k/\k<=31):(D.grown k).Wf where
 m:=h.m
 base:=h.base
 on:=h.on
 off:=h.off
 lk:=h.lk
 few:=h.few
 rows:=h.rows
 st:=by refine(?_:2<=2);decide
 k:=λ_=>hk
theorem OE(D:ah)(k:Int):(D.grown k).tree=c8 (aB (D.order++[k]) (fF D.lk D.rows D.off k) (aI 0 D.m++[(.int k,dc cj)])) bI:=rfl
theorem wm:aj.int n∈(aI 0 m).map (·.1)↔n∈aQ m:=by
 rw[pC,i4];simp only[List.mem_map,List.mem_range]
 constructor
 .rintro ⟨i,h1,h2⟩
  exact⟨i,h1,by have:=aj.int.inj h2;exact D4 this⟩
 .rintro ⟨i,h1,h2⟩
  exact⟨i,h1,by refine rwm _ ?_ h2;simp⟩
theorem OF{D:ah}(h:D.Wf)(h1:D.st=1){k:Int}(hk:23<=k/\k<=31){dd:Array UInt8}:br kK 36 616 [.t (am dd (.box (.doc D) D.tree)),.t (.int k),.t eD] []=some (.ok (.t (.tuple [am dd (D.grown k).tree,.str (ji k)])),[]):=by
 have hm:=h.m;obtain⟨j,hj,rfl⟩:∃j:Nat,j<9/\k=23+(j:Int):=⟨(k - 23).toNat,wJ hk,wK hk⟩;have c:strip (.box (.doc D) D.tree)=c8 (aM (iF D.order (bA D.lk D.rows D.off) D.m [])) bI:=by
  show strip D.tree=_;rw[CF h1,sm];rfl
 have m:D.order.length<=20:=by rw[gv];exact lB hm rfl
 have t:(bA D.lk D.rows D.off).length<=20/\∀p∈bA D.lk D.rows D.off,j2 p.1=true/\bC 3 p.2=true:=by
  have f:bC 3 (.list (D.rows.map aK))=true:=Cy (by have:=h.few;exact lB this rfl) λr hr=>mq h (h.rows r hr);have h2:bC 3 (aK D.off)=true:=mn (mq h h.off);have h3:bC 3 (aK D.lk)=true:=mn (mq h h.lk);unfold bA
  cases ho:D.off with
  |nil=>
   refine⟨a4 rfl,λp hp=>?_⟩;simp only[oi,List.mem_append,List.mem_cons,List.not_mem_nil,or_false] at hp;(refine a2 hp (λzz=>?_) (λzz=>?_);(try clear hp);subst zz;rotate_left;(try clear hp);subst zz;rotate_right)
   .exact⟨rfl,h3⟩
   .exact⟨rfl,f⟩
  |cons a r=>
   rw[ho] at h2;refine⟨a4 rfl,λp hp=>?_⟩;simp only[oi,List.mem_append,List.mem_cons,List.not_mem_nil,or_false] at hp;rcases hp with(rfl|rfl)|rfl
   .exact⟨rfl,h3⟩
   .exact⟨rfl,f⟩
   .exact⟨rfl,h2⟩
 have A:=Cz m t.1 t.2;have c4:∀p∈iF D.order (bA D.lk D.rows D.off) D.m [],bC 6 p.2=true:=λp hp=>by
  (refine a2 (hy.mp hp) (λzz=>?_) (λhp=>?_);subst zz;rotate_left;rotate_right)
  .exact A
  .rw[List.append_nil] at hp;exact wb _ _ p hp
 have bb:(iF D.order (bA D.lk D.rows D.off) D.m []).length<100:=by
  refine(?_:(gG 0 D.m++[]).length+1<100);rw[List.append_nil,wc];exact lC (i1 hm) rfl
 have hr:=fY OA (Oz hj);have C:=sm D.order (bA D.lk D.rows D.off) D.m;generalize z:ff (aM (iF D.order (bA D.lk D.rows D.off) D.m [])) (22+j)=G;have d:∀n,n∈G↔((∃i:Nat,i<22+j/\n=1+(i:Int))/\n≠1/\n∉aQ D.m):=by
  intro n;rw[<-z];unfold ff;rw[List.mem_filter,C,pK];have e:(aj.int n∈(aB D.order (bA D.lk D.rows D.off) (aI 0 D.m)).map (·.1))↔(n=1\/n∈aQ D.m):=by
   show aj.int n∈aj.int 1::(aI 0 D.m).map (·.1)↔_;rw[List.mem_cons,wm]
   constructor
   .rintro (h|h)
    .exact .inl (aj.int.inj h)
    .exact .inr h
   .rintro (h|h)
    .exact .inl (by rw[h])
    .exact .inr h
  rw[Bool.not_eq_true',decide_eq_false_iff_not,e,not_or];unfold fG;simp only[List.mem_map,List.mem_range]
  constructor
  .rintro ⟨⟨i,hi,rfl⟩,h2⟩;exact⟨⟨i,hi,rfl⟩,h2⟩
  .rintro ⟨⟨i,hi,rfl⟩,h2⟩;exact⟨⟨i,hi,rfl⟩,h2⟩
 have g:G.length<=30:=by
  rw[<-z];refine a5 (List.length_filter_le _ _) ?_;unfold fG;rw[List.length_map,List.length_range];exact D5 hj
 have H:∀n,n∈aQ D.m->10<=n/\n<=19:=λn hn=>by
  (refine ag (i4.mp hn) λi c1=>ac c1 λhi bo=>?_;clear c1;subst bo);exact D6 hm hi
 have y:(aI 0 D.m).length=D.m:=by
  have:=hQ List.length (pC D.m 0)
  simpa using this
 have s:∀n,aj.int n∈(aB D.order (bA D.lk D.rows D.off) (aI 0 D.m++cg G)).map (·.1)↔(n=1\/n∈aQ D.m\/n∈G):=by
  intro n;show aj.int n∈aj.int 1::(aI 0 D.m++cg G).map (·.1)↔_;rw[List.mem_cons,List.map_append,List.mem_append,wm,sy]
  constructor
  .rintro (h|h|⟨a,ha,e⟩)
   .exact .inl (aj.int.inj h)
   .exact .inr (.inl h)
   .exact .inr (.inr (aj.int.inj e▸ha))
  .rintro (h|h|h)
   .exact .inl (by rw[h])
   .exact .inr (.inl h)
   .exact .inr (.inr ⟨n,h,rfl⟩)
 have B:aj.int (23+(j:Int))∉(aB D.order (bA D.lk D.rows D.off) (aI 0 D.m++cg G)).map (·.1):=by
  rw[s]
  rintro (h|h|h)
  .exact D7 h
  .have:=H _ h;exact D8 this
  ·(refine ac ((d _).mp h) λc7 _=>?_;rcases c7 with⟨i,hi,e⟩);exact D9 hi e
 have E:=jh (N5 (ord:=D.order) (lk:=D.lk) (rows:=D.rows) (I:=D.off) (l:=aI 0 D.m++cg G) (k:=23+(j:Int)) (K:=22+j) Ea (lB (Nat.add_le_add_left hj _) rfl) (by rw[List.length_append,CN,y];exact lC (Nat.add_le_add hm g) rfl) (lC m rfl)
  (by
   rw[List.map_append,List.mem_append]
   rintro (h|h)
   .exact Cr _ _ h
   .refine al (sy.mp h) λn hn e=>?_;have:=((d n).mp hn).2.1;exact this (aj.int.inj e).symm)
  (λi hi=>by
   refine a0 pK ?_;refine ii ((s _).mpr ?_)
   by_cases e1:(1+(i:Int))=1
   .exact .inl e1
   .by_cases e2:(1+(i:Int))∈aQ D.m
    .exact .inr (.inl e2)
    .exact .inr (.inr ((d _).mpr ⟨⟨i,hi,rfl⟩,e1,e2⟩)))
  B (N8 B))
 have hc:bO kG 40 564 [.own 1,.t dJ] (sS (aM (iF D.order (bA D.lk D.rows D.off) D.m [])++cg G))=some (some (.ok (ao (23+(j:Int))),sS (aB (D.order++[23+(j:Int)]) (fF D.lk D.rows D.off (23+(j:Int))) ((aI 0 D.m++cg G)++[(.int (23+(j:Int)),dc cj)])))):=by
  refine rwm _ ?_ C;exact E
 have q:eC (aB (D.order++[23+(j:Int)]) (fF D.lk D.rows D.off (23+(j:Int))) ((aI 0 D.m++cg G)++[(.int (23+(j:Int)),dc cj)])) G=aB (D.order++[23+(j:Int)]) (fF D.lk D.rows D.off (23+(j:Int))) (aI 0 D.m++[(.int (23+(j:Int)),dc cj)]):=by
  show eC ([(aj.int 1,T.tuple [.int 0,hP (D.order++[23+(j:Int)]) (fF D.lk D.rows D.off (23+(j:Int)))])]++((aI 0 D.m++cg G)++[(.int (23+(j:Int)),dc cj)])) G=_;rw[wk,wk,wk,Oc,List.append_nil];rw[wj (l:=[(aj.int 1,T.tuple [.int 0,hP (D.order++[23+(j:Int)]) (fF D.lk D.rows D.off (23+(j:Int)))])]) λn hn=>?_,wj (l:=aI 0 D.m) λn hn=>?_,wj (l:=[(aj.int (23+(j:Int)),dc cj)]) λn hn=>?_]
  .rfl
  .intro u;have:aj.int n=aj.int (23+(j:Int)):=by simpa using u
   have:=aj.int.inj this;(refine ac ((d n).mp hn) λc7 _=>?_;rcases c7 with⟨i,hi,e⟩);exact Eb this hi e
  .intro u;exact((d n).mp hn).2.2 (wm.mp u)
  .intro u;have:aj.int n=aj.int 1:=by simpa using u
   exact((d n).mp hn).2.1 (aj.int.inj this)
 (refine b9 (Os (dd:=dd) (K:=22+j) c CD c4 bb (lB (Nat.add_le_add_left hj _) rfl) hr (by refine rwm _ ?_ z;exact hc) (by show((aI 0 D.m++cg G)++[_]).length+1<900;rw[List.length_append,List.length_append,CN,y];show D.m+G.length+1+1<900;exact Ec hm g)
  (λn hn=>by
   rw[z] at hn;show aj.int n∈aj.int 1::((aI 0 D.m++cg G)++[(aj.int (23+(j:Int)),dc cj)]).map (·.1);refine List.mem_cons_of_mem _ ?_;rw[List.map_append,List.map_append,List.mem_append,List.mem_append];exact .inl (.inr (sy.mpr ⟨n,hn,rfl⟩)))
  (by refine rwm _ ?_ z;exact q)) λw v hw hv o=>?_)
 rw[OE];refine Oy hw hv (lC m rfl) (Ed hj) ?_ o;refine jh (N7 ?_ (λn hn=>?_) ?_)
 .rw[List.nodup_append];refine⟨kF D,by simp,λa ha b hb=>?_⟩;have:=jL h ha;simp at hb;exact Ee this hb
 ·(refine bc λno=>a2 (List.mem_append.mp hn) (λhn=>?_) (λhn=>?_);refine no ?_;clear no;rotate_left;refine no ?_;clear no;rotate_right)
  .exact Cn hm (i7.mp hn) _ _
  .have:n=23+(j:Int):=by simpa using hn
   clear hn;subst this;exact OB hm hj _
 .refine rwm _ ?_ i6;refine(?_:D.order.length+1<100);exact lC (i1 m) rfl
def sC:AE:=⟨aV (at_ 53),1,[(S "states",3),(S "kept",2)],S "layer_states"++nm ".<locals>.",587⟩
def eF(D:ah)(F:T):af:=[.dict [],.ns true [(S "shelf",au D)],.cell (some (.own 0)),.cell (some (.t F))]
section
variable {D:ah}{f:Int->Bool}
theorem OG(ha:a∈D.all)(hw:w=[]\/∃b,w=[(S "number",V.t (.int b))]):
  cP k4 36 sC l0 4 (.int a) (eF D (aS D.all f)++[.ns false w])=some (.ok (some (.tuple [.int a,.bool (f a)])),eF D (aS D.all f)++[.ns false [(S "number",.t (.int a))]]):=by
 refine kx (q:=true) (E:=eF D (aS D.all f)++[.ns false [(S "number",.t (.int a))]]) (O2:=eF D (aS D.all f)++[.ns false [(S "number",.t (.int a))]]) ?_ rfl (λ_=>?_) (λe=>nomatch e)
 .refine oE w hw ?_ λb=>?_<;>lk
 .refine o6 (nx (E:=eF D (aS D.all f)++[.ns false [(S "number",.t (.int a))]]) ?_ (kn (E:=eF D (aS D.all f)++[.ns false [(S "number",.t (.int a))]]) (O2:=eF D (aS D.all f)++[.ns false [(S "number",.t (.int a))]]) (M:= .own 0) (t:= .dict []) (L:=1) (k:=3) (vs:=[.t (.int a),.t (.bool (f a))]) ?_ ?_ ?_ ?_ rfl ?_
   (bx (E:=eF D (aS D.all f)++[.ns false [(S "number",.t (.int a))]]) ?_ (bx (nu (M:= .t (aS D.all f)) (t:=aS D.all f) (it:= .int a) (E:=eF D (aS D.all f)++[.ns false [(S "number",.t (.int a))]]) rfl ?_ ?_ rfl ?_) cb)) ?_))
  .lk
  .rfl
  .lk
  .lk
  .rfl
  .rfl
  .lk
  .lk
  .lk
  .show bg (ax D.all f) (.int a)=_;exact rwm _ (rwm _ rfl (eb ha)) kO
  .lk
theorem OH(h:D.Wf):br k4 40 588 [au D,.own 0] [.dict []]=some (.ok (.t (aS D.all D.startF)),[.dict []]):=by
 have c:bZ (cP k4 36 sC l0 4) (D.all.map T.int) [] (eF D (aS D.all D.startF)++[.ns false []])=
   some (.ok (D.all.map λn=> .tuple [.int n,.bool (D.startF n)]),eF D (aS D.all D.startF)++[.ns false (cO T.int (S "number") D.all)]):=by
  have:=jO T.int (S "number") (λn=>some (.tuple [.int n,.bool (D.startF n)])) (cP k4 36 sC l0 4) (eF D (aS D.all D.startF)) D.all (by have:=jM h;exact lB this rfl) λa ha w hw=>OG ha hw;refine a0 this ?_
  congr 2
  exact rwm _ rfl ln
 have hd:(R k4 37).call (.t (.typ "dict")) [.own 4] (eF D (aS D.all D.startF)++[.list (D.all.map λn=> .tuple [.int n,.bool (D.startF n)])])=
   some (.ok (.own 5),eF D (aS D.all D.startF)++[.list (D.all.map λn=> .tuple [.int n,.bool (D.startF n)])]++[.dict (ax D.all D.startF)]):=by
  exact vA (O:=eF D (aS D.all D.startF)++[.list (D.all.map λn=> .tuple [.int n,.bool (D.startF n)])]) (g:=D.startF) (lY h) (by have:=jM h;exact lC this rfl)
 refine dT (e:=sC) (b:=vz) (E:=[.dict [],.ns true [(S "shelf",au D)],.cell (some (.own 0)),.cell none])
  (O2:=eF D (aS D.all D.startF)++[.list (D.all.map λn=> .tuple [.int n,.bool (D.startF n)])]++[.dict (ax D.all D.startF)]) (v:= .own 5) (by lk)
  (aW (E:=eF D (aS D.all D.startF)) (vf (v:= .t (aS D.all D.startF)) (by lk) (jH 538 (as:=[.t (ak D.all),.t (eJ D)]) ?_ ?_) ?_)
   (ci (eh (aO (fv:= .t (.typ "dict")) (vs:=[.own 4]) (E:=eF D (aS D.all D.startF)++[.list (D.all.map λn=> .tuple [.int n,.bool (D.startF n)])]) rfl (by lk) (bx (lU c rfl rfl ?_) cb) ?_ hd)))) rfl
 .refine rwm _ ?_ (vy h);refine Bl (lY h) (by have:=jM h;exact lC this rfl) ?_
  by_cases e:D.all=[]
  .exact .inr ⟨e,Bn h e⟩
  .exact .inl e
 .lk
 .lk
 .refine rwl _ ?_ (ai (Bo D.all D.startF));lk
 .lk
end
def wn{α:Type}(m:MO)(x:Option α):Option α:=match m with
 | .dict l=>nl l x
 |_=>none
@[elab_as_elim] theorem CT{α:Type}{q:α}{m:MO}{x:Option α}{P:MO->Prop}(h:wn m x=some q)(k:x=some q->P (.dict [])):P m:=by
 cases m<;>first|exact nso h|exact bT h k
def CU:b8:=jE λx y O=>i8 x λD=>lD y 0 (un O λm l=>nl l (wn m (yes (.box (.sts D.all D.startF) (aS D.all D.startF)) [.dict []])))
theorem OI:cG (R k4 40) 588 CU:=nb λx y O q h s _ _=>jJ h s λD hw h=>mE h λh=>by
 refine cK h λm l h=>bT h λh=>CT h λh=>?_
 .skip
  cases h;exact⟨[au D,.own 0],[.dict []],_,LC.refl _,SC.refl _,OH hw,TC.box (TC.refl _) ⟨lY hw,rfl⟩,SC.refl _⟩
def nU:aN:=bp 588 CU (bp 571 (rK av 20 571) (bp 111 (rK av 40 111) k4))
theorem OJ:aC nU 260:=aC.add o9 (aC.addK aC.start (aC.addK aC.start (o9.mono (by decide)) (by decide)) (by decide)) (by decide) OI
def sD:AE:=⟨aV (at_ 54),1,[],S "layers_text"++nm ".<locals>.",594⟩
def iH(D:ah)(g:Int->Bool)(w:List (Str×V))(rows:List Str):af:=[.dict [],.ns true ([(S "shelf",au D),(S "kept",.own 0),(S "states",.t (aF D.all g)),(S "rows",.own 2)]++w),.list (rows.map T.str)]
set_option tactic.hygienic true in
theorem OK{D:ah}(h:D.Wf){g:Int->Bool}{A:List Int}(ha:a∈D.all)(hl:A.length<100):
  cz nU 38 sD (an kW 2) 3 (.int a) (iH D g (bE T.int (S "number") A) (A.map (bQ D g)))=some (.ok .next,iH D g (bE T.int (S "number") (A++[a])) ((A++[a]).map (bQ D g))):=by
 rw[nq];have hw:=iq T.int (S "number") A;generalize bE T.int (S "number") A=w at hw;have h1:(R nU 38).as (dw (an kW 2)) sD (.t (.int a)) (iH D g w (A.map (bQ D g)))=some (.ok (),iH D g [(S "number",.t (.int a))] (A.map (bQ D g))):=by
  refine oE w hw ?_ λb=>?_<;>lk
 have v:=vp h ha;have l1:=g9 (n:=a) (sT v);have C:(cond (g a) (S " on ") (S " off ")).length<=5:=by cases g a<;>decide
 refine(dI (O2:=iH D g [(S "number",.t (.int a))] ((A++[a]).map (bQ D g))) h1 (bv (vF (i:=2) (U:=(A.map (bQ D g)).map T.str) (u:= .str (bQ D g a)) rfl ?_ rfl (jP (jP (ph (i:=a) (wC v) ?_) (vD (vE (t:=aS D.all g) (it:= .int a) (q:=g a) ?_ ?_) ?_) (lB (Nat.add_le_add l1 C) rfl))
  (Bx 111 (Bt (pf D a)) (nh (jH 493 (AZ h ha) ?_) cb) rfl ?_) ?_) (by rw[List.length_map,List.length_map];exact lB hl rfl) ?_))).trans ?_
 .lk
 .lk
 .show bg (ax D.all g) (.int a)=_;exact rwm _ (rwm _ rfl (eb ha)) kO
 .lk
 .cases g a<;>lk
 .lk
 .lk
 .rw[jc];exact lB (Nat.add_le_add (Nat.add_le_add l1 C) (pi _ (pf D a))) rfl
 .unfold iH;refine rwm _ (rwm _ ?_ i5) i5;rfl
 .exact rwm _ rfl (ek (hX 3))
theorem OL{D:ah}(h:D.Wf):br nU 40 595 [au D,.own 0] [.dict []]=some (.ok (.t (.str (gz (D.all.map (bQ D D.startF))))),[.dict []]):=by
 have bb:=jM h;have hw:=iq T.int (S "number") D.all;have hl:=kE T.int (λA=>iH D D.startF (bE T.int (S "number") A) (A.map (bQ D D.startF))) (cz nU 38 sD (an kW 2) 3) D.all λA a B e=>OK h (by refine rwm _ ?_ e;simp) (by rw[e] at bb;simp at bb;exact sU bb);generalize bE T.int (S "number") D.all=w at hw hl;refine dT (e:=sD) (b:=kW) (E:=[.dict [],.ns true [(S "shelf",au D),(S "kept",.own 0)]]) (O2:=iH D D.startF w (D.all.map (bQ D D.startF))) (v:= .t (.str (gz (D.all.map (bQ D D.startF))))) (by lk)
  (aW (E:=[.dict [],.ns true [(S "shelf",au D),(S "kept",.own 0),(S "states",.t (aF D.all D.startF))]]) (ng (v:= .t (aF D.all D.startF)) (E:=[.dict [],.ns true [(S "shelf",au D),(S "kept",.own 0)]]) (by lk)
   (aO (fv:= .t (.top 588)) (vs:=[au D,.own 0]) (E:=[.dict [],.ns true [(S "shelf",au D),(S "kept",.own 0)]]) rfl ?_ ?_ ?_ (cm (p:=⟨[0],[.dict []]⟩) (bi:=[au D,.own 0]) (X:=[.dict []]) rfl rfl rfl)) ?_)
   (aW (E:=iH D D.startF [] []) ?_ (aW (gp (O2:=iH D D.startF [] []) hl ?_)
    (ci (eh (aO (fv:= .t (.top 571)) (vs:=[.own 2]) (E:=iH D D.startF w (D.all.map (bQ D D.startF))) rfl ?_ ?_ ?_ (cm (p:=⟨[2],[.list ((D.all.map (bQ D D.startF)).map T.str)]⟩) (bi:=[.own 0]) (X:=[.list ((D.all.map (bQ D D.startF)).map T.str)]) rfl ?_ rfl))))))) rfl
 .lk
 .lk
 .lk
 .lk
 .lk
 .lk
 .refine oE w hw ?_ λb=>?_<;>lk
 .refine oE w hw ?_ λb=>?_<;>lk
 .lk
 .exact By (by rw[List.length_map];exact lB bb rfl) (λx hx=>by
   (refine ag (hK.mp hx) λn c1=>ac c1 λhn bo=>?_;clear c1;clear hx;subst bo);have:=BB (g:=D.startF) h hn;exact lB this rfl)
def pM(D:ah)(K:T)(dd:Array UInt8)(n1 n2 n3:Str):cF:=match cW D K with
 |some g=>gu (D.st=0/\n1=S "data"/\n2=S "base"/\n3=S "shelf") (yes (.tuple [am dd (.box (.doc (D.kept g)) (D.kept g).tree),.str (jU D.m)]) [])
 |none=>none
def wo{α:Type}(t:T)(f:Str->Array UInt8->Str->Str->ah->Option α):Option α:=xv t λC fs=>cond (Nat.beq C 90) (un fs λa l=>un l λb l=>un l λc l=>nl l (xg a.2 λdd=>tw b.2 (j4 c.2 λg _=>tq g λD=>f a.1 dd b.1 c.1 D))) none
theorem OM{n1 n2 n3:Str}{dd:Array UInt8}{D:ah}{X:T}(h:cN (.t (.inst 90 [(n1,.bytes dd),(n2,.none),(n3,.box (.doc D) X)]))):D.Wf/\X=D.tree:=by
 (refine bc λno=>a9 (kl h) λw g x z=>no ?_;clear no);refine sR z λ_ _ _ _ _ _ _ _ z _=>?_;(refine bc λno=>bK z λ_ _ b _=>?_;clear z;rcases b with⟨y,_,q⟩;refine no ?_;clear no);exact q.1
@[elab_as_elim] theorem CV{α:Type}{q:α}{v:V}{f:Str->Array UInt8->Str->Str->ah->Option α}{P:V->Prop}(h:aT v (λt=>wo t f)=some q)(s:cN v)(k:∀n1 dd n2 n3 D,D.Wf->f n1 dd n2 n3 D=some q->P (.t (.inst 90 [(n1,.bytes dd),(n2,.none),(n3,.box (.doc D) D.tree)]))):P v:=by
 revert s;refine bY h λt h=>Fp h λC fs h=>?_
 cases hC:Nat.beq C 90 with
 |false=>rw[hC] at h;exact nso h
 |true=>
  rw[hC] at h;have hC:=hY hC;subst hC;refine cK h λa l h=>cK h λb l h=>cK h λc l h=>bT h λh=>?_;rcases a with⟨n1,t1⟩;rcases b with⟨n2,I⟩;rcases c with⟨n3,d⟩;refine Fk (t:=t1) h λdd h=>xt (t:=I) h λh=>jm (t:=d) h λg X h=>xj h λD h s=>ac (OM s) λhw e=>?_;clear s;subst e;exact k n1 dd n2 n3 D hw h
def sE:b8:=oW λx y z O=>nl O (aT x λt=>wo t λn1 dd n2 n3 D=>aT y λK=>aT z λz=>eS z λs=>cond (decide (s=em)) (pM D K dd n1 n2 n3) none)
def sF:b8:=oW λx y z O=>nl O (aT x λt=>wo t λn1 dd n2 n3 D=>aT y λy=>fJ y λk=>aT z λz=>eS z λs=>gu ((D.st=1/\n1=S "data"/\n2=S "base"/\n3=S "shelf")/\(23<=k/\k<=31)/\T.str s=eD) (yes (.tuple [am dd (.box (.doc (D.grown k)) (D.grown k).tree),.str (ji k)]) []))
theorem CW{D:ah}(h:D.Wf):TC (am dd D.tree) (am dd (.box (.doc D) D.tree)):=
 TC.inst (gZ.cons (TC.refl _) (gZ.cons (TC.refl _) (gZ.cons (TC.box (TC.refl _) ⟨h,rfl⟩) (gZ.refl _))))
theorem ON:cG (R kK 37) 609 sE:=u6 λx y z O q h s _ _ _=>bT h λh=>CV h s λn1 dd n2 n3 D hw h=>bY h λK h=>bY h λz h=>ge h λs h=>by
 .skip
  cases hs:decide (s=em) with
  |false=>rw[hs] at h;exact nso h
  |true=>
   rw[hs] at h;have hs:=hG hs;subst hs;have h:=h;unfold pM at h
   cases hg:cW D K with
   |none=>rw[hg] at h;exact nso h
   |some g=>
    rw[hg] at h;(refine ac (ip h) λc7 b5=>?_;clear h;rcases c7 with⟨h0,rfl,rfl,rfl⟩);clear h;cases b5;exact⟨[.t (am dd (.box (.doc D) D.tree)),.t K,.t (.str em)],[],_,LC.refl _,trivial,NK hw h0 hg,TC.tuple (bG.cons (CW (NC hw g)) (bG.refl _)),trivial⟩
theorem OO:cG (R kK 36) 616 sF:=u6 λx y z O q h s _ _ _=>bT h λh=>CV h s λn1 dd n2 n3 D hw h=>bY h λy h=>ia h λk h=>bY h λz h=>ge h λs h=>by
 .skip
  (refine ac (ip h) λc7 b5=>?_;clear h;rcases c7 with⟨⟨h0,rfl,rfl,rfl⟩,hk,hs⟩);clear h;cases b5;have hr:=OF hw h0 hk (dd:=dd);rw[<-hs] at hr;exact⟨[.t (am dd (.box (.doc D) D.tree)),.t (.int k),.t (.str s)],[],_,LC.refl _,trivial,hr,TC.tuple (bG.cons (CW (OD hw hk)) (bG.refl _)),trivial⟩
def mu:b8:=jE λx y O=>i8 x λD=>lD y 0 (un O λm l=>nl l (wn m (yes (.str (D.txt D.startF)) [.dict []])))
theorem OP:cG (R nU 40) 595 mu:=nb λx y O q h s _ _=>jJ h s λD hw h=>mE h λh=>by
 refine cK h λm l h=>bT h λh=>CT h λh=>?_
 .skip
  cases h;exact⟨[au D,.own 0],[.dict []],_,LC.refl _,SC.refl _,OL hw,TC.refl _,SC.refl _⟩
noncomputable def mv(f g:b8):b8:=λbe O=>match f be O with
 |some q=>some q
 |none=>g be O
theorem aC.or1{c:aN}{f g:b8}(h1:aC (bp a f av) b)(h2:aC (bp a g c) b):aC (bp a (mv f g) c) b:=by
 intro w b7 mb B C;have k:cM PW (bU w B) b (qP (bp a f av) (bp a g c)):=cM.or (h1 w b7 mb B C) (h2 w b7 mb B C);intro A l r b6 b2 hR x be U O q s e;refine k hR x be U O q s ?_;unfold qP bp;unfold bp at e
 cases hx:Nat.beq x a with
 |true=>
  rw[hx] at e;exact e
 |false=>
  rw[hx] at e;exact e
def kM:aN:=bp 639 sf (bp 624 km (bp 644 vI (bp 649 rJ (bp 656 rN (bp 602 mh (bp 609 sE (bp 616 sF av)))))))
def kL:aN:=bp 595 (mv mu kX) kM
theorem OQ:aC kM 300:=aC.add ML (aC.add aC.start (aC.add aC.start (aC.add aC.start (aC.add aC.start (aC.add Mn (aC.add Ct (aC.add Ct (aC.start.mono (ix _)) (by decide) OO) (by decide) ON) (by decide) MA) (by decide) Me) (by decide) Mb) (by decide) Ma) (by decide) vh) (by decide) M4
theorem OS:aC kL 300:=aC.or1 (aC.add OJ (aC.start.mono (ix _)) (by decide) OP) (aC.add Bz OQ (by decide) LS)
def CX:Prop:=∀(w:World)(b7 mb:Str->Option Value)(B:Heap)(r:ay)(A:Around)(l:List Env)(env:Env)(ns:List Int)(L:Shared)(H:ay)(s:Shared),
 (∀c,gY (heap w.params) (bU w B) (Pc c) b7 mb)->Rm A l 348->ns.length<=63->cB (bU w B) r l L H [] aH env (ca (ak ns)) s->
 ∀(Q:Flow->Shared->Prop)(E:Value->Shared->Prop),(∀s' g b2 O,bk L H [] s' g b2->St (bU w B) r g b2 l O s'.heap->Q (.ret (.bool true)) s')->wpAny (model PW w) A (execs (ba (at_ 68)) env) Q E s
theorem OT(H:CX):AG:=by
 intro w s b7 mb ns x hk S bb hx;have F:=uR (hk av).k1.X (List.mem_of_find?_eq_some Kk);(refine bc λno=>aw (qE F.sc) λo1 v L=>no ?_;clear no);have b:LR (VR w (hid s.heap).get? []) [.t (ak ns)] [x]:= .cons hx .nil;refine cD (qD S F.ps F.dfl F.len (Kl (ak ns)) b) λys hb h1 h2=>ss (uj (by decide) (S.ground _ _ F.at_) F.data v L ((F.rec_).keeps S.ground) ?_);refine hb _ _ _ _ (ea (ui (λ_=>rfl) o1 (cl:=[]) rfl h1 h2 [] _ s _ _ (.refl _) (.refl _) S (Km (ak ns))) (λenv Y z=>?_) λy Y z=>?_);rotate_left
 .refine cT z λ_ _ _ _ e1 _=>oee e1
 (refine dm z λg1 B C e1 u S1 he c2=>?_;clear z);(have D:=oke e1;clear e1;cases D);refine⟨((hk av).G).nolimit.keeps S1.ground,?_⟩;have c:env.scope.kind= .function:=by refine rwm _ ?_ he.scope;exact he.kind
 have be:ER (bU w (hid s.heap)) [env] g1 B aH env:=⟨he.scope,he.kind,he.loc,he.globals,he.cells,he.qual,he.code,he.builtins,⟨env,.head _,rfl⟩⟩;refine codeAny_func ?_;have hR:Rg callerA [] 348:=⟨rfl,rfl,by decide,by decide⟩;refine H w b7 mb (hid s.heap) (λ_=>none) (callerA.deeper env) [env] env ns s (hid s.heap).get? Y hk (hR.deeper env) bb ⟨g1,B,u,(S1.pushF rfl he.loc c c2),be⟩ _ _ λs' g b2 O st S3=>⟨rfl,g,b2,O,st,S3.pop⟩
theorem OU(X:List T):(R kL 44).ev u0 aH (ca (.list X))=qk (.list X) none (some (.t (.int 50))) none (ca (.list X)):=by lk
theorem OV(X:List T):(R kL 45).ev rf aH (ca (.list X))=bm (u5 (R kL 44) u0 aH) (λvs=>bm (kb (Pc kL) (.t (.typ "list"))) λ_=>(R kL 44).call (.t (.typ "list")) vs) (ca (.list X)):=by lk
theorem OW(O:af)(k:Nat):(R kL 44).call (.t (.typ "list")) [.own k] O=bm (aE (.own k)) (λt=>jr "list" t) O:=by lk
theorem OX{X:List T}(h:X.length<=63):(R kL 45).ev rf aH (ca (.list X))=some (.ok (.own 6),ca (.list X)++[.list (X.take 50),.list (X.take 50)]):=by
 have f1:aJ X.length=true:=by unfold aJ;refine rwm _ ?_ ms;exact ii (lB h rfl)
 have hs:(R kL 44).ev u0 aH (ca (.list X))=some (.ok (.own 5),ca (.list X)++[.list (X.take 50)]):=by
  rw[OU];show(if(none:Option Int)≠some 0/\aJ X.length=true then bP (.list (lK X none (some 50) none)) else λ_=>none:MM V) _=_;rw[if_pos ⟨by simp,f1⟩,Ko];rfl
 rw[OV,az (Kr hs)];show(R kL 44).call (.t (.typ "list")) [.own 5] _=_;rw[OW];show jr "list" (.list (X.take 50)) _=_;have f2:aJ (X.take 50).length=true:=by unfold aJ;refine rwm _ ?_ ms;exact ii (by refine rwm _ ?_ p5;exact lB (Nat.min_le_left _ _) rfl)
 show(if aJ (X.take 50).length then bP (.list (X.take 50)) else λ_=>none:MM V) _=_;refine rwm _ ?_ f2;rfl
theorem OY(O:af):(R kL 46).ev na aH O=gR (R kL 45) aH .Or [rf,AH] O:=by lk
theorem OZ(X Y Z:List T):(R kL 45).ev AH aH (ca (.list X)++[.list Y,.list Z])=some (.ok (.own 7),ca (.list X)++[.list Y,.list Z]++[.list [.int 2]]):=by lk
theorem O0{ns:List Int}(h:ns.length<=63):∃k L,(R kL 46).ev na aH (ca (ak ns))=some (.ok (.own k),ca (ak ns)++L)/\5<=k/\L[k - 5]? =some (.list ((eg ns).map T.int))/\∀Q∈L,∃U,Q= .list U:=by
 have c:(ns.map T.int).length<=63:=by rw[List.length_map];exact h
 have hc:=OX c;have f2:aJ ((ns.map T.int).take 50).length=true:=by unfold aJ;refine rwm _ ?_ ms;exact ii (by refine rwm _ ?_ p5;exact lB (Nat.min_le_left _ _) rfl)
 show∃k L,(R kL 46).ev na aH (ca (.list (ns.map T.int)))=_/\_;rw[OY];have hv:vw (.own 6) (ca (.list (ns.map T.int))++[.list ((ns.map T.int).take 50),.list ((ns.map T.int).take 50)])=some (.list ((ns.map T.int).take 50)):=rfl;have b:(ns.map T.int).take 50=(ns.take 50).map T.int:=List.map_take.symm
 cases hn:ns.take 50 with
 |nil=>
  have d:(ns.map T.int).take 50=[]:=by refine a0 b (rwm _ ?_ hn);rfl
  have ht:j7 (.list ((ns.map T.int).take 50))=some false:=by refine rwm _ ?_ d;rfl
  refine⟨7,[.list ((ns.map T.int).take 50),.list ((ns.map T.int).take 50),.list [.int 2]],(Ku hc hv ht).trans ((OZ _ _ _).trans (by rw[List.append_assoc];rfl)),by decide,?_,?_⟩
  .unfold eg;refine rwm _ ?_ hn;rfl
  .intro Q hm;simp at hm;rcases hm with rfl|rfl|rfl<;>exact⟨_,rfl⟩
 |cons a l=>
  have ht:j7 (.list ((ns.map T.int).take 50))=some true:=by
   show(if aJ ((ns.map T.int).take 50).length then some (!((ns.map T.int).take 50).isEmpty) else none)=_;refine rwm _ (rwm _ (rwm _ ?_ hn) b) f2;rfl
  refine⟨6,_,Ks hc hv ht,by decide,?_,?_⟩
  .unfold eg;refine rwm _ (rwm _ (rwm _ ?_ hn) b) hn;rfl
  .intro Q hm;simp at hm;subst hm;exact⟨_,rfl⟩
section
variable {J:Program}{b1:Cx}{r g H:ay}{b2:List Addr}{l:List Env}{env:Env}{O:af}{s L:Shared}
theorem sG{g:ay}(z:OR w g b2 h (.cell none) a):OR w g b4 h (.cell none) a:=by
 (refine al z λx z1 v=>?_;clear z);cases x<;>exact⟨_,z1,v⟩
def wp(X:T)(w:List (Str×V)):MO:= .ns true ([(S "script",.t X),(S "tape",.own 5)]++w)
theorem cB.start(k:cB b1 r l L H [] aH env O s)(hn:5<=n)(h0:O[0]? =some (.ns true [(S "script",.t X),(S "tape",.own n)]))(h1:O[1]? =some (.cell none))(h2:O[2]? =some (.cell none))(h3:O[3]? =some (.cell none))(h4:O[4]? =some (.cell none))(h5:O[n]? =some (.list f)):
  cB b1 r l L H [] aH env [wp X [],.cell none,.cell none,.cell none,.cell none,.list f] s:=by
 (refine b9 k λg b2 p S0 he=>?_;clear k);have hr:∀i Q,O[i]? =some Q->∃a,b2[i]? =some a:=λi Q hi=>by
  have:=(List.getElem?_eq_some_iff.mp hi).1;rw[<-S0.len] at this;exact⟨_,hS this⟩
 refine ag (hr _ _ h0) λh e0=>ag (hr _ _ h1) λa1 e1=>ag (hr _ _ h2) λd e2=>ag (hr _ _ h3) λB e3=>ag (hr _ _ h4) λD e4=>ag (hr _ _ h5) λE e5=>?_;have w:cw b2 [0,1,2,3,4,n]=[h,a1,d,B,D,E]:=by
  show [(b2[0]?).getD 0,(b2[1]?).getD 0,(b2[2]?).getD 0,(b2[3]?).getD 0,(b2[4]?).getD 0,(b2[n]?).getD 0]=_;refine rwm _ (rwm _ (rwm _ (rwm _ (rwm _ (rwm _ ?_ e5) e4) e3) e2) e1) e0;rfl
 have I:PI b1 g b2 O s.heap ⟨[0,1,2,3,4,n],[wp X [],.cell none,.cell none,.cell none,.cell none,.list f]⟩:=by
  refine⟨rfl,?_,λi k e=>?_⟩
  .simp;exact Ey hn
  .have hi:=(List.getElem?_eq_some_iff.mp e).1;have:i=0\/i=1\/i=2\/i=3\/i=4\/i=5:=Ez hi;clear hi;rcases this with rfl|rfl|rfl|rfl|rfl|rfl
   .cases e;refine⟨_,_,h,h0,rfl,e0,rfl,?_⟩;refine hZ (S0.own 0 _ h h0 e0) λo m z1 v Y t G A=>⟨o,m,z1,v,?_,?_,G,A⟩
    ·(refine bc λno=>aw Y λu c _=>?_;clear Y;rcases u with⟨x,q1,q2⟩;rcases c with⟨y,q3,q4⟩;refine no ?_;clear no);(refine ag q4 λb c1=>ac c1 λq5 bo=>?_;clear c1;subst bo);rw[e5] at q5;cases q5;exact⟨⟨x,q1,q2⟩,⟨_,q3,E,by show(cw b2 [0,1,2,3,4,n])[5]? =_;refine rwm _ ?_ w;rfl,rfl⟩,trivial⟩
    .exact t
   .cases e;exact⟨_,_,a1,h1,rfl,e1,rfl,sG (S0.own 1 _ a1 h1 e1)⟩
   .cases e;exact⟨_,_,d,h2,rfl,e2,rfl,sG (S0.own 2 _ d h2 e2)⟩
   .cases e;exact⟨_,_,B,h3,rfl,e3,rfl,sG (S0.own 3 _ B h3 e3)⟩
   .cases e;exact⟨_,_,D,h4,rfl,e4,rfl,sG (S0.own 4 _ D h4 e4)⟩
   .cases e;exact⟨_,_,E,h5,rfl,e5,rfl,S0.own n _ E h5 e5⟩
 refine⟨g,cw b2 [0,1,2,3,4,n],⟨p.1,p.2.1,λi a e=>by simp at e⟩,S0.select I,?_⟩;refine⟨he.scope,he.kind,?_,he.globals,?_,he.qual,he.code,he.builtins,he.frame⟩
 .have:=he.loc;refine rwm _ ?_ w;have q:b2[0]? =some env.locals:=this;rw[e0] at q;exact q
 .have hc:=he.cells;(refine bc λno=>aq hc λU l1 z=>aw z λq1 q2 j=>aq j λb3 l2 f8=>aw f8 λq3 q4 f7=>aq f7 λc5 C cd=>aw cd λq5 q6 M=>aq M λbb N c3=>aw c3 λq7 q8 q9=>no ?_;clear c3 M cd f7 f8 j z hc no);refine rwm _ ?_ w;rw[e4] at q2;cases q2;rw[e3] at q4;cases q4;rw[e2] at q6;cases q6;rw[e1] at q8;cases q8;exact⟨D,l1,q1,rfl,B,l2,q3,rfl,d,C,q5,rfl,a1,N,q7,rfl,q9⟩
end
theorem O5{O:af}(h:O[k]? =some (.list U)):fr (.own k) O=some (.ok (.list U),O.set k (.fz (.list U))):=by
 show bm (bw k) _ O=_;refine a0 (az (show bw k O=some (.ok (.list U),O) by unfold bw;exact rwm _ rfl h)) ?_;rfl
theorem O6{O:af}(h:O[0]? =some (.ns true [(S "script",.t X)])):(R kL 47).as (jN iX) aH (.own n) O=some (.ok (),O.set 0 (.ns true [(S "script",.t X),(S "tape",.own n)])):=by
 have e:(R kL 47).as (jN iX) aH (.own n) O=bm (bw 0) (λQ=>match Q with
  | .ns f N=>put 0 (.ns f (dM N (S "tape") (.own n)))
  |_=>λ_=>none) O:=by lk
 refine rwm _ (rwm _ ?_ (az (show bw 0 O=some (.ok (.ns true [(S "script",.t X)]),O) by unfold bw;exact rwm _ rfl h))) e;have e2:dM [(S "script",V.t X)] (S "tape") (.own n)=[(S "script",.t X),(S "tape",.own n)]:=by lk
 show put 0 (.ns true (dM [(S "script",V.t X)] (S "tape") (.own n))) O=_;refine rwm _ ?_ e2;rfl
set_option tactic.hygienic true in
theorem O7{ns:List Int}(h:ns.length<=63):∃n O,5<=n/\(R kL 48).ex iX aH (ca (ak ns))=some (.ok .next,O)/\O[0]? =some (.ns true [(S "script",.t (ak ns)),(S "tape",.own n)])/\O[1]? =some (.cell none)/\O[2]? =some (.cell none)/\O[3]? =some (.cell none)/\O[4]? =some (.cell none)/\
  O[n]? =some (.list [.list ((eg ns).map T.int),.int 0]):=by
 refine mA (O0 h) λk L h1 h2 h3 h4=>?_;have hk:(ca (ak ns)++L)[k]? =some (.list ((eg ns).map T.int)):=by
  refine a0 (List.getElem?_append_right (show(ca (ak ns)).length<=k from h2)) ?_;exact h3
 have hs:(ca (ak ns)++L).set k (.fz (.list ((eg ns).map T.int)))=ca (ak ns)++L.set (k - 5) (.fz (.list ((eg ns).map T.int))):=by
  refine a0 (List.set_append_right _ _ (show(ca (ak ns)).length<=k from h2)) ?_;rfl
 have hd:(R kL 47).ev io aH (ca (ak ns))=some (.ok (.own (5+L.length)),ca (ak ns)++L.set (k - 5) (.fz (.list ((eg ns).map T.int)))++[.list [.list ((eg ns).map T.int),.int 0]]):=by
  have he:a8 (R kL 46) aH (lS io) (ca (ak ns))=some (.ok [.own k,.t (.int 0)],ca (ak ns)++L):=by
   refine bx (a:=na) (l:=[aY (lS io) 1]) h1 (bx (E:=ca (ak ns)++L) ?_ cb);lk
  have hm:eU fr [.own k,.t (.int 0)] (ca (ak ns)++L)=some (.ok [.list ((eg ns).map T.int),.int 0],ca (ak ns)++L.set (k - 5) (.fz (.list ((eg ns).map T.int)))):=by
   show bm (fr (.own k)) (λb=>bm (eU fr [.t (.int 0)]) λH=>pm (b::H)) _=_;refine a0 (az (O5 hk)) (rwm _ ?_ hs);rfl
  have e:(R kL 47).ev io aH (ca (ak ns))=bm (a8 (R kL 46) aH (lS io)) (λvs=>bm (eU fr vs) λts=>if aJ ts.length then bP (.list ts) else λ_=>none) (ca (ak ns)):=by lk
  refine a0 e (rwm _ (rwm _ ?_ (az hm)) (az he));show(if aJ 2 then bP (.list [.list ((eg ns).map T.int),.int 0]) else λ_=>none:MM V) _=_;refine rwm _ (rwm _ ?_ (eb rfl)) (eX (by decide));unfold bP;refine rwm _ (rwm _ ?_ np) i6;rfl
 have hx:(R kL 48).ex iX aH (ca (ak ns))=some (.ok .next,(ca (ak ns)++L.set (k - 5) (MO.fz (.list ((eg ns).map T.int)))++[MO.list [.list ((eg ns).map T.int),.int 0]]).set 0 (.ns true [(S "script",.t (ak ns)),(S "tape",.own (5+L.length))])):=by
  have q1:ig (R kL 47) aH (jN iX) io=bm ((R kL 47).ev io aH) λv=>lM (R kL 47) aH (jN iX) v (fQ aH (jN iX) io):=rfl;have q2:fQ aH (jN iX) io=some none:=by lk
  exact dW (tg:=jN iX) (x:=io) rfl q1 q2 hd (O6 rfl)
 refine⟨5+L.length,_,iv _ _,hx,rfl,rfl,rfl,rfl,rfl,?_⟩;refine a0 (pv EA) (rwm _ (rwm _ (rwm _ ?_ np) i6) (List.getElem?_append_right (by(refine rwm _ ?_ i6;refine rwm _ ?_ np);refine(?_:5+L.length<=5+L.length);exact hX _)));show [MO.list [.list ((eg ns).map T.int),.int 0]][5+L.length - (5+L.length)]? =_;rw[Nat.sub_self];rfl
def bL:List Stmt:=ba (at_ 68)
def bX(k:Nat):Stmt:=an bL k
def aX(X:T)(w:List (Str×V))(b k l s:Option V)(t:T)(i:Int)(o:af):af:=[wp X w,.cell b,.cell k,.cell l,.cell s,.list [cZ [] t,.int i]]++o
theorem O8(be:List V)(O:af):kL 639 be O=sf be O:=by lk
theorem sH(be:List V)(O:af):kL 624 be O=km be O:=by lk
theorem O9(be:List V)(O:af):kL 644 be O=vI be O:=by lk
theorem sI(be:List V)(O:af):kL 649 be O=rJ be O:=by lk
theorem Pa(be:List V)(O:af):kL 656 be O=rN be O:=by lk
theorem pN(be:List V)(O:af):kL 595 be O=mv mu kX be O:=by lk
theorem wq(be:List V)(O:af):kL 602 be O=mh be O:=by lk
theorem Pb(be:List V)(O:af):kL 609 be O=sE be O:=by lk
theorem Pd(be:List V)(O:af):kL 616 be O=sF be O:=by lk
theorem lr(h1:vw v O=some (.str a))(h2:vw u O=some (.str b)):dP .NotEq v u O=some (.ok (!decide (a=b)),O):=by
 show bm (aE v) (λx=>bm (aE u) λy=>om (gQ .NotEq x y)) O=_;refine a0 (az (dX h1)) (rwm _ ?_ (az (dX h2)));rfl
theorem Pe(h1:vw v O=some (.str a))(h2:vw u O=some (.str b)):dP .Eq v u O=some (.ok (decide (a=b)),O):=by
 show bm (aE v) (λx=>bm (aE u) λy=>om (gQ .Eq x y)) O=_;refine a0 (az (dX h1)) (rwm _ ?_ (az (dX h2)));rfl
theorem iI{c:aN}(h1:iN O be ⟨[],[]⟩=some (be,⟨[],[]⟩))(h2:c a be []=yes t []):(R c (n+1)).call (.t (.top a)) be O=some (.ok (.t t),O):=cm h1 h2 rfl
theorem sJ{D:ah}(h:D.st=0\/D.st=1)(g:Int->Bool):D.txt g=cC D.order g:=by
 unfold ah.txt cC;refine rwm _ ?_ (i9 h)
 congr 1
 refine ks λn _=>?_;unfold bQ cY nB ah.labN;rw[if_neg (λhc=>EQ h hc)]
def ah.f0(D:ah):Int->Bool:=Internal.startF D.bq0 D.on D.off
theorem wr{D:ah}(h:D.st=0):D.startF=D.f0:=by
 rcases D with⟨m,rev,b,on,off,lk,rows,st,k⟩;cases h;rfl
theorem CY{D:ah}{K:T}{g:Int->Bool}(hg:cW D K=some g):mv mu kX [au D,.t K] []=yes (.str (D.txt g)) []:=by
 have e1:mu [au D,.t K] []=none:=rfl;have e2:mv mu kX [au D,.t K] []=kX [au D,.t K] []:=by unfold mv;exact rwm _ rfl e1
 refine a0 e2 ?_;exact BL (P:=λK g=>kX [au D,.t K] []=yes (.str (D.txt g)) []) hg rfl λst t=>fU (p:=D.all=D.all) rfl
theorem sK{D:ah}{g:Int->Bool}:rJ [cn D,.t (aF D.order g)] []=yes (.str (cC D.order g)) []:=fU rfl
section
variable {D:ah}{X t:T}{ns:List Int}
set_option tactic.hygienic true in
theorem Pf(hD:D=cR ns):(R kL 48).ex (bX 1) aH (aX X [] none none none none (ak ns) 0 [])=some (.ok .next,aX X [(S "told_of",cn D)] none none none (some (au D)) (ak ns) (fD ns) []):=by
 subst hD;have hc:sf [.own 0] [.list [cZ [] (ak ns),.int 0]]=yes (.tuple [.box (.doc (cR ns)) (cR ns).tree,.box (.told (cR ns)) (cR ns).toldT]) [.list [cZ [] (ak ns),.int (fD ns)]]:=by
  show yes (.tuple [.box (.doc (cR (cy (ak ns)))) (cR (cy (ak ns))).tree,.box (.told (cR (cy (ak ns)))) (cR (cy (ak ns))).toldT]) [.list [cZ [] (ak ns),.int (fD (cy (ak ns)))]]=_;rw[jC]
 generalize cR ns=D at hc;refine dW (v:= .t (.tuple [.box (.doc D) D.tree,.box (.told D) D.toldT])) (E:=aX X [] none none none none (ak ns) (fD ns) []) rfl ?_ ?_ (aO (fv:= .t (.top 639)) (vs:=[.own 5]) (E:=aX X [] none none none none (ak ns) 0 []) ?_ ?_ ?_ ?_ (cm (p:=⟨[5],[.list [cZ [] (ak ns),.int 0]]⟩) (bi:=[.own 0]) (X:=[.list [cZ [] (ak ns),.int (fD ns)]]) ?_ ?_ ?_)) ?_
 .rfl
 .lk
 .rfl
 .lk
 .lk
 .lk
 .lk
 .exact(O8 _ _).trans hc
 .lk
 .lk
variable {i:Int}
set_option tactic.hygienic true in
theorem Pg:(R kL 48).ex (bX 2) aH (aX X [(S "told_of",cn D)] none none none (some (au D)) t i [])=some (.ok .next,aX X [(S "told_of",cn D),(S "states",.t (aF D.order D.f0))] none (some (.t (.dict []))) none (some (au D)) t i [.fz (.dict [])]):=by
 refine dW (v:= .t (.tuple [aF D.order D.f0,.dict []])) (E:=aX X [(S "told_of",cn D)] none none none (some (au D)) t i [.fz (.dict [])]) rfl ?_ ?_ (we (vs:=[.t (aF D.order D.f0),.own 6]) (ts:=[aF D.order D.f0,.dict []]) (E:=aX X [(S "told_of",cn D)] none none none (some (au D)) t i [.dict []])
  (bx (E:=aX X [(S "told_of",cn D)] none none none (some (au D)) t i []) (aO (fv:= .t (.top 644)) (vs:=[cn D]) ?_ ?_ ?_ ?_ (iI ?_ ?_)) (bx ?_ cb)) ?_ (show 2<1000 by decide)) ?_
 .rfl
 .lk
 .rfl
 .lk
 .lk
 .lk
 .rfl
 .exact O9 _ _
 .lk
 .lk
 .lk
def w3(D:ah)(g:Int->Bool):List (Str×V):=[(S "told_of",cn D),(S "states",.t (aF D.order g))]
def w4(D:ah)(g:Int->Bool)(z:Str):List (Str×V):=[(S "told_of",cn D),(S "states",.t (aF D.order g)),(S "begun",.t (.str z))]
set_option tactic.hygienic true in
theorem Ph{g:Int->Bool}{K:T}{o:MO}:(R kL 48).ex (bX 3) aH (aX X (w3 D g) none (some (.t K)) none (some (au D)) t i [o])=some (.ok .next,aX X (w4 D g (cC D.order g)) none (some (.t K)) none (some (au D)) t i [o]):=by
 refine dW (v:= .t (.str (cC D.order g))) (E:=aX X (w3 D g) none (some (.t K)) none (some (au D)) t i [o]) rfl ?_ ?_ (aO (fv:= .t (.top 649)) (vs:=[cn D,.t (aF D.order g)]) ?_ ?_ ?_ ?_ (iI ?_ ?_)) ?_
 .rfl
 .lk
 .rfl
 .lk
 .lk
 .lk
 .rfl
 .exact(sI _ _).trans sK
 .lk
set_option tactic.hygienic true in
theorem Pi(h:D.st=0){g:Int->Bool}{K:T}{o:MO}(hg:cW D K=some g):(R kL 48).ex (bX 4) aH (aX X (w4 D g (cC D.order g)) none (some (.t K)) none (some (au D)) t i [o])=some (.ok .next,aX X (w4 D g (cC D.order g)) none (some (.t K)) none (some (au D)) t i [o]):=by
 refine iZ (ey (v:= .t (.str (D.txt g))) (u:= .t (.str (cC D.order g))) (E:=aX X (w4 D g (cC D.order g)) none (some (.t K)) none (some (au D)) t i [o]) (O2:=aX X (w4 D g (cC D.order g)) none (some (.t K)) none (some (au D)) t i [o])
  (aO (fv:= .t (.top 595)) (vs:=[au D,.t K]) (E:=aX X (w4 D g (cC D.order g)) none (some (.t K)) none (some (au D)) t i [o]) ?_ ?_ ?_ ?_ (iI ?_ ?_)) ?_ ((lr rfl rfl).trans ?_)) gm
 .rfl
 .lk
 .lk
 .lk
 .rfl
 .exact(pN _ _).trans (CY hg)
 .lk
 .rw[sJ (.inl h),decide_eq_true rfl];rfl
end
section
variable {c:aN}{n:Nat}{e:AE}{O E O2 O3:af}{r:aG}
theorem CZ{ps:Arguments}(hk:O[k]? =some (.clo ps j sc q cl))(hp:(gg ps&&gU sc)=true)(hb:d8 ps.args be []=some H)
  (he:nM sc q cl H O=some (.ok e,E))(hr:(R c n).ev j e E=some (.error C,O2)):(R c (n+1)).call (.own k) be O=some (.error C,O2):=by
 show bm (bw k) (λQ=>match Q with
  | .clo ps b sc q cl=>if gg ps&&gU sc then bm (om (d8 ps.args be [])) λH=>dR (R c n) sc q 0 cl H ((R c n).ev b) else λ_=>none
  |_=>λ_=>none) O=_
 refine a0 (az (show bw k O=some (.ok (.clo ps j sc q cl),O) by unfold bw;exact rwm _ rfl hk)) ?_;show(if gg ps&&gU sc then bm (om (d8 ps.args be [])) λH=>dR (R c n) sc q 0 cl H ((R c n).ev j) else λ_=>none:MM V) O=_;refine rwm _ (rwm _ (rwm _ ?_ hb) (eb rfl)) hp;show dR (R c n) sc q 0 cl H ((R c n).ev j) O=_;have f:dR (R c n) sc q 0 cl H ((R c n).ev j) O=bm (nM sc q cl H) (λe=>bm ((R c n).ev j e) λv=>fq O.length v) O:=by
  unfold dR nM;refine rwm _ ?_ du
  congr 1
  funext lh
  refine rwm _ ?_ du
  congr 1
  funext cl
  refine rwm _ ?_ du;rfl
 refine a0 f (rwm _ ?_ (az he));unfold bm;exact rwm _ rfl hr
set_option tactic.hygienic true in
theorem C0(hx:ie x=true)(h:(R c n).ev x e O=some (.error C,E)):(R c (n+1)).ex (.Expr x p) e O=some (.error C,E):=by
 show(if ie x then bm ((R c n).ev x e) λ_=>pm .next else λ_=>none:MM Fl) O=_;refine rwm _ (rwm _ ?_ (eb rfl)) hx;unfold bm;exact rwm _ rfl h
theorem C1(h:aR (R c n) e j O=some (.error C,E))(h2:gT (Pc c) e C (h0::hs) E=B):(R c (n+1)).ex (.Try j (h0::hs) [] [] p) e O=B:=by
 show(match aR (R c n) e j O with
   |some (.error C,M)=>gT (Pc c) e C (h0::hs) M
   |x=>x)=_
 refine rwm _ ?_ h;exact h2
end
noncomputable def C2:Stmt->List Stmt
 | .Try b _ _ _ _=>b
 |_=>[]
noncomputable def nV:Stmt->List ExceptHandler
 | .Try _ h _ _ _=>h
 |_=>[]
noncomputable def C3:Stmt->List Stmt
 | .If _ _ b _=>b
 |_=>[]
def gJ:List Stmt:=dx (bX 5)
def I5:Stmt:=an gJ 2
def cH:Stmt:=an (nD I5) 0
def mw:Stmt:=an (C3 I5) 0
def cI:Stmt:=an (nD mw) 0
def FE(J:Stmt):Expr:=aY (a7 (bV J)) 0
def LE(J:Stmt):Expr:=aY (a7 (FE J)) 1
def sL(x:Expr):List (Str×Nat):=(((iu x).names.filter λp=>p.2== .free).reverse.mapM λp=>(aH.cells.lookup p.1).map λc=>(p.1,c)).getD []
def sM:Str:=S "law"++nm ".<locals>."++nm "<lambda>"
def bJ(x:Expr):MO:=v9 x sM (sL x)
def wl(C:Addr):Str:=if C=71 then S "desk" else S "draft"
def nX:AE:=⟨aV (at_ 67),8,[],S "_law_fault"++nm ".<locals>.",662⟩
def jj:List Stmt:=ba (at_ 67)
def sN(x:Expr):AE:=⟨iu x,9,sL x,sM++nm ".<locals>.",0⟩
def pO(i:Nat):T:=match i with
 |5=> .str (S "x")
 |i=> .int (10+3*(i:Int))
def w6(D:ah)(g:Int->Bool)(z:Str)(u:List (Str×V)):List (Str×V):=w4 D g z++u
def uT(a:Int)(i j:Nat):List (Str×V):=[(S "turn",.t (.int a)),(S "way",.t (.str (eZ j))),(S "number",.t (pO i))]
def fH(u:List (Str×V)):Prop:=u=[]\/∃a i j,u=uT a i j
section
variable {D:ah}{X t K:T}{i:Int}{w:List (Str×V)}{I:Str}{o:T}{C:Addr}{Y:af}{g:Int->Bool}{z:Str}{a:Int}{p q:Nat}
def aP(X:T)(w:List (Str×V))(K:T)(I:Str)(D:ah)(t:T)(i:Int)(o:T):af:=aX X w none (some (.t K)) (some (.t (.str I))) (some (au D)) t i [.fz o]
theorem Pj(hC:C=71\/C=59)(hc:mh [au D,.t K,.t (.str I)] []=some (some (.error C,Y))):
  (R kL 44).ev (FE cH) aH (aP X (w6 D g z (uT a p q)) K I D t i o)=some (.ok (.t (.str (wl C))),aP X (w6 D g z (uT a p q)) K I D t i o++[bJ (LE cH)]):=by
 have hb:(R kL 38).ev (lq (LE cH)) (sN (LE cH)) (aP X (w6 D g z (uT a p q)) K I D t i o++[bJ (LE cH),.ns true [(S "deed",.own 7)],.ns true []])=some (.error C,aP X (w6 D g z (uT a p q)) K I D t i o++[bJ (LE cH),.ns true [(S "deed",.own 7)],.ns true []]):=by
  refine aO (fv:= .t (.top 602)) (vs:=[au D,.t K,.t (.str I)]) (E:=aP X (w6 D g z (uT a p q)) K I D t i o++[bJ (LE cH),.ns true [(S "deed",.own 7)],.ns true []]) ?_ ?_ ?_ ?_ (vb (p:=⟨[],[]⟩) (bi:=[au D,.t K,.t (.str I)]) (X:=Y) ?_ ?_ rfl)
  .rfl
  .lk
  .lk
  .lk
  .rfl
  .exact(wq _ _).trans hc
 have cr:(R kL 39).call (.own 7) [] (aP X (w6 D g z (uT a p q)) K I D t i o++[bJ (LE cH),.ns true [(S "deed",.own 7)]])=some (.error C,aP X (w6 D g z (uT a p q)) K I D t i o++[bJ (LE cH),.ns true [(S "deed",.own 7)],.ns true []]):=by
  refine CZ (ps:=so (LE cH)) (j:=lq (LE cH)) (sc:=iu (LE cH)) (q:=sM) (cl:=sL (LE cH)) (H:=[]) (e:=sN (LE cH)) (E:=aP X (w6 D g z (uT a p q)) K I D t i o++[bJ (LE cH),.ns true [(S "deed",.own 7)],.ns true []]) ?_ ?_ ?_ ?_ ?_
  .lk
  .lk
  .lk
  .lk
  .exact hb
 have ht:aR (R kL 41) nX (C2 (an jj 0)) (aP X (w6 D g z (uT a p q)) K I D t i o++[bJ (LE cH),.ns true [(S "deed",.own 7)]])=some (.error C,aP X (w6 D g z (uT a p q)) K I D t i o++[bJ (LE cH),.ns true [(S "deed",.own 7)],.ns true []]):=by
  refine jR (C0 ?_ (aO (fv:= .own 7) (vs:=[]) (E:=aP X (w6 D g z (uT a p q)) K I D t i o++[bJ (LE cH),.ns true [(S "deed",.own 7)]]) ?_ ?_ ?_ ?_ cr))
  .rfl
  .rfl
  .lk
  .lk
  .lk
 have hh:gT (Pc kL) nX C (nV (an jj 0)) (aP X (w6 D g z (uT a p q)) K I D t i o++[bJ (LE cH),.ns true [(S "deed",.own 7)],.ns true []])=some (.ok (.ret (.t (.str (wl C)))),aP X (w6 D g z (uT a p q)) K I D t i o++[bJ (LE cH),.ns true [(S "deed",.own 7)],.ns true []]):=by
  (refine a2 hC (λzz=>?_) (λzz=>?_);(try clear hC);clear hc hb cr;subst zz;rotate_left;(try clear hC);clear hc hb cr;subst zz;rotate_right)<;>lk
 refine aO (fv:= .t (.top 663)) (vs:=[.own 7]) (E:=aP X (w6 D g z (uT a p q)) K I D t i o++[bJ (LE cH)]) ?_ ?_ ?_ ?_ (kq (e:=nX) (H:=[(S "deed",.own 7)]) (E:=aP X (w6 D g z (uT a p q)) K I D t i o++[bJ (LE cH),.ns true [(S "deed",.own 7)]]) (O2:=aP X (w6 D g z (uT a p q)) K I D t i o++[bJ (LE cH),.ns true [(S "deed",.own 7)],.ns true []]) (v:= .t (.str (wl C))) (st:=at_ 67) (q:=S "_law_fault") (d:=[]) (c6:=662) ?_ ?_ ?_ ?_ ?_ ?_ ?_)
 .rfl
 .lk
 .lk
 .lk
 .lk
 .lk
 .rfl
 .lk
 .lk
 .exact ci (s:=an jj 0) (C1 (h0:=(nV (an jj 0)).headD (.ExceptHandler none none [] ⟨0,0,0,0⟩)) (hs:=(nV (an jj 0)).tail) ht hh)
 .lk
theorem Pl(hC:C=71\/C=59)(hc:mh [au D,.t K,.t (.str I)] []=some (some (.error C,Y))):
  (R kL 43).ev (FE cI) aH (aP X (w6 D g z (uT a p q)) K I D t i o)=some (.ok (.t (.str (wl C))),aP X (w6 D g z (uT a p q)) K I D t i o++[bJ (LE cI)]):=by
 have hb:(R kL 37).ev (lq (LE cI)) (sN (LE cI)) (aP X (w6 D g z (uT a p q)) K I D t i o++[bJ (LE cI),.ns true [(S "deed",.own 7)],.ns true []])=some (.error C,aP X (w6 D g z (uT a p q)) K I D t i o++[bJ (LE cI),.ns true [(S "deed",.own 7)],.ns true []]):=by
  refine aO (fv:= .t (.top 602)) (vs:=[au D,.t K,.t (.str I)]) (E:=aP X (w6 D g z (uT a p q)) K I D t i o++[bJ (LE cI),.ns true [(S "deed",.own 7)],.ns true []]) ?_ ?_ ?_ ?_ (vb (p:=⟨[],[]⟩) (bi:=[au D,.t K,.t (.str I)]) (X:=Y) ?_ ?_ rfl)
  .rfl
  .lk
  .lk
  .lk
  .rfl
  .exact(wq _ _).trans hc
 have cr:(R kL 38).call (.own 7) [] (aP X (w6 D g z (uT a p q)) K I D t i o++[bJ (LE cI),.ns true [(S "deed",.own 7)]])=some (.error C,aP X (w6 D g z (uT a p q)) K I D t i o++[bJ (LE cI),.ns true [(S "deed",.own 7)],.ns true []]):=by
  refine CZ (ps:=so (LE cI)) (j:=lq (LE cI)) (sc:=iu (LE cI)) (q:=sM) (cl:=sL (LE cI)) (H:=[]) (e:=sN (LE cI)) (E:=aP X (w6 D g z (uT a p q)) K I D t i o++[bJ (LE cI),.ns true [(S "deed",.own 7)],.ns true []]) ?_ ?_ ?_ ?_ ?_
  .lk
  .lk
  .lk
  .lk
  .exact hb
 have ht:aR (R kL 40) nX (C2 (an jj 0)) (aP X (w6 D g z (uT a p q)) K I D t i o++[bJ (LE cI),.ns true [(S "deed",.own 7)]])=some (.error C,aP X (w6 D g z (uT a p q)) K I D t i o++[bJ (LE cI),.ns true [(S "deed",.own 7)],.ns true []]):=by
  refine jR (C0 ?_ (aO (fv:= .own 7) (vs:=[]) (E:=aP X (w6 D g z (uT a p q)) K I D t i o++[bJ (LE cI),.ns true [(S "deed",.own 7)]]) ?_ ?_ ?_ ?_ cr))
  .rfl
  .rfl
  .lk
  .lk
  .lk
 have hh:gT (Pc kL) nX C (nV (an jj 0)) (aP X (w6 D g z (uT a p q)) K I D t i o++[bJ (LE cI),.ns true [(S "deed",.own 7)],.ns true []])=some (.ok (.ret (.t (.str (wl C)))),aP X (w6 D g z (uT a p q)) K I D t i o++[bJ (LE cI),.ns true [(S "deed",.own 7)],.ns true []]):=by
  (refine a2 hC (λzz=>?_) (λzz=>?_);(try clear hC);clear hc hb cr;subst zz;rotate_left;(try clear hC);clear hc hb cr;subst zz;rotate_right)<;>lk
 refine aO (fv:= .t (.top 663)) (vs:=[.own 7]) (E:=aP X (w6 D g z (uT a p q)) K I D t i o++[bJ (LE cI)]) ?_ ?_ ?_ ?_ (kq (e:=nX) (H:=[(S "deed",.own 7)]) (E:=aP X (w6 D g z (uT a p q)) K I D t i o++[bJ (LE cI),.ns true [(S "deed",.own 7)]]) (O2:=aP X (w6 D g z (uT a p q)) K I D t i o++[bJ (LE cI),.ns true [(S "deed",.own 7)],.ns true []]) (v:= .t (.str (wl C))) (st:=at_ 67) (q:=S "_law_fault") (d:=[]) (c6:=662) ?_ ?_ ?_ ?_ ?_ ?_ ?_)
 .rfl
 .lk
 .lk
 .lk
 .lk
 .lk
 .rfl
 .lk
 .lk
 .exact ci (s:=an jj 0) (C1 (h0:=(nV (an jj 0)).headD (.ExceptHandler none none [] ⟨0,0,0,0⟩)) (hs:=(nV (an jj 0)).tail) ht hh)
 .lk
def sO:List T:=[.int 10,.int 13,.int 16,.int 19,.int 22,.str (S "x")]
def sP:List T:=[.str (S "on"),.str (S "off"),.str (S "of"),.str (S ""),.str (S "on on")]
theorem ws{k:Nat}{P:Int->Prop}(h:∀n:Nat,n<k->P n){d:Int}(hd:0<=d/\d<k):P d:=by
 (refine ag (o2 hd.1) λn bo=>?_;subst bo);exact h n (Int.ofNat_lt.mp hd.2)
theorem Pm{d:Int}(h:0<=d/\d<6):dQ (.tuple sO) (.int d)=some (pO d.toNat):=ws (P:=λd=>dQ (.tuple sO) (.int d)=some (pO d.toNat)) (λ
 |0,_=>rfl|1,_=>rfl|2,_=>rfl|3,_=>rfl|4,_=>rfl|5,_=>rfl|n+6,h=>absurd h (Nat.not_lt.mpr (nr 6 n))) h
theorem Po{d:Int}(h:0<=d/\d<5):dQ (.tuple sP) (.int d)=some (.str (eZ d.toNat)):=ws (P:=λd=>dQ (.tuple sP) (.int d)=some (.str (eZ d.toNat))) (λ
 |0,_=>rfl|1,_=>rfl|2,_=>rfl|3,_=>rfl|4,_=>rfl|n+5,h=>absurd h (Nat.not_lt.mpr (nr 5 n))) h
end
set_option tactic.hygienic true in
theorem Pp{c:aN}{d:List Str}{ts:List T}(hs:noStar tg=true)(hx:ig (R c n) e tg x=bm ((R c n).ev x e) λv=>lM (R c n) e tg v (fQ e tg x))(hw:fQ e tg x=some (some d))(h1:(R c n).ev x e O=some (.ok (.t (.tuple ts)),E))
  (hl:ts.length=d.length)(h2:kf e d.reverse ts.reverse E=some (.ok (),O2)):(R c (n+1)).ex (.Assign [tg] x p) e O=some (.ok .next,O2):=by
 refine oX hs ?_;refine rwm _ (rwm _ (rwm _ ?_ hw) (az h1)) hx;show(if ts.length=d.length then kf e d.reverse ts.reverse else λ_=>none:MM Unit) E=_;refine rwm _ ?_ (eb hl);exact h2
section
variable {D:ah}{X K:T}{g:Int->Bool}{z:Str}{l:Option V}{o:T}{ns:List Int}
set_option tactic.hygienic true in
theorem Pq(hn:ns≠[])(hl:ns.length<=50)(hi:0<=i/\i<900)(hu:u=[(S "turn",.t (.int a))]\/∃b i j,u=uT b i j/\b=a):
  (R kL 47).ex (an gJ 0) aH (aX X (w6 D g z u) none (some (.t K)) l (some (au D)) (ak ns) i [.fz o])=some (.ok .next,aX X (w6 D g z (uT a (drawn ns i 6).toNat (drawn ns (i+1) 5).toNat)) none (some (.t K)) l (some (au D)) (ak ns) (i+1+1) [.fz o]):=by
 have B:=gC ns i (m:=6) (by decide);have v:=gC ns (i+1) (m:=5) (by decide);have k:=pw (ns:=ns) (H:=[]) (λp hp=>nomatch hp) (i:=i) (m:=6) ⟨hi.1,DK hi,by decide⟩;have ft:=pw (ns:=ns) (H:=[]) (λp hp=>nomatch hp) (i:=i+1) (m:=5) ⟨Int.le_of_lt (Int.lt_add_one_of_le hi.1),DL hi,by decide⟩;have f:=Pm B;have c:=Po v;generalize drawn ns i 6=r at k f;generalize drawn ns (i+1) 5=n at ft c;have e1:(R kL 46).ev (bV (an gJ 0)) aH (aX X (w6 D g z u) none (some (.t K)) l (some (au D)) (ak ns) i [.fz o])=some (.ok (.t (.tuple [pO r.toNat,.str (eZ n.toNat)])),aX X (w6 D g z u) none (some (.t K)) l (some (au D)) (ak ns) (i+1+1) [.fz o]):=by
  refine nx (E:=aX X (w6 D g z u) none (some (.t K)) l (some (au D)) (ak ns) (i+1) [.fz o])
   (nu (M:= .t (.tuple sO)) (t:= .tuple sO) (it:= .int r) (E:=aX X (w6 D g z u) none (some (.t K)) l (some (au D)) (ak ns) i [.fz o]) ?_ ?_ (aO (fv:= .t (.top 624)) (vs:=[.own 5,.t (.int 6)]) (E:=aX X (w6 D g z u) none (some (.t K)) l (some (au D)) (ak ns) i [.fz o]) ?_ ?_ ?_ ?_ (cm (p:=⟨[5],[.list [cZ [] (ak ns),.int i]]⟩) (bi:=[.own 0,.t (.int 6)]) (X:=[.list [cZ [] (ak ns),.int (i+1)]]) ?_ ?_ ?_)) rfl f)
   (nu (M:= .t (.tuple sP)) (t:= .tuple sP) (it:= .int n) (E:=aX X (w6 D g z u) none (some (.t K)) l (some (au D)) (ak ns) (i+1) [.fz o]) ?_ ?_ (aO (fv:= .t (.top 624)) (vs:=[.own 5,.t (.int 5)]) (E:=aX X (w6 D g z u) none (some (.t K)) l (some (au D)) (ak ns) (i+1) [.fz o]) ?_ ?_ ?_ ?_ (cm (p:=⟨[5],[.list [cZ [] (ak ns),.int (i+1)]]⟩) (bi:=[.own 0,.t (.int 5)]) (X:=[.list [cZ [] (ak ns),.int (i+1+1)]]) ?_ ?_ ?_)) rfl c)
  .rfl
  ·(refine a2 hu (λzz=>?_) (λzz=>?_);(try clear hu);subst zz;rotate_left;(try clear hu);refine a9 zz λb p q c3=>ac c3 λc2 bo=>?_;clear c3;subst c2;subst bo;rotate_right)<;>lk
  .rfl
  .lk
  ·(refine a2 hu (λzz=>?_) (λzz=>?_);(try clear hu);subst zz;rotate_left;(try clear hu);refine a9 zz λb p q c3=>ac c3 λc2 bo=>?_;clear c3;subst c2;subst bo;rotate_right)<;>lk
  .lk
  ·(refine a2 hu (λzz=>?_) (λzz=>?_);(try clear hu);subst zz;rotate_left;(try clear hu);refine a9 zz λb p q c3=>ac c3 λc2 bo=>?_;clear c3;subst c2;subst bo;rotate_right)<;>lk
  .exact(sH _ _).trans k
  ·(refine a2 hu (λzz=>?_) (λzz=>?_);(try clear hu);subst zz;rotate_left;(try clear hu);refine a9 zz λb p q c3=>ac c3 λc2 bo=>?_;clear c3;subst c2;subst bo;rotate_right)<;>lk
  .rfl
  ·(refine a2 hu (λzz=>?_) (λzz=>?_);(try clear hu);subst zz;rotate_left;(try clear hu);refine a9 zz λb p q c3=>ac c3 λc2 bo=>?_;clear c3;subst c2;subst bo;rotate_right)<;>lk
  .rfl
  .lk
  ·(refine a2 hu (λzz=>?_) (λzz=>?_);(try clear hu);subst zz;rotate_left;(try clear hu);refine a9 zz λb p q c3=>ac c3 λc2 bo=>?_;clear c3;subst c2;subst bo;rotate_right)<;>lk
  .lk
  ·(refine a2 hu (λzz=>?_) (λzz=>?_);(try clear hu);subst zz;rotate_left;(try clear hu);refine a9 zz λb p q c3=>ac c3 λc2 bo=>?_;clear c3;subst c2;subst bo;rotate_right)<;>lk
  .exact(sH _ _).trans ft
  ·(refine a2 hu (λzz=>?_) (λzz=>?_);(try clear hu);subst zz;rotate_left;(try clear hu);refine a9 zz λb p q c3=>ac c3 λc2 bo=>?_;clear c3;subst c2;subst bo;rotate_right)<;>lk
 refine Pp (tg:=jN (an gJ 0)) (x:=bV (an gJ 0)) (d:=[S "number",S "way"]) rfl ?_ ?_ e1 rfl ?_
 .rfl
 .lk
 ·(refine a2 hu (λzz=>?_) (λzz=>?_);(try clear hu);clear e1;subst zz;rotate_left;(try clear hu);refine a9 zz λb p q c3=>ac c3 λc2 bo=>?_;clear c3;clear e1 zz;subst c2;subst bo;rotate_right)<;>lk
end
def Pr(c:aN)(n:Nat)(x:Expr)(e:AE)(O:af):Option (Except Addr Bool×af):=(R c n).test x e O
noncomputable def jY(i j:Nat):Bool:=Nat.ble 2 j||Nat.beq i 5
set_option tactic.hygienic true in
theorem Ps(D:ah)(g:Int->Bool)(X K t o:T)(z:Str)(a G:Int)(l:Option V):ld.map (λi=>fA.map λj=>l7 kL 47 (an gJ 1) aH (aX X (w6 D g z (uT a i j)) none (some (.t K)) l (some (au D)) t G [.fz o]))=
  fC (λi=>fC (λj=>some (.ok .next,aP X (w6 D g z (uT a i j)) K (bR i j) D t G o)) fA) ld:=by lk
theorem Pt(D:ah)(g:Int->Bool)(X K t o:T)(z I:Str)(a G:Int):ld.map (λi=>fA.map λj=>Pr kL 46 (bV I5) aH (aP X (w6 D g z (uT a i j)) K I D t G o))=
  fC (λi=>fC (λj=>some (.ok (jY i j),aP X (w6 D g z (uT a i j)) K I D t G o)) fA) ld:=by lk
section
variable {D:ah}{X t K:T}{G:Int}{I:Str}{o:T}{g:Int->Bool}{z:Str}{a:Int}{i j:Nat}
set_option tactic.hygienic true in
theorem Pu(hi:i<6)(hj:j<5):(R kL 47).ex (an gJ 1) aH (aX X (w6 D g z (uT a i j)) none (some (.t K)) l (some (au D)) t G [.fz o])=some (.ok .next,aP X (w6 D g z (uT a i j)) K (bR i j) D t G o):=by
 exact fY (fY (Ps D g X K t o z a G l) (vM hi)) (mf hj)
theorem wt(hi:i<6)(hj:j<5):(R kL 46).test (bV I5) aH (aP X (w6 D g z (uT a i j)) K I D t G o)=some (.ok (jY i j),aP X (w6 D g z (uT a i j)) K I D t G o):=by
 exact fY (fY (Pt D g X K t o z I a G) (vM hi)) (mf hj)
theorem C4(h:br k6 40 602 [au D,.t K,.t (.str s)] []=some (.error C,Y)):mh [au D,.t K,.t (.str s)] []=some (some (.error C,Y)):=by
 show nj (br k6 40 602 [au D,.t K,.t (.str s)] [])=_;refine rwm _ ?_ h;rfl
theorem Pv(h:br k6 40 602 [au D,.t K,.t (.str s)] []=some (.ok (.t u),Y)):mh [au D,.t K,.t (.str s)] []=some (some (.ok u,Y)):=by
 show nj (br k6 40 602 [au D,.t K,.t (.str s)] [])=_;refine rwm _ ?_ h;rfl
set_option tactic.hygienic true in
theorem Pw(h:D.Wf)(hg:cW D K=some g)(hi:i<6)(hj:j<5)(hb:jY i j=true):(R kL 47).ex I5 aH (aP X (w6 D g z (uT a i j)) K (bR i j) D t G o)=some (.ok .next,aP X (w6 D g z (uT a i j)) K (bR i j) D t G o++[bJ (LE cH)]):=by
 have h1:=wt (D:=D) (X:=X) (t:=t) (K:=K) (G:=G) (I:=bR i j) (o:=o) (g:=g) (z:=z) (a:=a) hi hj;rw[hb] at h1;have hc:2<=j\/i=5:=by
  unfold jY at hb;rw[Bool.or_eq_true] at hb;rcases hb with hb|hb
  .exact .inl (a4 hb)
  .exact .inr (hY hb)
 refine ag (Mx h hg hi hj hc) λY f=>?_;refine jG h1 (bv (iZ (E:=aP X (w6 D g z (uT a i j)) K (bR i j) D t G o++[bJ (LE cH)]) (ey (v:= .t (.str (wl 71))) (u:= .t (.str (S "desk"))) (O2:=aP X (w6 D g z (uT a i j)) K (bR i j) D t G o++[bJ (LE cH)]) (Pj (X:=X) (t:=t) (i:=G) (o:=o) (g:=g) (z:=z) (a:=a) (p:=i) (q:=j) (.inl rfl) (C4 f)) ?_ ((lr rfl rfl).trans ?_)) gm))
 .lk
 .refine rwm _ (rwm _ ?_ (ii rfl)) (show wl 71=S "desk" from rfl);rfl
theorem C6(hi:i<6)(hj:j<5)(hb:jY i j=false):i<5/\j<2:=by
 unfold jY at hb;rw[Bool.or_eq_false_iff] at hb;refine⟨?_,?_⟩
 .have:i≠5:=λe=>by subst e;cases hb.2
  exact Nat.lt_of_le_of_ne (i2 hi) this
 .clear hj;rcases j with _|_|j
  .exact nr _ _
  .exact hX _
  .have:=hb.1;have e:Nat.ble 2 (j+2)=true:=Nat.ble_eq_true_of_le (nr _ _);rw[e] at this;exact tff this
theorem C7(h:i<5):pO i= .int (10+3*(i:Int)):=by
 rcases i with _|_|_|_|_|i<;>first|rfl|lia
theorem C8(hi:i<5):(R kL 45).test (bV mw) aH (aP X (w6 D g z (uT a i j)) K I D t G o)=some (.ok (!decide (10+3*(i:Int)∈D.order)||dU (10+3*(i:Int)) D.lk),aP X (w6 D g z (uT a i j)) K I D t G o):=by
 have e:uT a i j=[(S "turn",.t (.int a)),(S "way",.t (.str (eZ j))),(S "number",.t (.int (10+3*(i:Int))))]:=by unfold uT;exact rwm _ rfl (C7 hi)
 refine rwm _ ?_ e;generalize 10+3*(i:Int)=n;generalize Y:aP X (w6 D g z [(S "turn",.t (.int a)),(S "way",.t (.str (eZ j))),(S "number",.t (.int n))]) K I D t G o=O;have h1:(R kL 44).test (aY (a7 (bV mw)) 0) aH O=some (.ok (!decide (n∈D.order)),O):=by
  subst Y;refine ey (v:= .t (.int n)) (u:= .t (aF D.order g)) (E:=aP X (w6 D g z [(S "turn",.t (.int a)),(S "way",.t (.str (eZ j))),(S "number",.t (.int n))]) K I D t G o) (O2:=aP X (w6 D g z [(S "turn",.t (.int a)),(S "way",.t (.str (eZ j))),(S "number",.t (.int n))]) K I D t G o) ?_ ?_ (vj (x:= .int n) (y:=aS D.order g) rfl rfl rE)
  .lk
  .lk
 have h2:(R kL 44).test (aY (a7 (bV mw)) 1) aH O=some (.ok (dU n D.lk),O):=by
  subst Y;refine ey (v:= .t (.int n)) (u:= .t (ak D.lk)) (E:=aP X (w6 D g z [(S "turn",.t (.int a)),(S "way",.t (.str (eZ j))),(S "number",.t (.int n))]) K I D t G o) (O2:=aP X (w6 D g z [(S "turn",.t (.int a)),(S "way",.t (.str (eZ j))),(S "number",.t (.int n))]) K I D t G o) ?_ ?_ (vl (x:= .int n) (y:=ak D.lk) rfl rfl (nn n D.lk))
  .lk
  .lk
 cases hd:decide (n∈D.order) with
 |false=>
  rw[hd] at h1;exact Kz h1
 |true=>
  rw[hd] at h1;exact u7 h1 (lT h2)
set_option tactic.hygienic true in
theorem Px(h:D.Wf)(h0:D.st=0)(hg:cW D K=some g)(hi:i<6)(hj:j<5)(hb:jY i j=false)(b:¬(10+3*(i:Int)∈D.order/\10+3*(i:Int)∉D.lk)):(R kL 47).ex I5 aH (aP X (w6 D g z (uT a i j)) K (bR i j) D t G o)=some (.ok .next,aP X (w6 D g z (uT a i j)) K (bR i j) D t G o++[bJ (LE cI)]):=by
 have h1:=wt (D:=D) (X:=X) (t:=t) (K:=K) (G:=G) (I:=bR i j) (o:=o) (g:=g) (z:=z) (a:=a) hi hj;rw[hb] at h1;refine ac (C6 hi hj hb) λc d=>?_;have h2:=C8 (D:=D) (X:=X) (t:=t) (K:=K) (G:=G) (I:=bR i j) (o:=o) (g:=g) (z:=z) (a:=a) (j:=j) c;have e2:(!decide (10+3*(i:Int)∈D.order)||dU (10+3*(i:Int)) D.lk)=true:=by
  by_cases hm:10+3*(i:Int)∈D.order
  .have hk:=p6 λhk=>b ⟨hm,hk⟩;rw[A1 hk,Bool.or_true]
  .refine rwm _ ?_ (le hm);rfl
 rw[e2] at h2;(refine ag (My h hg c d (by refine rwm _ ?_ (i9 (.inl h0));exact b)) λY f=>?_);refine iZ h1 (bv (s:=mw) (jG h2 (bv (iZ (E:=aP X (w6 D g z (uT a i j)) K (bR i j) D t G o++[bJ (LE cI)]) (ey (v:= .t (.str (wl 59))) (u:= .t (.str (S "draft"))) (O2:=aP X (w6 D g z (uT a i j)) K (bR i j) D t G o++[bJ (LE cI)]) (Pl (X:=X) (t:=t) (i:=G) (o:=o) (g:=g) (z:=z) (a:=a) (p:=i) (q:=j) (.inr rfl) (C4 f)) ?_ ((lr rfl rfl).trans ?_)) gm))))
 .lk
 .refine rwm _ (rwm _ ?_ (ii rfl)) (show wl 59=S "draft" from rfl);rfl
def A5:Stmt:=an (C3 mw) 0
theorem Py(D:ah)(g:Int->Bool)(X K t o:T)(z I:Str)(a G n:Int):[0,1].map (λj=>rQ kL 42 (aY (a7 (aY (a7 (bV A5)) 0)) 4) aH (aP X (w6 D g z [(S "turn",.t (.int a)),(S "way",.t (.str (eZ j))),(S "number",.t (.int n))]) K I D t G o))=
  fC (λj=>some (.ok (.t (.bool (Nat.beq j 0))),aP X (w6 D g z [(S "turn",.t (.int a)),(S "way",.t (.str (eZ j))),(S "number",.t (.int n))]) K I D t G o)) [0,1]:=by lk
set_option tactic.hygienic true in
theorem Pz(h:D.Wf)(h0:D.st=0)(hg:cW D K=some g)(hi:i<6)(hj:j<5)(hb:jY i j=false)(hm:10+3*(i:Int)∈D.order)(hk:10+3*(i:Int)∉D.lk):
  (R kL 47).ex I5 aH (aP X (w6 D g z (uT a i j)) K (bR i j) D t G o)=some (.ok .next,aP X (w6 D (eK D.rows g (10+3*(i:Int)) (Nat.beq j 0)) z (uT a i j)) (aF D.all (eK D.rows g (10+3*(i:Int)) (Nat.beq j 0))) (bR i j) D t G o):=by
 have h1:=wt (D:=D) (X:=X) (t:=t) (K:=K) (G:=G) (I:=bR i j) (o:=o) (g:=g) (z:=z) (a:=a) hi hj;rw[hb] at h1;refine ac (C6 hi hj hb) λc d=>?_;have h2:=C8 (D:=D) (X:=X) (t:=t) (K:=K) (G:=G) (I:=bR i j) (o:=o) (g:=g) (z:=z) (a:=a) (j:=j) c;rw[decide_eq_true hm,rq hk] at h2;have f:=Pv (Mz h hg c d (by refine rwm _ ?_ (i9 (.inl h0));exact hm) hk);have hw:=fY (Py D g X K t o z (bR i j) a G (10+3*(i:Int))) (vN d);have e:uT a i j=[(S "turn",.t (.int a)),(S "way",.t (.str (eZ j))),(S "number",.t (.int (10+3*(i:Int))))]:=by unfold uT;exact rwm _ rfl (C7 c)
 have b:rN [cn D,.t (aF D.order g),.t (.int (10+3*(i:Int))),.t (.bool (Nat.beq j 0))] []=yes (aF D.order (eK D.rows g (10+3*(i:Int)) (Nat.beq j 0))) []:=fU (p:=D.order=D.order/\10+3*(i:Int)∈D.order) ⟨rfl,hm⟩;refine iZ h1 (bv (s:=mw) (iZ h2 (bv (s:=A5) ?_)));refine rwm _ ?_ e;generalize w:eK D.rows g (10+3*(i:Int)) (Nat.beq j 0)=b6 at f b;generalize hn:(10+3*(i:Int))=n at hw b;generalize Nat.beq j 0=k at hw b;generalize eZ j=l at hw;generalize bR i j=I at hw f;generalize Y:aP X (w6 D g z [(S "turn",.t (.int a)),(S "way",.t (.str l)),(S "number",.t (.int n))]) K I D t G o=O at hw;have q:(R kL 44).ev (bV A5) aH O=some (.ok (.t (.tuple [aF D.order b6,aF D.all b6])),O):=by
  refine nx (E:=O) (aO (fv:= .t (.top 656)) (vs:=[cn D,.t (aF D.order g),.t (.int n),.t (.bool k)]) (E:=O) ?_ ?_ (bx (E:=O) ?_ (bx (E:=O) ?_ (bx (E:=O) ?_ (bx hw cb)))) ?_ (iI ?_ ((Pa _ _).trans b)))
   (aO (fv:= .t (.top 602)) (vs:=[au D,.t K,.t (.str I)]) (E:=O) ?_ ?_ ?_ ?_ (iI ?_ ((wq _ _).trans f)))
  .rfl
  .lk
  .clear hw;subst Y;lk
  .clear hw;subst Y;lk
  .clear hw;subst Y;lk
  .lk
  .rfl
  .rfl
  .lk
  .clear hw;subst Y;lk
  .lk
  .rfl
 refine dW (tg:=jN A5) (x:=bV A5) rfl ?_ ?_ q ?_
 .rfl
 .lk
 .clear hw q;subst Y;lk
end
noncomputable def nY(l:Option V):Prop:=l=none\/∃s,l=some (V.t (.str s))
def wu(y:List MO):Prop:=y=[]\/y=[bJ (LE cH)]\/y=[bJ (LE cI)]
section
variable {D:ah}{X t K:T}{G:Int}{I:Str}{o:T}{g:Int->Bool}{z:Str}{a:Int}{i j:Nat}{y:List MO}
set_option tactic.hygienic true in
theorem PA(h0:D.st=0)(hg:cW D K=some g)(hc:wu y):(R kL 47).ex (an gJ 3) aH (aP X (w6 D g z (uT a i j)) K I D t G o++y)=some (.ok .next,aP X (w6 D g z (uT a i j)) K I D t G o++y):=by
 generalize Y:aP X (w6 D g z (uT a i j)) K I D t G o++y=O;refine iZ (ey (v:= .t (.str (D.txt g))) (u:= .t (.str (cC D.order g))) (E:=O) (O2:=O)
  (aO (fv:= .t (.top 595)) (vs:=[au D,.t K]) (E:=O) ?_ ?_ ?_ ?_ (iI ?_ ?_)) (aO (fv:= .t (.top 649)) (vs:=[cn D,.t (aF D.order g)]) (E:=O) ?_ ?_ ?_ ?_ (iI ?_ ?_)) ((lr rfl rfl).trans ?_)) gm
 .rfl
 .lk
 .subst Y;rcases hc with rfl|rfl|rfl<;>lk
 .lk
 .rfl
 .exact(pN _ _).trans (CY hg)
 .rfl
 .lk
 .subst Y;rcases hc with rfl|rfl|rfl<;>lk
 .lk
 .rfl
 .exact(sI _ _).trans sK
 .rw[sJ (.inl h0),decide_eq_true rfl];rfl
theorem PB{g:Int->Bool}:cW D (aF D.all g)=some g:=by
 show @ite _ (D.all=D.all) (Classical.propDecidable _) (some g) none=some g;exact rwm _ rfl (eb rfl)
theorem PC(hc:wu y):trunc 7 (aP X (w6 D g z (uT a i j)) K I D t G o++y)=aP X (w6 D g z (uT a i j)) K I D t G o:=by
 rcases hc with rfl|rfl|rfl<;>rfl
set_option tactic.hygienic true in
theorem PD(h:D.Wf)(h0:D.st=0){ns:List Int}(hn:ns≠[])(hl:ns.length<=50)(hg:cW D K=some g)(hi:0<=G/\G<900)(hu:fH u):
  ∃b6 f C N,cW D f=some b6/\fH C/\nY N/\i0 (R kL 47) aH (dw (bX 5)) gJ 7 (.int b) (aX X (w6 D g z u) none (some (.t K)) l (some (au D)) (ak ns) G [.fz o])=some (.ok .next,aX X (w6 D b6 z C) none (some (.t f)) N (some (au D)) (ak ns) (G+1+1) [.fz o]):=by
 have h1:∃k,(k=[(S "turn",.t (.int b))]\/∃c p q,k=uT c p q/\c=b)/\(R kL 47).as (dw (bX 5)) aH (.t (.int b)) (aX X (w6 D g z u) none (some (.t K)) l (some (au D)) (ak ns) G [.fz o])=some (.ok (),aX X (w6 D g z k) none (some (.t K)) l (some (au D)) (ak ns) G [.fz o]):=by
  (refine a2 hu (λzz=>?_) (λzz=>?_);(try clear hu);subst zz;rotate_left;(try clear hu);refine a9 zz λc p q bo=>?_;clear zz;subst bo;rotate_right)
  .exact⟨_,.inl rfl,by lk⟩
  .exact⟨uT b p q,.inr ⟨b,p,q,rfl,rfl⟩,by lk⟩
 refine al h1 λk r h1=>?_;have h2:=Pq (D:=D) (X:=X) (K:=K) (g:=g) (z:=z) (l:=l) (o:=o) hn hl hi (a:=b) r;have B:=gC ns G (m:=6) (by decide);have v:=gC ns (G+1) (m:=5) (by decide);have d:=(Int.toNat_lt B.1).mpr B.2;have n:=(Int.toNat_lt v.1).mpr v.2;generalize (drawn ns G 6).toNat=i at h2 d;generalize (drawn ns (G+1) 5).toNat=j at h2 n;have h4:∃b6 f y,cW D f=some b6/\wu y/\(R kL 47).ex I5 aH (aP X (w6 D g z (uT b i j)) K (bR i j) D (ak ns) (G+1+1) o)=some (.ok .next,aP X (w6 D b6 z (uT b i j)) f (bR i j) D (ak ns) (G+1+1) o++y):=by
  cases hb:jY i j with
  |true=>exact⟨g,K,_,hg,.inr (.inl rfl),Pw h hg d n hb⟩
  |false=>
   by_cases hm:10+3*(i:Int)∈D.order/\10+3*(i:Int)∉D.lk
   .have q:=Pz (X:=X) (t:=ak ns) (G:=G+1+1) (o:=o) (z:=z) (a:=b) h h0 hg d n hb hm.1 hm.2;exact⟨eK D.rows g (10+3*(i:Int)) (Nat.beq j 0),aF D.all (eK D.rows g (10+3*(i:Int)) (Nat.beq j 0)),[],PB,.inl rfl,by rw[List.append_nil];exact q⟩
   .exact⟨g,K,_,hg,.inr (.inr rfl),Px h h0 hg d n hb hm⟩
 refine h8 h4 λb6 f y w A h4=>?_;have h5:=PA (X:=X) (t:=ak ns) (G:=G+1+1) (I:=bR i j) (o:=o) (z:=z) (a:=b) (i:=i) (j:=j) h0 w A;refine⟨b6,f,uT b i j,some (.t (.str (bR i j))),w,.inr ⟨b,i,j,rfl⟩,.inr ⟨_,rfl⟩,(dI h1 (aW (s:=an gJ 0) h2 (aW (s:=an gJ 1) (Pu (D:=D) (X:=X) (t:=ak ns) (K:=K) (G:=G+1+1) (o:=o) (g:=g) (z:=z) (a:=b) (l:=l) d n) (aW (s:=I5) h4 (bv (s:=an gJ 3) h5))))).trans ?_⟩;refine rwm _ ?_ (PC A);rfl
theorem PF{d:Int}(h:0<=d/\d<5):d7 (.range 0 d)=some (((List.range d.toNat).map λ(i:Nat)=>(i:Int)).map T.int):=ws (P:=λd=>d7 (.range 0 d)=some (((List.range d.toNat).map λ(i:Nat)=>(i:Int)).map T.int)) (λ
 |0,_=>rfl|1,_=>rfl|2,_=>rfl|3,_=>rfl|4,_=>rfl|n+5,h=>absurd h (Nat.not_lt.mpr (nr 5 n))) h
set_option tactic.hygienic true in
theorem PG(h:D.Wf)(h0:D.st=0){ns:List Int}(hn:ns≠[])(hl:ns.length<=50)(hg:cW D K=some g)(hi:0<=G/\G<800):
  ∃b6 f C N c,cW D f=some b6/\fH C/\nY N/\(0<=c/\c<900)/\(R kL 48).ex (bX 5) aH (aX X (w4 D g z) none (some (.t K)) none (some (au D)) (ak ns) G [.fz o])=some (.ok .next,aX X (w6 D b6 z C) none (some (.t f)) N (some (au D)) (ak ns) c [.fz o]):=by
 have v:=gC ns G (m:=5) (by decide);have ft:=pw (ns:=ns) (H:=[]) (λp hp=>nomatch hp) (i:=G) (m:=5) ⟨hi.1,EB hi,by decide⟩;have hr:=PF v;have bb:=(Int.toNat_lt v.1).mpr v.2;generalize drawn ns G 5=d at ft hr bb;(refine ag (la T.int (λA O=>∃b6 f C N,cW D f=some b6/\fH C/\nY N/\O=aX X (w6 D b6 z C) none (some (.t f)) N (some (au D)) (ak ns) (G+1+2*(A.length:Int)) [.fz o])
  (i0 (R kL 47) aH (dw (bX 5)) gJ 7) ((List.range d.toNat).map λ(i:Nat)=>(i:Int)) (O:=aX X (w4 D g z) none (some (.t K)) none (some (au D)) (ak ns) (G+1) [.fz o])
  ⟨g,K,[],none,hg,.inl rfl,.inl rfl,by refine rwm _ ?_ (show G+1+2*(([]:List Int).length:Int)=G+1 by simp);rfl⟩ λA b B O e Y=>by
  obtain⟨g1,K1,k,l1,s,r,be,rfl⟩:=Y;have c4:A.length<5:=by
   have:=hQ List.length e;rw[List.length_map,List.length_range,List.length_append,List.length_cons] at this;exact EC bb this
  obtain⟨g2,K2,u2,l2,Q,u,bd,q⟩:=PD (X:=X) (z:=z) (o:=o) h h0 hn hl s (G:=G+1+2*(A.length:Int)) (wS hi c4) (b:=b) r (l:=l1);refine⟨_,q,g2,K2,u2,l2,Q,u,bd,?_⟩;exact rwm _ rfl (show G+1+2*(A.length:Int)+1+1=G+1+2*((A++[b]).length:Int) by refine rwm _ ?_ i6;simp;exact ED)) λM cs=>?_;refine ac cs λL cd=>bH cd λb6 f C N cv=>bK cv λw n J bo=>?_;clear cv;clear cs cd;subst bo)
 refine⟨b6,f,C,N,_,w,n,J,?_,oZ (x:= .t (.range 0 d)) (t:= .range 0 d) (U:=((List.range d.toNat).map λ(i:Nat)=>(i:Int)).map T.int) (E:=aX X (w4 D g z) none (some (.t K)) none (some (au D)) (ak ns) (G+1) [.fz o]) (O2:=aX X (w4 D g z) none (some (.t K)) none (some (au D)) (ak ns) (G+1) [.fz o]) rfl ?_ rfl hr L⟩
 .rw[List.length_map,List.length_range];exact wS hi bb
 .refine aO (fv:= .t (.typ "range")) (vs:=[.t (.int d)]) (E:=aX X (w4 D g z) none (some (.t K)) none (some (au D)) (ak ns) (G+1) [.fz o]) ?_ ?_ (bx (E:=aX X (w4 D g z) none (some (.t K)) none (some (au D)) (ak ns) (G+1) [.fz o])
   (aO (fv:= .t (.top 624)) (vs:=[.own 5,.t (.int 5)]) (E:=aX X (w4 D g z) none (some (.t K)) none (some (au D)) (ak ns) G [.fz o]) ?_ ?_ ?_ ?_ (cm (p:=⟨[5],[.list [cZ [] (ak ns),.int G]]⟩) (bi:=[.own 0,.t (.int 5)]) (X:=[.list [cZ [] (ak ns),.int (G+1)]]) ?_ ?_ ?_)) cb) ?_ ?_
  .rfl
  .lk
  .rfl
  .lk
  .lk
  .lk
  .lk
  .exact(sH _ _).trans ft
  .lk
  .lk
  .lk
end
abbrev cJ(D:ah):T:=am #[] (.box (.doc D) D.tree)
theorem PH{f g:Int->Bool}(h:∀n∈l,f n=g n):cC l f=cC l g:=by
 unfold cC
 congr 1
 refine ks λn hn=>?_;unfold cY;exact rwm _ rfl (h n hn)
theorem C9(D:ah)(g:Int->Bool)(hn:n∈D.order):(D.kept g).startF n=g n:=by
 refine(?_:(if n∈c0 D.order g then false else if n∈([]:List Int) then true else true)=g n)
 cases h:g n with
 |true=>
  rw[if_neg,if_neg (by simp)];intro hm;have:=(p9.mp hm).2;rw[h] at this;exact ftf this
 |false=>exact rwm _ rfl (eb (show n∈c0 D.order g from p9.mpr ⟨hn,by refine rwm _ ?_ h;rfl⟩))
theorem wv(D:ah):mv mu kX [au D,.own 0] [.dict []]=yes (.str (D.txt D.startF)) [.dict []]:=rfl
section
variable {D:ah}{X t K:T}{G:Int}{o:T}{g:Int->Bool}{z:Str}{u:List (Str×V)}{l:Option V}
set_option tactic.hygienic true in
theorem PJ(hu:fH u)(b:nY l):(R kL 48).ex (bX 6) aH (aX X (w6 D g z u) none (some (.t K)) l (some (au D)) t G [.fz o])=some (.ok .next,aX X (w6 D g z u) (some (.t (cJ D))) (some (.t K)) l (some (au D)) t G [.fz o]):=by
 (refine a2 b (λzz=>?_) (λzz=>?_);(try clear b);subst zz;rotate_left;(try clear b);refine ag zz λs bo=>?_;clear zz;subst bo;rotate_right)<;>refine cV u hu ?_ (λa i j=>?_)<;>lk
def w7(D:ah)(g:Int->Bool)(z:Str)(u:List (Str×V)):List (Str×V):=w6 D g z u++[(S "fresh",.t (cJ (D.kept g))),(S "answer",.t (.str (jU D.m)))]
set_option tactic.hygienic true in
theorem PK(hu:fH u)(h0:D.st=0)(hg:cW D K=some g):(R kL 48).ex (bX 7) aH (aX X (w6 D g z u) (some (.t (cJ D))) (some (.t K)) l (some (au D)) t G [.fz o])=some (.ok .next,aX X (w7 D g z u) (some (.t (cJ D))) (some (.t K)) l (some (au D)) t G [.fz o]):=by
 have hc:sE [.t (cJ D),.t K,.t (.str em)] []=yes (.tuple [cJ (D.kept g),.str (jU D.m)]) []:=by
  show cond (decide (em=em)) (pM D K #[] (S "data") (S "base") (S "shelf")) none=_;refine rwm _ ?_ (ii rfl);show pM D K #[] (S "data") (S "base") (S "shelf")=_;unfold pM;refine rwm _ ?_ hg;exact fU (p:=D.st=0/\S "data"=S "data"/\S "base"=S "base"/\S "shelf"=S "shelf") ⟨h0,rfl,rfl,rfl⟩
 refine dW (v:= .t (.tuple [cJ (D.kept g),.str (jU D.m)])) (E:=aX X (w6 D g z u) (some (.t (cJ D))) (some (.t K)) l (some (au D)) t G [.fz o]) rfl ?_ ?_ (aO (fv:= .t (.top 609)) (vs:=[.t (cJ D),.t K,.t (.str em)]) ?_ ?_ ?_ ?_ (iI ?_ ?_)) ?_
 .rfl
 .lk
 .rfl
 .lk
 .refine cV u hu ?_ (λa i j=>?_)<;>lk
 .lk
 .rfl
 .exact(Pb _ _).trans hc
 .refine cV u hu ?_ (λa i j=>?_)<;>lk
def T8(k:Nat):Expr:=aY (a7 (bV (bX 8))) k
set_option tactic.hygienic true in
theorem PL(h:D.Wf)(hu:fH u)(h0:D.st=0):(R kL 48).ex (bX 8) aH (aX X (w7 D g z u) (some (.t (cJ D))) (some (.t K)) l (some (au D)) t G [.fz o])=some (.ok .next,aX X (w7 D g z u) (some (.t (cJ D))) (some (.t K)) l (some (au D)) t G [.fz o,.dict []]):=by
 have hm:=h.m;have k:(ax D.order g).length<1000:=by rw[fV,gv];exact lC hm rfl
 have b:((ax D.order g).length:Int)=(D.m:Int):=by rw[fV,gv]
 have be:=g9 (n:=(D.m:Int)) (wE hm);have t1:(R kL 46).test (T8 0) aH (aX X (w7 D g z u) (some (.t (cJ D))) (some (.t K)) l (some (au D)) t G [.fz o])=some (.ok false,aX X (w7 D g z u) (some (.t (cJ D))) (some (.t K)) l (some (au D)) t G [.fz o]):=by
  generalize Y:aX X (w7 D g z u) (some (.t (cJ D))) (some (.t K)) l (some (au D)) t G [.fz o]=O;refine ey (v:= .t (.str (jU D.m))) (u:= .t (.str (jU D.m))) (E:=O) (O2:=O) ?_ (go (v:= .t (.str (S "kept "++dp (D.m:Int)))) (u:= .t (.str (S " layers"))) (E:=O) (O2:=O) (go (v:= .t (.str (S "kept "))) (u:= .t (.str (dp (D.m:Int)))) (E:=O) (O2:=O) ?_
   (aO (fv:= .t (.typ "str")) (vs:=[.t (.int ((ax D.order g).length:Int))]) (E:=O) ?_ ?_ (bx (E:=O) (aO (fv:= .t (.bi "len")) (vs:=[.t (aF D.order g)]) (E:=O) ?_ ?_ (bx (E:=O) ?_ cb) ?_ (Bv rfl k)) cb) ?_ ?_) rfl rfl (jb ?_)) ?_ rfl rfl (jb ?_)) ((lr rfl rfl).trans ?_)
  .subst Y;refine cV u hu ?_ (λa i j=>?_)<;>lk
  .lk
  .rfl
  .lk
  .rfl
  .lk
  .subst Y;refine cV u hu ?_ (λa i j=>?_)<;>lk
  .lk
  .lk
  .refine rwm _ ?_ b;exact pg (D1 hm)
  .have:(S "kept ").length=5:=by decide
   exact lB (Nat.add_le_add (ec this) be) rfl
  .lk
  .have h1:(S "kept ").length=5:=by decide
   have h2:(S " layers").length=7:=by decide
   rw[jc];exact wF be h1 h2
  .refine rwm _ ?_ (ii rfl);rfl
 have I:(R kL 46).test (T8 1) aH (aX X (w7 D g z u) (some (.t (cJ D))) (some (.t K)) l (some (au D)) t G [.fz o])=some (.ok false,aX X (w7 D g z u) (some (.t (cJ D))) (some (.t K)) l (some (au D)) t G [.fz o,.dict []]):=by
  refine ey (v:= .t (.str ((D.kept g).txt (D.kept g).startF))) (u:= .t (.str (cC D.order g))) (E:=aX X (w7 D g z u) (some (.t (cJ D))) (some (.t K)) l (some (au D)) t G [.fz o,.dict []]) (O2:=aX X (w7 D g z u) (some (.t (cJ D))) (some (.t K)) l (some (au D)) t G [.fz o,.dict []])
   (aO (fv:= .t (.top 595)) (vs:=[au (D.kept g),.own 7]) (E:=aX X (w7 D g z u) (some (.t (cJ D))) (some (.t K)) l (some (au D)) t G [.fz o,.dict []]) ?_ ?_ ?_ ?_ (cm (p:=⟨[7],[.dict []]⟩) (bi:=[au (D.kept g),.own 0]) (X:=[.dict []]) ?_ ?_ ?_))
   (aO (fv:= .t (.top 649)) (vs:=[cn D,.t (aF D.order g)]) (E:=aX X (w7 D g z u) (some (.t (cJ D))) (some (.t K)) l (some (au D)) t G [.fz o,.dict []]) ?_ ?_ ?_ ?_ (iI ?_ ?_)) ((lr rfl rfl).trans ?_)
  .rfl
  .lk
  .refine cV u hu ?_ (λa i j=>?_)<;>lk
  .lk
  .rfl
  .exact(pN _ _).trans (wv _)
  .rfl
  .rfl
  .lk
  .refine cV u hu ?_ (λa i j=>?_)<;>lk
  .lk
  .rfl
  .exact(sI _ _).trans sK
  .rw[sJ (.inr rfl),PH (l:=(D.kept g).order) (g:=g) λn hn=>C9 D g hn,show(D.kept g).order=D.order from rfl,decide_eq_true rfl];rfl
 exact iZ (u7 (a:=T8 0) (l:=[T8 1]) t1 (lT I)) gm
end
def wN(w:List (Str×V))(k:Int):List (Str×V):=dM w (S "number") (.t (.int k))
def w9(D:ah)(g:Int->Bool)(z:Str)(u:List (Str×V))(k:Int):List (Str×V):=wN (w7 D g z u) k
def nZ(D:ah)(g:Int->Bool)(z:Str)(u:List (Str×V))(k:Int):List (Str×V):=dM (w9 D g z u k++[(S "grown",.t (cJ ((D.kept g).grown k)))]) (S "answer") (.t (.str (ji k)))
def jk(k:Int):Str:=dp k++S " on new one"
def bF(D:ah)(g:Int->Bool)(z:Str)(u:List (Str×V))(k:Int):List (Str×V):=nZ D g z u k++[(S "row",.t (.str (jk k)))]
section
variable {D:ah}{X t K:T}{G k:Int}{o:T}{g:Int->Bool}{z:Str}{u:List (Str×V)}{l:Option V}{ns:List Int}
abbrev bh(D:ah)(X:T)(w:List (Str×V))(K:T)(l:Option V)(t:T)(G:Int)(o:List MO):af:=aX X w (some (.t (cJ D))) (some (.t K)) l (some (au D)) t G o
set_option tactic.hygienic true in
theorem PM(hu:fH u)(hn:ns≠[])(hl:ns.length<=50)(hi:0<=G/\G<1000):(R kL 48).ex (bX 9) aH (bh D X (w7 D g z u) K l (ak ns) G [.fz o,.dict []])=some (.ok .next,bh D X (w9 D g z u (23+drawn ns G 9)) K l (ak ns) (G+1) [.fz o,.dict []]):=by
 have b:=pw (ns:=ns) (H:=[]) (λp hp=>nomatch hp) (i:=G) (m:=9) ⟨hi.1,hi.2,by decide⟩;generalize drawn ns G 9=d at b;refine dW (v:= .t (.int (23+d))) (E:=bh D X (w7 D g z u) K l (ak ns) (G+1) [.fz o,.dict []]) rfl ?_ ?_ (go (v:= .t (.int 23)) (u:= .t (.int d)) (E:=bh D X (w7 D g z u) K l (ak ns) G [.fz o,.dict []]) (O2:=bh D X (w7 D g z u) K l (ak ns) (G+1) [.fz o,.dict []]) ?_
  (aO (fv:= .t (.top 624)) (vs:=[.own 5,.t (.int 9)]) (E:=bh D X (w7 D g z u) K l (ak ns) G [.fz o,.dict []]) ?_ ?_ ?_ ?_ (cm (p:=⟨[5],[.list [cZ [] (ak ns),.int G]]⟩) (bi:=[.own 0,.t (.int 9)]) (X:=[.list [cZ [] (ak ns),.int (G+1)]]) ?_ ?_ ?_)) rfl rfl rfl) ?_
 .rfl
 .lk
 .lk
 .rfl
 .lk
 .refine cV u hu ?_ (λa i j=>?_)<;>lk
 .lk
 .rfl
 .exact(sH _ _).trans b
 .lk
 .refine cV u hu ?_ (λa i j=>?_)<;>lk
set_option tactic.hygienic true in
theorem PN(hu:fH u)(hk:23<=k/\k<=31):(R kL 48).ex (bX 10) aH (bh D X (w9 D g z u k) K l t G [.fz o,.dict []])=some (.ok .next,bh D X (nZ D g z u k) K l t G [.fz o,.dict []]):=by
 have hc:sF [.t (cJ (D.kept g)),.t (.int k),.t eD] []=yes (.tuple [cJ ((D.kept g).grown k),.str (ji k)]) []:=fU (p:=((D.kept g).st=1/\S "data"=S "data"/\S "base"=S "base"/\S "shelf"=S "shelf")/\(23<=k/\k<=31)/\T.str (S "new one")=eD) ⟨⟨rfl,rfl,rfl,rfl⟩,hk,rfl⟩;refine dW (v:= .t (.tuple [cJ ((D.kept g).grown k),.str (ji k)])) (E:=bh D X (w9 D g z u k) K l t G [.fz o,.dict []]) rfl ?_ ?_ (aO (fv:= .t (.top 616)) (vs:=[.t (cJ (D.kept g)),.t (.int k),.t eD]) ?_ ?_ ?_ ?_ (iI ?_ ?_)) ?_
 .rfl
 .lk
 .rfl
 .lk
 .refine cV u hu ?_ (λa i j=>?_)<;>lk
 .lk
 .rfl
 .exact(Pd _ _).trans hc
 .refine cV u hu ?_ (λa i j=>?_)<;>lk
theorem Da(hk:23<=k/\k<=31):(dp k).length+(S " on new one").length<=30:=by
 have h2:(S " on new one").length=11:=by decide
 exact lB (Nat.add_le_add (g9 (wH hk)) (ec h2)) rfl
set_option tactic.hygienic true in
theorem PO(hu:fH u)(hk:23<=k/\k<=31):(R kL 48).ex (bX 11) aH (bh D X (nZ D g z u k) K l t G [.fz o,.dict []])=some (.ok .next,bh D X (bF D g z u k) K l t G [.fz o,.dict []]):=by
 have hr:=Da hk;refine dW rfl ?_ ?_ (go (u:= .t (.str (S " on new one"))) (E:=bh D X (nZ D g z u k) K l t G [.fz o,.dict []]) (O2:=bh D X (nZ D g z u k) K l t G [.fz o,.dict []])
  (aO (fv:= .t (.typ "str")) (vs:=[.t (.int k)]) (E:=bh D X (nZ D g z u k) K l t G [.fz o,.dict []]) ?_ ?_ ?_ ?_ (pg (wI hk))) ?_ rfl rfl (jb (lB hr rfl))) ?_
 .rfl
 .lk
 .rfl
 .lk
 .refine cV u hu ?_ (λa i j=>?_)<;>lk
 .lk
 .lk
 .refine cV u hu ?_ (λa i j=>?_)<;>lk
end
theorem PR(a b c:Str):a++b++c=a++(b++c):=by
 refine(?_:(⟨(a.cps++b.cps)++c.cps⟩:Str)=⟨a.cps++(b.cps++c.cps)⟩);exact rwm _ rfl Array.append_assoc
theorem PS(s x:Str):∀{l:List Str},l≠[]->Txt.join s (l++[x])=Txt.join s l++s++x
 |a::r,_=>by
  refine(?_:(⟨((r++[x]).foldl (λbe (p:Str)=>be++s.cps++p.cps) a.cps)⟩:Str)=⟨(r.foldl (λbe (p:Str)=>be++s.cps++p.cps) a.cps)++s.cps++x.cps⟩);refine rwm _ ?_ List.foldl_append;rfl
theorem PT(x:Str)(h:l≠[]):gz (l++[x])=gz l++S "\n"++x:=by
 cases l with
 |nil=>exact absurd rfl h
 |cons a r=>exact PS (S "\n") x (l:=a::r) (by simp)
theorem PU(s:Str)(hs:s.length<=5):∀(l:List Str),(∀x∈l,x.length<=30)->(Txt.join s l).length<=35*l.length
 |[],_=>ix _
 |a::r,h=>by
  have f:∀(r:List Str)(be:Array Nat),(∀x∈r,x.length<=30)->(r.foldl (λbe (p:Str)=>be++s.cps++p.cps) be).size<=be.size+35*r.length:=by
   intro r
   induction r with
   |nil=>intro be _;simp
   |cons b r ih=>
    intro be h;have:=ih (be++s.cps++b.cps) λx hx=>h x (.tail _ hx);have e1:b.cps.size=b.length:=rfl;have e2:s.cps.size=s.length:=rfl;refine rwm _ (rwm _ ?_ r8) List.foldl_cons;rw[Array.size_append,Array.size_append] at this;exact DW hs this (h b (.head _)) e1 e2
  have:=f r a.cps λx hx=>h x (.tail _ hx);have e1:a.cps.size=a.length:=rfl;show((r.foldl (λbe (p:Str)=>be++s.cps++p.cps) a.cps).size:Nat)<=_;refine rwm _ ?_ r8;exact DX this (h a (.head _)) e1
theorem PV{D:ah}(h:D.Wf)(g:Int->Bool):(cC D.order g).length<=200:=by
 have bb:(D.order.map (cY g)).length<=4:=by rw[List.length_map,gv];exact h.m
 have hx:∀x∈D.order.map (cY g),x.length<=30:=λx hx=>by
  (refine ag (hK.mp hx) λn c1=>ac c1 λhn bo=>?_;clear c1;subst bo);exact BF h hn
 unfold cC;generalize D.order.map (cY g)=rows at bb hx
 cases rows with
 |nil=>
  have:(gz []).length=4:=by decide
  exact DY this
 |cons a r=>
  have hs:(S "\n").length<=5:=by decide
  have:=PU (S "\n") hs (a::r) hx;refine(?_:(Txt.join (S "\n") (a::r)).length<=200);exact lB (Nat.mul_le_mul_left 35 bb|>a5 this) rfl
theorem PX{D:ah}(h:D.Wf)(g:Int->Bool)(hk:23<=k/\k<=31):((D.kept g).grown k).txt ((D.kept g).grown k).startF=if D.order=[] then jk k else cC D.order g++S "\n"++jk k:=by
 have i:((D.kept g).grown k).all=D.order++[k]:=ru rfl;have c:∀n∈D.order,bQ ((D.kept g).grown k) ((D.kept g).grown k).startF n=cY g n:=λn hn=>by
  have hs:((D.kept g).grown k).startF n=g n:=C9 D g hn;unfold bQ cY nB;refine rwm _ ?_ hs;have hl:((D.kept g).grown k).labN n=gL ((n - 10).toNat/3):=hW (λhc:_/\_=>by have e:=hc.2;exact wR hk (jL h hn) e);exact rwm _ rfl hl
 have d:k∉D.order:=λhm=>by have:=jL h hm;exact DZ hk this
 have b:bQ ((D.kept g).grown k) ((D.kept g).grown k).startF k=jk k:=by
  have hs:((D.kept g).grown k).startF k=true:=by
   refine(?_:(if k∈c0 D.order g then false else if k∈([]:List Int) then true else true)=true);rw[if_neg (show k∉c0 D.order g fromλhm=>d (List.mem_filter.mp hm).1),if_neg (by simp)]
  have hl:((D.kept g).grown k).labN k=cj:=eb ⟨rfl,rfl⟩;unfold bQ pe jk;rw[hs,hl,PR];have e:cond true (S " on ") (S " off ")++ny cj=S " on new one":=by decide
  exact rwm _ rfl e
 unfold ah.txt;refine rwm _ (rwm _ (rwm _ ?_ (ks c)) i5) i;show gz (D.order.map (cY g)++[bQ ((D.kept g).grown k) ((D.kept g).grown k).startF k])=_;refine rwm _ ?_ b
 by_cases ho:D.order=[]
 .refine rwm _ (rwm _ ?_ ho) (eb ho);rfl
 .refine rwm _ (rwm _ ?_ (PT _ (by simpa using ho))) (hW ho);rfl
theorem PY{a:List (aj×T)}(h1:vw v O=some (.dict a))(h2:vw u O=some (.dict [])):dP .NotEq v u O=some (.ok (!a.isEmpty),O):=by
 show bm (aE v) (λx=>bm (aE u) λy=>om (gQ .NotEq x y)) O=_;refine a0 (az (dX h1)) (rwm _ ?_ (az (dX h2)));rfl
section
variable {D:ah}{X t K:T}{G k:Int}{o:T}{g:Int->Bool}{z:Str}{u:List (Str×V)}{l:Option V}
def mx(k:Nat):Expr:=aY (a7 (bV (bX 12))) k
def ww:Expr:=aY (a7 (mx 1)) 1
set_option tactic.hygienic true in
theorem PZ(h:D.Wf)(hu:fH u)(hk:23<=k/\k<=31):(R kL 48).ex (bX 12) aH (bh D X (bF D g z u k) K l t G [.fz o,.dict []])=some (.ok .next,bh D X (bF D g z u k) K l t G [.fz o,.dict [],.dict [],.dict []]):=by
 have hr:=Da hk;have ht:=PV h g;have t1:(R kL 46).test (mx 0) aH (bh D X (bF D g z u k) K l t G [.fz o,.dict []])=some (.ok false,bh D X (bF D g z u k) K l t G [.fz o,.dict []]):=by
  generalize Y:bh D X (bF D g z u k) K l t G [.fz o,.dict []]=O;refine ey (v:= .t (.str (ji k))) (u:= .t (.str (ji k))) (E:=O) (O2:=O) ?_ (go (v:= .t (.str (S "layer "))) (u:= .t (.str (dp k))) (E:=O) (O2:=O) ?_ (aO (fv:= .t (.typ "str")) (vs:=[.t (.int k)]) (E:=O) ?_ ?_ ?_ ?_ (pg (wI hk))) rfl rfl (jb ?_)) ((lr rfl rfl).trans ?_)
  .subst Y;refine cV u hu ?_ (λa i j=>?_)<;>lk
  .lk
  .rfl
  .lk
  .subst Y;refine cV u hu ?_ (λa i j=>?_)<;>lk
  .lk
  .have:(S "layer ").length=6:=by decide
   exact lB (Nat.add_le_add (ec this) (g9 (n:=k) (wH hk))) rfl
  .refine rwm _ ?_ (ii rfl);rfl
 have I:(R kL 45).ev (aY (a7 (mx 1)) 0) aH (bh D X (bF D g z u k) K l t G [.fz o,.dict []])=some (.ok (.t (.str (((D.kept g).grown k).txt ((D.kept g).grown k).startF))),bh D X (bF D g z u k) K l t G [.fz o,.dict [],.dict []]):=by
  refine aO (fv:= .t (.top 595)) (vs:=[au ((D.kept g).grown k),.own 8]) (E:=bh D X (bF D g z u k) K l t G [.fz o,.dict [],.dict []]) ?_ ?_ ?_ ?_ (cm (p:=⟨[8],[.dict []]⟩) (bi:=[au ((D.kept g).grown k),.own 0]) (X:=[.dict []]) ?_ ?_ ?_)
  .rfl
  .lk
  .refine cV u hu ?_ (λa i j=>?_)<;>lk
  .lk
  .rfl
  .exact(pN _ _).trans (wv _)
  .rfl
 have d:(R kL 45).ev ww aH (bh D X (bF D g z u k) K l t G [.fz o,.dict [],.dict []])=some (.ok (.t (.str (if D.order=[] then jk k else cC D.order g++S "\n"++jk k))),bh D X (bF D g z u k) K l t G [.fz o,.dict [],.dict [],.dict []]):=by
  generalize Y:bh D X (bF D g z u k) K l t G [.fz o,.dict [],.dict [],.dict []]=O;have q:(R kL 44).test (aY (a7 ww) 0) aH (bh D X (bF D g z u k) K l t G [.fz o,.dict [],.dict []])=some (.ok (!(ax D.order g).isEmpty),O):=by
   subst Y;refine ey (v:= .t (aF D.order g)) (u:= .own 9) (E:=bh D X (bF D g z u k) K l t G [.fz o,.dict [],.dict []]) (O2:=bh D X (bF D g z u k) K l t G [.fz o,.dict [],.dict [],.dict []]) ?_ ?_ (PY rfl rfl)
   .refine cV u hu ?_ (λa i j=>?_)<;>lk
   .lk
  by_cases ho:D.order=[]
  .refine rwm _ ?_ (eb ho);have e:(!(ax D.order g).isEmpty)=false:=by refine rwm _ ?_ ho;rfl
   rw[e] at q;refine KA q ?_;subst Y;refine cV u hu ?_ (λa i j=>?_)<;>lk
  .refine rwm _ ?_ (hW ho);have e:(!(ax D.order g).isEmpty)=true:=by
    cases hd:D.order with
    |nil=>exact absurd hd ho
    |cons a r=>rfl
   rw[e] at q;refine u9 q (go (v:= .t (.str (cC D.order g++S "\n"))) (u:= .t (.str (jk k))) (E:=O) (O2:=O) (go (v:= .t (.str (cC D.order g))) (u:= .t (.str (S "\n"))) (E:=O) (O2:=O)
    (aO (fv:= .t (.top 649)) (vs:=[cn D,.t (aF D.order g)]) (E:=O) ?_ ?_ ?_ ?_ (iI ?_ ?_)) ?_ rfl rfl (jb ?_)) ?_ rfl rfl (jb ?_))
   .rfl
   .lk
   .subst Y;refine cV u hu ?_ (λa i j=>?_)<;>lk
   .lk
   .rfl
   .exact(sI _ _).trans sK
   .lk
   .have:(S "\n").length=1:=by decide
    exact lB (Nat.add_le_add ht (ec this)) rfl
   .subst Y;refine cV u hu ?_ (λa i j=>?_)<;>lk
   .have h1:(S "\n").length=1:=by decide
    have h2:(jk k).length<=30:=by unfold jk;rw[jc];exact lB hr rfl
    rw[jc];exact D0 ht h1 h2
 have c:(R kL 46).test (mx 1) aH (bh D X (bF D g z u k) K l t G [.fz o,.dict []])=some (.ok false,bh D X (bF D g z u k) K l t G [.fz o,.dict [],.dict [],.dict []]):=by
  rw[(PX h g hk)] at I;refine ey (a:=aY (a7 (mx 1)) 0) (b:=ww) I d ((lr rfl rfl).trans ?_);refine rwm _ ?_ (ii rfl);rfl
 exact iZ (u7 (a:=mx 0) (l:=[mx 1]) t1 (lT c)) gm
end
theorem Db:∀{l:List Int},l.Pairwise (·<=·)->iK l=l
 |[],_=>rfl
 |[a],_=>rfl
 |a::b::l,h=>by
  have h1:=List.pairwise_cons.mp h;show j9 a (iK (b::l))=_;refine rwm _ ?_ (Db h1.2);show(if b<a then b::j9 a l else a::b::l)=_;exact rwm _ rfl (hW (by have:=h1.1 b (.head _);exact Int.not_lt.mpr this))
theorem Dc:∀l:List Int,cX (l.map T.int)=some l
 |[]=>rfl
 |a::l=>by
  show(cX (l.map T.int)).map (a::·)=_;refine rwm _ ?_ (Dc l);rfl
theorem Dd{c:aN}{O:af}{N:List (aj×T)}{l:List Int}(h:vw v O=some (.dict N))(hk:(N.map λp=>dN p.1)=l.map T.int)(hl:l.length<64)(hs:l.Pairwise (·<=·)):(R c (n+1)).call (.t (.bi "sorted")) [v] O=some (.ok (.own O.length),O++[.list (l.map T.int)]):=by
 show bm (aE v) (λt=>oq "sorted" t) O=_;refine a0 (az (dX h)) ?_;show bm (om (cX (N.map λp=>dN p.1))) (λl=>if l.length<64 then bP (.list ((iK l).map .int)) else λ_=>none) O=_;rw[hk,Dc];show(if l.length<64 then bP (.list ((iK l).map T.int)) else λ_=>none:MM V) O=_;refine rwm _ (rwm _ ?_ (Db hs)) (eb hl);rfl
theorem De:∀l:List Int,gP (l.map T.int) (l.map T.int)=some true
 |[]=>rfl
 |a::l=>by
  show(match dO (.int a) (.int a),gP (l.map T.int) (l.map T.int) with
   |some x,some y=>some (x&&y)
   |_,_=>none)=_
  refine rwm _ ?_ (De l);show some (decide (a=a)&&true)=_;refine rwm _ ?_ (ii rfl);rfl
theorem P0{l:List Int}(h1:vw v O=some (.list (l.map T.int)))(h2:vw u O=some (.list (l.map T.int))):dP .Eq v u O=some (.ok true,O):=by
 show bm (aE v) (λx=>bm (aE u) λy=>om (gQ .Eq x y)) O=_;refine a0 (az (dX h1)) (rwm _ ?_ (az (dX h2)));show om (gP (l.map T.int) (l.map T.int)) O=_;rw[De];rfl
theorem Df(m:Nat):((aI 0 m).map λp=>dN p.1)=(aQ m).map T.int:=by
 have e:((aI 0 m).map λp=>dN p.1)=((aI 0 m).map (·.1)).map dN:=by refine rwm _ ?_ mc;rfl
 rw[e,pC,List.map_map];unfold aQ;refine rwm _ ?_ mc;refine ks λi _=>(?_:T.int (10+3*((0+i:Nat):Int))=T.int (10+3*(i:Int)));rw[Nat.zero_add]
theorem P1(m:Nat):(aQ m).Pairwise (·<=·):=by
 unfold aQ;refine List.pairwise_map.mpr ((List.pairwise_lt_range).imp λ{a b} h=>?_);exact Dw h
theorem Dg{r:aG}(h:r.ev a e O=some (.ok (.t (.bool true)),E))(h2:gR r e .And (b::l) E=B):gR r e .And (a::b::l) O=B:=by
 show bm (r.ev a e) (λv=>bm (fO v) λc=>match BoolOp.And,c with
  | .And,false| .Or,true=>pm v
  |_,_=>gR r e .And (b::l)) O=_
 refine a0 (az h) (rwm _ ?_ (az (show fO (.t (.bool true)) E=some (.ok true,E) from rfl)));exact h2
noncomputable def P2:Option (Except Addr V×af)->Bool
 |some (.ok (.t (.bool b)),_)=>b
 |_=>false
theorem P3(h:P2 q=true):∃O,q=some (.ok (.t (.bool true)),O):=by
 match q with
 |some (.ok (.t (.bool b)),O)=>cases(show b=true from h);exact⟨O,rfl⟩
 |none=>exact ftf h
 |some (.error _,_)=>exact ftf h
 |some (.ok (.own _),_)=>exact ftf h
 |some (.ok (.t .none),_)=>exact ftf h
 |some (.ok (.t (.int _)),_)=>exact ftf h
 |some (.ok (.t (.str _)),_)=>exact ftf h
 |some (.ok (.t (.bytes _)),_)=>exact ftf h
 |some (.ok (.t (.typ _)),_)=>exact ftf h
 |some (.ok (.t (.bi _)),_)=>exact ftf h
 |some (.ok (.t (.top _)),_)=>exact ftf h
 |some (.ok (.t (.range _ _)),_)=>exact ftf h
 |some (.ok (.t (.list _)),_)=>exact ftf h
 |some (.ok (.t (.tuple _)),_)=>exact ftf h
 |some (.ok (.t (.dict _)),_)=>exact ftf h
 |some (.ok (.t (.inst _ _)),_)=>exact ftf h
 |some (.ok (.t (.box _ _)),_)=>exact ftf h
section
variable {D:ah}{X t K:T}{G k:Int}{o:T}{g:Int->Bool}{z:Str}{u:List (Str×V)}{l:Option V}
def iJ(k:Nat):Expr:=aY (a7 (bV (bX 13))) k
theorem P4(h0:D.st=0)(hu:fH u)(hz:z=D.txt D.startF):(R kL 46).ev (iJ 0) aH (bh D X (bF D g z u k) K l t G [.fz o,.dict [],.dict [],.dict []])=some (.ok (.t (.bool true)),bh D X (bF D g z u k) K l t G [.fz o,.dict [],.dict [],.dict [],.dict []]):=by
 have hv:=wr h0;refine AM (v:= .t (.str (D.txt D.startF))) (u:= .t (.str z)) (E:=bh D X (bF D g z u k) K l t G [.fz o,.dict [],.dict [],.dict [],.dict []]) (O2:=bh D X (bF D g z u k) K l t G [.fz o,.dict [],.dict [],.dict [],.dict []])
  (aO (fv:= .t (.top 595)) (vs:=[au D,.own 10]) (E:=bh D X (bF D g z u k) K l t G [.fz o,.dict [],.dict [],.dict [],.dict []]) ?_ ?_ ?_ ?_ (cm (p:=⟨[10],[.dict []]⟩) (bi:=[au D,.own 0]) (X:=[.dict []]) ?_ ?_ ?_)) ?_ ((Pe rfl rfl).trans ?_)
 .rfl
 .lk
 .refine cV u hu ?_ (λa i j=>?_)<;>lk
 .lk
 .rfl
 .exact(pN _ _).trans (wv _)
 .rfl
 .refine cV u hu ?_ (λa i j=>?_)<;>lk
 .exact rwm _ (rwm _ rfl (ii rfl)) hz
theorem P5(hu:fH u)(hl:nY l){a b c d:MO}:∃M,(R kL 46).ev (iJ 2) aH (bh D X (bF D g z u k) K l t G [.fz o,.dict [],.dict [],.dict [],.dict [],.list U,.list ys,.list m,.list (ys++m)])=some (.ok (.t (.bool true)),M):=by
 refine P3 ?_;(refine a2 hl (λzz=>?_) (λzz=>?_);(try clear hl);subst zz;rotate_left;(try clear hl);refine ag zz λs bo=>?_;clear zz;subst bo;rotate_right)<;>refine cV u hu ?_ (λa i j=>?_)<;>lk
theorem P6(ord:List Int)(A:List (aj×T))(m:Nat):((aB ord A (aI 0 m)).map λp=>dN p.1)=((1:Int)::aQ m).map T.int:=by
 show T.int 1::((aI 0 m).map λp=>dN p.1)=_;rw[Df];rfl
theorem P7(ord:List Int)(A:List (aj×T))(m:Nat)(k:Int)(x:T):((aB ord A (aI 0 m++[(.int k,x)])).map λp=>dN p.1)=(((1:Int)::aQ m)++[k]).map T.int:=by
 show T.int 1::((aI 0 m++[(aj.int k,x)]).map λp=>dN p.1)=_;rw[List.map_append,Df];show _=T.int 1::(aQ m++[k]).map T.int;refine rwm _ ?_ i5;rfl
theorem Dh{D:ah}(h:D.Wf):((1:Int)::aQ D.m).Pairwise (·<=·):=by
 refine List.pairwise_cons.mpr ⟨λn hn=>?_,P1 _⟩;(refine ag (i4.mp hn) λi c1=>ac c1 λ_ bo=>?_;clear c1;clear hn;subst bo);exact Dx
theorem P8{D:ah}(h:D.Wf)(hk:23<=k/\k<=31):(((1:Int)::aQ D.m)++[k]).Pairwise (·<=·):=by
 refine List.pairwise_append.mpr ⟨Dh h,by simp,λa ha b hb=>?_⟩;have hb:b=k:=by simpa using hb
 subst hb;(refine a2 (hy.mp ha) (λzz=>?_) (λha=>?_);subst zz;rotate_left;rotate_right)
 .exact Dy hk
 ·(refine ag (i4.mp ha) λi c1=>ac c1 λhi bo=>?_;clear c1;clear ha;subst bo);have:=h.m;exact Dz hk hi this
theorem P9(h:D.Wf)(h0:D.st=0)(hu:fH u)(hk:23<=k/\k<=31):(R kL 46).ev (iJ 1) aH (bh D X (bF D g z u k) K l t G [.fz o,.dict [],.dict [],.dict [],.dict []])=
  some (.ok (.t (.bool true)),bh D X (bF D g z u k) K l t G [.fz o,.dict [],.dict [],.dict [],.dict [],.list ((((1:Int)::aQ D.m)++[k]).map T.int),.list (((1:Int)::aQ D.m).map T.int),.list [.int k],.list (((1:Int)::aQ D.m).map T.int++[.int k])]):=by
 have hm:=h.m;have b:(aQ D.m).length=D.m:=rd _;have e2:strip (.box (.doc ((D.kept g).grown k)) ((D.kept g).grown k).tree)=c8 (aB (D.order++[k]) (fF D.lk D.rows (c0 D.order g) k) (aI 0 D.m++[(.int k,dc cj)])) bI:=rfl;have e0:strip (.box (.doc D) D.tree)=c8 (aB D.order (co D.base D.on D.off D.lk D.rows) (aI 0 D.m)) bI:=by
  show strip D.tree=_;refine a0 (CE h0) ?_;rfl
 have p:=P7 (D.order++[k]) (fF D.lk D.rows (c0 D.order g) k) D.m k (dc cj);have n:=P6 D.order (co D.base D.on D.off D.lk D.rows) D.m;have L:=P8 h hk;have I:=Dh h;have bd:(((1:Int)::aQ D.m)++[k]).length<64:=by refine rwm _ ?_ i6;refine(?_:(aQ D.m).length+1+1<64);exact DA hm b
 have q:((1:Int)::aQ D.m).length<64:=by refine(?_:(aQ D.m).length+1<64);exact DB hm b
 have f:(((1:Int)::aQ D.m).map T.int).length+[T.int k].length<=1000:=by rw[List.length_map];refine(?_:(aQ D.m).length+1+1<=1000);exact DC hm b
 have A:((1:Int)::aQ D.m).map T.int++[T.int k]=(((1:Int)::aQ D.m)++[k]).map T.int:=by refine rwm _ ?_ i5;rfl
 have q1:(R kL 44).ev (aY (a7 (aY (a7 (iJ 1)) 0)) 1) aH (bh D X (bF D g z u k) K l t G [.fz o,.dict [],.dict [],.dict [],.dict []])=some (.ok (.t (.dict (aB (D.order++[k]) (fF D.lk D.rows (c0 D.order g) k) (aI 0 D.m++[(.int k,dc cj)])))),bh D X (bF D g z u k) K l t G [.fz o,.dict [],.dict [],.dict [],.dict []]):=by
  refine ll ?_ ?_ e2 ?_ rfl rfl
  .rfl
  .refine cV u hu ?_ (λa i j=>?_)<;>lk
  .lk
 generalize aQ D.m=c at*;generalize aB (D.order++[k]) (fF D.lk D.rows (c0 D.order g) k) (aI 0 D.m++[(.int k,dc cj)])=m at*;generalize v:(((1:Int)::c)++[k])=U at*;generalize s:((1:Int)::c)=ys at*;have a1:(R kL 45).ev (aY (a7 (iJ 1)) 0) aH (bh D X (bF D g z u k) K l t G [.fz o,.dict [],.dict [],.dict [],.dict []])=some (.ok (.own 11),bh D X (bF D g z u k) K l t G [.fz o,.dict [],.dict [],.dict [],.dict [],.list (U.map T.int)]):=by
  refine aO ?_ ?_ (bx q1 cb) ?_ (Dd rfl p bd L)
  .rfl
  .lk
  .lk
 have q2:(R kL 43).ev (aY (a7 (aY (a7 (aY (a7 (iJ 1)) 1)) 0)) 1) aH (bh D X (bF D g z u k) K l t G [.fz o,.dict [],.dict [],.dict [],.dict [],.list (U.map T.int)])=some (.ok (.t (.dict (aB D.order (co D.base D.on D.off D.lk D.rows) (aI 0 D.m)))),bh D X (bF D g z u k) K l t G [.fz o,.dict [],.dict [],.dict [],.dict [],.list (U.map T.int)]):=by
  refine ll ?_ (ll (X:=cJ D) (C:=90) (fs:=[(S "data",.bytes #[]),(S "base",.none),(S "shelf",.box (.doc D) D.tree)]) (E:=bh D X (bF D g z u k) K l t G [.fz o,.dict [],.dict [],.dict [],.dict [],.list (U.map T.int)]) ?_ ?_ ?_ ?_ ?_ (wf e0)) e0 ?_ rfl rfl
  .rfl
  .rfl
  .lk
  .rfl
  .lk
  .lk
  .lk
 generalize aB D.order (co D.base D.on D.off D.lk D.rows) (aI 0 D.m)=r at*;have d:(R kL 44).ev (aY (a7 (aY (a7 (iJ 1)) 1)) 0) aH (bh D X (bF D g z u k) K l t G [.fz o,.dict [],.dict [],.dict [],.dict [],.list (U.map T.int)])=some (.ok (.own 12),bh D X (bF D g z u k) K l t G [.fz o,.dict [],.dict [],.dict [],.dict [],.list (U.map T.int),.list (ys.map T.int)]):=by
  refine aO ?_ ?_ (bx q2 cb) ?_ (Dd rfl n q I)
  .rfl
  .lk
  .lk
 have B:(R kL 45).ev (aY (a7 (iJ 1)) 1) aH (bh D X (bF D g z u k) K l t G [.fz o,.dict [],.dict [],.dict [],.dict [],.list (U.map T.int)])=some (.ok (.own 14),bh D X (bF D g z u k) K l t G [.fz o,.dict [],.dict [],.dict [],.dict [],.list (U.map T.int),.list (ys.map T.int),.list [.int k],.list (ys.map T.int++[.int k])]):=by
  refine go (u:= .own 13) (x:= .list (ys.map T.int)) (y:= .list [.int k]) (O2:=bh D X (bF D g z u k) K l t G [.fz o,.dict [],.dict [],.dict [],.dict [],.list (U.map T.int),.list (ys.map T.int),.list [.int k]]) d ?_ rfl rfl (CM f);refine cV u hu ?_ (λa i j=>?_)<;>lk
 refine AM a1 B (P0 rfl ?_);show some (T.list (ys.map T.int++[.int k]))=_;exact rwm _ rfl A
theorem Qa(h:D.Wf)(h0:D.st=0)(hu:fH u)(hl:nY l)(hk:23<=k/\k<=31)(hz:z=D.txt D.startF):∃M,(R kL 48).ex (bX 13) aH (bh D X (bF D g z u k) K l t G [.fz o,.dict [],.dict [],.dict []])=some (.ok (.ret (.t (.bool true))),M):=by
 refine ag (P5 (D:=D) (X:=X) (t:=t) (K:=K) (G:=G) (k:=k) (o:=o) (g:=g) (z:=z) hu hl (a:= .dead) (b:= .dead) (c:= .dead) (d:= .dead) (U:=(((1:Int)::aQ D.m)++[k]).map T.int) (ys:=((1:Int)::aQ D.m).map T.int) (m:=[.int k])) λM hc=>⟨M,eh ?_⟩;have e:(R kL 47).ev (bV (bX 13)) aH (bh D X (bF D g z u k) K l t G [.fz o,.dict [],.dict [],.dict []])=gR (R kL 46) aH .And [iJ 0,iJ 1,iJ 2] (bh D X (bF D g z u k) K l t G [.fz o,.dict [],.dict [],.dict []]):=rfl;refine e.trans (Dg (P4 h0 hu hz) (Dg (P9 h h0 hu hk) hc))
end
end Internal
end
noncomputable section
set_option maxHeartbeats 400000
namespace Internal
open PySem PySem.W PySem.Calls PyProof.Rows
theorem Qb(ns:List Int):eg ns≠[]/\(eg ns).length<=50:=by
 unfold eg;have hl:(ns.take 50).length<=50:=by refine rwm _ ?_ p5;exact Nat.min_le_left _ _
 cases e:ns.take 50 with
 |nil=>exact⟨List.cons_ne_nil _ _,by decide⟩
 |cons a l=>rw[e] at hl;exact⟨List.cons_ne_nil _ _,hl⟩
theorem Qc(ns:List Int):0<=fD ns/\fD ns<800:=by
 have h1:=sb ns;have h2:=vZ ns;have h3:=Nat.mul_le_mul h2 h1;unfold fD vV;have h4:(cQ ns:Int)*(mD ns:Int)=((cQ ns*mD ns:Nat):Int):=by simp
 refine rwm _ ?_ h4;exact Dt h1 h3
theorem Qd:ba (at_ 68)=[bX 0,bX 1,bX 2,bX 3,bX 4,bX 5,bX 6,bX 7,bX 8,bX 9,bX 10,bX 11,bX 12,bX 13]:=by lk
theorem Qe:CX:=by
 intro w b7 mb B r A l env ns L H s hk hR bb hA Q E hq;have d:aL PW (bU w B) 348 (R kL 48):=qO (hk kL) (OS w b7 mb B hk) 48;refine rwm _ ?_ Qd;refine bc λno=>aq (O7 bb) λn O cs=>wx cs λhn h0 e0 e1 e2 e3 e4 e5=>no (cB.cons d hR hA h0 λY k1=>ac (Qb ns) λdt ds=>?_);have k1:=cB.start k1 hn e0 e1 e2 e3 e4 e5;generalize c:ak ns=X at k1;clear e0 e1 e2 e3 e4 e5 h0;generalize eg ns=y at k1 dt ds;have k1:cB (bU w B) r l L H [] aH env (aX X [] none none none none (ak y) 0 []) Y:=
  k1.conv ⟨rfl,rfl,rfl,rfl,rfl,bG.cons (TC.box (TC.refl _) ⟨y,dt,ds,rfl,λ_ h=>nomatch h⟩) (bG.refl _),trivial⟩
 have i:=v5 y;have b:(cR y).st=0:=rfl;generalize hD:cR y=D at i b;refine cB.cons d hR k1 (Pf hD.symm) λs2 k2=>cB.cons d hR k2 Pg λs3 k3=>cB.cons d hR k3 Ph λs4 k4=>?_;have j:cW D (.dict [])=some D.f0:=by
  show some D.startF=_;exact rwm _ rfl (wr b)
 refine cB.cons d hR k4 (Pi b j) λs5 k5=>?_;refine bc λno=>hV (PG (X:=X) (o:= .dict []) (z:=cC D.order D.f0) i b dt ds j (Qc y)) λg K u I G cs=>bS cs λhg hu hl hi h5=>no (cB.cons d hR k5 h5 λs6 k6=>cB.cons d hR k6 (PJ hu hl) λs7 U=>cB.cons d hR U (PK hu b hg) λs8 C=>cB.cons d hR C (PL i hu b) λs9 k9=>cB.cons d hR k9 (PM hu dt ds (Du hi)) λb4 c5=>?_);have d9:=gC y G (m:=9) (by decide);have f:=Dv d9;generalize 23+drawn y G 9=k at c5 f;refine cB.cons d hR c5 (PN hu f) λb5 t=>cB.cons d hR t (PO hu f) λN J=>cB.cons d hR J (PZ i hu f) λb1 q=>?_;have hz:cC D.order D.f0=D.txt D.startF:=by rw[sJ (.inl b),wr b]
 refine ag (Qa i b hu hl f hz) λM v=>cB.ret d hR q v λs' b6 b2 x p S0 hv=>?_;have:x= .bool true:=by exact hv
 clear hv;subst this;exact hq s' b6 b2 M p S0
theorem law_ok:AG:=OT Qe
end Internal
end
noncomputable section
set_option maxHeartbeats 4000000
namespace Internal
open PySem PySem.W PySem.Calls PyProof.Rows
def Di:Prop:=∀(w:World)(s:Shared)(b7 mb:Str->Option Value)(ns:List Int)(x:Value),(∀c,gY (heap w.params) (bU w (hid s.heap)) (Pc c) b7 mb)->St (bU w (hid s.heap)) (λ_=>none) (hid s.heap).get? [] [] [] s.heap->
 ns.length<=63->TR w (hid s.heap).get? (ak ns) x->
 wpAny (model PW w) callerA (call (.ref 670) [x]) (λv s'=>v= .bool true/\∃g b2 O,bk s (hid s.heap).get? [] s' g b2/\St (bU w (hid s.heap)) (λ_=>none) g b2 [] O s'.heap) (λ_ _=>False) s
theorem Qf(b:Params):nsIn (heap b) 3 (oh (at_ 68))=some (some (.ref 670)):=by lk
theorem Dj{b:Params}{h:Heap}:∀{vs:List Value}{ns:List Int},WellAll b h vs (ns.map WData.int)->∀(w:World)(g:ay),TRs w g (ns.map T.int) vs
 |vs,[],h,w,g=>by cases h;rfl
 |vs,n::ns,h,w,g=>by
  cases h with
  |cons h1 h2=>
   cases h1;exact⟨_,_,rfl,by exact⟨_,rfl⟩,Dj h2 w g⟩
theorem Qg(ns:List Int):ofPy (PyData.list (ns.map PyData.int))=WData.list (ns.map WData.int):=by
 have h:∀ns:List Int,ofPys (ns.map PyData.int)=ns.map WData.int:=λns=>by
  induction ns with
  |nil=>simp [ofPys]
  |cons a l ih=>simp only[List.map_cons,ofPys,ofPy,ih]
 simp only[ofPy,h]
set_option tactic.hygienic true in
theorem Qh(H:Di):WalkO qv loose (XL qv []) (Hook.says hkZ) rowZ.toRowW ⟨oh (at_ 68),fg (at_ 68),ba (at_ 68),aV (at_ 68),posS (at_ 68)⟩ [] λf vs=>PySem.call f vs:=by
 intro w L cf b7 mb G Y u o pm c6 doc C B ho hdZ N hD i hg be q as b l p m k;have KX:=km_in_of Y;have hT:=km_tabs_of Y;have T:=G.T;have e1:=oT KX T.g (Qf _);have e2:=i;rw[e1] at e2;cases e2;clear ho hdZ N hD i
 wrow_args b l p m k
 rename_i ns I n r s bd w4 w3 a vs t M y d A hI hr hc ht
 have bi:=hT;have hx:TR w (hid cf.heap).get? (ak ns) (.ref a):=by
  rw[Qg] at d
  cases d with
  |list e1 e2=>
   rename_i j
   unfold ak;refine⟨a,j.toArray,0,rfl,qs _ e1 λhm=>?_,Dj e2 w _⟩;rw[bi a hm] at e1;cases e1
 refine ea (H w cf b7 mb ns (.ref a) (λc=>J4 T (by lk) KX bi) (J5 KX bi) (EP hc) hx) (λv s' z=>?_) λ_ _ z=>z.elim;(refine ac z λc2 D=>?_;clear z;subst c2;refine a9 D λg b2 O c3=>?_;clear D;refine ac c3 λc7 S=>?_;clear c3;rcases c7 with⟨⟨b5,tk,rfl⟩,p2,p3⟩);refine⟨.inl ⟨_,.bool true,[],rfl,λ_=>rfl,?_,?_,λ_=>⟨.nil,λ_ h=>nomatch h⟩⟩,J6 KX bi S,rfl,?_⟩
 .exact .bool true
 .lk
 .exact AllBare.of_eq hg
theorem holds_of(H:Di):PySem.Challenge.rw_pb0493_01.Holds:=Internal.hdZ (Qh H)
end Internal
end
theorem PySem.Challenge.cw_pb0493_01_holds : PySem.Challenge.rw_pb0493_01.Holds :=
 Internal.holds_of Internal.law_ok
