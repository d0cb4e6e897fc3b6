import PyProof.Rows.All
import Wide.All
import OpenK.AllK
import Wide.FinOn
import Lean
import PySem.Challenge.RW_pb0493_01
set_option Elab.async false
set_option linter.all false
set_option maxRecDepth 100000
set_option tactic.hygienic false
set_option bootstrap.genMatcherCode false
set_option backward.match.sparseCases false
set_option genSizeOf false
set_option genInjectivity false
set_option maxErrors 1000
local macro_rules | `(tactic|lk)=>`(tactic|kernel_rfl)
namespace Internal
open PySem PySem.W PySem.Calls PyProof.Rows
def ae:= @wpAny_bind
def ai:= @Option.some.inj
def ar:= @wpAny_pure
def a0:= @Eq.trans
def a2:= @Or.elim
def a3:= @Heap.get?_push_of_some
def a4:= @Nat.le_of_ble_eq_true
def a6:= @Nat.le_trans
def ea:= @Heap.get?_push_size
def eb:= @wpAny_mono
def ec:= @if_pos
def ej:= @Nat.le_of_eq
def en:= @Array.length_toList
def hy:= @wpAny_holding
def hG:= @List.mem_cons
def hK:= @of_decide_eq_true
def hL:= @List.mem_map
def hO:= @List.all_eq_true
def hQ:= @Nat.lt_of_le_of_lt
def hS:= @congrArg
def hW:= @List.getElem?_eq_getElem
def hX:= @if_neg
def hY:= @Nat.le_refl
def ii:= @Nat.eq_of_beq_eq_true
def iv:= @decide_eq_true
def ix:= @Nat.le_add_right
def i1:= @Nat.zero_le
def i2:= @Nat.succ_le_succ
def i5:= @Nat.le_of_lt_succ
def i6:= @List.map_append
def js:= @List.length_append
def ka:= @Heap.SameBut.update
def ko:= @Nat.lt_irrefl
def ks:= @Heap.get?_update_self
def kv:= @List.map_congr_left
def kV:= @Int.lt_of_le_of_lt
def le:= @wpAny_standAt
def li:= @decide_eq_false
def ln:= @List.length_map
def lt:= @List.filterMap_eq_map'
def lv:= @Array.getElem?_eq_getElem
def l3:= @Nat.le_of_lt
def l4:= @Nat.le_succ_of_le
def mc:= @wpAny_loadPart_at
def md:= @List.map_map
def mi:= @ne_true_of_eq_false
def mm:= @Nat.ne_of_lt
def ms:= @Heap.lt_size
def nf:= @sizeLine_eq
def ni:= @List.lookup_cons
def nr:= @beq_iff_eq
def oc:= @List.nodup_cons
def oe:= @List.length_set
def ot:= @Nat.le_add_left
def ov:= @codeAny_mono
def ow:= @F.entry_str_split
def o2:= @List.map_cons
def o3:= @F.excBase_Exception
def pa:= @wpAny_isSubtype_exc
def pb:= @Int.eq_ofNat_of_zero_le
def pc:= @F.slot_str_split
def pk:= @Nat.le_succ
def po:= @Array.getElem?_toList
def pv:= @List.getElem?_map
def pB:= @Heap.get?_none_of_le
def p4:= @wpAny_field
def p5:= @List.getElem?_set_ne
def p6:= @List.getLast?_concat
def p7:= @congrFun
def p8:= @List.length_take
def p9:= @Classical.byContradiction
def qn:= @List.filterMap_cons_some
def qq:= @F.slot_list_getattribute
def qs:= @List.mem_append
def qu:= @List.mem_filter
def q0:= @List.mem_cons_self
def ra:= @wpAny_load
def rp:= @hideAll_get
def rv:= @Value.isInt_shape
def r0:= @wpAny_truthy_bool
def r6:= @List.range_succ_eq_map
def r8:= @wpAny_newObj_type
def r9:= @wpAny_loadPart
def si:= @List.take_of_length_le
def sq:= @List.forIn_nil
def ss:= @List.length_cons
def sz:= @List.map_fst_zip
def s0:= @call_meets
def s1:= @wpAny_call
def ti:= @codeHd_of_K
end Internal
noncomputable section
namespace Internal
theorem bc{p:Prop}(h:¬p->False):p:=p9 h
theorem ag{c:Sort _}{p:c->Prop}{P:Prop}(h:∃i,p i)(k:∀i,p i->P):P:=h.elim k
theorem aq{c:Sort _}{d:Sort _}{p:c->d->Prop}{P:Prop}(h:∃i E,p i E)(k:∀i E,p i E->P):P:=h.elim λx h=>ag h (k x)
theorem a9{c:Sort _}{d:Sort _}{g:Sort _}{p:c->d->g->Prop}{P:Prop}(h:∃i E b,p i E b)(k:∀i E b,p i E b->P):P:=h.elim λx h=>aq h (k x)
theorem bH{c:Sort _}{d:Sort _}{g:Sort _}{l:Sort _}{p:c->d->g->l->Prop}{P:Prop}(h:∃i E b f,p i E b f)(k:∀i E b f,p i E b f->P):P:=h.elim λx h=>a9 h (k x)
theorem hZ{c:Sort _}{d:Sort _}{g:Sort _}{l:Sort _}{j:Sort _}{p:c->d->g->l->j->Prop}{P:Prop}(h:∃i E b f n,p i E b f n)(k:∀i E b f n,p i E b f n->P):P:=h.elim λx h=>bH h (k x)
theorem DM{c:Sort _}{d:Sort _}{g:Sort _}{l:Sort _}{j:Sort _}{m:Sort _}{p:c->d->g->l->j->m->Prop}{P:Prop}(h:∃i E b f n r,p i E b f n r)(k:∀i E b f n r,p i E b f n r->P):P:=h.elim λx h=>hZ h (k x)
theorem mH{c:Sort _}{d:Sort _}{g:Sort _}{l:Sort _}{j:Sort _}{m:Sort _}{q:Sort _}{p:c->d->g->l->j->m->q->Prop}{P:Prop}(h:∃i E b f n r o,p i E b f n r o)(k:∀i E b f n r o,p i E b f n r o->P):P:=h.elim λx h=>DM h (k x)
theorem ac{p1 p2 P:Prop}(h:p1/\p2)(k:p1->p2->P):P:=k h.1 h.2
theorem aw{p1 p2 p3 P:Prop}(h:p1/\p2/\p3)(k:p1->p2->p3->P):P:=ac h.2 (k h.1)
theorem bK{p1 p2 p3 j P:Prop}(h:p1/\p2/\p3/\j)(k:p1->p2->p3->j->P):P:=aw h.2 (k h.1)
theorem bS{p1 p2 p3 j H P:Prop}(h:p1/\p2/\p3/\j/\H)(k:p1->p2->p3->j->H->P):P:=bK h.2 (k h.1)
theorem dc{p1 p2 p3 j H m P:Prop}(h:p1/\p2/\p3/\j/\H/\m)(k:p1->p2->p3->j->H->m->P):P:=bS h.2 (k h.1)
theorem mI{p1 p2 p3 j H m f P:Prop}(h:p1/\p2/\p3/\j/\H/\m/\f)(k:p1->p2->p3->j->H->m->f->P):P:=dc h.2 (k h.1)
theorem wX{p1 p2 p3 j H m f b P:Prop}(h:p1/\p2/\p3/\j/\H/\m/\f/\b)(k:p1->p2->p3->j->H->m->f->b->P):P:=mI h.2 (k h.1)
theorem DN{p1 p2 p3 j H m f b c P:Prop}(h:p1/\p2/\p3/\j/\H/\m/\f/\b/\c)(k:p1->p2->p3->j->H->m->f->b->c->P):P:=wX h.2 (k h.1)
theorem DO{p1 p2 p3 j H m f b c d P:Prop}(h:p1/\p2/\p3/\j/\H/\m/\f/\b/\c/\d)(k:p1->p2->p3->j->H->m->f->b->c->d->P):P:=DN h.2 (k h.1)
theorem al{c:Sort _}{p1 p2:c->Prop}{P:Prop}(h:∃i,p1 i/\p2 i)(k:∀i,p1 i->p2 i->P):P:=ag h λi h=>ac h (k i)
theorem cD{c:Sort _}{p1 p2 p3:c->Prop}{P:Prop}(h:∃i,p1 i/\p2 i/\p3 i)(k:∀i,p1 i->p2 i->p3 i->P):P:=ag h λi h=>aw h (k i)
theorem cS{c:Sort _}{d:Sort _}{p1 p2:c->d->Prop}{P:Prop}(h:∃i E,p1 i E/\p2 i E)(k:∀i E,p1 i E->p2 i E->P):P:=aq h λi E h=>ac h (k i E)
theorem b9{c:Sort _}{d:Sort _}{p1 p2 p3:c->d->Prop}{P:Prop}(h:∃i E,p1 i E/\p2 i E/\p3 i E)(k:∀i E,p1 i E->p2 i E->p3 i E->P):P:=aq h λi E h=>aw h (k i E)
theorem mJ{c:Sort _}{d:Sort _}{p1 p2 p3 j:c->d->Prop}{P:Prop}(h:∃i E,p1 i E/\p2 i E/\p3 i E/\j i E)(k:∀i E,p1 i E->p2 i E->p3 i E->j i E->P):P:=aq h λi E h=>bK h (k i E)
theorem lz{c:Sort _}{d:Sort _}{p1 p2 p3 j H:c->d->Prop}{P:Prop}(h:∃i E,p1 i E/\p2 i E/\p3 i E/\j i E/\H i E)(k:∀i E,p1 i E->p2 i E->p3 i E->j i E->H i E->P):P:=aq h λi E h=>bS h (k i E)
theorem h8{c:Sort _}{d:Sort _}{p1 p2 p3 j H m:c->d->Prop}{P:Prop}(h:∃i E,p1 i E/\p2 i E/\p3 i E/\j i E/\H i E/\m i E)(k:∀i E,p1 i E->p2 i E->p3 i E->j i E->H i E->m i E->P):P:=aq h λi E h=>dc h (k i E)
theorem j2{c:Sort _}{d:Sort _}{p1 p2 p3 j H m f:c->d->Prop}{P:Prop}(h:∃i E,p1 i E/\p2 i E/\p3 i E/\j i E/\H i E/\m i E/\f i E)(k:∀i E,p1 i E->p2 i E->p3 i E->j i E->H i E->m i E->f i E->P):P:=aq h λi E h=>mI h (k i E)
theorem d0{c:Sort _}{d:Sort _}{g:Sort _}{p1 p2:c->d->g->Prop}{P:Prop}(h:∃i E b,p1 i E b/\p2 i E b)(k:∀i E b,p1 i E b->p2 i E b->P):P:=a9 h λi E b h=>ac h (k i E b)
theorem h9{c:Sort _}{d:Sort _}{g:Sort _}{p1 p2 p3:c->d->g->Prop}{P:Prop}(h:∃i E b,p1 i E b/\p2 i E b/\p3 i E b)(k:∀i E b,p1 i E b->p2 i E b->p3 i E b->P):P:=a9 h λi E b h=>aw h (k i E b)
theorem ch{c:Sort _}{d:Sort _}{g:Sort _}{p1 p2 p3 j:c->d->g->Prop}{P:Prop}(h:∃i E b,p1 i E b/\p2 i E b/\p3 i E b/\j i E b)(k:∀i E b,p1 i E b->p2 i E b->p3 i E b->j i E b->P):P:=a9 h λi E b h=>bK h (k i E b)
theorem dp{c:Sort _}{d:Sort _}{g:Sort _}{p1 p2 p3 j H:c->d->g->Prop}{P:Prop}(h:∃i E b,p1 i E b/\p2 i E b/\p3 i E b/\j i E b/\H i E b)(k:∀i E b,p1 i E b->p2 i E b->p3 i E b->j i E b->H i E b->P):P:=a9 h λi E b h=>bS h (k i E b)
theorem tm{c:Sort _}{d:Sort _}{g:Sort _}{p1 p2 p3 j H m:c->d->g->Prop}{P:Prop}(h:∃i E b,p1 i E b/\p2 i E b/\p3 i E b/\j i E b/\H i E b/\m i E b)(k:∀i E b,p1 i E b->p2 i E b->p3 i E b->j i E b->H i E b->m i E b->P):P:=a9 h λi E b h=>dc h (k i E b)
theorem cT{c:Sort _}{d:Sort _}{g:Sort _}{l:Sort _}{p1 p2:c->d->g->l->Prop}{P:Prop}(h:∃i E b f,p1 i E b f/\p2 i E b f)(k:∀i E b f,p1 i E b f->p2 i E b f->P):P:=bH h λi E b f h=>ac h (k i E b f)
theorem oq{c:Sort _}{d:Sort _}{g:Sort _}{l:Sort _}{p1 p2 p3 j H:c->d->g->l->Prop}{P:Prop}(h:∃i E b f,p1 i E b f/\p2 i E b f/\p3 i E b f/\j i E b f/\H i E b f)(k:∀i E b f,p1 i E b f->p2 i E b f->p3 i E b f->j i E b f->H i E b f->P):P:=bH h λi E b f h=>bS h (k i E b f)
theorem tn{c:Sort _}{d:Sort _}{g:Sort _}{l:Sort _}{p1 p2 p3 j H m:c->d->g->l->Prop}{P:Prop}(h:∃i E b f,p1 i E b f/\p2 i E b f/\p3 i E b f/\j i E b f/\H i E b f/\m i E b f)(k:∀i E b f,p1 i E b f->p2 i E b f->p3 i E b f->j i E b f->H i E b f->m i E b f->P):P:=bH h λi E b f h=>dc h (k i E b f)
end Internal
theorem Internal.okp{α β:Type}{a b:α}{O M:β}{c:Type}(h:some (Except.ok (ε:=c) a,O)=some (Except.ok b,M)):a=b/\O=M:=by cases h;exact⟨rfl,rfl⟩
theorem Internal.eop{α β:Type}{a:α}{c:Type}{b:c}{O M:β}{P:Prop}(h:some (Except.error (α:=c) a,O)=some (Except.ok b,M)):P:=by cases h
theorem Internal.oep{α β:Type}{a:α}{c:Type}{b:c}{O M:β}{P:Prop}(h:some (Except.ok b,O)=some (Except.error (α:=c) a,M)):P:=by cases h
theorem Internal.oke{α:Type}{a b:α}{c:Type}(h:(Except.ok (ε:=c) a)=Except.ok b):a=b:=by cases h;rfl
theorem Internal.ere{α:Type}{a b:α}{c:Type}(h:(Except.error (α:=c) a)=Except.error b):a=b:=by cases h;rfl
theorem Internal.eoe{α:Type}{a:α}{c:Type}{b:c}{P:Prop}(h:Except.error (α:=c) a=Except.ok b):P:=by cases h
theorem Internal.oee{α:Type}{a:α}{c:Type}{b:c}{P:Prop}(h:Except.ok b=Except.error (α:=c) a):P:=by cases h
theorem Internal.nso{α:Type}{a:α}{P:Prop}(h:none=some a):P:=by cases h
theorem Internal.sno{α:Type}{a:α}{P:Prop}(h:some a=none):P:=by cases h
theorem Internal.tff{P:Prop}(h:true=false):P:=by cases h
theorem Internal.ftf{P:Prop}(h:false=true):P:=by cases h
theorem Internal.pri{α β:Type}{a b:α}{c d:β}(h:(a,c)=(b,d)):a=b/\c=d:=by cases h;exact⟨rfl,rfl⟩
end
noncomputable section
@[elab_as_elim] theorem Internal.rwm{α:Sort _}(a:α){b:α}{P:α->Prop}(k:P b)(h:a=b):P a:=h▸k
@[elab_as_elim] theorem Internal.rwl{α:Sort _}(a:α){b:α}{P:α->Prop}(k:P b)(h:b=a):P a:=h▸k
namespace Internal
section
theorem lB{a n m:Nat}(h:a<=n)(k:Nat.ble n m=true):a<=m:=a6 h (a4 k)
theorem lC{a n m:Nat}(h:a<=n)(k:Nat.ble (n+1) m=true):a<m:=hQ h (a4 k)
theorem mK{a:Int}{n:Nat}(h:0<=a)(k:a<(n:Int)):a.natAbs<n:=Int.ofNat_lt.mp (by rw[Int.natAbs_of_nonneg h];exact k)
theorem qb{a:Int}{n:Nat}(h:0<=a)(k:a<(n:Int)):a.toNat<n:=(Int.toNat_lt h).mpr k
theorem qc(n:Nat):(10:Int)<=10+3*(n:Int):=Int.le_add_of_nonneg_right (Int.mul_nonneg (by decide) (Int.natCast_nonneg n))
theorem ou{b n:Nat}{k:Int}(h:b<=n)(hk:10+3*(n:Int)<=k):10<=10+3*(b:Int)/\10+3*(b:Int)<=k:=⟨qc b,Int.le_trans (Int.add_le_add_left (Int.mul_le_mul_of_nonneg_left (Int.ofNat_le.mpr h) (by decide)) 10) hk⟩
theorem wY{a b:Nat}(h:10+3*(a:Int)=10+3*(b:Int)):a=b:=Int.ofNat.inj (Int.eq_of_mul_eq_mul_left (by decide:(3:Int)≠0) (Int.add_left_cancel h))
theorem wZ{n:Nat}(h:10+3*(n:Int)=1):False:=absurd (h▸qc n) (by decide)
theorem w0{b c d e f m:Nat}(h:b<=c+d+e+m*f)(k:d+e<=m):b<=c+m*(f+1):=a6 h (by rw[Nat.mul_succ,Nat.add_comm (m*f),<-Nat.add_assoc,Nat.add_assoc c d e];exact Nat.add_le_add_right (Nat.add_le_add_left k c) _)
theorem lA{n a:Nat}{P:Prop}(h:n<=a)(k:n+1<=a->P):a=n\/P:=(Nat.eq_or_lt_of_le h).imp Eq.symm k
theorem oy{k n a:Nat}(h:n<=a)(q:k<n):¬k=a:=mm (Nat.lt_of_lt_of_le q h)
variable {a b c d e f g:Nat}{i j k:Int}
theorem DQ(h0:a<100):a<1000:=lB h0 rfl
theorem DR(h0:a<=5):a<100:=lC h0 rfl
theorem qd(h0:(a+(b+1))<100):a<100:=hQ (ix _ _) h0
theorem to(h0:((10:Int)<=i/\i<=31)):((0:Int)<=i/\i<=31):=⟨Int.le_trans (by decide) h0.1,h0.2⟩
theorem tq(h0:(a+(b+1))<=5):a<100:=lC (a6 (ix _ _) h0) rfl
theorem tw(h0:a<=2):(a=0\/(a=1\/a=2)):=lA (i1 a) λh=>lA h λh=>Nat.le_antisymm h0 h
theorem tx(h0:((10:Int)<=i/\i<=19)):((10:Int)<=i/\i<=31):=⟨h0.1,Int.le_trans h0.2 (by decide)⟩
theorem tA(h0:((0:Int)<=i/\i<=31)):i.natAbs<1000000:=mK h0.1 (kV h0.2 (by decide))
theorem w5(h0:((10:Int)<=i/\i<=31)):i.natAbs<1000000:=mK (Int.le_trans (by decide) h0.1) (kV h0.2 (by decide))
theorem w8(h0:a<5):((0:Int)<=(10+(3*(a:Int)))/\(10+(3*(a:Int)))<=31):=⟨Int.le_trans (by decide) (qc a),(ou (i5 h0) (by decide)).2⟩
theorem DS(h0:a<5):a<6:=l4 h0
theorem DT(h0:a<2):a<5:=lB h0 rfl
theorem DU(h0:a=b)(h1:c<b):c<a:=h0▸h1
theorem DV(h0:a=b)(h1:a=c)(h2:d<b):d<c:=by rw[<-h1,h0];exact h2
theorem xb(h0:a<=4):((0:Int)<=(a:Int)/\(a:Int)<=31):=⟨Int.natCast_nonneg _,Int.le_trans (Int.ofNat_le.mpr h0) (by decide)⟩
theorem xd(h0:a<=10)(h1:b=5)(h2:c=7):((b+a)+c)<=1000:=a6 (Nat.add_le_add (Nat.add_le_add (ej h1) h0) (ej h2)) (a4 rfl)
theorem xe(h0:((a+1)+(2*b))<=998):a<1000:=hQ (a6 (a6 (ix _ _) (ix _ _)) h0) (a4 rfl)
theorem xf(h0:((23:Int)<=i/\i<=31)):((0:Int)<=i/\i<=31):=⟨Int.le_trans (by decide) h0.1,h0.2⟩
theorem xg(h0:((23:Int)<=i/\i<=31)):i.natAbs<1000000:=mK (Int.le_trans (by decide) h0.1) (kV h0.2 (by decide))
theorem xh(h0:((23:Int)<=i/\i<=31)):(((i - 23):Int).toNat)<9:=qb (Int.sub_nonneg_of_le h0.1) (kV (Int.sub_le_sub_right h0.2 23) (by decide))
theorem xi(h0:((23:Int)<=i/\i<=31)):i=(23+(((((i - 23):Int).toNat):Nat):Int)):=((hS (23+·) (Int.toNat_of_nonneg (Int.sub_nonneg_of_le h0.1))).trans ((Int.add_comm _ _).trans (Int.sub_add_cancel i 23))).symm
theorem xj(h0:((10:Int)<=i/\i<=19)):((0:Int)<=i/\i<=31):=⟨Int.le_trans (by decide) h0.1,Int.le_trans h0.2 (by decide)⟩
theorem xk(h0:(a+(b+1))=c):a<c:=h0▸Nat.lt_add_of_pos_right (Nat.succ_pos _)
theorem xm(h0:a=(b - c))(h1:c<b):(b - (c+1))<a:=h0▸Nat.sub_lt_sub_left h1 (Nat.lt_succ_self c)
theorem DW(h0:a<=4)(h1:b<=(2*4)):((0:Int)<=((4+(3*(a:Int)))+(b:Int))/\((4+(3*(a:Int)))+(b:Int))<800):=⟨Int.add_nonneg (Int.add_nonneg (by decide) (Int.mul_nonneg (by decide) (Int.natCast_nonneg a))) (Int.natCast_nonneg b),kV (Int.add_le_add (Int.add_le_add_left (Int.mul_le_mul_of_nonneg_left (Int.ofNat_le.mpr h0) (by decide)) 4) (Int.ofNat_le.mpr h1)) (by decide)⟩
theorem DX(h0:((0:Int)<=i/\i<900)):((0:Int)<=i/\i<1000):=⟨h0.1,Int.lt_trans h0.2 (by decide)⟩
theorem DY(h0:((0:Int)<=i/\i<9)):((23:Int)<=(23+i)/\(23+i)<=31):=⟨Int.le_add_of_nonneg_right h0.1,Int.le_trans (Int.add_le_add_left (Int.le_of_lt_add_one (show i<8+1 from h0.2)) 23) (by decide)⟩
theorem DZ(h0:a<b):(10+(3*(a:Int)))<=(10+(3*(b:Int))):=Int.add_le_add_left (Int.mul_le_mul_of_nonneg_left (Int.ofNat_le.mpr (l3 h0)) (by decide)) 10
theorem D0:(1:Int)<=(10+(3*(a:Int))):=Int.le_trans (by decide) (qc a)
theorem D1(h0:((23:Int)<=i/\i<=31)):(1:Int)<=i:=Int.le_trans (by decide) h0.1
theorem D2(h0:((23:Int)<=i/\i<=31))(h1:a<b)(h2:b<=4):(10+(3*(a:Int)))<=i:=Int.le_trans (ou (i5 (Nat.lt_of_lt_of_le h1 h2)) (by decide:10+3*((3:Nat):Int)<=23)).2 h0.1
theorem D3(h0:a<=4)(h1:b=a):((b+1)+1)<64:=hQ (i2 (i2 (a6 (ej h1) h0))) (a4 rfl)
theorem D4(h0:a<=4)(h1:b=a):(b+1)<64:=hQ (i2 (a6 (ej h1) h0)) (a4 rfl)
theorem D5(h0:a<=4)(h1:b=a):((b+1)+1)<=1000:=hQ (i2 (a6 (ej h1) h0)) (a4 rfl)
theorem D6(h0:a<=100)(h1:b<=(0+(110*a)))(h2:c=16777216):(¬b>c):=Nat.not_lt.mpr (a6 (a6 h1 (a6 (Nat.add_le_add_left (Nat.mul_le_mul_left 110 h0) 0) (a4 rfl))) (ej h2.symm))
theorem QQ(h0:(((((a+1)+1)+1)+1)+1)<=4):False:=Nat.not_succ_le_zero a (Nat.le_of_add_le_add_right (b:=4) h0)
theorem D7(h0:((0:Int)<=i/\i<2))(h1:(¬i=1)):i=0:=Int.le_antisymm (Int.le_of_lt_add_one (show i<0+1 from Int.lt_iff_le_and_ne.mpr ⟨Int.le_of_lt_add_one (show i<1+1 from h0.2),h1⟩)) h0.1
theorem D8(h0:a=b)(h1:b<=2):a<=2:=h0▸h1
theorem D9(h0:(a+1)=(b - c)):c<b:=Nat.lt_of_sub_pos (h0▸Nat.succ_pos a)
theorem Ea(h0:a<=b)(h1:(c+1)=(a - d))(h2:e<=d):e<=b:=a6 h2 (a6 (l3 (Nat.lt_of_sub_pos (h1▸Nat.succ_pos c))) h0)
theorem Eb(h0:(a+1)=(b - c)):a=(b - (c+1)):=(hS Nat.pred h0).trans (Nat.sub_add_eq b c 1).symm
theorem Ec(h0:((0:Int)<=i/\i<900)):i<1000:=Int.lt_trans h0.2 (by decide)
theorem Ed(h0:((0:Int)<=i/\i<900)):(i+1)<1000:=Int.add_lt_add_right h0.2 1|>λh=>Int.lt_trans h (by decide)
theorem Ee(h0:a=b)(h1:c=d)(h2:a=c):b=d:=by rw[<-h1,<-h0];exact h2
theorem Ef(h0:a=b)(h1:c=d)(h2:(¬a=c)):b≠d:=by rw[<-h1,<-h0];exact h2
theorem Eg(h0:a<=b)(h1:b=(c+d))(h2:c=((b - a)+e)):a=(e+d):=Nat.add_left_cancel ((Nat.sub_add_cancel h0).trans (h1.trans ((hS (·+d) h2).trans (Nat.add_assoc _ _ _))))
theorem Eh(h0:a<=b)(h1:b<=(a+c)):(a+(c - (c - (b - a))))=b:=by rw[Nat.sub_sub_self (Nat.sub_le_iff_le_add'.mpr h1),Nat.add_sub_cancel' h0]
theorem Ej(h0:a<b)(h1:i=(10+(3*(a:Int))))(h2:b<=4):((10:Int)<=i/\i<=19):=h1▸ou (i5 (Nat.lt_of_lt_of_le h0 h2)) (by decide)
theorem Ek(h0:i=j)(h1:((23:Int)<=j/\j<=31)):((10:Int)<=i/\i<=31):=h0▸⟨Int.le_trans (by decide) h1.1,h1.2⟩
theorem El(h0:((0:Int)<=i/\i<900))(h1:a<50)(h2:b<a):((0:Int)<=(i+(b:Int))/\(i+(b:Int))<1000):=⟨Int.add_nonneg h0.1 (Int.natCast_nonneg b),Int.lt_trans (Int.add_lt_add h0.2 (Int.ofNat_lt.mpr (Nat.lt_trans h2 h1))) (by decide)⟩
theorem Em(h0:a<1000)(h1:(a:Int)=(b:Int)):(((b:Int):Int).natAbs)<1000000:=show b<1000000 from Int.ofNat.inj h1▸Nat.lt_of_lt_of_le h0 (a4 rfl)
theorem En:((a+1)+1)≠a:=Nat.ne_of_gt (Nat.lt_succ_of_le (pk a))
theorem Eo(h0:a<=5)(h1:b<=(((c+d)+e)+(35*f)))(h2:g<=30)(h3:e=g)(h4:d=a):b<=(c+(35*(f+1))):=w0 h1 (Nat.add_le_add (a6 (ej h4) h0) (a6 (ej h3) h2))
theorem Er(h0:a<=(b+(35*c)))(h1:d<=30)(h2:b=d):a<=(35*(c+1)):=by rw[Nat.mul_succ,Nat.add_comm];exact a6 h0 (Nat.add_le_add_right (a6 (ej h2) (a6 h1 (a4 rfl))) _)
theorem Es(h0:a=4):a<=200:=h0▸(a4 rfl)
theorem xn(h0:((23:Int)<=i/\i<=31))(h1:((10:Int)<=j/\j<=19))(h2:j=i):False:=absurd (Int.le_trans h0.1 (h2▸h1.2)) (by decide)
theorem Et(h0:((23:Int)<=i/\i<=31))(h1:((10:Int)<=i/\i<=19)):False:=absurd (Int.le_trans h0.1 h1.2) (by decide)
theorem Eu(h0:a<=200)(h1:b=1)(h2:c<=30):((a+b)+c)<=1000:=a6 (Nat.add_le_add (Nat.add_le_add h0 (ej h1)) h2) (a4 rfl)
theorem Ev(h0:a<=4):(((a:Int):Int).natAbs)<1000000:=show a<1000000 from hQ h0 (a4 rfl)
theorem Ew(h0:(a+(2*(b+1)))<=998):((a+1)+(2*b))<=998:=a6 (a6 (ej (Nat.add_right_comm a 1 (2*b))) (pk _)) h0
theorem Ex(h0:(a+(8*(b+1)))<=9800):((a+3)+(8*b))<=9800:=a6 (a6 (ej (Nat.add_right_comm a 3 (8*b))) (Nat.add_le_add_left (a4 rfl:3<=8) _)) h0
theorem Ey(h0:(10+(3*(((0+a):Nat):Int)))=i):i=(10+(3*(a:Int))):=by rw[<-h0,Nat.zero_add]
theorem Ez(h0:a<9):(22+a)<=30:=i5 (Nat.lt_of_lt_of_le (Nat.add_lt_add_left h0 _) (a4 rfl))
theorem EA(h0:a<=4)(h1:b<a):((10:Int)<=(10+(3*(b:Int)))/\(10+(3*(b:Int)))<=19):=ou (i5 (Nat.lt_of_lt_of_le h1 h0)) (by decide)
theorem EB(h0:(23+(a:Int))=1):False:=Nat.ne_of_gt (Nat.lt_of_lt_of_le (a4 rfl:1<23) (ix 23 a)) (Int.ofNat.inj h0)
theorem EC(h0:((10:Int)<=(23+(a:Int))/\(23+(a:Int))<=19)):False:=absurd (Int.le_trans (Int.le_add_of_nonneg_right (Int.natCast_nonneg a)) h0.2:(23:Int)<=19) (by decide)
theorem ED(h0:a<(22+b))(h1:(23+(b:Int))=(1+(a:Int))):False:=mm (Nat.lt_of_lt_of_eq (Nat.add_lt_add_left h0 1) (Nat.add_assoc 1 22 b).symm) (Int.ofNat.inj h1.symm)
theorem EE:(23+(a:Int))=(1+(((22+a):Nat):Int)):=hS Int.ofNat (Nat.add_assoc 1 22 a)
theorem EF(h0:i=(23+(a:Int)))(h1:b<(22+a))(h2:i=(1+(b:Int))):False:=mm (Nat.lt_of_lt_of_eq (Nat.add_lt_add_left h1 1) (Nat.add_assoc 1 22 a).symm) (Int.ofNat.inj (h2.symm.trans h0))
theorem EG(h0:a<=4)(h1:b<=30):(((a+b)+1)+1)<900:=hQ (i2 (i2 (Nat.add_le_add h0 h1))) (a4 rfl)
theorem EH(h0:a<9):((0:Int)<=(23+(a:Int))/\(23+(a:Int))<=31):=⟨Int.natCast_nonneg (23+a),Int.ofNat_le.mpr (Nat.add_le_add_left (i5 h0) 23)⟩
theorem EI(h0:((10:Int)<=i/\i<=19))(h1:j=(23+(a:Int))):i≠j:=λh=>absurd (Int.le_trans (Int.le_add_of_nonneg_right (Int.natCast_nonneg a)) ((h.trans h1)▸h0.2:23+(a:Int)<=19)) (by decide)
theorem EJ(h0:a=6):(0:Nat)<a:=h0▸(a4 rfl)
theorem EK(h0:((10:Int)<=i/\i<=19)):i.natAbs<1000000:=mK (Int.le_trans (by decide) h0.1) (kV h0.2 (by decide))
theorem EL(h0:(0:Int)<=i)(h1:i<1000):i.natAbs<(2^10):=Nat.lt_of_lt_of_le (mK (n:=1000) h0 h1) (a4 rfl)
theorem EM(h0:(0:Int)<i)(h1:i<=50)(h2:a<=i.natAbs):((a/30)+1)<=300:=i2 (a6 (Nat.div_le_self a 30) (a6 h2 (l3 (mK (n:=299) (Int.le_of_lt h0) (kV h1 (by decide))))))
theorem EN:(0:Int)<=7:=by decide
theorem EO:(7:Int)<1000:=by decide
theorem EP:(¬(2:Int)=0):=by decide
theorem EQ(h0:a<=b)(h1:(c+(2*b))<=998):(c+(2*a))<=998:=a6 (Nat.add_le_add_left (Nat.mul_le_mul_left 2 h0) c) h1
theorem ES(h0:a<=b)(h1:(c+(8*b))<=9800):(c+(8*a))<=9800:=a6 (Nat.add_le_add_left (Nat.mul_le_mul_left 8 h0) c) h1
theorem ET(h0:(a+(2*(b+1)))<=998):(((a+1)+1)+(2*b))<=998:=a6 (ej (Nat.add_right_comm a 2 (2*b))) h0
theorem EU(h0:(a+(8*(b+1)))<=9800):(((a+1)+3)+(8*b))<=9800:=a6 (a6 (ej (Nat.add_right_comm a 4 (8*b))) (Nat.add_le_add_left (a4 rfl:4<=8) _)) h0
theorem EV(h0:(a+(b+1))<=c):((a+1)+b)<=c:=ej (Nat.add_right_comm _ _ _)|>λh=>a6 h h0
theorem EW:(0+a)<=a:=ej (Nat.zero_add a)
theorem EY(h0:a<64)(h1:a=b):b<=16777216:=h1▸a6 (l3 h0) (a4 rfl)
theorem EZ(h0:a<64)(h1:a=b)(h2:c=b):c<64:=(h2.trans h1.symm).symm▸h0
theorem E1:(((0:Int)<=((-1)+((a:Int)+1))/\((-1)+((a:Int)+1))<((a:Int)+1))/\((((-1)+((a:Int)+1)):Int).toNat)=a):=by rw[Int.add_comm (-1),Int.add_neg_cancel_right];exact⟨⟨Int.natCast_nonneg a,Int.lt_add_one_of_le (Int.le_refl _)⟩,rfl⟩
theorem E2(h0:(5:Nat)<=a):((¬(0:Nat)=a)/\((¬(1:Nat)=a)/\((¬(2:Nat)=a)/\((¬(3:Nat)=a)/\(¬(4:Nat)=a))))):=⟨oy h0 (by decide),oy h0 (by decide),oy h0 (by decide),oy h0 (by decide),oy h0 (by decide)⟩
theorem E3(h0:a<6):(a=0\/(a=1\/(a=2\/(a=3\/(a=4\/a=5))))):=lA (i1 a) λh=>lA h λh=>lA h λh=>lA h λh=>lA h λh=>Nat.le_antisymm (i5 h0) h
theorem E4:(0:Nat)≠(5+a):=mm (Nat.lt_of_lt_of_le (a4 rfl:0<5) (ix 5 a))
theorem E5(h0:((0:Int)<=i/\i<800)):i<1000:=Int.lt_trans h0.2 (by decide)
theorem E6(h0:i.toNat<5)(h1:i.toNat=(a+(b+1))):a<5:=hQ (a6 (ix a _) (ej h1.symm)) h0
theorem xo(h0:((0:Int)<=i/\i<800))(h1:a<5):((0:Int)<=((i+1)+(2*(a:Int)))/\((i+1)+(2*(a:Int)))<900):=⟨Int.add_nonneg (Int.le_add_one h0.1) (Int.mul_nonneg (by decide) (Int.natCast_nonneg a)),Int.lt_of_lt_of_le (Int.add_lt_add (Int.add_lt_add_right h0.2 1) (Int.mul_lt_mul_of_pos_left (Int.ofNat_lt.mpr h1) (by decide))) (by decide)⟩
theorem E7:((((i+1)+(2*(a:Int)))+1)+1)=((i+1)+(2*((a:Int)+1))):=(Int.add_assoc (i+1+2*(a:Int)) 1 1).trans ((Int.add_assoc (i+1) (2*(a:Int)) (1+1)).trans (hS (i+1+·) (Int.mul_add 2 (a:Int) 1).symm))
theorem E8(h0:a=b)(h1:(((0:Int)<=i/\i<(a:Int))/\i<(2^63))):i<(b:Int):=h0▸h1.1.2
theorem E9(h0:a<=b)(h1:b<=c)(h2:d=a):d<=c:=h2▸a6 h0 h1
theorem Fa(h0:a<=b)(h1:c=(a+1))(h2:d=(b+1)):c<=d:=a6 (ej h1) (a6 (i2 h0) (ej h2.symm))
theorem Fb(h0:(a+(b+1))<=1000):((a+1)+b)<=1000:=ej (Nat.add_right_comm _ _ _)|>λh=>a6 h h0
theorem Fc:(max 0 (min 50 (a:Int)))=(((min 50 a):Nat):Int):=(Nat.le_total 50 a).elim (λh=>by rw[Nat.min_eq_left h,show min (50:Int) (a:Int)=50 from Int.min_eq_left (Int.ofNat_le.mpr h)];rfl) λh=>by rw[Nat.min_eq_right h,show min (50:Int) (a:Int)=a from Int.min_eq_right (Int.ofNat_le.mpr h)];exact Int.max_eq_right (Int.natCast_nonneg _)
theorem Fd:(0+((min 50 a) - 0))<=a:=a6 (ej (Nat.zero_add (min 50 a))) (Nat.min_le_right 50 a)
theorem Fe:((i+1)+(a:Int))=(i+((a:Int)+1)):=(Int.add_assoc i 1 a).trans (hS (i+·) (Int.add_comm 1 (a:Int)))
theorem Ff(h0:((0:Int)<=(i+(a:Int))/\(i+(a:Int))<(a:Int))):(-(a:Int))<=i:=Int.le_of_sub_nonneg (by rw[Int.sub_neg];exact h0.1)
theorem Fg(h0:a=b)(h1:a<=c):b<=c:=h0▸h1
theorem Fh(h0:a=6):(1:Nat)<a:=h0▸(a4 rfl)
theorem Fi:(3:Nat)<((((((0+1)+1)+1)+1)+1)+a):=Nat.lt_of_lt_of_le (a4 rfl:3<5) (ix 5 a)
theorem Fj(h0:(¬((63:Nat):Int)<(a:Int))):a<=63:=Nat.not_lt.mp λh=>h0 (Int.ofNat_lt.mpr h)
theorem xq(h0:a<=900)(h1:b<=(a+1)):b<=(16777216+1):=a6 h1 (a6 (i2 h0) (a4 rfl))
theorem Fk(h0:(a=0\/a=1))(h1:(a=2/\i=j)):False:=h0.elim (λh=>absurd (h.symm.trans h1.1) (by decide)) λh=>absurd (h.symm.trans h1.1) (by decide)
theorem Fm(h0:a<=16777216):(a:Int)<(2^63):=kV (Int.ofNat_le.mpr h0) (by decide)
theorem Fn(h0:a<=2)(h1:a=(((b+1)+1)+1)):(((b+1)+1)+1)=2:=(Nat.not_succ_le_zero b (Nat.le_of_succ_le_succ (Nat.le_of_succ_le_succ (h1▸h0:b+1+1+1<=0+1+1)))).elim
theorem Fo(h0:((a=1/\b=0)\/((a=2/\b=0)\/((a=2/\b=1)\/((a=3/\b=0)\/((a=3/\b=1)\/((a=3/\b=2)\/((a=4/\b=0)\/((a=4/\b=1)\/((a=4/\b=2)\/(a=4/\b=3))))))))))):b<4:=by rcases h0 with⟨_,h⟩|⟨_,h⟩|⟨_,h⟩|⟨_,h⟩|⟨_,h⟩|⟨_,h⟩|⟨_,h⟩|⟨_,h⟩|⟨_,h⟩|⟨_,h⟩<;>exact h▸(a4 rfl)
theorem Fp(h0:a<4)(h1:(b=2/\(10+(3*(a:Int)))=i))(h2:((23:Int)<=i/\i<=31)):False:=absurd (Int.le_trans h2.1 (h1.2▸(ou (i5 h0) (by decide:10+3*((3:Nat):Int)<=19)).2)) (by decide)
theorem Fq:(((((10+(3*(a:Int))) - 10):Int).toNat)/3)=a:=by rw[Int.add_comm 10,Int.add_sub_cancel];exact Nat.mul_div_cancel_left a (by decide:0<3)
theorem Fr(h0:((0:Int)<=i/\i<256)):(¬i<0):=Int.not_lt.mpr h0.1
theorem Fs(h0:((0:Int)<=i/\i<256)):(¬i>1114111):=Int.not_lt.mpr (Int.le_trans (Int.le_of_lt h0.2) (by decide))
theorem Ft(h0:a<=10)(h1:b=10)(h2:c=10):((b+a)+c)<=1000:=a6 (Nat.add_le_add (Nat.add_le_add (ej h1) h0) (ej h2)) (a4 rfl)
end
end Internal
end
noncomputable section
namespace Internal
open PySem PySem.W PySem.Calls PyProof.Rows
noncomputable abbrev PW:Program:=PySem.Challenge.pw_pb0493_01
def at_(i:Nat):Stmt:=(PW.main.body[i]?).getD (.Pass ⟨0,0,0,0⟩)
def bf(i j:Nat):Stmt:=match at_ i with
 | .ClassDef _ _ _ b .. =>(b[j]?).getD (.Pass ⟨0,0,0,0⟩)
 |s=>s
noncomputable def lD{α:Type}(d:α)(f:Str->Arguments->List Stmt->Scope->Pos->α):Stmt->α
 | .FunctionDef n a b _ _ _ sc _ _ p=>f n a b sc p
 |_=>d
def j3:Stmt->Str:=lD ⟨#[]⟩ λn _ _ _ _=>n
def fj:Stmt->Arguments:=lD ⟨[],[],none,[],[],none,[]⟩ λ_ a _ _ _=>a
def ba:Stmt->List Stmt:=lD [] λ_ _ b _ _=>b
def aV:Stmt->Scope:=lD ⟨.function,[],false,false,[]⟩ λ_ _ _ c _=>c
noncomputable abbrev S(s:String):Str:=Str.ofString s
abbrev qf(s:Stmt)(q:Str)(d k doc pm c6 f:Value)(g b:Nat):FuncData:=
 {name:=j3 s,qualname:=q,params:=fj s,body:= .stmts (ba s),scope:=aV s,globals:=g,closure:=[],defaults:=d,kwdefaults:=k,doc:=doc,pyModule:=pm,annotations:=none,code:=c6,closureTuple:=f,builtins:=b}
def kS(s:String)(t:Nat):Value:= .str (S s) t
noncomputable def kN:Nat->List String->List Value
 |_,[]=>[]
 |t,s::l=>kS s t::kN (t+1) l
noncomputable def kt(a:Nat)(l:List Value):Addr×Obj:=(a,⟨.type "tuple",none,.seq l.toArray 0,#[]⟩)
noncomputable def kg(a:Nat)(c:String)(l:List Value):Addr×Obj:=(a,⟨.type c,none,.fields l.toArray,#[]⟩)
def j4(a t c:Nat):Addr×Obj:=kg a "getset_descriptor" [kS "__dict__" t,.ref c,.builtin "function.__dict__",.builtin "function.__dict__#set"]
def kw(a t c:Nat):Addr×Obj:=kg a "getset_descriptor" [kS "__weakref__" t,.ref c,.builtin "ExceptionGroup.__weakref__",.none]
noncomputable abbrev DE:=String×Nat×Value
def ke(P:Params)(e:DE):DictEntry:=⟨PyData.keyHash P (S e.1),.str (S e.1) e.2.1,e.2.2⟩
noncomputable def kr(x:String)(t r:Nat):DE:=(x,t,.ref r)
def kD(P:Params)(a:Nat)(c:Value)(l:List DE)(n:Nat):Addr×Obj:=(a,⟨c,none,.dict (l.map (ke P)).toArray n,#[]⟩)
def kC(a:Nat)(n:String)(H c sub:List Value)(x:Option Value)(t u:Nat)(b:String):Addr×Obj:=
 (a,⟨.type "type",none,.cls {name:=S n,bases:=H,mro:= .ref a::c,ns:=a - 1,qualname:=S n,hasDict:=true,slotNames:=[],subclasses:=sub,abstract:=false,collection:=none,hasDel:=false},[x,none,some (kS n t),some (kS n u),some (.builtin (b++".__new__")),some (.bool true)].toArray⟩)
structure KR where
 b:Nat
 t:Nat
 q:String
 s:Stmt
 d:Nat
 m:Value
 n:List String
 c:List String
noncomputable def KR.by{α:Type}(r:KR)(x y:α):α:=match r.n with
 |[]=>x
 |_::_=>y
def KR.a(r:KR):Nat:=r.by (r.b+4) (r.b+6)
noncomputable def KR.dv(r:KR):Value:=cond (Nat.beq r.d 0) .none (.ref r.d)
noncomputable def qg:String:="/claim/cut.py"
noncomputable def kz:Value:= .int 0 0
noncomputable def ki(n:Nat):Value:= .int n 0
def KR.code(r:KR)(a:Nat)(x y:Value):Addr×Obj:=
 let u:=r.t+3+(r.n.length+r.c.length)
 let I:=ki (lD 0 (λ_ _ _ _ p=>p.line) r.s)
 kg a "code" [.str (j3 r.s) r.t,kS r.q (r.t+1),kS qg (r.t+2),I,ki (fj r.s).args.length,kz,kz,.int 3 0,.ref r.b,.bool true,.int 181 0,.ref (r.b+1),.none,x,y,.ref (a - 1),ki u,I,kS qg (u+1)]
def KR.objs(r:KR):Frag:=
 let f:Addr×Obj:=(r.a,⟨.type "function",none,.func (qf r.s (S r.q) r.dv .none .none r.m (.ref (r.a - 1)) .none 3 0),#[]⟩)
 let e:=kt r.b []
 r.by [e,r.code (r.b+3) .none .none,f]
  [e,kt (r.b+2) (kN (r.t+3) r.n),kt (r.b+3) (kN (r.t+3+r.n.length) r.c),r.code (r.b+5) (.ref (r.b+2)) (.ref (r.b+3)),f]
def KR.keys(r:KR):List Addr:=r.by [r.b,r.b+3,r.b+4] [r.b,r.b+2,r.b+3,r.b+5,r.b+6]
def tB:List DE:=[("__name__",165,(kS "law_pb0493_01" 1013)),("__doc__",166,.none),("__package__",167,.none),("__loader__",168,(.builtin "__main__.__loader__#opaque")),("__spec__",169,.none),kr "__annotations__" 170 6,kr "__builtins__" 171 4,("__file__",173,(kS "/claim/cut.py" 172)),("__cached__",174,.none),kr "_wall" 193 21,kr "PaperError" 235 46,kr "DraftFault" 251 59,kr "DeskFault" 267 71,("MOST_FIGURES_OF_LINES",271,(.int 9 270)),kr "Bench" 304 90,kr "bench_turned" 312 101,kr "line_octets" 318 106,kr "octets_line" 324 111,kr "first_word" 332 118,kr "whole_in" 338 123,kr "numbers_in" 344 128,kr "Decimal" 460 222,kr "sign_text" 467 233,("MOST_HOPS",471,(.int 30 470)),kr "Name" 500 250,kr "String" 531 272,kr "Stream" 562 293,kr "Reference" 600 321,kr "kind_of" 607 332,kr "told_plain" 615 339,kr "told" 621 344,kr "told_objects" 622 344,kr "copied" 628 349,kr "Lookup" 680 381,kr "Shelf" 744 435,kr "shelf_copied" 755 444,kr "word_at" 768 451,kr "items_at" 778 458,kr "is_group" 787 465,kr "groups_in" 797 472,kr "layer_head" 805 479,kr "group_numbers" 812 486,kr "group_label" 822 493,kr "purposes" 828 498,kr "Configuration" 869 515,kr "configuration_of" 875 524,kr "configuration" 883 530,kr "starting_states" 896 538,kr "switched" 909 545,kr "put_layer_head" 919 552,kr "put_states" 925 557,kr "put_group" 937 564,("NOTHING",941,(kS "none" 940)),kr "rows_text" 948 571,kr "copy_changed" 957 578,kr "copy_grown" 963 583,kr "layer_states" 969 588,kr "layers_text" 980 595,kr "switch_told" 991 602,kr "keep_laid" 1001 609,kr "layer_laid" 1012 616,kr "_law_labels" 1020 617,kr "_law_draw" 1030 624,kr "_law_some" 1036 629,kr "_law_refs" 1042 634,kr "_law_document" 1048 639,kr "_law_started" 1054 644,kr "_law_text" 1060 649,kr "_law_switched" 1073 656,kr "_law_fault" 1080 663,kr "law" 1102 670]
def tC:Value:=kS "__main__" 164
def oz:Value:=kS "paperhold.errors" 194
def j5:Value:=kS "paperhold.desk" 268
def fK:Value:=kS "paperhold.decimals" 345
def cU:Value:=kS "paperhold.objects" 468
def eG:Value:=kS "paperhold.layers" 756
def j6:Value:=kS "paperhold.bureau" 938
def jn:Value:=kS "law_pb0493_01" 1013
def lE:List KR:=[⟨15,187,"_wall",at_ 0,0,tC,["k"],[]⟩,
 ⟨30,210,"PaperError.__init__",bf 2 0,29,oz,["self","what","at"],[]⟩,
 ⟨37,219,"PaperError.told",bf 2 1,0,oz,["self"],[]⟩,
 ⟨81,284,"Bench.__init__",bf 7 0,0,j5,["self","data","base","shelf"],[]⟩,
 ⟨95,305,"bench_turned",at_ 8,0,j5,["bench","shelf"],[]⟩,
 ⟨102,313,"line_octets",at_ 9,0,j5,[],[]⟩,
 ⟨107,319,"octets_line",at_ 10,0,j5,[],[]⟩,
 ⟨112,325,"first_word",at_ 11,0,j5,["text","parts"],[]⟩,
 ⟨119,333,"whole_in",at_ 12,0,j5,[],[]⟩,
 ⟨124,339,"numbers_in",at_ 13,0,j5,[],[]⟩,
 ⟨136,359,"Decimal.__init__",bf 15 0,0,fK,["self","top","places"],[]⟩,
 ⟨143,368,"Decimal.plus",bf 15 1,0,fK,["self","other"],[]⟩,
 ⟨150,376,"Decimal.minus",bf 15 2,0,fK,["self","other"],[]⟩,
 ⟨157,384,"Decimal.times",bf 15 3,0,fK,["self","other"],[]⟩,
 ⟨164,392,"Decimal.negated",bf 15 4,0,fK,["self"],[]⟩,
 ⟨171,399,"Decimal.compared",bf 15 5,0,fK,["self","other"],[]⟩,
 ⟨178,407,"Decimal.is_whole",bf 15 6,0,fK,["self"],[]⟩,
 ⟨185,414,"Decimal.floor",bf 15 7,0,fK,["self"],[]⟩,
 ⟨192,421,"Decimal.rounded",bf 15 8,0,fK,["self","places"],[]⟩,
 ⟨199,429,"Decimal.told",bf 15 9,0,fK,["self"],[]⟩,
 ⟨206,436,"Decimal.text",bf 15 10,0,fK,["self","numerals"],[]⟩,
 ⟨213,444,"Decimal.least_text",bf 15 11,0,fK,["self"],[]⟩,
 ⟨227,461,"sign_text",at_ 16,0,fK,["number"],[]⟩,
 ⟨241,484,"Name.__init__",bf 19 0,0,cU,["self","text"],[]⟩,
 ⟨263,513,"String.__init__",bf 20 0,262,cU,["self","octets","is_hex"],[]⟩,
 ⟨284,544,"Stream.__init__",bf 21 0,0,cU,["self","head","octets"],[]⟩,
 ⟨305,575,"Reference.__init__",bf 22 0,0,cU,["self","number","generation"],[]⟩,
 ⟨312,584,"Reference.pair",bf 22 1,0,cU,["self"],[]⟩,
 ⟨326,601,"kind_of",at_ 23,0,cU,["value"],[]⟩,
 ⟨333,608,"told_plain",at_ 24,0,cU,["kind","value"],[]⟩,
 ⟨340,616,"told",at_ 25,0,cU,[],[]⟩,
 ⟨345,623,"copied",at_ 27,0,cU,[],[]⟩,
 ⟨358,641,"Lookup.__init__",bf 28 0,357,cU,["self","table","trailer"],[]⟩,
 ⟨365,650,"Lookup.fetch",bf 28 1,0,cU,["self","value","here","hop","generation","found"],[]⟩,
 ⟨372,662,"Lookup.get",bf 28 2,0,cU,["self","head","key"],[]⟩,
 ⟨393,693,"Shelf.put",bf 29 0,0,cU,["self","number","generation","value"],[]⟩,
 ⟨400,703,"Shelf.add",bf 29 1,0,cU,["self","value","number"],[]⟩,
 ⟨407,712,"Shelf.drop",bf 29 2,0,cU,["self","number"],[]⟩,
 ⟨414,720,"Shelf.numbers",bf 29 3,0,cU,["self"],[]⟩,
 ⟨421,727,"Shelf.root",bf 29 4,0,cU,["self","found"],[]⟩,
 ⟨428,735,"Shelf.told",bf 29 5,0,cU,[],[]⟩,
 ⟨438,745,"shelf_copied",at_ 30,0,cU,["shelf","table","number","generation","value"],[]⟩,
 ⟨445,758,"word_at",at_ 32,0,eG,["shelf","head","key","default","found"],[]⟩,
 ⟨452,769,"items_at",at_ 33,0,eG,["shelf","head","key","found"],[]⟩,
 ⟨459,779,"is_group",at_ 34,0,eG,["shelf","value","found"],[]⟩,
 ⟨466,788,"groups_in",at_ 35,0,eG,["shelf","items","found","item"],[]⟩,
 ⟨473,798,"layer_head",at_ 36,0,eG,["shelf","found"],[]⟩,
 ⟨480,806,"group_numbers",at_ 37,0,eG,["shelf"],[]⟩,
 ⟨487,813,"group_label",at_ 38,0,eG,["shelf","number","head","label"],[]⟩,
 ⟨494,823,"purposes",at_ 39,0,eG,[],[]⟩,
 ⟨506,841,"Configuration.__init__",bf 40 0,0,eG,["self","base","on","off","radio","locked","order","words"],[]⟩,
 ⟨520,870,"configuration_of",at_ 41,0,eG,[],[]⟩,
 ⟨526,878,"configuration",at_ 42,525,eG,[],[]⟩,
 ⟨532,884,"starting_states",at_ 43,531,eG,["numbers","config","before","states","number","listed","is_on"],[]⟩,
 ⟨539,897,"switched",at_ 44,0,eG,["states","config","number","is_on","found","row","other"],[]⟩,
 ⟨546,910,"put_layer_head",at_ 45,0,eG,["shelf","head","root","place"],[]⟩,
 ⟨553,920,"put_states",at_ 46,0,eG,[],[]⟩,
 ⟨558,926,"put_group",at_ 47,0,eG,["shelf","label","head","found","first","place"],[]⟩,
 ⟨565,942,"rows_text",at_ 50,0,j6,["rows"],[]⟩,
 ⟨572,949,"copy_changed",at_ 51,0,j6,["bench","change","shelf"],[]⟩,
 ⟨579,958,"copy_grown",at_ 52,0,j6,[],[]⟩,
 ⟨584,964,"layer_states",at_ 53,0,j6,[],[]⟩,
 ⟨589,970,"layers_text",at_ 54,0,j6,["shelf","kept","states","rows","number"],[]⟩,
 ⟨596,981,"switch_told",at_ 55,0,j6,["shelf","kept","rest","word","way"],[]⟩,
 ⟨603,992,"keep_laid",at_ 56,0,j6,["bench","kept","rest"],["states"]⟩,
 ⟨610,1002,"layer_laid",at_ 57,0,j6,["bench","beyond","rest","fresh"],["label"]⟩,
 ⟨618,1021,"_law_draw",at_ 60,0,jn,["tape","many","cells","at"],[]⟩,
 ⟨625,1031,"_law_some",at_ 61,0,jn,[],[]⟩,
 ⟨630,1037,"_law_refs",at_ 62,0,jn,[],[]⟩,
 ⟨635,1043,"_law_document",at_ 63,0,jn,[],[]⟩,
 ⟨640,1049,"_law_started",at_ 64,0,jn,[],[]⟩,
 ⟨645,1055,"_law_text",at_ 65,0,jn,[],[]⟩,
 ⟨650,1061,"_law_switched",at_ 66,0,jn,["told_of","states","number","is_on","later","row","other"],[]⟩,
 ⟨657,1074,"_law_fault",at_ 67,0,jn,["deed"],[]⟩,
 ⟨664,1081,"law",at_ 68,0,jn,["script","tape","told_of","states","begun","turn","number","way","fresh","answer","grown","row"],["bench","kept","line","shelf"]⟩]
def xr(P:Params):Frag:=[kD P 2 .none [("type.__subclasses__.Exception.0",232,(.int 46 0)),("type.__subclasses__.Exception.n",233,(.int 1 0))] 2,
 kD P 3 (.type "dict") tB 71,
 kt 22 [(.type "Exception")],
 kt 29 [(.int (-1) 209)],
 kt 44 (kN 226 ["at","what"]),
 kD P 45 (.type "dict") [("__module__",203,(kS "paperhold.errors" 194)),("__firstlineno__",207,(.int 5 206)),kr "__init__" 218 36,kr "told" 225 43,kr "__static_attributes__" 228 44,kr "__weakref__" 230 47,("__doc__",231,.none)] 3,
 kC 46 "PaperError" [(.type "Exception")] [(.type "Exception"),(.type "BaseException"),(.type "object")] [(.ref 59),(.ref 71)] (some (.ref 22)) 196 204 "Exception",
 kw 47 229 46,
 kt 50 [(.ref 46)],
 kt 57 [],
 kD P 58 (.type "dict") [("__module__",243,(kS "paperhold.errors" 194)),("__firstlineno__",247,(.int 14 246)),kr "__static_attributes__" 248 57,("__doc__",249,.none)] 2,
 kC 59 "DraftFault" [(.ref 46)] [(.ref 46),(.type "Exception"),(.type "BaseException"),(.type "object")] [] (some (.ref 50)) 236 244 "Exception",
 kt 62 [(.ref 46)],
 kt 69 [],
 kD P 70 (.type "dict") [("__module__",259,(kS "paperhold.errors" 194)),("__firstlineno__",263,(.int 16 262)),kr "__static_attributes__" 264 69,("__doc__",265,.none)] 2,
 kC 71 "DeskFault" [(.ref 46)] [(.ref 46),(.type "Exception"),(.type "BaseException"),(.type "object")] [] (some (.ref 62)) 252 260 "Exception",
 kt 88 (kN 294 ["base","data","shelf"]),
 kD P 89 (.type "dict") [("__module__",279,(kS "paperhold.desk" 268)),("__firstlineno__",283,(.int 20 282)),kr "__init__" 293 87,kr "__static_attributes__" 297 88,kr "__dict__" 299 91,kr "__weakref__" 301 92,("__doc__",302,.none)] 4,
 kC 90 "Bench" [(.type "object")] [(.type "object")] [] none 272 280 "object",
 j4 91 298 90,
 kw 92 300 90,
 kt 220 (kN 451 ["places","top"]),
 kD P 221 (.type "dict") [("__module__",354,(kS "paperhold.decimals" 345)),("__firstlineno__",358,(.int 50 357)),kr "__init__" 367 142,kr "plus" 375 149,kr "minus" 383 156,kr "times" 391 163,kr "negated" 398 170,kr "compared" 406 177,kr "is_whole" 413 184,kr "floor" 420 191,kr "rounded" 428 198,kr "told" 435 205,kr "text" 443 212,kr "least_text" 450 219,kr "__static_attributes__" 453 220,kr "__dict__" 455 223,kr "__weakref__" 457 224,("__doc__",458,.none)] 4,
 kC 222 "Decimal" [(.type "object")] [(.type "object")] [] none 347 355 "object",
 j4 223 454 222,
 kw 224 456 222,
 kt 248 (kN 492 ["text"]),
 kD P 249 (.type "dict") [("__module__",479,(kS "paperhold.objects" 468)),("__firstlineno__",483,(.int 99 482)),kr "__init__" 491 247,kr "__static_attributes__" 493 248,kr "__dict__" 495 251,kr "__weakref__" 497 252,("__doc__",498,.none)] 4,
 kC 250 "Name" [(.type "object")] [(.type "object")] [] none 472 480 "object",
 j4 251 494 250,
 kw 252 496 250,
 kt 262 [(.bool false)],
 kt 270 (kN 522 ["is_hex","octets"]),
 kD P 271 (.type "dict") [("__module__",508,(kS "paperhold.objects" 468)),("__firstlineno__",512,(.int 103 511)),kr "__init__" 521 269,kr "__static_attributes__" 524 270,kr "__dict__" 526 273,kr "__weakref__" 528 274,("__doc__",529,.none)] 4,
 kC 272 "String" [(.type "object")] [(.type "object")] [] none 501 509 "object",
 j4 273 525 272,
 kw 274 527 272,
 kt 291 (kN 553 ["head","octets"]),
 kD P 292 (.type "dict") [("__module__",539,(kS "paperhold.objects" 468)),("__firstlineno__",543,(.int 108 542)),kr "__init__" 552 290,kr "__static_attributes__" 555 291,kr "__dict__" 557 294,kr "__weakref__" 559 295,("__doc__",560,.none)] 4,
 kC 293 "Stream" [(.type "object")] [(.type "object")] [] none 532 540 "object",
 j4 294 556 293,
 kw 295 558 293,
 kt 319 (kN 591 ["generation","number"]),
 kD P 320 (.type "dict") [("__module__",570,(kS "paperhold.objects" 468)),("__firstlineno__",574,(.int 113 573)),kr "__init__" 583 311,kr "pair" 590 318,kr "__static_attributes__" 593 319,kr "__dict__" 595 322,kr "__weakref__" 597 323,("__doc__",598,.none)] 4,
 kC 321 "Reference" [(.type "object")] [(.type "object")] [] none 563 571 "object",
 j4 322 594 321,
 kw 323 596 321,
 kt 357 [.none,.none],
 kt 379 (kN 671 ["table","trailer"]),
 kD P 380 (.type "dict") [("__module__",636,(kS "paperhold.objects" 468)),("__firstlineno__",640,(.int 176 639)),kr "__init__" 649 364,kr "fetch" 661 371,kr "get" 670 378,kr "__static_attributes__" 673 379,kr "__dict__" 675 382,kr "__weakref__" 677 383,("__doc__",678,.none)] 4,
 kC 381 "Lookup" [(.type "object")] [(.type "object")] [(.ref 435)] none 629 637 "object",
 j4 382 674 381,
 kw 383 676 381,
 kt 386 [(.ref 381)],
 kt 433 [],
 kD P 434 (.type "dict") [("__module__",688,(kS "paperhold.objects" 468)),("__firstlineno__",692,(.int 195 691)),kr "put" 702 399,kr "add" 711 406,kr "drop" 719 413,kr "numbers" 726 420,kr "root" 734 427,kr "told" 740 432,kr "__static_attributes__" 741 433,("__doc__",742,.none)] 2,
 kC 435 "Shelf" [(.ref 381)] [(.ref 381),(.type "object")] [] (some (.ref 386)) 681 689 "object",
 kt 513 (kN 855 ["base","locked","off","on","order","radio","words"]),
 kD P 514 (.type "dict") [("__module__",836,(kS "paperhold.layers" 756)),("__firstlineno__",840,(.int 259 839)),kr "__init__" 854 512,kr "__static_attributes__" 862 513,kr "__dict__" 864 516,kr "__weakref__" 866 517,("__doc__",867,.none)] 4,
 kC 515 "Configuration" [(.type "object")] [(.type "object")] [] none 829 837 "object",
 j4 516 863 515,
 kw 517 865 515,
 kt 525 [(.int (-1) 877)],
 kt 531 [.none],
 kt 617 [(.bytes [97].toArray 1015),(.bytes [].toArray 1016),(.bytes [98,32,99].toArray 1017),(.bytes [233].toArray 1018),(.bytes [122].toArray 1019)]]
def loose:List Str:=(tB.drop 9).dropLast.map λe=>S e.1
def heap(P:Params):Frag:=lE.flatMap KR.objs++xr P
def xt:List Addr:=lE.flatMap KR.keys++[2,3,22,29,44,45,46,47,50,57,58,59,62,69,70,71,88,89,90,91,92,220,221,222,223,224,248,249,250,251,252,262,270,271,272,273,274,291,292,293,294,295,319,320,321,322,323,357,379,380,381,382,383,386,433,434,435,513,514,515,516,517,525,531,617]
end Internal
end
noncomputable section
set_option maxHeartbeats 0
open PySem PySem.W PySem.Calls PyProof.Rows
namespace Internal
noncomputable abbrev lF:=PySem.W.Fast.tw14364793385576792824
noncomputable abbrev tD:= @PySem.W.Fast.tw10156331382660048174
noncomputable abbrev tE:= @PySem.W.Fast.tw11892475500146522536
noncomputable abbrev tF:= @PySem.W.Fast.tw6613529449190102663
noncomputable abbrev xv:= @PySem.W.Fast.tw4187177175401517315
abbrev oA:= @PySem.W.Fast.tw10110043849684766642
abbrev xw:= @PySem.W.Fast.tw12563942051412417395
theorem Fu: @segRunT= @oA:=PySem.W.Fast.te10110043849684766642
theorem Fv: @execs= @xw:=PySem.W.Fast.te12563942051412417395
theorem xx:treeTable=lF:=PySem.W.Fast.te14364793385576792824
theorem Fw: @stepT= @tD:=PySem.W.Fast.te10156331382660048174
theorem Fx: @denote= @tE:=PySem.W.Fast.te11892475500146522536
theorem Fy: @stepOk= @tF:=PySem.W.Fast.te6613529449190102663
theorem Fz: @openSeen= @xv:=PySem.W.Fast.te4187177175401517315
noncomputable def qh(p:Program)(w:World)(b:Nat)(c:Option Value):Nat->SharedT->Thread->Option SharedT
 |0,_,_=>none
 |n+1,s,t=>match through t with
  |true=>some s
  |false=>match tF b c t with
   |false=>none
   |true=>match tD (tE lF) p w s t with
    |some (s',t')=>qh p w b c n s' t'
    |none=>none
theorem xy{p:Program}{w:World}{b:Nat}{c:Option Value}:∀{n:Nat}{s s':SharedT}{t:Thread},qh p w b c n s t=some s'->topRun treeTable p w b c n s.abs t=some s'.abs
 |0,_,_,_,h=>by exact nso h
 |n+1,s,s',t,h=>by
  unfold qh at h;unfold topRun
  cases he:through t with
  |true=>rw[he] at h;cases h;rfl
  |false=>
   rw[he] at h;rw[Fy]
   cases hkZ:tF b c t with
   |false=>rw[hkZ] at h;exact nso h
   |true=>
    rw[hkZ] at h
    cases hs:tD (tE lF) p w s t with
    |none=>rw[hs] at h;exact nso h
    |some r=>
     rcases r with⟨cv,d⟩;rw[hs] at h;have v:stepT (denote treeTable) p w s t=some (cv,d):=by rw[Fw,Fx,xx];exact hs
     rw[stepT_spec v];exact xy h
noncomputable def tG(l:List Obj):BT:=(l.foldl (λ(x:BT×Nat) o=>(x.1.ins x.2 o,x.2+1)) (.nil,0)).1
noncomputable def tH(P:Params):List Obj:=[boot_o_0 P,boot_o_1 P,boot_o_2 P,boot_o_3 P,boot_o_4 P,boot_o_5 P,boot_o_6 P,boot_o_7 P,boot_o_8 P,boot_o_9 P,boot_o_10 P]
def tI(P:Params)(os:OsState):SharedT:=⟨tG (tH P),11,(boot_heap P).life,#[],boot_drawn,boot_toks,os⟩
theorem FA(P:Params)(os:OsState):(tI P os).abs=⟨boot_heap P,Array.mk [],boot_drawn,boot_toks,os⟩:=by lk
def qv:Program:={PW with main:={PW.main with body:=[at_ 68]}}
noncomputable def ts:List Addr:=[nat_lit 611,nat_lit 604,nat_lit 665]
theorem FB:∀P,xt=(heap P).map (·.1):=λ_=>by lk
abbrev hkZ:Hook:=kmHook heap xt FB ts
noncomputable abbrev rowZ:OpenRow:=PySem.Challenge.rw_pb0493_01.row
abbrev Xt:Shared->Bool:=λs=>xlAt qv [] s&&recOk (RowW.records rowZ.toRowW) s
def xz(w:World)(s:SharedT):=
 ((staticsOk (importedModules PW.main.body) (boot_heap w.params) s.abs.heap&&namesBound PW s.abs.heap&&gensDone s.abs&&laidKept (boot_heap w.params) s.abs.heap),
  xv qv loose (importedModules PW.main.body) Xt true s.abs,hkZ.obs s.abs)
def xA(w:World):=(true,openGood qv loose,hkZ.val w)
noncomputable def mL{α:Type}:Nat->List (Nat×α)->List (Nat×α)->List (Nat×α)
 |0,_,_=>[]
 |n+1,a,b=>match a with
  |[]=>b
  |x::l=>match b with
   |[]=>x::l
   |y::m=>cond (Nat.ble x.1 y.1) (x::mL n l (y::m)) (y::mL n (x::l) m)
def KR.u(r:KR):Nat:=r.t+3+(r.n.length+r.c.length)
def KR.all(r:KR):Frag:=mL 9 r.objs [(r.b+1,⟨.none,none,.fields #[],#[]⟩),(r.a - 2,⟨.none,none,.func (qf r.s (S r.q) .none .none .none .none .none .none 0 0),#[]⟩)]
def tJ(a c t:Nat)(m:Value):Addr×Obj:=(a,⟨.type "frame",none,.plain,#[some (.ref c),some (.ref 3),some (.ref t),none,some m,none,some (.ref 0)]⟩)
def tK(a t I:Nat)(n:String)(x:Nat):Addr×Obj:=kg a "code" [kS n t,kS n (t+1),kS qg (t+2),ki I,kz,kz,kz,kz,.ref x,.bool false,.int 181 0,.ref (x+1),.none,.none,.none,.none,ki (t+3),ki I,kS qg (t+4)]
/-- a class:its first address,its own,super's,its first token,its name,line,module,functions (from,many),token and tuple of the static attributes -/
structure qi where
 b:Nat
 A:Nat
 e:Nat
 t:Nat
 n:String
 l:Nat
 m:Value
 i:Nat
 c:Nat
 s:Nat
 x:Nat
def qi.objs(P:Params)(r:qi):Frag:=
 let B:=(lE.drop r.i).take r.c
 let es:List DictEntry:=[ke P ("__module__",r.t+5,r.m),ke P ("__qualname__",r.t+7,kS r.n (r.t+6)),ke P ("__firstlineno__",r.t+9,.int r.l (r.t+8))]++B.map (λq=>⟨PyData.keyHash P (j3 q.s),.str (j3 q.s) (q.u+2),.ref q.a⟩)++[ke P (kr "__static_attributes__" r.s r.x)]
 (cond (Nat.beq r.e (r.A+3)) [kt r.b []] [])++[kg (r.b+1) "builtin_function_or_method" [.builtin "type.__prepare__",.type "type"],(r.b+2,⟨.type "dict",none,.dict es.toArray es.length,#[]⟩),kt (r.b+3) [],
  (r.b+4,⟨.none,none,.fields (B.flatMap λq=>[ki (lD 0 (λ_ _ _ _ p=>p.line) q.s),ki 4,.ref (q.a - 1)]).toArray,#[]⟩),tK (r.b+5) r.t r.l r.n (r.b+3),tJ (r.b+6) (r.b+5) (r.b+2) r.m,
  kg r.e "super" [.ref r.A,.ref r.A,.ref r.A],kg (r.e+1) "builtin_function_or_method" [.builtin "object.__init_subclass__",.ref r.A]]
def xB:List qi:=[⟨22,46,48,198,"PaperError",5,oz,1,2,228,44⟩,⟨51-1,59,60,238,"DraftFault",14,oz,0,0,248,57⟩,⟨62,71,72,254,"DeskFault",16,oz,0,0,264,69⟩,⟨74,90,93,274,"Bench",20,j5,3,1,297,88⟩,⟨129,222,225,349,"Decimal",50,fK,10,12,453,220⟩,⟨234,250,253,474,"Name",99,cU,23,1,493,248⟩,⟨255,272,275,503,"String",103,cU,24,1,524,270⟩,⟨277,293,296,534,"Stream",108,cU,25,1,555,291⟩,⟨298,321,324,565,"Reference",113,cU,26,2,593,319⟩,⟨350,381,384,631,"Lookup",176,cU,32,3,673,379⟩,⟨386,435,436,683,"Shelf",195,cU,35,6,741,433⟩,⟨499,515,518,831,"Configuration",259,eG,50,1,862,513⟩]
def FC(n:Nat):List (Nat×Nat):=(mL 200 ((lE.filter λr=>S r.q==j3 r.s).map λr=>(lD 0 (λ_ _ _ _ p=>p.line) r.s,r.a - 1)) (xB.map λr=>(r.l,r.b+5))).filter λp=>Nat.blt p.2 n
def FD(P:Params)(n k:Nat)(nm:Value):Frag:=
 (mL 2000 (mL 2000 (lE.flatMap KR.all) (((tH P).mapIdx λi o=>(i,o)).filter (λp=> !Nat.beq p.1 2&& !Nat.beq p.1 3)++[kt 11 [],(12,⟨.none,none,.fields ((FC n).flatMap λp=>[ki p.1,kz,.ref p.2]).toArray,#[]⟩),tK 13 182 1 "<module>" 11,tJ 14 13 3 tC]++xB.flatMap (qi.objs P)))
  ((xr P).map λp=>cond (Nat.beq p.1 3) (kD P 3 (.type "dict") (("__name__",165,nm)::(tB.drop 1).take (k - 1)) k) p)).filter λp=>Nat.blt p.1 n
def tL(P:Params)(os:OsState)(n k c5:Nat)(nm:Value):SharedT:=⟨tG ((FD P n k nm).map (·.2)),n,(boot_heap P).life,#[],boot_drawn,c5,os⟩
def qj(P:Params)(os:OsState):SharedT:=⟨tG (tH P++[(kt 11 []).2,⟨.none,none,.fields #[],#[]⟩,(tK 13 182 1 "<module>" 11).2,(tJ 14 13 3 tC).2]),15,(boot_heap P).life,#[],boot_drawn,187,os⟩
def qk:Env:={scope:=PW.main.scope,locals:=mainNs,globals:=mainNs,cells:=[],code:= .ref 13,frame:=some 14}
def gK:Code:= .body PW.main.body qk
def jo:Pos:=⟨0,0,0,0⟩
def oB(l:List Stmt)(p:Pos):Thread:=⟨(xw l qk).wrap doneF deadEnd id id,gK,p,[topFrame jo]⟩
def mM(P:Params)(os:OsState):Nat->SharedT
 |0=>tL P os 227 22 461 (kS "paperhold.decimals" 345)
 |1=>tL P os 438 35 745 (kS "paperhold.objects" 468)
 |_=>tL P os 671 71 1103 (kS "law_pb0493_01" 1013)
def tM:List Stmt:=PW.main.body
def xC:Pos:=⟨50,0,94,16⟩
def xD:Pos:=⟨195,0,220,49⟩
def xE:Pos:=⟨434,0,463,180⟩
theorem FF(w:World)(os:OsState):oA lF PW w 11 (some (.ref 6)) 1 1721 (qj w.params os) (oB (tM.take 16) jo)=some (.next,mM w.params os 0,gK,xC):=by lk
theorem FG(w:World)(os:OsState):oA lF PW w 11 (some (.ref 6)) 1 1791 (mM w.params os 0) (oB ((tM.drop 16).take 14) xC)=some (.next,mM w.params os 1,gK,xD):=by lk
theorem FH(w:World)(os:OsState):oA lF PW w 11 (some (.ref 6)) 1 1299 (mM w.params os 1) (oB (tM.drop 30) xD)=some (.next,mM w.params os 2,gK,xE):=by lk
theorem FI(w:World)(os:OsState):(qh PW w 11 (some (.ref 6)) 2 (mM w.params os 2) ⟨doneF .next,gK,xE,[topFrame jo]⟩).map (xz w)=some (xA w):=by lk
theorem FJ(w:World)(os:OsState):topGo treeTable PW w 11 (some (.ref 6)) 12 (tI w.params os).abs (topStub PW)=some ((qj w.params os).abs,⟨denote treeTable gK,gK,jo,[topFrame jo]⟩):=by lk
theorem FK(w:World)(os:OsState):segRun treeTable PW w 11 (some (.ref 6)) 1 1 (qj w.params os).abs (blockOf PW.main.body qk gK jo [topFrame jo])=some (.next,(qj w.params os).abs,gK,jo):=by lk
theorem FL(w:World)(os:OsState):∃s:SharedT,topRun treeTable PW w 11 (some (.ref 6)) (12+(1+(1721+(1791+(1299+2))))) (tI w.params os).abs (topStub PW)=some s.abs/\xz w s=xA w:=by
 refine al (Option.map_eq_some_iff.mp (FI w os)) λs hs hv=>?_;have e:∀l p,piecesOf l qk gK p [topFrame jo]=oB l p:=λl p=>by unfold oB;rw[<-Fv]
 have q:∀{n:Nat}{s s':SharedT}{t:Thread}{p:Pos},oA lF PW w 11 (some (.ref 6)) 1 n s t=some (.next,s',gK,p)->segRun treeTable PW w 11 (some (.ref 6)) 1 n s.abs t=some (.next,s'.abs,gK,p):=λh=>segRun_of (by rw[Fu,xx];exact h);have k:=piece_app (rest:=[]) (by rw[e];exact q (FH w os)) (piece_nil (xy hs));rw[List.append_nil] at k;have k:=piece_app (by rw[e];exact q (FG w os)) k;have k:=piece_app (by rw[e];exact q (FF w os)) k;exact⟨s,go_top (FJ w os) (piece_block (FK w os) k),hv⟩
theorem FM{p q:Program}{loose:List Str}{Xt:Shared->Bool}{α:Type}{o:Shared->α}{v:World->α}{N:Nat}{A:Bool}{b:Params->Heap}{f:Array GenState}{g:Drawn}{i:Nat}{j:Nat}{c:Option Value}{M:Nat}
  (l:∀w:World,(fencedOpening treeTable p w N).map (λs=>(s.heap,s.gens,s.drawn,s.toks))=some (b w.params,f,g,i))
  (n:∀w:World,((b w.params).isNs mainGlobals&&f.size==0,(b w.params).objs.size,(b w.params).nsMap mainGlobals "__annotations__")=(true,j,c))
  (run:∀(w:World)(os:OsState),∃cf:Shared,topRun treeTable p w j c M ⟨b w.params,f,g,i,os⟩ (topStub p)=some cf/\
   (staticsOk (importedModules p.main.body) (b w.params) cf.heap&&namesBound p cf.heap&&gensDone cf&&laidKept (b w.params) cf.heap)=true/\openSeen q loose (importedModules p.main.body) Xt A cf=openGood q loose/\o cf=v w)
  (m:Nat.ble M N=true):LeftO p q loose Xt o v N A:=λw=>by
 (refine bc λno=>?_;refine ag (Option.map_eq_some_iff.mp (l w)) λD c1=>?_;rcases D with⟨h,y,d,k,os⟩;refine ac c1 λe e'=>?_;clear c1;refine no ?_;clear no);obtain⟨rfl,rfl,rfl,rfl⟩:h=b w.params/\y=f/\d=g/\k=i:=by simpa using e'
 obtain⟨z1,E,z3⟩:_/\_/\_:=by simpa only[Prod.mk.injEq] using n w
 (refine bc λno=>ag (run w os) λcf c3=>bK c3 λr l1 l2 z=>no ?_;clear c3 no);have r:=topRun_mono (N - M) _ _ _ _ r;rw[show M+(N - M)=N from Nat.add_sub_cancel' (Nat.le_of_ble_eq_true m)] at r;have t:topFrom treeTable p w N ⟨b w.params,y,d,k,os⟩=some cf:=by
  unfold topFrom;dsimp only;rw[z1,E,z3,r];show(match staticsOk (importedModules p.main.body) (b w.params) cf.heap&&namesBound p cf.heap&&gensDone cf&&laidKept (b w.params) cf.heap with|true=>_|false=>_)=_;rw[l1]
 unfold openEnds;rw[e];show(topFrom treeTable p w N _).map _=_;rw[t];exact hS some (Prod.ext l2 z)
theorem FN:opening PW=plainProg PW.main.scope.names:=by lk
theorem FO:∀s,fenceModules? PW s=some s:=λs=>by lk
theorem left:LeftO PW qv loose Xt hkZ.obs hkZ.val 10000:=by
 refine FM (M:=12+(1+(1721+(1791+(1299+2))))) (j:=11) (c:=some (.ref 6)) (boot_open FN rfl FO) (λw=>by lk) (λw os=>?_) rfl;refine al (FL w os) λs r hv=>?_;rw[FA] at r;refine ac (Prod.mk.inj hv) λf b=>?_;refine ac (Prod.mk.inj b) λb d=>?_;exact⟨s.abs,r,f,by rw[Fz];exact b,d⟩
end Internal
noncomputable def Internal.posS:Stmt->Pos
 | .FunctionDef _ _ _ _ _ _ _ _ _ p=>p
 |_=>⟨0,0,0,0⟩
abbrev Internal.zlwR:=PySem.Challenge.rw_pb0493_01
theorem Internal.zlw1:namesResolve Internal.zlwR.row.prog=true:=by lk
theorem Internal.zlw2:noRoadLSs {strict:= !(importedModules Internal.zlwR.row.prog.main.body).all cThrough.contains,foot:=none,bare:=(["vars","dir","locals"]:List Str).filter (readsOut Internal.zlwR.row.prog Internal.zlwR.row.prog.main.body)} Internal.zlwR.row.prog.main.body=true:=by lk
theorem Internal.zlw3:(namesMeet Internal.zlwR.row.prog Internal.zlwR.row.prog.main.body λ_ n=>attrL n)=true:=by lk
theorem Internal.zlwO:looksOpen Internal.zlwR.row.prog=true:=look_both (look_both (look_both (look_both (look_both (by lk) (by lk)) Internal.zlw1) (by lk)) Internal.zlw2) Internal.zlw3
theorem Internal.wsaid:OpenLaw.wellSaid Internal.zlwR=true:=by
 unfold OpenLaw.wellSaid
 iterate 18 (refine look_both ?_ (by lk))
 unfold OpenRow.wellSaid
 iterate 2 (refine look_both ?_ (by lk))
 unfold OpenRow.partSaid
 iterate 13 (refine look_both ?_ (by lk))
 exact Internal.zlwO
open Internal in
theorem Internal.hdZ(b:PySem.W.WalkO Internal.qv Internal.loose (PySem.W.XL Internal.qv []) (PySem.W.Hook.says Internal.hkZ) Internal.rowZ.toRowW
  ⟨j3 (at_ 68),fj (at_ 68),ba (at_ 68),aV (at_ 68),posS (at_ 68)⟩ [] λf vs=>PySem.call f vs):PySem.Challenge.rw_pb0493_01.Holds:=by
 w_on
 refine holds_law Internal.wsaid λc=>?_;refine holds_open (q:=Internal.qv) (loose:=Internal.loose) (Xt:=Internal.Xt) (XP:=XL Internal.qv []) (Yf:=Hook.obs Internal.hkZ) (Ya:=Hook.val Internal.hkZ) (YP:=Hook.says Internal.hkZ) (N:=10000) Internal.left (Hook.of Internal.hkZ) (Hook.keeps Internal.hkZ) (λs e=>xl_of s (Bool.and_eq_true_iff.mp e).1) XL.keeps (by rfl) (by rfl) (by rfl) (λs e=>recFacts_of (Bool.and_eq_true_iff.mp e).2) (by rfl) (by first|assumption|decide+kernel) (by decide+kernel) ⟨rfl,rfl,rfl,rfl,rfl,by decide+kernel⟩ ?hw ?hc
 case hw=>w_witness2
 case hc=>exact b
end
noncomputable section
namespace Internal
open PySem PySem.W PySem.Calls PyProof.Rows
set_option genInjectivity true in
inductive aj where
 |int (i:Int)|str (s:Str)
 deriving DecidableEq
structure ah where
 m:Nat
 rev:Bool
 base:Nat
 on:List Int
 off:List Int
 lk:List Int
 rows:List (List Int)
 st:Nat
 k:Int
inductive eQ where
 |refs (m:Nat)|ints (m:Nat)|tape (ctl:List (Int×Int×Int))|doc (D:ah)|told (D:ah)
 |sts (l:List Int) (st:Int->Bool)|plain (d:Nat)
inductive T where
 |none|bool (b:Bool)|int (i:Int)|str (s:Str)|bytes (b:Array UInt8)
 |typ (n:String)|bi (id:String)|top (a:Addr)
 |range (a b:Int)
 |list (xs:List T)|tuple (xs:List T)|dict (kvs:List (aj×T))|inst (C:Addr) (fs:List (Str×T))
 |box (k:eQ) (t:T)
inductive V where
 |t (t:T)|own (i:Nat)
inductive MO where
 |list (xs:List T)|dict (kvs:List (aj×T))|inst (C:Addr) (d:Nat)|sh (C:Addr) (fs:List (Str×V))
 |ns (f:Bool) (kvs:List (Str×V))|idt (kvs:List (Str×V))|cell (v:Option V)
 |clo (ps:Arguments) (body:Expr) (scope:Scope) (qual:Str) (cl:List (Str×Nat))
 |fz (t:T)|dead
noncomputable abbrev af:=List MO
noncomputable abbrev ay:=Addr->Option Obj
noncomputable def gc:aj->Value->Bool
 | .int k,v=>Value.isInt k v
 | .str k,v=>Value.isStrOf k v
noncomputable def ql(w:World):aj->Int
 | .int k=>hashInt k
 | .str k=>hashStr w k
@[elab_as_elim]
theorem lG{P:aj->Value->Prop}(h:gc k v=true)(a:∀i t,P (.int i) (.int i t))(b:∀x t,P (.str x) (.str x t)):P k v:=by
 cases k with
 |int i=>exact(rv h).elim λt e=>e▸a i t
 |str x=>exact(Value.isStrOf_shape h).elim λt e=>e▸b x t
theorem xF(h:gc k v=true):(∃i t,k= .int i/\v= .int i t)\/(∃x t,k= .str x/\v= .str x t):=
 lG h (λi t=> .inl ⟨i,t,rfl,rfl⟩) λx t=> .inr ⟨x,t,rfl,rfl⟩
theorem tN(h:gc k v=true):k=match(generalizing:=false) v with| .int i _=> .int i| .str x _=> .str x|_=> .int 0:=lG h (λ_ _=>rfl) λ_ _=>rfl
theorem xG{E:Value->Shared->Prop}{Q:Bool->Shared->Prop}(h:Q false s):
  wpAny (model J w) A (eqBool (.int i t) (.str x u)) Q E s:=by
 unfold eqBool;refine hy ?_;refine rwm _ ?_ (hX (by intro e;exact nomatch (eq_of_beq e)));dsimp only;exact ae (EqMixed.eq_int_str (r0 h))
theorem xH{E:Value->Shared->Prop}{Q:Bool->Shared->Prop}(h:Q false s):
  wpAny (model J w) A (eqBool (.str x u) (.int i t)) Q E s:=by
 unfold eqBool;refine hy ?_;refine rwm _ ?_ (hX (by intro e;exact nomatch (eq_of_beq e)));dsimp only;exact ae (EqMixed.eq_str_int (r0 h))
def kk(J:Program)(w:World):KeyKind J w aj where
 is:=gc
 hash:=ql w
 inj:=λv a b ha hb=>(tN ha).trans (tN hb).symm
 byValue:=λk v h=>lG h (λ_ _=>rfl) λ_ _=>rfl
 pyHash:=λ{A E s k v Q} hv=>lG hv (λ_ _=>wpAny_pyHash_int) λ_ _=>wpAny_pyHash_str
 eqBool:=λ{A E s a b u v Q} hu hv=>lG hu
  (λi t=>lG hv
   (λj u h=>wpAny_eqBool_int (by refine rwm _ ?_ (show(i==j)=decide (aj.int i=aj.int j) from decide_eq_decide.mpr ⟨hS _,aj.int.inj⟩);exact h)) λx u=>xG)
  λx t=>lG hv
   (λi u=>xH) λy u h=>wpAny_eqBool_str (by refine rwm _ ?_ (show decide (x=y)=decide (aj.str x=aj.str y) from decide_eq_decide.mpr ⟨hS _,aj.str.inj⟩);exact h)
 «strs»:=λk x t v h=>by refine rwm _ ?_ (tN h);cases v<;>rfl
noncomputable def fm(o:Obj)(m:Str->Option Value):Prop:=∃es ep,o.data= .dict es ep/\StrKeys es/\∀B,nsFind es B=m B
theorem xI{h:Heap}{m:Str->Option Value}:h.Ns a m↔∃o,h.get? a=some o/\fm o m:=
 ⟨λ⟨o,es,ep,x,y⟩=>⟨o,x,es,ep,y⟩,λ⟨o,x,es,ep,y⟩=>⟨o,es,ep,x,y⟩⟩
noncomputable def lH{α:Type}(fs:List (Str×α))(m:Str->Option Value):Prop:=∀n,n∉fs.map (·.1)->m n=none
noncomputable def ao(n:Int):T:= .inst 321 [(Str.ofString "number",.int n),(Str.ofString "generation",.int 0)]
noncomputable def drawn(ns:List Int)(at_ b:Int):Int:=
 ((ns[(at_.fmod (ns.length:Int)).toNat]?.getD 0)+at_.fdiv (ns.length:Int)*(7*at_+3+at_.fdiv 2)).fmod b
noncomputable def aQ(m:Nat):List Int:=(List.range m).map λ(i:Nat)=>10+3*(i:Int)
def ah.order(D:ah):List Int:=cond D.rev (aQ D.m).reverse (aQ D.m)
def eR(m:Nat)(ns:List Int):Prop:=ns.Nodup/\∀n∈ns,n∈aQ m
structure ah.Wf (D:ah):Prop where
 m:D.m<=4
 base:D.base<=2
 on:eR D.m D.on
 off:eR D.m D.off
 lk:eR D.m D.lk
 few:D.rows.length<=2
 rows:∀r∈D.rows,eR D.m r
 st:D.st<=2
 k:D.st=2->23<=D.k/\D.k<=31
noncomputable def aA(s:String):Str:=Str.ofString s
def gL(s:String):T:= .inst 250 [(aA "text",.str (aA s))]
def tO(l:List UInt8):T:= .inst 272 [(aA "octets",.bytes l.toArray),(aA "is_hex",.bool false)]
def df(l:List UInt8):T:= .tuple [.int 0,.dict [(.str (aA "Type"),gL "OCG"),(.str (aA "Name"),tO l)]]
noncomputable def gM:Nat->List UInt8
 |0=>[97]
 |1=>[]
 |2=>[98,32,99]
 |3=>[233]
 |_=>[122]
noncomputable def cj:List UInt8:=[110,101,119,32,111,110,101]
def aK(ns:List Int):T:= .list (ns.map ao)
noncomputable def ak(ns:List Int):T:= .list (ns.map T.int)
noncomputable def aI(i:Nat):Nat->List (aj×T)
 |0=>[]
 |n+1=>(.int (10+3*(i:Int)),df (gM i))::aI (i+1) n
def lI:Nat->List (aj×T)
 |0=>[(.str (aA "BaseState"),gL "ON")]
 |1=>[(.str (aA "BaseState"),gL "OFF")]
 |_=>[]
def oF(ns:List Int):List (aj×T):=match ns with
 |[]=>[]
 |ns=>[(.str (aA "OFF"),aK ns)]
def ah.firstT(D:ah):List (aj×T):=match D.st with
 |0=>[(.str (aA "ON"),aK D.on),(.str (aA "OFF"),aK D.off),(.str (aA "Locked"),aK D.lk),(.str (aA "RBGroups"),.list (D.rows.map aK))]++lI D.base
 |1=>[(.str (aA "Locked"),aK D.lk),(.str (aA "RBGroups"),.list (D.rows.map aK))]++oF D.off
 |_=>[(.str (aA "Locked"),aK D.lk),(.str (aA "RBGroups"),.list (D.rows.map aK))]++oF D.off++[(.str (aA "Order"),.list [ao D.k])]
noncomputable def ah.more{α:Type}(D:ah)(l:List α):List α:=match D.st with
 |0=>[]
 |1=>[]
 |_=>l
def ah.tree(D:ah):T:= .inst 435 [(aA "table",.dict ((.int 1,.tuple [.int 0,.dict [(.str (aA "Type"),gL "Catalog"),
  (.str (aA "OCProperties"),.dict [(.str (aA "OCGs"),.list ((D.order++D.more [D.k]).map ao)),(.str (aA "D"),.dict D.firstT)])]])::(aI 0 D.m++D.more [(.int D.k,df cj)]))),
 (aA "trailer",.dict [(.str (aA "Root"),ao 1)])]
noncomputable def tP:Nat->String
 |0=>"ON"
 |1=>"OFF"
 |_=>""
def ah.toldT(D:ah):T:= .dict [(.str (aA "base"),.str (aA (tP D.base))),(.str (aA "on"),ak D.on),(.str (aA "off"),ak D.off),(.str (aA "rows"),.list (D.rows.map ak)),
 (.str (aA "locked"),ak D.lk),(.str (aA "order"),ak D.order)]
noncomputable def aS(l:List Int)(st:Int->Bool):T:= .dict (l.map λn=>(.int n,.bool (st n)))
noncomputable def j7:aj->Bool
 | .str _=>true
 | .int _=>false
noncomputable def bC:Nat->T->Bool
 |0,_=>false
 |n+1,.list U=>decide (U.length<=20)&&U.all (bC n)
 |n+1,.dict N=>decide (N.length<=20)&&N.all λp=>j7 p.1&&bC n p.2
 |_+1,.inst C _=>Nat.beq C 250||Nat.beq C 272||Nat.beq C 321
 |_+1,_=>false
def lJ:eQ->T->Prop
 | .sts l st,t=>l.Nodup/\t=aS l st
 | .plain d,t=>bC d t=true
 | .refs m,t=>∃ns,eR m ns/\t=aK ns
 | .ints m,t=>∃ns,eR m ns/\t=ak ns
 | .tape H,t=>∃ns:List Int,ns≠[]/\ns.length<=50/\t=ak ns/\∀q∈H,drawn ns q.1 q.2.1=q.2.2
 | .doc D,t=>D.Wf/\t=D.tree
 | .told D,t=>D.Wf/\t=D.toldT
mutual
noncomputable def TR(w:World)(g:ay):T->Value->Prop
 | .none,x=>x= .none
 | .bool b,x=>x= .bool b
 | .int i,x=>∃t,x= .int i t
 | .str s,x=>∃t,x= .str s t
 | .bytes b,x=>∃t,x= .bytes b t
 | .typ n,x=>x= .type n
 | .bi n,x=>x= .builtin n
 | .top a,x=>x= .ref a
 | .range i j,x=>∃a t u v,x= .ref a/\g a=some ⟨.type "range",.none,.fields #[.int i t,.int j u,.int 1 v],#[]⟩
 | .list U,x=>∃a ys ep,x= .ref a/\g a=some ⟨.type "list",.none,.seq ys ep,#[]⟩/\TRs w g U ys.toList
 | .tuple U,x=>∃a ys ep,x= .ref a/\g a=some ⟨.type "tuple",.none,.seq ys ep,#[]⟩/\TRs w g U ys.toList
 | .dict N,x=>∃a es ep,x= .ref a/\g a=some ⟨.type "dict",.none,.dict es ep,#[]⟩/\TRd w g N es.toList/\(N.map (·.1)).Nodup/\a≠sysModules
 | .box k t,x=>lJ k t/\TR w g t x
 | .inst C fs,x=>∃a d od m,x= .ref a/\g a=some ⟨.ref C,some d,.plain,#[]⟩/\g d=some od/\fm od m/\TRf w g fs m/\lH fs m
noncomputable def TRs(w:World)(g:ay):List T->List Value->Prop
 |[],ys=>ys=[]
 |v::vs,ys=>∃y r,ys=y::r/\TR w g v y/\TRs w g vs r
noncomputable def TRd(w:World)(g:ay):List (aj×T)->List DictEntry->Prop
 |[],ys=>ys=[]
 |(k,v)::vs,ys=>∃y r,ys=y::r/\(gc k y.key=true/\y.hash=ql w k)/\TR w g v y.val/\TRd w g vs r
noncomputable def TRf(w:World)(g:ay):List (Str×T)->(Str->Option Value)->Prop
 |[],_=>True
 |(k,v)::r,m=>(∃x,m k=some x/\TR w g v x)/\TRf w g r m
end
noncomputable def LR{α:Type}(R:α->Value->Prop):List α->List Value->Prop
 |[],ys=>ys=[]
 |v::vs,ys=>∃y r,ys=y::r/\R v y/\LR R vs r
noncomputable def FR{α:Type}(R:α->Value->Prop):List (Str×α)->(Str->Option Value)->Prop
 |[],_=>True
 |(k,v)::r,m=>(∃x,m k=some x/\R v x)/\FR R r m
def VR(w:World)(g:ay)(b2:List Addr):V->Value->Prop
 | .t t,x=>TR w g t x
 | .own i,x=>∃a,b2[i]? =some a/\x= .ref a
def aZ(g b6:ay):Prop:=∀b o,g b=some o->b6 b=some o
theorem aZ.refl(g:ay):aZ g g:=λ_ _ e=>e
theorem aZ.trans{a b c:ay}(x:aZ a b)(y:aZ b c):aZ a c:=λ_ _ e=>y _ _ (x _ _ e)
noncomputable def bu(b2 b4:List Addr):Prop:=∀(i:Nat)(a:Addr),b2[i]? =some a->b4[i]? =some a
theorem bu.refl(b2:List Addr):bu b2 b2:=λ_ _ e=>e
theorem bu.trans(x:bu a b)(y:bu b c):bu a c:=λ_ _ e=>y _ _ (x _ _ e)
theorem bu.app(b2 l:List Addr):bu b2 (b2++l):=λi a e=>by
 refine a0 (List.getElem?_append_left (List.getElem?_eq_some_iff.mp e).1) ?_;exact e
section
variable {w:World}{g b6:ay}
theorem TR.mono(hg:aZ g b6)(v:T):∀(x:Value),TR w g v x->TR w b6 v x:=
 T.rec (motive_2:=λv=>∀x,TRs w g v x->TRs w b6 v x) (motive_3:=λv=>∀x,TRd w g v x->TRd w b6 v x)
  (motive_4:=λv=>∀x,TRf w g v x->TRf w b6 v x) (motive_5:=λp=>∀x,TR w g p.2 x->TR w b6 p.2 x) (motive_6:=λp=>∀x,TR w g p.2 x->TR w b6 p.2 x)
  (λ_ h=>h) (λ_ _ h=>h) (λ_ _ h=>h) (λ_ _ h=>h) (λ_ _ h=>h) (λ_ _ h=>h) (λ_ _ h=>h) (λ_ _ h=>h)
  (λ_ _ _ h=>h.elim λa h=>⟨a,h.elim λt h=>⟨t,h.elim λu h=>⟨u,h.elim λv h=>⟨v,h.1,hg _ _ h.2⟩⟩⟩⟩)
  (λ_ i _ h=>h.elim λa h=>⟨a,h.elim λy h=>⟨y,h.elim λp h=>⟨p,h.1,hg _ _ h.2.1,i _ h.2.2⟩⟩⟩)
  (λ_ i _ h=>h.elim λa h=>⟨a,h.elim λy h=>⟨y,h.elim λp h=>⟨p,h.1,hg _ _ h.2.1,i _ h.2.2⟩⟩⟩)
  (λ_ i _ h=>h.elim λa h=>⟨a,h.elim λy h=>⟨y,h.elim λp h=>⟨p,h.1,hg _ _ h.2.1,i _ h.2.2.1,h.2.2.2⟩⟩⟩)
  (λ_ _ i _ h=>h.elim λa h=>⟨a,h.elim λd h=>⟨d,h.elim λo h=>⟨o,h.elim λm h=>⟨m,h.1,hg _ _ h.2.1,hg _ _ h.2.2.1,h.2.2.2.1,i _ h.2.2.2.2.1,h.2.2.2.2.2⟩⟩⟩⟩)
  (λ_ _ i _ h=>⟨h.1,i _ h.2⟩)
  (λ_ h=>h) (λ_ _ i j _ h=>h.elim λa h=>⟨a,h.elim λr h=>⟨r,h.1,i _ h.2.1,j _ h.2.2⟩⟩)
  (λ_ h=>h) (λ_ _ i j _ h=>h.elim λa h=>⟨a,h.elim λr h=>⟨r,h.1,h.2.1,i _ h.2.2.1,j _ h.2.2.2⟩⟩)
  (λ_ h=>h) (λ_ _ i j _ h=>⟨h.1.elim λx h=>⟨x,h.1,i _ h.2⟩,j _ h.2⟩)
  (λ_ _ i=>i) (λ_ _ i=>i) v
theorem fo:∀{U:List Value},TRs w g vs U↔LR (TR w g) vs U:=
 List.rec (motive:=λvs=>∀{U},TRs w g vs U↔LR (TR w g) vs U) Iff.rfl
  (λ_ _ i {_}=>exists_congr λ_=>exists_congr λ_=>and_congr_right λ_=>and_congr_right λ_=>i) vs
theorem tQ{m:Str->Option Value}:TRf w g vs m↔FR (TR w g) vs m:=
 List.rec Iff.rfl (λ_ _ i=>and_congr_right λ_=>i) vs
theorem LR.mono{α β:Type}{R:α->Value->Prop}{G:β->Value->Prop}{f:α->β}(k:∀v x,R v x->G (f v) x){vs:List α}:∀{U:List Value},LR R vs U->LR G (vs.map f) U:=
 List.rec (motive:=λvs=>∀{U},LR R vs U->LR G (vs.map f) U) id
  (λ_ _ i {_} h=>h.elim λy h=>⟨y,h.elim λr h=>⟨r,h.1,k _ _ h.2.1,i h.2.2⟩⟩) vs
theorem TRs.mono(hg:aZ g b6)(vs:List T)(U:List Value)(h:TRs w g vs U):TRs w b6 vs U:=by
 have q:=LR.mono (f:=id) (TR.mono hg) (fo.mp h);rw[List.map_id] at q;exact fo.mpr q
theorem TRd.mono(hg:aZ g b6)(vs:List (aj×T)):∀(U:List DictEntry),TRd w g vs U->TRd w b6 vs U:=
 List.rec (λ_ h=>h)
  (λ_ _ j _ h=>h.elim λa h=>⟨a,h.elim λr h=>⟨r,h.1,h.2.1,TR.mono hg _ _ h.2.2.1,j _ h.2.2.2⟩⟩) vs
theorem LR.mono'{α:Type}{R G:α->Value->Prop}(k:∀v x,R v x->G v x){vs:List α}{U:List Value}(h:LR R vs U):LR G vs U:=by
 have:=LR.mono (f:=id) k h;rwa [List.map_id] at this
theorem FR.mono'{α:Type}{R G:α->Value->Prop}(k:∀v x,R v x->G v x){vs:List (Str×α)}{m:Str->Option Value}:FR R vs m->FR G vs m:=
 List.rec id (λ_ _ i h=>⟨h.1.elim λx h=>⟨x,h.1,k _ _ h.2⟩,i h.2⟩) vs
theorem VR.mono(hg:aZ g b6)(hr:bu b2 b4):∀(v:V)(x:Value),VR w g b2 v x->VR w b6 b4 v x
 | .t t,_,h=>TR.mono hg t _ h
 | .own i,_,⟨a,e,q⟩=>⟨a,hr _ _ e,q⟩
end
section
variable {α:Type}{R:α->Value->Prop}
theorem FR.get{fs:List (Str×α)}{m:Str->Option Value}{v:α}(h:FR R fs m)(e:fs.lookup n=some v):∃x,m n=some x/\R v x:=by
 induction fs with
 |nil=>exact nso e
 |cons p r ih=>
  rw[List.lookup_cons] at e
  by_cases q:n=p.1
  .subst q;rw[beq_self_eq_true] at e;cases e;exact h.1
  .rw[beq_eq_false_iff_ne.mpr q] at e;exact ih h.2 e
noncomputable def dN(fs:List (Str×α))(n:Str)(v:α):List (Str×α):=match fs with
 |[]=>[(n,v)]
 |(k,u)::r=>if n=k then(k,v)::r else(k,u)::dN r n v
theorem qm{p:Str×α}{v:α}(q:¬n=p.1):dN (p::r) n v=p::dN r n v:=hX q
theorem qo{p:Str×α}{v:α}:dN (p::r) p.1 v=(p.1,v)::r:=ec rfl
theorem xJ(fs:List (Str×α))(n:Str)(v:α)(x:Str):x∈(dN fs n v).map (·.1)↔x=n\/x∈fs.map (·.1):=by
 induction fs with
 |nil=>exact hG
 |cons p r ih=>
  by_cases q:n=p.1
  .subst q;refine rwm _ ?_ qo;refine hG.trans ⟨?_,?_⟩
   .exactλh=>h.elim .inl λh=> .inr (.tail _ h)
   .exactλh=>h.elim .inl hG.mp
  .refine rwm _ ?_ (qm q);refine hG.trans ((or_congr_right ih).trans ((or_left_comm).trans (or_congr_right hG.symm)))
theorem FR.skip{fs:List (Str×α)}{m:Str->Option Value}(hn:n∉fs.map (·.1))(h:FR R fs m):FR R fs (λy=>if y=n then some x else m y):=by
 induction fs with
 |nil=>trivial
 |cons p r ih=>exact⟨h.1.elim λz h=>⟨z,(hX λe:p.1=n=>hn (e▸q0)).trans h.1,h.2⟩,ih (λe=>hn (.tail _ e)) h.2⟩
theorem FR.put{fs:List (Str×α)}{m:Str->Option Value}{v:α}(hn:(fs.map (·.1)).Nodup)(h:FR R fs m)(k:R v x):FR R (dN fs n v) (λy=>if y=n then some x else m y):=by
 induction fs with
 |nil=>exact⟨⟨x,ec rfl,k⟩,trivial⟩
 |cons p r ih=>
  have hn:=oc.mp hn
  by_cases q:n=p.1
  .subst q;refine rwm _ ?_ qo;exact⟨⟨x,ec rfl,k⟩,FR.skip hn.1 h.2⟩
  .refine rwm _ ?_ (qm q);exact⟨h.1.elim λz h=>⟨z,(hX λe=>q e.symm).trans h.1,h.2⟩,ih hn.2 h.2⟩
theorem xK{fs:List (Str×α)}{v:α}(hn:(fs.map (·.1)).Nodup):((dN fs n v).map (·.1)).Nodup:=by
 induction fs with
 |nil=>exact oc.mpr ⟨List.not_mem_nil,hn⟩
 |cons p r ih=>
  have h:=oc.mp hn
  by_cases q:n=p.1
  .subst q;refine rwm _ ?_ qo;exact hn
  .refine rwm _ ?_ (qm q);exact oc.mpr ⟨λe=>((xJ r n v p.1).mp e).elim (λe=>q e.symm) h.1,ih h.2⟩
theorem lH.put{m:Str->Option Value}{v:α}(h:lH fs m):lH (dN fs n v) (λy=>if y=n then some x else m y):=λy L=>by
 rw[xJ,not_or] at L;refine(?_:(if y=n then some x else m y)=none);refine a0 (hX L.1) ?_;exact h y L.2
theorem LR.app:∀{U:List Value},LR R vs U->LR R C ys->LR R (vs++C) (U++ys):=
 List.rec (motive:=λvs=>∀{U},LR R vs U->LR R C ys->LR R (vs++C) (U++ys)) (λ{U} h k=>(show U=[] from h)▸k)
  (λ_ _ i {U} h k=>h.elim λy h=>h.elim λr h=>⟨y,r++ys,hS (·++ys) h.1,h.2.1,i h.2.2 k⟩) vs
theorem LR.nil:LR R [] []:=rfl
theorem LR.cons{v:α}(h:R v x)(k:LR R vs U):LR R (v::vs) (x::U):=⟨x,U,rfl,h,k⟩
theorem LR.length{vs:List α}:∀{U:List Value},LR R vs U->vs.length=U.length:=
 List.rec (motive:=λvs=>∀{U},LR R vs U->vs.length=U.length) (λ{U} h=>(hS List.length (show U=[] from h)).symm)
  (λ_ _ i {U} h=>h.elim λy h=>h.elim λr h=>(hS (·+1) (i h.2.2)).trans (hS List.length h.1).symm) vs
theorem LR.get{vs:List α}{U:List Value}{i:Nat}{v:α}(h:LR R vs U)(e:vs[i]? =some v):∃x,U[i]? =some x/\R v x:=by
 induction vs generalizing U i with
 |nil=>exact nso e
 |cons u C ih=>
  refine h.elim λy h=>h.elim λr h=>?_;refine rwm _ ?_ h.1
  cases i with
  |zero=>cases e;exact⟨y,rfl,h.2.1⟩
  |succ i=>exact ih (U:=r) h.2.2 e
theorem LR.cons_inv{v:α}(h:LR R (v::vs) U):∃y r,U=y::r/\R v y/\LR R vs r:=h
theorem LR.nil_inv(h:LR R [] U):U=[]:=h
theorem LR.one_inv{v:α}(h:LR R [v] U):∃y,U=[y]/\R v y:=by
 (refine aq h.cons_inv λy r c3=>aw c3 λc2 q z=>?_;clear c3;clear h;subst c2);exact⟨y,by exact rwm _ rfl z.nil_inv,q⟩
theorem LR.two_inv{v u:α}(h:LR R [v,u] U):∃y z,U=[y,z]/\R v y/\R u z:=by
 (refine aq h.cons_inv λy r c3=>aw c3 λc2 q z=>?_;clear c3;clear h;subst c2);(refine ag z.one_inv λG c1=>ac c1 λc2 q'=>?_;clear c1;subst c2);exact⟨y,G,rfl,q,q'⟩
end
section
variable {w:World}{g:ay}
theorem TRd.pairs{N:List (aj×T)}(h:TRd w g N es):
  ∃ps:List (aj×Value),Pairs (kk J w) es ps/\ps.map (·.1)=N.map (·.1)/\LR (TR w g) (N.map (·.2)) (ps.map (·.2))/\∀e∈es,∃k,gc k e.key=true/\e.hash=ql w k:=by
 induction N generalizing es with
 |nil=>refine rwm _ ?_ (show es=[] from h);exact⟨[],.nil,rfl,.nil,λ_ h=>absurd h List.not_mem_nil⟩
 |cons p N ih=>
  refine h.elim λy h=>h.elim λr h=>?_;refine rwm _ ?_ h.1;exact(ih h.2.2.2).elim λps q=>⟨(p.1,y.val)::ps,.cons h.2.1.1 rfl q.1,hS (p.1::·) q.2.1,LR.cons h.2.2.1 q.2.2.1,List.forall_mem_cons.mpr ⟨⟨p.1,h.2.1⟩,q.2.2.2⟩⟩
theorem TRd.of_pairs{N:List (aj×T)}{ps:List (aj×Value)}(h1:Pairs (kk J w) es ps)(h2:ps.map (·.1)=N.map (·.1))(h3:LR (TR w g) (N.map (·.2)) (ps.map (·.2)))
  (h4:∀e∈es,∃k,gc k e.key=true/\e.hash=ql w k):TRd w g N es:=by
 induction h1 generalizing N with
 |nil=>cases N;exact rfl;cases h2
 | @cons e G es ps p q z ih=>
  cases N with
  |nil=>cases h2
  |cons c N=>
   have h2:G.1=c.1/\ps.map (·.1)=N.map (·.1):=List.cons.inj h2;refine h3.elim λy h=>h.elim λr h=>?_;have e1:G.2=y/\ps.map (·.2)=r:=List.cons.inj h.1;have h5:=List.forall_mem_cons.mp h4;exact⟨e,es,rfl,h5.1.elim λU hk=>(((kk J w).inj _ _ _ hk.1 p).trans h2.1)▸hk,by refine rwm _ (rwm _ ?_ e1.1) q;exact h.2.1,ih h2.2 (e1.2▸h.2.2) h5.2⟩
end
noncomputable def j8(o o':Obj):Prop:=o'.cls=o.cls/\o'.dict=o.dict/\o'.data=o.data/\(o.cls≠ .type "frame"->o'=o)
theorem j8.refl(o:Obj):j8 o o:=⟨rfl,rfl,rfl,λ_=>rfl⟩
theorem j8.trans(x:j8 a b)(y:j8 b c):j8 a c:=
 ⟨y.1.trans x.1,y.2.1.trans x.2.1,y.2.2.1.trans x.2.2.1,λh=>by have e:=x.2.2.2 h;clear x;subst e;exact y.2.2.2 h⟩
def Kp(h b5:Heap)(a:Addr):Prop:=∀o,h.get? a=some o->∃o',b5.get? a=some o'/\j8 o o'
theorem Kp.same{h b5:Heap}(k:∀o,h.get? a=some o->b5.get? a=some o):Kp h b5 a:=λo e=>⟨o,k o e,.refl o⟩
theorem Kp.eq{h b5:Heap}{o:Obj}(k:Kp h b5 a)(e:h.get? a=some o)(n:o.cls≠ .type "frame"):b5.get? a=some o:=by
 refine al (k o e) λo' e' q=>?_;have:=q.2.2.2 n;clear e n q;subst this;exact e'
theorem Kp.trans(x:Kp c d a)(y:Kp d h₃ a):Kp c h₃ a:=λo e=>by
 refine al (x o e) λo' e' q=>al (y o' e') λp j q'=>⟨p,j,q.trans q'⟩
def qp(w:World)(g:ay)(b2:List Addr):Option V->Option Value->Prop
 |none,none=>True
 |some v,some x=>VR w g b2 v x
 |_,_=>False
noncomputable def ck(b2:List Addr):List (Str×Nat)->List (Str×Addr)->Prop
 |[],l=>l=[]
 |(n,i)::r,l=>∃a N,l=(n,a)::N/\b2[i]? =some a/\ck b2 r N
noncomputable def tR(o:Obj)(q:Str):Prop:=∃vs t,o.data= .fields vs/\vs[1]? =some (.str q t)
def OR(w:World)(g:ay)(b2:List Addr)(h:Heap):MO->Addr->Prop
 | .list U,a=>∃ys ep,h.get? a=some ⟨.type "list",.none,.seq ys ep,#[]⟩/\TRs w g U ys.toList
 | .dict N,a=>∃es ep,h.get? a=some ⟨.type "dict",.none,.dict es ep,#[]⟩/\TRd w g N es.toList/\(N.map (·.1)).Nodup/\a≠sysModules
 | .inst C d,a=>∃ad,b2[d]? =some ad/\h.get? a=some ⟨.ref C,some ad,.plain,#[]⟩
 | .sh C fs,a=>∃d od m,g a=some ⟨.ref C,some d,.plain,#[]⟩/\g d=some od/\fm od m/\FR (VR w g b2) fs m/\lH fs m
 | .ns f N,a=>∃o m,h.get? a=some o/\fm o m/\FR (VR w g b2) N m/\lH N m/\(N.map (·.1)).Nodup/\o.cls= .type (if f then "frame" else "dict")
 | .idt N,a=>∃es ep m,h.get? a=some ⟨.type "dict",.none,.dict es ep,#[]⟩/\fm ⟨.type "dict",.none,.dict es ep,#[]⟩ m/\FR (VR w g b2) N m/\lH N m/\(N.map (·.1)).Nodup/\es.size<=N.length
 | .cell v,a=>∃x,h.get? a=some ⟨.type "cell",.none,.cell x,#[]⟩/\qp w g b2 v x
 | .clo ps j p i cl,a=>∃pm c L I D,h.get? a=some (kla_obj "<lambda>" i ps j p I pm c L)/\g c=some D/\tR D i/\ck b2 cl I
 | .fz t,a=>TR w g t (.ref a)
 | .dead,_=>True
noncomputable def isFz:MO->Bool
 | .fz _| .dead| .sh _ _=>true
 |_=>false
theorem ck.mono(hr:bu b2 b4):∀{cl:List (Str×Nat)}{l:List (Str×Addr)},ck b2 cl l->ck b4 cl l
 |[],_,h=>h
 |(n,i)::r,_,⟨a,N,e,q,z⟩=>⟨a,N,e,hr _ _ q,ck.mono hr z⟩
theorem ck.get{b2:List Addr}:∀{cl:List (Str×Nat)}{l:List (Str×Addr)}{n:Str}{i:Nat},ck b2 cl l->cl.lookup n=some i->∃a,l.lookup n=some a/\b2[i]? =some a
 |[],_,_,_,_,e=>by simp at e
 |(k,j)::r,_,n,i,⟨a,N,e0,q,z⟩,e=>by
  subst e0;rw[List.lookup_cons] at e⊢
  cases hb:n==k with
  |true=>rw[hb] at e;cases e;exact⟨a,rfl,q⟩
  |false=>rw[hb] at e;exact ck.get z e
section
variable {w:World}{g b6:ay}{b2 b4:List Addr}{h b5:Heap}
theorem qp.mono(hg:aZ g b6)(hr:bu b2 b4)(c:qp w g b2 v x):qp w b6 b4 v x:=by
 cases v<;>cases x<;>first|exact c|exact VR.mono hg hr _ _ c
theorem OR.mono(hg:aZ g b6)(hr:bu b2 b4)(k:Kp h b5 a)(x:OR w g b2 h Q a):OR w b6 b4 b5 Q a:=by
 cases Q with
 |list U=>refine cS x λys ep e r=>⟨ys,ep,k.eq e (by simp),TRs.mono hg _ _ r⟩
 |dict N=>refine b9 x λes ep e r n=>⟨es,ep,k.eq e (by simp),TRd.mono hg _ _ r,n⟩
 |inst C d=>refine al x λad e1 e2=>⟨ad,hr _ _ e1,k.eq e2 (by simp)⟩
 |sh C fs=>refine dp x λd od m e1 e2 n r z=>⟨d,od,m,hg _ _ e1,hg _ _ e2,n,r.mono' (VR.mono hg hr),z⟩
 |ns f N=>
  refine lz x λo m e n r z nd=>al (k o e) λo' e' q=>⟨o',m,e',by refine cS n λes ep d y=>⟨es,ep,q.2.2.1.trans d,y⟩,r.mono' (VR.mono hg hr),z,nd.1,q.1.trans nd.2⟩
 |idt N=>refine dp x λes ep m e n r z nd=>⟨es,ep,m,k.eq e (by simp),n,r.mono' (VR.mono hg hr),z,nd⟩
 |cell v=>refine al x λx e c=>?_;exact⟨x,k.eq e (by simp),c.mono hg hr⟩
 |clo ps j p i cl=>refine bc λno=>hZ x λpm c L I D cd=>bK cd λe e1 e2 e3=>no (⟨pm,c,L,I,D,k.eq e (by simp),hg _ _ e1,e2,e3.mono hr⟩)
 |fz v=>exact TR.mono hg _ _ x
 |dead=>trivial
theorem OR.there(q:isFz Q=false)(x:OR w g b2 h Q a):∃o,h.get? a=some o:=by
 cases Q with
 |list U=>refine cS x λys ep e r=>⟨_,e⟩
 |dict N=>refine b9 x λes ep e r n=>⟨_,e⟩
 |inst C d=>refine al x λad e1 e2=>⟨_,e2⟩
 |ns f N=>refine cS x λo m e n=>⟨_,e⟩
 |idt N=>refine d0 x λes ep m e n=>⟨_,e⟩
 |cell v=>refine al x λx e c=>?_;exact⟨_,e⟩
 |clo ps j p i cl=>refine bc λno=>hZ x λpm c L I D M=>ac M λe e1=>no (⟨_,e⟩)
 |fz v=>exact tff q
 |sh C fs=>exact tff q
 |dead=>exact tff q
theorem OR.still(q:isFz Q=true)(x:OR w g b2 h Q a):OR w g b2 b5 Q a:=by
 cases Q<;>first|exact x|(first|exact ftf q|cases q)
end
structure Cx where
 w:World
 B:Heap
 ts:List (Addr×Addr×Str)
noncomputable def Cx.tab(b1:Cx)(a:Addr):Prop:=∃q∈b1.ts,q.2.1=a
def FP(g:ay)(h:Heap)(q:Addr×Addr×Str):Prop:=
 ∃ps:Array Value,h.get? q.2.1=some (tabObj ps)/\TriplesOk ps.toList/\∀c4 bd,codeAmong c4 ps.toList=some bd->∃c D,bd= .ref c/\g c=some D/\tR D q.2.2
structure St (cx:Cx) (r g:ay) (ρ:List Addr) (l:List Env) (O:af) (h:Heap):Prop where
 base:∀b o,cx.B.get? b=some o->g b=some o
 fr:∀b o,g b=some o->h.get? b=some o
 rs:∀b o,r b=some o->∃o',h.get? b=some o'/\j8 o o'
 len:ρ.length=O.length
 own:∀(i:Nat)(mo:MO)(a:Addr),O[i]? =some mo->ρ[i]? =some a->OR cx.w g ρ h mo a
 free:∀(i:Nat)(mo:MO)(a:Addr),O[i]? =some mo->ρ[i]? =some a->isFz mo=false->g a=none/\r a=none/\¬cx.tab a
 nd:∀(i j:Nat)(mo mo':MO)(a:Addr),O[i]? =some mo->O[j]? =some mo'->isFz mo=false->isFz mo'=false->ρ[i]? =some a->ρ[j]? =some a->i=j
 gr:∀b o,r b=some o->g b=none/\¬cx.tab b
 gt:∀b o,g b=some o->¬cx.tab b
 tabs:∀q∈cx.ts,FP g h q
 frs:∀e∈l,e.scope.kind= .function/\∃L o,e.frame=some L/\h.get? L=some o/\o.cls= .type "frame"/\g L=none/\¬cx.tab L
section
variable {b1:Cx}{r g:ay}{b2:List Addr}{l:List Env}{O:af}{h b5:Heap}
theorem St.keep(S:St b1 r g b2 l O h)(k:∀b o,h.get? b=some o->b5.get? b=some o):St b1 r g b2 l O b5 where
 base:=S.base
 fr:=λb o e=>k _ _ (S.fr b o e)
 rs:=λb o e=>by refine al (S.rs b o e) λo' e' q=>⟨o',k _ _ e',q⟩
 len:=S.len
 own:=λi Q a e1 e2=>(S.own i Q a e1 e2).mono (.refl _) (.refl _) (.same λ_ e=>k _ _ e)
 free:=S.free
 nd:=S.nd
 gr:=S.gr
 gt:=S.gt
 tabs:=λq hq=>by refine al (S.tabs q hq) λps e x=>⟨ps,k _ _ e,x⟩
 frs:=λe he=>by refine bc λno=>ac (S.frs e he) λe0 D=>aq D λL o c3=>aw c3 λe1 e2 e3=>no (⟨e0,L,o,e1,k _ _ e2,e3⟩)
theorem St.lt_g(S:St b1 r g b2 l O h)(hb:h.get? b=none):g b=none:=by
 cases e:g b with
 |none=>rfl
 |some o=>rw[S.fr b o e] at hb;exact sno hb
theorem St.lt_r(S:St b1 r g b2 l O h)(hb:h.get? b=none):r b=none:=by
 cases e:r b with
 |none=>rfl
 |some o=>refine al (S.rs b o e) λo' e' _=>?_;rw[e'] at hb;exact sno hb
theorem St.lt_t(S:St b1 r g b2 l O h)(hb:h.get? b=none):¬b1.tab b:=λ⟨q,hq,e⟩=>by
 refine al (S.tabs q hq) λps e' _=>?_;rw[e,hb] at e';exact nso e'
theorem St.lt_o(S:St b1 r g b2 l O h){b:Addr}(hb:h.get? b=none){i:Nat}(e:b2[i]? =some b):∃Q,O[i]? =some Q/\isFz Q=true:=by
 have hi:=(List.getElem?_eq_some_iff.mp e).1;rw[S.len] at hi;refine⟨O[i],hW hi,?_⟩
 cases q:isFz O[i] with
 |true=>rfl
 |false=>
  refine ag (OR.there q (S.own i _ b (hW hi) e)) λo ho=>?_;rw[ho] at hb;exact sno hb
theorem dC{α:Type}{l:List α}{x y:α}(e:(l++[x])[i]? =some y):l[i]? =some y\/(i=l.length/\y=x):=by
 rcases Nat.lt_trichotomy i l.length with q|q|q
 .rw[List.getElem?_append_left q] at e;exact .inl e
 .subst q;simp at e;exact .inr ⟨rfl,e.symm⟩
 .rw[List.getElem?_append_right (Nat.le_of_lt q),List.getElem?_cons] at e;have:i - l.length≠0:=Nat.sub_ne_zero_of_lt q;simp [this] at e
theorem St.alloc(S:St b1 r g b2 l O h)(hn:h.get? n=none)(k:∀b o,h.get? b=some o->b5.get? b=some o)(hf:isFz Q=false)
  (ho:OR b1.w g (b2++[n]) b5 Q n):St b1 r g (b2++[n]) l (O++[Q]) b5 where
 base:=S.base
 fr:=(S.keep k).fr
 rs:=(S.keep k).rs
 len:=by simp [S.len]
 own:=λi f a e1 e2=>by
  (refine a2 (dC e1) (λe1=>?_) (λzz=>?_);rotate_left;refine ac zz λc2 bo=>?_;clear zz;subst c2;clear hf;subst bo;rotate_right)
  ·(refine a2 (dC e2) (λe2=>?_) (λzz=>?_);rotate_left;refine ac zz λc2 bo=>?_;clear zz;subst c2;subst bo;rotate_right)
   .exact((S.keep k).own i f a e1 e2).mono (.refl _) (.app _ _) (.same λ_ e=>e)
   .have:=(List.getElem?_eq_some_iff.mp e1).1;rw[S.len] at this;exact absurd this (ko _)
  ·(refine a2 (dC e2) (λe2=>?_) (λzz=>?_);rotate_left;refine ac zz λ_ bo=>?_;clear zz;subst bo;rotate_right)
   .have:=(List.getElem?_eq_some_iff.mp e2).1;rw[S.len] at this;exact absurd this (ko _)
   .exact ho
 free:=λi f a e1 e2 q=>by
  (refine a2 (dC e1) (λe1=>?_) (λzz=>?_);rotate_left;refine ac zz λc2 bo=>?_;clear zz;subst c2;clear hf ho;subst bo;rotate_right)
  ·(refine a2 (dC e2) (λe2=>?_) (λzz=>?_);rotate_left;refine ac zz λc2 bo=>?_;clear zz;subst c2;clear ho;subst bo;rotate_right)
   .exact S.free i f a e1 e2 q
   .have:=(List.getElem?_eq_some_iff.mp e1).1;rw[S.len] at this;exact absurd this (ko _)
  ·(refine a2 (dC e2) (λe2=>?_) (λzz=>?_);rotate_left;refine ac zz λ_ bo=>?_;clear zz;subst bo;rotate_right)
   .have:=(List.getElem?_eq_some_iff.mp e2).1;rw[S.len] at this;exact absurd this (ko _)
   .exact⟨S.lt_g hn,S.lt_r hn,S.lt_t hn⟩
 nd:=λi j p c a e1 e2 q q' e3 e4=>by
  have fz:∀{i:Nat}{f:MO},O[i]? =some f->isFz f=false->b2[i]?≠some n:=λ{i}{f} a1 q d=>by
   refine al (S.lt_o hn d) λs c5 cf=>?_;rw[a1] at c5;cases c5;rw[q] at cf;exact ftf cf
  have t:∀{i:Nat}{f:MO}{a:Addr},O[i]? =some f->(b2++[n])[i]? =some a->b2[i]? =some a:=λ{i}{f}{a} a1 d=>by
   (refine a2 (dC d) (λd=>?_) (λzz=>?_);rotate_left;refine ac zz λc2 bo=>?_;clear zz;subst c2;clear hn ho;subst bo;rotate_right)
   .exact d
   .have:=(List.getElem?_eq_some_iff.mp a1).1;rw[S.len] at this;exact absurd this (ko _)
  have new:∀{a:Addr},(b2++[n])[O.length]? =some a->a=n:=λ{a} d=>by
   (refine a2 (dC d) (λd=>?_) (λzz=>?_);rotate_left;refine ac zz λ_ bo=>?_;clear zz;clear hn ho;subst bo;rotate_right)
   .have:=(List.getElem?_eq_some_iff.mp d).1;rw[S.len] at this;exact absurd this (ko _)
   .rfl
  (refine bc λno=>a2 (dC e1) (λf1=>?_) (λzz=>?_);refine no ?_;clear no;rotate_left;refine ac zz λz1 y1=>no ?_;clear no;rotate_right)<;>(refine bc λno=>a2 (dC e2) (λf2=>?_) (λzz=>?_);refine no ?_;clear no;rotate_left;refine ac zz λE I=>no ?_;clear no;rotate_right)
  .exact S.nd i j _ _ a f1 f2 q q' (t f1 e3) (t f2 e4)
  .rw[E] at e4;have z:=new e4;exact absurd (z▸t f1 e3) (fz f1 q)
  .rw[z1] at e3;exact absurd ((new e3)▸t f2 e4) (fz f2 q')
  .exact z1.trans E.symm
 gr:=S.gr
 gt:=S.gt
 tabs:=(S.keep k).tabs
 frs:=(S.keep k).frs
noncomputable def upd(g:ay)(n:Addr)(o:Obj):ay:=λb=>if b=n then some o else g b
theorem eS(g:ay)(n:Addr)(o:Obj):upd g n o n=some o:=ec rfl
theorem aZ.upd{g:ay}(o:Obj)(hn:g n=none):aZ g (upd g n o):=λb x e=>by
 refine(?_:(if b=n then some o else g b)=some x)
 by_cases q:b=n
 .subst q;rw[hn] at e;exact nso e
 .refine a0 (hX q) ?_;exact e
theorem St.hold(S:St b1 r g b2 l O h)(ho:h.get? n=some o)(hg:g n=none)(hr:r n=none)(ht:¬b1.tab n)(hl:∀e∈l,e.frame≠some n)
  (Y:∀(i:Nat)(Q:MO),O[i]? =some Q->b2[i]? =some n->isFz Q=true):St b1 r (upd g n o) b2 l O h where
 base:=λb x e=>aZ.upd o hg _ _ (S.base b x e)
 fr:=λb x e=>by
  unfold upd at e
  by_cases q:b=n
  .subst q;rw[if_pos rfl] at e;cases e;exact ho
  .rw[if_neg q] at e;exact S.fr b x e
 rs:=S.rs
 len:=S.len
 own:=λi Q a e1 e2=>(S.own i Q a e1 e2).mono (aZ.upd o hg) (.refl _) (.same λ_ e=>e)
 free:=λi Q a e1 e2 q=>by
  refine bc λno=>aw (S.free i Q a e1 e2 q) λf1 f2 v=>no (⟨?_,f2,v⟩);unfold upd;rw[if_neg (λe=>by clear ho;subst e;rw[Y i Q e1 e2] at q;exact tff q)];exact f1
 nd:=S.nd
 gr:=λb x e=>by
  refine ac (S.gr b x e) λf1 f2=>⟨?_,f2⟩;unfold upd;rw[if_neg (λq=>by clear ho Y;subst q;rw[hr] at e;exact nso e)];exact f1
 gt:=λb x e=>by
  unfold upd at e
  by_cases q:b=n
  .clear ho hr Y;subst q;exact ht
  .rw[if_neg q] at e;exact S.gt b x e
 tabs:=λq hq=>by
  refine cD (S.tabs q hq) λps e t x=>⟨ps,e,t,λc4 bd e=>by refine b9 (x c4 bd e) λc D e1 e2 e3=>⟨c,D,e1,aZ.upd o hg _ _ e2,e3⟩⟩
 frs:=λe he=>by
  refine bc λno=>ac (S.frs e he) λe0 cv=>aq cv λL o' M=>bS M λe1 e2 e3 e4 e5=>no (⟨e0,L,o',e1,e2,e3,?_,e5⟩);unfold upd;rw[if_neg (λq=>hl e he (by exact rwm _ (rwm _ rfl q) e1))];exact e4
theorem St.allocG(S:St b1 r g b2 l O h)(hn:h.get? n=none)(k:∀b o,h.get? b=some o->b5.get? b=some o)(ho:b5.get? n=some o):St b1 r (upd g n o) b2 l O b5:=
 (S.keep k).hold ho (S.lt_g hn) (S.lt_r hn) (S.lt_t hn) (λe he q=>by(refine bc λno=>ac (S.frs e he) λ_ D=>aq D λL o' c3=>aw c3 λe1 e2 _=>no ?_;clear c3 D no);rw[q] at e1;cases e1;rw[hn] at e2;exact nso e2)
  λi Q e1 e2=>by refine al (S.lt_o hn e2) λf e3 q=>?_;rw[e1] at e3;cases e3;exact q
theorem ia{α:Type}{l:List α}{x y:α}(e:(l.set i x)[j]? =some y):(j=i/\y=x/\i<l.length)\/(j≠i/\l[j]? =some y):=by
 by_cases q:j=i
 .subst q;have hl:=(List.getElem?_eq_some_iff.mp e).1;rw[List.length_set] at hl;rw[List.getElem?_set_self hl] at e;cases e;exact .inl ⟨rfl,rfl,hl⟩
 .rw[List.getElem?_set_ne (λh=>q h.symm)] at e;exact .inr ⟨q,e⟩
theorem St.set(S:St b1 r g b2 l O h)(hi:O[i]? =some Q)(hf:isFz Q=false)(ha:b2[i]? =some a)(hx:Heap.ExtBut a h b5)(n:isFz f=false)
  (hn:OR b1.w g b2 b5 f a)(hc:∀o,h.get? a=some o->o.cls= .type "frame"->∃o',b5.get? a=some o'/\o'.cls= .type "frame"):St b1 r g b2 l (O.set i f) b5 where
 base:=S.base
 fr:=λb o e=>hx b o (λq=>by subst q;rw[(S.free i Q b hi ha hf).1] at e;exact nso e) (S.fr b o e)
 rs:=λb o e=>by
  refine al (S.rs b o e) λo' e' q=>⟨o',hx b o' (λq=>by subst q;rw[(S.free i Q b hi ha hf).2.1] at e;exact nso e) e',q⟩
 len:=by refine rwm _ ?_ oe;exact S.len
 own:=λj c b e1 e2=>by
  (refine a2 (ia e1) (λzz=>?_) (λzz=>?_);refine aw zz λc2 bo _=>?_;clear zz;subst c2;clear n;subst bo;rotate_left;refine ac zz λq e1=>?_;clear zz;rotate_right)
  .rw[ha] at e2;cases e2;exact hn
  .cases hz:isFz c with
   |true=>
    exact(S.own j c b e1 e2).still hz
   |false=>
    have hb:b≠a:=λe=>by clear hn;subst e;exact q (S.nd j i _ _ b e1 hi hz hf e2 ha)
    exact(S.own j c b e1 e2).mono (.refl _) (.refl _) (.same λo e=>hx b o hb e)
 free:=λj c b e1 e2 q=>by
  (refine a2 (ia e1) (λzz=>?_) (λzz=>?_);refine aw zz λc2 bo _=>?_;clear zz;subst c2;clear n hn;subst bo;rotate_left;refine ac zz λ_ e1=>?_;clear zz;rotate_right)
  .rw[ha] at e2;cases e2;exact S.free _ _ _ hi ha hf
  .exact S.free j _ b e1 e2 q
 nd:=λj k c d b e1 e2 q1 q2 e3 e4=>by
  (refine bc λno=>a2 (ia e1) (λzz=>aw zz λz1 _ _=>no ?_) (λzz=>ac zz λ_ f1=>no ?_)<;>clear zz no)<;>(refine bc λno=>a2 (ia e2) (λzz=>aw zz λE _ _=>no ?_) (λzz=>ac zz λ_ f2=>no ?_)<;>clear zz no)
  .exact z1.trans E.symm
  .subst z1;exact S.nd _ _ _ _ b hi f2 hf q2 e3 e4
  .subst E;exact S.nd _ _ _ _ b f1 hi q1 hf e3 e4
  .exact S.nd _ _ _ _ b f1 f2 q1 q2 e3 e4
 gr:=S.gr
 gt:=S.gt
 tabs:=λq hq=>by
  refine cD (S.tabs q hq) λps e t x=>⟨ps,hx _ _ (λe'=>(S.free i Q a hi ha hf).2.2 ⟨q,hq,e'⟩) e,t,x⟩
 frs:=λe he=>by
  (refine bc λno=>ac (S.frs e he) λe0 cv=>aq cv λL o' M=>bS M λe1 e2 e3 e4 e5=>no ?_;clear M cv no)
  by_cases q:L=a
  .clear ha hn;subst q;refine al (hc o' e2 e3) λp e6 e7=>⟨e0,L,p,e1,e6,e7,e4,e5⟩
  .exact⟨e0,L,o',e1,hx _ _ q e2,e3,e4,e5⟩
theorem St.fz(S:St b1 r g b2 l O h)(ha:b2[i]? =some a)(hf:isFz Q=true)(hv:OR b1.w g b2 h Q a):St b1 r g b2 l (O.set i Q) h where
 base:=S.base
 fr:=S.fr
 rs:=S.rs
 len:=by refine rwm _ ?_ oe;exact S.len
 own:=λj c b e1 e2=>by
  (refine a2 (ia e1) (λzz=>?_) (λzz=>?_);refine aw zz λc2 bo _=>?_;clear zz;subst c2;subst bo;rotate_left;refine ac zz λq e1=>?_;clear zz;rotate_right)
  .rw[ha] at e2;cases e2;exact hv
  .exact S.own j c b e1 e2
 free:=λj c b e1 e2 q=>by
  (refine a2 (ia e1) (λzz=>?_) (λzz=>?_);refine aw zz λc2 bo _=>?_;clear zz;clear ha;subst c2;clear hv;subst bo;rotate_left;refine ac zz λ_ e1=>?_;clear zz;rotate_right)
  .rw[hf] at q;exact tff q
  .exact S.free j _ b e1 e2 q
 nd:=λj k c d b e1 e2 q1 q2 e3 e4=>by
  (refine bc λno=>a2 (ia e1) (λzz=>aw zz λz1 y1 _=>no ?_) (λzz=>ac zz λ_ f1=>no ?_)<;>clear zz no)<;>(refine bc λno=>a2 (ia e2) (λzz=>aw zz λE I _=>no ?_) (λzz=>ac zz λ_ f2=>no ?_)<;>clear zz no)
  .exact z1.trans E.symm
  .clear hv e1 e2;subst y1;rw[hf] at q1;exact tff q1
  .clear hv e1 e2;subst I;rw[hf] at q2;exact tff q2
  .exact S.nd _ _ _ _ b f1 f2 q1 q2 e3 e4
 gr:=S.gr
 gt:=S.gt
 tabs:=S.tabs
 frs:=S.frs
end
section
variable {α β:Type}{q:α}
noncomputable def un(l:List β)(f:β->List β->Option α):Option α:=match l with
 |a::l=>f a l
 |[]=>none
noncomputable def nl(l:List β)(x:Option α):Option α:=match l with
 |[]=>x
 |_::_=>none
@[elab_as_elim] theorem cK{f:β->List β->Option α}{P:List β->Prop}(h:un l f=some q)(k:∀a N,f a N=some q->P (a::N)):P l:=by
 cases l with
 |nil=>exact nso h
 |cons a l=>exact k a l h
@[elab_as_elim] theorem bT{P:List β->Prop}(h:nl l x=some q)(k:x=some q->P []):P l:=by
 cases l with
 |nil=>exact k h
 |cons a l=>exact nso h
noncomputable def aT(v:V)(f:T->Option α):Option α:=match v with
 | .t t=>f t
 | .own _=>none
noncomputable def lK(v:V)(n:Nat)(x:Option α):Option α:=match v with
 | .t _=>none
 | .own i=>cond (Nat.beq i n) x none
@[elab_as_elim] theorem bY{f:T->Option α}{P:V->Prop}(h:aT v f=some q)(k:∀t,f t=some q->P (.t t)):P v:=by
 cases v with
 |t t=>exact k t h
 |own i=>exact nso h
@[elab_as_elim] theorem mN{P:V->Prop}(h:lK v n x=some q)(k:x=some q->P (.own n)):P v:=by
 cases v with
 |t t=>exact nso h
 |own i=>
  have h2:cond (Nat.beq i n) x none=some q:=h
  cases hb:Nat.beq i n with
  |false=>rw[hb] at h2;exact nso h2
  |true=>rw[hb] at h2;have e:=ii hb;clear h hb;subst e;exact k h2
noncomputable def fL(t:T)(f:Int->Option α):Option α:=match t with
 | .int n=>f n
 |_=>none
noncomputable def eT(t:T)(f:Str->Option α):Option α:=match t with
 | .str n=>f n
 |_=>none
noncomputable def tS(t:T)(f:Bool->Option α):Option α:=match t with
 | .bool n=>f n
 |_=>none
noncomputable def xL(t:T)(f:Array UInt8->Option α):Option α:=match t with
 | .bytes n=>f n
 |_=>none
noncomputable def fM(t:T)(f:List T->Option α):Option α:=match t with
 | .list n=>f n
 |_=>none
def qr(t:T)(x:Option α):Option α:=match t with
 | .dict l=>nl l x
 |_=>none
noncomputable def j9(t:T)(f:eQ->T->Option α):Option α:=match t with
 | .box k t=>f k t
 |_=>none
@[elab_as_elim] theorem ib{f:Int->Option α}{P:T->Prop}(h:fL t f=some q)(k:∀n,f n=some q->P (.int n)):P t:=by
 cases t<;>first|exact nso h|exact k _ h
@[elab_as_elim] theorem ge{f:Str->Option α}{P:T->Prop}(h:eT t f=some q)(k:∀n,f n=some q->P (.str n)):P t:=by
 cases t<;>first|exact nso h|exact k _ h
@[elab_as_elim] theorem xM{f:Bool->Option α}{P:T->Prop}(h:tS t f=some q)(k:∀n,f n=some q->P (.bool n)):P t:=by
 cases t<;>first|exact nso h|exact k _ h
@[elab_as_elim] theorem FQ{f:Array UInt8->Option α}{P:T->Prop}(h:xL t f=some q)(k:∀n,f n=some q->P (.bytes n)):P t:=by
 cases t<;>first|exact nso h|exact k _ h
@[elab_as_elim] theorem kb{f:List T->Option α}{P:T->Prop}(h:fM t f=some q)(k:∀n,f n=some q->P (.list n)):P t:=by
 cases t<;>first|exact nso h|exact k _ h
@[elab_as_elim] theorem tT{P:T->Prop}(h:qr t x=some q)(k:x=some q->P (.dict [])):P t:=by
 cases t<;>first|exact nso h|(refine bT h k)
@[elab_as_elim] theorem jp{f:eQ->T->Option α}{P:T->Prop}(h:j9 t f=some q)(k:∀g X,f g X=some q->P (.box g X)):P t:=by
 cases t<;>first|exact nso h|exact k _ _ h
noncomputable def xN(g:eQ)(f:List (Int×Int×Int)->Option α):Option α:=match g with
 | .tape c=>f c
 |_=>none
@[elab_as_elim] theorem FS{f:List (Int×Int×Int)->Option α}{P:eQ->Prop}(h:xN g f=some q)(k:∀c,f c=some q->P (.tape c)):P g:=by
 cases g<;>first|exact nso h|exact k _ h
noncomputable def tU(g:eQ)(f:ah->Option α):Option α:=match g with
 | .doc c=>f c
 |_=>none
@[elab_as_elim] theorem xO{f:ah->Option α}{P:eQ->Prop}(h:tU g f=some q)(k:∀c,f c=some q->P (.doc c)):P g:=by
 cases g<;>first|exact nso h|exact k _ h
noncomputable def xP(g:eQ)(f:ah->Option α):Option α:=match g with
 | .told c=>f c
 |_=>none
@[elab_as_elim] theorem FT{f:ah->Option α}{P:eQ->Prop}(h:xP g f=some q)(k:∀c,f c=some q->P (.told c)):P g:=by
 cases g<;>first|exact nso h|exact k _ h
noncomputable def xQ(g:eQ)(f:Nat->Option α):Option α:=match g with
 | .ints c=>f c
 |_=>none
@[elab_as_elim] theorem FU{f:Nat->Option α}{P:eQ->Prop}(h:xQ g f=some q)(k:∀c,f c=some q->P (.ints c)):P g:=by
 cases g<;>first|exact nso h|exact k _ h
noncomputable def xR(g:eQ)(f:Nat->Option α):Option α:=match g with
 | .plain c=>f c
 |_=>none
@[elab_as_elim] theorem xS{f:Nat->Option α}{P:eQ->Prop}(h:xR g f=some q)(k:∀c,f c=some q->P (.plain c)):P g:=by
 cases g<;>first|exact nso h|exact k _ h
noncomputable def xT(g:eQ)(f:List Int->(Int->Bool)->Option α):Option α:=match g with
 | .sts c d=>f c d
 |_=>none
@[elab_as_elim] theorem xU{f:List Int->(Int->Bool)->Option α}{P:eQ->Prop}(h:xT g f=some q)(k:∀c d,f c d=some q->P (.sts c d)):P g:=by
 cases g<;>first|exact nso h|exact k _ _ h
end
noncomputable def d4{α:Type}(x y:Option α):Option α:=match x with
 |some a=>some a
 |none=>y
theorem gN{α:Type}{q:α}{x y:Option α}{P:Prop}(h:d4 x y=some q)(k:x=some q->P)(U:y=some q->P):P:=by
 cases x with
 |some a=>exact k h
 |none=>exact U h
noncomputable def tV{α:Type}(t:T)(x:Option α):Option α:=match t with
 | .none=>x
 |_=>none
@[elab_as_elim] theorem xV{α:Type}{q:α}{t:T}{x:Option α}{P:T->Prop}(h:tV t x=some q)(k:x=some q->P .none):P t:=by
 cases t<;>first|exact nso h|exact k h
noncomputable def xW{α:Type}(t:T)(f:Addr->List (Str×T)->Option α):Option α:=match t with
 | .inst C fs=>f C fs
 |_=>none
@[elab_as_elim] theorem FV{α:Type}{q:α}{f:Addr->List (Str×T)->Option α}{P:T->Prop}(h:xW t f=some q)(k:∀C fs,f C fs=some q->P (.inst C fs)):P t:=by
 cases t<;>first|exact nso h|exact k _ _ h
noncomputable def lL{α:Type}(t:T)(f:List (aj×T)->Option α):Option α:=match t with
 | .dict n=>f n
 |_=>none
@[elab_as_elim] theorem qt{α:Type}{q:α}{f:List (aj×T)->Option α}{P:T->Prop}(h:lL t f=some q)(k:∀n,f n=some q->P (.dict n)):P t:=by
 cases t<;>first|exact nso h|exact k _ h
noncomputable def xX{α:Type}(t:T)(f:List T->Option α):Option α:=match t with
 | .tuple n=>f n
 |_=>none
@[elab_as_elim] theorem FW{α:Type}{q:α}{f:List T->Option α}{P:T->Prop}(h:xX t f=some q)(k:∀n,f n=some q->P (.tuple n)):P t:=by
 cases t<;>first|exact nso h|exact k _ h
theorem eU{α:Type}{c:Prop}[Decidable c]{x:Option α}{y:α}(q:(if c then x else none)=some y):c/\x=some y:=by
 by_cases h:c
 .rw[if_pos h] at q;exact⟨h,q⟩
 .rw[if_neg h] at q;exact nso q
theorem mO{α:Type}{c:Prop}[Decidable c]{x:Option α}{y:α}(q:(if c then none else x)=some y):¬c/\x=some y:=by
 by_cases h:c
 .rw[if_pos h] at q;exact nso q
 .rw[if_neg h] at q;exact⟨h,q⟩
theorem kc{α β:Type}{c:Prop}[Decidable c]{f b:α->β}{a:α}:(if c then f else b) a=if c then f a else b a:=by
 by_cases h:c
 .exact rwm _ (rwm _ rfl (ec h)) (ec h)
 .exact rwm _ (rwm _ rfl (hX h)) (hX h)
theorem cL{α β:Type}{c:Prop}[Decidable c]{f:α->Option β}{a:α}{y:β}(q:(if c then f else λ_=>none) a=some y):c/\f a=some y:=eU (kc.symm.trans q)
theorem FX{α β:Type}{c:Prop}[Decidable c]{f:α->Option β}{a:α}{y:β}(q:(if c then λ_=>none else f) a=some y):¬c/\f a=some y:=mO (kc.symm.trans q)
theorem gO{α β:Type}{c:Prop}[Decidable c]{f b:α->Option β}{a:α}{y:β}{P:Prop}(q:(if c then f else b) a=some y)(k:c->f a=some y->P)(U:¬c->b a=some y->P):P:=by
 by_cases h:c
 .rw[if_pos h] at q;exact k h q
 .rw[if_neg h] at q;exact U h q
theorem fN{α:Type}{P:α->Prop}{x y:α}(q:some x=some y)(h:P x):P y:=by cases q;exact h
section
variable {α:Type}{q:α}
def lM(be:List V)(f:V->Option α):Option α:=un be λa l=>nl l (f a)
def tW(be:List V)(f:V->V->Option α):Option α:=un be λa l=>un l λb l=>nl l (f a b)
@[elab_as_elim] theorem mP{f:V->Option α}{P:List V->Prop}(h:lM be f=some q)(k:∀a,f a=some q->P [a]):P be:=by
 refine cK h λa l h=>bT h λh=>k a h
@[elab_as_elim] theorem xY{f:V->V->Option α}{P:List V->Prop}(h:tW be f=some q)(k:∀a b,f a b=some q->P [a,b]):P be:=by
 refine cK h λa l h=>cK h λb l h=>bT h λh=>k a b h
noncomputable def tX(v:V)(f:Nat->Option α):Option α:=match v with
 | .t _=>none
 | .own i=>f i
@[elab_as_elim] theorem xZ{f:Nat->Option α}{P:V->Prop}(h:tX v f=some q)(k:∀i,f i=some q->P (.own i)):P v:=by
 cases v with
 |t t=>exact nso h
 |own i=>exact k i h
noncomputable def tY(m:MO)(f:List (aj×T)->Option α):Option α:=match m with
 | .dict l=>f l
 |_=>none
noncomputable def tZ(m:MO)(f:List T->Option α):Option α:=match m with
 | .list l=>f l
 |_=>none
@[elab_as_elim] theorem FY{f:List (aj×T)->Option α}{P:MO->Prop}(h:tY m f=some q)(k:∀l,f l=some q->P (.dict l)):P m:=by
 cases m<;>first|exact nso h|exact k _ h
@[elab_as_elim] theorem FZ{f:List T->Option α}{P:MO->Prop}(h:tZ m f=some q)(k:∀l,f l=some q->P (.list l)):P m:=by
 cases m<;>first|exact nso h|exact k _ h
end
abbrev MM(α:Type):=af->Option (Except Addr α×af)
noncomputable def pm{α:Type}(a:α):MM α:=λO=>some (.ok a,O)
noncomputable def bm{α β:Type}(m:MM α)(f:α->MM β):MM β:=λO=>match m O with
 |some (.ok a,M)=>f a M
 |some (.error c,M)=>some (.error c,M)
 |none=>none
noncomputable def om{α:Type}(x:Option α):MM α:=λO=>match x with|some a=>some (.ok a,O)|none=>none
noncomputable def new(Q:MO):MM Nat:=λO=>some (.ok O.length,O++[Q])
noncomputable def bP(Q:MO):MM V:=λO=>some (.ok (.own O.length),O++[Q])
noncomputable def bw(i:Nat):MM MO:=λO=>match O[i]?with|some Q=>some (.ok Q,O)|none=>none
noncomputable def put(i:Nat)(Q:MO):MM Unit:=λO=>some (.ok (),O.set i Q)
noncomputable def eV{α β:Type}(f:α->MM β):List α->MM (List β)
 |[]=>pm []
 |a::l=>bm (f a) λb=>bm (eV f l) λH=>pm (b::H)
structure AE where
 scope:Scope
 lh:Nat
 cells:List (Str×Nat)
 qual:Str
 code:Addr
set_option tactic.hygienic true in
inductive Fl where
 |next|ret (v:V)
noncomputable def strip:T->T
 | .box _ t=>strip t
 |t=>t
def x0:MO->Option T
 | .list U=>some (.list U)
 | .dict N=>some (.dict N)
 | .fz t=>some (strip t)
 |_=>none
def vw(v:V)(O:af):Option T:=match v with
 | .t t=>some (strip t)
 | .own i=>O[i]?.bind x0
def aE(v:V):MM T:=λO=>match vw v O with|some t=>some (.ok t,O)|none=>none
noncomputable def t4(f:V->MM T):List (Str×V)->MM (List (Str×T))
 |[]=>pm []
 |(k,v)::r=>bm (f v) λt=>bm (t4 f r) λts=>pm ((k,t)::ts)
noncomputable def oG:Nat->V->MM T
 |_,.t t=>pm t
 |0,.own _=>λ_=>none
 |n+1,.own i=>bm (bw i) λQ=>match Q with
  | .list U=>bm (put i (.fz (.list U))) λ_=>pm (.list U)
  | .dict N=>bm (put i (.fz (.dict N))) λ_=>pm (.dict N)
  | .fz t=>pm t
  | .sh C fs=>bm (t4 (oG n) fs) λts=>bm (put i (.fz (.inst C ts))) λ_=>pm (.inst C ts)
  |_=>λ_=>none
noncomputable def fr:V->MM T:=oG 4
noncomputable def qw(d:Str->Option T)(e:AE)(n:Str):MM V:=match e.scope.names.lookup n with
 |some .local=>bm (bw e.lh) λQ=>match Q with
  | .ns _ N=>om (N.lookup n)
  |_=>λ_=>none
 |some .cell|some .free=>match e.cells.lookup n with
  |some c=>bm (bw c) λQ=>match Q with
   | .cell v=>om v
   |_=>λ_=>none
  |none=>λ_=>none
 |some _=>om ((d n).map .t)
 |none=>λ_=>none
def jq(e:AE)(n:Str)(v:V):MM Unit:=match e.scope.names.lookup n with
 |some .local=>bm (bw e.lh) λQ=>match Q with
  | .ns f N=>put e.lh (.ns f (dN N n v))
  |_=>λ_=>none
 |some .cell=>match e.cells.lookup n with
  |some c=>bm (bw c) λQ=>match Q with
   | .cell _=>put c (.cell (some v))
   |_=>λ_=>none
  |none=>λ_=>none
 |_=>λ_=>none
noncomputable def aJ(n:Nat):Bool:=n<=sizeLine
noncomputable def bg(N:List (aj×T))(k:aj):Option T:=N.lookup k
noncomputable def bj(N:List (aj×T))(k:aj)(v:T):List (aj×T):=
 if N.any (λG=>decide (G.1=k)) then N.map (λG=>if G.1=k then(G.1,v) else G) else N++[(k,v)]
noncomputable def gP(N:List (aj×T))(k:aj):List (aj×T):=N.filter λG=>decide (G.1≠k)
noncomputable def cE:T->Option aj
 | .int i=>some (.int i)
 | .str s=>some (.str s)
 |_=>none
noncomputable def dO:aj->T
 | .int i=> .int i
 | .str s=> .str s
def kf:T->Option Bool
 | .none=>some false
 | .bool b=>some b
 | .int i=>some (i !=0)
 | .list U=>if aJ U.length then some (!U.isEmpty) else none
 | .dict U=>if aJ U.length then some (!U.isEmpty) else none
 |_=>none
noncomputable def dP:T->T->Option Bool
 | .int a,.int b=>some (decide (a=b))
 | .str a,.str b=>some (decide (a=b))
 | .int _,.str _=>some false
 | .str _,.int _=>some false
 |_,_=>none
noncomputable def gQ:List T->List T->Option Bool
 |[],[]=>some true
 |[],_::_=>some false
 |_::_,[]=>some false
 |a::l,b::m=>match dP a b,gQ l m with
  |some x,some y=>some (x&&y)
  |_,_=>none
def qx:T->T->Option Bool
 | .list a,.list b=>gQ a b
 | .dict a,.dict []=>some a.isEmpty
 |a,b=>dP a b
noncomputable def gf(x:T):List T->Option Bool
 |[]=>some false
 |a::l=>match dP a x,gf x l with
  |some p,some q=>some (p||q)
  |_,_=>none
def fO(x:T):T->Option Bool
 | .list U=>gf x U
 | .tuple U=>gf x U
 | .dict N=>(cE x).map λk=>(bg N k).isSome
 | .str y=>match x with| .str z=>some (Txt.contains y z)|_=>none
 |_=>none
noncomputable def mQ(f:Int->Int->Bool)(a b:T):Option Bool:=match a,b with
 | .int x,.int y=>some (f x y)
 |_,_=>none
def gR(w:CmpOp)(a b:T):Option Bool:=match w with
 | .Eq=>qx a b
 | .NotEq=>(qx a b).map (!·)
 | .Lt=>mQ (λx y=>decide (x<y)) a b
 | .LtE=>mQ (λx y=>decide (x<=y)) a b
 | .Gt=>mQ (λx y=>decide (x>y)) a b
 | .GtE=>mQ (λx y=>decide (x>=y)) a b
 | .In=>fO a b
 | .NotIn=>(fO a b).map (!·)
 |_=>none
noncomputable def isNone:V->Option Bool
 | .t .none=>some true
 | .t (.bi _)=>none
 | .t (.box _ _)=>none
 |_=>some false
def dQ(op:CmpOp)(a b:V):MM Bool:=match op with
 | .Is=>match b with
  | .t .none=>om (isNone a)
  |_=>λ_=>none
 | .IsNot=>match b with
  | .t .none=>om ((isNone a).map (!·))
  |_=>λ_=>none
 |op=>bm (aE a) λx=>bm (aE b) λy=>om (gR op x y)
noncomputable def oH(a b:Int):Bool:= !(decide (Builtin.Int.intBits a>shortFactorBits)&&decide (Builtin.Int.intBits b>shortFactorBits)&&Builtin.Int.intTooBig (Builtin.Int.intBits a+Builtin.Int.intBits b))
def eH(w:Operator)(a b:T):MM V:=match w,a,b with
 | .Add,.int x,.int y=>pm (.t (.int (x+y)))
 | .Sub,.int x,.int y=>pm (.t (.int (x - y)))
 | .Mult,.int x,.int y=>if oH x y then pm (.t (.int (x*y))) else λ_=>none
 | .FloorDiv,.int x,.int y=>if y=0 then λ_=>none else if Builtin.divisionGoesByPylong x y then λ_=>none else pm (.t (.int (x.fdiv y)))
 | .Mod,.int x,.int y=>if y=0 then λ_=>none else pm (.t (.int (x.fmod y)))
 | .Add,.str x,.str y=>if aJ (x.length+y.length) then pm (.t (.str (x++y))) else λ_=>none
 | .Add,.list U,.list ys=>if aJ (U.length+ys.length) then bP (.list (U++ys)) else λ_=>none
 |_,_,_=>λ_=>none
noncomputable def jr(n:Nat)(i:Int):Option Nat:=if -(2^63)<=i/\i<2^63 then seqIndex? i n else none
def dR(o i:T):Option T:=match o,i with
 | .list U,.int k=>(jr U.length k).bind (U[·]?)
 | .tuple U,.int k=>(jr U.length k).bind (U[·]?)
 | .dict N,k=>(cE k).bind (bg N)
 |_,_=>none
structure kh where
 st:Stmt
 qual:Str
 dfl:List T
 code:Addr
structure bt where
 glob:Str->Option T
 con:Addr->List V->af->Option (Option (Except Addr T×af))
 fns:Addr->Option kh
 init:Addr->Option Addr
 meth:Addr->Str->Option Addr
 sub:Addr->Addr->Bool
 exc:Addr->Bool
 fld:Addr->Str->Bool
 kd:Addr->Option Bool
 tb:Addr->Option Str
 isi:Nat->Nat->Option Bool
noncomputable def lN:T->Option Nat
 | .none=>some 0
 | .bool _=>some 1
 | .int _=>some 2
 | .str _=>some 3
 | .bytes _=>some 4
 | .list _=>some 5
 | .dict _=>some 6
 | .tuple _=>some 7
 | .box _ t=>lN t
 | .inst C _=>if C>7 then some C else none
 |_=>none
noncomputable def F0:Nat->String
 |0=>"NoneType"
 |1=>"bool"
 |2=>"int"
 |3=>"str"
 |4=>"bytes"
 |5=>"list"
 |6=>"dict"
 |_=>"tuple"
def fq(n:Nat):Value:=if n<=7 then .type (F0 n) else .ref n
noncomputable def qy:T->Option Nat
 | .typ n=>if n="bool" then some 1 else if n="int" then some 2 else if n="str" then some 3 else if n="bytes" then some 4 else if n="list" then some 5 else if n="dict" then some 6 else if n="tuple" then some 7 else none
 | .top D=>if D>7 then some D else none
 |_=>none
noncomputable def lO(a:Int):Nat->List T
 |0=>[]
 |n+1=> .int a::lO (a+1) n
def d7:T->Option (List T)
 | .list U=>some U
 | .tuple U=>some U
 | .dict N=>some (N.map λp=>dO p.1)
 | .range a b=>if Builtin.Range.small a b 1 then some (lO a (Builtin.Range.rangeSize a b 1).toNat) else none
 | .str s=>some (s.cps.toList.map λc=> .str ⟨#[c]⟩)
 | .bytes b=>some (b.toList.map λc=> .int c.toNat)
 |_=>none
noncomputable def jt:List T->Option (List Str)
 |[]=>some []
 | .str s::r=>(jt r).map (s::·)
 |_=>none
noncomputable def cY:List T->Option (List Int)
 |[]=>some []
 | .int s::r=>(cY r).map (s::·)
 |_=>none
noncomputable def oJ:List Int->Option Int
 |[]=>none
 |[a]=>some a
 |a::r=>(oJ r).map λb=>if b>a then b else a
noncomputable def fu:List T->Option (List (aj×T))
 |[]=>some []
 | .tuple [k,v]::r=>match cE k,fu r with
  |some k,some l=>some ((k,v)::l)
  |_,_=>none
 |_=>none
noncomputable def kj(a:Int):List Int->List Int
 |[]=>[a]
 |b::r=>if b<a then b::kj a r else a::b::r
noncomputable def iL:List Int->List Int
 |[]=>[]
 |a::r=>kj a (iL r)
noncomputable def dq(i:Int):Str:=Str.ofString (toString i)
def ic(n:Nat):Option Nat:=if aJ n then some n else none
def ju(t:T):Option Nat:=d4 (fM t λU=>ic U.length) (d4 (xX t λU=>ic U.length) (d4 (lL t λU=>ic U.length) (eT t λs=>ic s.length)))
noncomputable def x8:List Nat->Option Nat
 |[c]=>some c
 |_=>none
def oK(n:String)(t:T):MM V:=
 if n="len" then om ((ju t).map λ(k:Nat)=>V.t (.int (k:Int)))
 else if n="ord" then λO=>eT t λs=>om ((x8 s.cps.toList).map λ(c:Nat)=>V.t (.int (c:Int))) O
 else if n="chr" then λO=>fL t λi=>(if 0<=i/\i<256 then pm (.t (.str ⟨#[i.toNat]⟩)) else λ_=>none) O
 else if n="max" then λO=>fM t λU=>om (((cY U).bind oJ).map λi=> .t (.int i)) O
 else if n="sorted" then λO=>lL t λN=>bm (om (cY (N.map λp=>dO p.1))) (λl=>if l.length<64 then bP (.list ((iL l).map .int)) else λ_=>none) O
 else λ_=>none
def x9:V->MM Nat
 | .t t=>om (lN t)
 | .own i=>bm (bw i) λQ=>match Q with
  | .sh C _=>om (if C>7 then some C else none)
  | .list _=>pm 5
  | .dict _=>pm 6
  | .fz t=>om (lN t)
  |_=>λ_=>none
def t5(f:Nat->Nat->Option Bool)(a b:V):MM V:=match b with
 | .t c=>bm (x9 a) λn=>bm (om (qy c)) λm=>om ((f n m).map λr=> .t (.bool r))
 |_=>λ_=>none
def jv(n:String)(t:T):MM V:=
 if n="range" then λO=>fL t λi=>pm (.t (.range 0 i)) O
 else if n="list" then λO=>fM t λU=>(if aJ U.length then bP (.list U) else λ_=>none) O
 else if n="dict" then λO=>d4 (lL t λN=>(if aJ N.length then bP (.dict N) else λ_=>none) O)
  (fM t λU=>bm (om (fu U)) (λN=>if aJ N.length then bP (.dict (N.foldl (λd p=>bj d p.1 p.2) [])) else λ_=>none) O)
 else if n="str" then λO=>d4 (fL t λi=>(if i.natAbs<1000000 then pm (.t (.str (dq i))) else λ_=>none) O) (eT t λs=>pm (.t (.str s)) O)
 else if n="int" then λO=>eT t λs=>(if s.length<=640 then om ((PySem.intText? s).map λi=> .t (.int i)) else λ_=>none) O
 else if n="bytes" then λO=>fM t λU=>bm (om (cY U)) (λl=>if(l.all λn=>decide (0<=n)&&decide (n<256))&&aJ l.length then pm (.t (.bytes (l.map λn=>n.toNat.toUInt8).toArray)) else λ_=>none) O
 else λ_=>none
def ya(a b:V):MM V:=λO=>aT a λa=>fL a λi=>aT b λb=>fL b λj=>pm (.t (.range i j)) O
def yb(P:bt)(f:T)(be:List V):MM V:=match f,be with
 | .bi n,[a]=>bm (aE a) λt=>oK n t
 | .bi n,[a,b]=>if n="isinstance" then t5 P.isi a b else λ_=>none
 | .typ n,[a]=>bm (aE a) λt=>jv n t
 | .typ n,[a,b]=>if n="range" then ya a b else λ_=>none
 |_,_=>λ_=>none
noncomputable def nm(s:String):Str:=Str.ofString s
noncomputable def mR:T->Option Nat
 | .str _=>some 0
 | .dict _=>some 1
 | .list _=>some 2
 |_=>none
def lP(L:Nat)(n:Str):Option Nat:=match L with
 |0=>if n=nm "strip" then some 0 else if n=nm "split" then some 1 else if n=nm "join" then some 2 else none
 |1=>if n=nm "get" then some 3 else if n=nm "pop" then some 4 else none
 |_=>if n=nm "append" then some 5 else none
noncomputable def yc:Nat->String
 |0=>"str.strip"
 |1=>"str.split"
 |2=>"str.join"
 |3=>"dict.get"
 |4=>"dict.pop"
 |_=>"list.append"
def yd(t:T)(be:List V):MM V:=λO=>eT t λs=>lM be λa=>aT a λa=>eT a λc=>(if aJ s.length then pm (.t (.str (Txt.stripChars s c))) else λ_=>none) O
def ye(t:T)(be:List V):MM V:=λO=>eT t λs=>d4 (lM be λa=>aT a λa=>eT a λc=>(if c.length≠0/\aJ (s.length+2)=true then bP (.list ((Txt.split s c).map .str)) else λ_=>none) O)
 (tW be λa b=>aT a λa=>eT a λc=>aT b λb=>fL b λk=>(if c.length≠0/\aJ (s.length+2)=true/\k=1 then bP (.list ((Txt.splitMax s c 1).map .str)) else λ_=>none) O)
def t6(t:T)(be:List V):MM V:=λO=>eT t λs=>lM be λv=>bm (aE v) (λt O=>fM t λU=>bm (om (jt U)) (λl=>if JoinOk s l then pm (.t (.str (Txt.join s l))) else λ_=>none) O) O
def t7(t:T)(be:List V):MM V:=λO=>lL t λN=>d4 (lM be λa=>aT a λk=>bm (om (cE k)) (λk=>pm (.t ((bg N k).getD .none))) O)
 (tW be λa d=>aT a λk=>bm (om (cE k)) (λk=>pm (match bg N k with|some t=> .t t|none=>d)) O)
def qz(o:V)(be:List V):MM V:=λO=>tX o λi=>lM be λa=>aT a λk=>bm (bw i) (λQ O=>tY Q λN=>bm (om (cE k)) (λk=>bm (om (bg N k)) λt=>if aJ N.length then bm (put i (.dict (gP N k))) λ_=>pm (.t t) else λ_=>none) O) O
def yf(o:V)(be:List V):MM V:=λO=>tX o λi=>lM be λv=>bm (fr v) (λt=>bm (bw i) λQ O=>tZ Q λys=>(if aJ (ys.length+1) then bm (put i (.list (ys++[t]))) λ_=>pm (.t .none) else λ_=>none) O) O
def iM(k:Nat)(o:V)(be:List V):MM V:=match k with
 |0=>bm (aE o) λt=>yd t be
 |1=>bm (aE o) λt=>ye t be
 |2=>bm (aE o) λt=>t6 t be
 |3=>bm (aE o) λt=>t7 t be
 |4=>qz o be
 |_=>yf o be
noncomputable def qA:T->Bool
 | .bi _=>true
 |_=>false
def iN:V->Option V
 | .t t=>cond (qA (strip t)) none (some (.t t))
 |v=>some v
def mS(fld:Addr->Str->Bool)(t:T)(n:Str):MM V:=match t with
 | .inst C fs=>if fld C n then om ((fs.lookup n).bind λt=>iN (.t t)) else λ_=>none
 |_=>λ_=>none
def yg(fld:Addr->Str->Bool)(n:Str)(Q:MO):MM V:=match Q with
 | .sh C fs=>if fld C n then om ((fs.lookup n).bind iN) else λ_=>none
 | .fz t=>mS fld t n
 |_=>λ_=>none
def qB(fld:Addr->Str->Bool)(o:V)(n:Str):MM V:=match o with
 | .t t=>mS fld (strip t) n
 | .own i=>bm (bw i) (yg fld n)
noncomputable def fP:Expr->Bool
 | .Call (.Name _ _) [] [] _=>false
 |_=>true
noncomputable def t8{α:Type}(n:Str)(C:Addr)(fs:List (Str×α)):MM (Option Addr):=if(fs.lookup n).isNone then pm (some C) else λ_=>none
noncomputable def qC(n:Str)(t:T):MM (Option Addr):=match t with
 | .inst C fs=>t8 n C fs
 |_=>pm none
noncomputable def t9(n:Str)(Q:MO):MM (Option Addr):=match Q with
 | .sh C fs=>t8 n C fs
 | .fz t=>qC n t
 |_=>pm none
def mT(o:V)(n:Str):MM (Option Addr):=match o with
 | .t t=>qC n (strip t)
 | .own i=>bm (bw i) (t9 n)
noncomputable def mU(n:Nat):V->Bool
 | .t _=>true
 | .own i=>i<n
def ua(n:Nat):MO->Bool
 | .ns _ N=>N.all λp=>mU n p.2
 | .idt N=>N.all λp=>mU n p.2
 | .cell (some v)=>mU n v
 | .sh _ fs=>fs.all λp=>mU n p.2
 | .clo _ _ _ _ cl=>cl.all λp=>p.2<n
 | .inst _ d=>d<n
 |_=>true
def trunc(n:Nat)(O:af):af:=if(O.take n).all (ua n) then O.take n else O
def yh(n k:Nat)(O:af)(x:Option MO):Option (Except Addr V×af):=match x with
 |some (.list U)=>some (.ok (.t (.list U)),trunc n (O.set k (.fz (.list U))))
 |some (.dict U)=>some (.ok (.t (.dict U)),trunc n (O.set k (.fz (.dict U))))
 |some (.fz t)=>some (.ok (.t t),trunc n O)
 |_=>some (.ok (.own k),O)
def fw(n:Nat)(v:V):MM V:=λO=>match v with
 | .t _=>some (.ok v,trunc n O)
 | .own k=>if k<n then some (.ok v,trunc n O) else yh n k O O[k]?
noncomputable def jw(k:Nat):List Nat->Nat->Option Nat
 |[],_=>none
 |a::r,i=>if a=k then some i else jw k r (i+1)
structure Pk where
 σ:List Nat
 S:af
def qD(k:Nat)(Q:MO)(p:Pk):V×Pk:=match jw k p.σ 0 with
 |some i=>(.own i,p)
 |none=>(.own p.σ.length,⟨p.σ++[k],p.S++[Q]⟩)
def ub(k:Nat)(p:Pk)(x:Option MO):Option (V×Pk):=match x with
 |some (.fz t)=>some (.t t,p)
 |some (.list U)=>some (qD k (.list U) p)
 |some (.dict U)=>some (qD k (.dict U) p)
 |_=>none
def yi(v:V)(O:af)(p:Pk):Option (V×Pk):=match v with
 | .t t=>some (.t t,p)
 | .own k=>ub k p O[k]?
noncomputable def uc(O:af):List (Str×V)->Pk->Option (List (Str×V)×Pk)
 |[],p=>some ([],p)
 |a::r,p=>(yi a.2 O p).bind λz=>(uc O r z.2).bind λy=>some ((a.1,z.1)::y.1,y.2)
noncomputable def yj{α:Type}(x:Option MO)(f:Addr->List (Str×V)->Option α)(y:Option α):Option α:=match x with
 |some (.sh C fs)=>f C fs
 |_=>y
noncomputable def F1(k:Nat)(C:Addr)(z:List (Str×V)×Pk):Option (V×Pk):=if k∈z.2.σ then none else some (.own z.2.σ.length,⟨z.2.σ++[k],z.2.S++[.sh C z.1]⟩)
def F2(O:af)(k:Nat)(p:Pk)(C:Addr)(fs:List (Str×V))(x:Option Nat):Option (V×Pk):=match x with
 |some i=>some (.own i,p)
 |none=>(uc O fs p).bind (F1 k C)
def yk(v:V)(O:af)(p:Pk):Option (V×Pk):=match v with
 | .t t=>some (.t t,p)
 | .own k=>yj O[k]? (λC fs=>F2 O k p C fs (jw k p.σ 0)) (ub k p O[k]?)
noncomputable def iO(O:af):List V->Pk->Option (List V×Pk)
 |[],p=>some ([],p)
 |v::r,p=>(yk v O p).bind λz=>(iO O r z.2).bind λy=>some (z.1::y.1,y.2)
noncomputable def yl(p:List Nat):V->Option V
 | .t t=>some (.t t)
 | .own i=>(p[i]?).map .own
noncomputable def ud(p:List Nat):List (Str×V)->Option (List (Str×V))
 |[]=>some []
 |a::r=>(yl p a.2).bind λv'=>(ud p r).bind λr'=>some ((a.1,v')::r')
def oL(p:List Nat):MO->Option MO
 | .list U=>some (.list U)
 | .dict N=>some (.dict N)
 | .fz t=>some (.fz t)
 | .sh C fs=>(ud p fs).map (.sh C)
 |_=>none
noncomputable def unpack(c:List Nat):List Nat->af->af->Option af
 |[],_,O=>some O
 |k::p,Q::S,O=>(oL c Q).bind λf=>unpack c p S (O.set k f)
 |_::_,[],_=>none
structure aG where
 ev:Expr->AE->MM V
 test:Expr->AE->MM Bool
 ex:Stmt->AE->MM Fl
 as:Expr->AE->V->MM Unit
 call:V->List V->MM V
def fQ(v:V):MM Bool:=bm (aE v) λt=>om (kf t)
noncomputable def a8(r:aG)(e:AE):List Expr->MM (List V)
 |[]=>pm []
 |a::l=>bm (r.ev a e) λv=>bm (a8 r e l) λvs=>pm (v::vs)
set_option tactic.hygienic true in
noncomputable def aR(r:aG)(e:AE):List Stmt->MM Fl
 |[]=>pm .next
 |s::l=>bm (r.ex s e) λf=>match f with
  | .next=>aR r e l
  | .ret v=>pm (.ret v)
noncomputable def gS(r:aG)(e:AE)(w:BoolOp):List Expr->MM V
 |[]=>λ_=>none
 |[a]=>r.ev a e
 |a::l=>bm (r.ev a e) λv=>bm (fQ v) λb=>match w,b with
  | .And,false| .Or,true=>pm v
  |_,_=>gS r e w l
noncomputable def iP(r:aG)(e:AE)(w:BoolOp):List Expr->MM Bool
 |[]=>pm (w== .And)
 |a::l=>bm (r.test a e) λb=>match w,b with
  | .And,false=>pm false
  | .Or,true=>pm true
  |_,_=>iP r e w l
noncomputable def lQ(r:aG)(e:AE)(v:V):List CmpOp->List Expr->MM Bool
 |[w],[a]=>bm (r.ev a e) λu=>dQ w v u
 |w::i::j,a::I::l=>bm (r.ev a e) λu=>bm (dQ w v u) λb=>if b then lQ r e u (i::j) (I::l) else pm false
 |_,_=>λ_=>none
noncomputable def mV(r:aG)(e:AE):List (Option Expr)->List Expr->MM (List (aj×T))
 |[],[]=>pm []
 |some k::C,v::vs=>bm (r.ev k e) λG=>bm (r.ev v e) λB=>bm (fr B) λt=>match G with
  | .t kt=>bm (om (cE kt)) λf=>bm (mV r e C vs) λj=>pm ((f,t)::j)
  |_=>λ_=>none
 |_,_=>λ_=>none
set_option tactic.hygienic true in
noncomputable def dD(f:T->MM Fl):List T->MM Fl
 |[]=>pm .next
 |t::l=>bm (f t) λfl=>match fl with
  | .next=>dD f l
  | .ret v=>pm (.ret v)
noncomputable def bZ(f:T->MM (Option T)):List T->List T->MM (List T)
 |[],be=>pm be
 |t::l,be=>bm (f t) λx=>match x with
  |some y=>if aJ be.length then bZ f l (be++[y]) else λ_=>none
  |none=>bZ f l be
noncomputable def oM(r:aG)(e:AE):List Expr->MM Bool
 |[]=>pm true
 |a::l=>bm (r.test a e) λb=>if b then oM r e l else pm false
set_option tactic.hygienic true in
def mW(m:MM Fl)(n:Nat):MM Fl:=λO=>match m O with
 |some (.ok .next,M)=>some (.ok .next,trunc n M)
 |x=>x
noncomputable def d8:List Arg->List V->List T->Option (List (Str×V))
 |ps,vs,b=>if vs.length<=ps.length/\ps.length<=vs.length+b.length then some ((ps.map (·.arg)).zip (vs++(b.drop (b.length - (ps.length - vs.length))).map .t)) else none
noncomputable def et:List (Str×NameKind)->List (Str×Nat)->MM (List (Str×Nat))
 |[],be=>pm be
 |(n,.cell)::r,be=>bm (new (.cell none)) λc=>et r ((n,c)::be)
 |_::r,be=>et r be
noncomputable def gT(e:AE):List (Str×V)->MM Unit
 |[]=>pm ()
 |(n,v)::r=>bm (jq e n v) λ_=>gT e r
noncomputable def eW(e:AE)(sc:Scope)(lh:Nat):Option AE:=
 if sc.names.any (λp=>p.2== .cell) then none else
 let fs:=(sc.names.filter λp=>p.2== .free).reverse
 match fs.mapM λp=>(e.cells.lookup p.1).map λc=>(p.1,c) with
 |some cl=>some ⟨{sc with names:=sc.names.map λ(n,k)=>if k== .free&&e.scope.kind== .function&&e.scope.names.lookup n==some .cell then(n,.cell) else(n,k)},lh,cl,e.qual,e.code⟩
 |none=>none
noncomputable def ym:Const->MM V
 | .none=>pm (.t .none)
 | .bool b=>pm (.t (.bool b))
 | .int i=>pm (.t (.int i))
 | .str s=>pm (.t (.str s))
 | .bytes b=>pm (.t (.bytes b.toArray))
 |_=>λ_=>none
def cu(d:Str->Option T)(e:AE)(n:Str):MM V:=if n==nm "__debug__"||n==nm "__classdict__" then λ_=>none else qw d e n
def qE(w:UnaryOp)(v:V):MM V:=match w with
 | .Not=>bm (fQ v) λb=>pm (.t (.bool !b))
 | .USub=>match v with
  | .t (.int i)=>pm (.t (.int (-i)))
  |_=>λ_=>none
 |_=>λ_=>none
noncomputable def noStar:Expr->Bool
 | .Starred _ _=>false
 |_=>true
noncomputable def kl(P:bt)(fv:V):MM Unit:=match fv with
 | .t (.top a)=>if(P.kd a).isSome then pm () else λ_=>none
 | .t (.bi _)=>pm ()
 | .t (.typ _)=>pm ()
 | .own k=>bm (bw k) λQ=>match Q with
  | .clo _ _ _ _ _=>pm ()
  |_=>λ_=>none
 |_=>λ_=>none
def ue(P:bt)(r:aG)(e:AE)(f:Expr)(be:List Expr):MM V:=if be.all noStar&&decide (be.length<30) then bm (r.ev f e) λfv=>bm (a8 r e be) λvs=>bm (kl P fv) λ_=>r.call fv vs else λ_=>none
def uf(P:bt)(r:aG)(e:AE)(o:Expr)(n:Str)(be:List Expr)(d c4:Pos):MM V:=
 if d.endLine==c4.line&&be.all noStar&&decide (be.length<20)&&fP o then bm (r.ev o e) λM=>bm (mT M n) λc=>match c with
  |some C=>bm (om (P.meth C n)) λf=>bm (a8 r e be) λvs=>r.call (.t (.top f)) (M::vs)
  |none=>bm (aE M) λt=>bm (om (mR t)) λL=>bm (om (lP L n)) λk=>bm (a8 r e be) λvs=>iM k M vs
 else λ_=>none
def F3(P:bt)(r:aG)(e:AE)(f:Expr)(be:List Expr)(c4:Pos):MM V:=match f with
 | .Attribute o n d=>uf P r e o n be d c4
 |f=>ue P r e f be
noncomputable def fR:Option V->Option (Option Int)
 |none=>some none
 |some (.t (.int k))=>some (some k)
 |_=>none
noncomputable def lR(U:List T)(lo hi st:Option Int):List T:=
 (sliceRange (sliceBounds lo hi st U.length).1 (sliceBounds lo hi st U.length).2.1 (sliceBounds lo hi st U.length).2.2).filterMap (U[·]?)
def qF(t:T)(lo hi st:Option V):MM V:=match t with
 | .list U=>match fR lo,fR hi,fR st with
  |some a,some b,some c=>if c≠some 0/\aJ U.length=true then bP (.list (lR U a b c)) else λ_=>none
  |_,_,_=>λ_=>none
 |_=>λ_=>none
noncomputable def iQ(r:aG)(e:AE):Option Expr->MM (Option V)
 |none=>pm none
 |some x=>bm (r.ev x e) λv=>pm (some v)
def mX(r:aG)(e:AE)(M:V)(i:Expr):MM V:=match i with
 | .Slice lo hi st _=>bm (iQ r e lo) λl=>bm (iQ r e hi) λh=>bm (iQ r e st) λs=>bm (aE M) λt=>qF t l h s
 |i=>bm (r.ev i e) λL=>bm (aE M) λt=>match L with
  | .t k=>om ((dR t k).map .t)
  |_=>λ_=>none
def yn(r:aG)(e:AE)(o i:Expr):MM V:=bm (r.ev o e) λM=>mX r e M i
noncomputable def dE(r:aG)(ce:AE)(Q tg:Expr)(bi:List Expr)(t:T):MM (Option T):=
 bm (r.as tg ce (.t t)) λ_=>bm (oM r ce bi) λb=>if b then bm (r.ev Q ce) λv=>bm (fr v) λu=>pm (some u) else pm none
noncomputable def ie:Expr->Bool
 | .Set _ _ _=>false
 |_=>true
def ug(n lh:Nat)(rr:Except Addr (List T))(c7:af):Option (Except Addr V×af):=match rr with
 | .ok be=>bP (.list be) (trunc n (c7.set lh .dead))
 | .error c=>some (.error c,c7.set lh .dead)
noncomputable def oN{α:Type}(x:Option MO)(y:Option α):Option α:=match x with
 |some (.ns false _)=>y
 |_=>none
def mY(n lh:Nat)(q:Option (Except Addr (List T)×af)):Option (Except Addr V×af):=match q with
 |some (rr,c7)=>oN c7[lh]? (ug n lh rr c7)
 |none=>none
def jx(r:aG)(e:AE)(Q tg:Expr)(bi:List Expr)(sc:Scope)(U:List T):MM V:=λO=>
  bm (new (.ns false [])) (λlh=>match eW e sc lh with
   |some ce=>λc6=>mY O.length lh (bZ (dE r ce Q tg bi) U [] c6)
   |none=>λ_=>none) O
noncomputable def qG:Expr->Bool
 | .Name _ _=>true
 |_=>false
noncomputable def km(sc:Scope):Bool:=sc.kind== .function&&sc.names.all λp=>p.2 != .local||sc.names.lookup p.1==some .local
def fy(r:aG)(e:AE)(Q:Expr)(I:List Comprehension)(sc:Scope):MM V:=match I with
 |[⟨tg,it,bi,0⟩]=>if ie it&&qG tg&&km sc&&(eW e sc 0).isSome then bm (r.ev it e) λx=>bm (fr x) λt=>bm (om (d7 t)) λU=>jx r e Q tg bi sc U else λ_=>none
 |_=>λ_=>none
def uh(g:Addr->Option Str)(e:AE)(ps:Arguments)(b:Expr)(sc:Scope):MM V:=if ps.defaults.isEmpty&&ps.kw_defaults.isEmpty&&decide (g e.code=some (e.qual++nm "<lambda>")) then
   let fs:=(sc.names.filter λp=>p.2== .free).reverse
   match fs.mapM λp=>(e.cells.lookup p.1).map λc=>(p.1,c) with
   |some cl=>bP (.clo ps b sc (e.qual++nm "<lambda>") cl)
   |none=>λ_=>none
  else λ_=>none
def yo(P:bt)(r:aG)(ex:Expr)(e:AE):MM V:=match ex with
 | .Constant c _ _=>ym c
 | .Name n _=>cu P.glob e n
 | .BoolOp w vs _=>gS r e w vs
 | .BinOp a w b _=>bm (r.ev a e) λx=>bm (r.ev b e) λy=>bm (aE x) λs=>bm (aE y) λt=>eH w s t
 | .UnaryOp w a _=>bm (r.ev a e) λv=>qE w v
 | .IfExp c a b _=>bm (r.test c e) λq=>if q then r.ev a e else r.ev b e
 | .Compare a j l _=>bm (r.ev a e) λv=>bm (lQ r e v j l) λb=>pm (.t (.bool b))
 | .Call f be m c4=>match m with
  |[]=>F3 P r e f be c4
  |_::_=>λ_=>none
 | .Attribute o n _=>if fP o then bm (r.ev o e) λM=>qB P.fld M n else λ_=>none
 | .Subscript o i _=>yn r e o i
 | .List l _=>bm (a8 r e l) λvs=>bm (eV fr vs) λts=>if aJ ts.length then bP (.list ts) else λ_=>none
 | .Tuple l _ _=>bm (a8 r e l) λvs=>bm (eV fr vs) λts=>if aJ ts.length then pm (.t (.tuple ts)) else λ_=>none
 | .Dict C vs _=>if C.length<=15&&C.length==vs.length&&C.all (·.isSome) then bm (mV r e C vs) λl=>bP (.dict (l.foldl (λd p=>bj d p.1 p.2) [])) else λ_=>none
 | .ListComp Q I sc _=>fy r e Q I sc
 | .Lambda ps b sc _=>uh P.tb e ps b sc
 |_=>λ_=>none
def stepT(P:bt)(r:aG)(ex:Expr)(e:AE):MM Bool:=match ex with
 | .UnaryOp .Not a _=>bm (r.test a e) λb=>pm !b
 | .BoolOp w l _=>iP r e w l
 | .IfExp c a b _=>bm (r.test c e) λq=>if q then r.test a e else r.test b e
 | .Compare a j l _=>bm (r.ev a e) λv=>lQ r e v j l
 |x=>bm (r.ev x e) λv=>fQ v
noncomputable def mZ(r:aG)(e:AE):List Expr->List T->MM Unit
 |[],[]=>pm ()
 |a::l,t::ts=>bm (r.as a e (.t t)) λ_=>mZ r e l ts
 |_,_=>λ_=>none
def lS(Q:MO)(k:Nat)(it t:T):MM Unit:=match Q with
 | .dict N=>bm (om (cE it)) λf=>if aJ (N.length+1) then put k (.dict (bj N f t)) else λ_=>none
 | .list U=>match it with
  | .int j=>bm (om (if 0<=j&&j<U.length&&j<2^63 then some j.toNat else none)) λj=>put k (.list (U.set j t))
  |_=>λ_=>none
 |_=>λ_=>none
def ui(fld:Addr->Str->Bool)(M:V)(n:Str)(v:V):MM Unit:=match M with
 | .own i=>bm (bw i) λQ=>match Q with
  | .inst C d=>bm (bw d) λc=>match c with
   | .idt fs=>if fld C n&&decide (fs.length<=900) then put d (.idt (dN fs n v)) else λ_=>none
   |_=>λ_=>none
  |_=>λ_=>none
 |_=>λ_=>none
def m7(r:aG)(e:AE)(o i:Expr)(v:V):MM Unit:=match i with
 | .Slice _ _ _ _=>λ_=>none
 |i=>bm (r.ev o e) λM=>bm (r.ev i e) λL=>bm (fr v) λt=>match M,L with
  | .own k,.t it=>bm (bw k) λQ=>lS Q k it t
  |_,_=>λ_=>none
def uj(r:aG)(e:AE)(l:List Expr)(v:V):MM Unit:=if l.all noStar then bm (aE v) λt=>match t with
  | .tuple ts=>if ts.length=l.length then mZ r e l ts else λ_=>none
  | .list ts=>if ts.length=l.length then mZ r e l ts else λ_=>none
  |_=>λ_=>none
 else λ_=>none
def yp(P:bt)(r:aG)(ex:Expr)(e:AE)(v:V):MM Unit:=match ex with
 | .Name n _=>jq e n v
 | .Attribute o n _=>bm (r.ev o e) λM=>ui P.fld M n v
 | .Subscript o i _=>m7 r e o i v
 | .Tuple l _ _=>uj r e l v
 |_=>λ_=>none
noncomputable def noErr{α:Type}(m:MM α):MM α:=λO=>match m O with
 |some (.error _,_)=>none
 |x=>x
def uk(r:aG)(e:AE)(tg:Expr)(j:List Stmt)(U:List T):MM Fl:=λO=>
 dD (λt=>noErr (mW (bm (r.as tg e (.t t)) λ_=>aR r e j) O.length)) U O
set_option tactic.hygienic true in
noncomputable def iR(r:aG)(e:AE)(c:Expr)(j:List Stmt):Nat->MM Fl
 |0=>λ_=>none
 |k+1=>bm (noErr (r.test c e)) λq=>if q then bm (noErr (aR r e j)) λf=>match f with
   | .next=>iR r e c j k
   | .ret v=>pm (.ret v) else pm .next
noncomputable def ig:Expr->Bool
 | .ListComp _ _ _ _| .SetComp _ _ _ _| .DictComp _ _ _ _ _=>false
 |_=>true
set_option backward.match.sparseCases true in
noncomputable def fS(e:AE)(tg x:Expr):Option (Option (List Str)):=match tg,x with
 | .Tuple ts _ _,.Tuple vs _ _=>
  if !(ts.length==2||ts.length==3)||vs.length !=ts.length then some none
  else if vs.any λ| .Starred .. =>true|_=>false then some none
  else
   let c:=(ts.head?.map (·.pos.line)).getD 0
   let d:=ts.filterMap λ
    | .Name id c4=>if e.scope.names.lookup id==some .local&&c4.line==c then some id else none
    |_=>none
   if d.length !=ts.length||d.eraseDups.length !=d.length then some none
   else if vs.all (foldedForSure 8) then some none
   else if vs.all (constantsAlone 8) then none
   else some (some d)
 | .List _ _,_=>none
 |_,_=>some none
noncomputable def kn(e:AE):List Str->List T->MM Unit
 |[],[]=>pm ()
 |n::ns,t::ts=>bm (jq e n (.t t)) λ_=>kn e ns ts
 |_,_=>λ_=>none
def lT(r:aG)(e:AE)(tg:Expr)(v:V):Option (Option (List Str))->MM Unit
 |none=>λ_=>none
 |some none=>r.as tg e v
 |some (some d)=>match v with
  | .t (.tuple ts)=>if ts.length=d.length then kn e d.reverse ts.reverse else λ_=>none
  |_=>λ_=>none
def ij(r:aG)(e:AE)(tg x:Expr):MM Unit:=match x with
 | .ListComp Q I sc _=>bm (fy r e Q I sc) λv=>r.as tg e v
 | .SetComp _ _ _ _=>λ_=>none
 | .DictComp _ _ _ _ _=>λ_=>none
 |x=>bm (r.ev x e) λv=>lT r e tg v (fS e tg x)
noncomputable def yq(x:Option Expr):Option Str:=match x with
 |some (.Name n _)=>some n
 |_=>none
noncomputable def yr(x:Expr):Option Str:=match x with
 | .Constant (.str s) _ _=>some s
 |_=>none
def yt(b:List Stmt):Option Str:=match b with
 |[.Return (some x) _]=>yr x
 |_=>none
def lU:ExceptHandler->Option (Str×Str)
 | .ExceptHandler t none b _=>(yq t).bind λn=>(yt b).map λs=>(n,s)
 |_=>none
def ul(P:bt)(e:AE)(C:Addr)(h:ExceptHandler)(r:MM Fl):MM Fl:=match lU h with
 |some (n,s)=>bm (cu P.glob e n) λf=>match f with
  | .t (.top D)=>if P.exc D&&P.exc C then if P.sub C D then pm (.ret (.t (.str s))) else r else λ_=>none
  |_=>λ_=>none
 |none=>λ_=>none
noncomputable def gU(P:bt)(e:AE)(C:Addr):List ExceptHandler->MM Fl
 |[]=>λO=>some (.error C,O)
 |h::r=>ul P e C h (gU P e C r)
def um(P:bt)(r:aG)(e:AE)(x:Expr):MM Fl:=match x with
 | .Call (.Name n _) be [] _=>if be.all noStar then bm (cu P.glob e n) λf=>match f with
  | .t (.top C)=>if P.exc C then bm (a8 r e be) λvs=>match vs with
   |[.t (.str _)]=>λO=>some (.error C,O)
   |_=>λ_=>none
   else λ_=>none
  |_=>λ_=>none
  else λ_=>none
 |_=>λ_=>none
set_option tactic.hygienic true in
def yu(P:bt)(r:aG)(st:Stmt)(e:AE):MM Fl:=match st with
 | .Expr x _=>if ig x then bm (r.ev x e) λ_=>pm .next else λ_=>none
 | .Pass _=>pm .next
 | .Return x _=>match x with
  |some x=>bm (r.ev x e) λv=>pm (.ret v)
  |none=>pm (.ret (.t .none))
 | .Assign d x _=>match d with
  |[tg]=>if noStar tg then bm (ij r e tg x) λ_=>pm .next else λ_=>none
  |_=>λ_=>none
 | .If c a b _=>bm (r.test c e) λq=>if q then aR r e a else aR r e b
 | .For tg it j i _=>match i with
  |[]=>if ie it then bm (r.ev it e) λx=>bm (fr x) λt=>bm (om (d7 t)) λU=>uk r e tg j U else λ_=>none
  |_::_=>λ_=>none
 | .While c j i p=>match i with
  |[]=>iR r e c j 80
  |_::_=>λ_=>none
 | .Raise x c _=>match x,c with
  |some x,none=>um P r e x
  |_,_=>λ_=>none
 | .Try j hs i cl _=>match hs,i,cl with
  |h0::hs,[],[]=>λO=>match aR r e j O with
   |some (.error C,M)=>gU P e C (h0::hs) M
   |x=>x
  |_,_,_=>λ_=>none
 |_=>λ_=>none
def dS(r:aG)(sc:Scope)(i:Str)(code:Addr)(cl:List (Str×Nat))(H:List (Str×V))(run:AE->MM V):MM V:=λO=>
 bm (new (.ns true [])) (λlh=>bm (et sc.names cl) λcl=>bm (gT ⟨sc,lh,cl,i++nm ".<locals>.",code⟩ H) λ_=>
  bm (run ⟨sc,lh,cl,i++nm ".<locals>.",code⟩) λv=>fw O.length v) O
set_option tactic.hygienic true in
noncomputable def eu(r:aG)(j:List Stmt)(e:AE):MM V:=bm (aR r e j) λfl=>match fl with| .ret v=>pm v| .next=>pm (.t .none)
noncomputable def gg(ps:Arguments):Bool:=ps.posonlyargs.isEmpty&&ps.kwonlyargs.isEmpty&&ps.vararg.isNone&&ps.kwarg.isNone&&decide (ps.args.map (·.arg)).Nodup
noncomputable def gV(sc:Scope):Bool:=sc.kind== .function&& !sc.isCoroutine&& !sc.isGenerator
def m8(r:aG)(fi:kh)(be:List V):MM V:=match fi.st with
 | .FunctionDef _ ps j _ _ _ sc _ _ _=>bm (om (d8 ps.args be fi.dfl)) λH=>dS r sc fi.qual fi.code [] H (eu r j)
 |_=>λ_=>none
noncomputable def qH(fs:List (Str×V)):Option (List (Str×T)):=match fs with
 |[]=>some []
 |(k,.t t)::r=>(qH r).map ((k,t)::·)
 |_=>none
def qI(C d i n:Nat)(fs:List (Str×V)):MM V:=λO=>match qH fs with
 |some ts=>some (.ok (.t (.inst C ts)),trunc n ((O.set d .dead).set i .dead))
 |none=>some (.ok (.own i),(O.set d .dead).set i (.sh C fs))
def F4(C d i n:Nat)(c b:MO):MM V:=match c with
 | .idt fs=>match b with
  | .inst f g=>if f=C/\g=d then qI C d i n fs else λ_=>none
  |_=>λ_=>none
 |_=>λ_=>none
def yv(C d i n:Nat)(f:V):MM V:=λO=>aT f λt=>tV t (bm (bw d) (λc=>bm (bw i) λb=>F4 C d i n c b) O)
def uo(P:bt)(r:aG)(C g:Addr)(be:List V):MM V:=match P.fns g with
 |none=>λ_=>none
 |some fi=>λO=>bm (new (.idt [])) (λd=>bm (new (.inst C d)) λi=>bm (m8 r fi (.own i::be)) (yv C d i O.length)) O
def ik(P:bt)(r:aG)(a:Addr)(be:List V):MM V:=match P.fns a with
 |some fi=>m8 r fi be
 |none=>match P.init a with
  |some g=>uo P r a g be
  |none=>λ_=>none
def m9(P:bt)(r:aG)(a:Addr)(be:List V)(p:Pk)(x:Option (Option (Except Addr T×af))):MM V:=λO=>match x with
 |none=>ik P r a be O
 |some none=>none
 |some (some (.ok t,S))=>(unpack p.σ p.σ S O).map λM=>(.ok (.t t),M)
 |some (some (.error c,S))=>(unpack p.σ p.σ S O).map λM=>(.error c,M)
def fT(P:bt)(r:aG)(a:Addr)(be:List V):MM V:=λO=>match iO O be ⟨[],[]⟩ with
 |none=>ik P r a be O
 |some (bi,p)=>m9 P r a be p (P.con a bi p.S) O
def yw(P:bt)(r:aG)(f:V)(be:List V):MM V:=match f with
 | .t t=>match t with
  | .top a=>fT P r a be
  |t=>yb P t be
 | .own k=>bm (bw k) λQ=>match Q with
  | .clo ps b sc q cl=>if gg ps&&gV sc then bm (om (d8 ps.args be [])) λH=>dS r sc q 0 cl H (r.ev b) else λ_=>none
  |_=>λ_=>none
noncomputable def yx:aG:=⟨λ_ _ _=>none,λ_ _ _=>none,λ_ _ _=>none,λ_ _ _ _=>none,λ_ _ _=>none⟩
def yy(P:bt)(r:aG):aG:=⟨yo P r,stepT P r,yu P r,yp P r,yw P r⟩
noncomputable def uq(P:bt):Nat->aG
 |0=>yx
 |n+1=>yy P (uq P n)
structure Rm (A:Around) (l:List Env) (n:Nat):Prop where
 handled:A.handled=none
 frames:A.frames=some l
 depth:A.depth+2*n<=998
 units:A.units+8*n<=9800
theorem Rm.mono(h:Rm A l n)(k:m<=n):Rm A l m:=⟨h.handled,h.frames,by have:=h.depth;exact EQ k this,by have:=h.units;exact ES k this⟩
def aD(b1:Cx)(r g:ay)(b2:List Addr)(l:List Env)(O:af)(a:Addr):Prop:=
 g a=none/\r a=none/\¬b1.tab a/\(∀(i:Nat)(Q:MO),O[i]? =some Q->b2[i]? =some a->isFz Q=true)/\∀e∈l,e.frame≠some a
def dg(b1:Cx)(r g:ay)(b2:List Addr)(l:List Env)(O:af)(h:Heap)(C:Addr)(e:Addr):Prop:=
 ∃o vs,h.get? e=some o/\o.cls= .ref C/\o.data= .fields vs/\vs.size=6/\aD b1 r g b2 l O e/\
  (vs[1]? =some .none\/∃t i vt,vs[1]? =some (.ref t)/\h.get? t=some i/\i.data= .fields vt/\3<vt.size/\t≠e/\aD b1 r g b2 l O t/\i.cls≠ .type "frame")
def bk(s:Shared)(g:ay)(b2:List Addr)(s':Shared)(b6:ay)(b4:List Addr):Prop:=
 (∃h tk,s'={s with heap:=h,toks:=tk})/\aZ g b6/\bu b2 b4
theorem bk.refl(s:Shared)(g:ay)(b2:List Addr):bk s g b2 s g b2:=⟨⟨s.heap,s.toks,rfl⟩,.refl _,.refl _⟩
theorem bk.trans{g bs c5:ay}(x:bk s g b2 cf bs Y)(y:bk cf bs Y cv c5 bl):bk s g b2 cv c5 bl:=by
 (refine aw x λD a b=>?_;clear x;rcases D with⟨h,tk,rfl⟩);(refine aw y λD I G=>?_;clear y;rcases D with⟨b5,i,rfl⟩);exact⟨⟨b5,i,rfl⟩,a.trans I,b.trans G⟩
abbrev Rl(α β:Type):=ay->List Addr->α->β->Prop
def PQ{α β:Type}(R:Rl α β)(b1:Cx)(r:ay)(l:List Env)(s:Shared)(g:ay)(b2:List Addr)(B:Except Addr α×af)(x:β)(s':Shared):Prop:=
 ∃b6 b4 a,B.1= .ok a/\bk s g b2 s' b6 b4/\St b1 r b6 b4 l B.2 s'.heap/\R b6 b4 a x
def PE{α:Type}(b1:Cx)(r:ay)(l:List Env)(s:Shared)(g:ay)(b2:List Addr)(B:Except Addr α×af)(x:Value)(s':Shared):Prop:=
 ∃b6 b4 c e,B.1= .error c/\bk s g b2 s' b6 b4/\St b1 r b6 b4 l B.2 s'.heap/\x= .ref e/\dg b1 r b6 b4 l B.2 s'.heap c e
section
variable {J:Program}{b1:Cx}{r:ay}{l:List Env}{A:Around}{α β γ δ:Type}
theorem PQ.up{R:Rl α β}{g bs:ay}{B:Except Addr α×af}{x:β}(k:bk s g b2 cf bs Y)(h:PQ R b1 r l cf bs Y B x s'):PQ R b1 r l s g b2 B x s':=by
 refine ch h λb6 b4 a e p q z=>⟨b6,b4,a,e,k.trans p,q,z⟩
theorem PE.up{g bs:ay}{B:Except Addr α×af}(k:bk s g b2 cf bs Y)(h:PE b1 r l cf bs Y B x s'):PE b1 r l s g b2 B x s':=by
 refine bc λno=>bH h λb6 b4 c ex cv=>bK cv λe p q z=>no (⟨b6,b4,c,ex,e,k.trans p,q,z⟩)
def aa(J:Program)(b1:Cx)(r:ay)(l:List Env)(A:Around)(R:Rl α β)(g:ay)(b2:List Addr)(t:Sem β)(m:MM α):Prop:=
 ∀O B s bs Y,aZ g bs->bu b2 Y->St b1 r bs Y l O s.heap->m O=some B->wpAny (model J b1.w) A t (PQ R b1 r l s bs Y B) (PE b1 r l s bs Y B) s
variable {R:Rl α β}{G:Rl γ δ}{g b6:ay}{b2 b4:List Addr}
theorem aa.later{t:Sem β}{m:MM α}(h:aa J b1 r l A R g b2 t m)(hg:aZ g b6)(hr:bu b2 b4):aa J b1 r l A R b6 b4 t m:=
 λO B s bs Y a b=>h O B s bs Y (hg.trans a) (hr.trans b)
theorem aa.bind{t:Sem β}{m:MM α}{k:β->Sem δ}{f:α->MM γ}(h:aa J b1 r l A R g b2 t m)
  (hk:∀bs Y a x,aZ g bs->bu b2 Y->R bs Y a x->aa J b1 r l A G bs Y (k x) (f a)):aa J b1 r l A G g b2 (t>>=k) (bm m f):=by
 intro O B s bs Y a b S e;unfold bm at e;refine ae ?_
 cases hm:m O with
 |none=>rw[hm] at e;exact nso e
 |some q=>
  rcases q with⟨q1,c6⟩
  cases q1 with
  |error c=>
   rw[hm] at e;cases e;refine eb (h O _ s bs Y a b S hm) (λx s' z=>?_) λx s' z=>?_
   .refine d0 z λ_ _ _ z _=>eoe z
   .refine cT z λc5 bl c' ex e1 e2=>⟨c5,bl,c',ex,by(have za:=ere e1;clear e1;cases za);rfl,e2⟩
  |ok v=>
   rw[hm] at e;refine eb (h O _ s bs Y a b S hm) (λx s' z=>?_) λx s' z=>?_
   ·(refine ch z λc5 bl v' e1 p H hR=>?_;clear z);(have za:=oke e1;clear e1;cases za);exact eb (hk c5 bl v x (a.trans p.2.1) (b.trans p.2.2) hR c6 B s' c5 bl (.refl _) (.refl _) H e) (λ_ _ z=>z.up p) λ_ _ z=>z.up p
   .refine cT z λ_ _ _ _ z _=>oee z
theorem aa.pure{a:α}{x:β}(h:∀b6 b4,aZ g b6->bu b2 b4->R b6 b4 a x):aa J b1 r l A R g b2 (pure x) (pm a):=by
 intro O B s bs Y p q S e;cases e;exact ar ⟨bs,Y,a,rfl,.refl _ _ _,S,h _ _ p q⟩
theorem aa.none{t:Sem β}:aa J b1 r l A R g b2 t (λ_=>none:MM α):=λO B s bs Y _ _ _ e=>nomatch e
theorem aa.standAt{k:Unit->Sem β}{m:MM α}(h:aa J b1 r l A R g b2 (k ()) m):aa J b1 r l A R g b2 (standAt p>>=k) m:=
 λO B s bs Y a b S e=>ae (le (h O B s bs Y a b S e))
theorem aa.rule{k:Unit->Sem β}{m:MM α}(h:aa J b1 r l A R g b2 (k ()) m):aa J b1 r l A R g b2 (rule tag>>=k) m:=
 λO B s bs Y a b S e=>ae (wpAny_rule (h O B s bs Y a b S e))
theorem aa.holding{t:Sem β}{m:MM α}(h:aa J b1 r l A R g b2 t m):aa J b1 r l A R g b2 (holding vs t) m:=
 λO B s bs Y a b S e=>hy (h O B s bs Y a b S e)
theorem aa.operate{t:Sem Value}{m:MM α}{R:Rl α Value}(h:aa J b1 r l A R g b2 t m):aa J b1 r l A R g b2 (operate vs t) m:=
 λO B s bs Y a b S e U p I=>by rw[Sem.wp_operate];exact h O B s bs Y a b S e U p I
theorem aa.eqT{t t':Sem β}{m:MM α}(e:t=t')(h:aa J b1 r l A R g b2 t' m):aa J b1 r l A R g b2 t m:=e▸h
theorem aa.tok{f:Tok->β}{a:α}(h:∀b6 b4 t,aZ g b6->bu b2 b4->R b6 b4 a (f t)):aa J b1 r l A R g b2 (do let t<-fresh;Pure.pure (f t)) (pm a):=by
 intro O B s bs Y p q S e;cases e;exact ae (wpAny_fresh (ar ⟨bs,Y,a,rfl,⟨⟨s.heap,s.toks+1,rfl⟩,.refl _,.refl _⟩,S,h _ _ _ p q⟩))
end
def RV(w:World):Rl V Value:=λg b2 v x=>VR w g b2 v x
def RT(w:World):Rl T Value:=λg _ v x=>TR w g v x
def yz(w:World):Rl (List V) (List Value):=λg b2 v x=>LR (VR w g b2) v x
def RB:Rl Bool Bool:=λ_ _ a b=>a=b
def RU{α β:Type}:Rl α β:=λ_ _ _ _=>True
set_option tactic.hygienic true in
def RF(w:World):Rl Fl Flow:=λg b2 a b=>match a,b with
 | .next,.next=>True
 | .ret v,.ret x=>VR w g b2 v x
 |_,_=>False
structure ER (cx:Cx) (l:List Env) (g:ay) (ρ:List Addr) (e:AE) (env:Env):Prop where
 scope:env.scope=e.scope
 kind:e.scope.kind= .function
 loc:ρ[e.lh]? =some env.locals
 globals:env.globals=mainGlobals
 cells:ck ρ e.cells env.cells
 qual:env.qual=e.qual
 code:e.code≠0->env.code= .ref e.code
 builtins:env.builtins=builtinsNs
 frame:∃e'∈l,e'.frame=env.frame
theorem ER.mono{g b6:ay}(h:ER b1 l g b2 e env)(hg:aZ g b6)(hr:bu b2 b4):ER b1 l b6 b4 e env:=
 ⟨h.scope,h.kind,hr _ _ h.loc,h.globals,h.cells.mono hr,h.qual,h.code,h.builtins,h.frame⟩
theorem LR.up{g b6:ay}(h:LR (VR w g b2) vs U)(hg:aZ g b6)(hr:bu b2 b4):LR (VR w b6 b4) vs U:=h.mono' (VR.mono hg hr)
structure aL (prog:Program) (cx:Cx) (n:Nat) (rc:aG):Prop where
 ev:∀{A l r g ρ e env},Rm A l n->ER cx l g ρ e env->∀ex,aa prog cx r l A (RV cx.w) g ρ (eval ex env) (rc.ev ex e)
 test:∀{A l r g ρ e env},Rm A l n->ER cx l g ρ e env->∀ex,aa prog cx r l A RB g ρ (isTrue ex env (eval ex env)) (rc.test ex e)
 ex:∀{A l r g ρ e env},Rm A l n->ER cx l g ρ e env->∀st,aa prog cx r l A (RF cx.w) g ρ (exec st env) (rc.ex st e)
 as:∀{A l r g ρ e env},Rm A l n->ER cx l g ρ e env->∀ex v x,VR cx.w g ρ v x->aa prog cx r l A RU g ρ (assign ex env x) (rc.as ex e v)
 call:∀{A l r g ρ},Rm A l n->∀f args fx xs,VR cx.w g ρ f fx->LR (VR cx.w g ρ) args xs->aa prog cx r l A (RV cx.w) g ρ (call fx xs) (rc.call f args)
 star:∀a p e O,rc.ev (.Starred a p) e O=none
 set:∀a k p e O,rc.ev (.Set a k p) e O=none
theorem F5(J:Program)(b1:Cx)(n:Nat):aL J b1 n yx:=
 ⟨λ_ _ _=> .none,λ_ _ _=> .none,λ_ _ _=> .none,λ_ _ _ _ _ _=> .none,λ_ _ _ _ _ _ _=> .none,λ_ _ _ _=>rfl,λ_ _ _ _ _=>rfl⟩
structure Gl (cx:Cx) (P:bt) (mg mb:Str->Option Value):Prop where
 g:cx.B.Ns mainGlobals mg
 b:cx.B.Ns builtinsNs mb
 nolimit:cx.B.NoLimit
 glob:∀n t,P.glob n=some t->∃x,(mg n=some x\/(mg n=none/\mb n=some x))/\TR cx.w cx.B.get? t x
section
variable {J:Program}{b1:Cx}{r g:ay}{b2:List Addr}{l:List Env}{A:Around}{α β γ δ:Type}{P:bt}{b7 mb:Str->Option Value}{n:Nat}{rc:aG}{e:AE}{env:Env}{O:af}{h:Heap}
theorem St.ground(S:St b1 r g b2 l O h):∀b o,b1.B.get? b=some o->h.get? b=some o:=λb o e=>S.fr b o (S.base b o e)
theorem St.baseLe(S:St b1 r g b2 l O h):aZ b1.B.get? g:=S.base
theorem gW{m:MM α}{f:α->MM β}{B:Except Addr β×af}{P:Prop}(h:bm m f O=some B)(k:∀a c6,m O=some (.ok a,c6)->f a c6=some B->P)(U:∀c c6,m O=some (.error c,c6)->B=(.error c,c6)->P):P:=by
 unfold bm at h
 cases hm:m O with
 |none=>rw[hm] at h;exact nso h
 |some q=>
  rw[hm] at h;rcases q with⟨a,c6⟩
  cases a with
  |ok a=>exact k a c6 hm h
  |error c=>exact U c c6 hm (ai h).symm
theorem ed{m:MM α}{f:α->MM β}{B:Except Addr β×af}(h:bm m f O=some B):
  (∃a c6,m O=some (.ok a,c6)/\f a c6=some B)\/(∃c c6,m O=some (.error c,c6)/\B=(.error c,c6)):=
 gW h (λa c6 e q=> .inl ⟨a,c6,e,q⟩) λc c6 e q=> .inr ⟨c,c6,e,q⟩
theorem az{m:MM α}{f:α->MM β}{a:α}(h:m O=some (.ok a,M)):bm m f O=f a M:=by unfold bm;exact rwm _ rfl h
theorem aa.run{b1:Cx}{r g:ay}{α β γ:Type}{R:Rl α β}{t:Sem β}{m:MM α}{f:α->MM γ}{s:Shared}{B:Except Addr γ×af}{Q:β->Shared->Prop}{E:Value->Shared->Prop}
  (h:aa J b1 r l A R g b2 t m)(S:St b1 r g b2 l O s.heap)(q:bm m f O=some B)(k:∀a y c6 s' b6 b4,f a c6=some B->bk s g b2 s' b6 b4->St b1 r b6 b4 l c6 s'.heap->R b6 b4 a y->Q y s')
  (ke:∀x s',PE b1 r l s g b2 B x s'->E x s'):wpAny (model J b1.w) A t Q E s:=by
 refine gW q (λa c6 e1 e2=>?_) λc c6 e1 e2=>?_<;>refine eb (h O _ s g b2 (.refl _) (.refl _) S e1) (λy s' z=>?_) λx s' z=>?_
 ·(refine ch z λb6 b4 I e3 p H hR=>?_;clear z);have e3:Except.ok a=Except.ok I:=e3;have e3:=oke e3;subst e3;exact k a y c6 s' b6 b4 e2 p H hR
 .refine cT z λ_ _ _ _ e3 _=>oee e3
 .refine d0 z λ_ _ _ e3 _=>eoe e3
 ·(refine oq z λb6 b4 c' ex e3 p H hx X=>?_;clear z);have e3:=ere e3;clear q k;subst e3 e2;exact ke x s' ⟨b6,b4,_,ex,rfl,p,H,hx,X⟩
theorem yA{O:af}{B:Except Addr MO×af}(h:bw i O=some B):∃Q,O[i]? =some Q/\B=(.ok Q,O):=by
 unfold bw at h
 cases e:O[i]?with
 |none=>rw[e] at h;exact nso h
 |some Q=>rw[e] at h;exact⟨Q,rfl,(ai h).symm⟩
theorem du{B:Except Addr α×af}(h:om x O=some B):∃a,x=some a/\B=(.ok a,O):=by
 cases x with
 |none=>exact nso h
 |some a=>exact⟨a,rfl,(ai h).symm⟩
theorem dF{f:MO->MM β}{O:af}{B:Except Addr β×af}(h:bm (bw i) f O=some B):∃Q,O[i]? =some Q/\f Q O=some B:=by
 (refine bc λno=>a2 (ed h) (λzz=>aq zz λa c6 bi=>ac bi λe1 e2=>no ?_) (λzz=>aq zz λc c6 bi=>ac bi λe1 e2=>no ?_)<;>clear bi zz no)
 .refine al (yA e1) λQ x y=>?_;cases y;exact⟨_,x,e2⟩
 .refine al (yA e1) λQ x y=>?_;cases y
theorem dG{f:α->MM β}{B:Except Addr β×af}(h:bm (om x) f O=some B):∃a,x=some a/\f a O=some B:=by
 (refine bc λno=>a2 (ed h) (λzz=>aq zz λa c6 bi=>ac bi λe1 e2=>no ?_) (λzz=>aq zz λc c6 bi=>ac bi λe1 e2=>no ?_)<;>clear bi zz no)
 .refine al (du e1) λQ x y=>?_;cases y;exact⟨_,x,e2⟩
 .refine al (du e1) λQ x y=>?_;cases y
theorem PQ.here{R:Rl α β}{s:Shared}{a:α}{x:β}(S:St b1 r g b2 l O s.heap)(k:R g b2 a x):PQ R b1 r l s g b2 (.ok a,O) x s:=⟨g,b2,a,rfl,.refl _ _ _,S,k⟩
theorem PQ.tok{R:Rl α β}{s:Shared}{a:α}{x:β}{tk:Tok}(S:St b1 r g b2 l O s.heap)(k:R g b2 a x):PQ R b1 r l s g b2 (.ok a,O) x {s with toks:=tk}:=⟨g,b2,a,rfl,⟨⟨s.heap,tk,rfl⟩,.refl _,.refl _⟩,S,k⟩
theorem F6{env:Env}(hk:env.scope.kind= .function)(hl:env.kindOf x=some .globalImplicit\/env.kindOf x=some .globalExplicit):loadName env x=loadGlobal env x:=by
 unfold loadName;rcases hl with hl|hl<;>simp [Env.blockKind,hk,hl,ScopeKind.isAnnotationScope]
theorem F7(G:Gl b1 P b7 mb)(he:ER b1 l g b2 e env)(x:Str)(hx:(x==("__debug__":Str))=false)(M:(x==("__classdict__":Str))=false):aa J b1 r l A (RV b1.w) g b2 (loadName env x) (qw P.glob e x):=by
 intro O B s bs Y hg hr S q;have he:=he.mono hg hr;have hk:env.scope.kind= .function:=by refine rwm _ ?_ he.scope;exact he.kind
 have b:env.kindOf x=e.scope.names.lookup x:=by unfold Env.kindOf;exact rwm _ rfl he.scope
 have d:∀k:NameKind,env.kindOf x=some .globalImplicit\/env.kindOf x=some .globalExplicit->om ((P.glob x).map V.t) O=some B->wpAny (model J b1.w) A (loadName env x) (PQ (RV b1.w) b1 r l s bs Y B) (PE b1 r l s bs Y B) s:=by
  intro k i q;(refine ag (du q) λv c1=>ac c1 λe2 bo=>?_;clear c1;subst bo);(refine ag (Option.map_eq_some_iff.mp e2) λt c1=>ac c1 λht bo=>?_;clear c1;subst bo);refine rwm _ ?_ (F6 hk i);refine al (G.glob x t ht) λy L hv=>?_;have hv:=TR.mono S.baseLe _ _ hv;unfold loadGlobal;refine rwm _ (rwm _ ?_ he.builtins) he.globals;refine ae (wpAny_nsGet (G.g.keeps S.ground) ?_);rcases L with L|⟨L,f⟩
  .refine rwm _ ?_ L;exact ar (PQ.here S hv)
  .refine rwm _ ?_ L;refine ae (wpAny_nsGet (G.b.keeps S.ground) ?_);refine rwm _ ?_ f;exact ar (PQ.here S hv)
 have cell:(hl:env.kindOf x=some .cell\/env.kindOf x=some .free)->(match e.cells.lookup x with
  |some c=>bm (bw c) λQ=>match Q with
   | .cell v=>om v
   |_=>λ_=>none
  |none=>λ_=>none:MM V) O=some B->wpAny (model J b1.w) A (loadName env x) (PQ (RV b1.w) b1 r l s bs Y B) (PE b1 r l s bs Y B) s:=by
  intro hl q
  cases hc:e.cells.lookup x with
  |none=>rw[hc] at q;exact nso q
  |some c=>
   rw[hc] at q;refine al (dF q) λQ e1 q=>?_
   cases Q with
   |cell v=>
    (refine ag (du q) λv c1=>ac c1 λc2 bo=>?_;clear c1;subst c2;subst bo);refine al (he.cells.get hc) λa ha w=>al (S.own _ _ _ e1 w) λy ho hv=>?_
    cases y with
    |none=>exact hv.elim
    |some y=>
     rcases hl with hl|hl
     .exact wpAny_loadName_cell hk hl ha ⟨_,ho,rfl⟩ (PQ.here S hv)
     .exact wpAny_loadName_free hk hl ha ⟨_,ho,rfl⟩ (PQ.here S hv) M
   |_=>exact nso q
 unfold qw at q
 cases hl:e.scope.names.lookup x with
 |none=>rw[hl] at q;exact nso q
 |some k=>
  rw[hl] at b q;clear hl;cases k
  .refine al (dF q) λQ e1 q=>?_
   cases Q with
   |ns N=>
    (refine ag (du q) λv c1=>ac c1 λe2 bo=>?_;clear c1;subst bo);refine lz (S.own _ _ _ e1 he.loc) λo m ho hn hf hz p=>al (hf.get e2) λy L hv=>wpAny_loadName_local hk b (xI.mpr ⟨o,ho,hn⟩) L (PQ.here S hv)
   |_=>exact nso q
  .exact cell (.inl b) q
  .exact cell (.inr b) q
  .exact d .local (.inr b) q
  .exact d .local (.inl b) q
end
section
variable {J:Program}{b1:Cx}{r g b6:ay}{b2 b4:List Addr}{l:List Env}{A:Around}{α β γ δ:Type}{P:bt}{b7 mb:Str->Option Value}{n:Nat}{rc:aG}{e:AE}{env:Env}{O:af}{h:Heap}
theorem dw{m:MM α}{f:α->MM β}{k:β->MM γ}:bm (bm m f) k=bm m λa=>bm (f a) k:=by
 funext O
 simp only[bm]
 cases m O with
 |none=>rfl
 |some q=>rcases q with⟨q1,c6⟩;cases q1<;>rfl
theorem St.freeze1(S:St b1 r g b2 l O h){ob:Obj}(hi:O[i]? =some Q)(hf:isFz Q=false)(ha:b2[i]? =some a)(ho:h.get? a=some ob)(hc:ob.cls≠ .type "frame")
  (ht:TR b1.w (upd g a ob) t (.ref a)):aZ g (upd g a ob)/\St b1 r (upd g a ob) b2 l (O.set i (.fz t)) h:=by
 (refine bc λno=>aw (S.free i Q a hi ha hf) λf1 f2 v=>no ?_;clear no);have S1:St b1 r g b2 l (O.set i .dead) h:=S.fz ha rfl trivial;have S2:=S1.hold ho f1 f2 v (λe he q=>by
   (refine bc λno=>ac (S.frs e he) λ_ M=>aq M λL o' D=>bK D λe1 e2 e3 _=>no ?_;clear D M no);rw[q] at e1;cases e1;rw[ho] at e2;cases e2;exact hc e3) (λj f e1 e2=>by
   (refine bc λno=>a2 (ia e1) (λzz=>aw zz λ_ y _=>no ?_) (λzz=>ac zz λq e1=>no ?_)<;>clear zz no)
   .subst y;rfl
   .cases z:isFz f with
    |true=>rfl
    |false=>exact absurd (S.nd j i _ _ a e1 hi z hf e2 ha) q)
 have S3:=S2.fz (Q:= .fz t) ha rfl ht;rw[List.set_set] at S3;exact⟨aZ.upd ob f1,S3⟩
def iS(b1:Cx)(r:ay)(b2:List Addr)(l:List Env)(h:Heap)(R:ay->α->Prop)(g:ay)(B:Except Addr α×af):Prop:=
 ∃t M b6,B=(.ok t,M)/\aZ g b6/\St b1 r b6 b2 l M h/\R b6 t
theorem iS.run{R:ay->α->Prop}{m:MM α}{f:α->MM β}{B:Except Addr β×af}{C:Prop}(e:bm m f O=some B)(H:∀q,m O=some q->iS b1 r b2 l h R g q)
  (k:∀t M b6,aZ g b6->St b1 r b6 b2 l M h->R b6 t->f t M=some B->C):C:=
 gW e (λt M e1 e=>(H _ e1).elim λt' z=>z.elim λc6 z=>z.elim λb6 z=>by
  have q:=z.1;cases q;exact k _ _ b6 z.2.1 z.2.2.1 z.2.2.2 e) λc M e1 _=>(H _ e1).elim λt' z=>z.elim λc6 z=>z.elim λb6 z=>by have q:=z.1;cases q
theorem F8(ih:∀(v:V)(x:Value)(g:ay)(O:af)(B:Except Addr T×af),St b1 r g b2 l O h->VR b1.w g b2 v x->oG n v O=some B->iS b1 r b2 l h (λg t=>TR b1.w g t x) g B)
  (fs:List (Str×V))(m:Str->Option Value)(g:ay)(O:af)(B:Except Addr (List (Str×T))×af)(S:St b1 r g b2 l O h)(H:FR (VR b1.w g b2) fs m)(e:t4 (oG n) fs O=some B):
   iS b1 r b2 l h (λg ts=>FR (TR b1.w g) ts m/\ts.map (·.1)=fs.map (·.1)) g B:=by
 induction fs generalizing g O B with
 |nil=>cases e;exact⟨[],O,g,rfl,.refl _,S,trivial,rfl⟩
 |cons p fs i=>
  refine H.1.elim λx hx=>iS.run e (λq e=>ih p.2 x g O q S hx.2 e) λt c6 bs hg c ht e=>iS.run e (λq e=>i bs c6 q c (H.2.mono' (VR.mono hg (.refl _))) e) λts c7 c5 d b f e=>?_;cases e;exact⟨_,_,c5,rfl,hg.trans d,b,⟨⟨x,hx.1,TR.mono d _ _ ht⟩,f.1⟩,hS (p.1::·) f.2⟩
theorem yB{ob:Obj}(S:St b1 r g b2 l O h)(hi:O[i]? =some Q)(hf:isFz Q=false)(ha:b2[i]? =some a)(ho:h.get? a=some ob)(hc:ob.cls≠ .type "frame")
  (ht:∀b6,aZ g b6->b6 a=some ob->TR b1.w b6 t (.ref a)):iS b1 r b2 l h (λg t=>TR b1.w g t (.ref a)) g (.ok t,O.set i (.fz t)):=
 have f:=ht _ (aZ.upd ob (S.free i Q a hi ha hf).1) (eS _ _ _);have q:=S.freeze1 hi hf ha ho hc f
 ⟨t,_,_,rfl,q.1,q.2,f⟩
theorem na(n:Nat)(v:V)(x:Value)(g:ay)(O:af)(B:Except Addr T×af)(S:St b1 r g b2 l O h)(hv:VR b1.w g b2 v x)(e:oG n v O=some B):∃t M b6,B=(.ok t,M)/\aZ g b6/\St b1 r b6 b2 l M h/\TR b1.w b6 t x:=by
 refine(?_:iS b1 r b2 l h (λg t=>TR b1.w g t x) g B)
 induction n generalizing v x g O B with
 |zero=>
  cases v with
  |own i=>exact nso e
  |t t=>cases e;exact⟨t,O,g,rfl,.refl _,S,hv⟩
 |succ n ih=>
  cases v with
  |t t=>cases e;exact⟨t,O,g,rfl,.refl _,S,hv⟩
  |own i=>
   refine hv.elim λa hv=>?_;refine rwm _ ?_ hv.2;have ha:=hv.1;clear hv;refine al (dF e) λQ hi e=>?_;have w:=S.own i Q a hi ha
   cases Q with
   |list U=>
    cases e;exact w.elim λys w=>w.elim λep w=>yB S hi rfl ha w.1 (by simp) λb6 hg q=>⟨a,ys,ep,rfl,q,TRs.mono hg _ _ w.2⟩
   |dict N=>
    cases e;exact w.elim λys w=>w.elim λep w=>yB S hi rfl ha w.1 (by simp) λb6 hg q=>⟨a,ys,ep,rfl,q,TRd.mono hg _ _ w.2.1,w.2.2⟩
   |fz t=>cases e;exact⟨t,O,g,rfl,.refl _,S,w⟩
   |sh C fs=>
    refine w.elim λd w=>w.elim λod w=>w.elim λm w=>iS.run e (λq e=>F8 ih fs m g O q S w.2.2.2.1 e) λts M bs hg c f e=>?_;cases e;have G:TR b1.w bs (.inst C ts) (.ref a):=⟨a,d,od,m,rfl,hg _ _ w.1,hg _ _ w.2.1,w.2.2.1,tQ.mpr f.1,λn hn=>w.2.2.2.2 n (f.2▸hn)⟩;exact⟨.inst C ts,_,bs,rfl,hg,c.fz ha rfl G,G⟩
   |_=>exact nso e
theorem aa.freeze{R:Rl α β}{t:Sem β}{f:T->MM α}(hv:VR b1.w g b2 v x)
  (k:∀bs Y u,aZ g bs->bu b2 Y->TR b1.w bs u x->aa J b1 r l A R bs Y t (f u)):aa J b1 r l A R g b2 t (bm (fr v) f):=λO B s bs Y a b S q=>
 iS.run q (λq e=>na 4 v x bs O q S (VR.mono a b _ _ hv) e) λu M c5 hg c ht e=>
  eb (k c5 Y u (a.trans hg) b ht M B s c5 Y (.refl _) (.refl _) c e) (λ_ _ z=>z.up ⟨⟨s.heap,s.toks,rfl⟩,hg,.refl _⟩) λ_ _ z=>z.up ⟨⟨s.heap,s.toks,rfl⟩,hg,.refl _⟩
theorem aa.freezes{R:Rl α β}{t:Sem β}{g:ay}{f:List T->MM α}(h:LR (VR b1.w g b2) vs U)
  (k:∀bs Y C,aZ g bs->bu b2 Y->TRs b1.w bs C U->aa J b1 r l A R bs Y t (f C)):aa J b1 r l A R g b2 t (bm (eV fr vs) f):=by
 induction vs generalizing U g b2 f with
 |nil=>exact k g b2 [] (.refl _) (.refl _) (fo.mpr h)
 |cons v vs ih=>
  refine h.elim λy h=>h.elim λys h=>?_;have e:bm (eV fr (v::vs)) f=bm (fr v) λu=>bm (eV fr vs) λC=>f (u::C):=dw.trans (hS (bm _) (funext λ_=>dw));refine rwm _ ?_ e;exact aa.freeze h.2.1 λbs Y u hg hr hu=>ih (h.2.2.up hg hr) λc5 bl C d m b=>k c5 bl (u::C) (hg.trans d) (hr.trans m) ⟨y,ys,h.1,TR.mono d _ _ hu,b⟩
def HR(w:World)(g:ay)(h:Heap)(t:T)(x:Value):Prop:=match t with
 | .list U=>∃a ys ep,x= .ref a/\h.get? a=some ⟨.type "list",.none,.seq ys ep,#[]⟩/\TRs w g U ys.toList
 | .dict N=>∃a es ep,x= .ref a/\h.get? a=some ⟨.type "dict",.none,.dict es ep,#[]⟩/\TRd w g N es.toList/\(N.map (·.1)).Nodup/\a≠sysModules
 |t=>TR w g t x
theorem TR.hr(S:St b1 r g b2 l O h)(k:TR b1.w g t x):HR b1.w g h t x:=by
 cases t<;>first|exact k|skip
 .refine h9 k λa ys ep e q z=>⟨a,ys,ep,e,S.fr _ _ q,z⟩
 .refine h9 k λa ys ep e q z=>⟨a,ys,ep,e,S.fr _ _ q,z⟩
theorem yC(x:Value):(t:T)->TR w g t x->TR w g (strip t) x
 | .box k t,h=>yC x t (by exact h.2)
 | .none,h=>h
 | .bool _,h=>h
 | .int _,h=>h
 | .str _,h=>h
 | .bytes _,h=>h
 | .typ _,h=>h
 | .bi _,h=>h
 | .top _,h=>h
 | .range _ _,h=>h
 | .list _,h=>h
 | .tuple _,h=>h
 | .dict _,h=>h
 | .inst _ _,h=>h
theorem TR.strip(h:TR w g t x):TR w g (strip t) x:=yC x t h
theorem oO(S:St b1 r g b2 l O h)(hv:VR b1.w g b2 v x)(e:vw v O=some t):HR b1.w g h t x:=by
 cases v with
 |t u=>have e:=ai e;subst e;exact TR.hr S (TR.strip hv)
 |own i=>
  (refine ag hv λa c1=>ac c1 λha bo=>?_;clear c1;clear hv;subst bo);refine al (Option.bind_eq_some_iff.mp e) λQ hi e=>?_;have w:=S.own i Q a hi ha;clear hi;cases Q<;>first|exact nso e|(have e:=ai e;subst e)
  .refine cS w λys ep ho hs=>⟨a,ys,ep,rfl,ho,hs⟩
  .refine cS w λys ep ho hs=>⟨a,ys,ep,rfl,ho,hs⟩
  .exact TR.hr S (TR.strip w)
theorem oP{f:T->MM β}{B:Except Addr β×af}(h:bm (aE v) f O=some B):∃t,vw v O=some t/\f t O=some B:=by
 unfold bm aE at h
 cases hv:vw v O with
 |none=>rw[hv] at h;exact nso h
 |some t=>rw[hv] at h;exact⟨t,rfl,h⟩
theorem aa.vw{R:Rl α β}{tt:Sem β}{f:T->MM α}(hv:VR b1.w g b2 v x)
  (k:∀O s bs Y t B,aZ g bs->bu b2 Y->St b1 r bs Y l O s.heap->HR b1.w bs s.heap t x->f t O=some B->wpAny (model J b1.w) A tt (PQ R b1 r l s bs Y B) (PE b1 r l s bs Y B) s):
  aa J b1 r l A R g b2 tt (bm (aE v) f):=by
 intro O B s bs Y a b S q;refine al (oP q) λt ht q=>k O s bs Y t B a b S (oO S (VR.mono a b _ _ hv) ht) q
theorem F9(c:Const):aa J b1 r l A (RV b1.w) g b2 (constValue env c) (ym c):=by
 cases c<;>first|exact aa.none|skip
 .exact aa.pure λ_ _ _ _=>rfl
 .exact aa.pure λ_ _ _ _=>rfl
 .exact aa.tok λ_ _ t _ _=>⟨t,rfl⟩
 .exact aa.tok λ_ _ t _ _=>⟨t,rfl⟩
 .exact aa.tok λ_ _ t _ _=>⟨t,rfl⟩
theorem qJ(G:Gl b1 P b7 mb)(he:ER b1 l g b2 e env)(x:Str)(p:Pos):aa J b1 r l A (RV b1.w) g b2 (eval (.Name x p) env) (cu P.glob e x):=by
 unfold cu
 by_cases hb:(x==nm "__debug__"||x==nm "__classdict__")=true
 .refine rwm _ ?_ (ec hb);exact aa.none
 .refine rwm _ ?_ (hX hb);simp only[Bool.or_eq_true,not_or,Bool.not_eq_true] at hb;refine rwm _ ?_ (eval_Name env x p hb.1);exact aa.standAt (F7 G he x hb.1 hb.2)
theorem yD(h:∀b p,a≠ .Starred b p):starEach (a::j) env=(false,eval a env)::starEach j env:=by
 cases a<;>first|rfl|exact absurd rfl (h _ _)
theorem jy(S:aL J b1 n rc)(hR:Rm A l n):∀(be:List Expr)(c4:Pos)(g:ay)(b2:List Addr)(he:ER b1 l g b2 e env),aa J b1 r l A (yz b1.w) g b2 (spliced (backTo c4 (starEach be env))) (a8 rc e be)
 |[],c4,g,b2,he=>aa.pure λ_ _ _ _=>rfl
 |a::j,c4,g,b2,he=>by
  by_cases hs:∃b p,a= .Starred b p
  ·(refine aq hs λb p cr=>?_;clear hs;subst cr);have e0:a8 rc e (.Starred b p::j)=λ_=>none:=by
    funext O;show bm (rc.ev _ e) _ O=none;simp only[bm,S.star]
   refine rwm _ ?_ e0;exact aa.none
  .refine rwm _ ?_ (yD (env:=env) (j:=j) λb p q=>hs ⟨b,p,q⟩);show aa J b1 r l A _ g b2 (do let v<-eval a env;let here<-(pure [v]:Sem (List Value));return here++(<-holding here (spliced (backTo c4 (starEach j env))))) _;simp only[pure_bind];refine aa.bind (S.ev hR he a) λbs Y v x hg hr hv=>aa.bind (aa.holding (jy S hR j c4 bs Y (he.mono hg hr))) λc5 bl vs U d m c1=>aa.pure λc9 N D E=>⟨x,U,rfl,VR.mono (d.trans D) (m.trans E) _ _ hv,LR.up c1 D E⟩
theorem TRs.len{vs:List T}{U:List Value}(h:TRs b1.w g vs U):vs.length=U.length:=(fo.mp h).length
theorem il(b5:HR b1.w g h (.list U) x):∃a ys,x= .ref a/\h.IsList a ys/\TRs b1.w g U ys.toList:=by
 refine h9 b5 λa ys ep e ho hs=>⟨a,ys,e,⟨_,ho,rfl,ep,rfl⟩,hs⟩
theorem gh(J:Program){N:List (aj×T)}(b5:HR b1.w g h (.dict N) x):∃a ps,x= .ref a/\(a==sysModules)=false/\h.DictOf (kk J b1.w) a ps/\ps.map (·.1)=N.map (·.1)/\LR (TR b1.w g) (N.map (·.2)) (ps.map (·.2)):=by
 (refine dp b5 λa es ep e ho hs hn h1=>?_;clear b5);refine bc λno=>ag (TRd.pairs hs) λps c3=>bK c3 λp1 p2 p3 j=>no (⟨a,ps,e,beq_eq_false_iff_ne.mpr h1,⟨_,es,ep,ho,⟨rfl,rfl,rfl⟩,rfl,λe he=>j e (by simpa using he),p1,by refine rwm _ ?_ p2;exact hn⟩,p2,p3⟩)
theorem nb:∀{N:List (aj×T)}{ps:List (aj×Value)}(k:aj),ps.map (·.1)=N.map (·.1)->LR (TR b1.w g) (N.map (·.2)) (ps.map (·.2))->
  (bg N k=none->valueAt ps k=none)/\∀t,bg N k=some t->∃v,valueAt ps k=some v/\TR b1.w g t v
 |[],ps,k,h1,_=>by
  cases ps with
  |nil=>exact⟨λ_=>rfl,λt e=>nomatch e⟩
  |cons p q=>simp at h1
 |(j,u)::N,ps,k,h1,h2=>by
  cases ps with
  |nil=>simp at h1
  |cons p q=>
   rcases p with⟨m,d⟩;simp only[List.map_cons,List.cons.injEq] at h1;(refine b9 h2 λy r e1 e2 e3=>?_;clear h2);simp only[List.map_cons,List.cons.injEq] at e1;refine ac e1 λe1 c=>ac (nb k h1.2 (c▸e3)) λC H=>?_;unfold bg at*;refine rwm _ ?_ ni;simp only[valueAt,List.find?_cons] at*;refine rwm _ ?_ h1.1
   by_cases q':j=k
   .subst q';simp only[beq_self_eq_true,decide_true,Option.map_some];exact⟨(nomatch ·),λt e=>by cases e;exact⟨d,rfl,e1▸e2⟩⟩
   .have c5:=beq_eq_false_iff_ne.mpr (λe=>q' e.symm);refine rwm _ (rwm _ ?_ (li q')) c5;exact⟨C,H⟩
theorem nc(h:aJ n=true):(n:Int)<2^63:=by
 unfold aJ at h;have:=hK h;rw[sizeLine_eq] at this;exact Fm this
@[elab_as_elim] theorem Ga{P:T->Bool->Prop}(q:kf t=some b)(no:P .none false)(c:∀b,P (.bool b) b)(i:∀i,P (.int i) (i !=0))(w:∀U,aJ U.length=true->P (.list U) (!U.isEmpty))(f:∀U,aJ U.length=true->P (.dict U) (!U.isEmpty)):P t b:=by
 cases t<;>first|exact nso q|exact fN q no|exact fN q (c _)|exact fN q (i _)|skip
 .refine ac (eU q) λh q=>fN q (w _ h)
 .refine ac (eU q) λh q=>fN q (f _ h)
theorem Gb{α β:Type}{U:List α}{ys:List β}(h:U.length=ys.length):U.isEmpty=ys.isEmpty:=by
 cases U<;>cases ys<;>first|rfl|cases h
theorem ur(hv:VR b1.w g b2 v x):aa J b1 r l A RB g b2 (truthy x) (fQ v):=by
 refine aa.vw hv λO s bs Y t B a b S ht q=>?_;(refine ag (du q) λk c1=>ac c1 λe1 bo=>?_;clear c1;subst bo);clear q hv;revert ht;refine Ga e1 (λht=>?_) (λb ht=>?_) (λi ht=>?_) (λU hf ht=>?_) (λU hf ht=>?_)
 .have ht:=ht;subst ht;exact ar (PQ.here S rfl)
 .have ht:=ht;subst ht;exact ar (PQ.here S rfl)
 ·(refine ag ht λtk bo=>?_;clear ht;subst bo);exact truthy_int (PQ.here S rfl)
 ·(refine aq (il ht) λI ys c3=>aw c3 λc2 hl hs=>?_;clear c3;subst c2);have bb:=hs.len.trans (en);refine wpAny_truthy_list hl (by refine rwl _ ?_ bb;exact nc hf) (PQ.tok S ?_);refine(?_:(!U.isEmpty)= !ys.isEmpty);unfold Array.isEmpty;refine rwl _ ?_ bb;cases U<;>rfl
 ·(refine aq (gh J ht) λI ps M=>bS M λc2 d hd hk hs=>?_;clear M;clear ht;subst c2);have bb:ps.length=U.length:=by have:=hS List.length hk;rwa [ln,ln] at this
  exact wpAny_truthy_dict d hd (by refine rwm _ ?_ bb;exact nc hf) (PQ.tok S (hS (!·) (Gb bb.symm)))
theorem Gc{B:Except Addr V×af}(q:qE .USub v O=some B):∃i,v= .t (.int i)/\B=(.ok (.t (.int (-i))),O):=by
 cases v with
 |own i=>exact nso q
 |t t=>cases t<;>first|exact nso q|exact⟨_,rfl,(ai q).symm⟩
theorem Gd(w:UnaryOp)(hv:VR b1.w g b2 v x):aa J b1 r l A (RV b1.w) g b2 (unaryOp w x) (qE w v):=by
 cases w<;>first|exact aa.none|skip
 .intro O B s bs Y a b S q;refine not_of (aa.run ((ur hv).later a b) S q (λk y c6 s' b6 b4 q p H hR=>?_) λx s' z=>z);have q:=ai q;subst q;have hR:=hR;subst hR;exact⟨b6,b4,_,rfl,p,H,rfl⟩
 .intro O B s bs Y a b S q;(refine ag (Gc q) λi c1=>ac c1 λc2 bo=>?_;clear c1;clear q;subst c2;subst bo);(refine ag hv λtk bo=>?_;clear hv;subst bo);exact neg_int (PQ.tok S ⟨_,rfl⟩)
theorem cV(h:Heap):h.get? h.objs.size=none:=pB (hY _)
theorem PQ.alloc{s:Shared}{tk:Tok}(S:St b1 r g b2 l O s.heap)(hf:isFz Q=false)
  (ho:OR b1.w g (b2++[s.heap.objs.size]) (s.heap.push ob) Q s.heap.objs.size):PQ (RV b1.w) b1 r l s g b2 (.ok (.own O.length),O++[Q]) (.ref s.heap.objs.size) {s with heap:=s.heap.push ob,toks:=tk}:=by
 refine⟨g,b2++[s.heap.objs.size],_,rfl,⟨⟨_,tk,rfl⟩,.refl _,.app _ _⟩,S.alloc (cV _) (λ_ _ e=>a3 _ e) hf ho,?_⟩;show∃a,_/\_;exact⟨_,by refine rwl _ ?_ S.len;simp,rfl⟩
theorem PQ.vt{s:Shared}{tk:Tok}(S:St b1 r g b2 l O s.heap)(k:TR b1.w g t x):PQ (RV b1.w) b1 r l s g b2 (.ok (.t t),O) x {s with toks:=tk}:=PQ.tok S k
theorem oQ{s:Shared}{ys:Array Value}(k:TRs b1.w g U ys.toList):OR b1.w g (b2++[s.heap.objs.size]) (s.heap.push ⟨.type "list",.none,.seq ys ep,#[]⟩) (.list U) s.heap.objs.size:=
 ⟨ys,ep,ea _ rfl,k⟩
theorem eI(k:HR b1.w g h (.int i) x):∃t,x= .int i t:=by exact k
theorem gj(k:HR b1.w g h (.str i) x):∃t,x= .str i t:=by exact k
theorem iT:TR b1.w g (.int i) (.int i t):=by exact⟨t,rfl⟩
theorem kp:TR b1.w g (.str i) (.str i t):=by exact⟨t,rfl⟩
theorem yE:TR b1.w g (.bool i) (.bool i):=rfl
theorem qK:TR b1.w g .none .none:=rfl
theorem TRs.app(a:TRs b1.w g vs U)(b:TRs b1.w g C ys):TRs b1.w g (vs++C) (U++ys):=fo.mpr ((fo.mp a).app (fo.mp b))
@[elab_as_elim] theorem Ge{O:af}{P:Operator->T->T->(Except Addr V×af)->Prop}{B:Except Addr V×af}(q:eH w s t O=some B)
  (add:∀x y,P .Add (.int x) (.int y) (.ok (.t (.int (x+y))),O))(sub:∀x y,P .Sub (.int x) (.int y) (.ok (.t (.int (x - y))),O))(i:∀x y,oH x y=true->P .Mult (.int x) (.int y) (.ok (.t (.int (x*y))),O))
  (d:∀x y,y≠0->¬Builtin.divisionGoesByPylong x y->P .FloorDiv (.int x) (.int y) (.ok (.t (.int (x.fdiv y))),O))(c:∀x y,y≠0->P .Mod (.int x) (.int y) (.ok (.t (.int (x.fmod y))),O))
  (f:∀x y:Str,aJ (x.length+y.length)=true->P .Add (.str x) (.str y) (.ok (.t (.str (x++y))),O))(b:∀U ys,aJ (U.length+ys.length)=true->P .Add (.list U) (.list ys) (.ok (.own O.length),O++[.list (U++ys)])):P w s t B:=by
 cases w<;>first|exact nso q|skip
 .cases s<;>first|exact nso q|skip
  .cases t<;>first|exact nso q|exact fN q (add _ _)
  .cases t<;>first|exact nso q|skip
   refine ac (eU (kc.symm.trans q)) λh q=>fN q (f _ _ h)
  .cases t<;>first|exact nso q|skip
   refine ac (eU (kc.symm.trans q)) λh q=>fN q (b _ _ h)
 .cases s<;>first|exact nso q|skip
  cases t<;>first|exact nso q|exact fN q (sub _ _)
 .cases s<;>first|exact nso q|skip
  cases t<;>first|exact nso q|skip
  refine ac (eU (kc.symm.trans q)) λh q=>fN q (i _ _ h)
 .cases s<;>first|exact nso q|skip
  cases t<;>first|exact nso q|skip
  refine ac (mO (kc.symm.trans q)) λh q=>fN q (c _ _ h)
 .cases s<;>first|exact nso q|skip
  cases t<;>first|exact nso q|skip
  refine ac (mO (kc.symm.trans q)) λh q=>ac (mO (kc.symm.trans q)) λb5 q=>fN q (d _ _ h b5)
theorem Gf(w:Operator)(hv:VR b1.w g b2 v x)(hu:VR b1.w g b2 u y):
  aa J b1 r l A (RV b1.w) g b2 (binaryOp w x y) (bm (aE v) λs=>bm (aE u) λt=>eH w s t):=by
 refine aa.vw hv λO s bs Y t1 B a b S h1 q=>al (oP q) λI e2 q=>?_;have h2:=oO S (VR.mono a b _ _ hu) e2;clear e2 hv hu;revert h1 h2;refine Ge q (λi j h1 h2=>?_) (λi j h1 h2=>?_) (λi j hf h1 h2=>?_) (λi j hf hd h1 h2=>?_) (λi j hf h1 h2=>?_) (λi j hf h1 h2=>?_) (λU ys hf h1 h2=>?_)
 ·(refine ag (eI h1) λc bo=>?_;subst bo);(refine ag (eI h2) λf bo=>?_;subst bo);exact add_int (PQ.vt S iT)
 ·(refine ag (eI h1) λc bo=>?_;subst bo);(refine ag (eI h2) λf bo=>?_;subst bo);exact sub_int (PQ.vt S iT)
 ·(refine ag (eI h1) λc bo=>?_;subst bo);(refine ag (eI h2) λf bo=>?_;subst bo);exact mul_int (PQ.vt S iT) (by unfold IntMulOk;unfold oH at hf;rw[Bool.not_eq_true'] at hf;refine rwm _ ?_ hf;exact Bool.false_ne_true)
 ·(refine ag (eI h1) λc bo=>?_;subst bo);(refine ag (eI h2) λf bo=>?_;subst bo);exact floordiv_int hf (PQ.vt S iT) (.inl (by simpa using hd))
 ·(refine ag (eI h1) λc bo=>?_;subst bo);(refine ag (eI h2) λf bo=>?_;subst bo);exact mod_int' hf (PQ.vt S iT)
 ·(refine ag (gj h1) λc bo=>?_;subst bo);(refine ag (gj h2) λf bo=>?_;subst bo);exact add_str (λt' tk=>PQ.vt S kp) (hK hf)
 ·(refine a9 h1 λa1 p E D=>aw D λc2 k o=>?_;clear D;clear h1;subst c2);(refine a9 h2 λd z C D=>aw D λc2 m L=>?_;clear D;clear h2;subst c2);have l2:=L.len.trans (en);refine P.add_list k m (PQ.alloc S rfl (oQ ?_)) (by refine rwl _ (rwl _ ?_ l2) (o.len.trans (en));exact hK hf);refine rwm _ ?_ Array.toList_append;exact o.app L
end
section
variable {J:Program}{b1:Cx}{r g b6:ay}{b2 b4:List Addr}{l:List Env}{A:Around}{α β γ δ:Type}{P:bt}{b7 mb:Str->Option Value}{n:Nat}{rc:aG}{e:AE}{env:Env}{O:af}{h:Heap}{s:Shared}
def qL:Rl Bool Value:=λ_ _ b x=>x= .bool b
noncomputable def iU(x:T)(y:Value):Bool:=match x,y with
 | .int a,.int b _=>decide (b=a)
 | .str a,.str b _=>decide (b=a)
 |_,_=>false
set_option tactic.hygienic true in
@[elab_as_elim] theorem oR{P:T->T->Bool->Prop}(q:dP x y=some b)(c:∀i j:Int,P (.int i) (.int j) (decide (i=j)))(d:∀i j:Str,P (.str i) (.str j) (decide (i=j)))(is:∀i j,P (.int i) (.str j) false)(f:∀i j,P (.str i) (.int j) false):P x y b:=by
 cases x<;>first|exact nso q|skip
 .rename_i i
  cases y<;>first|exact nso q|skip
  .have q:=ai q;subst q;exact c _ _
  .have q:=ai q;subst q;exact is _ _
 .rename_i i
  cases y<;>first|exact nso q|skip
  .have q:=ai q;subst q;exact f _ _
  .have q:=ai q;subst q;exact d _ _
theorem ut(i j:Int):(i==j)=decide (i=j):=rfl
theorem yF(i j:Str):(i==j)=decide (i=j):=by
 by_cases q:i=j
 .subst q;simp
 .refine rwm _ ?_ (li q);exact beq_eq_false_iff_ne.mpr q
theorem yG(hx:TR b1.w g x u)(L:TR b1.w g y v)(q:dP x y=some b):SeqAt.EqAt A s u v b/\b=iU y u:=by
 revert hx L;refine oR q (λi j hx L=>?_) (λi j hx L=>?_) (λi j hx L=>?_) (λi j hx L=>?_)<;>((refine ag hx λt bo=>?_;clear hx;subst bo);(refine ag L λt' bo=>?_;clear L;subst bo))
 .exact⟨λJ w E Q hq=>wpAny_eqBool_int (by rw[ut];exact hq),rfl⟩
 .exact⟨λJ w E Q hq=>wpAny_eqBool_str hq,rfl⟩
 .exact⟨λJ w E Q hq=>xG hq,rfl⟩
 .exact⟨λJ w E Q hq=>xH hq,rfl⟩
theorem Gg{E:Value->Shared->Prop}{Q:Value->Shared->Prop}(hx:TR b1.w g x u)(L:TR b1.w g y v)(q:dP x y=some b):
  (Q (.bool b) s->wpAny (model J b1.w) A (compareOp .Eq u v) Q E s)/\(Q (.bool (!b)) s->wpAny (model J b1.w) A (compareOp .NotEq u v) Q E s):=by
 revert hx L;refine oR q (λi j hx L=>?_) (λi j hx L=>?_) (λi j hx L=>?_) (λi j hx L=>?_)<;>((refine ag hx λt bo=>?_;clear hx;subst bo);(refine ag L λt' bo=>?_;clear L;subst bo))
 .exact⟨λhq=>eq_int (by rw[ut];exact hq),λhq=>ne_int (by refine rwm _ ?_ (show(i !=j)= !decide (i=j) by rw[<-ut];rfl);exact hq)⟩
 .exact⟨λhq=>eq_str (by rw[yF];exact hq),λhq=>ne_str (by refine rwm _ ?_ (show(i !=j)= !decide (i=j) by rw[<-yF];rfl);exact hq)⟩
 .exact⟨EqMixed.eq_int_str,EqMixed.ne_int_str⟩
 .exact⟨EqMixed.eq_str_int,EqMixed.ne_str_int⟩
theorem Gh(q:gQ (a::U) (c::ys)=some b):∃p B,dP a c=some p/\gQ U ys=some B/\(p&&B)=b:=by
 have q:(match dP a c,gQ U ys with|some x,some y=>some (x&&y)|_,_=>none)=some b:=q
 cases e1:dP a c with
 |none=>rw[e1] at q;exact nso q
 |some p=>
  cases e2:gQ U ys with
  |none=>rw[e1,e2] at q;exact nso q
  |some B=>rw[e1,e2] at q;exact⟨p,B,rfl,rfl,ai q⟩
theorem yH:∀{U ys:List T}{b:Bool},gQ U ys=some b->
  (U.length≠ys.length->b=false)/\(U.length=ys.length->∃e:Nat->Bool,(∀(j:Nat)(x y:T),U[j]? =some x->ys[j]? =some y->dP x y=some (e j))/\(List.range U.length).all e=b)
 |[],[],b,q=>by cases q;exact⟨λh=>absurd rfl h,λ_=>⟨λ_=>true,λj x y h=>nso h,rfl⟩⟩
 |[],_::_,b,q=>by cases q;exact⟨λ_=>rfl,λh=>nomatch h⟩
 |_::_,[],b,q=>by cases q;exact⟨λ_=>rfl,λh=>nomatch h⟩
 |a::U,c::ys,b,q=>by
  (refine aq (Gh q) λp B c3=>aw c3 λh1 h2 cr=>?_;clear c3;clear q;subst cr);refine ac (yH h2) λC H=>⟨λh=>?_,λh=>?_⟩
  .refine rwm _ ?_ (C λe=>h (hS (·+1) e));exact Bool.and_false p
  .refine al (H (Nat.succ.inj h)) λe e1 e2=>⟨λj=>match j with|0=>p|j+1=>e j,λj x y hx L=>?_,?_⟩
   .cases j with
    |zero=>have hx:=ai hx;have L:=ai L;subst hx L;exact h1
    |succ j=>exact e1 j x y hx L
   .refine rwm _ (rwm _ (rwm _ (rwm _ ?_ List.all_map) List.all_cons) r6) ss;exact hS (p&&·) e2
theorem Gi(q:dP a x=some p)(h:TR b1.w g a y):p=iU x y:=by
 revert h;refine oR q (λi j h=>?_) (λi j h=>?_) (λi j h=>?_) (λi j h=>?_)<;>((refine ag h λt bo=>?_;clear h;subst bo);rfl)
theorem Gj(q:gf x (a::U)=some b):∃p B,dP a x=some p/\gf x U=some B/\(p||B)=b:=by
 have q:(match dP a x,gf x U with|some x,some y=>some (x||y)|_,_=>none)=some b:=q
 cases e1:dP a x with
 |none=>rw[e1] at q;exact nso q
 |some p=>
  cases e2:gf x U with
  |none=>rw[e1,e2] at q;exact nso q
  |some B=>rw[e1,e2] at q;exact⟨p,B,rfl,rfl,ai q⟩
theorem yI:∀{U:List T}{ys:List Value}{b:Bool},gf x U=some b->TRs b1.w g U ys->
  (∀y∈ys,∃t,TR b1.w g t y/\dP t x=some (iU x y))/\ys.any (iU x)=b
 |[],ys,b,q,k=>by have k:=k;subst k;cases q;exact⟨λ_ h=>(nomatch h),rfl⟩
 |a::U,ys,b,q,k=>by
  (refine aq k λy rr c3=>aw c3 λc2 h1 h2=>?_;clear c3;clear k;subst c2);(refine aq (Gj q) λp B c3=>aw c3 λe1 e2 cr=>?_;clear c3;clear q;subst cr);refine ac (yI e2 h2) λC H=>?_;have hp:=Gi e1 h1;subst hp;refine⟨λz hz=>?_,by exact rwm _ (rwm _ rfl H) List.any_cons⟩;(refine a2 (hG.mp hz) (λzz=>?_) (λhz=>?_);subst zz;rotate_left;rotate_right)
  .exact⟨a,h1,e1⟩
  .exact C z hz
theorem Gk{A:Around}(hR:Rm A l n):A.units<cLine:=by have:=hR.units;refine(?_:A.units<9900);exact lC (a6 (ix _ _) this) rfl
theorem uu(k:HR b1.w g h t x)(q:dP t u=some b\/dP u t=some b):TR b1.w g t x:=by
 revert k;rcases q with q|q
 .exact oR q (λ_ _ k=>k) (λ_ _ k=>k) (λ_ _ k=>k) (λ_ _ k=>k)
 .exact oR q (λ_ _ k=>k) (λ_ _ k=>k) (λ_ _ k=>k) (λ_ _ k=>k)
theorem Gm{a1 d:Array Value}(q:gQ U ys=some b)(k1:TRs b1.w g U a1.toList)(k2:TRs b1.w g ys d.toList):
  ((a1.size !=d.size)=true/\b=false)\/(a1.size=d.size/\∃e:Nat->Bool,(∀j (h1:j<a1.size)(h2:j<d.size),SeqAt.EqAt A s a1[j] d[j] (e j))/\(List.range a1.size).all e=b):=by
 have l1:=k1.len.trans (en);have l2:=k2.len.trans (en);refine ac (yH q) λC H=>?_
 by_cases hl:U.length=ys.length
 .refine .inr ⟨Ee l1 l2 hl,?_⟩;refine al (H hl) λe e1 e2=>⟨e,λj h1 h2=>?_,by refine rwl _ ?_ l1;exact e2⟩;have hx:=hW (DU l1 h1);have L:=hW (DV l1 hl h1);refine al ((fo.mp k1).get hx) λu hu tu=>al ((fo.mp k2).get L) λv hv c=>?_;rw[Array.getElem?_toList,Array.getElem?_eq_getElem h1] at hu;rw[Array.getElem?_toList,Array.getElem?_eq_getElem h2] at hv;cases hu;cases hv;exact(yG tu c (e1 j _ _ hx L)).1
 .exact .inl ⟨by rw[bne_iff_ne];exact Ef l1 l2 hl,C hl⟩
set_option tactic.hygienic true in
@[elab_as_elim] theorem Gn{P:T->T->Bool->Prop}(q:qx x y=some b)(at_:∀x y b,dP x y=some b->P x y b)(w:∀U ys b,gQ U ys=some b->P (.list U) (.list ys) b)(f:∀N,P (.dict N) (.dict []) N.isEmpty):P x y b:=by
 cases x<;>first|exact at_ _ _ _ q|skip
 .cases y<;>first|exact at_ _ _ _ q|exact w _ _ _ q
 .cases y<;>first|exact at_ _ _ _ q|skip
  rename_i N l
  cases l with
  |nil=>have q:=ai q;subst q;exact f _
  |cons a l=>exact nso q
theorem Go{U:List (aj×T)}{c:List (aj×Value)}(k:c.length=U.length):(c.length==([]:List (aj×Value)).length&&true)=U.isEmpty:=by
 cases U<;>cases c<;>first|rfl|cases k
theorem yJ{E:Value->Shared->Prop}{Q:Value->Shared->Prop}(hu:A.units<cLine)(S:St b1 r g b2 l O s.heap)(hx:HR b1.w g s.heap x u)(L:HR b1.w g s.heap y v)(q:qx x y=some b):
  ((Q (.bool b) s)->wpAny (model J b1.w) A (compareOp .Eq u v) Q E s)/\((Q (.bool (!b)) s)->wpAny (model J b1.w) A (compareOp .NotEq u v) Q E s):=by
 revert hx L;refine Gn q (λx y b q hx L=>?_) (λU ys b q hx L=>?_) (λU hx L=>?_)
 .exact Gg (uu hx (.inl q)) (uu L (.inr q)) q
 ·(refine aq (il hx) λa1 p c3=>aw c3 λc2 be k1=>?_;clear c3;subst c2);(refine aq (il L) λd z c3=>aw c3 λc2 bd k2=>?_;clear c3;subst c2);(refine a2 (Gm (A:=A.in1) (s:=s) q k1 k2) (λzz=>?_) (λzz=>?_);refine ac zz λh1 bo=>?_;clear zz;subst bo;rotate_left;refine ac zz λh1 bi=>ag bi λe c1=>ac c1 λh2 bo=>?_;clear c1;subst bo;rotate_right)
  .exact⟨λhq=>SeqAt.eq_list_lengthsAt be bd h1 hu hq,λhq=>SeqAt.RcNeAt.lists_lengths be bd h1 hu J b1.w E Q hq⟩
  .exact⟨λhq=>SeqAt.eq_listAt be bd h1 hu h2 hq,λhq=>SeqAt.RcNeAt.lists be bd h1 hu h2 J b1.w E Q hq⟩
 ·(refine aq (gh J hx) λa1 c M=>bS M λc2 Y d1 k1 _=>?_;clear M;clear hx;subst c2);(refine aq (gh J L) λd j M=>bS M λc2 s2 m k2 _=>?_;clear M;clear L;subst c2);have i:=List.map_eq_nil_iff.mp k2;clear k2;subst i;have hb:=Go (by have:=hS List.length k1;rwa [ln,ln] at this);have f:c.length=([]:List (aj×Value)).length->KeqHits A.in1 s [] c true:=λe=>by
   have:c=[]:=List.length_eq_zero_iff.mp e;clear k1 e;subst this;exact .nil
  exact⟨λhq=>keq_eq Y s2 d1 m hu f (by refine rwm _ ?_ hb;exact hq),λhq=>keq_ne Y s2 d1 m hu f (by refine rwm _ ?_ hb;exact hq)⟩
@[elab_as_elim] theorem yK{P:T->aj->Prop}(q:cE t=some k)(i:∀n,P (.int n) (.int n))(s:∀n,P (.str n) (.str n)):P t k:=by
 cases t<;>first|exact nso q|(have q:=ai q;subst q;first|exact i _|exact s _)
theorem jz(q:cE t=some k)(b5:TR b1.w g t x):gc k x=true:=by
 revert b5;refine yK q (λn b5=>?_) (λn b5=>?_)<;>((refine ag b5 λtk bo=>?_;clear b5;subst bo);simp [gc,Value.isInt,Value.isStrOf])
theorem yL(q:cE t=some k)(b5:HR b1.w g h t x):TR b1.w g t x:=by
 revert b5;exact yK q (λn b5=>b5) (λn b5=>b5)
@[elab_as_elim] theorem Gp{P:T->Bool->Prop}(q:fO x c=some b)(w:∀U b,gf x U=some b->P (.list U) b)(tu:∀U b,gf x U=some b->P (.tuple U) b)(f:∀N k,cE x=some k->P (.dict N) (bg N k).isSome)(st:∀y z,x= .str z->P (.str y) (Txt.contains y z)):P c b:=by
 cases c<;>first|exact nso q|exact w _ _ q|exact tu _ _ q|skip
 .clear w tu;cases x<;>first|exact nso q|skip
  have q:=ai q;subst q;exact st _ _ rfl
 ·(refine ag (Option.map_eq_some_iff.mp q) λk c1=>ac c1 λhk bo=>?_;clear c1;clear q;subst bo);exact f _ _ hk
theorem yM{E:Value->Shared->Prop}{Q:Value->Shared->Prop}(S:St b1 r g b2 l O s.heap)(hx:HR b1.w g s.heap x u)(hc:HR b1.w g s.heap c v)(q:fO x c=some b):
  ((∀tk,Q (.bool b) {s with toks:=tk})->wpAny (model J b1.w) A (compareOp .In u v) Q E s)/\((∀tk,Q (.bool (!b)) {s with toks:=tk})->wpAny (model J b1.w) A (compareOp .NotIn u v) Q E s):=by
 have d:∀{U:List T}{ys:Array Value}{b:Bool},gf x U=some b->TRs b1.w g U ys.toList->(∀y,y∈ys->SeqAt.EqAt A.in1 s y u (iU x y))/\ys.any (iU x)=b:=λ{U ys b} q' k=>by
  refine ac (yI q' k) λC H=>⟨λy L=>?_,by refine rwl _ ?_ Array.any_toList;exact H⟩;refine al (C y (by simpa using L)) λt t1 I=>(yG t1 (uu hx (.inr I)) I).1
 revert hc;refine Gp q (λU b q hc=>?_) (λU b q hc=>?_) (λN k hk hc=>?_) (λy z e hc=>?_)
 ·(refine aq (il hc) λa ys c3=>aw c3 λc2 hl k=>?_;clear c3;subst c2);refine ac (d q k) λC H=>⟨λhq=>SeqAt.in_listAt (iU x) hl C (by refine rwm _ ?_ H;exact hq s.toks),λhq=>SeqAt.notIn_listAt (iU x) hl C (by refine rwm _ ?_ H;exact hq s.toks)⟩
 ·(refine a9 hc λa ys ep D=>aw D λc2 ho k=>?_;clear D;subst c2);have hl:s.heap.IsTuple a ys:=⟨_,S.fr _ _ ho,rfl,ep,rfl⟩;refine ac (d q k) λC H=>⟨λhq=>SeqAt.in_tupleAt (iU x) hl C (by refine rwm _ ?_ H;exact hq s.toks),λhq=>SeqAt.notIn_tupleAt (iU x) hl C (by refine rwm _ ?_ H;exact hq s.toks)⟩
 ·(refine aq (gh J hc) λa ps M=>bS M λc2 hs hd h1 h2=>?_;clear M;subst c2);have f:=jz hk (yL hk hx);refine ac (nb k h1 h2) λd1 m=>?_;have hb:(valueAt ps k).isSome=(bg N k).isSome:=by
   cases hg:bg N k with
   |none=>refine rwm _ ?_ (d1 hg);rfl
   |some t=>refine al (m t hg) λv hv _=>?_;refine rwm _ ?_ hv;rfl
  exact⟨λhq=>wpAny_in_of f hs hd.mapOf (by refine rwm _ ?_ hb;exact hq _),λhq=>wpAny_notIn_of f hs hd.mapOf (by refine rwm _ ?_ hb;exact hq _)⟩
 .clear q d;subst e;(refine ag (gj hx) λt1 bo=>?_;subst bo);(refine ag (gj hc) λI bo=>?_;clear hc;subst bo);exact⟨λhq=>in_str (hq s.toks),λhq=>notIn_str (hq s.toks)⟩
theorem Gq(hv:TR b1.w g t x)(q:isNone (.t t)=some b):plainIs x .none=true/\(x== .none)=b:=by
 revert hv;cases t<;>first|exact nso q|(have q:=ai q;subst q;intro hv)
 all_goals first
  |(have hv:=hv;subst hv;exact⟨rfl,rfl⟩)
  |((refine ag hv λ_ bo=>?_;clear hv;first|subst bo|cases bo);exact⟨rfl,rfl⟩)
  |((refine bH hv λ_ _ _ _ D=>ac D λc2 _=>?_;clear D;subst c2);exact⟨rfl,rfl⟩)
  |((refine a9 hv λ_ _ _ c3=>ac c3 λc2 _=>?_;clear c3;clear hv;subst c2);exact⟨rfl,rfl⟩)
theorem yN(hv:VR b1.w g b2 v x)(q:isNone v=some b):plainIs x .none=true/\(x== .none)=b:=by
 cases v with
 |own i=>have q:=ai q;subst q;(refine ag hv λa c1=>ac c1 λ_ bo=>?_;clear c1;subst bo);exact⟨rfl,rfl⟩
 |t t=>exact Gq hv q
theorem Gr{B:Except Addr Bool×af}(q:dQ .Is v u O=some B):u= .t .none/\om (isNone v) O=some B:=by
 rcases u with t|i
 .cases t<;>first|exact nso q|exact⟨rfl,q⟩
 .exact nso q
theorem Gs{B:Except Addr Bool×af}(q:dQ .IsNot v u O=some B):u= .t .none/\om ((isNone v).map (!·)) O=some B:=by
 rcases u with t|i
 .cases t<;>first|exact nso q|exact⟨rfl,q⟩
 .exact nso q
@[elab_as_elim] theorem Gu{P:T->T->Bool->Prop}{f:Int->Int->Bool}(q:mQ f x y=some b)(k:∀i j,P (.int i) (.int j) (f i j)):P x y b:=by
 cases x<;>first|exact nso q|skip
 cases y<;>first|exact nso q|skip
 have q:=ai q;subst q;exact k _ _
theorem Gv(z:A.units<cLine)(w:CmpOp)(m:w≠ .Is)(p:w≠ .IsNot){E:Value->Shared->Prop}{Q:Value->Shared->Prop}(S:St b1 r g b2 l O s.heap)(hx:HR b1.w g s.heap x u)(L:HR b1.w g s.heap y v)
  (q:gR w x y=some b)(hq:∀tk,Q (.bool b) {s with toks:=tk}):wpAny (model J b1.w) A (compareOp w u v) Q E s:=by
 have o:∀{f:Int->Int->Bool},mQ f x y=some b->(∀i j t t',u= .int i t->v= .int j t'->b=f i j->wpAny (model J b1.w) A (compareOp w u v) Q E s)->wpAny (model J b1.w) A (compareOp w u v) Q E s:=λ{f} q k=>by
  clear hq;revert hx L k;refine Gu q λi j hx L k=>?_;(refine ag (eI hx) λk1 bo=>?_;subst bo);(refine ag (eI L) λk2 bo=>?_;subst bo);exact k i j k1 k2 rfl rfl rfl
 cases w<;>first|exact nso q|exact absurd rfl m|exact absurd rfl p|skip
 .exact(yJ z S hx L q).1 (hq s.toks)
 ·(refine ag (Option.map_eq_some_iff.mp q) λc c1=>ac c1 λd bo=>?_;clear c1;subst bo);exact(yJ z S hx L d).2 (hq s.toks)
 .exact o q λi j t t' e1 e2 e3=>by subst e1;subst e2;subst e3;exact lt_int (hq s.toks)
 .exact o q λi j t t' e1 e2 e3=>by subst e1;subst e2;subst e3;exact le_int (hq s.toks)
 .exact o q λi j t t' e1 e2 e3=>by subst e1;subst e2;subst e3;exact gt_int (hq s.toks)
 .exact o q λi j t t' e1 e2 e3=>by clear o;subst e1;subst e2;subst e3;exact ge_int (hq s.toks)
 .exact(yM S hx L q).1 hq
 ·(refine ag (Option.map_eq_some_iff.mp q) λc c1=>ac c1 λd bo=>?_;clear c1;clear q o;subst bo);exact(yM S hx L d).2 hq
theorem qM(hR:Rm A l n)(w:CmpOp)(hv:VR b1.w g b2 v x)(hu:VR b1.w g b2 u y):aa J b1 r l A qL g b2 (compareOp w x y) (dQ w v u):=by
 by_cases h1:w= .Is
 .subst h1;intro O B s bs Y a b S q;(refine ac (Gr q) λc2 q=>?_;subst c2);have hu:=hu;subst hu;(refine ag (du q) λk c1=>ac c1 λe1 bo=>?_;clear c1;subst bo);refine ac (yN (VR.mono a b _ _ hv) e1) λC H=>wpAny_is_plain C (PQ.here S (hS Value.bool H))
 .by_cases h2:w= .IsNot
  .subst h2;intro O B s bs Y a b S q;(refine ac (Gs q) λc2 q=>?_;subst c2);have hu:=hu;subst hu;(refine ag (du q) λk c1=>ac c1 λe1 bo=>?_;clear c1;subst bo);(refine ag (Option.map_eq_some_iff.mp e1) λG c1=>ac c1 λc bo=>?_;clear c1;clear e1;subst bo);refine ac (yN (VR.mono a b _ _ hv) c) λC H=>wpAny_isNot_plain C (PQ.here S (by refine rwm _ ?_ H;rfl))
  .have e:dQ w v u=bm (aE v) λx=>bm (aE u) λy=>om (gR w x y):=by
    cases w<;>first|rfl|exact absurd rfl h1|exact absurd rfl h2
   refine rwm _ ?_ e;refine aa.vw hv λO s bs Y t1 B a b S h3 q=>al (oP q) λI e2 q=>?_;(refine ag (du q) λk c1=>ac c1 λe3 bo=>?_;clear c1;clear q;subst bo);exact Gv (Gk hR) w h1 h2 S h3 (oO S (VR.mono a b _ _ hu) e2) e3 λtk=>PQ.tok S rfl
theorem aa.release{R:Rl α β}{k:Unit->Sem β}{m:MM α}(h:aa J b1 r l A R g b2 (k ()) m):aa J b1 r l A R g b2 (release vs keep>>=k) m:=
 λO B s bs Y a b S e U p I=>by rw[Sem.wp_bind',Sem.wp_release];exact h O B s bs Y a b S e U p I
theorem aa.ite{R:Rl α β}{t t':Sem β}{m G:MM α}(h:c=true->aa J b1 r l A R g b2 t m)(b5:c=false->aa J b1 r l A R g b2 t' G):
  aa J b1 r l A R g b2 (if c=true then t else t') (if c=true then m else G):=by
 cases c with
 |true=>exact h rfl
 |false=>exact b5 rfl
theorem aa.quiet{R:Rl α β}{t:Sem δ}{x:δ}{k:δ->Sem β}{m:MM α}(ht:∀(Q:δ->Shared->Prop)(E:Value->Shared->Prop)(s:Shared),Q x s->wpAny (model J b1.w) A t Q E s)(h:aa J b1 r l A R g b2 (k x) m):aa J b1 r l A R g b2 (t>>=k) m:=
 λO B s bs Y a b S e=>ae (ht _ _ _ (h O B s bs Y a b S e))
theorem yO(a:Expr)(j:List Expr):evalEach (a::j) env=eval a env::evalEach j env:=rfl
theorem yP(S:aL J b1 n rc)(hR:Rm A l n)(he:ER b1 l g b2 e env)(w:CmpOp)(a:Expr):aa J b1 r l A (RV b1.w) g b2 (markedBehindIn w a (eval a env)) (rc.ev a e):=by
 by_cases hs:∃es k p,a= .Set es k p
 ·(refine a9 hs λes k p bo=>?_;clear hs;subst bo);have:rc.ev (.Set es k p) e=λ_=>none:=funext λO=>S.set es k p e O;refine rwm _ ?_ this;exact aa.none
 .have:behindInMarks w a=false:=by
   cases a<;>first|rfl|exact absurd ⟨_,_,_,rfl⟩ hs
  refine rwm _ ?_ (markedBehindIn_of_false this);exact S.ev hR he a
theorem yQ(S:aL J b1 n rc)(hR:Rm A l n)(c4:Pos)(j:List CmpOp)(U:List Expr)(v:V)(x:Value)(g:ay)(b2:List Addr)(he:ER b1 l g b2 e env)(hv:VR b1.w g b2 v x):
  aa J b1 r l A qL g b2 (compareChain c4 x j (markedEach j U (evalEach U env))) (lQ rc e v j U):=by
 induction j generalizing U v x g b2 with
 |nil=>cases U<;>exact aa.none
 |cons w j ih=>
  cases U with
  |nil=>cases j<;>exact aa.none
  |cons a U=>
  cases j with
  |nil=>
   cases U with
   |cons b U=>exact aa.none
   |nil=>
    rw[yO];show aa J b1 r l A qL g b2 (do let f<-holding [x] (markedBehindIn w a (eval a env));standAt c4;operate [x,f] (compareOp w x f)) _;refine aa.bind (aa.holding (yP S hR he w a)) λbs Y u y hg hr hu=>aa.standAt (aa.operate (qM hR w (VR.mono hg hr _ _ hv) hu))
  |cons i j=>
   cases U with
   |nil=>exact aa.none
   |cons I U=>
    show aa J b1 r l A qL g b2 (do
     let f<-holding [x] (eval a env)
     standAt c4
     let c<-holding [x,f] (compareOp w x f)
     release [x,f] [c]
     if<-holding [c,f] (truthy c) then compareChain c4 f (i::j) (markedEach (i::j) (I::U) (evalEach (I::U) env)) else pure c) _
    refine aa.bind (aa.holding (S.ev hR he a)) λbs Y u y hg hr hu=>aa.standAt (aa.bind (aa.holding (qM hR w (VR.mono hg hr _ _ hv) hu)) λc5 bl b c d m hc=>?_);have hc:=hc;subst hc;refine aa.release (aa.quiet (λQ E s h=>hy (r0 h)) ?_);refine aa.ite (λ_=>ih (I::U) u y c5 bl ((he.mono hg hr).mono d m) (VR.mono d m _ _ hu)) λe=>aa.pure λ_ _ _ _=>by show _=_;exact rwm _ rfl e
theorem Gw(S:aL J b1 n rc)(hR:Rm A l n)(c4:Pos)(j:List CmpOp)(U:List Expr)(v:V)(x:Value)(g:ay)(b2:List Addr)(he:ER b1 l g b2 e env)(hv:VR b1.w g b2 v x):
  aa J b1 r l A RB g b2 (testChain c4 x j (markedEach j U (evalEach U env))) (lQ rc e v j U):=by
 induction j generalizing U v x g b2 with
 |nil=>cases U<;>exact aa.none
 |cons w j ih=>
  cases U with
  |nil=>cases j<;>exact aa.none
  |cons a U=>
  cases j with
  |nil=>
   cases U with
   |cons b U=>exact aa.none
   |nil=>
    rw[yO];show aa J b1 r l A RB g b2 (do let f<-holding [x] (markedBehindIn w a (eval a env));standAt c4;let c<-operate [x,f] (compareOp w x f);holding [c] (truthy c)) _;refine aa.bind (aa.holding (yP S hR he w a)) λbs Y u y hg hr hu=>aa.standAt ?_;intro O B s c5 bl I G H q;refine ae (eb (aa.operate (qM hR w (VR.mono hg hr _ _ hv) hu) O B s c5 bl I G H q) (λc s' z=>?_) λ_ _ z=>z);(refine ch z λc9 N b e1 p S3 hc=>?_;clear z);have hc:=hc;subst hc;exact hy (ar ⟨c9,N,b,e1,p,S3,rfl⟩)
  |cons i j=>
   cases U with
   |nil=>exact aa.none
   |cons I U=>
    show aa J b1 r l A RB g b2 (do
     let f<-holding [x] (eval a env)
     standAt c4
     let c<-holding [x,f] (compareOp w x f)
     release [x,f] [c]
     if<-holding [c,f] (truthy c) then testChain c4 f (i::j) (markedEach (i::j) (I::U) (evalEach (I::U) env)) else pure false) _
    refine aa.bind (aa.holding (S.ev hR he a)) λbs Y u y hg hr hu=>aa.standAt (aa.bind (aa.holding (qM hR w (VR.mono hg hr _ _ hv) hu)) λc5 bl b c d m hc=>?_);have hc:=hc;subst hc;refine aa.release (aa.quiet (λQ E s h=>hy (r0 h)) (aa.ite (λ_=>ih (I::U) u y c5 bl ((he.mono hg hr).mono d m) (VR.mono d m _ _ hu)) λe=>aa.pure λ_ _ _ _=>rfl))
theorem Gx(S:aL J b1 n rc)(hR:Rm A l n)(he:ER b1 l g b2 e env)(a:Expr)(j:List CmpOp)(U:List Expr)(c4:Pos):
  aa J b1 r l A (RV b1.w) g b2 (eval (.Compare a j U c4) env) (bm (rc.ev a e) λv=>bm (lQ rc e v j U) λb=>pm (.t (.bool b))):=by
 show aa J b1 r l A _ g b2 (do compareChain c4 (<-eval a env) j (markedEach j U (evalEach U env))) _;refine aa.bind (S.ev hR he a) λbs Y v x hg hr hv=>?_;intro O B s c5 bl I G H q;(refine bc λno=>a2 (ed q) (λzz=>aq zz λb c6 bi=>ac bi λe1 e2=>no ?_) (λzz=>aq zz λc c6 bi=>ac bi λe1 e2=>no ?_)<;>clear bi zz no)
 .clear q;cases e2;refine eb (yQ S hR c4 j U v x bs Y (he.mono hg hr) hv O _ s c5 bl I G H e1) (λy s' z=>?_) λy s' z=>?_
  ·(refine ch z λc9 N G q1 p S3 hc=>?_;clear z);(have za:=oke q1;clear q1;cases za);exact⟨c9,N,_,rfl,p,S3,by have hc:=hc;subst hc;exact yE (b1:=b1) (g:=c9)⟩
  .refine cT z λ_ _ _ _ q1 _=>oee q1
 .clear q;cases e2;refine eb (yQ S hR c4 j U v x bs Y (he.mono hg hr) hv O _ s c5 bl I G H e1) (λy s' z=>?_) λy s' z=>?_
  .refine d0 z λ_ _ _ q1 _=>eoe q1
  .refine cT z λc9 N c' ex q1 z=>?_;(have za:=ere q1;clear q1;cases za);exact⟨c9,N,_,ex,rfl,z⟩
set_option backward.match.sparseCases true in
theorem yR(S:aL J b1 n rc)(hR:Rm A l n)(c4:Pos)(w:BoolOp):∀(U:List Expr)(g:ay)(b2:List Addr),ER b1 l g b2 e env->
  aa J b1 r l A (RV b1.w) g b2 (boolOp c4 w (evalEach U env)) (gS rc e w U)
 |[],g,b2,he=>aa.none
 |[a],g,b2,he=>S.ev hR he a
 |a::b::U,g,b2,he=>by
  show aa J b1 r l A _ g b2 (do
   let v<-eval a env
   standAt c4
   let t<-holding [v] (truthy v)
   match w,t with
   | .And,false| .Or,true=>pure v
   |_,_=>boolOp c4 w (evalEach (b::U) env)) _
  refine aa.bind (S.ev hR he a) λbs Y v x hg hr hv=>aa.standAt (aa.bind (aa.holding (ur hv)) λc5 bl t t' d m ht=>?_);have ht:t=t':=ht;subst ht;have ih:=yR S hR c4 w (b::U) c5 bl ((he.mono hg hr).mono d m);have c:aa J b1 r l A (RV b1.w) c5 bl (pure x) (pm v):=aa.pure λ_ _ D E=>VR.mono (d.trans D) (m.trans E) _ _ hv;cases w<;>(clear ht;cases t)<;>first|exact ih|exact c
set_option backward.match.sparseCases true in
theorem yS(S:aL J b1 n rc)(hR:Rm A l n)(w:BoolOp):∀(U:List Expr)(g:ay)(b2:List Addr),ER b1 l g b2 e env->
  aa J b1 r l A RB g b2 (allTrue w U env) (iP rc e w U)
 |[],g,b2,he=>aa.pure λ_ _ _ _=>rfl
 |a::U,g,b2,he=>by
  show aa J b1 r l A _ g b2 (do
   match w,<-isTrue a env (eval a env) with
   | .And,false=>pure false
   | .Or,true=>pure true
   |_,_=>allTrue w U env) _
  refine aa.bind (S.test hR he a) λbs Y t t' hg hr ht=>?_;have ht:=ht;subst ht;have ih:=yS S hR w U bs Y (he.mono hg hr);cases w<;>(clear ht;cases t)<;>first|exact ih|exact aa.pure λ_ _ _ _=>rfl
theorem Gy(S:aL J b1 n rc)(hR:Rm A l n)(he:ER b1 l g b2 e env)(c a b:Expr)(c4:Pos):
  aa J b1 r l A (RV b1.w) g b2 (eval (.IfExp c a b c4) env) (bm (rc.test c e) λq=>if q then rc.ev a e else rc.ev b e):=by
 show aa J b1 r l A _ g b2 (do if<-isTrue c env (eval c env) then eval a env else eval b env) _;refine aa.bind (S.test hR he c) λbs Y t t' hg hr ht=>?_;have ht:=ht;subst ht;exact aa.ite (λ_=>S.ev hR (he.mono hg hr) a) λ_=>S.ev hR (he.mono hg hr) b
theorem Gz(S:aL J b1 n rc)(hR:Rm A l n)(he:ER b1 l g b2 e env)(w:Operator)(a b:Expr)(c4:Pos):
  aa J b1 r l A (RV b1.w) g b2 (eval (.BinOp a w b c4) env) (bm (rc.ev a e) λx=>bm (rc.ev b e) λy=>bm (aE x) λs=>bm (aE y) λt=>eH w s t):=by
 rw[eval_BinOp];refine aa.bind (S.ev hR he a) λbs Y v x hg hr hv=>aa.bind (aa.holding (S.ev hR (he.mono hg hr) b)) λc5 bl u y d m hu=>aa.standAt (aa.operate (Gf w (VR.mono d m _ _ hv) hu))
theorem GA(S:aL J b1 n rc)(hR:Rm A l n)(he:ER b1 l g b2 e env)(w:UnaryOp)(a:Expr)(c4:Pos):
  aa J b1 r l A (RV b1.w) g b2 (eval (.UnaryOp w a c4) env) (bm (rc.ev a e) λv=>qE w v):=by
 show aa J b1 r l A _ g b2 (do let v<-eval a env;standAt c4;holding [v] (unaryOp w v)) _;exact aa.bind (S.ev hR he a) λbs Y v x hg hr hv=>aa.standAt (aa.holding (Gd w hv))
set_option tactic.hygienic true in
theorem GB(S:aL J b1 n rc)(hR:Rm A l n)(he:ER b1 l g b2 e env)(d:∀ex,aa J b1 r l A (RV b1.w) g b2 (eval ex env) (rc.ev ex e))(ex:Expr):aa J b1 r l A RB g b2 (isTrue ex env (eval ex env)) (stepT P rc ex e):=by
 have plain:isTrue ex env (eval ex env)=(do let v<-eval ex env;standAt ex.pos;holding [v] (truthy v))->stepT P rc ex e=(bm (rc.ev ex e) λv=>fQ v)->aa J b1 r l A RB g b2 (isTrue ex env (eval ex env)) (stepT P rc ex e):=λe1 e2=>by
  refine rwm _ (rwm _ ?_ e2) e1;exact aa.bind (d ex) λbs Y v x hg hr hv=>aa.standAt (aa.holding (ur hv))
 cases ex<;>first|exact plain rfl rfl|skip
 .rename_i w U c4;exact yS S hR w U g b2 he
 .rename_i w a c4
  cases w<;>first|exact plain rfl rfl|skip
  show aa J b1 r l A _ g b2 (do return !(<-isTrue a env (eval a env))) (bm (rc.test a e) λb=>pm !b);refine aa.bind (S.test hR he a) λbs Y t t' hg hr ht=>?_;have ht:=ht;subst ht;exact aa.pure λ_ _ _ _=>rfl
 .rename_i c a b c4
  show aa J b1 r l A _ g b2 (do if<-isTrue c env (eval c env) then isTrue a env (eval a env) else isTrue b env (eval b env)) (bm (rc.test c e) λq=>if q then rc.test a e else rc.test b e);refine aa.bind (S.test hR he c) λbs Y t t' hg hr ht=>?_;have ht:=ht;subst ht;exact aa.ite (λ_=>S.test hR (he.mono hg hr) a) λ_=>S.test hR (he.mono hg hr) b
 .rename_i a j U c4
  show aa J b1 r l A _ g b2 (do testChain c4 (<-eval a env) j (markedEach j U (evalEach U env))) (bm (rc.ev a e) λv=>lQ rc e v j U);exact aa.bind (d a) λbs Y v x hg hr hv=>Gw S hR c4 j U v x bs Y (he.mono hg hr) hv
end
section
variable {J:Program}{b1:Cx}{r g b6:ay}{b2 b4:List Addr}{l:List Env}{A:Around}{α β γ δ:Type}{P:bt}{b7 mb:Str->Option Value}{n:Nat}{rc:aG}{e:AE}{env:Env}{O:af}{h b5:Heap}{s:Shared}
theorem St.lone_new(S:St b1 r g b2 l O h)(ha:h.get? a=none):aD b1 r g b2 l O a:=
 ⟨S.lt_g ha,S.lt_r ha,S.lt_t ha,λi Q e1 e2=>by refine al (S.lt_o ha e2) λf e3 q=>?_;rw[e1] at e3;cases e3;exact q,
  λe he q=>by(refine bc λno=>ac (S.frs e he) λ_ D=>aq D λL o' c3=>aw c3 λe1 e2 _=>no ?_;clear c3 D no);rw[q] at e1;cases e1;rw[ha] at e2;exact nso e2⟩
theorem St.extBut(S:St b1 r g b2 l O h)(L:aD b1 r g b2 l O a)(k:Heap.ExtBut a h b5):St b1 r g b2 l O b5 where
 base:=S.base
 fr:=λb o e=>k b o (λq=>by subst q;rw[L.1] at e;exact nso e) (S.fr b o e)
 rs:=λb o e=>by refine al (S.rs b o e) λo' e' q=>⟨o',k b o' (λq=>by subst q;rw[L.2.1] at e;exact nso e) e',q⟩
 len:=S.len
 own:=λi Q b e1 e2=>by
  cases z:isFz Q with
  |true=>exact(S.own i Q b e1 e2).still z
  |false=>exact(S.own i Q b e1 e2).mono (.refl _) (.refl _) (.same λo e=>k b o (λq=>by subst q;rw[L.2.2.2.1 i Q e1 e2] at z;exact tff z) e)
 free:=S.free
 nd:=S.nd
 gr:=S.gr
 gt:=S.gt
 tabs:=λq hq=>by refine al (S.tabs q hq) λps e x=>⟨ps,k _ _ (λe'=>L.2.2.1 ⟨q,hq,e'⟩) e,x⟩
 frs:=λe he=>by refine bc λno=>ac (S.frs e he) λe0 D=>aq D λd o c3=>aw c3 λe1 e2 e3=>no (⟨e0,d,o,e1,k _ _ (λq=>L.2.2.2.2 e he (q▸e1)) e2,e3⟩)
theorem St.adopt(S:St b1 r g b2 l O h)(L:aD b1 r g b2 l O a)(hf:isFz Q=false)(ho:OR b1.w g (b2++[a]) h Q a):St b1 r g (b2++[a]) l (O++[Q]) h where
 base:=S.base
 fr:=S.fr
 rs:=S.rs
 len:=by simp [S.len]
 own:=λi f b e1 e2=>by
  (refine bc λno=>a2 (dC e1) (λf1=>?_) (λzz=>?_);refine no ?_;clear no;rotate_left;refine ac zz λz1 y1=>no ?_;clear no;rotate_right)<;>(refine bc λno=>a2 (dC e2) (λf2=>?_) (λzz=>?_);refine no ?_;clear no;rotate_left;refine ac zz λE I=>no ?_;clear no;rotate_right)
  .exact(S.own i f b f1 f2).mono (.refl _) (.app _ _) (.same λ_ e=>e)
  .have:=(List.getElem?_eq_some_iff.mp f1).1;rw[S.len] at E;exact absurd (E▸this) (ko _)
  .have:=(List.getElem?_eq_some_iff.mp f2).1;rw[S.len] at this;exact absurd (z1▸this) (ko _)
  .clear hf;subst y1 I;exact ho
 free:=λi f b e1 e2 q=>by
  (refine bc λno=>a2 (dC e1) (λf1=>?_) (λzz=>?_);refine no ?_;clear no;rotate_left;refine ac zz λz1 y1=>no ?_;clear no;rotate_right)<;>(refine bc λno=>a2 (dC e2) (λf2=>?_) (λzz=>?_);refine no ?_;clear no;rotate_left;refine ac zz λE I=>no ?_;clear no;rotate_right)
  .exact S.free i f b f1 f2 q
  .have:=(List.getElem?_eq_some_iff.mp f1).1;rw[S.len] at E;exact absurd (E▸this) (ko _)
  .have:=(List.getElem?_eq_some_iff.mp f2).1;rw[S.len] at this;exact absurd (z1▸this) (ko _)
  .clear hf ho;subst y1 I;exact⟨L.1,L.2.1,L.2.2.1⟩
 nd:=λi j p c b e1 e2 q q' e3 e4=>by
  have t:∀{i:Nat}{f:MO}{b:Addr},O[i]? =some f->(b2++[a])[i]? =some b->b2[i]? =some b:=λ{i}{f}{b} a1 d=>by
   (refine a2 (dC d) (λd=>?_) (λzz=>?_);rotate_left;refine ac zz λc2 bo=>?_;clear zz;subst c2;clear ho;subst bo;rotate_right)
   .exact d
   .have:=(List.getElem?_eq_some_iff.mp a1).1;rw[S.len] at this;exact absurd this (ko _)
  have new:∀{b:Addr},(b2++[a])[O.length]? =some b->b=a:=λ{b} d=>by
   (refine a2 (dC d) (λd=>?_) (λzz=>?_);rotate_left;refine ac zz λ_ bo=>?_;clear zz;clear ho;subst bo;rotate_right)
   .have:=(List.getElem?_eq_some_iff.mp d).1;rw[S.len] at this;exact absurd this (ko _)
   .rfl
  (refine bc λno=>a2 (dC e1) (λf1=>?_) (λzz=>?_);refine no ?_;clear no;rotate_left;refine ac zz λz1 y1=>no ?_;clear no;rotate_right)<;>(refine bc λno=>a2 (dC e2) (λf2=>?_) (λzz=>?_);refine no ?_;clear no;rotate_left;refine ac zz λE I=>no ?_;clear no;rotate_right)
  .exact S.nd i j _ _ b f1 f2 q q' (t f1 e3) (t f2 e4)
  .rw[E] at e4;have z:=new e4;clear ho;subst z;rw[L.2.2.2.1 i _ f1 (t f1 e3)] at q;exact tff q
  .rw[z1] at e3;have z:=new e3;clear ho e3 new;subst z;rw[L.2.2.2.1 j _ f2 (t f2 e4)] at q';exact tff q'
  .exact z1.trans E.symm
 gr:=S.gr
 gt:=S.gt
 tabs:=S.tabs
 frs:=S.frs
theorem St.reserve(S:St b1 r g b2 l O h)(L:aD b1 r g b2 l O a)(ho:h.get? a=some o):St b1 (upd r a o) g b2 l O h where
 base:=S.base
 fr:=S.fr
 rs:=λb x e=>by
  unfold upd at e
  by_cases q:b=a
  .subst q;rw[if_pos rfl] at e;cases e;exact⟨_,ho,.refl _⟩
  .rw[if_neg q] at e;exact S.rs b x e
 len:=S.len
 own:=S.own
 free:=λi Q b e1 e2 q=>by
  refine bc λno=>aw (S.free i Q b e1 e2 q) λf1 f2 v=>no (⟨f1,?_,v⟩);unfold upd;rw[if_neg (λz=>by clear ho no;subst z;rw[L.2.2.2.1 i Q e1 e2] at q;exact tff q)];exact f2
 nd:=S.nd
 gr:=λb x e=>by
  unfold upd at e
  by_cases q:b=a
  .clear ho;subst q;exact⟨L.1,L.2.2.1⟩
  .rw[if_neg q] at e;exact S.gr b x e
 gt:=S.gt
 tabs:=S.tabs
 frs:=S.frs
theorem oS{r:ay}(h:upd r a o b=none):b≠a/\r b=none:=by
 unfold upd at h
 by_cases q:b=a
 .rw[if_pos q] at h;exact sno h
 .rw[if_neg q] at h;exact⟨q,h⟩
theorem St.release(hr:r a=none){o:Obj}(hc:o.cls≠ .type "frame")(S:St b1 (upd r a o) g b2 l O h):St b1 r g b2 l O h/\aD b1 r g b2 l O a/\h.get? a=some o:=by
 refine al (S.rs a o (eS _ _ _)) λo' e' q=>?_;have:=q.2.2.2 hc;subst this;have up:∀b x,r b=some x->upd r a o' b=some x:=λb x e=>by
  unfold upd;rw[if_neg (λz=>by subst z;rw[hr] at e;exact nso e)];exact e
 refine⟨⟨S.base,S.fr,λb x e=>S.rs b x (up b x e),S.len,S.own,λi Q b e1 e2 q=>?_,S.nd,λb x e=>S.gr b x (up b x e),S.gt,S.tabs,S.frs⟩,⟨(S.gr a o' (eS _ _ _)).1,hr,(S.gr a o' (eS _ _ _)).2,λi Q e1 e2=>?_,λe he z=>?_⟩,e'⟩
 .refine bc λno=>aw (S.free i Q b e1 e2 q) λf1 f2 v=>no (⟨f1,(oS f2).2,v⟩)
 .cases z:isFz Q with
  |true=>rfl
  |false=>exact absurd rfl (oS (S.free i Q a e1 e2 z).2.1).1
 ·(refine bc λno=>ac (S.frs e he) λ_ M=>aq M λd o D=>bK D λe1 e2 e3 _=>no ?_;clear D M no);rw[z] at e1;cases e1;rw[e'] at e2;cases e2;exact hc e3
theorem dg.release(X:dg b1 (upd r a o) g b2 l O h C x):dg b1 r g b2 l O h C x:=by
 have p:∀{b:Addr},aD b1 (upd r a o) g b2 l O b->aD b1 r g b2 l O b:=λ{b} L=>⟨L.1,(oS L.2.1).2,L.2.2⟩;refine h8 X λob vs a1 d B G a5 c=>⟨ob,vs,a1,d,B,G,p a5,?_⟩;rcases c with c|⟨t,i,vt,c5,cf,b3,U,y,z⟩
 .exact .inl c
 .exact .inr ⟨t,i,vt,c5,cf,b3,U,y,p z.1,z.2⟩
set_option tactic.hygienic true in
theorem GC{C:List T}(hu:TRs b1.w g C U):aa J b1 r l A (RV b1.w) g b2 (newList U) (if aJ C.length then bP (.list C) else λ_=>none):=by
 intro O B s bs Y a b S q
 split at q
 .rename_i hf
  cases q;exact wpAny_newList (PQ.alloc S rfl (oQ (TRs.mono a _ _ (by simpa using hu)))) (by refine rwl _ ?_ hu.len;exact hK hf)
 .exact nso q
theorem PQ.allocG{s:Shared}{ob:Obj}{tk:Tok}(S:St b1 r g b2 l O s.heap)(hf:ob.isFreed=false)
  (ho:TR b1.w (upd g s.heap.objs.size ob) t (.ref s.heap.objs.size)):PQ (RV b1.w) b1 r l s g b2 (.ok (.t t),O) (.ref s.heap.objs.size) {s with heap:=s.heap.push ob,toks:=tk}:=
 ⟨_,b2,_,rfl,⟨⟨_,tk,rfl⟩,aZ.upd ob (S.lt_g (cV _)),.refl _⟩,S.allocG (cV _) (λ_ _ e=>a3 _ e) (ea _ hf),ho⟩
set_option tactic.hygienic true in
theorem GD{C:List T}(hu:TRs b1.w g C U):aa J b1 r l A (RV b1.w) g b2 (newTuple U) (if aJ C.length then pm (.t (.tuple C)) else λ_=>none):=by
 intro O B s bs Y a b S q
 split at q
 .rename_i hf
  cases q;refine wpAny_newTuple (PQ.allocG S rfl ?_) (by refine rwl _ ?_ hu.len;exact hK hf);exact⟨_,U.toArray,0,rfl,eS _ _ _,TRs.mono (a.trans (aZ.upd _ (S.lt_g (cV _)))) _ _ (by simpa using hu)⟩
 .exact nso q
theorem GE(S:aL J b1 n rc)(hR:Rm A l n)(he:ER b1 l g b2 e env)(U:List Expr)(c4:Pos):
  aa J b1 r l A (RV b1.w) g b2 (eval (.List U c4) env) (bm (a8 rc e U) λvs=>bm (eV fr vs) λts=>if aJ ts.length then bP (.list ts) else λ_=>none):=by
 show aa J b1 r l A _ g b2 (do standAt c4;newList (<-spliced (backTo c4 (starEach U env)))) _;exact aa.standAt (aa.bind (jy S hR U c4 g b2 he) λbs Y vs ys hg hr hv=>aa.freezes hv λc5 bl C d m hu=>GC hu)
theorem GF(S:aL J b1 n rc)(hR:Rm A l n)(he:ER b1 l g b2 e env)(U:List Expr)(k:Nat)(c4:Pos):
  aa J b1 r l A (RV b1.w) g b2 (eval (.Tuple U k c4) env) (bm (a8 rc e U) λvs=>bm (eV fr vs) λts=>if aJ ts.length then pm (.t (.tuple ts)) else λ_=>none):=by
 show aa J b1 r l A _ g b2 (do standAt c4;newTuple (<-spliced (backTo c4 (starEach U env)))) _;exact aa.standAt (aa.bind (jy S hR U c4 g b2 he) λbs Y vs ys hg hr hv=>aa.freezes hv λc5 bl C d m hu=>GD hu)
@[elab_as_elim] theorem GG{P:T->T->Prop}(q:dR t k=some u)(w:∀U i,(jr U.length i).bind (U[·]?)=some u->P (.list U) (.int i))(tu:∀U i,(jr U.length i).bind (U[·]?)=some u->P (.tuple U) (.int i))
  (f:∀N k,(cE k).bind (bg N)=some u->P (.dict N) k):P t k:=by
 cases t<;>first|exact nso q|exact f _ _ q|(cases k<;>first|exact nso q|exact w _ _ q|exact tu _ _ q)
theorem yT{U:List T}(q:(jr U.length i).bind (U[·]?)=some u):∃j,(-(2^63)<=i/\i<2^63)/\seqIndex? i U.length=some j/\U[j]? =some u:=by
 refine al (Option.bind_eq_some_iff.mp q) λj hj hu=>ac (eU hj) λhb hj=>⟨j,hb,hj,hu⟩
theorem GH{ys:Array Value}{E:Value->Shared->Prop}{Q:Value->Shared->Prop}(hl:s.heap.IsList a ys)(hb: -(2^63)<=i/\i<2^63)(hj:seqIndex? i ys.size=some j)(hz:ys[j]? =some z)(hq:Q z s):wpAny (model J b1.w) A (getItem (.ref a) (.int i tk)) Q E s:=by
 unfold seqIndex? at hj
 by_cases h0:i<0
 .simp only[h0,if_true] at hj;refine ac (eU hj) λhc hj=>?_;have hj:=ai hj;subst hj;simp only[Bool.and_eq_true,decide_eq_true_eq] at hc;exact wpAny_getItem_list_neg hl h0 (Ff hc) hb.1 hz hq
 .simp only[h0,if_false] at hj;refine ac (eU hj) λhc hj=>?_;have hj:=ai hj;subst hj;exact wpAny_getItem_list hl (Int.not_lt.mp h0) hb.2 hz hq
theorem GI{E:Value->Shared->Prop}{Q:Value->Shared->Prop}(S:St b1 r g b2 l O s.heap)(ht:HR b1.w g s.heap t x)(hk:HR b1.w g s.heap k y)(q:dR t k=some u)
  (hq:∀z tk,TR b1.w g u z->Q z {s with toks:=tk}):(∃T,s.TypeIs x T/\(T="list"\/T="tuple"\/T="dict"))/\wpAny (model J b1.w) A (getItem x y) Q E s:=by
 revert ht hk;refine GG q (λU i q ht hk=>?_) (λU i q ht hk=>?_) (λN k q ht hk=>?_)
 ·(refine ag (eI hk) λtk bo=>?_;subst bo);(refine aq (il ht) λa ys c3=>aw c3 λc2 hl hs=>?_;clear c3;subst c2);refine cD (yT q) λj hb hj hu=>al ((fo.mp hs).get hu) λz hz tz=>?_;rw[Array.getElem?_toList] at hz;exact⟨⟨"list",hl.typeIs,.inl rfl⟩,GH hl hb (hs.len.trans (en)▸hj) hz (hq z s.toks tz)⟩
 ·(refine ag (eI hk) λtk bo=>?_;subst bo);(refine a9 ht λa ys ep D=>aw D λc2 ho hs=>?_;clear D;subst c2);refine cD (yT q) λj hb hj hu=>al ((fo.mp hs).get hu) λz hz tz=>?_;rw[Array.getElem?_toList] at hz;have w:=S.fr _ _ ho;exact⟨⟨"tuple",⟨_,w,rfl⟩,.inr (.inl rfl)⟩,P.getItem_tuple w hb.1 hb.2 (hs.len.trans (en)▸hj) hz (hq z s.toks tz)⟩
 .refine al (Option.bind_eq_some_iff.mp q) λf hkey hu=>?_;(refine aq (gh J ht) λa ps M=>bS M λc2 hs hd h1 h2=>?_;clear M;subst c2);refine ac (nb f h1 h2) λ_ m=>al (m u hu) λz hz tz=>⟨⟨"dict",hd.typeIs,.inr (.inr rfl)⟩,wpAny_getItem_of (jz hkey (yL hkey hk)) hd.mapOf hz (hq z _ tz)⟩
theorem GJ{T:String}(h:T="list"\/T="tuple"\/T="dict"):∃id,typeLookup (.type T) "__getitem__"=pure (some (.builtin id)):=by
 rcases h with rfl|rfl|rfl
 .exact⟨_,list_getitem_lookup⟩
 .exact⟨_,PySem.F.slot_tuple_getitem.lookup⟩
 .exact⟨_,slot_dict_getitem.lookup⟩
theorem GK{o:Value}{T id:String}{Q:Bool->Shared->Prop}{E:Value->Shared->Prop}(hT:s.TypeIs o T)(hl:typeLookup (.type T) "__getitem__"=pure (some (.builtin id)))(h:Q false s):
  wpAny (model J b1.w) A (getitemInPython o) Q E s:=by
 unfold getitemInPython;exact ae (wpAny_specialOf hT hl (ar h))
theorem GL(hs:∀a b c p,d≠ .Slice a b c p):subscripted d false o i=operate [o,i] (getItem o i):=by
 cases d<;>first|rfl|exact absurd rfl (hs _ _ _ _)
theorem yU{m:Sem Value}{Q:Value->Shared->Prop}{E:Value->Shared->Prop}(h:wpAny (model J b1.w) A m Q E s):wpAny (model J b1.w) A (operate vs m) Q E s:=
 λU p I=>by rw[Sem.wp_operate];exact h U p I
theorem yV{c d:Expr}{o i:Value}{T:String}{Q:Value->Shared->Prop}{E:Value->Shared->Prop}(hT:s.TypeIs o T)(hl:T="list"\/T="tuple"\/T="dict")
  (hs:∃vs,subscripted d false o i=operate vs (getItem o i))(h:wpAny (model J b1.w) A (getItem o i) Q E s):
  wpAny (model J b1.w) A (do let r<-subscripted d (<-getitemInPython o) o i;letTemporaryGo c o r;pure r) Q E s:=by
 refine ag (GJ hl) λid hl=>ag hs λvs hs=>ae (GK hT hl ?_);refine rwm _ ?_ hs;exact ae (yU (eb h (λr s' b5=>ae (wpAny_letTemporaryGo (ar b5))) λ_ _ x=>x))
theorem uv{U:List T}{ys:Array Value}(hs:TRs b1.w g U ys.toList):∀(b:List Nat),TRs b1.w g (b.filterMap (U[·]?)) (b.filterMap (ys[·]?))
 |[]=>rfl
 |j::b=>by
  have bb:=hs.len.trans (en);simp only[List.filterMap_cons]
  cases hx:U[j]?with
  |none=>
   have:ys[j]? =none:=by rw[Array.getElem?_eq_none];rw[List.getElem?_eq_none_iff] at hx;exact Fg bb hx
   refine rwm _ ?_ this;exact uv hs b
  |some x=>
   refine al ((fo.mp hs).get hx) λy L H=>?_;rw[Array.getElem?_toList] at L;refine rwm _ ?_ L;exact⟨y,_,rfl,H,uv hs b⟩
theorem uw(S:aL J b1 n rc)(hR:Rm A l n)(he:ER b1 l g b2 e env)(x:Option Expr):
  aa J b1 r l A (λg b2 (a:Option V)(y:Value)=>match a with|none=>y= .none|some v=>VR b1.w g b2 v y) g b2 (valueOrNone (evalOpt x env)) (iQ rc e x):=by
 cases x with
 |none=>exact aa.pure λ_ _ _ _=>rfl
 |some x=>
  intro O B s bs Y a b H q;refine aa.run ((S.ev hR he x).later a b) H q (λv y c6 s' b6 b4 q p S2 hv=>?_) λx s' z=>z;have q:=ai q;subst q;exact⟨b6,b4,_,rfl,p,S2,hv⟩
abbrev RO(w:World):Rl (Option V) Value:=λg b2 a y=>match a with|none=>y= .none|some v=>VR w g b2 v y
theorem GN(q:fR (some v)=some p):∃k,v= .t (.int k)/\p=some k:=by
 cases v with
 |own i=>exact nso q
 |t t=>cases t<;>first|exact nso q|exact⟨_,rfl,(ai q).symm⟩
theorem ux(h:RO w g b2 a y)(q:fR a=some p):IsPart y p:=by
 cases a with
 |none=>cases q;cases h;exact .none
 |some v=>
  (refine ag (GN q) λk c1=>ac c1 λc2 bo=>?_;clear c1;clear q;subst c2;subst bo);(refine ag h λt bo=>?_;clear h;subst bo);exact .int _ _
theorem RO.mono(h:RO w g b2 a y)(hg:aZ g b6)(hr:bu b2 b4):RO w b6 b4 a y:=by
 cases a with
 |none=>exact h
 |some v=>exact VR.mono hg hr _ _ h
def R3(w:World):Rl (Option V×Option V×Option V) Value:=λg b2 q L=>
 ∃a xl xu U,L= .ref a/\g a=some ⟨.type "slice",none,.fields #[xl,xu,U],#[]⟩/\RO w g b2 q.1 xl/\RO w g b2 q.2.1 xu/\RO w g b2 q.2.2 U
theorem GO(S:aL J b1 n rc)(hR:Rm A l n)(he:ER b1 l g b2 e env)(lo hi st:Option Expr)(p:Pos):aa J b1 r l A (R3 b1.w) g b2 (eval (.Slice lo hi st p) env)
  (bm (iQ rc e lo) λl=>bm (iQ rc e hi) λh=>bm (iQ rc e st) λs=>pm (l,h,s)):=by
 show aa J b1 r l A _ g b2 (do
    let l<-valueOrNone (evalOpt lo env)
    let u<-holding [l] (valueOrNone (evalOpt hi env))
    let s<-holding [l,u] (valueOrNone (evalOpt st env))
    newFields "slice" [l,u,s]) _
 refine aa.bind (uw S hR he lo) λbs Y a x hg hr ha=>aa.bind (aa.holding (uw S hR (he.mono hg hr) hi)) λc5 bl b y d m hb=>aa.bind (aa.holding (uw S hR ((he.mono hg hr).mono d m) st)) λc9 N c z D E hc=>?_;intro O B s c2 bb k1 k2 H q;cases q;have hn:=H.lt_g (cV _);refine r8 ?_ (by size_fits);have up:=aZ.upd (⟨.type "slice",none,.fields [x,y,z].toArray,#[]⟩:Obj) hn;exact⟨_,bb,_,rfl,⟨⟨_,s.toks,rfl⟩,up,.refl _⟩,H.allocG (cV _) (λ_ _ e=>a3 _ e) (ea _ rfl),
  _,x,y,z,rfl,eS _ _ _,RO.mono ha (((d.trans D).trans k1).trans up) ((m.trans E).trans k2),RO.mono hb ((D.trans k1).trans up) (E.trans k2),RO.mono hc (k1.trans up) k2⟩
set_option tactic.hygienic true in
theorem GP{B:Except Addr V×af}(q:qF t a b c O=some B):∃C f i d,t= .list C/\fR a=some f/\fR b=some i/\fR c=some d/\(d≠some 0/\aJ C.length=true)/\B=(.ok (.own O.length),O++[.list (lR C f i d)]):=by
 cases t<;>first|exact nso q|skip
 rename_i C
 have q:(match fR a,fR b,fR c with
  |some a,some b,some c=>if c≠some 0/\aJ C.length=true then bP (.list (lR C a b c)) else λ_=>none
  |_,_,_=>λ_=>none:MM V) O=some B:=q
 cases e1:fR a with
 |none=>rw[e1] at q;exact nso q
 |some f=>
 cases e2:fR b with
 |none=>rw[e1,e2] at q;exact nso q
 |some i=>
 cases e3:fR c with
 |none=>rw[e1,e2,e3] at q;exact nso q
 |some d=>
 rw[e1,e2,e3] at q;refine ac (cL q) λh q=>⟨C,f,i,d,rfl,rfl,rfl,rfl,h,(ai q).symm⟩
theorem GQ(S:aL J b1 n rc)(hR:Rm A l n)(he:ER b1 l g b2 e env)(o i:Expr)(c4:Pos):aa J b1 r l A (RV b1.w) g b2 (eval (.Subscript o i c4) env) (yn rc e o i):=by
 show aa J b1 r l A _ g b2 (do
  let M<-eval o env
  let L<-holding [M] (eval i env)
  standAt c4
  let r<-subscripted i (<-getitemInPython M) M L
  letTemporaryGo o M r
  pure r) _
 refine aa.bind (S.ev hR he o) λbs Y v x hg hr hv=>?_
 by_cases hs:∃a b c p,i= .Slice a b c p
 ·(refine bH hs λlo hi st p bd=>?_;clear hs;subst bd);have e0:mX rc e v (.Slice lo hi st p)=bm (bm (iQ rc e lo) λl=>bm (iQ rc e hi) λh=>bm (iQ rc e st) λs=>pm (l,h,s)) λq=>bm (aE v) λt=>qF t q.1 q.2.1 q.2.2:=by
   simp only[dw];rfl
  refine rwm _ ?_ e0;refine aa.bind (aa.holding (GO S hR (he.mono hg hr) lo hi st p)) λc5 bl q y d m hq=>aa.standAt (aa.vw (VR.mono d m _ _ hv) λO s c9 N t B a b H ht q'=>?_);(refine bH hq λsl xl xu U cd=>bS cd λc2 be h1 h2 h3=>?_;clear cd;clear hq;subst c2);(refine bH (GP q') λC pl pu ps cs=>dc cs λc2 e1 e2 e3 hc c6=>?_;clear cs;clear q';subst c2;subst c6);(refine aq (il ht) λI ys c3=>aw c3 λc2 hl f=>?_;clear c3;subst c2);have bb:=f.len.trans (en);have D:s.heap.IsSliceOf sl xl xu U:=⟨_,H.fr _ _ (a _ _ be),rfl,rfl⟩;refine yV hl.typeIs (.inl rfl) (by clear e0;cases st<;>exact⟨_,rfl⟩) (wpAny_getItem_list_slice hl D (ux h1 e1) (ux h2 e2) (ux h3 e3) hc.1 (PQ.alloc H rfl (oQ ?_)) (by refine rwl _ ?_ bb;exact hK hc.2));unfold lR;refine rwm _ ?_ bb;show TRs b1.w c9 _ (slicePick ys pl pu ps).toList;unfold slicePick;exact uv f _
 .have e1:mX rc e v i=bm (rc.ev i e) λL=>bm (aE v) λt=>match L with
    | .t k=>om ((dR t k).map .t)
    |_=>λ_=>none:=by
    unfold mX;cases i<;>first|rfl|exact absurd ⟨_,_,_,_,rfl⟩ hs
  refine rwm _ ?_ e1;refine aa.bind (aa.holding (S.ev hR (he.mono hg hr) i)) λc5 bl u y d m hu=>aa.standAt (aa.vw (VR.mono d m _ _ hv) λO s c9 N t B a b H ht q=>?_)
  cases u with
  |own j=>exact nso q
  |t k=>
   (refine ag (du q) λG c1=>ac c1 λe2 bo=>?_;clear c1;clear q;subst bo);(refine ag (Option.map_eq_some_iff.mp e2) λw c1=>ac c1 λe3 bo=>?_;clear c1;subst bo);(refine ac (GI (A:=A) (J:=J) (E:=PE b1 r l s c9 N (.ok (V.t w),O)) (Q:=PQ (RV b1.w) b1 r l s c9 N (.ok (V.t w),O)) H ht (TR.hr H (TR.mono a _ _ hu)) e3 λz tk tz=>PQ.vt H tz) λc7 hw=>?_;rcases c7 with⟨T,hT,bi⟩);exact yV hT bi ⟨_,GL λa b c p e=>hs ⟨a,b,c,p,e⟩⟩ hw
def DP(w:World)(g:ay)(N:List (aj×T))(ps:List (aj×Value)):Prop:=ps.map (·.1)=N.map (·.1)/\LR (TR w g) (N.map (·.2)) (ps.map (·.2))
theorem DP.nil:DP w g [] []:=⟨rfl,rfl⟩
theorem DP.cons(h1:TR w g t v)(h:DP w g N ps):DP w g ((k,t)::N) ((k,v)::ps):=
 ⟨by simp [h.1],⟨v,_,rfl,h1,h.2⟩⟩
theorem DP.inv(h:DP w g ((k,t)::N) ps):∃v H,ps=(k,v)::H/\TR w g t v/\DP w g N H:=by
 (refine ac h λh1 h2=>?_;clear h)
 cases ps with
 |nil=>simp at h1
 |cons p q=>
  rcases p with⟨m,d⟩;simp only[List.map_cons,List.cons.injEq] at h1;(refine b9 h2 λy r e1 e2 e3=>?_;clear h2);simp only[List.map_cons,List.cons.injEq] at e1;exact⟨d,q,by exact rwm _ rfl h1.1,e1.1▸e2,h1.2,e1.2▸e3⟩
theorem DP.nil_inv(h:DP w g [] ps):ps=[]:=by
 have:=h.1;cases ps with
 |nil=>rfl
 |cons p q=>simp at this
theorem DP.mono(hg:aZ g b6)(h:DP w g N ps):DP w b6 N ps:=⟨h.1,h.2.mono' (TR.mono hg)⟩
theorem DP.app(h1:DP w g a c)(h2:DP w g b d):DP w g (a++b) (c++d):=
 ⟨by simp [h1.1,h2.1],by simp only[List.map_append];exact h1.2.app h2.2⟩
theorem DP.any{N:List (aj×T)}{ps:List (aj×Value)}(h:DP w g N ps)(k:aj):ps.any (λG=>decide (G.1=k))=N.any (λG=>decide (G.1=k)):=by
 have e1:ps.any (λG=>decide (G.1=k))=(ps.map (·.1)).any (λx=>decide (x=k)):=by refine rwm _ ?_ List.any_map;rfl
 have e2:N.any (λG=>decide (G.1=k))=(N.map (·.1)).any (λx=>decide (x=k)):=by refine rwm _ ?_ List.any_map;rfl
 exact rwm _ (rwm _ (rwm _ rfl h.1) e2) e1
theorem DP.map(ht:TR w g t v):∀{N:List (aj×T)}{ps:List (aj×Value)},DP w g N ps->
  DP w g (N.map (λG=>if G.1=k then(G.1,t) else G)) (ps.map (λG=>if G.1=k then(G.1,v) else G))
 |[],ps,h=>by refine rwm _ ?_ h.nil_inv;exact .nil
 |(j,u)::N,ps,h=>by
  (refine aq h.inv λx H c3=>aw c3 λc2 h1 h2=>?_;clear c3;clear h;subst c2);simp only[List.map_cons]
  by_cases q:j=k
  .refine rwm _ (rwm _ ?_ (ec q)) (ec q);exact .cons ht (DP.map ht h2)
  .refine rwm _ (rwm _ ?_ (hX q)) (hX q);exact .cons h1 (DP.map ht h2)
theorem DP.put(h:DP w g N ps)(ht:TR w g t v):DP w g (bj N k t) (stored ps k v):=by
 unfold bj stored;refine rwm _ ?_ (h.any k)
 split
 .exact h.map ht
 .exact h.app (.cons ht .nil)
theorem DP.del:∀{N:List (aj×T)}{ps:List (aj×Value)},DP w g N ps->DP w g (gP N k) (without ps k)
 |[],ps,h=>by refine rwm _ ?_ h.nil_inv;exact .nil
 |(j,u)::N,ps,h=>by
  (refine aq h.inv λx H c3=>aw c3 λc2 h1 h2=>?_;clear c3;clear h;subst c2);have ih:=DP.del (k:=k) h2;unfold gP without at*;simp only[List.filter_cons]
  by_cases q:j=k
  .simp only[q,ne_eq,not_true_eq_false,decide_false,Bool.false_eq_true,if_false];exact ih
  .simp only[q,ne_eq,not_false_eq_true,decide_true,if_true];exact .cons h1 ih
theorem DP.foldPut:∀{C N:List (aj×T)}{vs ps:List (aj×Value)},DP w g C vs->DP w g N ps->DP w g (C.foldl (λd p=>bj d p.1 p.2) N) (PySem.merged ps vs)
 |[],N,vs,ps,h,k=>by refine rwm _ ?_ h.nil_inv;exact k
 |(j,u)::C,N,vs,ps,h,k=>by
  (refine aq h.inv λx H c3=>aw c3 λc2 h1 h2=>?_;clear c3;clear h;subst c2);refine(?_:DP w g (C.foldl (λd p=>bj d p.1 p.2) (bj N j u)) (PySem.merged (stored ps j x) H));exact DP.foldPut h2 (k.put h1)
theorem oT(hd:h.DictOf (kk J b1.w) a ps)(hp:DP b1.w g N ps)(ha:a≠sysModules):OR b1.w g b2 h (.dict N) a:=by
 (refine tm hd λo es ep ho hx c hk f hn=>?_;clear hd);rcases o with⟨cl,d,j,sl⟩;(refine bc λno=>aw hx λi E b=>no ?_;clear hx no);simp only at i E b c;subst i E b c;exact⟨es,ep,ho,TRd.of_pairs f hp.1 hp.2 (λe he=>hk e (by simpa using he)),by refine rwl _ ?_ hp.1;exact hn,ha⟩
def KP(w:World):Rl (List (aj×T)) (List (Value×Value)):=λg _ N vs=>∃ps:List (aj×Value),DP w g N ps/\LR (λ(p:aj×Value)(x:Value)=>gc p.1 x=true) ps (vs.map (·.1))/\ps.map (·.2)=vs.map (·.2)
theorem KP.carries(h:KP w g b2 N vs):∃ps,Carries (kk J w) vs ps/\DP w g N ps:=by
 (refine cD h λps h1 h2 h3=>?_;clear h);refine⟨ps,?_,h1⟩;clear h1
 induction ps generalizing vs with
 |nil=>cases vs with
  |nil=>trivial
  |cons a b=>simp at h3
 |cons p ps ih=>
  cases vs with
  |nil=>simp at h3
  |cons a b=>
   rcases p with⟨k,v⟩;rcases a with⟨x,y⟩;simp only[List.map_cons,List.cons.injEq] at h3;(refine b9 h2 λz rr e1 e2 e3=>?_;clear h2);simp only[List.map_cons,List.cons.injEq] at e1;exact⟨by refine rwm _ ?_ e1.1;exact e2,h3.1.symm,ih (e1.2▸e3) h3.2⟩
noncomputable def lV(env:Env)(c4:Pos):List (Option Expr)->List Expr->List (Sem Value×Sem Value)
 |some k::C,v::vs=>(eval k env,do let x<-eval v env;standAt c4;pure x)::lV env c4 C vs
 |_,_=>[]
theorem yW(c4:Pos):∀(C:List (Option Expr))(vs:List Expr),C.all (·.isSome)=true->(evalEachOpt C env).zip ((evalEach vs env).map λv=>do let x<-v;standAt c4;pure x)=(lV env c4 C vs).map λp=>(some p.1,p.2)
 |[],vs,_=>rfl
 |some k::C,[],_=>rfl
 |some k::C,v::vs,h=>by
  show(some (eval k env),_)::(evalEachOpt C env).zip _=_;refine rwm _ ?_ (yW c4 C vs (by simpa using h));rfl
 |none::C,vs,h=>by simp at h
theorem GR{R:Rl α β}{t:Sem β}{m:MM α}(h:aa J b1 r l A R g b2 t m):aa J b1 r l A R g b2 (do let x<-t;standAt p;pure x) m:=
 λO B s bs Y a b S e=>ae (eb (h O B s bs Y a b S e) (λx s' z=>ae (le (ar z))) λ_ _ z=>z)
theorem uy(S:aL J b1 n rc)(hR:Rm A l n)(c4:Pos):∀(C:List (Option Expr))(vs:List Expr)(g:ay)(b2:List Addr),ER b1 l g b2 e env->
  aa J b1 r l A (KP b1.w) g b2 (evalPairs (lV env c4 C vs)) (mV rc e C vs)
 |[],[],g,b2,he=>aa.pure λ_ _ _ _=>⟨[],.nil,rfl,rfl⟩
 |[],_::_,g,b2,he=>aa.none
 |none::_,[],g,b2,he=>aa.none
 |none::_,_::_,g,b2,he=>aa.none
 |some _::_,[],g,b2,he=>aa.none
 |some k::C,v::vs,g,b2,he=>by
  show aa J b1 r l A _ g b2 (do
   let G<-eval k env
   let B<-holding [G] (do let x<-eval v env;standAt c4;pure x)
   return(G,B)::(<-holding [G,B] (evalPairs (lV env c4 C vs)))) _
  refine aa.bind (S.ev hR he k) λbs Y G x hg hr hk=>aa.bind (R:=RV b1.w) (aa.holding (GR (S.ev hR (he.mono hg hr) v))) λc5 bl B y d m hv=>aa.freeze hv λc9 N t D E ht=>?_
  cases G with
  |own i=>exact aa.none
  |t kt=>
   cases M:cE kt with
   |none=>
    have:(bm (om (none:Option aj)) λf=>bm (mV rc e C vs) λj=>pm ((f,t)::j))=λ_=>none:=rfl;simp only[M];refine rwm _ ?_ this;exact aa.none
   |some f=>
    simp only[M];show aa J b1 r l A _ c9 N _ (bm (mV rc e C vs) λj=>pm ((f,t)::j));refine aa.bind (aa.holding (uy S hR c4 C vs c9 N (((he.mono hg hr).mono d m).mono D E))) λc2 bb j ps o w hp=>?_;refine cD hp λH p1 p2 p3=>aa.pure λf2 p b c=>⟨(f,y)::H,.cons (TR.mono (o.trans b) _ _ ht) (p1.mono b),⟨x,_,rfl,jz M hk,p2⟩,by simp [p3]⟩
theorem uz(G:Gl b1 P b7 mb)(hs:∃o,b1.B.get? sysModules=some o)(S:St b1 r g b2 l O s.heap):s.heap.objs.size≠sysModules:=λe=>by
 (refine ag hs λo ho=>?_;clear hs);have:=ms (S.ground _ _ ho);rw[e] at this;exact ko _ this
theorem GS(ct:s.heap.objs.size≠sysModules):OR b1.w g (b2++[s.heap.objs.size]) (s.heap.push ⟨.type "dict",.none,.dict #[] 0,#[]⟩) (.dict []) s.heap.objs.size:=
 ⟨#[],0,ea _ rfl,rfl,by simp,ct⟩
theorem GT(G:Gl b1 P b7 mb)(hs:∃o,b1.B.get? sysModules=some o)(S:aL J b1 n rc)(hR:Rm A l n)(he:ER b1 l g b2 e env)(C:List (Option Expr))(vs:List Expr)(c4:Pos):
  aa J b1 r l A (RV b1.w) g b2 (eval (.Dict C vs c4) env) (if C.length<=15&&C.length==vs.length&&C.all (·.isSome) then bm (mV rc e C vs) λl=>bP (.dict (l.foldl (λd p=>bj d p.1 p.2) [])) else λ_=>none):=by
 by_cases hc:(C.length<=15&&C.length==vs.length&&C.all (·.isSome))=true
 .refine rwm _ ?_ (ec hc);simp only[Bool.and_eq_true,decide_eq_true_eq,beq_iff_eq] at hc;refine ac hc λhc i=>?_
  cases C with
  |nil=>
   have:vs=[]:=List.length_eq_zero_iff.mp hc.2.symm;subst this;intro O B s bs Y a b H q;cases q;show wpAny _ _ (do standAt c4;dictDisplay []) _ _ _;refine ae (le ?_);show wpAny _ _ (newDict #[]) _ _ _;exact r8 (PQ.alloc H rfl (GS (uz G hs H))) (by size_fits)
  |cons k C=>
   cases vs with
   |nil=>simp at hc
   |cons v vs=>
    intro O B s bs Y a b H q;have be:=he.mono a b;have bb:(lV env c4 (k::C) (v::vs)).length<=15:=by
     have:∀(C:List (Option Expr))(vs:List Expr),(lV env c4 C vs).length<=C.length:=by
      intro C
      induction C with
      |nil=>intro vs;exact i1 _
      |cons k C ih=>intro vs;cases k<;>cases vs<;>first|exact i1 _|exact i2 (ih _)
     exact a6 (this _ _) hc.1
    have ct:lV env c4 (k::C) (v::vs)≠[]:=by cases k<;>first|exact List.cons_ne_nil _ _|(simp at i)
    refine wpAny_Dict_pairs (knd:=kk J b1.w) (yW c4 _ _ i) ct bb ?_;have hn:=cV s.heap;have ho:(s.heap.push ⟨.type "dict",.none,.dict #[] 0,#[]⟩).get? s.heap.objs.size=some ⟨.type "dict",.none,.dict #[] 0,#[]⟩:=ea _ rfl;have S1:St b1 r bs Y l O (s.heap.push ⟨.type "dict",.none,.dict #[] 0,#[]⟩):=H.keep λ_ _ e=>a3 _ e;have L1:=H.lone_new hn;have S2:=S1.reserve L1 ho;have j:=L1.2.1;(refine bc λno=>a2 (ed q) (λzz=>aq zz λN c6 bi=>ac bi λe1 e2=>no ?_) (λzz=>aq zz λc c6 bi=>ac bi λe1 e2=>no ?_)<;>clear bi zz no)
    .clear q;cases e2;refine eb (uy S hR c4 (k::C) (v::vs) bs Y be O _ {s with heap:=s.heap.push ⟨.type "dict",.none,.dict #[] 0,#[]⟩} bs Y (.refl _) (.refl _) S2 e1) (λy s' z=>?_) λy s' z=>?_
     ·(refine ch z λc5 bl t q1 p S3 hk=>?_;clear z);(have za:=oke q1;clear q1;cases za);refine bc λno=>aw (S3.release j (by simp)) λS4 I h4=>no (al (KP.carries (J:=J) hk) λps Q E=>?_);have m:s'.heap.DictOf (kk J b1.w) s.heap.objs.size []:=⟨_,#[],0,h4,⟨rfl,rfl,rfl⟩,rfl,λ_ he=>by simp at he,.nil,List.nodup_nil⟩;refine⟨ps,Q,m,λb5 c9 c3=>?_⟩;have S5:=S4.extBut I c3.extBut;(refine bc λno=>aw p λD p2 p3=>?_;clear p;rcases D with⟨h5,f,e5⟩;refine no ?_;clear no);clear m c3;subst e5;exact⟨c5,bl++[s.heap.objs.size],_,rfl,⟨⟨b5,_,rfl⟩,p2,p3.trans (.app _ _)⟩,(S5.adopt I rfl (oT c9 (DP.foldPut E .nil) (uz G hs H))),_,by refine rwl _ ?_ S4.len;simp,rfl⟩
     .refine cT z λ_ _ _ _ q1 _=>oee q1
    .clear q;cases e2;refine eb (uy S hR c4 (k::C) (v::vs) bs Y be O _ {s with heap:=s.heap.push ⟨.type "dict",.none,.dict #[] 0,#[]⟩} bs Y (.refl _) (.refl _) S2 e1) (λy s' z=>?_) λy s' z=>?_
     .refine d0 z λ_ _ _ q1 _=>eoe q1
     ·(refine oq z λc5 bl c' ex q1 p S3 hx X=>?_;clear z);(have za:=ere q1;clear q1;cases za);(refine bc λno=>aw (S3.release j (by simp)) λS4 I h4=>no ?_;clear no);(refine bc λno=>aw p λD p2 p3=>?_;clear p;rcases D with⟨h5,f,e5⟩;refine no ?_;clear no);clear S3 h4;subst e5;exact⟨c5,bl,_,ex,rfl,⟨⟨h5,f,rfl⟩,p2,p3⟩,S4,hx,X.release⟩
 .refine rwm _ ?_ (hX hc);exact aa.none
end
structure Kt (K:Frag) (cx:Cx) (P:bt):Prop where
 X:K.In cx.B
 fld:∀C n,P.fld C n=true->∃cd,clsIn K C=some cd/\cd.hasDict=true/\findIn K (.ref C) n=some none/\findIn K (.ref C) "__getattribute__"=some (some (.builtin "object.__getattribute__"))
section
variable {J:Program}{b1:Cx}{r g b6:ay}{b2 b4:List Addr}{l:List Env}{A:Around}{α β γ δ:Type}{P:bt}{b7 mb:Str->Option Value}{n:Nat}{rc:aG}{e:AE}{env:Env}{O:af}{h b5:Heap}{s:Shared}{K:Frag}
set_option tactic.hygienic true in
theorem uA{b:Sem Value}(h:fP o=true):attributeBase o attr env b=b:=by
 cases o<;>first|rfl|skip
 rename_i f be m p
 cases f<;>first|rfl|skip
 cases be with
 |cons a l=>rfl
 |nil=>cases m with
  |cons a l=>rfl
  |nil=>exact ftf h
theorem GU{m:Str->Option Value}(hn:fm o m)(hv:m x=some v):lookIn x o=some (some v):=by
 (refine b9 hn λes ep hd _ hf=>?_;clear hn);have:=hf x;rw[hv] at this;unfold nsFind findBy at this;refine al (Option.map_eq_some_iff.mp this) λf he d=>?_;unfold lookIn;refine rwm _ ?_ hd;dsimp only;refine rwm _ (rwm _ ?_ he) (Array.find?_toList);simp [d]
theorem yX(k:Kt K b1 P)(S:St b1 r g b2 l O s.heap){m:Str->Option Value}{E:Value->Shared->Prop}{Q:Value->Shared->Prop}(hf:P.fld C x=true)
  (ha:s.heap.get? a=some ⟨.ref C,some d,.plain,#[]⟩)(hd:s.heap.get? d=some od)(hn:fm od m)(hv:m x=some v)(hh:handedIn v=true)(hq:Q v {s with toks:=s.toks+1}):
  wpAny (model J b1.w) A (getAttr (.ref a) x true) Q E s:=by
 refine bc λno=>ag (k.fld C x hf) λc6 c3=>bK c3 λh1 h2 h3 h4=>no (get_value (od:=some od) (k.X.keeps S.ground) ⟨ha,rfl,rfl,hd⟩ h4 ?_ hh hq);exact findObj_own (by unfold hasDictIn;refine rwm _ ?_ h1;exact h2) h3 rfl (GU hn hv)
theorem uB:(t:T)->∀k u,strip t≠ .box k u
 | .box _ t,k,u=>uB t k u
 | .none,_,_=>by intro e;cases e
 | .bool _,_,_=>by intro e;cases e
 | .int _,_,_=>by intro e;cases e
 | .str _,_,_=>by intro e;cases e
 | .bytes _,_,_=>by intro e;cases e
 | .typ _,_,_=>by intro e;cases e
 | .bi _,_,_=>by intro e;cases e
 | .top _,_,_=>by intro e;cases e
 | .range _ _,_,_=>by intro e;cases e
 | .list _,_,_=>by intro e;cases e
 | .tuple _,_,_=>by intro e;cases e
 | .dict _,_,_=>by intro e;cases e
 | .inst _ _,_,_=>by intro e;cases e
theorem GV(hb:qA (strip t)=false)(hv:TR w g t x):handedIn x=true:=by
 have hs:=uB t;have hv:=TR.strip hv;generalize strip t=u at hb hs hv;cases u<;>(try((first|exact tff hb|cases hb);done))<;>skip
 all_goals first
  |(subst hv;rfl)
  |((refine ag hv λ_ bo=>?_;clear hv;first|subst bo|cases bo);rfl)
  |((refine bH hv λ_ _ _ _ D=>ac D λc2 _=>?_;clear D;subst c2);rfl)
  |((refine a9 hv λ_ _ _ c3=>ac c3 λc2 _=>?_;clear c3;clear hv;subst c2);rfl)
  |exact absurd rfl (hs _ _)
theorem yY(q:iN v=some u)(hv:VR b1.w g b2 v x):u=v/\handedIn x=true:=by
 cases v with
 |own i=>cases q;(refine ag hv λa c1=>ac c1 λ_ bo=>?_;clear c1;subst bo);exact⟨rfl,rfl⟩
 |t t=>
  unfold iN at q;dsimp only at q
  cases hb:qA (strip t) with
  |true=>rw[hb] at q;exact nso q
  |false=>rw[hb] at q;cases q;exact⟨rfl,GV hb hv⟩
theorem GW{fld:Addr->Str->Bool}{t:T}{n:Str}{B:Except Addr V×af}(q:mS fld t n O=some B):∃C fs t' u,t= .inst C fs/\fld C n=true/\fs.lookup n=some t'/\iN (.t t')=some u/\B=(.ok u,O):=by
 cases t<;>first|exact nso q|skip
 refine ac (cL q) λh q=>al (du q) λu e1 e2=>al (Option.bind_eq_some_iff.mp e1) λt e3 e4=>⟨_,_,t,u,rfl,h,e3,e4,e2⟩
theorem GX{fld:Addr->Str->Bool}{t:MO}{n:Str}{B:Except Addr V×af}(q:yg fld n t O=some B):(∃t',t= .fz t'/\mS fld t' n O=some B)\/∃C fs t' u,t= .sh C fs/\fld C n=true/\fs.lookup n=some t'/\iN t'=some u/\B=(.ok u,O):=by
 cases t<;>first|exact nso q|exact .inl ⟨_,rfl,q⟩|skip
 refine ac (cL q) λh q=>al (du q) λu e1 e2=>al (Option.bind_eq_some_iff.mp e1) λt e3 e4=> .inr ⟨_,_,t,u,rfl,h,e3,e4,e2⟩
theorem yZ(k:Kt K b1 P){nm:Str}{t:T}{x:Value}{B:Except Addr V×af}(S:St b1 r g b2 l O s.heap)(ht:TR b1.w g t x)(q:mS P.fld t nm O=some B):wpAny (model J b1.w) A (getAttr x nm true) (PQ (RV b1.w) b1 r l s g b2 B) (PE b1 r l s g b2 B) s:=by
 (refine bH (GW q) λC fs t' u cd=>bS cd λc2 hf e2 e3 bd=>?_;clear cd;clear q;subst c2;subst bd);(refine bH ht λa d od m cs=>dc cs λc2 h1 h2 h3 h4 h5=>?_;clear cs;clear ht;subst c2);refine al ((tQ.mp h4).get e2) λy L H=>?_;(refine ac (yY e3 (show VR b1.w g b2 (.t t') y from H)) λc2 hh=>?_;subst c2);exact yX k S hf (S.fr _ _ h1) (S.fr _ _ h2) h3 L hh (PQ.vt S H)
theorem GY(k:Kt K b1 P){v:V}{x:Value}(hv:VR b1.w g b2 v x)(nm:Str):aa J b1 r l A (RV b1.w) g b2 (getAttr x nm true) (qB P.fld v nm):=by
 intro O B s bs Y a b S q;have hv:=VR.mono a b _ _ hv
 cases v with
 |t t=>exact yZ k S (TR.strip hv) q
 |own i=>
  (refine ag hv λad c1=>ac c1 λha bo=>?_;clear c1;clear hv;subst bo);refine al (dF q) λQ hi q=>?_;have w:=S.own i Q ad hi ha;(refine a2 (GX q) (λzz=>?_) (λzz=>?_);refine ag zz λt' c1=>ac c1 λc2 q=>?_;clear c1;clear hi;subst c2;rotate_left;refine bH zz λC fs t' u cd=>bS cd λc2 hf e2 e3 bd=>?_;clear cd;clear hi zz;subst c2;subst bd;rotate_right)
  .exact yZ k S w q
  .refine dp w λd od m h1 h2 h3 h4 h5=>al (h4.get e2) λy L H=>?_;(refine ac (yY e3 H) λc2 hh=>?_;clear e2 e3;subst c2);exact yX k S hf (S.fr _ _ h1) (S.fr _ _ h2) h3 L hh (PQ.tok S H)
theorem GZ(k:Kt K b1 P)(S:aL J b1 n rc)(hR:Rm A l n)(he:ER b1 l g b2 e env)(o:Expr)(nm:Str)(c4:Pos):
  aa J b1 r l A (RV b1.w) g b2 (eval (.Attribute o nm c4) env) (if fP o then bm (rc.ev o e) λM=>qB P.fld M nm else λ_=>none):=by
 by_cases hb:fP o=true
 .refine rwm _ ?_ (ec hb);show aa J b1 r l A _ g b2 (do
   let M<-attributeBase o nm env (eval o env)
   standAt c4.atName
   let r<-holding [M] (getAttr M nm true)
   letTemporaryGo o M r
   pure r) _
  refine rwm _ ?_ (uA hb);refine aa.bind (S.ev hR he o) λbs Y v x hg hr hv=>aa.standAt ?_;intro O B s c5 bl a b H q;refine ae (hy (eb (GY k hv nm O B s c5 bl a b H q) (λy s' z=>?_) λ_ _ z=>z));exact ae (wpAny_letTemporaryGo (ar z))
 .refine rwm _ ?_ (hX hb);exact aa.none
theorem uC{o:Obj}{m:Str->Option Value}(G:Int)(t:Tok)(hn:fm o m):
  fm (o.putName x G (.str x t) v) (λy=>if y=x then some v else m y)/\(o.putName x G (.str x t) v).cls=o.cls/\(o.putName x G (.str x t) v).isFreed=false/\(o.putName x G (.str x t) v).dict=o.dict/\(o.putName x G (.str x t) v).slots=o.slots:=by
 (refine b9 hn λes ep hd hk hm=>?_;clear hn);rcases o with⟨c,d,j,sl⟩;simp only at hd;subst hd
 cases hi:es.findIdx? (λe=>e.key.isStr x) with
 |some i=>
  have e:Obj.putName x G (.str x t) v ⟨c,d,.dict es ep,sl⟩=⟨c,d,.dict (es.modify i λe=>{e with val:=v}) ep,sl⟩:=by simp only[Obj.putName_eq,Obj.putNameByArray,hi]
  refine rwm _ ?_ e;refine⟨⟨_,ep,rfl,hk.modify _ _,λy=>?_⟩,rfl,rfl,rfl,rfl⟩;show _=if y=x then some v else m y
  refine rwl _ ?_ (hm y);exact findBy_modify (λn v=>v.isStr n) Value.isStr_inj es x y v i hi
 |none=>
  have e:Obj.putName x G (.str x t) v ⟨c,d,.dict es ep,sl⟩=⟨c,d,.dict (es.push ⟨G,.str x t,v⟩) (ep+1),sl⟩:=by simp only[Obj.putName_eq,Obj.putNameByArray,hi]
  refine rwm _ ?_ e;refine⟨⟨_,ep+1,rfl,hk.push _ _ _ _,λy=>?_⟩,rfl,rfl,rfl,rfl⟩;show _=if y=x then some v else m y
  refine rwl _ ?_ (hm y);refine findBy_push (λn v=>v.isStr n) es x y _ _ v (λz=>?_) hi;refine(?_:(x==z)=decide (z=x))
  by_cases q:z=x
  .clear hi;subst q;simp
  .refine rwm _ ?_ (li q);exact beq_eq_false_iff_ne.mpr λe=>q e.symm
theorem uD{m:Str->Option Value}{x:Str}{v:Value}{M:Model}{E:Value->Shared->Prop}{Q:Unit->Shared->Prop}(ho:s.heap.get? a=some o)(hn:fm o m)
  (h:∀G t,Q () {s with heap:=s.heap.update a (Obj.putName x G (.str x t) v),toks:=s.toks+1}):wpAny M A (nsSet a x v) Q E s:=by
 (refine b9 hn λes ep hd hk hm=>?_;clear hn);intro U p I;simp only[nsSet,strHash,Sem.wp_bind',Sem.wp_cmd_ask,Sem.wp_pure',Sem.wp_cmd_mkText];rw[Sem.wp_loadPart_of M U _ p {s with toks:=s.toks+1} _ ho];have i:es.any (·.refKey)=false:=by
  rw[Array.any_eq_false'];intro e he;(refine bc λno=>aq (hk e he) λn t h=>no ?_;clear no);simp [DictEntry.refKey,h]
 simp only[hd,aRefKeyMayBeTheName_eq,aRefKeyMayBeTheNameByArray,i,Bool.and_false,Bool.false_eq_true,if_false,Sem.wp_cmd_updatePart];exact⟨by refine rwm _ ?_ ho;rfl,h _ _⟩
theorem G0{E:Value->Shared->Prop}(S:St b1 r g b2 l O s.heap)(hi:O[i]? =some (.ns f N))(ha:b2[i]? =some a)(hv:VR b1.w g b2 v y)
  {Q:Unit->Shared->Prop}(hq:∀b5 tk,St b1 r g b2 l (O.set i (.ns f (dN N x v))) b5->Q () {s with heap:=b5,toks:=tk}):wpAny (model J b1.w) A (nsSet a x y) Q E s:=by
 refine h8 (S.own _ _ _ hi ha) λo m ho hn hf hz p cr=>uD ho hn λG t=>hq _ _ ?_;(refine bc λno=>bS (uC (x:=x) (v:=y) G t hn) λp1 p2 p3 j H=>no ?_;clear no);have c3:=ks (Obj.putName x G (.str x t) y) ho p3;refine S.set hi rfl ha (ka ..).extBut rfl ⟨_,_,c3,p1,hf.put p hv,hz.put,xK p,p2.trans cr⟩ λo' e1 e2=>by rw[ho] at e1;cases e1;exact⟨_,c3,p2.trans e2⟩
theorem G3(b:env.kindOf x=some .cell)(hk:env.scope.kind= .function):storeName env x y=(do cellSet (<-cellOf env x) (some y)):=by
 unfold storeName;refine rwm _ ?_ b;show(if(env.scope.kind== .class&&some NameKind.cell==some .cell)=true then localSet env x y else do cellSet (<-cellOf env x) (some y))=_;refine rwm _ ?_ hk;rfl
theorem uE(he:ER b1 N g b2 e env)(x:Str)(hv:VR b1.w g b2 v y):aa J b1 r l A (RU (α:=Unit) (β:=Unit)) g b2 (storeName env x y) (jq e x v):=by
 intro O B s bs Y hg hr S q;have he:=he.mono hg hr;have hv:=VR.mono hg hr _ _ hv;have hk:env.scope.kind= .function:=by refine rwm _ ?_ he.scope;exact he.kind
 have b:env.kindOf x=e.scope.names.lookup x:=by unfold Env.kindOf;exact rwm _ rfl he.scope
 have cl:∀{M:af}(b5:Heap)(tk:Tok),St b1 r bs Y l M b5->PQ (RU) b1 r l s bs Y (.ok (),M) () {s with heap:=b5,toks:=tk}:=λb5 tk H=>⟨bs,Y,(),rfl,⟨⟨b5,tk,rfl⟩,.refl _,.refl _⟩,H,trivial⟩;unfold jq at q
 cases hl:e.scope.names.lookup x with
 |none=>rw[hl] at q;exact nso q
 |some d=>
  rw[hl] at b q;clear hl;cases d<;>first|exact nso q|skip
  .refine al (dF q) λQ e1 q=>?_;cases Q<;>first|((first|exact nso q|cases q);done)|skip
   cases q;rw[storeName_local b (by rw[hk];rfl)];exact G0 S e1 he.loc hv λb5 tk H=>cl b5 tk H
  .cases hc:e.cells.lookup x with
   |none=>
    have q:=q;rw[hc] at q;exact nso q
   |some c=>
    have q:=q;rw[hc] at q;refine al (dF q) λQ e1 q=>?_;cases Q<;>first|exact nso q|skip
    cases q;refine al (he.cells.get hc) λa ha w=>al (S.own _ _ _ e1 w) λf ho p=>?_;refine rwm _ ?_ (G3 b hk);refine ae (wpAny_cellOf ha ?_);unfold cellSet;refine ae (ra ho (wpAny_update ho ?_));exact cl _ _ (S.set e1 rfl w (ka ..).extBut rfl ⟨some y,(ks (λo=>{o with data:=Data.cell (some y)}) ho rfl),hv⟩ λo' e2 e3=>by rw[ho] at e2;cases e2;simp at e3)
theorem aa.bindName{R:Rl α Unit}{m:MM α}(h:aa J b1 r l A R g b2 (storeName env x y) m):aa J b1 r l A R g b2 (bindName env x y) m:=
 λO B s bs Y a b S q=>wpAny_bindName (h O B s bs Y a b S q)
theorem G4(he:ER b1 l g b2 e env)(x:Str)(c4:Pos)(hv:VR b1.w g b2 v y):aa J b1 r l A (RU (α:=Unit) (β:=Unit)) g b2 (assign (.Name x c4) env y) (jq e x v):=by
 show aa J b1 r l A _ g b2 (do standAt c4;bindName env x y) _;exact aa.standAt (aa.bindName (uE he x hv))
theorem TRs.set{U:List T}{ys:List Value}:∀(j:Nat),TRs b1.w g U ys->TR b1.w g t y->TRs b1.w g (U.set j t) (ys.set j y):=by
 induction U generalizing ys with
 |nil=>intro j h _;subst h;rfl
 |cons a U ih=>
  intro j h ht;(refine aq h λz rr c3=>aw c3 λc2 h1 h2=>?_;clear c3;clear h;subst c2)
  cases j with
  |zero=>exact⟨y,rr,rfl,ht,h2⟩
  |succ j=>exact⟨z,_,rfl,h1,ih j h2 ht⟩
theorem G5{a:Addr}{ys:Array Value}{ep:Nat}{k:Int}{t:Tok}{v:Value}{Q:Unit->Shared->Prop}{E:Value->Shared->Prop}(ho:s.heap.get? a=some ⟨.type "list",.none,.seq ys ep,#[]⟩)
  (h0:0<=k)(b:k<2^63)(hn:k<ys.size)(hq:Q () {s with heap:=s.heap.update a (Obj.mapSeq (·.setIfInBounds k.toNat v))}):wpAny (model J b1.w) A (setItem (.ref a) (.int k t) v) Q E s:=by
 have hl:s.heap.IsList a ys:=⟨_,ho,rfl,ep,rfl⟩;unfold setItem
 try with_reducible refine hy ?_
 refine ae (wpAny_sequenceKey hl.typeIs (by decide) ?_);refine ae (wpAny_callSpecial?_slot hl.typeIs slot_list_setitem
  (wpAny_call_entry slot_list_setitem hl.typeIs entry_list_setitem ?_ (args_list_setitem _ _ _)))
 show wpAny _ _ (Builtin.List.listSubscript? (.int k t)>>=_) _ _ s;refine ae (wpAny_listSubscript_int (fitsIndex_of h0 b) ?_);clear b;(refine ag (pb h0) λj bo=>?_;clear h0;subst bo);have hj:=Int.ofNat_lt.mp hn;show wpAny _ _ ((seqItemAt a j>>=λr=>pure (r.map (j,·)))>>=_) _ _ s;refine ae (ae (wpAny_seqItemAt ho rfl (ar ?_)));refine rwm _ ?_ (lv hj);show wpAny _ _ (setSeqItemAt a j v>>=_) _ _ s;refine ae (wpAny_setSeqItemAt ho rfl ?_)
 first
  |exact ae (ar (ar ⟨.none,rfl,ar hq⟩))
  |exact ar ⟨.none,rfl,ar hq⟩
set_option tactic.hygienic true in
theorem G6(k:Nat){it t:T}{a:Addr}{y z:Value}{Q:MO}{B:Except Addr Unit×af}(S:St b1 r g b2 l O s.heap)(hi:O[k]? =some Q)(ha:b2[k]? =some a)(L:TR b1.w g it y)(hz:TR b1.w g t z)
  (q:lS Q k it t O=some B):wpAny (model J b1.w) A (setItem (.ref a) y z) (PQ (RU (α:=Unit) (β:=Unit)) b1 r l s g b2 B) (PE b1 r l s g b2 B) s:=by
 have w:=S.own _ _ _ hi ha;have cl:∀{M:af}(b5:Heap)(tk:Tok),St b1 r g b2 l M b5->PQ (RU) b1 r l s g b2 (.ok (),M) () {s with heap:=b5,toks:=tk}:=λb5 tk H=>⟨g,b2,(),rfl,⟨⟨b5,tk,rfl⟩,.refl _,.refl _⟩,H,trivial⟩;cases Q<;>first|exact nso q|skip
 .rename_i U
  cases it<;>first|exact nso q|skip
  rename_i i
  refine al (dG q) λj hj q=>?_;cases q;(refine ag L λtk bo=>?_;clear L;subst bo);(refine cS w λys ep ho hs=>?_;clear w);have bb:=hs.len.trans (en);refine ac (eU hj) λhb hj=>?_;cases hj;simp only[Bool.and_eq_true,decide_eq_true_eq] at hb;refine G5 ho hb.1.1 hb.2 (E8 bb hb) (cl _ s.toks (S.set hi rfl ha (ka ..).extBut rfl ?_ λo' e1 e2=>by rw[ho] at e1;cases e1;simp at e2));refine⟨ys.setIfInBounds i.toNat z,_,(ks (Obj.mapSeq (·.setIfInBounds i.toNat z)) ho rfl),?_⟩;refine rwm _ ?_ Array.toList_setIfInBounds;exact TRs.set _ hs hz
 .rename_i N
  refine al (dG q) λf hk q=>ac (cL q) λhf q=>?_;cases q;(refine lz (gh J (show HR b1.w g s.heap (.dict N) (.ref a) from by obtain⟨es,ep,z⟩:=w;exact⟨a,es,ep,rfl,z⟩)) λI ps e1 d hd h1 h2=>?_);cases e1;have bb:ps.length=N.length:=by simpa using hS List.length h1
  refine wpAny_setItem_pairs (jz hk L) hd (λb5 c9 c3=>?_) (by have:=hK hf;exact a6 (ej bb) (l3 this));refine cS w λes ep ho _=>cl _ _ (S.set hi rfl ha c3.extBut rfl (oT c9 (DP.put ⟨h1,h2⟩ hz) (beq_eq_false_iff_ne.mp d)) λo' e1 e2=>by rw[ho] at e1;cases e1;simp at e2)
set_option backward.match.sparseCases true in
theorem G7(o i:Expr)(c4:Pos)(z:Value):assign (.Subscript o i c4) env z=(do
   let M<-holding [z] (eval o env)
   let L<-holding [z,M] (eval i env)
   standAt c4
   holding [z,M,L] (setItem M L z)
   release (match i with| .Slice _ _ none _=>[L,z,M]|_=>[z,M,L]) []):=rfl
theorem G8(S:aL J b1 n rc)(hR:Rm A l n)(he:ER b1 l g b2 e env)(o i:Expr)(c4:Pos)(hv:VR b1.w g b2 v z):
  aa J b1 r l A (RU (α:=Unit) (β:=Unit)) g b2 (assign (.Subscript o i c4) env z) (m7 rc e o i v):=by
 by_cases hs:∃a b c p,i= .Slice a b c p
 ·(refine bH hs λ_ _ _ _ bd=>?_;clear hs;subst bd);exact aa.none
 .have e1:m7 rc e o i v=bm (rc.ev o e) λM=>bm (rc.ev i e) λL=>bm (fr v) λt=>match M,L with
   | .own k,.t it=>bm (bw k) λQ=>lS Q k it t
   |_,_=>λ_=>none:=by
    unfold m7;cases i<;>first|rfl|exact absurd ⟨_,_,_,_,rfl⟩ hs
  refine rwm _ ?_ e1;rw[G7];refine aa.bind (aa.holding (S.ev hR he o)) λbs Y M x hg hr ho=>aa.bind (aa.holding (S.ev hR (he.mono hg hr) i)) λc5 bl L y d m hi=>aa.standAt (aa.freeze (VR.mono (hg.trans d) (hr.trans m) _ _ hv) λc9 N t D E ht=>?_)
  cases M with
  |t _=>exact aa.none
  |own k=>
   cases L with
   |own _=>exact aa.none
   |t it=>
    intro O B s c2 bb a b H q;refine al (dF q) λQ f q=>?_;(refine ag ho λad c1=>ac c1 λj bo=>?_;clear c1;clear ho;subst bo);refine ae (hy (eb (G6 k H f (b _ _ (E _ _ (m _ _ j))) (TR.mono (D.trans a) _ _ hi) (TR.mono a _ _ ht) q) (λu s' w=>?_) λ_ _ w=>w));exactλU p I=>by rw[Sem.wp_release];exact w
structure oU (K:Frag) (cx:Cx) (P:bt):Prop where
 X:K.In cx.B
 fld:∀C n,P.fld C n=true->findIn K (.ref C) "__setattr__"=some (some (.builtin "object.__setattr__"))/\plainOver K C=true/\takerIn K C n=some none/\(clsIn K C).any (·.hasDict)=true
theorem G9(N:List (Str×V))(x:Str)(v:V):N.length<=(dN N x v).length/\(dN N x v).length<=N.length+1/\(x∉N.map (·.1)->(dN N x v).length=N.length+1):=by
 induction N with
 |nil=>exact⟨i1 _,hY _,λ_=>rfl⟩
 |cons p q ih=>
  rcases p with⟨k,u⟩
  by_cases e:x=k
  .subst e;refine rwm _ ?_ (qo (p:=(x,u)));simp
  .refine rwm _ ?_ (qm (p:=(k,u)) e);refine⟨by simp [ih.1],by simp [ih.2.1],λh=>?_⟩;simp only[List.map_cons,List.mem_cons,not_or] at h;simp [ih.2.2 h.2]
theorem y3{es:Array DictEntry}(G:Int)(t:Tok)(e:Obj.putName x G (.str x t) v ⟨.type "dict",.none,.dict es ep,#[]⟩=o'):
  ∃H cf,o'=⟨.type "dict",.none,.dict H cf,#[]⟩/\(H.size=es.size\/(H.size=es.size+1/\es.findIdx? (λe=>e.key.isStr x)=none)):=by
 subst e
 cases hi:es.findIdx? (λe=>e.key.isStr x) with
 |some i=>
  have e:Obj.putName x G (.str x t) v ⟨.type "dict",.none,.dict es ep,#[]⟩=⟨.type "dict",.none,.dict (es.modify i λe=>{e with val:=v}) ep,#[]⟩:=by simp only[Obj.putName_eq,Obj.putNameByArray,hi]
  exact⟨_,_,e,.inl (by exact rwm _ rfl Array.size_modify)⟩
 |none=>
  have e:Obj.putName x G (.str x t) v ⟨.type "dict",.none,.dict es ep,#[]⟩=⟨.type "dict",.none,.dict (es.push ⟨G,.str x t,v⟩) (ep+1),#[]⟩:=by simp only[Obj.putName_eq,Obj.putNameByArray,hi]
  exact⟨_,_,e,.inr ⟨by rw[Array.size_push],rfl⟩⟩
theorem Ha{N:List (Str×V)}{m:Str->Option Value}{o:Obj}{es:Array DictEntry}(hd:o.data= .dict es ep)(hn:fm o m)(hf:FR (VR b1.w g b2) N m)(hi:es.findIdx? (λe=>e.key.isStr x)=none):x∉N.map (·.1):=by
 intro hm;(refine ag (hL.mp hm) λp c1=>ac c1 λhp bo=>?_;clear c1;clear hm;subst bo);(refine b9 hn λH cf c9 _ b=>?_;clear hn);rw[hd] at c9;cases c9;have dd:nsFind es p.1=none:=by
  unfold nsFind findBy;have:es.find? (λe=>e.key.isStr p.1)=none:=by
   rw[Array.find?_eq_none];intro e he
   simpa using(Array.findIdx?_eq_none_iff.mp hi) e he
  refine rwm _ ?_ this;rfl
 have:∀{N:List (Str×V)},FR (VR b1.w g b2) N m->p∈N->∃y,m p.1=some y:=by
  intro N
  induction N with
  |nil=>intro _ h;cases h
  |cons q r ih=>
   rcases q with⟨k,u⟩
   rintro ⟨⟨y,L,_⟩,hr⟩ h
   (refine a2 (hG.mp h) (λzz=>?_) (λh=>?_);subst zz;rotate_left;rotate_right)
   .exact⟨y,L⟩
   .exact ih hr h
 refine ag (this hf hp) λy L=>?_;rw[b p.1,L] at dd;exact sno dd
set_option tactic.hygienic true in
theorem Hb(k2:oU K b1 P)(nm:Str)(ho:VR b1.w g b2 M x)(hv:VR b1.w g b2 v z):aa J b1 r l A (RU (α:=Unit) (β:=Unit)) g b2 (setAttr x nm z) (ui P.fld M nm v):=by
 intro O B s bs Y p1 p2 S q;have ho:=VR.mono p1 p2 _ _ ho
 cases M with
 |t t=>exact nso q
 |own i=>
  (refine ag ho λa c1=>ac c1 λha bo=>?_;clear c1;clear ho;subst bo);refine al (dF q) λQ hi q=>?_;have w:=S.own _ _ _ hi ha;clear hi;cases Q<;>first|((first|exact nso q|cases q);done)|skip
  rename_i C d
  refine al (dF q) λc hd q=>?_;(refine al w λad j hx=>?_;clear w);have f:=S.own _ _ _ hd j;cases c<;>first|((first|exact nso q|cases q);done)|skip
  rename_i fs
  refine ac (cL q) λhc q=>?_;cases q;simp only[Bool.and_eq_true,decide_eq_true_eq] at hc;(refine bc λno=>bK (k2.fld C nm hc.1) λq1 q2 q3 q4=>no ?_;clear no);(refine tm f λes ep m hD hn hf hz p cp=>?_;clear f);have X:=k2.X.keeps S.ground;have I:InstAt s.heap a ⟨.ref C,some ad,.plain,#[]⟩ C (some ⟨.type "dict",.none,.dict es ep,#[]⟩):=⟨hx,rfl,rfl,hD⟩;refine set_plain X I q1 (osa_open X I q2 q3 λb=>al (any_some q4) λc6 N c9=>ae (ar (ae (ae (r9 hx (ae (looks_clsIn X N _ _ _ _ (λ_ _ e=>e) ?_)))))));refine rwm _ ?_ c9;refine ar (ae (ar (ae ?_)));refine uD hD hn λG t=>?_;refine bc λno=>bS (uC (x:=nm) (v:=z) G t hn) λn1 n2 n3 n4 n5=>no (cS (y3 (x:=nm) (v:=z) (es:=es) (ep:=ep) G t rfl) λH cf e1 e2=>?_);have c3:=ks (Obj.putName nm G (.str nm t) z) hD n3;rw[e1] at c3 n1;(refine bc λno=>aw (G9 fs nm v) λm1 m2 m3=>no ?_;clear no);have y:H.size<=(dN fs nm v).length:=by
   rcases e2 with e2|⟨e2,e3⟩
   .exact E9 cp m1 e2
   .have:=m3 (Ha rfl hn hf e3);exact Fa cp e2 this
  refine ae (wpAny_lookBehind c3 (pastItsLine_dict (by refine rwm _ ?_ nf;exact xq hc.2 (a6 y m2))) ?_);refine ar (⟨bs,Y,(),rfl,⟨⟨_,_,rfl⟩,.refl _,.refl _⟩,?_,trivial⟩);exact S.set hd rfl j (ka ..).extBut rfl ⟨H,cf,_,c3,n1,hf.put p (VR.mono p1 p2 _ _ hv),hz.put,xK p,y⟩ λo' e1 e2=>by rw[hD] at e1;cases e1;simp at e2
theorem Hc(k2:oU K b1 P)(S:aL J b1 n rc)(hR:Rm A l n)(he:ER b1 l g b2 e env)(o:Expr)(nm:Str)(c4:Pos)(hv:VR b1.w g b2 v z):
  aa J b1 r l A (RU (α:=Unit) (β:=Unit)) g b2 (assign (.Attribute o nm c4) env z) (bm (rc.ev o e) λM=>ui P.fld M nm v):=by
 show aa J b1 r l A _ g b2 (do
  let M<-holding [z] (eval o env)
  standAt c4.atName
  holding [z,M] (setAttr M nm z)
  release [z,M] []) _
 refine aa.bind (aa.holding (S.ev hR he o)) λbs Y M x hg hr ho=>aa.standAt ?_;intro O B s c5 bl a b H q;refine ae (hy (eb (Hb k2 nm ho (VR.mono hg hr _ _ hv) O B s c5 bl a b H q) (λu s' w=>?_) λ_ _ w=>w));exactλU p I=>by rw[Sem.wp_release];exact w
end
noncomputable def im:List String:=["list_iterator","tuple_iterator","dict_keyiterator","str_iterator","str_ascii_iterator","bytes_iterator","range_iterator"]
structure It (prog:Program) (cx:Cx) (g:ay) (xs:List T) (I:Addr) (StW:Nat->Heap->Prop):Prop where
 walks:∀A:Around,A.handled=none->∃fp P,Walks prog cx.w A I fp [I] xs.length P StW/\(∀i v,P i v->∃u,xs[i]? =some u/\TR cx.w g u v)/\∀b∈fp,b≠I->∃o,g b=some o
 kind:∀i h,StW i h->∃o ty,h.get? I=some o/\o.cls= .type ty/\ty∈im
section
variable {J:Program}{b1:Cx}{r g b6:ay}{b2 b4:List Addr}{l:List Env}{A:Around}{α β γ δ:Type}{P:bt}{b7 mb:Str->Option Value}{n:Nat}{rc:aG}{e:AE}{env:Env}{O:af}{h b5:Heap}{s:Shared}{K:Frag}
theorem y4:∀(n:Nat)(a:Int)(i:Nat),i<n->(lO a n)[i]? =some (.int (a+i))
 |0,a,i,h=>absurd h (Nat.not_lt_zero _)
 |n+1,a,0,h=>by simp [show lO a (n+1)= .int a::lO (a+1) n from rfl]
 |n+1,a,i+1,h=>by
  show(lO _ _)[_]? =_;refine a0 (y4 n (a+1) i (Nat.le_sub_one_of_lt h)) ?_
  congr 2;push_cast;exact Fe
theorem y5:∀(n:Nat)(a:Int),(lO a n).length=n
 |0,a=>rfl
 |n+1,a=>hS (·+1) (y5 n (a+1))
set_option tactic.hygienic true in
theorem y6{Q:Value->Shared->Prop}{E:Value->Shared->Prop}(hh:A.handled=none)(S:St b1 r g b2 l O s.heap)(ht:TR b1.w g t x)(e:d7 t=some U)
  (m:∀o d6,o.cls≠ .type "frame"->o.isFreed=false->It J b1 g U s.heap.objs.size d6->d6 0 (s.heap.push o)->Q (.ref s.heap.objs.size) {s with heap:=s.heap.push o}):wpAny (model J b1.w) A (pyIter x) Q E s:=by
 have new:∀{a:Addr}{o:Obj},g a=some o->a≠s.heap.objs.size:=λ{a}{o} h q=>by
  have:=ms (S.fr _ _ h);rw[q] at this;exact ko _ this
 cases t<;>first|exact nso e|skip
 .have e:=ai e;subst e
  rename_i w
  (refine ag ht λt bo=>?_;clear ht;subst bo);refine wpAny_pyIter_strU (m _ (λi h=>h.IsStrIter s.heap.objs.size (strIterType w) w t i) (by unfold strIterType;split<;>simp) rfl ⟨λA' hA=>?_,λi b5 hs=>by refine cD hs λo a b _=>⟨o,_,a,b,by unfold strIterType;split<;>simp [im]⟩⟩ ⟨_,ea _ rfl,rfl,rfl⟩);have C:(w.cps.toList.map λc=>T.str ⟨#[c]⟩).length=w.cps.size:=by simp
  refine⟨[s.heap.objs.size],SignAt w,?_,λi v hv=>?_,λb hb ct=>absurd (List.mem_singleton.mp hb) ct⟩
  .refine rwm _ ?_ C;unfold strIterType;cases w.cps.all (·<128)
   .exact Walks.strWide hA _ w t
   .exact Walks.strAscii hA _ w t
  ·(refine aq hv λc u bi=>ac bi λhc bo=>?_;clear bi;subst bo);refine⟨.str ⟨#[c]⟩,?_,⟨u,rfl⟩⟩;refine a0 (pv) (rwm _ (rwm _ ?_ hc) (po));rfl
 .have e:=ai e;subst e
  rename_i G
  (refine ag ht λt bo=>?_;clear ht;subst bo);refine KBw.pyIter_bytes (m _ (λi h=>KBw.IsBytesIter h s.heap.objs.size G t i) (by simp) rfl ⟨λA' hA=>?_,λi b5 hs=>by refine cD hs λo a b _=>⟨o,_,a,b,by simp [im]⟩⟩ ⟨_,ea _ rfl,rfl,rfl⟩);have C:(G.toList.map λc=>T.int c.toNat).length=G.size:=by simp
  refine⟨[s.heap.objs.size],_,by refine rwm _ ?_ C;exact KBw.walks hA _ G t,λi v hv=>?_,λb hb ct=>absurd (List.mem_singleton.mp hb) ct⟩;(refine aq hv λc u bi=>ac bi λhc bo=>?_;clear bi;subst bo);refine⟨.int c.toNat,?_,⟨u,rfl⟩⟩;refine a0 (pv) (rwm _ (rwm _ ?_ hc) (po));rfl
 .rename_i i j
  .refine ac (eU e) λM e=>?_;have e:=ai e;subst e;(refine bH ht λa t u v D=>ac D λc2 ho=>?_;clear D;subst c2);refine wpAny_pyIter_range (S.fr _ _ ho) M ?_;have Y:(Builtin.Range.rangeSize i j 1:Int)=((Builtin.Range.rangeSize i j 1).toNat:Int):=by rw[rangeSize_one];split<;>lia
   refine m _ (λk h=>IsRangeIter h s.heap.objs.size (i+(k:Nat)*1) (((Builtin.Range.rangeSize i j 1).toNat:Int) - (k:Nat)) 1) (by simp) rfl ⟨λA' hA=>?_,λi b5 hs=>⟨_,_,hs,rfl,by simp [im]⟩⟩ ?_
   .refine⟨[s.heap.objs.size],(λk v=>k<(Builtin.Range.rangeSize i j 1).toNat/\∃t,v= .int (i+k*1) t),?_,λk v hv=>?_,λb hb ct=>absurd (List.mem_singleton.mp hb) ct⟩
    .rw[y5];exact(Walks.range hA _ i 1 _).bound
    ·(refine ac hv λhk c1=>ag c1 λt bo=>?_;clear c1;subst bo);exact⟨_,y4 _ i k hk,⟨t,by rw[Int.mul_one]⟩⟩
   .show IsRangeIter _ _ _ _ _;refine rwl _ ?_ Y
    simpa using ea s.heap rfl
 .have e:=(ai e).symm;subst e;(refine a9 ht λa ys ep D=>aw D λc2 ho hs=>?_;clear D;subst c2);have hl:s.heap.IsList a ys:=⟨_,S.fr _ _ ho,rfl,ep,rfl⟩;have bb:=hs.len.trans (en);refine wpAny_pyIter_list hl (m _ (λi h=>h.IsListIter s.heap.objs.size a i/\h.IsList a ys) (by simp) rfl ⟨λA' hA=>?_,λi b5 hs=>by refine cD hs.1 λo a b _=>⟨o,_,a,b,by simp [im]⟩⟩ ⟨⟨_,ea _ rfl,rfl,rfl⟩,hl.push _⟩);refine⟨[s.heap.objs.size,a],_,by refine rwm _ ?_ bb;exact Walks.list hA _ a (new ho) ys,λi v hv=>?_,λb hb ct=>?_⟩
  .have hi:i<U.length:=by refine rwm _ ?_ bb;exact(Array.getElem?_eq_some_iff.mp hv).1
   refine al ((fo.mp hs).get (hW hi)) λy L H=>?_;rw[Array.getElem?_toList,hv] at L;cases L;exact⟨_,hW hi,H⟩
  .simp only[List.mem_cons,List.not_mem_nil,or_false] at hb;(refine a2 hb (λq=>?_) (λzz=>?_);(try clear hb);rotate_left;(try clear hb);subst zz;rotate_right)
   .exact absurd q ct
   .exact⟨_,ho⟩
 .have e:=(ai e).symm;subst e;(refine a9 ht λa ys ep D=>aw D λc2 ho hs=>?_;clear D;subst c2);have hl:s.heap.IsTuple a ys:=⟨_,S.fr _ _ ho,rfl,ep,rfl⟩;have bb:=hs.len.trans (en);refine wpAny_pyIter_tuple hl (m _ (λi h=>h.IsTupleIter s.heap.objs.size a i/\h.IsTuple a ys) (by simp) rfl ⟨λA' hA=>?_,λi b5 hs=>by refine cD hs.1 λo a b _=>⟨o,_,a,b,by simp [im]⟩⟩ ⟨⟨_,ea _ rfl,rfl,rfl⟩,⟨_,a3 _ (S.fr _ _ ho),rfl,ep,rfl⟩⟩);refine⟨[s.heap.objs.size,a],_,by refine rwm _ ?_ bb;exact Walks.tuple hA _ a (new ho) ys,λi v hv=>?_,λb hb ct=>?_⟩
  .have hi:i<U.length:=by refine rwm _ ?_ bb;exact(Array.getElem?_eq_some_iff.mp hv).1
   refine al ((fo.mp hs).get (hW hi)) λy L H=>?_;rw[Array.getElem?_toList,hv] at L;cases L;exact⟨_,hW hi,H⟩
  .simp only[List.mem_cons,List.not_mem_nil,or_false] at hb;(refine a2 hb (λq=>?_) (λzz=>?_);(try clear hb);rotate_left;(try clear hb);clear hl;subst zz;rotate_right)
   .exact absurd q ct
   .exact⟨_,ho⟩
 .have e:=ai e;subst e
  rename_i N
  (refine a9 ((show∃a es ep,x= .ref a/\g a=some ⟨.type "dict",.none,.dict es ep,#[]⟩/\True from by obtain⟨a,es,ep,e1,e2,_⟩:=ht;exact⟨a,es,ep,e1,e2,trivial⟩)) λa es ep D=>aw D λc2 ho _=>?_;clear D;subst c2);refine lz (gh J (TR.hr S ht)) λI ps e1 d hd h1 h2=>?_;cases e1;refine ag hd.dictAt λcf f=>?_;have bb:ps.length=N.length:=by simpa using hS List.length h1
  refine wpAny_pyIter_dict d f (m _ (λi h=>h.IsKeyIter s.heap.objs.size a i ps.length cf/\h.DictAt (kk J b1.w) a ps cf) (by simp) rfl ⟨λA' hA=>?_,λi b5 hs=>by refine cD hs.1 λo a b _=>⟨o,_,a,b,by simp [im]⟩⟩ ⟨⟨_,ea _ rfl,rfl,rfl⟩,f.push _⟩);have C:(N.map λp=>dO p.1).length=ps.length:=by simp [bb]
  refine⟨[s.heap.objs.size,a],_,by refine rwm _ ?_ C;exact Walks.dictKeys hA _ a (new ho) ps cf,λi v hv=>?_,λb hb ct=>?_⟩
  ·(refine cS hv λk y hk B=>?_;clear hv);have:(N.map (·.1))[i]? =some k:=by refine rwl _ (rwm _ (rwm _ ?_ hk) (pv)) h1;rfl
   rw[List.getElem?_map] at this;(refine ag (Option.map_eq_some_iff.mp this) λp c1=>ac c1 λhp bo=>?_;clear c1;clear hk this;subst bo);refine⟨dO p.1,by refine a0 (pv) (rwm _ ?_ hp);rfl,?_⟩;(refine a2 (xF B) (λzz=>?_) (λzz=>?_);refine aq zz λj t bi=>ac bi λe1 bo=>?_;clear bi;clear B;subst bo;rotate_left;refine aq zz λz t bi=>ac bi λe1 bo=>?_;clear bi;clear B;subst bo;rotate_right)<;>refine rwm _ ?_ e1<;>exact⟨t,rfl⟩
  .simp only[List.mem_cons,List.not_mem_nil,or_false] at hb;(refine a2 hb (λq=>?_) (λzz=>?_);(try clear hb);rotate_left;(try clear hb);clear ht d hd f;subst zz;rotate_right)
   .exact absurd q ct
   .exact⟨_,ho⟩
theorem y7{ys:Array Value}(ct:a≠it):∀(k i:Nat)(s:Shared)(Q:List Value->Shared->Prop)(E:Value->Shared->Prop),s.heap.IsListIter it a i->s.heap.IsList a ys->i+k<=ys.size->
  (∀b5,b5.IsListIter it a (i+k)->b5.IsList a ys->Heap.ExtBut it s.heap b5->Q ((ys.toList.drop i).take k) {s with heap:=b5})->wpAny (model J b1.w) A (draw (.ref it) k) Q E s
 |0,i,s,Q,E,h1,h2,_,m=>ar (by simpa using m s.heap h1 h2 (.refl _ _))
 |k+1,i,s,Q,E,h1,h2,hk,m=>by
  have hi:=hQ (ix _ _) hk;show wpAny _ _ (do match<-pyNext (.ref it) with|none=>pure []|some v=>return v::(<-holding [v] (draw (.ref it) k))) Q E s;refine ae (wpAny_pyNext_list_item h1 h2 (lv hi) λb5 d5 c3=>?_);refine ae (hy (y7 ct k (i+1) {s with heap:=b5} _ E d5 (h2.extBut c3.extBut ct) (EV hk) λw q1 q2 q3=>ar ?_));have:=m w (by refine rwm _ ?_ (show i+(k+1)=i+1+k from(Nat.succ_add i k).symm);exact q1) q2 (c3.extBut.trans q3);have hd:ys.toList.drop i=ys[i]::ys.toList.drop (i+1):=by simp [List.drop_eq_getElem_cons,hi]
  rw[hd,List.take_succ_cons] at this;exact this
theorem He{ys:Array Value}{Q:List Value->Shared->Prop}{E:Value->Shared->Prop}(hh:A.handled=none)(hl:s.heap.IsList a ys)
  (m:∀b5,Heap.ExtBut s.heap.objs.size s.heap b5->Q ys.toList {s with heap:=b5}):wpAny (model J b1.w) A (unpackItems (.ref a) ys.size none) Q E s:=by
 have C:a≠s.heap.objs.size:=by refine al hl λo ho _=>mm (ms ho)
 unfold unpackItems notIterableAtAll;refine ae (ae (wpAny_specialOf hl.typeIs slot_list_iter.lookup (ar ?_)));refine ae (hy (wpAny_pyIter_list hl ?_));refine ae (hy (y7 C ys.size 0 _ _ _ ⟨_,ea _ rfl,rfl,rfl⟩ (hl.push _) EW λc q1 q2 q3=>?_));have i:List.take ys.size (List.drop 0 ys.toList)=ys.toList:=by refine rwm _ ?_ List.drop_zero;exact si (by simp)
 refine rwm _ (rwm _ ?_ (hX (by simp))) i;refine ae (hy (wpAny_pyNext_list_end hh q1 q2 (by simp) λd f=>?_));exact ar (m d λb o hb e=>f b o hb (q3 b o hb (a3 _ e)))
theorem uF(a:Expr)(j:List Expr)(h:noStar a=true):assignEach (a::j) env=(false,assign a env)::assignEach j env:=by
 cases a<;>first|rfl|(first|exact ftf h|cases h)
theorem y8:∀(U:List Expr),U.all noStar=true->(assignEach U env).findIdx? (·.1)=none/\(assignEach U env).length=U.length
 |[],_=>⟨rfl,rfl⟩
 |a::U,h=>by
  simp only[List.all_cons,Bool.and_eq_true] at h;refine rwm _ ?_ (uF a U h.1);refine ac (y8 U h.2) λC H=>⟨by refine a0 (List.findIdx?_cons) (rwm _ ?_ C);rfl,by simp [H]⟩
theorem y9(S:aL J b1 n rc)(hR:Rm A l n):∀(U:List Expr)(ts:List T)(vs:List Value)(g:ay)(b2:List Addr),U.all noStar=true->ER b1 l g b2 e env->TRs b1.w g ts vs->
  aa J b1 r l A (RU (α:=Unit) (β:=Unit)) g b2 (assignInOrder ((assignEach U env).map (·.2)) vs) (mZ rc e U ts)
 |[],ts,vs,g,b2,hs,he,ht=>by
  cases ts with
  |nil=>exact aa.pure λ_ _ _ _=>trivial
  |cons a b=>exact aa.none
 |a::U,ts,vs,g,b2,hs,he,ht=>by
  simp only[List.all_cons,Bool.and_eq_true] at hs
  cases ts with
  |nil=>exact aa.none
  |cons t ts=>
   (refine aq ht λy rr c3=>aw c3 λc2 h1 h2=>?_;clear c3;clear ht;subst c2);refine rwm _ ?_ (uF a U hs.1);show aa J b1 r l A _ g b2 (do holding rr (assign a env y);assignInOrder ((assignEach U env).map (·.2)) rr) (bm (rc.as a e (.t t)) λ_=>mZ rc e U ts);exact aa.bind (aa.holding (S.as hR he a (.t t) y h1)) λbs Y _ _ hg hr _=>y9 S hR U ts rr bs Y hs.2 (he.mono hg hr) (TRs.mono hg _ _ h2)
set_option tactic.hygienic true in
theorem Hf(S:aL J b1 n rc)(hR:Rm A l n)(he:ER b1 l g b2 e env)(U:List Expr)(k:Nat)(c4:Pos)(hv:VR b1.w g b2 v x):
  aa J b1 r l A (RU (α:=Unit) (β:=Unit)) g b2 (assign (.Tuple U k c4) env x) (uj rc e U v):=by
 unfold uj
 by_cases hs:U.all noStar=true
 .refine rwm _ ?_ (ec hs);show aa J b1 r l A _ g b2 (do standAt c4;PySem.unpack x (assignEach U env)) _;refine aa.standAt (aa.vw hv λO s bs Y t B a b H ht q=>?_);refine ac (y8 (env:=env) U hs) λe1 e2=>?_;unfold PySem.unpack;refine rwm _ (rwm _ ?_ e2) e1;have cl:∀(ts:List T)(ys:Array Value)(b5:Heap),TRs b1.w bs ts ys.toList->Heap.ExtBut s.heap.objs.size s.heap b5->mZ rc e U ts O=some B->
    wpAny (model J b1.w) A (assignInOrder ((assignEach U env).map (·.2)) ys.toList) (PQ (RU) b1 r l s bs Y B) (PE b1 r l s bs Y B) {s with heap:=b5}:=by
   intro ts ys b5 f hx q;have S2:=H.extBut (H.lone_new (cV _)) hx;exact eb (y9 S hR U ts ys.toList bs Y hs (he.mono a b) f O B {s with heap:=b5} bs Y (.refl _) (.refl _) S2 q)
    (λ_ _ z=>z.up ⟨⟨b5,s.toks,rfl⟩,.refl _,.refl _⟩) λ_ _ z=>z.up ⟨⟨b5,s.toks,rfl⟩,.refl _,.refl _⟩
  cases t<;>first|((first|exact nso q|cases q);done)|skip
  .rename_i ts
   simp only at q
   split at q
   .rename_i bb
    (refine aq (il ht) λI ys c3=>aw c3 λc2 hl f=>?_;clear c3;clear hv;subst c2);have cp:U.length=ys.size:=by refine rwl _ ?_ bb;exact f.len.trans (en)
    refine rwm _ ?_ cp;exact ae (hy (He hR.handled hl λb5 hx=>cl ts ys b5 f hx q))
   .exact nso q
  .rename_i ts
   simp only at q
   split at q
   .rename_i bb
    (refine a9 ht λI ys ep D=>aw D λc2 ho f=>?_;clear D;clear hv ht;subst c2);have cp:U.length=ys.size:=by refine rwl _ ?_ bb;exact f.len.trans (en)
    refine rwm _ ?_ cp;exact ae (hy (wpAny_unpackItems_tuple hR.handled ⟨_,H.fr _ _ ho,rfl,ep,rfl⟩ λb5 hx=>cl ts ys b5 f hx q))
   .exact nso q
 .refine rwm _ ?_ (hX hs);exact aa.none
theorem Hg(k2:oU K b1 P)(S:aL J b1 n rc)(hR:Rm A l n)(he:ER b1 l g b2 e env)(ex:Expr)(hv:VR b1.w g b2 v x):
  aa J b1 r l A (RU (α:=Unit) (β:=Unit)) g b2 (assign ex env x) (yp P rc ex e v):=by
 cases ex<;>first|exact aa.none|skip
 .exact Hc k2 S hR he _ _ _ hv
 .exact G8 S hR he _ _ _ hv
 .exact G4 he _ _ hv
 .exact Hf S hR he _ _ _ hv
set_option tactic.hygienic true in
set_option backward.match.sparseCases true in
theorem jA(S:aL J b1 n rc)(hR:Rm A l n):∀(U:List Stmt)(g:ay)(b2:List Addr),ER b1 l g b2 e env->aa J b1 r l A (RF b1.w) g b2 (execs U env) (aR rc e U)
 |[],g,b2,he=>aa.pure λ_ _ _ _=>trivial
 |x::U,g,b2,he=>by
  show aa J b1 r l A _ g b2 (do match<-exec x env with| .next=>execs U env|f=>pure f) _;refine aa.bind (S.ex hR he x) λbs Y f b hg hr hf=>?_
  cases f with
  |next=>
   cases b<;>first|exact hf.elim|skip
   exact jA S hR U bs Y (he.mono hg hr)
  |ret v=>
   cases b<;>first|exact hf.elim|skip
   exact aa.pure λ_ _ d m=>VR.mono d m _ _ hf
theorem Hh(S:aL J b1 n rc)(hR:Rm A l n)(he:ER b1 l g b2 e env)(c:Expr)(a b:List Stmt)(c4:Pos):
  aa J b1 r l A (RF b1.w) g b2 (exec (.If c a b c4) env) (bm (rc.test c e) λq=>if q then aR rc e a else aR rc e b):=by
 rw[exec_If];refine aa.standAt (aa.bind (S.test hR he c) λbs Y t t' hg hr ht=>?_);have ht:=ht;subst ht;exact aa.ite (λ_=>jA S hR a bs Y (he.mono hg hr)) λ_=>jA S hR b bs Y (he.mono hg hr)
theorem Hi(S:aL J b1 n rc)(hR:Rm A l n)(he:ER b1 l g b2 e env)(x:Option Expr)(c4:Pos):
  aa J b1 r l A (RF b1.w) g b2 (exec (.Return x c4) env) (match x with
  |some x=>bm (rc.ev x e) λv=>pm (.ret v)
  |none=>pm (.ret (.t .none))):=by
 cases x with
 |none=>
  rw[exec_Return_none];exact aa.standAt (aa.pure λb6 _ _ _=>qK (b1:=b1) (g:=b6))
 |some x=>
  rw[exec_Return_some];exact aa.standAt (aa.bind (S.ev hR he x) λbs Y v y hg hr hv=>aa.pure λ_ _ d m=>VR.mono d m _ _ hv)
set_option tactic.hygienic true in
theorem Hj(c4:Pos):aa J b1 r l A (RF b1.w) g b2 (exec (.Pass c4) env) (pm .next):=by
 rw[exec_Pass];exact aa.standAt (aa.pure λ_ _ _ _=>trivial)
theorem aa.thenPure{R:Rl α β}{b:Rl γ δ}{t:Sem β}{m:MM α}{k:β->Sem δ}{c:γ}{d:δ}(h:aa J b1 r l A R g b2 t m)
  (hk:∀x (Q:δ->Shared->Prop)(E:Value->Shared->Prop)(s:Shared),Q d s->wpAny (model J b1.w) A (k x) Q E s)(hR:∀b6 b4,aZ g b6->bu b2 b4->b b6 b4 c d):
  aa J b1 r l A b g b2 (t>>=k) (bm m λ_=>pm c):=by
 refine aa.bind h λbs Y a x hg hr _=>?_;intro O B s c5 bl p q H e';cases e';exact hk x _ _ _ ⟨c5,bl,c,rfl,.refl _ _ _,H,hR _ _ (hg.trans p) (hr.trans q)⟩
set_option tactic.hygienic true in
theorem Hk(S:aL J b1 n rc)(hR:Rm A l n)(he:ER b1 l g b2 e env)(x:Expr)(c4:Pos)(hx:swapsWith x none c4.line env=pure false):
  aa J b1 r l A (RF b1.w) g b2 (exec (.Expr x c4) env) (bm (rc.ev x e) λ_=>pm .next):=by
 have hi:interactive env=false:=by
  unfold interactive;refine rwm _ (rwm _ ?_ he.kind) he.scope;rfl
 refine rwm _ ?_ (exec_Expr env x c4 hi hx);exact aa.standAt (aa.thenPure (S.ev hR he x) (λv Q E s h=>wpAny_dropValue h) λ_ _ _ _=>trivial)
theorem ng:∀(U:List Expr),U.all noStar=true->∀p∈backTo c4 (starEach U env),p.1=false
 |[],_,p,hp=>nomatch hp
 |a::U,h,p,hp=>by
  simp only[List.all_cons,Bool.and_eq_true] at h;rw[yD (λb q e=>by subst e;cases h.1)] at hp;(refine a2 (hG.mp hp) (λzz=>?_) (λhp=>?_);subst zz;rotate_left;rotate_right)
  .rfl
  .exact ng U h.2 p hp
theorem qN{Q:Args->Shared->Prop}{E:Value->Shared->Prop}(ha:∀p∈be,p.1=false)
  (h:wpAny (model J b1.w) A (spliced be) (λvs s'=>Q ⟨vs,[]⟩ s') E s):wpAny (model J b1.w) A (evalArgs f true be []) Q E s:=by
 have cl:∀(q:List Value×Option Value)(s':Shared),q.2=none/\Q ⟨q.1,[]⟩ s'->wpAny (model J b1.w) A
   (holding (q.1++q.2.toList) (do
    let b (keep:List Value):Sem (List Value):=do
     let some s:=q.2|return q.1
     if<-notIterableAtAll s then
      rule "call.star.not-iterable"
      raiseError "TypeError" s!"{← functionStr f} argument after * must be an iterable, not {← typeNameOf s}"
     holding keep (collect s)
    let kw:=([]:List Str).zip (<-evalAll [])
    return(⟨<-b (kw.map (·.2)),kw⟩:Args))) Q E s':=by
  rintro ⟨vs,c⟩ s' ⟨e,hq⟩
  cases e;exact hy (ae (ar (ae (ar (ar hq)))))
 unfold evalArgs
 cases be with
 |nil=>exact ae (eb h (λvs s' hq=>by first|exact cl (vs,none) s' ⟨rfl,hq⟩|exact ae (ar (cl (vs,none) s' ⟨rfl,hq⟩))) λ_ _ x=>x)
 |cons p j=>
  rcases p with⟨st,x⟩;have:st=false:=ha (st,x) (.head _);clear ha;subst this;cases j<;>exact ae (eb h (λvs s' hq=>by first|exact cl (vs,none) s' ⟨rfl,hq⟩|exact ae (ar (cl (vs,none) s' ⟨rfl,hq⟩))) λ_ _ x=>x)
set_option backward.match.sparseCases true in
theorem qO{vs:List Value}{be:List (Bool×Sem Value)}{Q:Value->Shared->Prop}{E:Value->Shared->Prop}(ha:be.any (·.1)=false)
  (hk:∀Q':Keeper->Shared->Prop,(∀k,Q' k s)->wpAny (model J b1.w) A (keeperOf f) Q' E s)(h:wpAny (model J b1.w) A (call f vs []) Q E s):
  wpAny (model J b1.w) A (do
   let r<-match<-keeperOf f,(be.any (·.1)||([]:List (Option Str×Sem Value)).any (·.1.isNone)) with
    | .frame,true=>callMarked starredCall f vs []
    | .frame,false=>if be.length+2*([]:List (Option Str×Sem Value)).length>30 then call f vs [] else callMarked plainCall f vs []
    | .boundFrame,false=>if be.length+2*([]:List (Option Str×Sem Value)).length>30 then call f vs [] else callMarked callOfAMethodObject f vs []
    | .machine,false=>call f vs []
    |_,_=>operate (f::(if(be.any (·.1)||([]:List (Option Str×Sem Value)).any (·.1.isNone)) then vs.reverse else vs)++([]:List (Str×Value)).map (·.2)) (call f vs [])
   holding [r] point
   pure r) Q E s:=by
 have b:∀{t:Sem Value},wpAny (model J b1.w) A t Q E s->wpAny (model J b1.w) A (t>>=λr=>holding [r] point>>=λ_=>pure r) Q E s:=
  λht=>ae (eb ht (λr cv hr=>ae (hy (wpAny_point (ar hr)))) λ_ _ x=>x)
 refine ae (hk _ λk=>?_);refine rwm _ ?_ ha;cases k
 .show wpAny _ _ (if _ then(_>>=_) else(_>>=_)) Q E s
  split
  .exact b h
  .exact b (wpAny_keep h)
 .show wpAny _ _ (if _ then(_>>=_) else(_>>=_)) Q E s
  split
  .exact b h
  .exact b (wpAny_keep h)
 .exact b h
 .exact b (yU h)
structure qP (K:Frag) (cx:Cx) (P:bt):Prop where
 X:K.In cx.B
 fn:∀a,P.kd a=some true->∃o fd,cx.B.get? a=some o/\o.data= .func fd
 cl:∀a,P.kd a=some false->(∃o cd,cx.B.get? a=some o/\o.data= .cls cd)/\specialIn K (.ref a) "__call__"=some (some (.builtin "type.__call__"))
theorem Hl{B:Except Addr Unit×af}(q:kl P fv O=some B):B=(.ok (),O)/\((∃i ps b sc q cl,fv= .own i/\O[i]? =some (.clo ps b sc q cl))\/(∃n,fv= .t (.bi n))\/(∃n,fv= .t (.typ n))\/∃a b,fv= .t (.top a)/\P.kd a=some b):=by
 cases fv with
 |own i=>
  refine al (dF q) λQ hi q=>?_;cases Q<;>first|exact nso q|skip
  exact⟨(ai q).symm,.inl ⟨_,_,_,_,_,_,rfl,hi⟩⟩
 |t t=>
  cases t<;>first|exact nso q|skip
  .exact⟨(ai q).symm,.inr (.inr (.inl ⟨_,rfl⟩))⟩
  .exact⟨(ai q).symm,.inr (.inl ⟨_,rfl⟩)⟩
  .refine ac (cL q) λh q=>ag (Option.isSome_iff_exists.mp h) λb hb=>⟨(ai q).symm,.inr (.inr (.inr ⟨_,b,rfl,hb⟩))⟩
theorem zc(k3:qP K b1 P)(S:St b1 r g b2 l O s.heap)(hv:VR b1.w g b2 fv m){B:Except Addr Unit×af}(q:kl P fv O=some B):
  B=(.ok (),O)/\∀(Q:Keeper->Shared->Prop)(E:Value->Shared->Prop),(∀k,Q k s)->wpAny (model J b1.w) A (keeperOf m) Q E s:=by
 refine ac (Hl q) λe q=>⟨e,λQ E hq=>?_⟩;rcases q with⟨i,ps,b,sc,f,cl,rfl,hi⟩|⟨n,rfl⟩|⟨n,rfl⟩|⟨a,b,rfl,p⟩
 ·(refine ag hv λa c1=>ac c1 λha bo=>?_;clear c1;subst bo);(refine bc λno=>hZ (S.own _ _ _ hi ha) λY c L I D M=>ac M λho _=>no ?_;clear M no);unfold keeperOf;exact ae (ra ho (ar (hq _)))
 .have hv:=hv;subst hv;exact ar (hq _)
 .have hv:=hv;subst hv;exact ar (hq _)
 .have hv:=hv;subst hv;unfold keeperOf
  cases b with
  |true=>
   refine cS (k3.fn a p) λo fd ho hd=>ae (ra (S.ground _ _ ho) ?_);refine rwm _ ?_ hd;exact ar (hq _)
  |false=>
   (refine ac (k3.cl a p) λc7 d=>?_;rcases c7 with⟨o,c6,ho,hd⟩);refine ae (ra (S.ground _ _ ho) ?_);refine rwm _ ?_ hd;refine ae (looks_specialIn (k3.X.keeps S.ground) d _ _ _ _ (λ_ _ e=>e) ?_);exact ar (hq _)
theorem Hm(k3:qP K b1 P)(S:aL J b1 n rc)(hR:Rm A l n)(he:ER b1 l g b2 e env)(f:Expr)(be:List Expr)(c4:Pos)
  (o:eval (.Call f be [] c4) env=(do callWith c4 (<-eval f env) [] (backTo c4 (starEach be env)) (backToKw c4 (keywordEach [] env)))):
  aa J b1 r l A (RV b1.w) g b2 (eval (.Call f be [] c4) env) (ue P rc e f be):=by
 unfold ue
 by_cases hc:(be.all noStar&&decide (be.length<30))=true
 .refine rwm _ (rwm _ ?_ o) (ec hc);simp only[Bool.and_eq_true,decide_eq_true_eq] at hc;refine aa.bind (S.ev hR he f) λbs Y fv m hg hr hf=>?_;have d:=ng (c4:=c4) (env:=env) be hc.1;have i:(backTo c4 (starEach be env)).any (·.1)=false:=by
   rw[List.any_eq_false];intro p hp;simp [d p hp]
  intro O B s c5 bl a b H q;unfold callWith;refine ae (hy (qN d ?_));(refine a2 (ed q) (λzz=>?_) (λzz=>?_);refine aq zz λvs c6 bi=>ac bi λe1 q=>?_;clear bi;rotate_left;refine aq zz λc c6 bi=>ac bi λe1 bo=>?_;clear bi;subst bo;rotate_right)
  .refine eb (jy S hR be c4 bs Y (he.mono hg hr) O _ s c5 bl a b H e1) (λU s' z=>?_) λy s' z=>?_
   ·(refine ch z λc9 N j e2 p S3 c1=>?_;clear z);(have za:=oke e2;clear e2;cases za);refine ae (le ?_);(refine a2 (ed q) (λzz=>?_) (λzz=>?_);refine aq zz λu c7 bi=>ac bi λe3 q=>?_;clear bi;rotate_left;refine aq zz λc c7 bi=>ac bi λe3 bo=>?_;clear bi;subst bo;rotate_right)
    .refine ac (zc (J:=J) (A:=A) k3 S3 (VR.mono (a.trans p.2.1) (b.trans p.2.2) _ _ hf) e3) λe4 hk=>?_;cases e4;refine qO i (λQ' hq=>hk Q' _ hq) (eb (S.call hR fv vs m U (VR.mono (a.trans p.2.1) (b.trans p.2.2) _ _ hf) c1 c6 B s' c9 N (.refl _) (.refl _) S3 q) (λ_ _ z=>z.up p) λ_ _ z=>z.up p)
    .refine ac (zc (J:=J) (A:=A) k3 S3 (VR.mono (a.trans p.2.1) (b.trans p.2.2) _ _ hf) e3) λe4 _=>?_;cases e4
   .refine cT z λ_ _ _ _ q1 _=>oee q1
  .refine eb (jy S hR be c4 bs Y (he.mono hg hr) O _ s c5 bl a b H e1) (λU s' z=>?_) λy s' z=>?_
   .refine d0 z λ_ _ _ q1 _=>eoe q1
   .refine cT z λc9 N c' ex q1 z=>?_;(have za:=ere q1;clear q1;cases za);exact⟨c9,N,_,ex,rfl,z⟩
 .refine rwm _ ?_ (hX hc);exact aa.none
set_option tactic.hygienic true in
theorem fU{α:Type}{l:List α}{x:α}(e:(l.take n)[i]? =some x):i<n/\l[i]? =some x:=by
 rw[List.getElem?_take] at e
 split at e
 .rename_i h;exact⟨h,e⟩
 .exact nso e
theorem jB{α:Type}{l:List α}{x:α}(h:i<n)(e:l[i]? =some x):(l.take n)[i]? =some x:=by
 refine a0 (List.getElem?_take) (rwm _ ?_ (ec h));exact e
theorem VR.drop(hc:mU n v=true)(hv:VR w g b2 v x):VR w g (b2.take n) v x:=by
 cases v with
 |t t=>exact hv
 |own i=>refine al hv λa ha q=>⟨a,jB (hK hc) ha,q⟩
theorem FR.drop:∀{fs:List (Str×V)}{m:Str->Option Value},(fs.all λp=>mU n p.2)=true->FR (VR w g b2) fs m->FR (VR w g (b2.take n)) fs m
 |[],_,_,_=>trivial
 |(k,v)::fs,m,hc,⟨⟨x,e,hv⟩,hr⟩=>by
  simp only[List.all_cons,Bool.and_eq_true] at hc;exact⟨⟨x,e,hv.drop hc.1⟩,FR.drop hc.2 hr⟩
theorem ck.drop:∀{cl:List (Str×Nat)}{N:List (Str×Addr)},(cl.all λp=>decide (p.2<n))=true->ck b2 cl N->ck (b2.take n) cl N
 |[],_,_,h=>h
 |(k,i)::cl,_,hc,⟨a,N,e,q,z⟩=>by
  simp only[List.all_cons,Bool.and_eq_true,decide_eq_true_eq] at hc;exact⟨a,N,e,jB hc.1 q,ck.drop hc.2 z⟩
theorem OR.drop(hc:ua n Q=true)(x:OR w g b2 h Q a):OR w g (b2.take n) h Q a:=by
 cases Q with
 |list U=>exact x
 |dict N=>exact x
 |inst C d=>refine al x λad e1 e2=>⟨ad,jB (hK hc) e1,e2⟩
 |sh C fs=>refine dp x λd od m e1 e2 n r z=>⟨d,od,m,e1,e2,n,FR.drop hc r,z⟩
 |ns f N=>refine mJ x λo m e n r z=>⟨o,m,e,n,FR.drop hc r,z⟩
 |idt N=>refine ch x λes ep m e n r z=>⟨es,ep,m,e,n,FR.drop hc r,z⟩
 |cell v=>
  refine al x λy e c=>⟨y,e,?_⟩
  cases v with
  |none=>cases y<;>exact c
  |some v=>cases y with
   |none=>exact c
   |some y=>exact VR.drop hc c
 |clo ps j p i cl=>refine bc λno=>hZ x λY c L I D cd=>bK cd λe e1 e2 e3=>no (⟨Y,c,L,I,D,e,e1,e2,ck.drop hc e3⟩)
 |fz v=>exact x
 |dead=>exact x
theorem St.drop(S:St b1 r g b2 l O h)(hc:(O.take n).all (ua n)=true):St b1 r g (b2.take n) l (O.take n) h where
 base:=S.base
 fr:=S.fr
 rs:=S.rs
 len:=by exact rwm _ (rwm _ (rwm _ rfl S.len) p8) p8
 own:=λi Q a e1 e2=>(S.own i Q a (fU e1).2 (fU e2).2).drop (hO.mp hc Q (List.mem_of_getElem? e1))
 free:=λi Q a e1 e2=>S.free i Q a (fU e1).2 (fU e2).2
 nd:=λi j Q f a e1 e2 q q' e3 e4=>S.nd i j Q f a (fU e1).2 (fU e2).2 q q' (fU e3).2 (fU e4).2
 gr:=S.gr
 gt:=S.gt
 tabs:=S.tabs
 frs:=S.frs
set_option tactic.hygienic true in
theorem St.trunc(S:St b1 r g b2 l O h)(n:Nat):∃b4,St b1 r g b4 l (trunc n O) h/\bu (b2.take n) b4/\bu b4 b2:=by
 unfold Internal.trunc
 split
 .rename_i hc;exact⟨_,S.drop hc,.refl _,λi a e=>(fU e).2⟩
 .exact⟨b2,S,λi a e=>(fU e).2,.refl _⟩
theorem bu.take_len{b2 b4:List Addr}(h:bu b2 b4):bu b2 (b4.take b2.length):=λi a e=>jB (List.getElem?_eq_some_iff.mp e).1 (h i a e)
set_option tactic.hygienic true in
theorem Hn(S:St b1 r g b2 l O h)(hv:VR b1.w g b2 v x){B:Except Addr V×af}(q:fw n v O=some B):
  ∃v' M b6 b4,B=(.ok v',M)/\aZ g b6/\St b1 r b6 b4 l M h/\VR b1.w b6 b4 v' x/\bu (b2.take n) b4:=by
 cases v with
 |t t=>
  cases q;refine cD (S.trunc n) λb4 H h1 h2=>⟨_,_,g,b4,rfl,.refl _,H,hv,h1⟩
 |own k=>
  (refine ag hv λa c1=>ac c1 λha bo=>?_;clear c1;clear hv;subst bo);have q:(if k<n then some (.ok (.own k),trunc n O) else yh n k O O[k]?)=some B:=q
  by_cases hk:k<n
  .rw[if_pos hk] at q;cases q;refine cD (S.trunc n) λb4 H h1 h2=>⟨_,_,g,b4,rfl,.refl _,H,⟨a,h1 _ _ (jB hk ha),rfl⟩,h1⟩
  .rw[if_neg hk] at q;have cl:some (.ok (.own k),O)=some B->∃v' M b6 b4,B=(.ok v',M)/\aZ g b6/\St b1 r b6 b4 l M h/\VR b1.w b6 b4 v' (.ref a)/\bu (b2.take n) b4:=λq=>by
    cases q;exact⟨_,_,g,b2,rfl,.refl _,S,⟨a,ha,rfl⟩,λi a e=>(fU e).2⟩
   cases hi:O[k]?with
   |none=>rw[hi] at q;exact cl q
   |some Q=>
   rw[hi] at q;cases Q<;>first|exact cl q|skip
   .rename_i U
    clear cl;cases q;refine cS (S.own _ _ _ hi ha) λys ep ho hs=>?_;have f1:=(S.free _ _ a hi ha rfl).1;refine ac (S.freeze1 hi rfl ha ho (by simp) (by
     exact⟨a,ys,ep,rfl,eS _ _ _,TRs.mono (aZ.upd _ f1) _ _ hs⟩)) λhg S1=>cD (S1.trunc n) λb4 H h1 h2=>⟨_,_,_,b4,rfl,hg,H,by exact⟨a,ys,ep,rfl,eS _ _ _,TRs.mono hg _ _ hs⟩,h1⟩
   .rename_i N
    clear cl;cases q;refine b9 (S.own _ _ _ hi ha) λes ep ho hs hn=>?_;refine ac (S.freeze1 hi rfl ha ho (by simp) (by
     exact⟨a,es,ep,rfl,eS _ _ _,TRd.mono (aZ.upd _ ((S.free _ _ a hi ha rfl).1)) _ _ hs,hn⟩)) λhg S1=>cD (S1.trunc n) λb4 H h1 h2=>⟨_,_,_,b4,rfl,hg,H,by exact⟨a,es,ep,rfl,eS _ _ _,TRd.mono hg _ _ hs,hn⟩,h1⟩
   .rename_i t
    clear cl;cases q;refine cD (S.trunc n) λb4 H h1 h2=>⟨_,_,g,b4,rfl,.refl _,H,(S.own _ _ _ hi ha),h1⟩
structure iV (l:List Env) (h h':Heap):Prop where
 all:∀b,Kp h h' b
 off:∀b o,(∀e∈l,e.frame≠some b)->h.get? b=some o->h'.get? b=some o
 size:h'.objs.size=h.objs.size
theorem iV.refl(l:List Env)(h:Heap):iV l h h:=⟨λ_=> .same λ_ e=>e,λ_ _ _ e=>e,rfl⟩
theorem iV.trans(x:iV l c d)(y:iV l d h₃):iV l c h₃:=
 ⟨λb=>(x.all b).trans (y.all b),λb o q e=>y.off b o q (x.off b o q e),y.size.trans x.size⟩
theorem St.slots(S:St b1 r g b2 l O h)(k:iV l h b5):St b1 r g b2 l O b5 where
 base:=S.base
 fr:=λb o e=>k.off b o (λf he q=>by
  (refine bc λno=>ac (S.frs f he) λ_ cv=>aq cv λL o' M=>bS M λe1 e2 e3 e4 _=>no ?_;clear M cv no);rw[q] at e1;cases e1;rw[e] at e4;exact sno e4) (S.fr b o e)
 rs:=λb o e=>by
  refine al (S.rs b o e) λo' e' q=>al (k.all b o' e') λp j q'=>⟨p,j,q.trans q'⟩
 len:=S.len
 own:=λi Q a e1 e2=>(S.own i Q a e1 e2).mono (.refl _) (.refl _) (k.all a)
 free:=S.free
 nd:=S.nd
 gr:=S.gr
 gt:=S.gt
 tabs:=λq hq=>by
  refine al (S.tabs q hq) λps e x=>⟨ps,(k.all _).eq e (by simp),x⟩
 frs:=λf he=>by
  refine bc λno=>ac (S.frs f he) λe0 M=>aq M λL o D=>bK D λe1 e2 e3 e4=>no (al (k.all L o e2) λo' e' q=>⟨e0,L,o',e1,e',q.1.trans e3,e4⟩)
theorem Ho{h:Heap}{f:Env}{o:Obj}{sl:Obj->Array (Option Value)}(e2:h.get? L=some o)(e3:o.cls= .type "frame")(hf:o.isFreed=false)(bb:f∈l)(e1:f.frame=some L):
  iV l h (h.update L λo=>{o with slots:=sl o}):=by
 have c3:=ks (λo=>{o with slots:=sl o}) e2 (by rcases o with⟨c,d,j,s⟩;cases j<;>first|rfl|(first|exact tff hf|cases hf));refine⟨λb o' i=>?_,λb o' q i=>?_,Heap.size_after_update ..⟩
 .by_cases hb:b=L
  .subst hb;rw[e2] at i;cases i;exact⟨_,c3,rfl,rfl,rfl,λhn=>absurd e3 hn⟩
  .exact⟨o',by rw[Heap.get?_update_other _ _ (Ne.symm hb)];exact i,.refl _⟩
 .rw[Heap.get?_update_other _ _ (λz:L=b=>q f bb (by exact rwm _ (rwm _ rfl z) e1))];exact i
theorem Hp(fs:List Env)(s:Shared)(Q:Unit->Shared->Prop)(E:Value->Shared->Prop)(bb:∀e∈fs,e∈l)
  (hl:∀e∈l,e.scope.kind= .function/\∃L o,e.frame=some L/\s.heap.get? L=some o/\o.cls= .type "frame")
  (m:∀b5,iV l s.heap b5->Q () {s with heap:=b5}):wpAny (model J b1.w) A (readyFrames fs) Q E s:=by
 induction fs generalizing s with
 |nil=>exact ar (m s.heap (.refl _ _))
 |cons f fs ih=>
  (refine bc λno=>ac (hl f (bb f (.head _))) λhk D=>aq D λL o c3=>aw c3 λe1 e2 e3=>no ?_;clear c3 D no);simp only[readyFrames,e1];refine ae (ra e2 ?_)
  by_cases hr:((o.slots.getD 3 none).isSome)=true
  .refine rwm _ ?_ (ec hr);exact ar (m _ (.refl _ _))
  .refine rwm _ ?_ (hX hr);refine ae (wpAny_of_eq (by unfold behindIsImport;refine rwm _ ?_ hk;rfl) ?_);have step:∀b:Value,wpAny (model J b1.w) A (update L (λo=>{o with slots:= #[some f.code,some (.ref f.globals),o.slots.getD 2 none,some b,o.slots.getD 4 none,f.func.map Value.ref,some (.ref f.builtins)]++(f.cells.map λc=>some (.ref c.2)).toArray})>>=λ_=>readyFrames fs) Q E s:=by
    intro b;have c2:=(Heap.get?_some_iff.mp e2).2;refine ae (wpAny_update e2 ?_);have hs:=Ho (sl:=λo=> #[some f.code,some (.ref f.globals),o.slots.getD 2 none,some b,o.slots.getD 4 none,f.func.map Value.ref,some (.ref f.builtins)]++(f.cells.map λc=>some (.ref c.2)).toArray) e2 e3 c2 (bb f (.head _)) e1;exact ih _ (λe he=>bb e (.tail _ he)) (λe he=>(hl e he).elim λi q=>q.elim λd q=>q.elim λo' q=>(hs.all d o' q.2.1).elim λp z=>⟨i,d,p,q.1,z.1,z.2.1.trans q.2.2⟩) λb5 hx=>m b5 (hs.trans hx)
   cases fs with
   |nil=>exact ae (wpAny_keptBack_nil λv=>step v)
   |cons c j=>
    refine ae ?_;show wpAny _ _ (pure _) _ _ _;exact ar (step _)
theorem qQ{o:Obj}{vs:Array Value}{Q:Unit->Shared->Prop}{E:Value->Shared->Prop}(S:St b1 r g b2 l O s.heap)(L:aD b1 r g b2 l O a)(ho:s.heap.get? a=some o)(hd:o.data= .fields vs)(hi:i<vs.size)
  (m:∀b5 o',St b1 r g b2 l O b5->b5.get? a=some o'->o'.cls=o.cls->o'.data= .fields (vs.setIfInBounds i v)->(∀b,b≠a->b5.get? b=s.heap.get? b)->b5.objs.size=s.heap.objs.size->Q () {s with heap:=b5}):
  wpAny (model J b1.w) A (setField (.ref a) i v) Q E s:=by
 have c9:=Obj.data_mapFields hd (·.setIfInBounds i v);refine wpAny_setField ho hd hi (m _ _ (S.extBut L (ka ..).extBut) (ks _ ho (Obj.isFreed_of_fields c9)) (Obj.cls_mapFields ..) c9 (λb hb=>Heap.get?_update_other _ _ (Ne.symm hb)) (Heap.size_after_update ..))
set_option tactic.hygienic true in
theorem zd{α:Type}{p:α->Bool}:∀{l:List α},l.dropWhile p=[]->∀x∈l,p x=true
 |[],_,x,h=>nomatch h
 |a::l,e,x,h=>by
  rw[List.dropWhile_cons] at e
  split at e
  .rename_i ha
   (refine a2 (hG.mp h) (λzz=>?_) (λh=>?_);subst zz;rotate_left;rotate_right)
   .exact ha
   .exact zd e x h
  .cases e
theorem Hq(hA:A.frames=some l)(S:St b1 r g b2 l O s.heap)(hf:env.frame=some f)(bb:∃e'∈l,e'.frame=env.frame){Q:Value->Shared->Prop}{E:Value->Shared->Prop}
  (m:∀b5,iV l s.heap b5->Q (.ref f) {s with heap:=b5}):wpAny (model J b1.w) A (PySem.frameOf env) Q E s:=by
 unfold PySem.frameOf;refine ae (wpAny_frameEnvs hA ?_);(refine al bb λe' be d=>?_;clear bb)
 cases hd:l.dropWhile (λx=>x.frame !=env.frame) with
 |nil=>
  exfalso
  have:=zd hd e' be;simp [d] at this
 |cons c j=>
  have hc:c.frame=some f:=by
   have:=List.head?_dropWhile_not (λx:Env=>x.frame !=env.frame) l;rw[hd] at this;simp only[List.head?_cons] at this
   simpa [hf] using this
  have b:∀x∈c::j,x∈l:=λx hx=>by
   have:(c::j)<:+l:=hd▸List.dropWhile_suffix _;exact this.subset hx
  show wpAny _ _ ((readyFrames (c::j)>>=λ_=>pure (c.frame.map Value.ref))>>=_) _ _ _;refine ae (ae (Hp (c::j) s _ _ b (λx hx=>by refine bc λno=>ac (S.frs x hx) λa M=>aq M λL o D=>bK D λc5 cf b3 _=>no (⟨a,L,o,c5,cf,b3⟩)) λb5 hs=>ar ?_));refine rwm _ ?_ hc;exact ar (m b5 hs)
theorem aD.slots(L:aD b1 r g b2 l O a):∀e∈l,e.frame≠some a:=L.2.2.2.2
def XN(b1:Cx)(r g:ay)(b2:List Addr)(l:List Env)(O:af)(h:Heap)(C:Addr)(e:Addr):Prop:=
 ∃o vs,h.get? e=some o/\o.cls= .ref C/\o.data= .fields vs/\vs.size=6/\aD b1 r g b2 l O e/\
  (∃t i vt,vs[1]? =some (.ref t)/\h.get? t=some i/\i.data= .fields vt/\3<vt.size/\t≠e/\aD b1 r g b2 l O t/\i.cls≠ .type "frame")
theorem XN.x{C e:Addr}(b5:XN b1 r g b2 l O h C e):dg b1 r g b2 l O h C e:=by
 refine h8 b5 λo vs a1 d B G a5 c=>⟨o,vs,a1,d,B,G,a5,.inr c⟩
theorem ze(hA:A.frames=some l){o:Obj}{vs:Array Value}{i:Value}{b:Bool}{Q:Unit->Shared->Prop}{E:Value->Shared->Prop}(hf:env.frame=some f)(bb:∃e'∈l,e'.frame=env.frame)
  (S:St b1 r g b2 l O s.heap)(L:aD b1 r g b2 l O ex)(ho:s.heap.get? ex=some o)(hc:o.cls= .ref C)(hd:o.data= .fields vs)(cp:vs.size=6)
  (m:∀b5,St b1 r g b2 l O b5->XN b1 r g b2 l O b5 C ex->Q () {s with heap:=b5}):
  wpAny (model J b1.w) A (do setField (.ref ex) 1 (<-EntryCells.newEntry i (<-PySem.frameOf env) .none (rawInt f) .none (<-entryPlaceOf f b))) Q E s:=by
 refine ae (Hq hA S hf bb λc d=>?_);refine ae (wpAny_entryPlaceOf λpl c4=>?_);have S1:=S.slots d;have k:=d.off ex o L.slots ho;unfold EntryCells.newEntry newFields;refine ae (r8 ?_ (c4.sizeOk5 _ _ _ _ _));have S2:St b1 r g b2 l O (c.push {cls:= .type "traceback",dict:=none,data:= .fields ([i,.ref f,.none,rawInt f,.none]++(if pl.isEmpty then List.replicate 6 Value.none else pl)).toArray}):=S1.keep λ_ _ e=>a3 _ e;have hn:c.get? c.objs.size=none:=cV _;have ct:=Nat.ne_of_gt (ms k);refine qQ (s:={s with heap:=c.push _}) S2 L (a3 _ k) hd (Fh cp) λb5 o' S3 g1 g2 g3 g4 y=>m b5 S3 ?_;refine⟨o',_,g1,g2.trans hc,g3,by simp [cp],L,⟨c.objs.size,_,_,by simp [cp],(g4 _ ct).trans (ea _ rfl),rfl,?_,ct,(S1.lone_new hn),by simp⟩⟩;simp only[List.size_toArray,List.length_append,List.length_cons,List.length_nil];exact Fi
theorem uG(hA:A.frames=some l){Q:Unit->Shared->Prop}{E:Value->Shared->Prop}(hf:env.frame=some f)(bb:∃e'∈l,e'.frame=env.frame)
  (S:St b1 r g b2 l O s.heap)(X:dg b1 r g b2 l O s.heap C ex)(m:∀b5,St b1 r g b2 l O b5->XN b1 r g b2 l O b5 C ex->Q () {s with heap:=b5}):
  wpAny (model J b1.w) A (noteFrame (.ref ex) env) Q E s:=by
 (refine h8 X λo vs ho hc hd cp L ht=>?_;clear X);unfold noteFrame;simp only[hf];(refine bc λno=>a2 ht (λh1=>?_) (λzz=>?_);(try clear ht);refine no ?_;clear no;rotate_left;(try clear ht);refine a9 zz λt i vt cd=>dc cd λh1 h2 h3 h4 h5 G=>no ?_;clear no;rotate_right)
 .refine ae (p4 ho hd h1 ?_);refine rwm _ ?_ (hX (by decide));exact ze hA hf bb S L ho hc hd cp m
 .refine ae (p4 ho hd h1 ?_);refine rwm _ ?_ (ec (show(Value.ref t !=Value.none)=true from by simp));obtain⟨d,c⟩:∃v,vt[3]? =some v:=⟨vt[3],lv h4⟩;refine ae (p4 h2 h3 c ?_)
  by_cases hb:(d==rawInt f)=true
  .refine rwm _ ?_ (ec hb);exact ar (m s.heap S ⟨o,vs,ho,hc,hd,cp,L,⟨t,i,vt,h1,h2,h3,h4,h5,G⟩⟩)
  .refine rwm _ ?_ (hX hb);refine ae (qQ S G.1 h2 h3 h4 λb5 o' H g1 g2 g3 g4 y=>?_);exact ze hA hf bb H L ((g4 ex (λz=>h5 z.symm)).trans ho) hc hd cp λw a b=>m w a b
theorem zf{fr:Option Addr}{Q:Unit->Shared->Prop}{E:Value->Shared->Prop}(S:St b1 r g b2 l O s.heap)(X:dg b1 r g b2 l O s.heap C ex)
  (m:∀b5,St b1 r g b2 l O b5->dg b1 r g b2 l O b5 C ex->Q () {s with heap:=b5}):wpAny (model J b1.w) A (setFlight (.ref ex) fr) Q E s:=by
 (refine h8 X λo vs ho hc hd cp L ht=>?_;clear X);unfold setFlight;(refine bc λno=>a2 ht (λh1=>?_) (λzz=>?_);(try clear ht);refine no ?_;clear no;rotate_left;(try clear ht);refine a9 zz λt i vt cd=>dc cd λh1 h2 h3 h4 h5 G=>no ?_;clear no;rotate_right)
 .refine ae (p4 ho hd h1 ?_);refine rwm _ ?_ (hX (by decide));exact ar (m s.heap S ⟨o,vs,ho,hc,hd,cp,L,.inl h1⟩)
 .refine ae (p4 ho hd h1 ?_);refine rwm _ ?_ (ec (show(Value.ref t !=Value.none)=true from by simp));refine qQ S G.1 h2 h3 h4 λb5 o' H g1 g2 g3 g4 y=>m b5 H (⟨o,vs,(g4 ex (λz=>h5 z.symm)).trans ho,hc,hd,cp,L,.inr ⟨t,o',_,h1,g1,g3,by simpa using h4,h5,G.1,by refine rwm _ ?_ g2;exact G.2⟩⟩)
theorem zg{fr:Option Addr}{Q:Unit->Shared->Prop}{E:Value->Shared->Prop}(S:St b1 r g b2 l O s.heap)(X:XN b1 r g b2 l O s.heap C ex)
  (m:∀b5,St b1 r g b2 l O b5->XN b1 r g b2 l O b5 C ex->Q () {s with heap:=b5}):wpAny (model J b1.w) A (setFlight (.ref ex) fr) Q E s:=by
 (refine bc λno=>aq X λo vs c=>dc c λho hc hd cp L d=>a9 d λt i vt cd=>dc cd λh1 h2 h3 h4 h5 G=>no ?_;clear cd d c X no);unfold setFlight;refine ae (p4 ho hd h1 ?_);refine rwm _ ?_ (ec (show(Value.ref t !=Value.none)=true from by simp));refine qQ S G.1 h2 h3 h4 λb5 o' H g1 g2 g3 g4 y=>m b5 H (⟨o,vs,(g4 ex (λz=>h5 z.symm)).trans ho,hc,hd,cp,L,t,o',_,h1,g1,g3,by simpa using h4,h5,G.1,by refine rwm _ ?_ g2;exact G.2⟩)
theorem zh(hA:A.frames=some l){Q:Unit->Shared->Prop}{E:Value->Shared->Prop}(hf:env.frame=some f)(bb:∃e'∈l,e'.frame=env.frame)
  (S:St b1 r g b2 l O s.heap)(X:dg b1 r g b2 l O s.heap C ex)(m:∀b5,St b1 r g b2 l O b5->dg b1 r g b2 l O b5 C ex->Q () {s with heap:=b5}):
  wpAny (model J b1.w) A (leaving env (.ref ex)) Q E s:=by
 unfold leaving;exact ae (uG hA hf bb S X λb5 H I=>zf H I.x λw a b=>m w a b)
theorem zi{f:String}{Q:α->Shared->Prop}{E:Value->Shared->Prop}(S:St b1 r g b2 l O s.heap)(X:XN b1 r g b2 l O s.heap C ex)
  (hE:∀b5,St b1 r g b2 l O b5->dg b1 r g b2 l O b5 C ex->E (.ref ex) {s with heap:=b5}):wpAny (model J b1.w) A (PySem.passOn f (.ref ex) env:Sem α) Q E s:=by
 have I:=X.x;(refine bc λno=>aq X λo vs c=>dc c λho hc hd cp L d=>a9 d λt i vt cd=>dc cd λh1 h2 h3 h4 h5 G=>no ?_;clear cd d c X no);unfold PySem.passOn;refine ae (p4 ho hd h1 ?_);refine rwm _ ?_ (hX (by simp));exact ae (zf S I λb5 a b=>wpAny_throw (hE b5 a b))
theorem St.pop(S:St b1 r g b2 (env::l) O h):St b1 r g b2 l O h:=
 ⟨S.base,S.fr,S.rs,S.len,S.own,S.free,S.nd,S.gr,S.gt,S.tabs,λe he=>S.frs e (.tail _ he)⟩
theorem aD.pop(L:aD b1 r g b2 (env::l) O a):aD b1 r g b2 l O a:=⟨L.1,L.2.1,L.2.2.1,L.2.2.2.1,λe he=>L.2.2.2.2 e (.tail _ he)⟩
theorem dg.map(k:∀a,aD b1 r g b2 l O a->aD b1 r g b4 N M a)(X:dg b1 r g b2 l O h C x):dg b1 r g b4 N M h C x:=by
 refine h8 X λob vs a1 d B G a5 c=>⟨ob,vs,a1,d,B,G,k _ a5,?_⟩;rcases c with c|⟨t,i,vt,c5,cf,b3,U,y,z⟩
 .exact .inl c
 .exact .inr ⟨t,i,vt,c5,cf,b3,U,y,k _ z.1,z.2⟩
theorem St.pushF(S:St b1 r g b2 l O h){i:Nat}{L:Addr}{N:List (Str×V)}(hi:O[i]? =some (.ns true N))(M:b2[i]? =some L)(hk:env.scope.kind= .function)(hf:env.frame=some L):St b1 r g b2 (env::l) O h:=by
 refine⟨S.base,S.fr,S.rs,S.len,S.own,S.free,S.nd,S.gr,S.gt,S.tabs,λe he=>?_⟩;(refine a2 (hG.mp he) (λzz=>?_) (λhe=>?_);subst zz;rotate_left;rotate_right)
 .refine h8 (S.own _ _ _ hi M) λo m ho _ _ _ _ hc=>?_;refine bc λno=>aw (S.free _ _ _ hi M rfl) λf1 f2 v=>no (⟨hk,L,o,hf,ho,hc,f1,v⟩)
 .exact S.frs e he
def RC:Rl (List (Str×Nat)) (List (Str×Addr)):=λ_ b2 cl b=>ck b2 cl b
theorem Hr:aa J b1 r l A (λ_ b2 (i:Nat)(a:Addr)=>b2[i]? =some a) g b2 (alloc {cls:= .type "cell",data:= .cell none}) (new (.cell none)):=by
 intro O B s bs Y a b S q;cases q;refine wpAny_alloc ⟨bs,Y++[s.heap.objs.size],O.length,rfl,⟨⟨_,s.toks,rfl⟩,.refl _,.app _ _⟩,S.alloc (cV _) (λ_ _ e=>a3 _ e) rfl ⟨none,ea _ rfl,trivial⟩,?_⟩;show(Y++[s.heap.objs.size])[O.length]? =_;refine rwl _ ?_ S.len;simp
theorem uH(f:Str×NameKind->List (Str×Addr)->Sem (ForInStep (List (Str×Addr))))
  (hf:∀B j b,f (B,j) b=if j== .cell then(do let a<-alloc {cls:= .type "cell",data:= .cell none};pure (.yield ((B,a)::b))) else pure (.yield b)):
  ∀(d:List (Str×NameKind))(cl:List (Str×Nat))(b:List (Str×Addr))(g:ay)(b2:List Addr),ck b2 cl b->aa J b1 r l A RC g b2 (forIn d b f) (et d cl)
 |[],cl,b,g,b2,h=>by refine rwm _ ?_ sq;exact aa.pure λ_ _ _ hr=>h.mono hr
 |(B,j)::d,cl,b,g,b2,h=>by
  rw[List.forIn_cons,hf]
  by_cases hk:j= .cell
  .subst hk;show aa J b1 r l A RC g b2 ((alloc {cls:= .type "cell",data:= .cell none}>>=λa=>pure (ForInStep.yield ((B,a)::b)))>>=_) (bm (new (.cell none)) λc=>et d ((B,c)::cl));refine aa.eqT (bind_assoc _ _ _) (aa.bind Hr λbs Y i a hg hr ha=>?_);exact aa.eqT (pure_bind _ _) (uH f hf d ((B,i)::cl) ((B,a)::b) bs Y ⟨a,b,rfl,ha,h.mono hr⟩)
  .have e1:=beq_eq_false_iff_ne.mpr hk;have e2:et ((B,j)::d) cl=et d cl:=by cases j<;>first|rfl|exact absurd rfl hk
   refine rwm _ (rwm _ ?_ e2) e1;exact aa.eqT (pure_bind _ _) (uH f hf d cl b g b2 h)
theorem zj(f:Str×Value->PUnit->Sem (ForInStep PUnit))(hf:∀x v u,f (x,v) u=(do storeName env x v;pure (.yield ⟨⟩))):
  ∀(H:List (Str×V))(U:List (Str×Value))(g:ay)(b2:List Addr),ER b1 N g b2 e env->H.map (·.1)=U.map (·.1)->LR (VR b1.w g b2) (H.map (·.2)) (U.map (·.2))->
   aa J b1 r l A (RU (α:=Unit) (β:=PUnit)) g b2 (forIn U (⟨⟩:PUnit) f) (gT e H)
 |[],U,g,b2,he,h1,h2=>by
  cases U with
  |nil=>refine rwm _ ?_ sq;exact aa.pure λ_ _ _ _=>trivial
  |cons a b=>simp at h1
 |(x,v)::H,U,g,b2,he,h1,h2=>by
  cases U with
  |nil=>simp at h1
  |cons a U=>
   rcases a with⟨w,y⟩;simp only[List.map_cons,List.cons.injEq] at h1;rcases h1 with⟨rfl,h1⟩;(refine b9 h2 λz rr e1 hv hr=>?_;clear h2);simp only[List.map_cons,List.cons.injEq] at e1;(refine ac e1 λc2 bo=>?_;clear e1;subst c2;subst bo);rw[List.forIn_cons,hf];refine aa.eqT (bind_assoc _ _ _) (aa.bind (uE he x hv) λbs Y _ _ hg i _=>?_);exact aa.eqT (pure_bind _ _) (zj f hf H U bs Y (he.mono hg i) h1 (hr.up hg i))
theorem Hs:aa J b1 r l A (λ_ b2 (i:Nat)(a:Addr)=>b2[i]? =some a) g b2 (alloc {cls:= .type "frame",data:= .dict #[]}) (new (.ns true [])):=by
 intro O B s bs Y a b S q;cases q;have hn:fm {cls:= .type "frame",data:= .dict #[]} λ_=>none:=⟨#[],0,rfl,λ_ he=>by simp at he,λ_=>rfl⟩;refine wpAny_alloc ⟨bs,Y++[s.heap.objs.size],O.length,rfl,⟨⟨_,s.toks,rfl⟩,.refl _,.app _ _⟩,S.alloc (cV _) (λ_ _ e=>a3 _ e) rfl
  ⟨_,_,ea _ rfl,hn,trivial,λ_ _=>rfl,by simp,rfl⟩,?_⟩
 show(Y++[s.heap.objs.size])[O.length]? =_;refine rwl _ ?_ S.len;simp
theorem uI{sc:Scope}{cl:List (Str×Nat)}{c:List (Str×Addr)}{H:List (Str×V)}{U:List (Str×Value)}{q:Str}{C code bd:Addr}(t:code≠0->bd=code)(hk:sc.kind= .function)(hc:ck b2 cl c)
  (h1:H.map (·.1)=U.map (·.1))(h2:LR (VR b1.w g b2) (H.map (·.2)) (U.map (·.2))):
  aa J b1 r l A (λg b2 Q env=>ER b1 [env] g b2 Q env/\env.frame=some env.locals) g b2 (newFunctionEnv sc mainGlobals c U q (some C) (.ref bd) none builtinsNs)
   (bm (new (.ns true [])) λlh=>bm (et sc.names cl) λcl=>bm (gT ⟨sc,lh,cl,q,code⟩ H) λ_=>pm ⟨sc,lh,cl,q,code⟩):=by
 simp only[newFunctionEnv,Option.isSome_none,Bool.false_eq_true,if_false];refine aa.bind Hs λbs Y lh L hg hr M=>aa.bind (uH _ (λB j b=>by cases k:j==NameKind.cell<;>simp [k]) sc.names cl c bs Y (hc.mono hr)) λc5 bl I f d m cr=>?_;have he:ER b1 [({scope:=sc,locals:=L,globals:=mainGlobals,cells:=f,qual:=q,func:=some C,code:= .ref bd,frame:=some L,builtins:=builtinsNs}:Env)] c5 bl ⟨sc,lh,I,q,code⟩
   {scope:=sc,locals:=L,globals:=mainGlobals,cells:=f,qual:=q,func:=some C,code:= .ref bd,frame:=some L,builtins:=builtinsNs}:=
  ⟨rfl,hk,m _ _ M,rfl,cr,rfl,λhc=>by exact rwm _ rfl (t hc),rfl,⟨_,.head _,rfl⟩⟩
 refine aa.bind (zj _ (λ_ _ _=>rfl) H U c5 bl he h1 (h2.up (hg.trans d) (hr.trans m))) λc9 N _ _ D E _=>aa.pure λc2 bb o w=>⟨(he.mono D E).mono o w,rfl⟩
structure Rg (A:Around) (l:List Env) (n:Nat):Prop where
 handled:A.handled=none
 frames:A.frames=some l
 depth:A.depth+1+2*n<=998
 units:A.units+3+8*n<=9800
theorem Rm.rg(hR:Rm A l (n+1)):Rg A l n:=⟨hR.handled,hR.frames,by have:=hR.depth;exact Ew this,by have:=hR.units;exact Ex this⟩
theorem Rg.deeper(hR:Rg A l n)(env:Env):Rm (A.deeper env) (env::l) n:=
 ⟨hR.handled,by show A.frames.map (env::·)=_;refine rwm _ ?_ hR.frames;rfl,by refine(?_:A.depth+1+2*n<=998);have:=hR.depth;exact lB this rfl,by refine(?_:A.units+3+8*n<=9800);have:=hR.units;exact lB this rfl⟩
set_option backward.match.sparseCases true in
abbrev RQ(b1:Cx)(r:ay)(l:List Env)(s:Shared)(g:ay)(b2:List Addr)(B:Except Addr V×af)(rr:Except Value Flow)(s':Shared):Prop:=match rr with
 | .ok (.ret x)=>PQ (RV b1.w) b1 r l s g b2 B x s'
 | .ok _=>False
 | .error x=>PE b1 r l s g b2 B x s'
set_option tactic.hygienic true in
theorem Ht(S:aL J b1 n rc)(hR:Rg A l n)(he:ER b1 [env] g b2 e env)(c2:env.frame=some env.locals)(S0:St b1 r g b2 l O s.heap)(ct:O[e.lh]? =some (.ns true N))
  {B:Except Addr V×af}(q:eu rc j e O=some B):
  codeAny (model J b1.w) A (.func j env) (RQ b1 r l s g b2 B) s:=by
 have hk:env.scope.kind= .function:=by refine rwm _ ?_ he.scope;exact he.kind
 have be:ER b1 (env::l) g b2 e env:=⟨he.scope,he.kind,he.loc,he.globals,he.cells,he.qual,he.code,he.builtins,⟨env,.head _,rfl⟩⟩;have S1:=S0.pushF ct he.loc hk c2;refine codeAny_func ?_;have k:∀{i:Except Addr Fl×af}(x:Value)(s':Shared),PE b1 r (env::l) s g b2 i x s'->∀c,i.1= .error c->B=(.error c,i.2)->
   wpAny (model J b1.w) (A.deeper env) (leaving env x) (λ_ d=>PE b1 r l s g b2 B x d) (λe' d=>PE b1 r l s g b2 B e' d) s':=by
  rintro i x s' ⟨c5,bl,c',ex,e1,p,S2,rfl,X⟩ c hc b
  refine zh (hR.deeper env).frames c2 ⟨env,.head _,rfl⟩ S2 X λb5 S3 X3=>?_;(refine aw p λD p2 p3=>?_;clear p;clear X;rcases D with⟨h4,y,rfl⟩);exact⟨c5,bl,c,ex,by exact rwm _ rfl b,⟨⟨b5,y,rfl⟩,p2,p3⟩,by refine rwm _ ?_ b;exact S3.pop,rfl,by
   refine rwm _ ?_ b;rw[e1] at hc;(have za:=ere hc;clear hc;clear b;cases za);exact X3.map λa L=>L.pop⟩
 (refine a2 (ed q) (λzz=>?_) (λzz=>?_);refine aq zz λfl c6 bi=>ac bi λe1 e2=>?_;clear bi;rotate_left;refine aq zz λc c6 bi=>ac bi λe1 bo=>?_;clear bi;clear q zz;subst bo;rotate_right)
 .refine eb (jA S (hR.deeper env) j g b2 be O _ s g b2 (.refl _) (.refl _) S1 e1) (λf s' z=>?_) λx s' z=>?_
  ·(refine ch z λc5 bl bd q1 p S2 hf=>?_;clear z);(have za:=oke q1;clear q1;cases za)
   cases fl with
   |next=>
    clear q zz;cases e2;cases f<;>first|exact hf.elim|skip
    exact⟨c5,bl,_,rfl,p,S2.pop,qK (b1:=b1) (g:=c5)⟩
   |ret v=>
    clear q zz;cases e2;cases f<;>first|exact hf.elim|skip
    exact⟨c5,bl,_,rfl,p,S2.pop,hf⟩
  .refine cT z λ_ _ _ _ q1 _=>oee q1
 .refine eb (jA S (hR.deeper env) j g b2 be O _ s g b2 (.refl _) (.refl _) S1 e1) (λf s' z=>?_) λx s' z=>?_
  .refine d0 z λ_ _ _ q1 _=>eoe q1
  .exact k x s' z c rfl rfl
theorem Hu(S:aL J b1 n rc)(hR:Rg A l n)(he:ER b1 [env] g b2 e env)(c2:env.frame=some env.locals)(S0:St b1 r g b2 l O s.heap)(ct:O[e.lh]? =some (.ns true N))
  {B:Except Addr V×af}(q:rc.ev j e O=some B):
  codeAny (model J b1.w) A (.expr j env) (RQ b1 r l s g b2 B) s:=by
 have hk:env.scope.kind= .function:=by refine rwm _ ?_ he.scope;exact he.kind
 have be:ER b1 (env::l) g b2 e env:=⟨he.scope,he.kind,he.loc,he.globals,he.cells,he.qual,he.code,he.builtins,⟨env,.head _,rfl⟩⟩;refine kla_codeExpr (eb (S.ev (hR.deeper env) be j O _ s g b2 (.refl _) (.refl _) (S0.pushF ct he.loc hk c2) q) (λx s' z=>?_) λx s' z=>?_)
 .refine ch z λc5 bl v q1 p S2 hv=>⟨c5,bl,v,q1,p,S2.pop,hv⟩
 ·(refine bH z λc5 bl c ex cd=>bS cd λe1 p S2 bo X=>?_;clear cd;clear z;subst bo);refine zh (hR.deeper env).frames c2 ⟨env,.head _,rfl⟩ S2 X λb5 S3 X3=>?_;(refine aw p λD p2 p3=>?_;clear p;rcases D with⟨h4,y,rfl⟩);exact⟨c5,bl,c,ex,e1,⟨⟨b5,y,rfl⟩,p2,p3⟩,S3.pop,rfl,X3.map λa L=>L.pop⟩
noncomputable def qR(rc:aG):FuncBody->AE->MM V
 | .stmts b=>eu rc b
 | .expr b=>rc.ev b
noncomputable def zk(env:Env):FuncBody->Code
 | .stmts b=> .func b env
 | .expr b=> .expr b env
theorem zl(S:aL J b1 n rc)(hR:Rg A l n)(he:ER b1 [env] g b2 e env)(c2:env.frame=some env.locals)(S0:St b1 r g b2 l O s.heap)(ct:O[e.lh]? =some (.ns true N)){j:FuncBody}
  {B:Except Addr V×af}(q:qR rc j e O=some B):
  codeAny (model J b1.w) A (zk env j) (RQ b1 r l s g b2 B) s:=by
 cases j with
 |stmts b=>exact Ht S hR he c2 S0 ct q
 |expr b=>exact Hu S hR he c2 S0 ct q
theorem uJ{be:Args}{o:Obj}{fd:FuncData}{R:Result->Shared->Prop}(c:A.depth<recursionLimit)
  (ho:s.heap.get? a=some o)(c9:o.data= .func fd)(m:fd.scope.isCoroutine=false)(j:fd.scope.isGenerator=false)(N:s.heap.CodeRec fd.code fd.qualname)
  (h:wpAny (model J w) A.in1 (bindArgs fd be) (λd cf=>
   wpAny (model J w) A.in1 (newFunctionEnv fd.scope fd.globals fd.closure d (fd.qualname++".<locals>.") (some a) fd.code none fd.builtins)
    (λenv cv=>cv.heap.NoLimit/\codeAny (model J w) A (zk env fd.body) R cv) (λe s'=>R (.error e) s') cf) (λe s'=>R (.error e) s') s):
  codeAny (model J w) A (.call (.ref a) be) R s:=by
 cases hb:fd.body with
 |stmts b=>exact codeAny_call_function c ho c9 m j hb N (by rw[hb] at h;exact h)
 |expr b=>exact kla_callFunE c ho c9 m j hb N (by rw[hb] at h;exact h)
theorem PQ.left{s:Shared}{v:V}{x:Value}{s':Shared}{c6:af}{B:Except Addr V×af}(hl:b2.length=O.length)(q:fw O.length v c6=some B)(z:PQ (RV b1.w) b1 r l s g b2 (.ok v,c6) x s'):PQ (RV b1.w) b1 r l s g b2 B x s':=by
 (refine ch z λc5 bl v' e1 p S2 hv=>?_;clear z);(have za:=oke e1;clear e1;cases za);(refine bH (Hn S2 hv q) λb M c9 N cd=>bS cd λc2 hg S3 c hr=>?_;clear cd;clear q;subst c2);(refine aw p λD p2 p3=>?_;clear p;clear S2;rcases D with⟨h4,y,rfl⟩);refine⟨c9,N,b,rfl,⟨⟨h4,y,rfl⟩,p2.trans hg,?_⟩,S3,c⟩;intro i a hi;exact hr i a (jB (by refine rwl _ ?_ hl;exact(List.getElem?_eq_some_iff.mp hi).1) (p3 i a hi))
theorem zm{O:af}{B:Except Addr Unit×af}(q:put i Q O=some B):B=(.ok (),O.set i Q):=by cases q;rfl
theorem zn{O:af}(h:O[j]? =some (.ns true N))(hm:i=j->∃k,Q= .ns true k):∃k,(O.set i Q)[j]? =some (.ns true k):=by
 by_cases q:i=j
 .subst q;(refine ag (hm rfl) λk bo=>?_;clear hm;subst bo);exact⟨k,by exact rwm _ rfl (List.getElem?_set_self (List.getElem?_eq_some_iff.mp h).1)⟩
 .exact⟨N,by refine a0 (p5 q) ?_;exact h⟩
theorem zo{B:Except Addr Unit×af}(q:jq e x v O=some B):∃M,B=(.ok (),M)/\∀(j:Nat)(N:List (Str×V)),O[j]? =some (.ns true N)->∃k,M[j]? =some (.ns true k):=by
 unfold jq at q
 cases hl:e.scope.names.lookup x with
 |none=>rw[hl] at q;exact nso q
 |some d=>
  cases d<;>rw[hl] at q<;>first|exact nso q|skip
  .refine al (dF q) λQ e1 q=>?_;cases Q<;>first|((first|exact nso q|cases q);done)|skip
   exact⟨_,zm q,λj N h=>zn h λz=>by subst z;rw[e1] at h;cases h;exact⟨_,rfl⟩⟩
  .cases hc:e.cells.lookup x with
   |none=>rw[hc] at q;exact nso q
   |some c=>
    rw[hc] at q;refine al (dF q) λQ e1 q=>?_;cases Q<;>first|((first|exact nso q|cases q);done)|skip
    exact⟨_,zm q,λj N h=>zn h λz=>by subst z;rw[e1] at h;cases h⟩
theorem uK:∀{H:List (Str×V)}{O:af}{B:Except Addr Unit×af},gT e H O=some B->∃M,B=(.ok (),M)/\∀(j:Nat)(N:List (Str×V)),O[j]? =some (.ns true N)->∃k,M[j]? =some (.ns true k)
 |[],O,B,q=>by cases q;exact⟨O,rfl,λj N h=>⟨N,h⟩⟩
 |(x,v)::H,O,B,q=>by
  (refine a2 (ed q) (λzz=>?_) (λzz=>?_);refine aq zz λu c6 bi=>ac bi λe1 q=>?_;clear bi;rotate_left;refine aq zz λc c6 bi=>ac bi λe1 bo=>?_;clear bi;clear zz;subst bo;rotate_right)
  .refine al (zo e1) λM e2 h1=>?_;cases e2;refine al (uK q) λb e3 h2=>⟨b,e3,λj N h=>by refine ag (h1 j N h) λk hk=>h2 j k hk⟩
  .refine al (zo e1) λM e2 h1=>?_;cases e2
theorem qS:∀{ns:List (Str×NameKind)}{cl:List (Str×Nat)}{O:af}{B:Except Addr (List (Str×Nat))×af},et ns cl O=some B->∃I N,B=(.ok I,O++N)
 |[],cl,O,B,q=>by cases q;exact⟨cl,[],by simp [pm]⟩
 |(x,k)::ns,cl,O,B,q=>by
  by_cases hk:k= .cell
  .subst hk;(refine a2 (ed q) (λzz=>?_) (λzz=>?_);refine aq zz λi c6 bi=>ac bi λe1 q=>?_;clear bi;rotate_left;refine aq zz λc c6 bi=>ac bi λe1 bo=>?_;clear bi;clear zz;subst bo;rotate_right)
   ·(refine ac (okp e1) λza b=>?_;clear e1;cases za;cases b);(refine aq (qS q) λI N cr=>?_;clear zz;subst cr);exact⟨I,_,by rw[List.append_assoc]⟩
   .exact oep e1
  .have e2:et ((x,k)::ns) cl=et ns cl:=by cases k<;>first|rfl|exact absurd rfl hk
   rw[e2] at q;exact qS q
theorem zp{sc:Scope}{cl:List (Str×Nat)}{H:List (Str×V)}{i:Str}{code:Addr}{B:Except Addr AE×af}
  (q:(bm (new (.ns true [])) λlh=>bm (et sc.names cl) λcl=>bm (gT ⟨sc,lh,cl,i,code⟩ H) λ_=>pm (⟨sc,lh,cl,i,code⟩:AE)) O=some B):
  ∃Q M,B=(.ok Q,M)/\∃k,M[Q.lh]? =some (.ns true k):=by
 (refine a2 (ed q) (λzz=>?_) (λzz=>?_);refine aq zz λlh c6 bi=>ac bi λe1 q=>?_;clear bi;rotate_left;refine aq zz λc c6 bi=>ac bi λe1 bo=>?_;clear bi;subst bo;rotate_right)
 ·(refine ac (okp e1) λza b=>?_;clear e1;cases za;cases b);(refine a2 (ed q) (λzz=>?_) (λzz=>?_);refine aq zz λI c7 bi=>ac bi λe2 q=>?_;clear bi;rotate_left;refine aq zz λc c7 bi=>ac bi λe2 bo=>?_;clear bi;subst bo;rotate_right)
  ·(refine bc λno=>aq (qS e2) λd N e3=>no ?_;clear no);cases e3;(refine a2 (ed q) (λzz=>?_) (λzz=>?_);refine aq zz λu cr bi=>ac bi λe4 q=>?_;clear bi;rotate_left;refine aq zz λc cr bi=>ac bi λe4 bo=>?_;clear bi;clear zz;subst bo;rotate_right)
   .refine al (uK e4) λM e5 h=>?_;cases e5;clear zz;cases q;refine ag (h O.length [] (by simp)) λk hk=>⟨_,_,rfl,k,hk⟩
   .refine al (uK e4) λM e5 h=>?_;cases e5
  ·(refine bc λno=>aq (qS e2) λd N e3=>no ?_;clear no);cases e3
 .exact oep e1
theorem zq(G:Gl b1 P b7 mb)(S:aL J b1 n rc)(hR:Rg A l n)(S0:St b1 r g b2 l O s.heap){f code:Addr}{o:Obj}{fd:FuncData}{bd:Addr}{U:List Value}{H:List (Str×V)}{ys:List (Str×Value)}{cl:List (Str×Nat)}
  (ho:s.heap.get? f=some o)(hd:o.data= .func fd)(m:fd.scope.isCoroutine=false)(j:fd.scope.isGenerator=false)(hk:fd.scope.kind= .function)(C:fd.globals=mainGlobals)(D:fd.builtins=builtinsNs)
  (i:fd.code= .ref bd)(t:code≠0->bd=code)(N:s.heap.CodeRec fd.code fd.qualname)(cr:ck b2 cl fd.closure)(w:BindsTo s fd ⟨U,[]⟩ ys)(h1:H.map (·.1)=ys.map (·.1))(h2:LR (VR b1.w g b2) (H.map (·.2)) (ys.map (·.2)))
  {B:Except Addr V×af}(q:dS rc fd.scope fd.qualname code cl H (qR rc fd.body) O=some B):
  codeAny (model J b1.w) A (.call (.ref f) ⟨U,[]⟩) (RQ b1 r l s g b2 B) s:=by
 refine uJ (by have:=hR.depth;refine(?_:A.depth<1000);exact xe this) ho hd m j N ?_;refine w _ _ _ _ ?_;refine rwm _ (rwm _ (rwm _ ?_ i) D) C;have e0:dS rc fd.scope fd.qualname code cl H (qR rc fd.body) O=bm (bm (new (.ns true [])) λlh=>bm (et fd.scope.names cl) λcl=>bm (gT ⟨fd.scope,lh,cl,fd.qualname++nm ".<locals>.",code⟩ H) λ_=>pm (⟨fd.scope,lh,cl,fd.qualname++nm ".<locals>.",code⟩:AE))
   (λQ=>bm (qR rc fd.body Q) λv=>fw O.length v) O:=by
  unfold dS;simp only[dw];rfl
 rw[e0] at q;(refine a2 (ed q) (λzz=>?_) (λzz=>?_);refine aq zz λQ c6 bi=>ac bi λe1 q=>?_;clear bi;rotate_left;refine aq zz λc c6 bi=>ac bi λe1 bo=>?_;clear bi;subst bo;rotate_right)
 .refine eb (uI t hk cr h1 h2 O _ s g b2 (.refl _) (.refl _) S0 e1) (λenv s' z=>?_) λx s' z=>?_
  ·(refine dp z λc5 bl E e2 p S2 he c2=>?_;clear z);(have za:=oke e2;clear e2;cases za);refine⟨G.nolimit.keeps S2.ground,?_⟩;(refine bc λno=>aq (zp e1) λy b c3=>ac c3 λe3 c1=>ag c1 λk ct=>no ?_;clear c1 c3 no);cases e3;(refine a2 (ed q) (λzz=>?_) (λzz=>?_);refine aq zz λv c7 bi=>ac bi λe4 q=>?_;clear bi;rotate_left;refine aq zz λc c7 bi=>ac bi λe4 bo=>?_;clear bi;clear zz;subst bo;rotate_right)
   .refine ov (zl S hR he c2 S2 ct e4) λrr d z=>?_;rcases rr with x|(_|_|_|x)
    .refine cT z λ_ _ _ _ q1 _=>oee q1
    .exact z
    .exact z
    .exact z
    .exact PQ.left S0.len q (z.up p)
   .refine ov (zl S hR he c2 S2 ct e4) λrr d z=>?_;rcases rr with x|(_|_|_|x)
    .exact z.up p
    .exact z
    .exact z
    .exact z
    .refine d0 z λ_ _ _ q1 _=>eoe q1
  .refine cT z λ_ _ _ _ q1 _=>oee q1
 .refine cS (zp e1) λy b e3 _=>?_;cases e3
end
section
variable {β:Type}
theorem uL{z:List (Str×β)}:(z.lookup n).isSome=true↔n∈z.map (·.1):=by
 induction z with
 |nil=>exact⟨nofun,nofun⟩
 |cons p r ih=>
  refine rwm _ ?_ ni
  by_cases q:n=p.1
  .subst q;rw[beq_self_eq_true];exact⟨λ_=>q0,λ_=>rfl⟩
  .refine rwm _ ?_ (beq_eq_false_iff_ne.mpr q);exact ih.trans ⟨.tail _,λh=>(hG.mp h).resolve_left q⟩
noncomputable def iW(z:List (Str×β))(p:Str×β):List (Str×β):=if(z.lookup p.1).isNone=true then z++[(p.1,p.2)] else z
theorem Hv(l:List (Str×β))(z:List (Str×β))(h:∀p∈l,p.1∈z.map (·.1)):l.foldl iW z=z:=by
 induction l with
 |nil=>rfl
 |cons p l ih=>
  rw[List.foldl_cons,iW,if_neg λe=>?_]
  .exact ih λp hp=>h p (.tail _ hp)
  .have h1:=uL.mpr (h p (.head _));rw[Option.isNone_iff_eq_none] at e;rw[e] at h1;exact ftf h1
theorem Hw(l:List (Str×β))(z:List (Str×β))(hn:(l.map (·.1)).Nodup)(h:∀p∈l,p.1∉z.map (·.1)):l.foldl iW z=z++l:=by
 induction l generalizing z with
 |nil=>exact(List.append_nil z).symm
 |cons p l ih=>
  have hn:p.1∉l.map (·.1)/\(l.map (·.1)).Nodup:=oc.mp hn;have h1:(z.lookup p.1).isNone=true:=by
   rw[Option.isNone_iff_eq_none,<-Option.not_isSome_iff_eq_none,uL];exact h p (.head _)
  rw[List.foldl_cons,iW,if_pos h1,ih _ hn.2 λq hq=>?_,List.append_assoc]
  .rfl
  .rw[List.map_append,List.mem_append,not_or];exact⟨h q (.tail _ hq),λe=>hn.1 (by refine rwl _ ?_ ((List.mem_singleton.mp e:q.1=p.1));exact List.mem_map_of_mem hq)⟩
theorem zr{γ:Type}{f g:Str->Option γ}:∀(l:List Str),(∀a∈l,f a=g a)->l.filterMap f=l.filterMap g
 |[],_=>rfl
 |a::l,h=>by exact rwm _ (rwm _ (rwm _ (rwm _ rfl (zr l λb hb=>h b (.tail _ hb))) (h a (.head _))) List.filterMap_cons) List.filterMap_cons
theorem zt:∀(ns:List Str)(ys:List β),ns.Nodup->ys.length=ns.length->ns.filterMap (λn=>((ns.zip ys).lookup n).map λx=>(n,x))=ns.zip ys
 |[],ys,_,_=>by simp
 |n::ns,[],_,h=>by simp at h
 |n::ns,y::ys,hn,h=>by
  rw[List.nodup_cons] at hn;have ih:=zt ns ys hn.2 (by simpa using h);refine rwm _ (rwm _ ?_ (qn (b:=(n,y)) (by simp))) List.zip_cons_cons
  congr 1
  refine .trans (zr ns λm hm=>?_) ih;have:(m==n)=false:=beq_eq_false_iff_ne.mpr λe=>hn.1 (e▸hm);exact rwm _ (rwm _ rfl this) ni
theorem oV{α:Type}(l:List α)(h:k<=l.length):∃a b,l=a++b/\a.length=k:=⟨l.take k,l.drop k,(List.take_append_drop k l).symm,List.length_take_of_le h⟩
theorem zu{a b:List Str}{x:List β}(h:a.length=x.length):(a++b).zip x=a.zip x:=by
 have q:=List.zip_append (r₁:=b) (r₂:=[]) h;rw[List.append_nil,List.zip_nil_right,List.append_nil] at q;exact q
theorem Hx{n1 n2 n3:List Str}{x m c:List β}(hn:((n1++n2)++n3).Nodup)(hx:(n1++n2).length=x.length)(h2:n2.length=m.length)(h3:n3.length=c.length):
  ((n2++n3).zip (m++c)).foldl iW (((n1++n2)++n3).zip x)=((n1++n2)++n3).zip (x++c):=by
 have hk:=sz (ej hx);have G:=sz (ej h3);have hd:=List.nodup_append.mp hn;rw[List.zip_append h2,List.foldl_append,zu hx,Hv (n2.zip m) _ λp hp=>?_,Hw (n3.zip c) _ (G.symm▸hd.2.1) λp hp hq=>?_,List.zip_append hx]
 .rw[hk] at hq;exact hd.2.2 _ hq _ (G▸List.mem_map_of_mem hp) rfl
 .refine rwm _ ?_ hk;exact List.mem_append_right _ (List.of_mem_zip hp).1
theorem Hy{ns:List Str}{U b:List β}(hn:ns.Nodup)(h1:b.length<=ns.length)(h2:U.length<=ns.length)(h3:ns.length<=U.length+b.length):
  ((ns.drop (ns.length - b.length)).zip b).foldl iW (ns.zip U)=ns.zip (U++b.drop (b.length - (ns.length - U.length))):=by
 refine(oV ns h2).elim λp q=>q.elim λn3 q=>(oV p (q.2.symm▸Nat.sub_le_iff_le_add.mpr h3:ns.length - b.length<=p.length)).elim λn1 z=>z.elim λn2 z=>?_;have e1:ns.length=U.length+n3.length:=by exact rwm _ (rwm _ (rwm _ rfl q.2) js) q.1
 have e2:U.length=(ns.length - b.length)+n2.length:=by exact rwl _ (rwm _ (rwm _ (rwm _ rfl z.2) js) z.1) q.2
 have e3:b.length=n2.length+n3.length:=by clear q z hn;exact Eg h1 e1 e2
 refine(oV b (e3▸ix _ _:n2.length<=b.length)).elim λm y=>y.elim λc y=>?_;have e4:n3.length=c.length:=by rw[y.1,List.length_append,y.2] at e3;exact(Nat.add_left_cancel e3).symm
 have e5:b.length - (ns.length - U.length)=m.length:=by rw[e1,Nat.add_sub_cancel_left,e3,Nat.add_sub_cancel,y.2]
 rw[e5,<-z.2,q.1,z.1,y.1,List.drop_left,List.append_assoc,List.drop_left,<-List.append_assoc];exact Hx (by refine rwl _ (rwl _ ?_ q.1) z.1;exact hn) (by exact rwl _ (rwm _ rfl q.2) z.1) y.2.symm e4
end
section
variable {J:Program}{b1:Cx}{r g b6:ay}{b2 b4:List Addr}{l:List Env}{A:Around}{α β γ δ:Type}{P:bt}{b7 mb:Str->Option Value}{n:Nat}{rc:aG}{e:AE}{env:Env}{O:af}{h b5:Heap}{s:Shared}{K:Frag}
theorem Hz{δ:Type}(ys:List (Str×Value))(z:List (Str×Value))(k:List (Str×Value)->Sem δ):
  (do let s<-forIn ys z (λx s=>if(List.lookup x.fst s).isNone=true then pure (ForInStep.yield (s++[(x.fst,x.snd)])) else pure (ForInStep.yield s));k s:Sem δ)=k (ys.foldl iW z):=by
 induction ys generalizing z with
 |nil=>rw[List.forIn_nil,pure_bind];rfl
 |cons p ys ih=>
  rw[List.forIn_cons,List.foldl_cons,iW]
  by_cases h:(List.lookup p.1 z).isNone=true
  .rw[if_pos h,if_pos h,pure_bind];exact ih _
  .rw[if_neg h,if_neg h,pure_bind];exact ih _
theorem zv{v d p:Nat}(c5:v<=p)(cf:p<=v+d):v+(d - (d - (p - v)))=p:=Eh c5 cf
theorem zw{M:Model}{c:Prop}[Decidable c]{a b:Sem α}{Q:α->Shared->Prop}{E:Value->Shared->Prop}(h:¬c)(k:wpAny M A b Q E s):wpAny M A (if c then a else b) Q E s:=by
 refine rwm _ ?_ (hX h);exact k
theorem HA{M:Model}{ys z:List (Str×Value)}{k:List (Str×Value)->Sem α}{Q:α->Shared->Prop}{E:Value->Shared->Prop}(h:wpAny M A (k (ys.foldl iW z)) Q E s):
  wpAny M A (forIn ys z (λx s=>if(List.lookup x.fst s).isNone=true then pure (ForInStep.yield (s++[(x.fst,x.snd)])) else pure (ForInStep.yield s))>>=k) Q E s:=by
 exact(Hz ys z k).symm▸h
theorem HB{ns:List Str}{U:List α}(h2:U.length<=ns.length)(h3:k<=U.length):List.filter (λn=>(List.lookup n (ns.zip U)).isNone) (ns.take k)=[]:=by
 refine(oV ns h2).elim λa q=>q.elim λb q=>(oV a (q.2.symm▸h3:k<=a.length)).elim λc z=>z.elim λd z=>?_;rw[List.filter_eq_nil_iff,q.1,zu q.2];intro m hm e;rw[z.1,List.append_assoc,<-z.2,List.take_left] at hm;rw[Option.isNone_iff_eq_none,<-Option.not_isSome_iff_eq_none,uL,List.map_fst_zip (Nat.le_of_eq q.2)] at e;exact e (z.1▸List.mem_append_left _ hm)
theorem HC{fd:FuncData}{U:List Value}{c:Option (Array Value)}(hp:gg fd.params=true)(hs:∀(M:Model)(A:Around)(E:Value->Shared->Prop)(Q:Option (Array Value)->Shared->Prop),Q c s->wpAny M A (seqItems? fd.defaults) Q E s)
  (h1:(c.getD #[]).toList.length<=fd.params.args.length)(h2:U.length<=fd.params.args.length)(h3:fd.params.args.length<=U.length+(c.getD #[]).toList.length):
  BindsTo s fd ⟨U,[]⟩ ((fd.params.args.map (·.arg)).zip (U++(c.getD #[]).toList.drop ((c.getD #[]).toList.length - (fd.params.args.length - U.length)))):=by
 intro M A E Q hq;simp only[gg,Bool.and_eq_true,List.isEmpty_iff,Option.isNone_iff_eq_none,decide_eq_true_eq] at hp;(refine ac hp λc7 hn=>?_;clear hp;rcases c7 with⟨⟨⟨p1,p2⟩,p3⟩,j⟩);rcases fd with⟨bb,q,ps,f1,f2,v,t,y,H,B,C,D,w⟩;rcases ps with⟨p,d,i,k,L,o,G⟩;have p1:p=[]:=p1;have p2:k=[]:=p2;have p3:i=none:=p3;have j:o=none:=j;subst p1 p2 p3 j;refine ae (m:=seqItems? y) (hs _ _ _ _ ?_);dsimp only at h1 h2 h3 hq hn;generalize (c.getD #[]).toList=b at*;rw[<-List.length_map (f:=λx:Arg=>x.arg)] at h1 h2 h3 hq;refine zw (λz=>absurd h2 (Nat.not_le_of_gt (hK (Bool.and_eq_true_iff.mp z).1))) ?_;have g2:b.length - (d.map λx:Arg=>x.arg).length=0:=Nat.sub_eq_zero_of_le h1;refine zw (λz=>?_) ?_
 .have z:(!(List.filter (λn=>(List.lookup n ((d.map λx:Arg=>x.arg).zip U)).isNone) ((d.map λx:Arg=>x.arg).take ((d.map λx:Arg=>x.arg).length - (b.drop (b.length - (d.map λx:Arg=>x.arg).length)).length))).isEmpty)=true:=z;rw[g2,List.drop_zero,(HB h2 (Nat.sub_le_iff_le_add.mpr h3))] at z;exact ftf z
 refine HA ?_
 suffices h:Q (((d.map λx:Arg=>x.arg)++[]).filterMap λn=>((List.foldl iW ((d.map λx:Arg=>x.arg).zip U) (((d.map λx:Arg=>x.arg).drop ((d.map λx:Arg=>x.arg).length - (b.drop (b.length - (d.map λx:Arg=>x.arg).length)).length)).zip (b.drop (b.length - (d.map λx:Arg=>x.arg).length)))).lookup n).map λx=>(n,x)) s from ar h
 rw[List.append_nil,g2,List.drop_zero,Hy hn h1 h2 h3,zt _ _ hn (by rw[List.length_append,List.length_drop,zv h2 h3])];exact hq
theorem HD{ps:List Arg}{vs:List V}{b:List T}(h:d8 ps vs b=some H):
  vs.length<=ps.length/\ps.length<=vs.length+b.length/\H=(ps.map (·.arg)).zip (vs++(b.drop (b.length - (ps.length - vs.length))).map .t):=by
 refine ac (eU h) λc h=>?_;cases h;exact⟨c.1,c.2,rfl⟩
theorem LR.drop{α:Type}{R:α->Value->Prop}:∀{vs:List α}{U:List Value}(k:Nat),LR R vs U->LR R (vs.drop k) (U.drop k)
 |[],_,k,h=>by subst h;rw[List.drop_nil,List.drop_nil];rfl
 |v::vs,_,0,h=>h
 |v::vs,_,k+1,h=>by(refine aq h λy r c3=>aw c3 λc2 q z=>?_;clear c3;clear h;subst c2);exact LR.drop k z
theorem LR.len{α:Type}{R:α->Value->Prop}:∀{vs:List α}{U:List Value},LR R vs U->vs.length=U.length
 |[],_,h=>by subst h;rfl
 |v::vs,_,h=>by(refine aq h λy r c3=>aw c3 λc2 q z=>?_;clear c3;clear h;subst c2);simp [LR.len z]
def uM(B:Heap)(w:World)(v:Value)(b:List T):Prop:=(v= .none/\b=[])\/∃a o c ep,v= .ref a/\B.get? a=some o/\o.data= .seq c ep/\TRs w B.get? b c.toList
theorem HE{α:Type}{R:α->Value->Prop}{a:List Str}{L:List α}(e:a.length=L.length)(h:LR R L Y):(a.zip L).map (·.1)=(a.zip Y).map (·.1)/\LR R ((a.zip L).map (·.2)) ((a.zip Y).map (·.2)):=by
 have e':=e.trans h.len;refine rwm _ (rwm _ (rwm _ (rwm _ ?_ (List.map_snd_zip (ej e'.symm))) (List.map_snd_zip (ej e.symm))) (sz (ej e'))) (sz (ej e));exact⟨rfl,h⟩
theorem qT{fd:FuncData}{b:List T}{H:List (Str×V)}(S:St b1 r g b2 l O s.heap)(hp:gg fd.params=true)(hd:uM b1.B b1.w fd.defaults b)(hl:b.length<=fd.params.args.length)
  (hb:d8 fd.params.args vs b=some H)(hv:LR (VR b1.w g b2) vs U):
  ∃ys,BindsTo s fd ⟨U,[]⟩ ys/\H.map (·.1)=ys.map (·.1)/\LR (VR b1.w g b2) (H.map (·.2)) (ys.map (·.2)):=by
 (refine aw (HD hb) λc5 cf cr=>?_;clear hb;subst cr);have cl:∀(c:Option (Array Value)),(∀(M:Model)(A:Around)(E:Value->Shared->Prop)(Q:Option (Array Value)->Shared->Prop),Q c s->wpAny M A (seqItems? fd.defaults) Q E s)->TRs b1.w g b (c.getD #[]).toList->
   ∃ys,BindsTo s fd ⟨U,[]⟩ ys/\((fd.params.args.map (·.arg)).zip (vs++(b.drop (b.length - (fd.params.args.length - vs.length))).map .t)).map (·.1)=ys.map (·.1)/\
    LR (VR b1.w g b2) (((fd.params.args.map (·.arg)).zip (vs++(b.drop (b.length - (fd.params.args.length - vs.length))).map .t)).map (·.2)) (ys.map (·.2)):=by
  intro c hs hi;have hi:=fo.mp hi;have l1:=hi.len;have l2:=hv.len;refine⟨_,HC hp hs (l1▸hl) (l2▸c5) (l1▸l2▸cf),?_⟩;refine rwl _ (rwl _ ?_ l2) l1;exact HE (by rw[List.length_map,List.length_append,List.length_map,List.length_drop,zv c5 cf]) (hv.app (LR.mono (G:=VR b1.w g b2) (λv x h=>h) (hi.drop _)))
 (refine a2 hd (λzz=>?_) (λzz=>?_);(try clear hd);refine ac zz λe1 bo=>?_;clear zz;subst bo;rotate_left;(try clear hd);refine bH zz λa o c ep cv=>bK cv λe1 e2 e3 e4=>?_;clear cv;rotate_right)
 .refine cl none (λM A E Q hq=>?_) rfl;refine rwm _ ?_ e1;exact ar hq
 .refine cl (some c) (λM A E Q hq=>?_) (TRs.mono S.baseLe _ _ e4);refine rwm _ ?_ e1;exact wpAny_seqItems (S.ground _ _ e2) e3 hq
end
structure oW (cx:Cx) (a:Addr) (fi:kh) (o:Obj) (fd:FuncData):Prop where
 at_:cx.B.get? a=some o
 data:o.data= .func fd
 st:∃nm' bd d r tp ts b p,fi.st= .FunctionDef nm' fd.params bd d r tp fd.scope ts b p/\fd.body= .stmts bd
 qual:fd.qualname=fi.qual
 clos:fd.closure=[]
 glob:fd.globals=mainGlobals
 bui:fd.builtins=builtinsNs
 sc:gV fd.scope=true
 ps:gg fd.params=true
 code:fd.code= .ref fi.code
 rec_:cx.B.CodeRec fd.code fd.qualname
 dfl:uM cx.B cx.w fd.defaults fi.dfl
 len:fi.dfl.length<=fd.params.args.length
section
variable {J:Program}{b1:Cx}{r g b6:ay}{b2 b4:List Addr}{l:List Env}{A:Around}{α β γ δ:Type}{P:bt}{b7 mb:Str->Option Value}{n:Nat}{rc:aG}{e:AE}{env:Env}{O:af}{h b5:Heap}{s:Shared}{K:Frag}
theorem qU{sc:Scope}(h:gV sc=true):sc.kind= .function/\sc.isCoroutine=false/\sc.isGenerator=false:=by
 simp only[gV,Bool.and_eq_true,Bool.not_eq_true',beq_iff_eq] at h;exact⟨h.1.1,h.1.2,h.2⟩
theorem uN(G:Gl b1 P b7 mb)(S:aL J b1 n rc)(hR:Rg A l n)(F:oW b1 a fi o fd)(hv:LR (VR b1.w g b2) be U){B:Except Addr V×af}{s:Shared}
  (S0:St b1 r g b2 l O s.heap)(q:m8 rc fi be O=some B):
  codeAny (model J b1.w) A (.call (.ref a) ⟨U,[]⟩) (RQ b1 r l s g b2 B) s:=by
 (refine bc λno=>mH F.st λbb v d rr f ts b cs=>ag cs λp c1=>ac c1 λe1 e2=>no ?_;clear c1 cs no);unfold m8 at q;rw[e1] at q;refine al (dG q) λH hb q=>cD (qT S0 F.ps F.dfl F.len hb hv) λys h1 h2 h3=>?_;refine bc λno=>aw (qU F.sc) λk1 k2 k3=>no (zq G S hR S0 (cl:=[]) (S0.ground _ _ F.at_) F.data k2 k3 k1 F.glob F.bui F.code (λ_=>rfl) (F.rec_.keeps S0.ground) (by refine a0 F.clos ?_;rfl) h1 h2 h3 ?_);refine rwm _ (rwm _ ?_ F.qual) e2;exact q
set_option tactic.hygienic true in
theorem HF(G:Gl b1 P b7 mb)(S:aL J b1 n rc)(hR:Rg A l n){k:Nat}{ps:Arguments}{v:Expr}{sc:Scope}{C:Str}{cl:List (Str×Nat)}{a:Addr}{be:List V}{U:List Value}(hv:LR (VR b1.w g b2) be U)
  {B:Except Addr V×af}(S0:St b1 r g b2 l O s.heap)(hk:O[k]? =some (.clo ps v sc C cl))(ha:b2[k]? =some a)
  (q:(if gg ps&&gV sc then bm (om (d8 ps.args be [])) λH=>dS rc sc C 0 cl H (rc.ev v) else λ_=>none:MM V) O=some B):
  codeAny (model J b1.w) A (.call (.ref a) ⟨U,[]⟩) (RQ b1 r l s g b2 B) s:=by
 split at q
 .rename_i hc
  rw[Bool.and_eq_true] at hc;refine al (dG q) λH hb q=>?_;refine bc λno=>hZ (S0.own _ _ _ hk ha) λY c L I D cd=>bK cd λho hg N cr=>no (cD (qT (fd:=kla_fn "<lambda>" C ps v sc I Y (.ref c) L) S0 hc.1 (.inl ⟨rfl,rfl⟩) (i1 _) hb hv) λys h1 h2 h3=>?_);(refine bc λno=>aw (qU hc.2) λk1 k2 k3=>no ?_;clear no);refine cS N λvs t d1 m=>zq G S hR S0 ho rfl k2 k3 k1 rfl rfl rfl (λh=>absurd rfl h) ⟨c,D,vs,t,rfl,S0.fr _ _ hg,d1,m⟩ cr h1 h2 h3 q
 .exact nso q
structure uO (cx:Cx) (P:bt) (mg:Str->Option Value):Prop where
 hd:∀c q,P.tb c=some q->c≠0/\∃p,(c,p,q)∈cx.ts/\CodeHd cx.B c p
 uniq:∀q∈cx.ts,∀q'∈cx.ts,q.2.1=q'.2.1->q.2.2=q'.2.2
 bm:∃b o,mg "__builtins__"=some (.ref b)/\b≠builtinsNs/\b≠mainGlobals/\cx.B.get? b=some o/\o.cls= .type "module"/\o.dict=some builtinsNs/\o.data= .plain
theorem ck.app:∀{a b:List (Str×Nat)}{x y:List (Str×Addr)},ck b2 a x->ck b2 b y->ck b2 (a++b) (x++y)
 |[],b,x,y,h,k=>by subst h;exact k
 |(n,i)::a,b,x,y,⟨ad,N,e,q,z⟩,k=>by subst e;exact⟨ad,_,rfl,q,ck.app z k⟩
noncomputable abbrev gX(e:AE)(p:Str×NameKind):Option (Str×Nat):=(e.cells.lookup p.1).map λc=>(p.1,c)
theorem uP(f:Str×NameKind->List (Str×Addr)->Sem (ForInStep (List (Str×Addr))))(hf:∀B j y,f (B,j) y=if j== .free then(do let a<-cellOf env B;pure (.yield ((B,a)::y))) else pure (.yield y))
  (hc:ck b2 e.cells env.cells):∀(d:List (Str×NameKind))(cl:List (Str×Nat)),((d.filter λp=>p.2== .free).reverse.mapM (gX e))=some cl->
   ∃cx,ck b2 cl cx/\∀be,forIn d be f=pure (cx++be)
 |[],cl,h=>by
  simp at h;subst h;exact⟨[],rfl,λbe=>by refine a0 sq ?_;rfl⟩
 |(bb,L)::d,cl,h=>by
  by_cases hk:L= .free
  .subst hk;rw[List.filter_cons_of_pos (by rfl),List.reverse_cons,List.mapM_append] at h
   cases h1:((d.filter λp=>p.2== .free).reverse.mapM (gX e)) with
   |none=>rw[h1] at h;simp at h
   |some b=>
    rw[h1] at h
    cases h2:e.cells.lookup bb with
    |none=>simp [gX,h2] at h
    |some c=>
     simp [gX,h2] at h;subst h;refine al (uP f hf hc d b h1) λcx C H=>al (hc.get h2) λa ha w=>⟨cx++[(bb,a)],C.app ⟨a,[],rfl,w,rfl⟩,λbe=>?_⟩;rw[List.forIn_cons,hf];have i:cellOf env bb=pure a:=by unfold cellOf;exact rwm _ rfl ha
     simp only[beq_self_eq_true,if_true,i,pure_bind];rw[H,List.append_assoc];rfl
  .have e1:=beq_eq_false_iff_ne.mpr hk;rw[List.filter_cons_of_neg (by simpa using e1)] at h;refine al (uP f hf hc d cl h) λcx C H=>⟨cx,C,λbe=>?_⟩;rw[List.forIn_cons,hf,e1];simp only[Bool.false_eq_true,if_false,pure_bind];exact H be
theorem zx(hc:ck b2 e.cells env.cells){sc:Scope}(h:((sc.names.filter λp=>p.2== .free).reverse.mapM (gX e))=some cl):∃cx,closureFor sc env=pure cx/\ck b2 cl cx:=by
 refine al (uP (λx y=>do
  if x.2== .free then
   let a<-cellOf env x.1
   pure (.yield ((x.1,a)::y))
  else pure (.yield y)) (λB j y=>by cases b5:j==NameKind.free<;>simp [b5]) hc sc.names cl h) λcx C H=>⟨cx,?_,C⟩
 have:=H [];rw[List.append_nil] at this;refine rwl _ ?_ this;unfold closureFor;simp only[bind_pure]
set_option tactic.hygienic true in
theorem HG{c4 k:Pos}:∀(l:List Value),TriplesOk l->codeAmong c4 (l++[rawInt k.line,rawInt k.col,c])=some bd->codeAmong c4 l=some bd\/bd=c:=by
 intro l
 fun_induction TriplesOk l with
 |case1=>
  intro _ h;simp only[List.nil_append,codeAmong,rawInt] at h
  split at h
  .cases h;exact .inr rfl
  .exact nso h
 |case2 a t b u x j ih=>
  intro ht h;simp only[List.cons_append,codeAmong] at h⊢
  split at h
  .rename_i hc;refine rwm _ ?_ (ec hc);exact .inl h
  .rename_i hc;refine rwm _ ?_ (hX hc);exact ih ht h
 |case3 l h1 h2=>intro ht;exact ht.elim
theorem St.filed(U:∀q∈b1.ts,∀q'∈b1.ts,q.2.1=q'.2.1->q.2.2=q'.2.2)(S:St b1 r g b2 l O h){c4:Pos}(hm:(c,p,C)∈b1.ts)(hp:h.get? p=some (tabObj ps))(hx:Heap.ExtBut p h b5)(E:h.objs.size<=c')
  (ho:b5.get? c'=some D)(hc:tR D C)(ht:b5.get? p=some (tabObj (ps++ #[rawInt c4.line,rawInt c4.col,.ref c']))):aZ g (upd g c' D)/\St b1 r (upd g c' D) b2 l O b5:=by
 have hn:=pB E;have N:b1.tab p:=⟨_,hm,rfl⟩;have keep:∀b o,¬b1.tab b->h.get? b=some o->b5.get? b=some o:=λb o hb e=>hx b o (λq=>hb (q▸N)) e;have up:=aZ.upd D (S.lt_g hn);have m:p≠c':=λq=>by rw[<-q,hp] at hn;exact sno hn
 refine⟨up,⟨λb o e=>up _ _ (S.base b o e),λb o e=>?_,λb o e=>?_,S.len,λi Q a e1 e2=>?_,λi Q a e1 e2 q=>?_,S.nd,λb o e=>?_,λb o e=>?_,λq hq=>?_,λf he=>?_⟩⟩
 .unfold upd at e
  by_cases q:b=c'
  .clear E m;subst q;rw[if_pos rfl] at e;cases e;exact ho
  .rw[if_neg q] at e;exact keep b o (S.gt b o e) (S.fr b o e)
 .refine al (S.rs b o e) λo' e' q=>⟨o',keep b o' (S.gr b o e).2 e',q⟩
 .cases z:isFz Q with
  |true=>exact((S.own i Q a e1 e2).still z).mono up (.refl _) (.same λ_ e=>e)
  |false=>exact(S.own i Q a e1 e2).mono up (.refl _) (.same λo e=>keep a o (S.free i Q a e1 e2 z).2.2 e)
 .refine bc λno=>aw (S.free i Q a e1 e2 q) λf1 f2 v=>no (⟨?_,f2,v⟩);unfold upd;rw[if_neg (λz=>by
   clear E ho m;subst z;refine ag (OR.there q (S.own i Q _ e1 e2)) λo w=>?_;rw[hn] at w;exact nso w)];exact f1
 .refine ac (S.gr b o e) λf1 f2=>⟨?_,f2⟩;unfold upd;rw[if_neg (λz=>by clear E ho m;subst z;rw[S.lt_r hn] at e;exact nso e)];exact f1
 .unfold upd at e
  by_cases q:b=c'
  .clear E ho m;subst q;exact S.lt_t hn
  .rw[if_neg q] at e;exact S.gt b o e
 .refine cD (S.tabs q hq) λH e G x=>?_
  by_cases z:q.2.1=p
  .rw[z,hp] at e;cases e;refine⟨_,by refine rwm _ ?_ z;exact ht,by refine rwm _ ?_ Array.toList_append;exact TriplesOk_snoc _ _ _ _ G,λk bd t=>?_⟩;rw[Array.toList_append] at t;(refine bc λno=>a2 (HG _ G t) (λy=>?_) (λy=>?_);refine no ?_;clear no;rotate_left;refine no ?_;clear no;rotate_right)
   .refine b9 (x k bd y) λI j a1 d B=>⟨I,j,a1,up _ _ d,B⟩
   .exact⟨c',D,y,eS _ _ _,by refine rwm _ ?_ (U q hq _ hm z);exact hc⟩
  .exact⟨H,hx _ _ z e,G,λk bd t=>by refine b9 (x k bd t) λI j a1 d B=>⟨I,j,a1,up _ _ d,B⟩⟩
 .refine bc λno=>ac (S.frs f he) λe0 cv=>aq cv λL o' M=>bS M λe1 e2 e3 e4 e5=>no (⟨e0,L,o',e1,keep L o' e5 e2,e3,?_,e5⟩);unfold upd;rw[if_neg (λz=>by clear E ho ht up m no;subst z;rw[hn] at e2;exact nso e2)];exact e4
set_option tactic.hygienic true in
theorem HH(G:Gl b1 P b7 mb)(k5:uO b1 P b7)(he:ER b1 l g b2 e env)(ps:Arguments)(v:Expr)(sc:Scope)(c4:Pos):
  aa J b1 r l A (RV b1.w) g b2 (eval (.Lambda ps v sc c4) env) (uh P.tb e ps v sc):=by
 intro O B s bs Y a b S q;have he:=he.mono a b;unfold uh at q
 split at q
 .rename_i hc
  simp only[Bool.and_eq_true,decide_eq_true_eq,List.isEmpty_iff] at hc;(refine ac hc λc7 f1=>?_;clear hc;rcases c7 with⟨dt,ds⟩);(refine bc λno=>ac (k5.hd _ _ f1) λct bi=>ag bi λp c1=>ac c1 λhm bb=>no ?_;clear c1 bi no)
  cases cr:((sc.names.filter λp=>p.2== .free).reverse.mapM (gX e)) with
  |none=>
   have:(λp:Str×NameKind=>(e.cells.lookup p.1).map λc=>(p.1,c))=gX e:=rfl;simp only[this,cr] at q;exact nso q
  |some cl=>
   have:(λp:Str×NameKind=>(e.cells.lookup p.1).map λc=>(p.1,c))=gX e:=rfl;simp only[this,cr] at q;cases q;refine al (zx he.cells cr) λcx dV f3=>cD (S.tabs _ hm) λpt hp be d=>?_;have bl:=G.g.keeps S.ground;have N:b1.tab p:=⟨_,hm,rfl⟩;refine j2 k5.bm λc6 ob c5 cf b3 U y z cs=>?_;have k:s.heap.BuiltinsAt b7 p:=⟨c6,ob,c5,cf,b3,λq=>S.gt _ _ (S.base _ _ U) (q▸N),S.ground _ _ U,y,z,cs⟩;have ce:mainGlobals≠p:=λq=>by
    refine d0 G.g λo es ep e _=>S.gt _ _ (S.base _ _ e) (q▸N)
   have i:=he.code ct;have hd:defaultsOf ps env=([],[]):=by
    rcases ps with⟨p1,p2,p3,j,H,m,f⟩;simp only at dt ds;subst dt ds;rfl
   refine kla_eval hd ?_;refine rwm _ ?_ he.qual
   cases Q:codeAmong c4 pt.toList with
   |some bd=>
    (refine aq (d c4 bd Q) λc' D c3=>aw c3 λc2 w cd=>?_;clear c3;subst c2);refine kla_makeFunctionHit dV he.globals bl i (bb.keeps S.ground) hp be Q k λL b5 tk hk cp=>?_;have S1:=S.keep hk;exact⟨bs,Y++[b5.objs.size],_,rfl,⟨⟨_,tk,rfl⟩,.refl _,.app _ _⟩,S1.alloc (cV _) (λ_ _ e=>a3 _ e) rfl
     ⟨_,c',L,cx,D,ea _ rfl,w,cd,f3.mono (.app _ _)⟩,_,by refine rwl _ ?_ S.len;simp,rfl⟩
   |none=>
    refine kla_makeFunction dV he.globals bl i (bb.keeps S.ground) hp be Q ce k λc' L b5 tk hx E C M ht=>?_;(refine bc λno=>bH M λI D vs t cv=>bK cv λe2 bo c9 hv=>no ?_;clear cv M no);cases e2;refine ac (S.filed k5.uniq hm hp hx E bo ⟨vs,t,c9,hv⟩ ht) λup S1=>⟨_,Y++[b5.objs.size],_,rfl,⟨⟨_,tk,rfl⟩,up,.app _ _⟩,S1.alloc (cV _) (λ_ _ e=>a3 _ e) rfl
     ⟨_,c',L,cx,D,ea _ rfl,eS _ _ _,⟨vs,t,c9,hv⟩,f3.mono (.app _ _)⟩,_,by refine rwl _ ?_ S.len;simp,rfl⟩
 .exact nso q
structure uQ (K:Frag) (cx:Cx) (P:bt):Prop where
 X:K.In cx.B
 init:∀C g,P.init C=some g->makesIn K C=true/\findIn K (.ref C) "__init__"=some (some (.ref g))/\typeIn K (.ref g)=some (.type "function")
 fns:∀a fi,P.fns a=some fi->∃o fd,oW cx a fi o fd
theorem zy{f:Nat->MM β}{O:af}{B:Except Addr β×af}(h:bm (new Q) f O=some B):f O.length (O++[Q])=some B:=h
theorem Rg.under(hR:Rm A l (n+1))(C:Addr)(j:List Value):Rg (A.under (.builtin "type.__call__" ⟨.ref C::j,[]⟩)) l n:=
 ⟨hR.handled,hR.frames,by refine(?_:A.depth+1+1+2*n<=998);have:=hR.depth;exact ET this,by refine(?_:A.units+1+3+8*n<=9800);have:=hR.units;exact EU this⟩
theorem St.lone_dead(S:St b1 r g b2 l O h){ob:Obj}(hi:O[i]? =some Q)(hf:isFz Q=false)(ha:b2[i]? =some a)(ho:h.get? a=some ob)(hc:ob.cls≠ .type "frame"):
  St b1 r g b2 l (O.set i .dead) h/\aD b1 r g b2 l (O.set i .dead) a:=by
 refine bc λno=>aw (S.free i Q a hi ha hf) λf1 f2 v=>no (⟨S.fz ha rfl trivial,f1,f2,v,λj f e1 e2=>?_,λe he q=>?_⟩)
 ·(refine bc λno=>a2 (ia e1) (λzz=>aw zz λ_ y _=>no ?_) (λzz=>ac zz λq e1=>no ?_)<;>clear zz no)
  .subst y;rfl
  .cases z:isFz f with
   |true=>rfl
   |false=>exact absurd (S.nd j i _ _ a e1 hi z hf e2 ha) q
 ·(refine bc λno=>ac (S.frs e he) λ_ M=>aq M λL o' D=>bK D λe1 e2 e3 _=>no ?_;clear D M no);rw[q] at e1;cases e1;rw[ho] at e2;cases e2;exact hc e3
theorem aD.set(L:aD b1 r g b2 l O a)(hf:isFz Q=true):aD b1 r g b2 l (O.set i Q) a:=
 ⟨L.1,L.2.1,L.2.2.1,λj f e1 e2=>by
  (refine bc λno=>a2 (ia e1) (λzz=>aw zz λ_ y _=>no ?_) (λzz=>ac zz λq e1=>no ?_)<;>clear zz no)
  .subst y;exact hf
  .exact L.2.2.2.1 j f e1 e2,L.2.2.2.2⟩
theorem aD.upd(L:aD b1 r g b2 l O a)(z:a≠b):aD b1 r (Internal.upd g b o) b2 l O a:=
 ⟨by unfold Internal.upd;refine a0 (hX z) ?_;exact L.1,L.2⟩
theorem St.holdL(S:St b1 r g b2 l O h)(L:aD b1 r g b2 l O a)(ho:h.get? a=some o):St b1 r (upd g a o) b2 l O h:=
 S.hold ho L.1 L.2.1 L.2.2.1 (λe he q=>L.2.2.2.2 e he q) L.2.2.2.1
theorem zA:∀{fs:List (Str×V)}{ts:List (Str×T)},qH fs=some ts->fs=ts.map λp=>(p.1,V.t p.2)
 |[],ts,h=>by cases h;rfl
 |(k,.t t)::r,ts,h=>by
  (refine ag (Option.map_eq_some_iff.mp h) λC c1=>ac c1 λe1 bo=>?_;clear c1;subst bo);refine rwm _ ?_ (zA e1);rfl
 |(k,.own i)::r,ts,h=>by exact nso h
theorem FR.unT:∀{ts:List (Str×T)}{m:Str->Option Value},FR (VR w g b2) (ts.map λp=>(p.1,V.t p.2)) m->FR (TR w g) ts m
 |[],_,_=>trivial
 |(k,t)::ts,m,⟨h1,h2⟩=>⟨h1,FR.unT h2⟩
theorem HI(S:St b1 r g b2 l O h){C d i k:Addr}{fs:List (Str×V)}(hd:O[d]? =some (.idt fs))(hi:O[i]? =some (.inst C d)){ad y:Addr}(j:b2[d]? =some ad)(b:b2[i]? =some y){B:Except Addr V×af}(q:qI C d i k fs O=some B):
  ∃v M b6 b4,B=(.ok v,M)/\aZ g b6/\St b1 r b6 b4 l M h/\VR b1.w b6 b4 v (.ref y)/\bu (b2.take k) b4:=by
 refine tm (S.own _ _ _ hd j) λes ep m ho hn hf hz p cp=>al (S.own _ _ _ hi b) λL w o=>?_;rw[j] at w;cases w;have ct:ad≠y:=λq=>by subst q;rw[ho] at o;cases o
 refine ac (S.lone_dead hd rfl j ho (by simp)) λS1 L1=>?_;have c:d≠i:=λq=>by subst q;rw[j] at b;cases b;exact ct rfl
 have G:(O.set d .dead)[i]? =some (.inst C d):=by refine a0 (p5 c) ?_;exact hi
 refine ac (S1.lone_dead G rfl b o (by simp)) λS2 t=>?_;have E:=L1.set (i:=i) (Q:= .dead) rfl;have S3:=S2.holdL E ho;have up1:=aZ.upd (⟨.type "dict",.none,.dict es ep,#[]⟩:Obj) L1.1;have z:aD b1 r (upd g ad ⟨.type "dict",.none,.dict es ep,#[]⟩) b2 l ((O.set d .dead).set i .dead) y:=t.upd (λq=>ct q.symm);have S4:=S3.holdL z o;have D:=aZ.upd (⟨.ref C,some ad,.plain,#[]⟩:Obj) z.1;have up:=up1.trans D;have H:(upd (upd g ad ⟨.type "dict",.none,.dict es ep,#[]⟩) y ⟨.ref C,some ad,.plain,#[]⟩) y=some ⟨.ref C,some ad,.plain,#[]⟩:=eS _ _ _;have I:=D _ _ (eS g ad (⟨.type "dict",.none,.dict es ep,#[]⟩:Obj));unfold qI at q
 cases f:qH fs with
 |some ts=>
  rw[f] at q;cases q;have e:=zA f;clear hd p cp;subst e;refine cD (S4.trunc k) λb4 S5 h1 h2=>⟨_,_,_,b4,rfl,up,S5,?_,h1⟩;exact⟨y,ad,_,m,rfl,H,I,hn,tQ.mpr ((FR.unT hf).mono' (TR.mono up)),λx hx=>hz x (by simpa using hx)⟩
 |none=>
  rw[f] at q;cases q;have S5:St b1 r _ b2 l (((O.set d .dead).set i .dead).set i (.sh C fs)) h:=S4.fz b rfl ⟨ad,_,m,H,I,hn,hf.mono' (VR.mono up (.refl _)),hz⟩;rw[List.set_set] at S5;exact⟨_,_,_,b2,rfl,up,S5,⟨y,b,rfl⟩,λi a e=>(fU e).2⟩
theorem HJ{O:af}{B:Except Addr V×af}(q:yv C d i n f O=some B):∃fs,f= .t .none/\O[d]? =some (.idt fs)/\O[i]? =some (.inst C d)/\qI C d i n fs O=some B:=by
 refine bY q λt q=>xV q λq=>al (dF q) λc hd q=>al (dF q) λb hi q=>?_;cases c<;>first|exact nso q|skip
 cases b<;>first|exact nso q|skip
 refine ac (cL q) λhc q1=>?_;clear q;cases hc.1;clear q;cases hc.2;exact⟨_,rfl,hd,hi,q1⟩
theorem HK(G:Gl b1 P b7 mb)(k6:uQ K b1 P)(d:∃o,b1.B.get? sysModules=some o)(S:aL J b1 n rc)(hR:Rm A l (n+1))(hC:P.init C=some t)(hv:LR (VR b1.w g b2) be U){B:Except Addr V×af}{s:Shared}
  (S0:St b1 r g b2 l O s.heap)(q:uo P rc C t be O=some B):
  codeAny (model J b1.w) A (.call (.ref C) ⟨U,[]⟩) (RQ b1 r l s g b2 B) s:=by
 (refine bc λno=>aw (k6.init C t hC) λk1 k2 k3=>no ?_;clear no);unfold uo at q
 cases i:P.fns t with
 |none=>rw[i] at q;exact nso q
 |some fi=>
 rw[i] at q;dsimp only at q;(refine bc λno=>aq (k6.fns _ _ i) λo fd F=>no ?_;clear no);rcases s with⟨hh,gn,dr,tk,os⟩;have X:=k6.X.keeps S0.ground;refine make_core (makes_of X k1) (looks_findIn X k2) (λself=>bind_fn X self k3) (.inl rfl) ?_;have q:=zy q;have q:=zy q;have bb:=S0.len;have z1:(⟨hh,gn,dr,tk,os⟩:Shared).heap=hh:=rfl;rw[z1] at S0;have S1:St b1 r g (b2++[hh.objs.size]) l (O++[.idt []]) (hh.push emptyDict):=S0.alloc (cV _) (λ_ _ e=>a3 _ e) rfl
  ⟨#[],0,λ_=>none,ea _ rfl,⟨#[],0,rfl,λ_ he=>by simp at he,λ_=>rfl⟩,trivial,λ_ _=>rfl,by simp,by simp⟩
 have cp:(hh.push emptyDict).objs.size=hh.objs.size+1:=Heap.size_push ..;have S2:St b1 r g ((b2++[hh.objs.size])++[hh.objs.size+1]) l ((O++[.idt []])++[.inst C O.length]) ((hh.push emptyDict).push (instObj C hh.objs.size)):=by
  refine rwl _ ?_ cp;exact S1.alloc (cV _) (λ_ _ e=>a3 _ e) rfl ⟨hh.objs.size,by refine rwl _ ?_ bb;simp,ea _ rfl⟩
 have m:bu b2 ((b2++[hh.objs.size])++[hh.objs.size+1]):=(bu.app _ _).trans (.app _ _);have hid:((b2++[hh.objs.size])++[hh.objs.size+1])[O.length]? =some hh.objs.size:=by refine rwl _ ?_ bb;simp
 have k:((b2++[hh.objs.size])++[hh.objs.size+1])[(O++[MO.idt []]).length]? =some (hh.objs.size+1):=by simp [<-bb]
 have b:LR (VR b1.w g ((b2++[hh.objs.size])++[hh.objs.size+1])) (.own (O++[MO.idt []]).length::be) (.ref (hh.objs.size+1)::U):= .cons ⟨_,k,rfl⟩ (hv.up (.refl _) m);(refine a2 (ed q) (λzz=>?_) (λzz=>?_);refine aq zz λf cr bi=>ac bi λe3 q=>?_;clear bi;rotate_left;refine aq zz λc cr bi=>ac bi λe3 bo=>?_;clear bi;clear zz;subst bo;rotate_right)
 .refine ov (uN G S (Rg.under hR C U) F b S2 e3) λrr s' z=>?_;rcases rr with x|(_|_|_|x)
  .refine cT z λ_ _ _ _ e4 _=>oee e4
  .exact z
  .exact z
  .exact z
  ·(refine ch z λc5 bl H e4 p S3 E=>?_;clear z);(have za:=oke e4;clear e4;cases za);(refine ag (HJ q) λfs c3=>bK c3 λc2 hd hi q1=>?_;clear c3;clear q;subst c2);have hx:=E;refine⟨hx,?_⟩;(refine bH (HI S3 hd hi (p.2.2 _ _ hid) (p.2.2 _ _ k) q1) λv M c9 N cd=>bS cd λc2 hg S4 w hr=>?_;clear cd;clear zz q1 q;subst c2);(refine aw p λD p2 p3=>?_;clear p;rcases D with⟨h4,y,rfl⟩);refine⟨c9,N,v,rfl,⟨⟨h4,y,rfl⟩,p2.trans hg,?_⟩,S4,w⟩;intro j a hj;exact hr j a (jB (by refine rwl _ ?_ bb;exact(List.getElem?_eq_some_iff.mp hj).1) (p3 j a (m j a hj)))
 .refine ov (uN G S (Rg.under hR C U) F b S2 e3) λrr s' z=>?_;rcases rr with x|(_|_|_|x)
  ·(refine bc λno=>bH z λc5 bl c' ex cv=>bK cv λe4 p S3 z=>no ?_;clear cv no);(have za:=ere e4;clear e4;cases za);(refine aw p λD p2 p3=>?_;clear p;rcases D with⟨h4,y,rfl⟩);exact⟨c5,bl,_,ex,rfl,⟨⟨h4,y,rfl⟩,p2,m.trans p3⟩,S3,z⟩
  .exact z
  .exact z
  .exact z
  .refine d0 z λ_ _ _ e4 _=>eoe e4
theorem qV{m:MM α}{B:Except Addr α×af}(q:noErr m O=some B):∃a M,m O=some (.ok a,M)/\B=(.ok a,M):=by
 unfold noErr at q
 cases e:m O with
 |none=>rw[e] at q;exact nso q
 |some p=>
  rw[e] at q;clear e;rcases p with⟨a,M⟩
  cases a with
  |error c=>exact nso q
  |ok a=>exact⟨a,M,rfl,(ai q).symm⟩
set_option tactic.hygienic true in
theorem HL{m:MM Fl}(q:mW m k O=some (.ok fl,M)):(fl= .next/\∃c6,m O=some (.ok .next,c6)/\M=trunc k c6)\/(∃v,fl= .ret v/\m O=some (.ok (.ret v),M)):=by
 unfold mW at q
 cases e:m O with
 |none=>rw[e] at q;exact nso q
 |some p=>
  rw[e] at q;clear e;rcases p with⟨a,c6⟩
  cases a with
  |error c=>exact eop q
  |ok f=>
   cases f with
   |next=>
    refine ac (okp q) λe1 e2=> .inl ⟨e1.symm,c6,rfl,e2.symm⟩
   |ret v=>
    refine ac (okp q) λe1 e2=>?_;clear q;subst e2;exact .inr ⟨v,e1.symm,rfl⟩
theorem zB{R:Rl α β}{t:Sem β}{o:Obj}{s:Shared}{x:α}{Q:β->Shared->Prop}{E:Value->Shared->Prop}(hc:o.cls≠ .type "frame")(S:St b1 r g b2 l O s.heap)(L:aD b1 r g b2 l O a)(ho:s.heap.get? a=some o)
  (h:wpAny (model J b1.w) A t (PQ R b1 (upd r a o) l s g b2 (.ok x,M)) (PE b1 (upd r a o) l s g b2 ((.ok x,M):Except Addr α×af)) s)
  (m:∀y s' b6 b4,bk s g b2 s' b6 b4->St b1 r b6 b4 l M s'.heap->aD b1 r b6 b4 l M a->s'.heap.get? a=some o->R b6 b4 x y->Q y s'):wpAny (model J b1.w) A t Q E s:=by
 refine eb h (λy s' z=>?_) λy s' z=>?_
 ·(refine ch z λb6 b4 w e1 p H hR=>?_;clear z);(have za:=oke e1;clear e1;cases za);refine bc λno=>aw (H.release L.2.1 hc) λS1 L1 h1=>no (m y s' b6 b4 p S1 L1 h1 hR)
 .refine cT z λ_ _ _ _ e1 _=>oee e1
set_option backward.match.sparseCases true in
theorem HM{o:Obj}{Q:Unit->Shared->Prop}{E:Value->Shared->Prop}(ho:s.heap.get? I=some o)(hc:o.cls= .type H)(ht:H∈im)(hq:Q () s):wpAny (model J b1.w) A (letOwnedTupleGo target (.ref I) v) Q E s:=by
 have j:∀(v:Value),wpAny (model J b1.w) A (do
   let(.ref r,.ref a):=((.ref I:Value),v)|return()
   let o<-load r
   match o.cls,o.data with
   | .type n,.fields vs=>
    if ["enumerate","zip","dict_itemiterator","dict_reverseitemiterator","odict_iterator","itertools.zip_longest","itertools.pairwise"].contains n&&vs[0]? ==some (rawInt a) then
     rule "for.unpacks-the-owned-tuple"
     updateField r 0 .none
   |_,_=>pure ()) Q E s:=by
  intro v
  cases v with
  |ref a=>
   refine ae (ra ho ?_);refine rwm _ ?_ hc;cases hd:o.data<;>dsimp only<;>first|exact ar hq|skip
   have:(["enumerate","zip","dict_itemiterator","dict_reverseitemiterator","odict_iterator","itertools.zip_longest","itertools.pairwise"].contains H)=false:=by
    simp only[im,List.mem_cons,List.not_mem_nil,or_false] at ht;clear hc;rcases ht with rfl|rfl|rfl|rfl|rfl|rfl|rfl<;>decide
   refine rwm _ ?_ this;exact ar hq
  |_=>exact ar hq
 unfold letOwnedTupleGo;cases target<;>first|exact ar hq|exact j v
def zC(rc:aG)(e:AE)(tg:Expr)(j:List Stmt)(k:Nat)(t:T):MM Fl:=noErr (mW (bm (rc.as tg e (.t t)) λ_=>aR rc e j) k)
theorem bk.heap(k:bk s g b2 s' b6 b4)(b5:Heap)(tk:Tok):bk s g b2 {s' with heap:=b5,toks:=tk} b6 b4:=by
 (refine aw k λD a b=>?_;clear k;rcases D with⟨h,t,rfl⟩);exact⟨⟨b5,tk,rfl⟩,a,b⟩
inductive uR (cx:Cx) (r:ay) (l:List Env) (F:T->MM Fl) (xs:List T) (res:Except Addr Fl×af) (s₀:Shared) (g:ay) (ρ:List Addr) (I:Addr) (StW:Nat->Heap->Prop) (m:Nat) (s:Shared):Prop
 |mk (i:Nat) (O':af) (g':ay) (ρ':List Addr) (hm:m=xs.length - i) (hi:i<=xs.length) (q:dD F (xs.drop i) O'=some res) (p:bk s₀ g ρ s g' ρ') (S:St cx r g' ρ' l O' s.heap) (L:aD cx r g' ρ' l O' I) (hw:StW i s.heap):uR cx r l F xs res s₀ g ρ I StW m s
theorem zD(S:aL J b1 n rc)(hR:Rm A l n)(he:ER b1 l g b2 e env){o:Obj}{K:Flow->Shared->Prop}{E:Value->Shared->Prop}(k:o.cls≠ .type "frame")(tu:TR b1.w g u v)(S1:St b1 r g b2 l O s.heap)(L0:aD b1 r g b2 l O I)(ho:s.heap.get? I=some o)
  (e4:(bm (rc.as tg e (.t u)) λ_=>aR rc e j) O=some (.ok fl,b))
  (cl:∀f s' c5 bl,bk s g b2 s' c5 bl->St b1 r c5 bl l b s'.heap->aD b1 r c5 bl l b I->s'.heap.get? I=some o->RF b1.w c5 bl fl f->K f s'):
  wpAny (model J b1.w) A (assign tg env v) (λ_ cv=>wpAny (model J b1.w) A (execs j env) K E cv) E s:=by
 refine gW e4 (λC i e5 e4=>?_) λc i e5 z=>oee (pri z).1;refine zB k S1 L0 ho (S.as hR he tg (.t u) v tu O _ s g b2 (.refl _) (.refl _) (S1.reserve L0 ho) e5) λy s' c5 bl p2 S2 t h2 _=>zB k S2 t h2 (jA S hR j c5 bl (he.mono p2.2.1 p2.2.2) i _ s' c5 bl (.refl _) (.refl _) (S2.reserve t h2) e4) λf d c9 N p3 S3 D h3 hf=>cl f d c9 N (p2.trans p3) S3 D h3 hf
theorem HN{c5:ay}{s':Shared}(bb:b2.length=k)(p2:bk L g b2 s' c5 bl)(S2:St b1 r c5 bl l da s'.heap)(t:aD b1 r c5 bl l da I):
  ∃N,bk L g b2 s' c5 N/\St b1 r c5 N l (Internal.trunc k da) s'.heap/\aD b1 r c5 N l (Internal.trunc k da) I:=by
 refine cD (S2.trunc k) λN S3 h1 h2=>⟨N,⟨p2.1,p2.2.1,λj a hj=>h1 j a (jB (by refine rwl _ ?_ bb;exact(List.getElem?_eq_some_iff.mp hj).1) (p2.2.2 j a hj))⟩,S3,t.1,t.2.1,t.2.2.1,λj Q e5 e6=>?_,t.2.2.2.2⟩
 cases z:isFz Q with
 |true=>rfl
 |false=>
  have b:da[j]? =some Q:=by
   unfold Internal.trunc at e5
   split at e5
   .exact(fU e5).2
   .exact e5
  have:=t.2.2.2.1 j Q b (h2 _ _ e6);rw[this] at z;exact tff z
theorem HO(S:aL J b1 n rc)(hR:Rm A l n)(he:ER b1 l g b2 e env){d6:Nat->Heap->Prop}(it:It J b1 g U I d6){B:Except Addr Fl×af}
  (bb:b2.length=O.length)(m0:Nat)(Y:Shared)(G:uR b1 r l (zC rc e tg j O.length) U B L g b2 I d6 m0 Y):
   codeAny (model J b1.w) A (.forLoop tg (.ref I) j [] env) (λrr s'=>match rr with| .ok f=>PQ (RF b1.w) b1 r l L g b2 B f s'| .error _=>False) Y:=by
 refine b9 (it.walks A hR.handled) λfp Pn W wP g0=>codeAny_forLoop_any (uR b1 r l (zC rc e tg j O.length) U B L g b2 I d6) (λm s hI=>?_) m0 G;clear G;rcases hI with⟨i,M,b6,b4,hm,hi,q,p,S0,L0,hw⟩
 by_cases C:i<U.length
 .refine W.item i s _ _ C hw λv b5 tk hv d hk=>al (wP i v hv) λu hu tu=>?_;have hx:Heap.ExtBut I s.heap b5:=λb o hb e=>hk b o (by simpa using hb) e;have S1:=S0.extBut L0 hx;refine b9 (it.kind _ _ d) λo H ho hc c3=>HM ho hc c3 ?_;rw[List.getElem?_eq_getElem C] at hu;have hu:=ai hu;subst hu;rw[List.drop_eq_getElem_cons C] at q;have k:o.cls≠ .type "frame":=by
   refine rwm _ ?_ hc;intro z;clear hc;cases z;simp [im] at c3
  have p1:=p.heap b5 tk;have Q:∀(s':Shared)(c5:ay)(bl:List Addr)(da:af),St b1 r c5 bl l da s'.heap->aZ b6 c5->s'.heap.get? I=some o->d6 (i+1) s'.heap:=λs' c5 bl da S4 hg hI=>by
   refine W.frame (i+1) b5 s'.heap d λb hb ob e=>?_
   by_cases E:b=I
   .clear it;subst E;rw[ho] at e;cases e;exact hI
   .refine ag (g0 b hb E) λbs w=>?_;have h1:=S1.fr _ _ (p.2.1 _ _ w);rw[h1] at e;clear h1;cases e;exact S4.fr _ _ (hg _ _ (p.2.1 _ _ w))
  refine gW q (λfl c7 e1 q=>?_) λc c7 e1 _=>?_;rotate_left
  .refine cS (qV e1) λ_ _ _ z=>eoe (pri z).1
  refine cS (qV e1) λbd cr e2 e3=>ac (pri e3) λe8 e9=>?_;have e8:=oke e8;clear e3;subst e8 e9;have be:=he.mono p.2.1 p.2.2;have y:=TR.mono p.2.1 _ _ tu;(refine a2 (HL e2) (λzz=>?_) (λzz=>?_);refine ac zz λc2 bi=>?_;clear zz;subst c2;refine ag bi λda c1=>ac c1 λe4 bo=>?_;clear c1;subst bo;rotate_left;refine ag zz λv' c1=>ac c1 λc2 e4=>?_;clear c1;subst c2;rotate_right)
  .refine zD S hR be k y S1 L0 ho e4 λf s' c5 bl p2 S2 t h2 hf=>?_;cases f<;>first|exact hf.elim|skip
   refine cD (HN bb (p1.trans p2) S2 t) λN p3 S3 D=>⟨U.length - (i+1),xm hm C,i+1,_,c5,N,rfl,C,q,p3,S3,D,(Q _ _ _ _ S2 p2.2.1 h2)⟩
  .refine zD S hR be k y S1 L0 ho e4 λf s' c5 bl p2 S2 t h2 hf=>?_;cases f<;>first|exact hf.elim|skip
   have q:=ai q;subst q;exact⟨c5,bl,_,rfl,p1.trans p2,S2,hf⟩
 .have c6:=Nat.le_of_not_lt C|>Nat.le_antisymm hi
  clear hm hi C;subst c6;refine W.done s _ _ hw λb5 tk hk=>?_;rw[List.drop_length] at q;have q:=ai q;subst q;have hx:Heap.ExtBut I s.heap b5:=λb o hb e=>hk b o (by simpa using hb) e;exact ar ⟨b6,b4,_,rfl,p.heap b5 tk,S0.extBut L0 hx,trivial⟩
theorem zE(h:ie it=true)(x:Value):foldedSetIterable it env x=pure x:=by
 cases it<;>first|rfl|(first|exact ftf h|cases h)
theorem HP(S:aL J b1 n rc)(hR:Rm A l n)(he:ER b1 l g b2 e env)(tg it:Expr)(j i:List Stmt)(c4:Pos):
  aa J b1 r l A (RF b1.w) g b2 (exec (.For tg it j i c4) env) (match i with
  |[]=>if ie it then bm (rc.ev it e) λx=>bm (fr x) λt=>bm (om (d7 t)) λU=>uk rc e tg j U else λ_=>none
  |_::_=>λ_=>none):=by
 cases i with
 |cons a b=>exact aa.none
 |nil=>
  by_cases hs:ie it=true
  .rw[if_pos hs,exec_For];refine aa.standAt (aa.bind (S.ev hR he it) λbs Y v x hg hr hv=>aa.eqT (by rw[zE hs]) ?_);refine aa.eqT (pure_bind _ _) (aa.standAt (aa.freeze hv λc5 bl t d m ht=>?_));intro O B s c9 N a b S0 q;refine al (dG q) λU de q=>ae (hy (y6 hR.handled S0 (TR.mono a _ _ ht) de λo d6 k c2 d5 cp=>?_));have hn:=cV s.heap;have S1:St b1 r c9 N l O (s.heap.push o):=S0.keep λ_ _ e=>a3 _ e;have L1:=S0.lone_new hn;refine wpAny_runOwn ?_;have hA:A.mark none=A:=by cases A;rfl
   refine rwm _ ?_ hA;refine ov (HO S hR (((he.mono hg hr).mono d m).mono a b) d5 S0.len _ {s with heap:=s.heap.push o} ⟨0,O,c9,N,rfl,i1 _,by refine rwm _ ?_ List.drop_zero;exact q,⟨⟨s.heap.push o,s.toks,rfl⟩,.refl _,.refl _⟩,S1,L1,cp⟩) λrr s' z=>?_
   cases rr with
   |ok f=>exact z
   |error x=>exact z.elim
  .refine rwm _ ?_ (hX hs);exact aa.none
theorem aa.noErr{R:Rl α β}{t:Sem β}{m:MM α}(h:aa J b1 r l A R g b2 t m):aa J b1 r l A R g b2 t (noErr m):=λO B s bs Y a b S q=>by
 refine cS (qV q) λx c6 e1 e2=>?_;clear q;subst e2;exact h O _ s bs Y a b S e1
theorem zF{γ:Type}{m:MM α}{f:α->MM γ}{B:Except Addr γ×af}(q:bm (noErr m) f O=some B)(hc:B.1= .error c)(hf:∀a c6 B,f a c6=some B->B.1≠ .error c):False:=by
 refine gW q (λa c6 _ e2=>hf a c6 B e2 hc) λc' c6 e1 _=>cS (qV e1) λ_ _ _ z=>eoe (pri z).1
set_option tactic.hygienic true in
theorem zG:∀(k:Nat)(O:af)(B:Except Addr Fl×af),iR rc e c j k O=some B->∀x,B.1≠ .error x
 |0,O,B,q,x=>nso q
 |k+1,O,B,q,x=>λhx=>by
  refine zF (m:=rc.test c e) q hx λb c6 B q hx=>?_
  cases b with
  |false=>have q:=ai q;subst q;exact oee hx
  |true=>
   refine zF q hx λfl c6 B q hx=>?_
   cases fl with
   |next=>exact zG k c6 B q x hx
   |ret v=>have q:=ai q;subst q;exact oee hx
set_option tactic.hygienic true in
theorem HQ(S:aL J b1 n rc)(hR:Rm A l n)(he:ER b1 l g b2 e env){B:Except Addr Fl×af}(k:Nat)(s:Shared)(M:af)(b6:ay)(b4:List Addr)(q:iR rc e c j k M=some B)(p:bk L g b2 s b6 b4)(S0:St b1 r b6 b4 l M s.heap):
   codeAny (model J b1.w) A (.whileLoop c j [] env) (λrr s'=>match rr with| .ok f=>PQ (RF b1.w) b1 r l L g b2 B f s'| .error _=>False) s:=by
 have f4:=zG k M B q;refine codeAny_whileLoop (λk s=>∃(M:af)(b6:ay)(b4:List Addr),iR rc e c j k M=some B/\bk L g b2 s b6 b4/\St b1 r b6 b4 l M s.heap) (λk s hI=>?_) k ⟨M,b6,b4,q,p,S0⟩;clear q p S0;(refine h9 hI λM b6 b4 q p S0=>?_;clear hI);have ke:∀{P:Value->Shared->Prop}{s':Shared}{b6:ay}{b4:List Addr} x d,PE b1 r l s' b6 b4 B x d->P x d:=λx d z=>by
  refine cT z λ_ _ c' _ h _=>absurd h (f4 c')
 cases k with
 |zero=>exact nso q
 |succ k=>
  have be:=he.mono p.2.1 p.2.2;refine aa.run (S.test hR be c).noErr S0 q (λb G c6 cf bs Y q p1 S1 hb=>?_) ke;have hb:=hb;subst hb
  cases b with
  |false=>
   have q:=ai q;clear f4;subst q;exact ar ⟨bs,Y,_,rfl,p.trans p1,S1,trivial⟩
  |true=>
   show wpAny _ _ (execs j env) _ _ _;refine aa.run (jA S hR j bs Y (be.mono p1.2.1 p1.2.2)).noErr S1 q (λfl f cr cv c5 bl q p2 S2 hf=>?_) ke
   cases fl with
   |next=>
    cases f<;>first|exact hf.elim|skip
    exact⟨k,Nat.lt_succ_self _,cr,c5,bl,q,(p.trans p1).trans p2,S2⟩
   |ret v=>
    cases f<;>first|exact hf.elim|skip
    have q:=ai q;clear f4 ke;subst q;exact⟨c5,bl,_,rfl,(p.trans p1).trans p2,S2,hf⟩
theorem HS(S:aL J b1 n rc)(hR:Rm A l n)(he:ER b1 l g b2 e env)(c:Expr)(j i:List Stmt)(c4:Pos):
  aa J b1 r l A (RF b1.w) g b2 (exec (.While c j i c4) env) (match i with
  |[]=>iR rc e c j 80
  |_::_=>λ_=>none):=by
 cases i with
 |cons a b=>exact aa.none
 |nil=>
  intro O B s bs Y a b S0 q;refine wpAny_While (ov (HQ S hR (he.mono a b) 80 s O bs Y q (.refl _ _ _) S0) λrr s' z=>?_)
  cases rr with
  |ok f=>exact z
  |error x=>exact z.elim
theorem zH:∀(ns:List Str)(ts:List T)(vs:List Value)(g:ay)(b2:List Addr),ER b1 l g b2 e env->TRs b1.w g ts vs->
  aa J b1 r l A (RU (α:=Unit) (β:=Unit)) g b2 (assignInOrder (ns.map λn=>bindName env n) vs) (kn e ns ts)
 |[],ts,vs,g,b2,he,ht=>by
  cases ts with
  |nil=>exact aa.pure λ_ _ _ _=>trivial
  |cons a b=>exact aa.none
 |x::ns,ts,vs,g,b2,he,ht=>by
  cases ts with
  |nil=>exact aa.none
  |cons t ts=>
   (refine aq ht λy rr c3=>aw c3 λc2 h1 h2=>?_;clear c3;clear ht;subst c2);show aa J b1 r l A _ g b2 (do holding rr (bindName env x y);assignInOrder (ns.map λn=>bindName env n) rr) (bm (jq e x (.t t)) λ_=>kn e ns ts);exact aa.bind (aa.holding (aa.bindName (uE he x (v:= .t t) h1))) λbs Y _ _ hg hr _=>zH ns ts rr bs Y (he.mono hg hr) (TRs.mono hg _ _ h2)
theorem TRs.rev:∀{ts:List T}{vs:List Value},TRs b1.w g ts vs->TRs b1.w g ts.reverse vs.reverse
 |[],vs,h=>by subst h;rfl
 |t::ts,vs,h=>by
  (refine aq h λy rr c3=>aw c3 λc2 h1 h2=>?_;clear c3;clear h;subst c2);refine rwm _ (rwm _ ?_ List.reverse_cons) List.reverse_cons;exact(TRs.rev h2).app (by exact⟨y,[],rfl,h1,rfl⟩)
theorem qW{γ:Type}{b:Bool}{x:Option (Option γ)}{y:Sem (Option γ)}{o:Option γ}(h:(if b then some none else x)=some o)(k:x=some o->y=pure o):(if b then pure none else y)=(pure o:Sem (Option γ)):=by
 cases b with
 |true=>rw[if_pos rfl] at h⊢;exact fN (P:=λo=>pure none=(pure o:Sem (Option γ))) h rfl
 |false=>rw[if_neg Bool.false_ne_true] at h⊢;exact k h
theorem HT{γ:Type}{c5 b cf b3 U y:Bool}{n:γ}{u:Sem (Option γ)}{o:Option γ}(hb:b=c5)(h:(if c5 then some none else if cf then some none else if b3 then some none else if U then some none else if y then none else some (some n))=some o):
  (if b then pure none else if cf then pure none else if b3 then pure none else if U then pure none else if y then u else pure (some n))=(pure o:Sem (Option γ)):=by
 subst hb;refine qW h λh=>qW h λh=>qW h λh=>qW h λh=>ac (mO h) λh5 h=>?_;refine a0 (hX h5) ?_;exact fN (P:=λo=>pure (some n)=(pure o:Sem (Option γ))) h rfl
theorem zI{γ:Type}{t:Sem (Option γ)}{o:Option γ}(h:some none=some o)(e:t=pure none):t=pure o:=by
 have h:=ai h;subst h;exact e
set_option tactic.hygienic true in
set_option backward.match.sparseCases true in
theorem zJ(he:ER b1 l g b2 e env)(tg x:Expr)(h:fS e tg x=some o):swappedStores [tg] x env=pure o:=by
 have h1:=he.scope;have h2:=he.kind;clear he;rcases env with⟨sc,q1,q2,q3,q4,q5,q6,q7,q8⟩;have h1:sc=e.scope:=h1;subst h1;cases tg<;>first|exact zI h rfl|exact nso h|skip
 rename_i ts a b
 cases x<;>first|exact zI h rfl|skip
 rename_i vs c d
 exact HT (by refine rwm _ ?_ (show Env.blockKind _=ScopeKind.function from by unfold Env.blockKind;refine rwm _ ?_ h2;rfl);exact Bool.or_false _) h
theorem aD.trunc(L:aD b1 r g b2 l O a)(hr:bu bl b2):aD b1 r g bl l (Internal.trunc k O) a:=by
 refine⟨L.1,L.2.1,L.2.2.1,λj Q e5 e6=>?_,L.2.2.2.2⟩;have b:O[j]? =some Q:=by
  unfold Internal.trunc at e5
  split at e5
  .exact(fU e5).2
  .exact e5
 exact L.2.2.2.1 j Q b (hr _ _ e6)
theorem aD.updR(L:aD b1 r g b2 l O a)(z:a≠b):aD b1 (Internal.upd r b o) g b2 l O a:=
 ⟨L.1,by unfold Internal.upd;refine a0 (hX z) ?_;exact L.2.1,L.2.2⟩
theorem aD.unR(L:aD b1 (Internal.upd r b o) g b2 l O a):aD b1 r g b2 l O a:=⟨L.1,(oS L.2.1).2,L.2.2⟩
theorem zK{R:Rl α β}{t:Sem β}{o:Obj}{B:Except Addr α×af}{Q:β->Shared->Prop}{E:Value->Shared->Prop}(hc:o.cls≠ .type "frame")(L:aD b1 r g b2 l O a)
  (h:wpAny (model J b1.w) A t (PQ R b1 (upd r a o) l s g b2 B) (PE b1 (upd r a o) l s g b2 B) s)
  (m:∀x y s' b6 b4,B.1= .ok x->bk s g b2 s' b6 b4->St b1 r b6 b4 l B.2 s'.heap->aD b1 r b6 b4 l B.2 a->s'.heap.get? a=some o->R b6 b4 x y->Q y s')
  (hE:∀c x s' b6 b4,B.1= .error c->bk s g b2 s' b6 b4->St b1 r b6 b4 l B.2 s'.heap->aD b1 r b6 b4 l B.2 a->s'.heap.get? a=some o->dg b1 r b6 b4 l B.2 s'.heap c x->E (.ref x) s'):wpAny (model J b1.w) A t Q E s:=by
 refine eb h (λy s' z=>?_) λy s' z=>?_
 ·(refine ch z λb6 b4 w e1 p H hR=>?_;clear z);refine bc λno=>aw (H.release L.2.1 hc) λS1 L1 h1=>no (m w y s' b6 b4 e1 p S1 L1 h1 hR)
 ·(refine bH z λb6 b4 c ex cd=>bS cd λe1 p H bo X=>?_;clear cd;clear z;subst bo);refine bc λno=>aw (H.release L.2.1 hc) λS1 L1 h1=>no (hE c ex s' b6 b4 e1 p S1 L1 h1 X.release)
theorem zM{R:Rl α β}{t:Sem β}{o ob:Obj}{s:Shared}{B:Except Addr α×af}{Q:β->Shared->Prop}{E:Value->Shared->Prop}(z:b≠a)(hc:o.cls≠ .type "frame")(i:ob.cls≠ .type "frame")
  (S:St b1 r g b2 l O s.heap)(L:aD b1 r g b2 l O a)(d:aD b1 r g b2 l O b)(ho:s.heap.get? a=some o)(w:s.heap.get? b=some ob)
  (h:∀r',St b1 r' g b2 l O s.heap->wpAny (model J b1.w) A t (PQ R b1 r' l s g b2 B) (PE b1 r' l s g b2 B) s)
  (m:∀x y s' b6 b4,B.1= .ok x->bk s g b2 s' b6 b4->St b1 r b6 b4 l B.2 s'.heap->aD b1 r b6 b4 l B.2 a->aD b1 r b6 b4 l B.2 b->s'.heap.get? a=some o->s'.heap.get? b=some ob->R b6 b4 x y->Q y s')
  (hE:∀c x s' b6 b4,B.1= .error c->bk s g b2 s' b6 b4->St b1 r b6 b4 l B.2 s'.heap->aD b1 r b6 b4 l B.2 a->aD b1 r b6 b4 l B.2 b->s'.heap.get? a=some o->s'.heap.get? b=some ob->dg b1 r b6 b4 l B.2 s'.heap c x->E (.ref x) s'):wpAny (model J b1.w) A t Q E s:=by
 have S1:=S.reserve L ho;have f:aD b1 (upd r a o) g b2 l O b:=d.updR z;refine zK i f (h _ (S1.reserve f w)) (λx y s' b6 b4 e1 p S3 D h3 hR=>?_) λc x s' b6 b4 e1 p S3 D h3 X=>?_
 .refine bc λno=>aw (S3.release L.2.1 hc) λS4 I h4=>no (m x y s' b6 b4 e1 p S4 I D.unR h4 h3 hR)
 .refine bc λno=>aw (S3.release L.2.1 hc) λS4 I h4=>no (hE c x s' b6 b4 e1 p S4 I D.unR h4 h3 X.release)
theorem uS{R:Rl α β}{t:Sem β}{m:MM α}{f:α->MM γ}{o ob:Obj}{s:Shared}{B:Except Addr γ×af}{Q:β->Shared->Prop}{E:Value->Shared->Prop}(z:b≠a)(hc:o.cls≠ .type "frame")(i:ob.cls≠ .type "frame")
  (S:St b1 r g b2 l O s.heap)(L:aD b1 r g b2 l O a)(d:aD b1 r g b2 l O b)(ho:s.heap.get? a=some o)(w:s.heap.get? b=some ob)(h:∀r',aa J b1 r' l A R g b2 t m)(q:bm m f O=some B)
  (k:∀x y c6 s' b6 b4,f x c6=some B->bk s g b2 s' b6 b4->St b1 r b6 b4 l c6 s'.heap->aD b1 r b6 b4 l c6 a->aD b1 r b6 b4 l c6 b->s'.heap.get? a=some o->s'.heap.get? b=some ob->R b6 b4 x y->Q y s')
  (ke:∀c x s' b6 b4,B.1= .error c->bk s g b2 s' b6 b4->St b1 r b6 b4 l B.2 s'.heap->dg b1 r b6 b4 l B.2 s'.heap c x->E (.ref x) s'):wpAny (model J b1.w) A t Q E s:=by
 refine gW q (λx c6 e1 e2=>?_) λc c6 e1 e2=>?_<;>refine zM z hc i S L d ho w (λr' H=>h r' O _ s g b2 (.refl _) (.refl _) H e1) (λx y s' b6 b4 e3 p H D d h1 h2 hR=>?_) λc x s' b6 b4 e3 p H D d h1 h2 X=>?_
 .have e3:=oke e3;subst e3;exact k _ y c6 s' b6 b4 e2 p H D d h1 h2 hR
 .exact oee e3
 .exact eoe e3
 .have e3:=ere e3;subst e3 e2;exact ke _ x s' b6 b4 rfl p H X
theorem zN:∀(bi:List Expr),(forIn bi false λc r=>if r=true then do let L<-isTrue c env (eval c env);pure (ForInStep.yield L) else pure (ForInStep.yield r):Sem Bool)=pure false
 |[]=>by exact rwm _ rfl sq
 |a::bi=>by
  rw[List.forIn_cons,if_neg (by decide),pure_bind];exact zN bi
theorem zO(S:aL J b1 n rc)(hR:Rm A l n):∀(bi:List Expr)(g:ay)(b2:List Addr),ER b1 l g b2 e env->
  aa J b1 r l A RB g b2 (forIn bi true λc r=>if r=true then do let L<-isTrue c env (eval c env);pure (ForInStep.yield L) else pure (ForInStep.yield r)) (oM rc e bi)
 |[],g,b2,he=>by refine rwm _ ?_ sq;exact aa.pure λ_ _ _ _=>rfl
 |a::bi,g,b2,he=>by
  rw[List.forIn_cons,if_pos rfl];refine aa.eqT (bind_assoc _ _ _) (aa.bind (S.test hR he a) λbs Y b G hg hr hb=>?_);have hb:=hb;subst hb;refine aa.eqT (pure_bind _ _) ?_
  cases b with
  |true=>exact zO S hR bi bs Y (he.mono hg hr)
  |false=>
   exact aa.eqT (zN bi) (aa.pure λ_ _ _ _=>rfl)
end
section
variable {J:Program}{b1:Cx}{r g b6:ay}{b2 b4:List Addr}{l:List Env}{A:Around}{α β γ δ:Type}{P:bt}{b7 mb:Str->Option Value}{n:Nat}{rc:aG}{e ce:AE}{env bd:Env}{O:af}{h b5:Heap}{s:Shared}{K:Frag}
noncomputable abbrev dH(ys:Array Value)(ep:Nat):Obj:=⟨.type "list",.none,.seq ys ep,#[]⟩
def uU(b1:Cx)(r:ay)(l:List Env)(L:Shared)(g:ay)(b2:List Addr)(D:Addr)(y:Except Addr (List T)×af)(rr:Result)(s':Shared):Prop:=match rr with
 | .ok _=>∃b6 b4 be ys ep,y.1= .ok be/\bk L g b2 s' b6 b4/\St b1 r b6 b4 l y.2 s'.heap/\aD b1 r b6 b4 l y.2 D/\s'.heap.get? D=some (dH ys ep)/\TRs b1.w b6 be ys.toList
 | .error x=>∃b6 b4 c ex,y.1= .error c/\x= .ref ex/\bk L g b2 s' b6 b4/\St b1 r b6 b4 l y.2 s'.heap/\XN b1 r b6 b4 l y.2 s'.heap c ex
theorem HU(hR:Rm A l n)(he:ER b1 l g b2 e env){b6:ay}{y:Except Addr (List T)×af}(p:bk L g b2 s b6 b4)(hc:y.1= .error c)(S:St b1 r b6 b4 l y.2 s.heap)(X:dg b1 r b6 b4 l y.2 s.heap c ex):
  notedBy (model J b1.w) A env (λx s'=>uU b1 r l L g b2 D y (.error x) s') (.ref ex) s:=by
 refine al he.frame λe' be d=>?_;refine bc λno=>ac (S.frs e' be) λ_ c3=>aq c3 λf _ bi=>ac bi λhf _=>no (uG hR.frames (d▸hf) he.frame S X λb5 H I=>⟨b6,b4,c,ex,hc,rfl,p.heap b5 s.toks,H,I⟩)
theorem HV{f:T->MM (Option T)}{U be:List T}:bZ f (t::U) be=bm (f t) λx=>match x with
  |some y=>if aJ be.length then bZ f U (be++[y]) else λ_=>none
  |none=>bZ f U be:=rfl
inductive uV (cx:Cx) (r:ay) (l:List Env) (F:T->MM (Option T)) (xs:List T) (cr:Except Addr (List T)×af) (s₀:Shared) (g:ay) (ρ:List Addr) (I D:Addr) (StW:Nat->Heap->Prop) (m:Nat) (s:Shared):Prop
 |mk (i:Nat) (acc:List T) (O':af) (g':ay) (ρ':List Addr) (ys:Array Value) (ep:Nat) (hm:m=xs.length - i) (hi:i<=xs.length) (q:bZ F (xs.drop i) acc O'=some cr) (p:bk s₀ g ρ s g' ρ')
   (S:St cx r g' ρ' l O' s.heap) (LI:aD cx r g' ρ' l O' I) (LD:aD cx r g' ρ' l O' D) (hD:s.heap.get? D=some (dH ys ep)) (ha:TRs cx.w g' acc ys.toList) (hw:StW i s.heap):uV cx r l F xs cr s₀ g ρ I D StW m s
theorem HW(S:aL J b1 n rc)(hR:Rm A l n)(he:ER b1 l g b2 ce bd){o:Obj}{ys:Array Value}{y:Except Addr (List T)×af}{E:Value->Shared->Prop}{G:Shared->Prop}(ct:D≠I)(k:o.cls≠ .type "frame")
  (tu:TR b1.w g u v)(S0:St b1 r g b2 l O s.heap)(LI:aD b1 r g b2 l O I)(LD:aD b1 r g b2 l O D)(hI:s.heap.get? I=some o)(hD:s.heap.get? D=some (dH ys ep))(d3:TRs b1.w g be ys.toList)
  (q:bZ (dE rc ce Q (.Name x px) bi) (u::U) be O=some y)
  (kG:∀be M s' b6 b4 ys ep,bZ (dE rc ce Q (.Name x px) bi) U be M=some y->bk s g b2 s' b6 b4->St b1 r b6 b4 l M s'.heap->aD b1 r b6 b4 l M I->aD b1 r b6 b4 l M D->s'.heap.get? I=some o->s'.heap.get? D=some (dH ys ep)->TRs b1.w b6 be ys.toList->G s')
  (ke:∀c x s' b6 b4,y.1= .error c->bk s g b2 s' b6 b4->St b1 r b6 b4 l y.2 s'.heap->dg b1 r b6 b4 l y.2 s'.heap c x->E (.ref x) s'):
  wpAny (model J b1.w) A (assign (.Name x px) bd v) (λ_ cv=>wpAny (model J b1.w) A (forIn bi true λc r=>if r=true then do let L<-PySem.isTrue c bd (eval c bd);pure (ForInStep.yield L) else pure (ForInStep.yield r))
   (λL m=>if L=true then wpAny (model J b1.w) A (eval Q bd) (λz d=>wpAny (model J b1.w) A (call (.builtin "list.append") [.ref D,z]) (λ_ d6=>G d6) E d) E m else G m) E cv) E s:=by
 have Y:(dH ys ep).cls≠ .type "frame":=by simp
 rw[HV] at q;unfold dE at q;rw[dw] at q;refine uS ct k Y S0 LI LD hI hD (λr'=>S.as hR he (.Name x px) (.t u) v tu) q (λ_ _ c6 cv c5 bl q p2 S2 cl da cx d9 _=>?_) ke;clear S0 LI LD hI hD tu;rw[dw] at q;refine uS ct k Y S2 cl da cx d9 (λr'=>zO S hR bi c5 bl (he.mono p2.2.1 p2.2.2)) q (λb L c7 m c9 N q p3 S3 bs bo c1 cd hb=>?_) λc x s' b6 b4 e p=>ke c x s' b6 b4 e (p2.trans p);clear S2 cl da cx d9;have f:=p2.trans p3;clear p2 p3;have hb:=hb;subst hb
 cases b with
 |false=>refine rwm _ ?_ (hX Bool.false_ne_true);exact kG be c7 m c9 N ys ep q f S3 bs bo c1 cd (TRs.mono f.2.1 _ _ d3)
 |true=>
  refine rwm _ ?_ (ec rfl);have q:bm (bm (rc.ev Q ce) λv=>bm (fr v) λu=>pm (some u)) _ c7=some y:=q;rw[dw] at q;refine uS ct k Y S3 bs bo c1 cd (λr'=>S.ev hR (he.mono f.2.1 f.2.2) Q) q (λw z cr d c2 bb q j S4 d5 d2 dt di hz=>?_) λc x s' b6 b4 e p=>ke c x s' b6 b4 e (f.trans p);clear S3 bs bo c1 cd;have de:=f.trans j;clear f j;rw[dw] at q;have S6:=(S4.reserve d5 dt).reserve (d2.updR ct) di;refine gW q (λt i C q=>?_) λc i C _=>?_
  .refine ch (na 4 w z c2 cr _ S6 hz C) λt' g1 f2 fi dr S7 ht=>ac (pri fi) λe1 e2=>?_;have e1:=oke e1;subst e1 e2;(refine bc λno=>aw (S7.release (d2.updR ct).2.1 Y) λS8 cs dV=>no ?_;clear no);(refine bc λno=>aw (S8.release d5.2.1 k) λS9 dn ds=>no ?_;clear no);clear S6 S7 S8 S4 C fi;refine ac (cL q) λhf q=>wpAny_list_append_plain (hsz:=by refine rwl _ ?_ (d3.len.trans (en (xs:=ys)));exact hK hf) (⟨ep,dV⟩:d.heap.PlainList D ys) λB c4 c3=>?_;(refine ag c4 λcf dd=>?_;clear c4);have H:bk s g b2 {d with heap:=B} f2 bb:=by
    have:=de.heap B d.toks;exact⟨this.1,this.2.1.trans dr,this.2.2⟩
   refine kG _ _ {d with heap:=B} f2 bb (ys.push z) cf q H (S9.extBut cs.unR c3.extBut) dn cs.unR (c3.extBut _ _ ct.symm ds) dd ?_;refine rwm _ ?_ Array.toList_push;exact(TRs.mono H.2.1 _ _ d3).app ⟨z,[],rfl,ht,rfl⟩
  .refine d0 (na 4 w z c2 cr _ S6 hz C) λt' g1 f2 fi _=>eoe (pri fi).1
theorem HX(S:aL J b1 n rc)(hR:Rm A l n)(he:ER b1 l g b2 ce bd){d6:Nat->Heap->Prop}(it:It J b1 g U I d6)
  {y:Except Addr (List T)×af}(ct:D≠I)(m0:Nat)(f:Shared)(G:uV b1 r l (dE rc ce Q (.Name x px) bi) U y L g b2 I D d6 m0 f):
   codeAny (model J b1.w) A (.compLoop (.ListComp Q [⟨.Name x px,iter,bi,0⟩] sc c4) 0 (.ref I) (.ref D) bd) (uU b1 r l L g b2 D y) f:=by
 refine b9 (it.walks A hR.handled) λfp Pn W wP g0=>codeAny_compLoop_tests (uV b1 r l (dE rc ce Q (.Name x px) bi) U y L g b2 I D d6) (λm s hI=>?_) m0 G;clear G;rcases hI with⟨i,be,M,b6,b4,ys,ep,hm,hi,q,p,S0,LI,LD,hD,d3,hw⟩
 by_cases C:i<U.length
 .refine W.item i s _ _ C hw λv b5 tk hv d hk=>al (wP i v hv) λu hu tu=>?_;have hx:Heap.ExtBut I s.heap b5:=λb o hb e=>hk b o (by simpa using hb) e;refine b9 (it.kind _ _ d) λo H ho hc c3=>?_;rw[List.getElem?_eq_getElem C] at hu;have hu:=ai hu;subst hu;rw[List.drop_eq_getElem_cons C] at q;have k:o.cls≠ .type "frame":=by
   refine rwm _ ?_ hc;intro z;clear hc;cases z;simp [im] at c3
  have p1:=p.heap b5 tk;have S1:=S0.extBut LI hx;refine HW S hR (he.mono p.2.1 p.2.2) ct k (TR.mono p.2.1 _ _ tu) S1 LI LD ho (hx _ _ ct hD) d3 q (λbe M s' c5 bl ys ep q p2 S4 LI LD hI hD ha=>?_) λc x s' b6 b4 e p2 S2 X2=>HU hR he (p1.trans p2) e S2 X2;refine⟨U.length - (i+1),xm hm C,i+1,be,M,c5,bl,ys,ep,rfl,C,q,p1.trans p2,S4,LI,LD,hD,ha,W.frame (i+1) b5 s'.heap d λb hb ob e=>?_⟩
  by_cases E:b=I
  .clear it;subst E;rw[ho] at e;cases e;exact hI
  .refine ag (g0 b hb E) λbs w=>?_;have h1:=S1.fr _ _ (p.2.1 _ _ w);rw[h1] at e;clear h1;cases e;exact S4.fr _ _ (p2.2.1 _ _ (p.2.1 _ _ w))
 .have c6:=Nat.le_of_not_lt C|>Nat.le_antisymm hi
  clear hm hi C;subst c6;refine W.done s _ _ hw λb5 tk hk=>?_;rw[List.drop_length] at q;have q:=ai q;subst q;have hx:Heap.ExtBut I s.heap b5:=λb o hb e=>hk b o (by simpa using hb) e;exact⟨b6,b4,be,ys,ep,rfl,p.heap b5 tk,S0.extBut LI hx,LD,hx _ _ ct hD,d3⟩
set_option tactic.hygienic true in
theorem HY{sc:Scope}(he:ER b1 l g b2 e env)(f5:km sc=true)(h:eW e sc lh=some ce):
  ce.scope=relabel sc env/\ce.lh=lh/\ce.qual=e.qual/\ce.code=e.code/\ce.scope.kind= .function/\(∀y∈sc.names,(y.2==NameKind.cell)=false)/\∃cx,closureFor sc env=pure cx/\ck b2 ce.cells cx:=by
 unfold eW at h
 split at h
 .exact nso h
 .rename_i di
  have:(λp:Str×NameKind=>(e.cells.lookup p.1).map λc=>(p.1,c))=gX e:=rfl
  cases cr:((sc.names.filter λp=>p.2== .free).reverse.mapM (gX e)) with
  |none=>simp only[this,cr] at h;exact nso h
  |some cl=>
   simp only[this,cr] at h;cases h;refine al (zx he.cells cr) λcx h1 h2=>?_;simp only[km,Bool.and_eq_true,beq_iff_eq] at f5;refine⟨?_,rfl,rfl,rfl,f5.1,λy L=>?_,cx,h1,h2⟩
   .unfold relabel Env.kindOf;exact rwm _ rfl he.scope
   .cases q:y.2==NameKind.cell with
    |false=>rfl
    |true=>exact absurd (List.any_eq_true.mpr ⟨y,L,q⟩) di
theorem HZ{sc:Scope}{cx:List (Str×Addr)}{globals:Addr}{i:Str}{Q:Env->Shared->Prop}{E:Value->Shared->Prop}(di:∀y∈sc.names,(y.2==NameKind.cell)=false)
  (m:Q {scope:=sc,locals:=s.heap.objs.size,globals:=globals,cells:=cx,qual:=i,func:=none,code:=env.code,frame:=env.frame,builtins:=env.builtins} {s with heap:=s.heap.push {cls:= .type "dict",data:= .dict #[]}}):
  wpAny (model J b1.w) A (newFunctionEnv sc globals cx [] i none .none (some env)) Q E s:=by
 simp only[newFunctionEnv,Option.isSome_some,if_true];refine ae (wpAny_alloc ?_);rw[forIn_yield_id cx (λx hx c=>by
  rcases x with⟨bb,L⟩;have:=di _ hx;simp only at this;simp only[this,Bool.false_eq_true,if_false])]
 refine ae (ar ?_);simp only[List.forIn_nil];exact ae (ar (ar m))
theorem H0{Y:List Addr}(he:ER b1 l g b2 e env)(hr:bu b2 Y)(h1:ce.scope=relabel sc env)(h2:ce.lh=lh)(h3:ce.qual=e.qual)(h4:ce.code=e.code)(h5:ce.scope.kind= .function)(G:ck b2 ce.cells cx)(M:Y[lh]? =some L):
  ER b1 l g Y ce {scope:=relabel sc env,locals:=L,globals:=env.globals,cells:=cx,qual:=env.qual,func:=none,code:=env.code,frame:=env.frame,builtins:=env.builtins}:=
 ⟨h1.symm,h5,by refine rwm _ ?_ h2;exact M,he.globals,G.mono hr,by refine rwm _ ?_ h3;exact he.qual,by refine rwm _ ?_ h4;exact he.code,he.builtins,he.frame⟩
theorem zP(S:St b1 r g b2 l O h)(ct:O[lh]? =some (.ns false N))(hC:b2[lh]? =some C):
  ∃oC m,h.get? C=some oC/\oC.cls≠ .type "frame"/\h.Ns C m/\St b1 r g b2 l (O.set lh .dead) h/\aD b1 r g b2 l (O.set lh .dead) C:=by
 refine h8 (S.own _ _ _ ct hC) λo m ho hn _ _ _ cr=>?_;have hc:o.cls≠ .type "frame":=by refine rwm _ ?_ cr;simp
 refine ac (S.lone_dead ct rfl hC ho hc) λS1 L1=>⟨o,m,ho,hc,xI.mpr ⟨o,ho,hn⟩,S1,L1⟩
set_option tactic.hygienic true in
theorem H1(h:eW e sc 0=some ce):eW e sc lh=some {ce with lh:=lh}:=by
 unfold eW at h⊢
 split at h
 .exact nso h
 .rename_i hc
  refine a0 (hX hc) ?_;have:(λp:Str×NameKind=>(e.cells.lookup p.1).map λc=>(p.1,c))=gX e:=rfl
  cases cr:((sc.names.filter λp=>p.2== .free).reverse.mapM (gX e)) with
  |none=>simp only[this,cr] at h;exact nso h
  |some cl=>
   simp only[this,cr] at h⊢;cases h;rfl
theorem aD.alloc(hl:b2.length=O.length)(L:aD b1 r g b2 l O a)(b:a≠c):aD b1 r g (b2++[c]) l (O++[Q]) a:=by
 refine⟨L.1,L.2.1,L.2.2.1,λj f e1 e2=>?_,L.2.2.2.2⟩;(refine a2 (dC e2) (λe2=>?_) (λzz=>?_);rotate_left;refine ac zz λc2 bo=>?_;clear zz;subst c2;subst bo;rotate_right)
 ·(refine a2 (dC e1) (λe1=>?_) (λzz=>?_);rotate_left;refine ac zz λc2 bo=>?_;clear zz;subst c2;subst bo;rotate_right)
  .exact L.2.2.2.1 j f e1 e2
  .have:=(List.getElem?_eq_some_iff.mp e2).1;rw[hl] at this;exact absurd this (ko _)
 .exact absurd rfl b
theorem XN.ext(X:XN b1 r g b2 l O h C ex)(Y:∀b,aD b1 r g b2 l O b->aD b1 r g b2 l M b)(hx:Heap.ExtBut a h b5)(ha:∀b,aD b1 r g b2 l O b->b≠a):XN b1 r g b2 l M b5 C ex:=by
 refine bc λno=>aq X λo vs c=>dc c λh1 h2 h3 h4 L d=>a9 d λt i vt cd=>dc cd λk1 k2 k3 k4 k5 k6=>no (⟨o,vs,hx _ _ (ha _ L) h1,h2,h3,h4,Y _ L,t,i,vt,k1,hx _ _ (ha _ k6.1) k2,k3,k4,k5,Y _ k6.1,k6.2⟩)
set_option tactic.hygienic true in
theorem H2{α:Type}{x:Option MO}{y:Option α}{z:α}(q:oN x y=some z):∃N,x=some (.ns false N)/\y=some z:=by
 cases x with
 |none=>exact nso q
 |some Q=>
  cases Q<;>first|exact nso q|skip
  rename_i b N
  cases b
  .exact⟨_,rfl,q⟩
  .exact nso q
theorem H3{d2:Except Addr V×af}(dn:eW e sc O.length=some ce)(q:jx rc e Q tg bi sc U O=some d2):
  ∃rr cr N,bZ (dE rc ce Q tg bi) U [] (O++[.ns false []])=some (rr,cr)/\cr[O.length]? =some (.ns false N)/\(match rr with
    | .ok be=>d2=(.ok (.own (trunc O.length (cr.set O.length .dead)).length),trunc O.length (cr.set O.length .dead)++[.list be])
    | .error c=>d2=(.error c,cr.set O.length .dead)):=by
 have q:(match eW e sc O.length with
   |some ce=>λc6=>mY O.length O.length (bZ (dE rc ce Q tg bi) U [] c6)
   |none=>λ_=>none:MM V) (O++[.ns false []])=some d2:=q
 rw[dn] at q;have q:mY O.length O.length (bZ (dE rc ce Q tg bi) U [] (O++[.ns false []]))=some d2:=q
 cases b:bZ (dE rc ce Q tg bi) U [] (O++[.ns false []]) with
 |none=>rw[b] at q;exact nso q
 |some p=>
  rw[b] at q;clear b;rcases p with⟨rr,c7⟩;refine al (H2 (show oN c7[O.length]? (ug O.length O.length rr c7)=some d2 from q)) λN ct q=>⟨rr,c7,N,rfl,ct,?_⟩
  cases rr with
  |ok be=>exact(ai q).symm
  |error c=>exact(ai q).symm
abbrev H4(d2:Except Addr V×af)(k:Nat)(rr:Except Addr (List T))(cr:af):Prop:=match rr with
 | .ok be=>d2=(.ok (.own (trunc k (cr.set k .dead)).length),trunc k (cr.set k .dead)++[.list be])
 | .error c=>d2=(.error c,cr.set k .dead)
theorem H5(S:aL J b1 n rc)(hR:Rm A l n){d6:Nat->Heap->Prop}(d5:It J b1 g U I d6)(dn:eW e sc O.length=some ce)(g5:ER b1 l g b2 ce bd)(g2:D≠I)
  (S5:St b1 r g b2 l (O++[.ns false []]) s.heap)(LI:aD b1 r g b2 l (O++[.ns false []]) I)(LD:aD b1 r g b2 l (O++[.ns false []]) D)(hD:s.heap.get? D=some (dH #[] 0))(cp:d6 0 s.heap){d2:Except Addr V×af}(q:jx rc e Q (.Name x px) bi sc U O=some d2):
  ∃rr cr N,codeAny (model J b1.w) A (.compStart (.ListComp Q [⟨.Name x px,it,bi,0⟩] sc c4) 0 (.ref I) (.ref D) bd) (uU b1 r l s g b2 D (rr,cr)) s/\cr[O.length]? =some (.ns false N)/\H4 d2 O.length rr cr:=by
 refine h9 (H3 dn q) λrr cr N k1 k2 k3=>b9 (d5.walks A hR.handled) λfp Pn W wP g0=>?_;have b:=HX S hR g5 (iter:=it) (sc:=sc) (c4:=c4) d5 g2 _ s ⟨0,[],_,g,b2,#[],0,rfl,i1 _,by refine rwm _ ?_ List.drop_zero;exact k1,.refl _ _ _,S5,LI,LD,hD,rfl,cp⟩;exact⟨rr,cr,N,codeAny_compStart_list b (W.self 0 _ _ _ cp b),k2,k3⟩
theorem H6{s':Shared}{ys:Array Value}(S6:St b1 r g b2 l O s'.heap)(gd:aD b1 r g b2 l O D)(ga:s'.heap.get? D=some (dH ys ep))(d3:TRs b1.w g be ys.toList)(ct:O[k]? =some (.ns false N))(hC:b2[k]? =some C)(fk:C≠D):
  ∃(oC:Obj)(m:Str->Option Value)(b4:List Addr),s'.heap.get? C=some oC/\oC.cls≠ .type "frame"/\s'.heap.Ns C m/\St b1 r g (b4++[D]) l (trunc k (O.set k .dead)++[.list be]) s'.heap/\aD b1 r g (b4++[D]) l (trunc k (O.set k .dead)++[.list be]) C/\(∀(j:Nat)(ad:Addr),(b2.take k)[j]? =some ad->(b4++[D])[j]? =some ad)/\b4.length=(trunc k (O.set k .dead)).length:=by
 refine lz (zP S6 ct hC) λoC m fs fn d9 S7 d=>?_;refine cD (S7.trunc k) λp S8 t1 I=>⟨oC,m,p,fs,fn,d9,S8.adopt ((gd.set (i:=k) (Q:= .dead) rfl).trunc I) rfl ⟨ys,ep,ga,d3⟩,(d.trunc I).alloc S8.len fk,λj ad h=>bu.app p [D] _ _ (t1 _ _ h),S8.len⟩
theorem H7{s s':Shared}{bs:ay}(S6:St b1 r g b2 l O s'.heap)(X:XN b1 r g b2 l O s'.heap c ex)(ct:O[k]? =some (.ns false N))(hC:b2[k]? =some C)(f:bk s bs Y s' g b2):
  ∃m,s'.heap.Ns C m/\∀b5,Heap.SameBut C s'.heap b5->∀bd:Env,wpAny (model J b1.w) A (PySem.passOn "comprehension.variables-let-go" (.ref ex) bd:Sem Value) (λ_ _=>False) (PE b1 r l s bs Y ((.error c,O.set k .dead):Except Addr γ×af)) {s' with heap:=b5}:=by
 refine lz (zP S6 ct hC) λoC m fs fn d9 S7 d=>⟨m,d9,λb5 c3 bd=>?_⟩;have j:XN b1 r g b2 l (O.set k .dead) b5 c ex:=X.ext (λb L=>L.set rfl) c3.extBut λb L z=>by
  clear fs d9;subst z;have:=L.2.2.2.1 _ _ ct hC;exact ftf this
 exact zi (S7.extBut d c3.extBut) j λw S9 i=>⟨g,b2,c,ex,rfl,f.heap w s'.toks,S9,rfl,i⟩
theorem H8(S2:St b1 r g b2 l O s.heap):∃D C H,(s.heap.push oI).objs.size=D/\((s.heap.push oI).push (dH #[] 0)).objs.size=C/\((s.heap.push oI).push (dH #[] 0)).push {cls:= .type "dict",data:= .dict #[]}=H/\D≠s.heap.objs.size/\C≠D/\
  St b1 r g (b2++[C]) l (O++[.ns false []]) H/\aD b1 r g (b2++[C]) l (O++[.ns false []]) s.heap.objs.size/\aD b1 r g (b2++[C]) l (O++[.ns false []]) D/\H.get? D=some (dH #[] 0)/\∀b o,(s.heap.push oI).get? b=some o->H.get? b=some o:=by
 have S3:St b1 r g b2 l O (s.heap.push oI):=S2.keep λ_ _ e=>a3 _ e;have LI:aD b1 r g b2 l O s.heap.objs.size:=S2.lone_new (cV _);have S4:St b1 r g b2 l O ((s.heap.push oI).push (dH #[] 0)):=S3.keep λ_ _ e=>a3 _ e;have LD:=S3.lone_new (cV _);have g2:(s.heap.push oI).objs.size≠s.heap.objs.size:=by rw[Heap.size_push];exact Nat.succ_ne_self _
 have fk:((s.heap.push oI).push (dH #[] 0)).objs.size≠(s.heap.push oI).objs.size:=by refine rwm _ ?_ (Heap.size_push _ (dH #[] 0));exact Nat.succ_ne_self _
 have c:((s.heap.push oI).push (dH #[] 0)).objs.size≠s.heap.objs.size:=by rw[Heap.size_push,Heap.size_push];exact En
 exact⟨_,_,_,rfl,rfl,rfl,g2,fk,
  S4.alloc (cV _) (λ_ _ e=>a3 _ e) rfl ⟨{cls:= .type "dict",data:= .dict #[]},λ_=>none,ea _ rfl,⟨#[],0,rfl,λ_ he=>by simp at he,λ_=>rfl⟩,trivial,λ_ _=>rfl,by simp,rfl⟩,
  LI.alloc S2.len c.symm,LD.alloc S2.len fk.symm,a3 _ (ea _ rfl),λb o e=>a3 _ (a3 _ e)⟩
theorem H9{k:V->MM γ}{P:List Comprehension->MM γ->Prop}(no:∀I m,(∀O B,m O≠some B)->P I m)
  (yes:∀x px it bi ce,ie it=true->km sc=true->eW e sc 0=some ce->P [⟨.Name x px,it,bi,0⟩] (bm (rc.ev it e) λw=>bm (fr w) λt=>bm (om (d7 t)) λU=>bm (jx rc e Q (.Name x px) bi sc U) k)):P I (bm (fy rc e Q I sc) k):=by
 by_cases h:∃tg it bi,I=[⟨tg,it,bi,0⟩]
 ·(refine a9 h λtg it bi bo=>?_;clear h;subst bo)
  by_cases hc:(ie it&&qG tg&&km sc&&(eW e sc 0).isSome)=true
  .have c:=hc;simp only[Bool.and_eq_true] at hc;(refine ac hc λc7 dn=>?_;clear hc;rcases c7 with⟨⟨hs,b⟩,f5⟩);refine ag (Option.isSome_iff_exists.mp dn) λce dn=>?_;obtain⟨x,px,rfl⟩:∃x px,tg= .Name x px:=by cases tg<;>first|exact⟨_,_,rfl⟩|(first|exact ftf b|cases b)
   have e1:bm (fy rc e Q [⟨.Name x px,it,bi,0⟩] sc) k=bm (rc.ev it e) λw=>bm (fr w) λt=>bm (om (d7 t)) λU=>bm (jx rc e Q (.Name x px) bi sc U) k:=by
    have e2:fy rc e Q [⟨.Name x px,it,bi,0⟩] sc=bm (rc.ev it e) λw=>bm (fr w) λt=>bm (om (d7 t)) λU=>jx rc e Q (.Name x px) bi sc U:=ec c;refine rwm _ ?_ e2;simp only[dw]
   refine rwm _ ?_ e1;exact yes x px it bi ce hs f5 dn
  .refine no _ _ λO B q=>?_;have e2:fy rc e Q [⟨tg,it,bi,0⟩] sc=λ_=>none:=hX hc;rw[e2] at q;exact nso q
 .refine no _ _ λO B q=>?_;have e2:fy rc e Q I sc=λ_=>none:=by
   rcases I with _|⟨⟨tg,it,bi,a⟩,_|⟨y,l⟩⟩
   .rfl
   .rcases a with(_|a)|a
    .exact absurd ⟨_,_,_,rfl⟩ h
    .rfl
    .rfl
   .clear h;rcases a with(_|a)|a<;>rfl
  rw[e2] at q;exact nso q
theorem zQ(S:aL J b1 n rc)(hR:Rm A l n)(he:ER b1 l g b2 e env)(Q:Expr)(I:List Comprehension)(sc:Scope)(c4 p0:Pos){G:Rl γ δ}{t:Value->Sem δ}{d:δ}{k:V->MM γ}(f6:Option (Value->Sem Unit))
  (dd:f6=none->∀bs Y v x,aZ g bs->bu b2 Y->VR b1.w bs Y v x->aa J b1 r l A G bs Y (t x) (k v))
  (gt:∀u,f6=some u->(∀x,t x=pure d)/\∀r bs Y v x,aZ g bs->bu b2 Y->VR b1.w bs Y v x->aa J b1 r l A (λg b2 a (_:Unit)=>G g b2 a d) bs Y (u x) (k v)):
  aa J b1 r l A G g b2 (comprehension (.ListComp Q I sc c4) sc env p0 (newList []) (firstAsync I) (firstIter I env) f6>>=t) (bm (fy rc e Q I sc) k):=by
 refine H9 (P:=λI m=>aa J b1 r l A G g b2 (comprehension (.ListComp Q I sc c4) sc env p0 (newList []) (firstAsync I) (firstIter I env) f6>>=t) m) (λI m f4 O B s bs Y _ _ _ q=>absurd q (f4 O B)) λx px it bi ce hs f5 dn=>?_;(refine bc λno=>mI (HY he f5 dn) λdt ds f1 fx ft di cd=>ag cd λcx c1=>ac c1 λdV f3=>no ?_;clear c1 cd no);have fa:=f5;simp only[km,Bool.and_eq_true,beq_iff_eq,List.all_eq_true,Bool.or_eq_true,bne_iff_ne] at fa;intro O B s bs Y a b S0 q;refine ae (wpAny_comprehension_free (use:=f6) rfl (zE hs) dV fa.1 (λy L hl=>(fa.2 y L).resolve_left λz=>z hl) ?_);refine((S.ev hR he it).later a b).run S0 q (λv y c6 cf c5 bl q p1 S1 hv=>?_) λx s' z=>z;refine gW q (λtt c7 e3 q=>?_) λc c7 e3 _=>?_;rotate_left
 .refine d0 (na 4 v y c5 c6 _ S1 hv e3) λt' g1 f2 fi _=>eoe (pri fi).1
 refine ch (na 4 v y c5 c6 _ S1 hv e3) λt' g1 c9 e4 h7 S2 ht=>ac (pri e4) λe5 e6=>?_;have e5:=oke e5;subst e5 e6;clear e3 e4 S1 hv;refine al (dG q) λU de q=>?_;have gr:=p1.2.1.trans h7;have f9:=p1.2.2;refine y6 hR.handled S2 ht de λoI d6 hb hc d5 cp=>wpAny_newList ?_ (by simp [sizeLine_eq]);refine HZ (s:={cf with heap:=(cf.heap.push oI).push (dH #[] 0)}) di ?_;(refine bc λno=>a9 (H8 (oI:=oI) S2) λD C H f8=>DO f8 λhD hC hH g2 fk S5 LI LD h2 h3=>no ?_;clear f8 no);have h6:({cf with heap:=((cf.heap.push oI).push (dH #[] 0)).push {cls:= .type "dict",data:= .dict #[]}}:Shared)={cf with heap:=H}:=by exact rwm _ rfl hH
 have g3:bk s bs Y {cf with heap:=H} c9 (bl++[C]):=by
  have:=p1.heap H cf.toks;exact⟨this.1,gr,f9.trans (.app _ _)⟩
 have g4:(bl++[C])[c7.length]? =some C:=by refine rwl _ ?_ S2.len;simp
 have bb:=S2.len;have g5:=H0 (ce:={ce with lh:=c7.length}) ((he.mono a b).mono gr f9) (bu.app bl [C]) dt rfl f1 fx ft ((f3.mono b).mono f9) g4;have gn:d6 0 H:=by
  refine b9 (d5.walks A hR.handled) λfp Pn W wP g0=>W.frame 0 _ _ cp λb _ o e=>h3 b o e
 have fI:=λd2=>H5 (s:={cf with heap:=H}) (x:=x) (px:=px) (Q:=Q) (bi:=bi) (it:=it) (c4:=c4) (d2:=d2) S hR d5 (H1 (lh:=c7.length) dn) g5 g2 S5 LI LD h2 gn;simp only[hD,hC,hH];clear d5 gn cp h3 h2 LI LD S5 S2 g5 hD hC hH h6 he f3 de ht dt ds f1 fx ft dn hs f5 fa dV di S0;refine gW q (λv cr e5 q=>?_) λc cr e5 e6=>?_<;>refine h9 (fI _ e5) λrr da N gi ct fv=>?_<;>clear fI e5
 .refine ov gi λr' s' z=>?_
  cases rr with
  |error c=>exact oee (pri fv).1
  |ok be=>
  cases r' with
  |error x=>
   refine cT z λb6 b4 c' ex z1 _=>oee z1
  |ok f=>
   (refine bc λno=>hZ z λb6 b4 ha ys ep f7=>dc f7 λz1 p2 S6 gd ga d3=>no ?_;clear f7 z no);have z1:=oke z1;subst z1;refine ac (pri fv) λe7 e8=>?_;have e7:=oke e7;subst e7 e8;(refine bc λno=>a9 (H6 S6 gd ga d3 ct (p2.2.2 _ _ g4) fk) λoC m p cs=>mI cs λfs fn d9 S9 h0 t1 l6=>no ?_;clear cs no);have dr:bk s bs Y s' b6 (p++[D]):=by
    have:=g3.trans p2;refine⟨this.1,this.2.1,λj ad hj=>t1 _ _ (jB ?_ (this.2.2 _ _ hj))⟩;have:=(List.getElem?_eq_some_iff.mp (f9 _ _ hj)).1;rw[bb] at this;exact this
   have h5:VR b1.w b6 (p++[D]) (.own (trunc c7.length (da.set c7.length .dead)).length) (.ref D):=⟨D,by refine rwl _ ?_ l6;simp,rfl⟩;clear S6 gd ga d3 ct p2 gi g3 t1 l6 fv
   cases f6 with
   |none=>
    refine⟨m,d9,λb5 c3=>?_⟩;exact eb (dd rfl b6 (p++[D]) _ _ (a.trans dr.2.1) (b.trans dr.2.2) h5 _ B {s' with heap:=b5} b6 (p++[D]) (.refl _) (.refl _) (S9.extBut h0 c3.extBut) q) (λ_ _ z=>z.up (dr.heap b5 s'.toks)) λ_ _ z=>z.up (dr.heap b5 s'.toks)
   |some u=>
    refine ac (gt u rfl) λht hu=>?_;show wpAny _ _ (u (.ref D)) _ _ _;refine zK (R:=λg b2 a (_:Unit)=>G g b2 a d) (B:=B) fn h0 (hu _ b6 (p++[D]) _ _ (a.trans dr.2.1) (b.trans dr.2.2) h5 _ B s' b6 (p++[D]) (.refl _) (.refl _) (S9.reserve h0 fs) q)
     (λw y cv c5 bl z1 p3 gs h4 h1 hw=>?_) λc x cv c5 bl z1 p3 gs h4 h1 X=>?_
    .refine⟨m,?_,λb5 c3=>?_⟩
     ·(refine d0 d9 λo es ep i E=>?_;clear d9);rw[fs] at i;cases i;exact⟨_,es,ep,h1,E⟩
     .show wpAny _ _ (t .none) _ _ _;rw[ht];exact ar ⟨c5,bl,w,z1,(dr.trans p3).heap b5 cv.toks,gs.extBut h4 c3.extBut,hw⟩
    .exact⟨c5,bl,c,x,z1,dr.trans p3,gs,rfl,X⟩
 .clear q;subst e6;refine ov gi λr' s' z=>?_
  cases rr with
  |ok be=>exact eoe (pri fv).1
  |error c'=>
  refine ac (pri fv) λe7 e8=>?_;have e7:=ere e7;clear q gi fv;clear q;subst e7 e8
  cases r' with
  |ok f=>
   refine bc λno=>hZ z λb6 b4 be ys ep M=>ac M λz1 _=>no (eoe z1)
  |error x=>
   (refine bH z λb6 b4 c' ex cd=>bS cd λz1 bo p2 S6 X=>?_;clear cd;subst bo);have z1:=ere z1;subst z1;refine al (H7 (J:=J) (A:=A) (γ:=γ) S6 X ct (p2.2.2 _ _ g4) (((g3.trans p2):bk s bs Y s' b6 b4))) λm d9 cl=>?_
   cases f6 with
   |none=>exact⟨m,d9,λb5 c3 bd _=>cl b5 c3 bd⟩
   |some u=>exact⟨m,d9,λb5 c3 bd _=>cl b5 c3 bd⟩
theorem Ia{R:Rl α β}{t:Sem β}{m:MM α}(h:aa J b1 r l A R g b2 (t>>=pure) (bm m pm)):aa J b1 r l A R g b2 t m:=by
 have e1:=bind_pure t;have e2:bm m pm=m:=by
  funext O
  unfold bm
  cases m O with
  |none=>rfl
  |some q=>rcases q with⟨q1,c6⟩;cases q1<;>rfl
 rw[e1,e2] at h;exact h
theorem zR(S:aL J b1 n rc)(hR:Rm A l n)(he:ER b1 l g b2 e env)(Q:Expr)(I:List Comprehension)(sc:Scope)(c4:Pos):
  aa J b1 r l A (RV b1.w) g b2 (eval (.ListComp Q I sc c4) env) (fy rc e Q I sc):=by
 rw[eval_ListComp];exact Ia (zQ (d:=Value.none) S hR he Q I sc c4 _ none (λ_ bs Y v x _ _ hv=>aa.pure λ_ _ hg hr=>VR.mono hg hr _ _ hv) λu hu=>nomatch hu)
set_option tactic.hygienic true in
theorem zS(b:List Expr)(c:Expr)(c4:Pos):exec (.Assign b c c4) env=(do
  standAt c4
  if<-swapsWithSole b c c4.line env then do
   evalThenUse c env λv=>assignAll v ((assignEach b env).map (·.2))
   pure Flow.next
  else do
   let v<-eval c env
   assignStores env v (<-swappedStores b c env) ((assignEach b env).map (·.2))):=rfl
theorem qX(h:noStar tg=true):(assignEach [tg] env).map (·.2)=[assign tg env]:=by
 refine rwm _ ?_ (uF tg [] h);rfl
set_option tactic.hygienic true in
theorem Ib(S:aL J b1 n rc)(hR:Rm A l n)(he:ER b1 l g b2 e env)(tg x:Expr)(hs:noStar tg=true)(hv:VR b1.w g b2 v y):
  aa J b1 r l A (RF b1.w) g b2 (swappedStores [tg] x env>>=λsw=>assignStores env y sw ((assignEach [tg] env).map (·.2))) (bm (lT rc e tg v (fS e tg x)) λ_=>pm Fl.next):=by
 refine rwm _ ?_ (qX hs)
 cases j:fS e tg x with
 |none=>exactλO B s bs Y _ _ _ q=>by exact nso q
 |some o=>
  refine rwm _ ?_ (zJ he tg x j);refine aa.eqT (pure_bind _ _) ?_
  cases o with
  |none=>
   show aa J b1 r l A _ g b2 (do assign tg env y;pure Flow.next) (bm (rc.as tg e v) λ_=>pm Fl.next);exact aa.bind (S.as hR he tg v y hv) λbs Y _ _ _ _ _=>aa.pure λ_ _ _ _=>trivial
  |some d=>
   cases v with
   |own i=>exactλO B s bs Y _ _ _ q=>by exact nso q
   |t t=>
    cases t<;>first|exactλO B s bs Y _ _ _ q=>(by(first|exact nso q|cases q))|skip
    rename_i ts
    show aa J b1 r l A _ g b2 (do rule "assign.swapped-stores";let c<-unpackItems y d.length none;assignInOrder (d.reverse.map λn=>bindName env n) c.reverse;pure Flow.next)
     (bm (if ts.length=d.length then kn e d.reverse ts.reverse else λ_=>none) λ_=>pm Fl.next)
    refine aa.rule ?_
    split
    .rename_i bb
     intro O B s bs Y a b H q;have hv:=TR.mono a _ _ hv;(refine a9 hv λI ys ep D=>aw D λc2 ho f=>?_;clear D;clear hv;subst c2);have cp:d.length=ys.size:=by refine rwl _ ?_ bb;exact f.len.trans (en)
     refine rwm _ ?_ cp;refine ae (wpAny_unpackItems_tuple hR.handled ⟨_,H.fr _ _ ho,rfl,ep,rfl⟩ λb5 hx=>?_);have S2:=H.extBut (H.lone_new (cV _)) hx;have st:bk s bs Y {s with heap:=b5} bs Y:=⟨⟨b5,s.toks,rfl⟩,.refl _,.refl _⟩;have k:aa J b1 r l A (RF b1.w) bs Y (assignInOrder (d.reverse.map λn=>bindName env n) ys.toList.reverse>>=λ_=>pure Flow.next) (bm (kn e d.reverse ts.reverse) λ_=>pm Fl.next):=
      aa.bind (zH d.reverse ts.reverse ys.toList.reverse bs Y (he.mono a b) (TRs.rev f)) λc5 bl _ _ _ _ _=>aa.pure λ_ _ _ _=>trivial
     exact eb (k O B {s with heap:=b5} bs Y (.refl _) (.refl _) S2 q) (λ_ _ z=>z.up st) λ_ _ z=>z.up st
    .exactλO B s bs Y _ _ _ q=>by exact nso q
theorem aa.tt{R:Rl α β}{t t':Sem β}{m:MM α}(h:c=true->aa J b1 r l A R g b2 t m)(b5:c=false->aa J b1 r l A R g b2 t' m):aa J b1 r l A R g b2 (if c=true then t else t') m:=by
 cases c with
 |true=>exact h rfl
 |false=>exact b5 rfl
theorem Ic(Q:Expr)(I:List Comprehension)(sc:Scope)(c4:Pos)(tg:Expr)(c:Nat):∃b,swapsWithSole [tg] (.ListComp Q I sc c4) c env=pure b:=by
 cases tg<;>exact⟨_,rfl⟩
theorem zT(h:ig x=true)(c:Nat):swapsWithSole [tg] x c env=pure false:=by
 cases x<;>first|rfl|(first|exact ftf h|cases h)
theorem Id(h:ig x=true):ij rc e tg x=bm (rc.ev x e) λv=>lT rc e tg v (fS e tg x):=by
 cases x<;>first|rfl|(first|exact ftf h|cases h)
set_option tactic.hygienic true in
theorem Ie(S:aL J b1 n rc)(hR:Rm A l n)(he:ER b1 l g b2 e env)(tg x:Expr)(c4:Pos)(hs:noStar tg=true):
  aa J b1 r l A (RF b1.w) g b2 (exec (.Assign [tg] x c4) env) (bm (ij rc e tg x) λ_=>pm Fl.next):=by
 rw[zS];refine aa.standAt ?_
 by_cases hx:ig x=true
 .rw[zT hx,Id hx,dw];refine aa.eqT (pure_bind _ _) ?_;show aa J b1 r l A _ g b2 (eval x env>>=λv=>swappedStores [tg] x env>>=λsw=>assignStores env v sw ((assignEach [tg] env).map (·.2))) _;exact aa.bind (S.ev hR he x) λbs Y v y hg hr hv=>Ib S hR (he.mono hg hr) tg x hs hv
 .cases x<;>first|exact absurd rfl hx|skip
  .rename_i Q I sc p2
   refine ag (Ic (env:=env) Q I sc p2 tg c4.line) λb hb=>?_;refine rwm _ ?_ hb;refine aa.eqT (pure_bind _ _) ?_;show aa J b1 r l A _ g b2 _ (bm (bm (fy rc e Q I sc) λv=>rc.as tg e v) λ_=>pm Fl.next);refine aa.tt (λ_=>?_) λ_=>?_
   .refine rwm _ (rwm _ ?_ dw) (qX hs);show aa J b1 r l A _ g b2 ((comprehension (.ListComp Q I sc p2) sc env (firstIterPos I p2) (newList []) (firstAsync I) (firstIter I env) (some λv=>assignAll v [assign tg env])>>=λ_=>pure ())>>=λ_=>pure Flow.next) _;refine aa.eqT (bind_assoc _ _ _) ?_;have e1:(λ(_:Value)=>(pure ():Sem Unit)>>=λ_=>(pure Flow.next:Sem Flow))=λ_=>pure Flow.next:=by funext _;exact pure_bind _ _
    refine rwm _ ?_ e1;refine zQ (d:=Flow.next) S hR he Q I sc p2 _ (some λv=>assignAll v [assign tg env]) (λhu=>nomatch hu) λu hu=>?_;cases hu;refine⟨λ_=>rfl,λr bs Y v y hg hr hv=>?_⟩;show aa J b1 r l A _ bs Y (assign tg env y) (bm (rc.as tg e v) λ_=>pm Fl.next);intro O B s c5 bl a b S0 q;(refine a2 (ed q) (λzz=>?_) (λzz=>?_);refine aq zz λu c6 bi=>ac bi λe2 q=>?_;clear bi;rotate_left;refine aq zz λc c6 bi=>ac bi λe2 bo=>?_;clear bi;clear zz;subst bo;rotate_right)
    .clear zz;cases q;refine eb (S.as hR (he.mono hg hr) tg v y hv O _ s c5 bl a b S0 e2) (λw s' z=>?_) λw s' z=>?_
     ·(refine ch z λc9 N _ e3 p S3 _=>?_;clear z);(have za:=oke e3;clear e3;cases za);exact⟨c9,N,_,rfl,p,S3,trivial⟩
     .refine cT z λ_ _ _ _ e3 _=>oee e3
    .refine eb (S.as hR (he.mono hg hr) tg v y hv O _ s c5 bl a b S0 e2) (λw s' z=>?_) λw s' z=>?_
     .refine d0 z λ_ _ _ e3 _=>eoe e3
     .refine cT z λc9 N c' ex e3 z=>?_;(have za:=ere e3;clear e3;cases za);exact⟨c9,N,_,ex,rfl,z⟩
   .refine rwm _ ?_ dw;show aa J b1 r l A _ g b2 (eval (.ListComp Q I sc p2) env>>=λv=>swappedStores [tg] (.ListComp Q I sc p2) env>>=λsw=>assignStores env v sw ((assignEach [tg] env).map (·.2))) _;refine aa.bind (zR S hR he Q I sc p2) λbs Y v y hg hr hv=>?_;have j:swappedStores [tg] (.ListComp Q I sc p2) env=pure none:=by clear hb;cases tg<;>rfl
    refine rwm _ (rwm _ ?_ (qX hs)) j;refine aa.eqT (pure_bind _ _) ?_;show aa J b1 r l A _ bs Y (do assign tg env y;pure Flow.next) (bm (rc.as tg e v) λ_=>pm Fl.next);exact aa.bind (S.as hR (he.mono hg hr) tg v y hv) λbs Y _ _ _ _ _=>aa.pure λ_ _ _ _=>trivial
  .exactλO B s bs Y _ _ _ q=>by exact nso q
  .exactλO B s bs Y _ _ _ q=>by exact nso q
set_option tactic.hygienic true in
theorem Ig(S:aL J b1 n rc)(hR:Rm A l n)(he:ER b1 l g b2 e env)(d:List Expr)(x:Expr)(c4:Pos):
  aa J b1 r l A (RF b1.w) g b2 (exec (.Assign d x c4) env) (match d with
  |[tg]=>if noStar tg then bm (ij rc e tg x) λ_=>pm Fl.next else λ_=>none
  |_=>λ_=>none):=by
 rcases d with _|⟨tg,_|⟨a,b⟩⟩
 .exact aa.none
 .by_cases hs:noStar tg=true
  .dsimp only;refine rwm _ ?_ (ec hs);exact Ie S hR he tg x c4 hs
  .dsimp only;refine rwm _ ?_ (hX hs);exact aa.none
 .exact aa.none
set_option tactic.hygienic true in
theorem Ih(S:aL J b1 n rc)(hR:Rm A l n)(he:ER b1 l g b2 e env)(x:Expr)(c4:Pos):
  aa J b1 r l A (RF b1.w) g b2 (exec (.Expr x c4) env) (if ig x then bm (rc.ev x e) λ_=>pm Fl.next else λ_=>none):=by
 by_cases hx:ig x=true
 .refine rwm _ ?_ (ec hx);exact Hk S hR he x c4 (by cases x<;>first|rfl|(first|exact ftf hx|cases hx))
 .refine rwm _ ?_ (hX hx);exact aa.none
structure oX (K:Frag) (cx:Cx) (P:bt):Prop where
 X:K.In cx.B
 cls:∀D,P.exc D=true->instIn K (.ref D) (.type "tuple")=some false/\subIn K (.ref D) (.type "BaseException")=some true/\(clsIn K D).isSome=true
 sub:∀C D,P.exc C=true->P.exc D=true->subIn K (.ref C) (.ref D)=some (P.sub C D)
theorem Ii{M:Model}(X:K.In h)(hc:clsIn K D=some c6):Looks M h (isType (.ref D)) true:=by
 intro A Q E s k q;unfold clsIn at hc
 cases ho:K.lookup D with
 |none=>rw[ho] at hc;exact nso hc
 |some o=>
  rw[ho] at hc;rcases o with⟨c,d,b,p⟩;cases b<;>first|exact nso hc|skip
  unfold isType;exact ae (r9 (k _ _ (X _ _ ho)) (ar q))
theorem Ij(U:oX K b1 P){o:Obj}(X:K.In s.heap)(hC:P.exc C=true)(hD:P.exc D=true)(ho:s.heap.get? ex=some o)(hc:o.cls= .ref C){Q:Bool->Shared->Prop}{E:Value->Shared->Prop}(hq:Q (P.sub C D) s):
  wpAny (model J b1.w) A (excMatches (.ref ex) (.ref D)) Q E s:=by
 (refine bc λno=>aw (U.cls D hD) λdt ds f1=>no ?_;clear no);refine ag (Option.isSome_iff_exists.mp f1) λc6 N=>?_;unfold excMatches;refine ae ((looks_instIn X dt).here ?_);refine rwm _ ?_ (hX (by decide));refine ae (ar ?_);simp only[List.forIn_cons,List.forIn_nil];unfold isExcClass;refine ae (ae (ae (ae ((Ii X N).here ?_))));refine rwm _ ?_ (ec rfl);refine(looks_subIn X ds).here ?_;simp only[Bool.not_true,Bool.false_eq_true,if_false];refine ar (ar ?_);unfold typeOf;refine ae (ae (r9 ho (ar ?_)));refine rwm _ ?_ hc;refine ae (ae (ae ((looks_subIn X (U.sub C D hC hD)).here ?_)))
 cases hb:P.sub C D with
 |true=>rw[hb] at hq;exact ar (ar (ar hq))
 |false=>rw[hb] at hq;exact ar (ar (ar hq))
theorem Ik{x:Option Expr}{n:Str}(q:yq x=some n):∃np,x=some (.Name n np):=by
 cases x with
 |none=>exact nso q
 |some x=>cases x<;>first|exact nso q|exact⟨_,by exact rwl _ rfl (ai q)⟩
set_option tactic.hygienic true in
theorem Il(q:yr x=some c):∃k j,x= .Constant (.str c) k j:=by
 cases x<;>first|exact nso q|skip
 rename_i v k j
 cases v<;>first|exact nso q|exact⟨_,_,by exact rwl _ rfl (ai q)⟩
set_option tactic.hygienic true in
theorem Im(q:yt b=some c):∃k j d,b=[.Return (some (.Constant (.str c) k j)) d]:=by
 rcases b with _|⟨x,_|⟨y,l⟩⟩
 .exact nso q
 .cases x<;>first|exact nso q|skip
  rename_i v p
  cases v with
  |none=>exact nso q
  |some v=>
   refine bc λno=>aq (Il q) λk j e=>no (⟨k,j,p,by exact rwm _ rfl e⟩)
 .cases x<;>first|exact nso q|skip
  rename_i v p
  cases v<;>exact nso q
theorem Io{hd:ExceptHandler}{x c:Str}(q:lU hd=some (x,c)):∃np k j d hp,hd= .ExceptHandler (some (.Name x np)) none [.Return (some (.Constant (.str c) k j)) d] hp:=by
 rcases hd with⟨t,n,b,p⟩
 cases n with
 |some n=>exact nso q
 |none=>
  refine al (Option.bind_eq_some_iff.mp q) λn h1 h2=>al (Option.map_eq_some_iff.mp h2) λs h3 h4=>ac (pri h4) λe1 e2=>?_;clear q h2 h4;subst e1 e2;refine ag (Ik h1) λnp e=>?_;refine bc λno=>a9 (Im h3) λk j d e'=>no (⟨np,k,j,d,p,by exact rwm _ (rwm _ rfl e') e⟩)
theorem qY{B:Except Addr V×af}(q:cu P.glob e D O=some B):∃v,B=(.ok v,O):=by
 unfold cu at q;refine ac (FX q) λ_ q=>?_
 .unfold qw at q
  have b:∀{B:Except Addr V×af},(match e.cells.lookup D with
   |some c=>bm (bw c) λQ=>match Q with
    | .cell v=>om v
    |_=>λ_=>none
   |none=>λ_=>none) O=some B->∃v,B=(.ok v,O):=by
   intro B q
   cases hc:e.cells.lookup D with
   |none=>rw[hc] at q;exact nso q
   |some c=>
    rw[hc] at q;refine al (dF q) λQ hi q=>?_;cases Q<;>first|exact nso q|skip
    refine al (du q) λv _ e2=>⟨v,e2⟩
  cases hl:e.scope.names.lookup D with
  |none=>rw[hl] at q;exact nso q
  |some L=>
   rw[hl] at q;clear hl;cases L<;>first|exact b q|(rcases dF q with⟨Q,hi,q⟩;clear hi;cases Q<;>first|exact nso q|(refine al (du q) λv _ e2=>⟨v,e2⟩))|(refine al (du q) λv _ e2=>⟨v,e2⟩)
theorem Ip(q:cu P.glob e x O=some (.error c,M)):False:=by
 refine ag (qY q) λv h=>eoe (pri h).1
theorem Iq{B:Except Addr Fl×af}(q:gU P e C (hd::hs) O=some B):∃x c D,lU hd=some (x,c)/\cu P.glob e x O=some (.ok (.t (.top D)),O)/\P.exc D=true/\P.exc C=true/\
  (if P.sub C D then pm (.ret (.t (.str c))) else gU P e C hs) O=some B:=by
 have q:ul P e C hd (gU P e C hs) O=some B:=q;unfold ul at q
 cases hh:lU hd with
 |none=>rw[hh] at q;exact nso q
 |some b=>
  rcases b with⟨x,c⟩;rw[hh] at q;refine gW q (λf c6 e1 q=>?_) λc c6 e1 _=>(Ip e1).elim;refine ag (qY e1) λv h=>?_;have h:=(pri h).2;subst h
  cases f with
  |own i=>exact nso q
  |t t=>
   cases t<;>first|exact nso q|skip
   refine ac (cL q) λh q=>?_;rw[Bool.and_eq_true] at h;exact⟨x,c,_,rfl,e1,h.1,h.2,q⟩
theorem XN.cls(X:XN b1 r g b2 l O h C ex):∃o,h.get? ex=some o/\o.cls= .ref C:=by
 refine b9 X λo vs a b _=>⟨o,a,b⟩
theorem Ir{R:Rl α β}{t:Sem β}{s:Shared}{B:Except Addr α×af}{Q:β->Shared->Prop}{E:Value->Shared->Prop}(S:St b1 r g b2 l O s.heap)(X:XN b1 r g b2 l O s.heap C ex)
  (h:∀r',St b1 r' g b2 l O s.heap->wpAny (model J b1.w) A t (PQ R b1 r' l s g b2 B) (PE b1 r' l s g b2 B) s)
  (m:∀x y s' b6 b4,B.1= .ok x->bk s g b2 s' b6 b4->St b1 r b6 b4 l B.2 s'.heap->XN b1 r b6 b4 l B.2 s'.heap C ex->R b6 b4 x y->Q y s')
  (hE:∀c,B.1= .error c->False):wpAny (model J b1.w) A t Q E s:=by
 refine bc λno=>aq X λo vs v=>dc v λh1 h2 h3 h4 L j=>a9 j λt i vt cs=>mI cs λk1 k2 k3 k4 k5 k6 U=>no (zM k5 (by refine rwm _ ?_ h2;simp) U S L k6 h1 k2 h (λx y s' b6 b4 e1 p S1 D d g1 g2 hR=>?_) λc x s' b6 b4 e1 _ _ _ _ _ _ _=>(hE c e1).elim);exact m x y s' b6 b4 e1 p S1 ⟨o,vs,g1,h2,h3,h4,D,t,i,vt,k1,g2,k3,k4,k5,d,U⟩ hR
set_option tactic.hygienic true in
theorem Iu(G:Gl b1 P b7 mb)(U:oX K b1 P)(he:ER b1 l g b2 e env){B:Except Addr Fl×af}(hs:List ExceptHandler)(s:Shared)(O:af)(b6:ay)(b4:List Addr)(q:gU P e C hs O=some B)
  (p:bk L g b2 s b6 b4)(S:St b1 r b6 b4 l O s.heap)(X:XN b1 r b6 b4 l O s.heap C ex):wpAny (model J b1.w) A (handleBy (.ref ex) env hs) (PQ (RF b1.w) b1 r l L g b2 B) (PE b1 r l L g b2 B) s:=by
 induction hs generalizing s O b6 b4 with
 |nil=>
  cases q;unfold handleBy;exact zi S X λb5 H I=>⟨b6,b4,C,ex,rfl,p.heap b5 s.toks,H,rfl,I⟩
 |cons hd hs ih=>
  refine dp (Iq q) λx c D hh e1 hD hC q1=>?_;clear q;(refine hZ (Io hh) λnp k j d hp c6=>?_;clear hh;subst c6);have i:(Value.ref ex)≠byPass:=by intro z;cases z
  refine wpAny_handleBy_cons (codeAny_handlers_test ?_) i;refine Ir S X (λr' H=>qJ G (he.mono p.2.1 p.2.2) x np O _ s b6 b4 (.refl _) (.refl _) H e1) (λv y cf c5 bl e2 p2 S2 X2 hv=>?_) λc e2=>oee e2;have e2:=oke e2;subst e2;have hx:=hv;clear hv;subst hx;refine al X2.cls λm b dn=>Ij U (U.X.keeps S2.ground) hC hD b dn (gO q1 (λh q=>?_) λh q=>?_)
  .refine rwm _ ?_ h;have q:=ai q;clear q1;subst q;refine codeAny_handlers_suite (zg S2 X2 λb5 S3 X3=>?_);show wpAny _ _ (do match<-exec (.Return (some (.Constant (.str c) k j)) d) env with| .next=>execs [] env|f=>pure f) _ _ _;refine ae (wpAny_Return_some ?_);show wpAny _ _ (do let t<-fresh;pure (Value.str c t)) _ _ _;refine ae (wpAny_fresh (ar (ar ?_)));exact⟨c5,bl,_,rfl,(p.trans p2).heap b5 _,S3,kp (b1:=b1) (g:=c5)⟩
  .refine rwm _ ?_ (Bool.eq_false_iff.mpr h);exact ih cf O c5 bl q (p.trans p2) S2 X2
set_option tactic.hygienic true in
theorem Iv(G:Gl b1 P b7 mb)(U:oX K b1 P)(S:aL J b1 n rc)(hR:Rm A l n)(he:ER b1 l g b2 e env)(j:List Stmt)(hs:List ExceptHandler)(i cl:List Stmt)(c4:Pos):
  aa J b1 r l A (RF b1.w) g b2 (exec (.Try j hs i cl c4) env) (match hs,i,cl with
  |h0::hs,[],[]=>λO=>match aR rc e j O with
   |some (.error C,M)=>gU P e C (h0::hs) M
   |x=>x
  |_,_,_=>λ_=>none):=by
 rcases hs with _|⟨h0,hs⟩
 .exact aa.none
 rcases i with _|⟨_,_⟩
 rotate_left
 .exact aa.none
 rcases cl with _|⟨_,_⟩
 rotate_left
 .exact aa.none
 intro O B s bs Y a b S0 q
 have q:(match aR rc e j O with
   |some (.error C,M)=>gU P e C (h0::hs) M
   |x=>x)=some B:=q
 refine wpAny_Try_except ?_;have cf:=he.mono a b
 cases e1:aR rc e j O with
 |none=>rw[e1] at q;exact nso q
 |some p=>
 rw[e1] at q;rcases p with⟨rr,M⟩
 cases rr with
 |error C=>
  refine eb (jA S hR j bs Y cf O _ s bs Y (.refl _) (.refl _) S0 e1) (λf s' z=>?_) λx s' z=>?_
  .refine d0 z λ_ _ _ e2 _=>eoe e2
  ·(refine bH z λc5 bl c ex cd=>bS cd λe2 p S1 bo X=>?_;clear cd;subst bo);(have za:=ere e2;clear e2;cases za);refine al cf.frame λe' be d=>?_;refine bc λno=>ac (S1.frs e' be) λ_ c3=>aq c3 λf _ bi=>ac bi λhf _=>no (uG hR.frames (d▸hf) cf.frame S1 X λb5 S2 X2=>zg S2 X2 λw S3 X3=>Iu G U cf (h0::hs) {s' with heap:=w} M c5 bl q (p.heap w s'.toks) S3 X3)
 |ok f0=>
  have q:=ai q;subst q;refine eb (jA S hR j bs Y cf O _ s bs Y (.refl _) (.refl _) S0 e1) (λf s' z=>?_) λx s' z=>?_
  .cases f with
   |next=>exact ar z
   |_=>exact z
  ·(refine bH z λc5 bl c ex cd=>bS cd λe2 p S1 bo X=>?_;clear cd;clear z;subst bo);exact oee e2
structure nh (K:Frag) (cx:Cx) (P:bt):Prop where
 X:K.In cx.B
 isi:∀a b r,P.isi a b=some r->kitOne K (fq a) (fq b)=some r
 own:∀a b r,P.isi a b=some r->7<a->plainGet K a "__class__"=true/\hasDictIn K a=true/\findIn K (.ref a) "__class__"=some (some (.builtin "object.__class__"))/\mroIn K a (.type "object")=some true
 cls:specialIn K (.builtin "object.__class__") "__get__"=some (some (.builtin "getset_descriptor.__get__"))/\takesIn K (.builtin "object.__class__")=some true
theorem zU(C:nh K b1 P)(e:P.isi a b=some q)(ha:7<a):KitX K (.ref x) (.ref a) (λh=>InstAt h x ox a (some od)):=by
 refine bc λno=>bK (C.own a b q e ha) λh1 h2 h3 h4=>no (kitx_own h1 h2 h3 C.cls.1 C.cls.2 h4)
theorem gk{α:Type}{c:Prop}[Decidable c]{x y:Option α}{a:α}{P:Prop}(q:(if c then x else y)=some a)(k:c->x=some a->P)(U:y=some a->P):P:=by
 by_cases h:c
 .rw[if_pos h] at q;exact k h q
 .rw[if_neg h] at q;exact U q
theorem lW{n o:String}{k m:Nat}(hn:n=o)(q:some k=some m)(h:fq k= .type o):Value.type n=fq m:=by
 have q:=ai q;subst q hn;exact h.symm
theorem zV(q:qy c=some m)(b5:TR b1.w g c y):y=fq m:=by
 cases c<;>first|exact nso q|skip
 .have b5:=b5;subst b5;exact gk q (λh q=>lW h q rfl) λq=>gk q (λh q=>lW h q rfl) λq=>gk q (λh q=>lW h q rfl) λq=>gk q (λh q=>lW h q rfl) λq=>gk q (λh q=>lW h q rfl) λq=>gk q (λh q=>lW h q rfl) λq=>gk q (λh q=>lW h q rfl) nso
 .have b5:=b5;subst b5;refine ac (eU q) λhd q=>?_;have q:=ai q;subst q;unfold fq;exact rwm _ rfl (hX (Nat.not_le_of_gt hd))
theorem zW:(t:T)->lN (strip t)=lN t
 | .box _ t=>zW t
 | .none=>rfl
 | .bool _=>rfl
 | .int _=>rfl
 | .str _=>rfl
 | .bytes _=>rfl
 | .typ _=>rfl
 | .bi _=>rfl
 | .top _=>rfl
 | .range _ _=>rfl
 | .list _=>rfl
 | .tuple _=>rfl
 | .dict _=>rfl
 | .inst _ _=>rfl
theorem zX(C:nh K b1 P)(S:St b1 r g b2 l O s.heap)(ht:TR b1.w g t x)(ha:lN t=some a)(e:P.isi a b=some q){Q:Value->Shared->Prop}{E:Value->Shared->Prop}(hq:∀tk,Q (.bool q) {s with toks:=tk}):
  wpAny (model J b1.w) A (call (.builtin "isinstance") [x,fq b]) Q E s:=by
 have X:=C.X.keeps S.ground;have h1:=C.isi a b q e;have hs:=uB t;have ht:=TR.strip ht;rw[<-zW] at ha;generalize strip t=t at hs ht ha;have cl:∀{k:Nat}{x:Value}{p:Heap->Prop},some k=some a->KitX K x (fq k) p->p s.heap->x≠ .builtin "__main__.__loader__#opaque"->wpAny (model J b1.w) A (call (.builtin "isinstance") [x,fq b]) Q E s:=λe hk hp hx=>by
  have e:=ai e;subst e;exact kia_one hk X hp h1 hx hq
 cases t<;>first|exact nso ha|skip
 .have ht:=ht;subst ht;exact cl ha kitx_none trivial nofun
 .have ht:=ht;subst ht;exact cl ha kitx_bool trivial nofun
 ·(refine ag ht λ_ bo=>?_;clear ht;subst bo);exact cl ha kitx_int trivial nofun
 ·(refine ag ht λ_ bo=>?_;clear ht;subst bo);exact cl ha kitx_str trivial nofun
 ·(refine ag ht λ_ bo=>?_;clear ht;subst bo);exact cl ha kitx_bytes trivial nofun
 ·(refine a9 ht λ_ _ _ D=>aw D λc2 ho _=>?_;clear D;subst c2);exact cl ha kitx_list ⟨_,S.fr _ _ ho,rfl⟩ nofun
 ·(refine a9 ht λ_ _ _ D=>aw D λc2 ho _=>?_;clear D;subst c2);exact cl ha kitx_tuple ⟨_,S.fr _ _ ho,rfl⟩ nofun
 ·(refine a9 ht λ_ _ _ D=>aw D λc2 ho _=>?_;clear D;subst c2);exact cl ha kitx_dict ⟨_,S.fr _ _ ho,rfl⟩ nofun
 .refine ac (eU ha) λhC ha=>?_;have ha:=ai ha;clear cl;subst ha;(refine bH ht λI d od m cv=>bK cv λc2 ho c _=>?_;clear cv;clear ht;subst c2);rw[show fq _= .ref _ by unfold fq;exact rwm _ rfl (if_neg (Nat.not_le_of_gt hC))] at h1;exact kia_one (zU C e hC) X ⟨S.fr _ _ ho,rfl,rfl,S.fr _ _ c⟩ h1 (by intro z;cases z) hq
 .exact absurd rfl (hs _ _)
set_option tactic.hygienic true in
theorem zY{B:Except Addr Nat×af}(q:x9 (.own i) O=some B):∃Q o,O[i]? =some Q/\B=(.ok o,O)/\(match Q with| .sh C _=>o=C/\C>7| .list _=>o=5| .dict _=>o=6| .fz t=>lN t=some o|_=>False):=by
 refine al (dF q) λQ f q=>?_;cases Q<;>first|((first|exact nso q|cases q);done)|skip
 .cases q;exact⟨_,5,f,rfl,rfl⟩
 .cases q;exact⟨_,6,f,rfl,rfl⟩
 .refine al (du q) λo e1 e2=>?_
  split at e1
  .rename_i hC;cases e1;exact⟨_,_,f,e2,rfl,hC⟩
  .exact nso e1
 .refine al (du q) λo e1 e2=>⟨_,_,f,e2,e1⟩
theorem Iw(C:nh K b1 P)(hu:VR b1.w g b2 u x)(hv:VR b1.w g b2 v y):aa J b1 r l A (RV b1.w) g b2 (call (.builtin "isinstance") [x,y]) (t5 P.isi u v):=by
 intro O B s bs Y a b S q;have hu:=VR.mono a b _ _ hu;have hv:=VR.mono a b _ _ hv
 cases v with
 |own i=>exact nso q
 |t c=>
  have cl:∀{o m:Nat}{c':Bool}{M:af}{B},qy c=some m->(bm (om (qy c)) λm=>om ((P.isi o m).map λr=>V.t (.bool r)):MM V) M=some B->∃q',P.isi o m=some q'/\B=(.ok (.t (.bool q')),M):=by
   intro o m c' M B hc q;refine al (dG q) λG hm q=>?_;rw[hc] at hm;cases hm;(refine ag (du q) λ_ c1=>ac c1 λe1 bo=>?_;clear c1;subst bo);(refine ag (Option.map_eq_some_iff.mp e1) λq' c1=>ac c1 λe2 bo=>?_;clear c1;subst bo);exact⟨q',e2,rfl⟩
  have q:=q;have L:∀(q':Bool)(tk:Tok),PQ (RV b1.w) b1 r l s bs Y (.ok (.t (.bool q')),O) (.bool q') {s with toks:=tk}:=λq' tk=>PQ.vt S yE
  cases u with
  |t t=>
   refine al (dG q) λo hn q=>al (dG q) λm hm _=>?_;(refine ag (cl (c':=true) hm q) λq' c1=>ac c1 λe1 bo=>?_;clear c1;subst bo);refine rwm _ ?_ (zV hm hv);exact zX C S hu hn e1 λtk=>L q' tk
  |own i=>
   (refine ag hu λad c1=>ac c1 λj bo=>?_;clear c1;clear hu;subst bo);(refine bc λno=>a2 (ed q) (λzz=>aq zz λo c6 bi=>ac bi λe0 q=>no ?_) (λzz=>aq zz λc' c6 bi=>ac bi λe0 _=>no ?_)<;>clear bi zz no)
   .refine b9 (zY e0) λQ p f e1 k=>?_;cases e1;have w:=S.own i Q ad f j;have X:=C.X.keeps S.ground;refine al (dG q) λm hm _=>?_;(refine ag (cl (c':=true) hm q) λq' c1=>ac c1 λe1 bo=>?_;clear c1;clear q;subst bo);refine rwm _ ?_ (zV hm hv);cases Q<;>simp only at k<;>first|(exact k.elim)|skip
    .clear q;subst k;refine cS w λys ep ho _=>kia_one kitx_list X ⟨_,ho,rfl⟩ (C.isi _ _ _ e1) (by intro z;cases z) λtk=>L q' tk
    .clear q;subst k;refine cS w λes ep ho _=>kia_one kitx_dict X ⟨_,ho,rfl⟩ (C.isi _ _ _ e1) (by intro z;cases z) λtk=>L q' tk
    ·(refine ac k λc2 hC=>?_;clear k;subst c2);(refine h9 w λd od G h1 h2 _=>?_;clear w);have h3:=C.isi _ _ _ e1;rw[show fq o= .ref o from by unfold fq;exact rwm _ rfl (if_neg (Nat.not_le_of_gt hC))] at h3;exact kia_one (zU C e1 hC) X ⟨S.fr _ _ h1,rfl,rfl,S.fr _ _ h2⟩ h3 (by intro z;cases z) λtk=>L q' tk
    .exact zX C S w k e1 λtk=>L q' tk
   .refine b9 (zY e0) λQ p f e1 k=>?_;cases e1
theorem Ix(q:cY (t::U)=some ns):∃i f,t= .int i/\cY U=some f/\i::f=ns:=by
 cases t<;>first|exact nso q|skip
 refine al (Option.map_eq_some_iff.mp q) λf e1 e2=>⟨_,f,rfl,e1,e2⟩
theorem uW:∀{U:List T}{ns:List Int}{ys:List Value},cY U=some ns->TRs b1.w g U ys->IntsAre ys ns/\ns.length=U.length
 |[],ns,ys,q,h=>by cases q;have h:=h;subst h;exact⟨.nil,rfl⟩
 |x::U,ns,ys,q,h=>by
  (refine aq (Ix q) λi f c3=>aw c3 λc2 e1 cr=>?_;clear c3;clear q;subst c2;subst cr);(refine aq h λy rr c3=>aw c3 λc2 c h2=>?_;clear c3;clear h;subst c2;rcases c with⟨t,rfl⟩);refine ac (uW e1 h2) λC H=>⟨.cons i t C,hS (·+1) H⟩
theorem zZ:∀{ns:List Int}{m:Int},oJ ns=some m->m∈ns/\∀a∈ns,a<=m
 |[],m,q=>by exact nso q
 |[a],m,q=>by cases q;exact⟨.head _,λb hb=>by refine rwm _ ?_ (List.mem_singleton.mp hb);exact Int.le_refl _⟩
 |a::b::r,m,q=>by
  have q:=q;(refine ag (Option.map_eq_some_iff.mp q) λk c1=>ac c1 λe1 bo=>?_;clear c1;clear q;subst bo);refine ac (zZ e1) λC H=>?_
  by_cases hk:k>a
  .refine rwm _ ?_ (ec hk);exact⟨.tail _ C,λc hc=>by
    (refine a2 (hG.mp hc) (λzz=>?_) (λhc=>?_);clear q;subst zz;rotate_left;rotate_right)
    .exact Int.le_of_lt hk
    .exact H c hc⟩
  .refine rwm _ ?_ (hX hk);exact⟨.head _,λc hc=>by
    (refine a2 (hG.mp hc) (λzz=>?_) (λhc=>?_);clear q;subst zz;rotate_left;rotate_right)
    .exact Int.le_refl _
    .have:=H c hc;exact Int.le_trans this (Int.not_lt.mp hk)⟩
theorem Iy{l:List Int}(h:i<l.length):l.getD i 0∈l:=by
 refine rwm _ (rwm _ ?_ (hW h)) (List.getD_eq_getElem?_getD);exact List.getElem_mem h
theorem Iz{vs:List Value}{Q:Value->Shared->Prop}{E:Value->Shared->Prop}(hh:A.handled=none)(hl:s.heap.IsList a vs.toArray)(hi:IntsAre vs ns)(hm:oJ ns=some m)
  (h:∀b5 t tk,(∀b o,s.heap.get? b=some o->b5.get? b=some o)->Q (.int m t) {s with heap:=b5,toks:=tk}):wpAny (model J b1.w) A (call (.builtin "max") [.ref a]) Q E s:=by
 refine ac (zZ hm) λm1 m2=>ag hi.allInts.items λU e=>?_;have ct:ns=U.toList.map (·.1):=by rw[<-hi.numsOf,<-nums_intItems,<-e]
 have bb:ns.length=U.size:=by rw[ct,List.length_map,Array.length_toList]
 have cp:0<U.size:=by refine rwl _ ?_ bb;exact List.length_pos_of_mem m1
 rw[e] at hl;refine max_intList hh hl cp λv b5 tk hv hk=>?_;(refine ag (intItems_at hv) λt bo=>?_;clear hv;subst bo);refine ac (argBest_gt (numAt U) (U.size - 1)) λh1 h2=>?_;have e1:numAt U (argBest (λi j=>decide (numAt U i>numAt U j)) (U.size - 1))=m:=by
  refine Int.le_antisymm (m2 _ ?_) ?_
  .rw[ct,numAt_eq];exact Iy (by rw[List.length_map,Array.length_toList];exact hQ h1 (Nat.sub_lt cp (Nat.succ_pos 0)))
  .rw[ct] at m1;(refine bc λno=>ag (List.getElem_of_mem m1) λj c1=>ag c1 λhj c=>no ?_;clear c1 no);rw[List.length_map,Array.length_toList] at hj;have:=h2 j (Nat.le_sub_one_of_lt hj);rw[numAt_eq] at this;rw[List.getD_eq_getElem?_getD,List.getElem?_eq_getElem (by rw[List.length_map,Array.length_toList];exact hj),Option.getD_some,c] at this;exact this
 refine rwm _ ?_ e1;exact h b5 t tk hk
theorem PQ.keepT{s:Shared}{b5:Heap}{tk:Tok}(S:St b1 r g b2 l O s.heap)(k:∀b o,s.heap.get? b=some o->b5.get? b=some o)(ht:TR b1.w g t x):PQ (RV b1.w) b1 r l s g b2 (.ok (.t t),O) x {s with heap:=b5,toks:=tk}:=
 ⟨g,b2,_,rfl,⟨⟨b5,tk,rfl⟩,.refl _,.refl _⟩,S.keep k,ht⟩
theorem PQ.new{s:Shared}{b5:Heap}{tk:Tok}(S:St b1 r g b2 l O s.heap)(hn:s.heap.get? D=none)(k:∀b o,s.heap.get? b=some o->b5.get? b=some o)(hf:isFz Q=false)(ho:OR b1.w g (b2++[D]) b5 Q D):
  PQ (RV b1.w) b1 r l s g b2 (.ok (.own O.length),O++[Q]) (.ref D) {s with heap:=b5,toks:=tk}:=
 ⟨g,b2++[D],_,rfl,⟨⟨b5,tk,rfl⟩,.refl _,.app _ _⟩,S.alloc hn k hf ho,D,by refine rwl _ ?_ S.len;simp,rfl⟩
theorem z0(h:g a=some ⟨.type "range",.none,.fields #[.int i t,.int j u,.int 1 v],#[]⟩):TR b1.w g (.range i j) (.ref a):=by
 exact⟨a,t,u,v,rfl,h⟩
theorem qZ{a b:Int}{l:List Int}:kj a (b::l)=if b<a then b::kj a l else a::b::l:=rfl
theorem uX(a:Int):∀l:List Int,(kj a l).Perm (a::l)
 |[]=> .refl _
 |b::l=>by
  by_cases hb:b<a
  .rw[qZ,if_pos hb];exact((uX a l).cons b).trans (List.Perm.swap a b l)
  .rw[qZ,if_neg hb]
theorem z8:∀l:List Int,(iL l).Perm l
 |[]=> .refl _
 |a::l=>(uX a _).trans ((z8 l).cons a)
theorem z9(a:Int):∀{l:List Int},l.Pairwise (·<=·)->(kj a l).Pairwise (·<=·)
 |[],_=>List.pairwise_singleton _ _
 |b::l,h=>by
  rw[List.pairwise_cons] at h
  by_cases hb:b<a
  .rw[qZ,if_pos hb,List.pairwise_cons];exact⟨λc hc=>by
    (refine a2 (hG.mp ((uX a l).mem_iff.mp hc)) (λzz=>?_) (λhc=>?_);subst zz;rotate_left;rotate_right)
    .exact Int.le_of_lt hb
    .exact h.1 c hc,z9 a h.2⟩
  .rw[qZ,if_neg hb,List.pairwise_cons,List.pairwise_cons];exact⟨λc hc=>by
    (refine a2 (hG.mp hc) (λzz=>?_) (λhc=>?_);subst zz;rotate_left;rotate_right)
    .exact Int.not_lt.mp hb
    .have:=h.1 c hc;exact Int.le_trans (Int.not_lt.mp hb) this,h⟩
theorem Aa:∀l:List Int,(iL l).Pairwise (·<=·)
 |[]=> .nil
 |a::l=>z9 a (Aa l)
theorem IA{l m:List Int}(hp:l.Perm m)(h1:l.Pairwise (·<=·))(h2:m.Pairwise (·<=·)):l=m:=hp.eq_of_pairwise (λa b _ _ x y=>Int.le_antisymm x y) h1 h2
theorem Ab:∀{ys:List Value}{ns:List Int},IntsAre ys ns->TRs b1.w g (ns.map .int) ys
 |_,_,.nil=>rfl
 |_,_,.cons n t h=>by exact⟨_,_,rfl,iT,Ab h⟩
theorem Ac:∀{N:List (aj×T)}{ps:List (aj×Value)}{ns:List Int}{vs:List Value},cY (N.map λp=>dO p.1)=some ns->ps.map (·.1)=N.map (·.1)->vs.length=ps.length->
  (∀(j:Nat)(v:Value),vs[j]? =some v->∃k x,ps[j]? =some (k,x)/\gc k v=true)->IntsAre vs ns/\ns.length=vs.length
 |[],ps,ns,vs,q,h1,h2,h3=>by
  cases q
  cases ps with
  |nil=>cases vs with
   |nil=>exact⟨.nil,rfl⟩
   |cons a b=>simp at h2
  |cons a b=>simp at h1
 |(k,t)::N,ps,ns,vs,q,h1,h2,h3=>by
  cases ps with
  |nil=>simp at h1
  |cons p ps=>
   rcases p with⟨m,d⟩;simp only[List.map_cons,List.cons.injEq] at h1
   cases vs with
   |nil=>simp at h2
   |cons v vs=>
    refine cS (h3 0 v rfl) λU x e1 e2=>?_;simp only[List.getElem?_cons_zero,Option.some.injEq,Prod.mk.injEq] at e1;(refine ac e1 λc2 bo=>?_;clear e1;subst c2;subst bo);rw[List.map_cons] at q
    cases k with
    |str x=>exact nso (show(none:Option (List Int))=some ns from q)
    |int i=>
     (refine ag (Option.map_eq_some_iff.mp (show(cY (N.map λp=>dO p.1)).map (i::·)=some ns from q)) λf c1=>ac c1 λe3 bo=>?_;clear c1;clear q;subst bo);refine ac (Ac e3 h1.2 (by simpa using h2) λj v hj=>h3 (j+1) v (by simpa using hj)) λC H=>?_;rw[h1.1] at e2;(refine ag (rv e2) λtk bo=>?_;clear h2 h3 e2;subst bo);exact⟨.cons i tk C,by simp [H]⟩
theorem IB{ps:List (aj×Value)}{N:List (aj×T)}{ns:List Int}{Q:Value->Shared->Prop}{E:Value->Shared->Prop}(hh:A.handled=none)(lo:(a==sysModules)=false)(hd:s.heap.DictOf (kk J b1.w) a ps)(hp:ps.map (·.1)=N.map (·.1))
  (hn:cY (N.map λp=>dO p.1)=some ns)(c:ns.length<64)
  (h:∀b5 D ys ep tk,(∀b o,s.heap.get? b=some o->b5.get? b=some o)->s.heap.get? D=none->b5.get? D=some (dH ys ep)->IntsAre ys.toList (iL ns)->Q (.ref D) {s with heap:=b5,toks:=tk}):
  wpAny (model J b1.w) A (call (.builtin "sorted") [.ref a]) Q E s:=by
 refine ag hd.dictAt λep t=>?_;have bb:ns.length=ps.length:=by
  have h2:∀{U:List T}{ns:List Int},cY U=some ns->ns.length=U.length:=by
   intro U
   induction U with
   |nil=>intro ns q;cases q;rfl
   |cons x U ih=>
    intro ns q;cases x<;>first|((first|exact nso q|cases q);done)|skip
    (refine ag (Option.map_eq_some_iff.mp q) λf c1=>ac c1 λe1 bo=>?_;clear c1;subst bo);simp [ih e1]
  refine a0 (h2 hn) ?_;simpa using(hS List.length hp).symm
 have cp:ps.length<=sizeLine:=by refine rwm _ ?_ nf;exact EY c bb
 refine call_function_entry kind_sorted plain_sorted entry_sorted (args_sorted1 _) ?_;unfold Builtin.«sorted»;refine ae (m:=checkCount "sorted" 1 1 _) (ar ?_);refine ae (kdu_collect (A:=A.in1) (kdl_dict (knd:=kk J b1.w) (kvs:=ps) (ep:=ep) lo) hh t cp λb5 tk be hk d3=>?_);have hl:be.toList.length=ps.length:=by refine a0 en ?_;exact d3.1
 refine ae (wpAny_newList ?_ (by refine rwm _ ?_ hl;exact cp));(refine ac (Ac hn hp hl λj v hj=>d3.2 j v (by refine rwl _ ?_ (po);exact hj)) λC H=>?_);have ho:(b5.push (seqObj "list" be.toList.toArray 0)).get? b5.objs.size=some (seqObj "list" be.toList.toArray 0):=ea _ rfl;refine ae (hy (wpAny_call_entry slot_list_sort ⟨_,ho,rfl⟩ entry_list_sort (list_sort_tree ho C (EZ c bb hl) λk w a1 d B=>⟨_,rfl,?_⟩) (args_list_sort _)));refine ag (sortedHeap_at (out:=k) ho) λe he=>?_;have ct:=IA (d.trans (z8 ns).symm) B (Aa ns);clear d B;subst ct;refine ar ⟨_,rfl,h _ b5.objs.size k e _ (λb o i=>?_) ?_ he a1⟩
 .have hb:=ms (hk b o i);refine a0 (sortedHeap_old (mm hb) (by rw[size_push'];exact Nat.lt_succ_of_lt hb)) (rwm _ ?_ (Heap.get?_push_ne _ _ _ (mm hb)));exact hk b o i
 .cases q:s.heap.get? b5.objs.size with
  |none=>rfl
  |some o=>exact absurd (ms (hk _ _ q)) (ko _)
theorem Ad:entryFor table "dict.update.loop"=some Builtin.«dict.update.loop»:=entryFor_of_tree (by lk)
theorem rb:plainId "dict.update.loop"=true:=by decide+kernel
theorem IC:typeLookup (.type "list") "keys"=pure none:=am_miss_of_fast (by lk)
theorem ID{Q:Option Value->Shared->Prop}{E:Value->Shared->Prop}(hx:s.heap.get? a=some (dH U k))(hA:A.handled=none)
  (hq:∀b5 tk,(∀b o,s.heap.get? b=some o->b5.get? b=some o)->Q none {s with heap:=b5,toks:=tk}):wpAny (model J b1.w) A (getAttr? (.ref a) "keys") Q E s:=by
 rcases s with⟨hp,g,d,tk,os⟩;have hT:∀i,(⟨hp,g,d,i,os⟩:Shared).TypeIs (.ref a) "list":=λ_=>⟨_,hx,rfl⟩;have f1:=sub_AttributeError;have v:=qq.lookup;have t:=qq.bind (.ref a);have y:=am_list_getattr_none;unfold getAttr? getAttrBy?;refine ae (wpAny_mkText (ae (wpAny_attempt ?_)));unfold getAttrBy
 repeat (any_goals (first|assumption|exact hT _|((with_reducible show wpAny _ _ (call (Value.builtin "list.__getattribute__") _ _) _ _ _);refine s0 qq (hT _) am_entry_list_getattribute (F.args_list_getattribute_2 _ _) (meets_getattribute_miss_list a U k #[] (Str.ofString "keys") _ IC (by decide)) ⟨hx,hA,λb5 i e M=>?_⟩)|wp_step))
 (refine bc λno=>aq M.there λt' C he=>no ?_;clear no);show wpAny _ _ (getattributeRaised _ _ _ _ _ _ _) _ _ _;unfold getattributeRaised
 repeat (any_goals (first|assumption|wp_step))
 exact hq _ _ M.keeps
def Ae(w:World)(g:ay)(v:Value)(kt:aj×T):Prop:=∃t G B ep,v= .ref t/\g t=some ⟨.type "tuple",.none,.seq #[G,B] ep,#[]⟩/\gc kt.1 G=true/\TR w g kt.2 B
set_option tactic.hygienic true in
theorem IE(q:fu (x::U)=some N):∃k v kk l,x= .tuple [k,v]/\cE k=some kk/\fu U=some l/\N=(kk,v)::l:=by
 cases x<;>first|exact nso q|skip
 rename_i ts
 rcases ts with _|⟨k,_|⟨v,_|⟨z,ts⟩⟩⟩<;>first|exact nso q|skip
 have q:(match cE k,fu U with|some k,some l=>some ((k,v)::l)|_,_=>none)=some N:=q
 cases e1:cE k with
 |none=>rw[e1] at q;exact nso q
 |some kk=>
  cases e2:fu U with
  |none=>rw[e1,e2] at q;exact nso q
  |some l=>rw[e1,e2] at q;exact⟨k,v,kk,l,rfl,e1,rfl,(ai q).symm⟩
theorem Af:∀{U:List T}{N:List (aj×T)}{ys:List Value},fu U=some N->TRs b1.w g U ys->N.length=ys.length/\∀(i:Nat) v,ys[i]? =some v->∃kt,N[i]? =some kt/\Ae b1.w g v kt
 |[],N,ys,q,h=>by cases q;subst h;exact⟨rfl,λi v e=>by simp at e⟩
 |x::U,N,ys,q,h=>by
  (refine aq h λy rr c3=>aw c3 λc2 h1 h2=>?_;clear c3;clear h;subst c2);(refine bH (IE q) λk v kk l cv=>bK cv λc2 hk hl bo=>?_;clear cv;subst c2;subst bo);refine ac (Af hl h2) λC H=>⟨hS (·+1) C,λi v' e=>?_⟩
  cases i with
  |zero=>
   have e:=ai e;subst e;(refine a9 h1 λa m ep D=>aw D λc2 ho f=>?_;clear D;subst c2);(refine bc λno=>aq f λG r1 cd=>aw cd λe1 t1 M=>aq M λB r2 c3=>aw c3 λe2 I e3=>no ?_;clear c3 M cd f no);subst e3 e2;have:m= #[G,B]:=by
    obtain⟨l⟩:=m;simp only at e1;exact rwm _ rfl e1
   clear e1;subst this;exact⟨_,rfl,a,G,B,ep,rfl,ho,jz hk t1,I⟩
  |succ i=>exact H i v' e
theorem IF{L:Shared}{a D I:Addr}{ys:Array Value}{N:List (aj×T)}{k:Heap}{c:Value}{R:Result->Shared->Prop}(hh:A.handled=none)(q:∃ep,k.get? a=some (dH ys ep))(c1:k.get? D=none)(bl:k.get? I=none)(ct:D≠I)(bb:N.length=ys.size)
  (hg:∀b o,g b=some o->k.get? b=some o)(hp:∀(i:Nat) v,ys.toList[i]? =some v->∃kt,N[i]? =some kt/\Ae b1.w g v kt)(cp:N.length<=sizeLine)
  (hR:∀(s:Shared)(ps:List (aj×Value)),(∃b5 tk,s={L with heap:=b5,toks:=tk})->(∀b o,k.get? b=some o->s.heap.get? b=some o)->s.heap.DictOf (kk J b1.w) D ps->DP b1.w g (N.foldl (λd p=>bj d p.1 p.2) []) ps->R (.ok (.ret c)) s)
  :∀(m i:Nat)(s:Shared)(ps:List (aj×Value))(dn:List (aj×T)),(∃b5 tk,s={L with heap:=b5,toks:=tk})->m=N.length - i->i<=N.length->(∀b o,k.get? b=some o->s.heap.get? b=some o)->s.heap.DictOf (kk J b1.w) D ps->DP b1.w g dn ps->dn=(N.take i).foldl (λd p=>bj d p.1 p.2) []->ps.length<=i->
   s.heap.IsListIter I a i->codeAny (model J b1.w) A (.builtin "dict.update.loop" ⟨[.ref D,.ref I,rawInt i,c],[]⟩) R s:=by
 intro m
 induction m with
 |zero=>
  intro i s ps dn hs hm hi hk hd E j Q d5;have c6:=Nat.le_antisymm hi (Nat.le_of_sub_eq_zero hm.symm);refine ag q λep q=>?_;have hl:s.heap.IsList a ys:=⟨_,hk _ _ q,rfl,ep,rfl⟩;refine codeAny_builtin Ad ?_;refine rwm _ ?_ (Around.under_plainId rb _);unfold Builtin.«dict.update.loop»;show wpAny _ _ (pyNext (.ref I)>>=_) _ _ _;refine ae (wpAny_pyNext_list_end hh d5 hl (by refine rwm _ (rwm _ ?_ bb) c6;simp) λb5 hx=>?_);show wpAny _ _ (Builtin.Dict.addKeywords D []>>=λ_=>ret c) _ _ _;refine ae (ar (ar ?_));refine bc λno=>aq hs λh1 t1 hs=>no (hR _ ps ⟨b5,s.toks,by exact rwm _ rfl hs⟩ (λb o e=>hx b o (λz=>by subst z;rw[bl] at e;exact nso e) (hk b o e)) ?_ (by rw[j,c6,List.take_length] at E;exact E));refine dp hd λo es cf ho r1 r2 r3 r4=>⟨o,es,cf,hx _ _ ct ho,r1,r2,r3,r4⟩
 |succ m ih=>
  intro i s ps dn hs hm hi hk hd E j Q d5;have U:=D9 hm;(refine ag q λep bo=>?_;clear q);have hl:s.heap.IsList a ys:=⟨_,hk _ _ bo,rfl,ep,rfl⟩;refine codeAny_builtin Ad ?_;refine rwm _ ?_ (Around.under_plainId rb _);unfold Builtin.«dict.update.loop»;show wpAny _ _ (pyNext (.ref I)>>=_) _ _ _;have C:i<ys.size:=by refine rwl _ ?_ bb;exact U
  refine ae (wpAny_pyNext_list_item d5 hl (lv C) λb5 bi c3=>?_);(refine bc λno=>ag (hp i ys[i] (by exact rwm _ (rwm _ rfl (lv C)) (po))) λkt cs=>ac cs λM cd=>bH cd λt G B cf cv=>bK cv λe1 e2 e3 e4=>no ?_;clear cv cd cs no);refine rwm _ ?_ e1;have Y:∀b o,k.get? b=some o->b5.get? b=some o:=λb o e=>c3.extBut b o (λz=>by clear d5;subst z;rw[bl] at e;exact nso e) (hk b o e);have ht:=Y _ _ (hg _ _ e2);have c9:b5.DictOf (kk J b1.w) D ps:=by
   refine dp hd λo es y ho r1 r2 r3 r4=>⟨o,es,y,c3.extBut _ _ ct ho,r1,r2,r3,r4⟩
  refine ae (hy (ae (wpAny_tryCatch ?_)));unfold Builtin.Dict.pairItems;refine ae (wpAny_typeOf ⟨_,ht,rfl⟩ ?_);refine rwm _ ?_ (ec (by decide));refine ae (wpAny_seqItems ht rfl (ar ?_));show wpAny _ _ (holding [G,B] (dictSet D G B)) _ _ _;refine hy (wpAny_dictSet_pairs e3 c9 (λw bs H=>?_) (Ea cp hm Q));refine ar ⟨plainId_quiet rb _,?_⟩;have c2:∀b o,k.get? b=some o->b≠D:=λb o e z=>by clear hR hd c9;subst z;rw[c1] at e;exact nso e
  have be:((i:Nat):Int)+1=((i+1:Nat):Int):=by push_cast;rfl
  have f:=ih (i+1) {s with heap:=w,toks:=s.toks+1} (stored ps kt.1 B) (bj dn kt.1 kt.2) (by refine bc λno=>aq hs λh1 t1 hs=>no (⟨w,s.toks+1,by exact rwm _ rfl hs⟩)) (Eb hm) U (λb o e=>H.extBut b o (c2 b o e) (Y b o e)) bs (E.put e4) (by
    rw[List.take_add_one,M,Option.toList_some,List.foldl_append,<-j];rfl) (by
    have:(stored ps kt.1 B).length<=ps.length+1:=by
     unfold stored;split<;>simp
    exact a6 this (i2 Q)) (by
    refine al bi λo ho r=>⟨o,H.extBut _ _ ct.symm ho,r⟩)
  rw[<-be] at f;exact f
theorem IG{ys:Array Value}{N:List (aj×T)}{Q:Value->Shared->Prop}{E:Value->Shared->Prop}(hh:A.handled=none)(ho:s.heap.get? a=some (dH ys ep))(hq:fu U=some N)(f:TRs b1.w g U ys.toList)
  (hg:∀b o,g b=some o->s.heap.get? b=some o)(cp:N.length<=sizeLine)
  (m:∀b5 tk ps,(∀b o,s.heap.get? b=some o->b5.get? b=some o)->b5.DictOf (kk J b1.w) s.heap.objs.size ps->DP b1.w g (N.foldl (λd p=>bj d p.1 p.2) []) ps->Q (.ref s.heap.objs.size) {s with heap:=b5,toks:=tk}):
  wpAny (model J b1.w) A (call (.type "dict") [.ref a]) Q E s:=by
 refine callType_codes (Q₁:=λz cf=>z= .ref s.heap.objs.size/\cf={s with heap:=s.heap.push {cls:= .type "dict",data:= .dict #[]}}) F.kt_called_dict (F.kt_typeCall_dict_1 _) F.entry_dict_init (kt_code_dict_new _ ⟨rfl,rfl⟩) ?_
 rintro z cf ⟨rfl,rfl⟩
 have q:(s.heap.push {cls:= .type "dict",data:= .dict #[]}).DictOf (kk J b1.w) s.heap.objs.size []:=Heap.DictOf.new s.heap;have w:(s.heap.push {cls:= .type "dict",data:= .dict #[]}).get? a=some (dH ys ep):=a3 _ ho;refine⟨q.typeIs,F.args_dict_init_2 _ _,?_⟩;unfold Builtin.«dict.__init__»;refine ae ?_;unfold Builtin.Dict.selfAndRest;refine ae (wpAny_notOrdered_dict q.typeIs ?_);show wpAny _ _ (pure (s.heap.objs.size,[Value.ref a])) _ _ _;refine ar ?_;show wpAny _ _ (Builtin.Dict.updateFrom "dict.__init__" s.heap.objs.size (.ref a) [] .none) _ _ _;unfold Builtin.Dict.updateFrom;refine ae (wpAny_typeOf ⟨_,w,rfl⟩ ?_);refine rwm _ ?_ (ec (by decide));refine ae (ID w hh λc tk hk=>?_);refine rwm _ ?_ (ec (show(none:Option Value).isNone=true from rfl));refine ae (wpAny_rule ?_);have be:c.IsList a ys:=⟨_,hk _ _ w,rfl,ep,rfl⟩;refine ae (wpAny_pyIter_list be ?_);have t:∀b o,s.heap.get? b=some o->(c.push {cls:= .type "list_iterator",data:= .fields #[.ref a,.int 0 0]}).get? b=some o:=λb o e=>a3 _ (hk _ _ (a3 _ e));have j:=hk _ _ (ea _ rfl);have ct:=mm (ms j);refine ac (Af hq f) λp1 p2=>?_;have C:=ms j;refine ar ⟨plainId_quiet rb _,?_⟩;refine IF (A:=A.in1) (L:=s) (D:=s.heap.objs.size) (I:=c.objs.size) (N:=N) (ys:=ys) (k:=s.heap) hh ⟨ep,ho⟩ (cV _) (pB (l3 C)) ct (by exact rwm _ (rwm _ rfl en) p1) hg p2 cp (λs' ps v Y c9 B=>?_)
  _ 0 _ [] [] ⟨_,_,rfl⟩ rfl (i1 _) t (by
   refine d0 ((q:(s.heap.push {cls:= .type "dict",data:= .dict #[]}).DictOf (kk J b1.w) s.heap.objs.size [])) λo es y q1 q2=>⟨o,es,y,a3 _ (hk _ _ q1),q2⟩) .nil rfl (hY _) ⟨_,ea _ rfl,rfl,rfl⟩
 (refine aq v λb5 i cr=>?_;clear v;subst cr);exact⟨rfl,m b5 i ps Y c9 B⟩
theorem uY{α β γ:Type}{f:α->γ}{b:β->γ}{l:List α}{N:List β}(h:l.map f=N.map b):l.length=N.length:=by
 have:=hS List.length h
 rwa [ln,ln] at this
theorem jC(h:aJ k=true):k<=sizeLine:=hK h
theorem rd(q:ic n=some k):aJ n=true/\n=k:=by
 refine ac (eU q) λh e=>⟨h,ai e⟩
theorem IH(J:Program)(S:St b1 r g b2 l O s.heap)(ht:HR b1.w g s.heap t x)(q:ju t=some k){Q:Value->Shared->Prop}{E:Value->Shared->Prop}(hq:∀t tk,Q (.int k t) {s with toks:=tk}):
  wpAny (model J b1.w) A (call (.builtin "len") [x]) Q E s:=by
 revert ht;refine gN q (λq=>?_) (λq=>gN q (λq=>?_) (λq=>gN q (λq=>?_) (λq=>?_)))
 .refine kb q λU q ht=>?_;(refine ac (rd q) λhf bo=>?_;subst bo);(refine aq (il ht) λa ys c3=>aw c3 λc2 hl hs=>?_;clear c3;subst c2);have bb:=hs.len.trans (en);exact call_len_list hl (by refine rwl _ ?_ bb;exact nc hf) (by refine rwl _ ?_ bb;exact hq _ _)
 .refine FW q λU q ht=>?_;(refine ac (rd q) λhf bo=>?_;subst bo);(refine a9 ht λa ys ep D=>aw D λc2 ho hs=>?_;clear D;subst c2);have bb:=hs.len.trans (en);exact len_tuple ⟨_,S.fr _ _ ho,rfl,ep,rfl⟩ (by refine rwl _ ?_ bb;exact nc hf) (by refine rwl _ ?_ bb;exact hq _ _)
 .refine qt q λN q ht=>?_;(refine ac (rd q) λhf bo=>?_;subst bo);(refine aq (gh J ht) λa ps M=>bS M λc2 hs hd h1 h2=>?_;clear M;subst c2);have bb:=uY h1;exact call_len_dict hs hd (by refine rwm _ ?_ bb;exact nc hf) (by refine rwm _ ?_ bb;exact hq _ _)
 .refine ge q λU q ht=>?_;(refine ac (rd q) λhf bo=>?_;subst bo);(refine ag (gj ht) λt bo=>?_;subst bo);refine PySem.P.len_str ?_ (hq _ _);have:=nc hf;exact Int.not_le.mpr this
theorem II(G:Gl b1 P b7 mb)(hs:∃o,b1.B.get? sysModules=some o)(S:St b1 r g b2 l O s.heap):s.heap.objs.size≠sysModules:=uz G hs S
theorem IJ{B:Except Addr V×af}(S:St b1 r g b2 l O s.heap)(ht:HR b1.w g s.heap t x)(q:(eT t λs=>om ((x8 s.cps.toList).map λ(c:Nat)=>V.t (.int (c:Int))) O)=some B):wpAny (model J b1.w) A (call (.builtin "ord") [x]) (PQ (RV b1.w) b1 r l s g b2 B) (PE b1 r l s g b2 B) s:=by
 revert ht;refine ge q λz q ht=>?_;(refine ag (gj ht) λtk bo=>?_;clear ht;subst bo);(refine ag (du q) λ_ c1=>ac c1 λe1 bo=>?_;clear c1;clear q;subst bo);(refine ag (Option.map_eq_some_iff.mp e1) λc c1=>ac c1 λe2 bo=>?_;clear c1;clear e1 q;subst bo);obtain⟨⟨cl⟩⟩:=z;have hc:cl=[c]:=by
  rcases cl with _|⟨c',_|⟨b,cl⟩⟩
  .exact nso e2
  .exact hS (λc=>[c]) (ai e2)
  .exact nso e2
 subst hc;exact PySem.P.ord_of_char (PQ.vt S iT)
theorem IK{B:Except Addr V×af}(S:St b1 r g b2 l O s.heap)(ht:HR b1.w g s.heap t x)(q:(fL t λi=>(if 0<=i/\i<256 then pm (.t (.str ⟨#[i.toNat]⟩)) else λ_=>none:MM V) O)=some B):wpAny (model J b1.w) A (call (.builtin "chr") [x]) (PQ (RV b1.w) b1 r l s g b2 B) (PE b1 r l s g b2 B) s:=by
 revert ht;refine ib q λi q ht=>?_;(refine ag (eI ht) λtk bo=>?_;clear ht;subst bo);refine ac (cL q) λhi q=>?_;cases q;refine PySem.P.chr_of_int ?_ (PQ.vt S kp);refine rwm _ (rwm _ ?_ (li (Fs hi))) (li (Fr hi));rfl
theorem IL(hA:A.handled=none){B:Except Addr V×af}(S:St b1 r g b2 l O s.heap)(ht:HR b1.w g s.heap t x)(q:(fM t λU=>om (((cY U).bind oJ).map λi=>V.t (.int i)) O)=some B):wpAny (model J b1.w) A (call (.builtin "max") [x]) (PQ (RV b1.w) b1 r l s g b2 B) (PE b1 r l s g b2 B) s:=by
 revert ht;refine kb q λU q ht=>?_;(refine ag (du q) λ_ c1=>ac c1 λe1 bo=>?_;clear c1;clear q;subst bo);(refine ag (Option.map_eq_some_iff.mp e1) λm c1=>ac c1 λe2 bo=>?_;clear c1;clear e1 q;subst bo);refine al (Option.bind_eq_some_iff.mp e2) λns e3 e4=>?_;(refine aq (il ht) λad ys c3=>aw c3 λc2 hl hs=>?_;clear c3;clear ht;subst c2);refine ac (uW e3 hs) λC H=>Iz hA (by refine rwm _ ?_ Array.toArray_toList;exact hl) C e4 λb5 t tk hk=>PQ.keepT S hk iT
theorem IM(hA:A.handled=none){B:Except Addr V×af}(S:St b1 r g b2 l O s.heap)(ht:HR b1.w g s.heap t x)(q:(lL t λN=>bm (om (cY (N.map λp=>dO p.1))) (λl=>if l.length<64 then bP (.list ((iL l).map .int)) else λ_=>none) O)=some B):wpAny (model J b1.w) A (call (.builtin "sorted") [x]) (PQ (RV b1.w) b1 r l s g b2 B) (PE b1 r l s g b2 B) s:=by
 revert ht;refine qt q λN q ht=>al (dG q) λns e1 q=>ac (cL q) λc q=>?_;cases q;(refine aq (gh J ht) λad ps M=>bS M λc2 hs hd k1 k2=>?_;clear M;clear ht;subst c2);exact IB hA hs hd k1 e1 c λb5 D ys ep tk hk hn ho hI=>PQ.new S hn hk rfl ⟨ys,ep,ho,Ab hI⟩
theorem IN(hA:A.handled=none)(hv:VR b1.w g b2 v x):aa J b1 r l A (RV b1.w) g b2 (call (.builtin c) [x]) (bm (aE v) λt=>oK c t):=by
 refine aa.vw hv λO s bs Y t B a b S ht q=>gO q (λh q=>?_) λ_ q=>gO q (λh q=>?_) λ_ q=>gO q (λh q=>?_) λ_ q=>gO q (λh q=>?_) λ_ q=>gO q (λh q=>?_) λ_ q=>nso q
 .subst h;(refine ag (du q) λ_ c1=>ac c1 λe1 bo=>?_;clear c1;subst bo);(refine ag (Option.map_eq_some_iff.mp e1) λk c1=>ac c1 λe2 bo=>?_;clear c1;subst bo);exact IH J S ht e2 λt tk=>PQ.vt S iT
 .subst h;exact IJ S ht q
 .subst h;exact IK S ht q
 .subst h;exact IL hA S ht q
 .subst h;exact IM hA S ht q
theorem IO{B:Except Addr V×af}(S:St b1 r g b2 l O s.heap)(ht:HR b1.w g s.heap t x)(q:(fM t λU=>(if aJ U.length then bP (.list U) else λ_=>none:MM V) O)=some B):wpAny (model J b1.w) A (call (.type "list") [x]) (PQ (RV b1.w) b1 r l s g b2 B) (PE b1 r l s g b2 B) s:=by
 revert ht;refine kb q λU q ht=>ac (cL q) λhf q=>?_;cases q;(refine a9 ht λad ys ep D=>aw D λc2 ho hs=>?_;clear D;clear ht;subst c2);refine call_list_seq (hsz:=by refine rwl _ ?_ (hs.len.trans (en));exact jC hf) ad (.inl rfl) ho rfl rfl λb5 c' hk hD=>PQ.new (tk:=s.toks) S (cV _) hk rfl ⟨ys,c',hD,hs⟩
theorem IP(hA:A.handled=none)(ct:s.heap.objs.size≠sysModules){B:Except Addr V×af}(S:St b1 r g b2 l O s.heap)(ht:HR b1.w g s.heap t x)(q:(fM t λU=>bm (om (fu U)) (λN=>if aJ N.length then bP (.dict (N.foldl (λd p=>bj d p.1 p.2) [])) else λ_=>none) O)=some B):wpAny (model J b1.w) A (call (.type "dict") [x]) (PQ (RV b1.w) b1 r l s g b2 B) (PE b1 r l s g b2 B) s:=by
 revert ht;refine kb q λU q ht=>al (dG q) λN e1 q=>ac (cL q) λhf q=>?_;cases q;(refine a9 ht λad ys ep D=>aw D λc2 ho hs=>?_;clear D;clear ht;subst c2);exact IG hA ho e1 hs (λb o e=>S.fr b o e) (jC hf) λb5 tk ps hk hd E=>PQ.new S (cV _) hk rfl (oT hd E ct)
theorem IQ(ct:s.heap.objs.size≠sysModules){B:Except Addr V×af}(S:St b1 r g b2 l O s.heap)(ht:HR b1.w g s.heap t x)(q:(lL t λN=>(if aJ N.length then bP (.dict N) else λ_=>none:MM V) O)=some B):wpAny (model J b1.w) A (call (.type "dict") [x]) (PQ (RV b1.w) b1 r l s g b2 B) (PE b1 r l s g b2 B) s:=by
 revert ht;refine qt q λN q ht=>ac (cL q) λhf q=>?_;cases q;(refine aq (gh J ht) λad ps M=>bS M λc2 hs hd k1 k2=>?_;clear M;subst c2);have bb:=uY k1;refine kt_call_dict hs hd (by refine rwm _ ?_ bb;exact jC hf) λb5 c9 c3=>PQ.new S (cV _) (λb o e=>c3.extBut b o (mm (ms e)) (a3 _ e)) rfl (oT c9 ⟨k1,k2⟩ ct)
theorem IR{B:Except Addr V×af}(S:St b1 r g b2 l O s.heap)(ht:HR b1.w g s.heap t x)(q:(fL t λi=>(if i.natAbs<1000000 then pm (.t (.str (dq i))) else λ_=>none:MM V) O)=some B):wpAny (model J b1.w) A (call (.type "str") [x]) (PQ (RV b1.w) b1 r l s g b2 B) (PE b1 r l s g b2 B) s:=by
 revert ht;refine ib q λi q ht=>?_;(refine ag (eI ht) λtk bo=>?_;clear ht;subst bo);refine ac (cL q) λhi q=>?_;cases q;refine PySem.P.str_of_int ?_ (PQ.vt S kp);refine hQ ?_ (show 20<1920 by decide)
 by_cases hz:i.natAbs=0
 .refine rwm _ ?_ hz;exact i1 _
 .exact i5 ((Nat.log2_lt hz).mpr (by lia))
theorem IS{B:Except Addr V×af}(S:St b1 r g b2 l O s.heap)(ht:HR b1.w g s.heap t x)(q:(eT t λs=>(if s.length<=640 then om ((PySem.intText? s).map λi=>V.t (.int i)) else λ_=>none) O)=some B):wpAny (model J b1.w) A (call (.type "int") [x]) (PQ (RV b1.w) b1 r l s g b2 B) (PE b1 r l s g b2 B) s:=by
 revert ht;refine ge q λz q ht=>?_;(refine ag (gj ht) λtk bo=>?_;clear ht;subst bo);refine ac (cL q) λhz q=>?_;(refine ag (du q) λ_ c1=>ac c1 λe1 bo=>?_;clear c1;clear q;subst bo);(refine ag (Option.map_eq_some_iff.mp e1) λk c1=>ac c1 λe2 bo=>?_;clear c1;clear e1 q;subst bo);exact KIN.call_text e2 hz (PQ.vt S iT)
theorem IT(hA:A.handled=none){B:Except Addr V×af}(S:St b1 r g b2 l O s.heap)(ht:HR b1.w g s.heap t x)(q:(fM t λU=>bm (om (cY U)) (λl=>if(l.all λn=>decide (0<=n)&&decide (n<256))&&aJ l.length then pm (V.t (.bytes (l.map λn=>n.toNat.toUInt8).toArray)) else λ_=>none) O)=some B):wpAny (model J b1.w) A (call (.type "bytes") [x]) (PQ (RV b1.w) b1 r l s g b2 B) (PE b1 r l s g b2 B) s:=by
 revert ht;refine kb q λU q ht=>al (dG q) λns e1 q=>ac (cL q) λhc q=>?_;cases q;simp only[Bool.and_eq_true,List.all_eq_true,decide_eq_true_eq] at hc;(refine aq (il ht) λad ys c3=>aw c3 λc2 hl hs=>?_;clear c3;subst c2);refine ac (uW e1 hs) λC H=>?_;exact call_bytes_ints (by refine rwm _ ?_ Array.toArray_toList;exact hl) C hc.1 (by refine rwl _ (rwl _ ?_ H) hs.len;exact jC hc.2) hA λb5 t tk hk=>PQ.keepT S hk ⟨t,rfl⟩
theorem IU(hA:A.handled=none)(G:Gl b1 P b7 mb)(d:∃o,b1.B.get? sysModules=some o)(hv:VR b1.w g b2 v x):aa J b1 r l A (RV b1.w) g b2 (call (.type c) [x]) (bm (aE v) λt=>jv c t):=by
 refine aa.vw hv λO s bs Y t B a b S ht q=>?_;have ct:=II G d S;refine gO q (λh q=>?_) λ_ q=>gO q (λh q=>?_) λ_ q=>gO q (λh q=>?_) λ_ q=>gO q (λh q=>?_) λ_ q=>gO q (λh q=>?_) λ_ q=>gO q (λh q=>?_) λ_ q=>nso q
 .subst h;revert ht;refine ib q λi q ht=>?_;(refine ag (eI ht) λtk bo=>?_;clear hv;subst bo);cases q;exact call_range_1 (PQ.allocG S rfl (z0 (eS _ _ _)))
 .subst h;exact IO S ht q
 .subst h;exact gN q (λq=>IQ ct S ht q) λq=>IP hA ct S ht q
 .subst h;refine gN q (λq=>IR S ht q) λq=>?_;revert ht;refine ge q λz q ht=>?_;(refine ag (gj ht) λtk bo=>?_;clear hv;subst bo);cases q;exact PySem.P.str_of_str (PQ.vt S kp)
 .subst h;exact IS S ht q
 .subst h;exact IT hA S ht q
set_option tactic.hygienic true in
theorem IV(hA:A.handled=none)(G:Gl b1 P b7 mb)(d:∃o,b1.B.get? sysModules=some o)(C:nh K b1 P)(hf:TR b1.w g f m)(hv:LR (VR b1.w g b2) be U):
  aa J b1 r l A (RV b1.w) g b2 (call m U) (yb P f be):=by
 cases f<;>first|exact aa.none|skip
 .rename_i c
  subst hf;rcases be with _|⟨u,_|⟨v,_|⟨w,be⟩⟩⟩
  .exact aa.none
  ·(refine ag hv.one_inv λy c1=>ac c1 λc2 h1=>?_;clear c1;subst c2);exact IU hA G d h1
  ·(refine aq hv.two_inv λy z c3=>aw c3 λc2 h1 h2=>?_;clear c3;subst c2);show aa J b1 r l A _ g b2 _ (if c="range" then ya u v else λ_=>none)
   split
   .rename_i hr
    subst hr;intro O B s bs Y a b S q;revert h1 h2;refine bY q λt q=>ib q λi q=>bY q λt' q=>ib q λj q h1 h2=>?_;(refine ag h1 λt1 bo=>?_;clear h1;subst bo);(refine ag h2 λI bo=>?_;clear h2;subst bo);cases q;exact call_range_2 (PQ.allocG S rfl (z0 (eS _ _ _)))
   .exact aa.none
  .exact aa.none
 .rename_i c
  subst hf;rcases be with _|⟨u,_|⟨v,_|⟨w,be⟩⟩⟩
  .exact aa.none
  ·(refine ag hv.one_inv λy c1=>ac c1 λc2 h1=>?_;clear c1;subst c2);exact IN hA h1
  ·(refine aq hv.two_inv λy z c3=>aw c3 λc2 h1 h2=>?_;clear c3;subst c2);show aa J b1 r l A _ g b2 _ (if c="isinstance" then t5 P.isi u v else λ_=>none)
   split
   .rename_i hr
    subst hr;exact Iw C h1 h2
   .exact aa.none
  .exact aa.none
end
end Internal
end
noncomputable section
namespace Internal
open PySem PySem.W PySem.Calls PyProof.Rows Builtin Builtin.Str
section
variable {J:Program}{b1:Cx}{r g b6:ay}{b2 b4:List Addr}{l:List Env}{A:Around}{α β γ δ:Type}{P:bt}{b7 mb:PySem.Str->Option Value}{n:Nat}{rc:aG}{e ce:AE}{env bd:Env}{O:af}{h b5:Heap}{s:Shared}{K:Frag}
theorem uZ:∀(q:List (PySem.Str×Tok)),TRs b1.w g ((q.map (·.1)).map .str) (strValues q)
 |[]=>rfl
 |(x,t)::q=>by
  exact⟨_,_,rfl,kp,uZ q⟩
theorem IW{x y:PySem.Str}{t u:Tok}{Q:Value->Shared->Prop}{E:Value->Shared->Prop}(L:(y.length==0)=false)(cp:x.length+2<=sizeLine)
  (h:∀(q:List (PySem.Str×Tok)) tk,q.map (·.1)=Txt.split x y->Q (.ref s.heap.objs.size) {s with heap:=s.heap.push {cls:= .type "list",data:= .seq (strValues q).toArray},toks:=tk}):
  wpAny (model J b1.w) A (call (.builtin "str.split") [.str x t,.str y u]) Q E s:=by
 have hn:(partsBetween x (occurrences x y 0 x.length (x.length+1)) y.length).length<=sizeLine:=by
  rw[length_partsBetween];exact hQ (StrLaws.occ_length_le_len x y 0 x.length (x.length+1)) cp
 cases h1:(decide (x.length<y.length)||decide (Builtin.Str.strKind x<Builtin.Str.strKind y))
 .cases hf:(occurrences x y 0 x.length (x.length+1)).isEmpty
  .refine s0 pc (typeIs_str _ _ _) ow (F.args_str_split_2 _ _) (meets_str_split_sep x y t u h1 L hf (a6 (ix _ _) cp) hn) ?_;show wants Q E _ {s with toks:=_,heap:=s.heap.push {cls:= .type "list",data:= .seq (strsFrom s.toks (partsBetween x (occurrences x y 0 x.length (x.length+1)) y.length)).toArray}};rw[strsFrom_eq];exact h (numbered s.toks _) _ ((numbered_texts _ _).trans ((hX (mi h1)).trans (hX (mi hf))).symm)
  .exact s0 pc (typeIs_str _ _ _) ow (F.args_str_split_2 _ _) (meets_str_split_not_found x y t u h1 L hf)
    (h [(x,t)] s.toks ((hX (mi h1)).trans (ec hf)).symm)
 .exact s0 pc (typeIs_str _ _ _) ow (F.args_str_split_2 _ _) (meets_str_split_cannot_occur x y t u h1) (h [(x,t)] s.toks (ec h1).symm)
theorem IX{x y:PySem.Str}{t u v:Tok}{Q:Value->Shared->Prop}{E:Value->Shared->Prop}(L:(y.length==0)=false)(cp:x.length+2<=sizeLine)
  (h:∀(q:List (PySem.Str×Tok)) tk,q.map (·.1)=Txt.splitMax x y 1->Q (.ref s.heap.objs.size) {s with heap:=s.heap.push {cls:= .type "list",data:= .seq (strValues q).toArray},toks:=tk}):
  wpAny (model J b1.w) A (call (.builtin "str.split") [.str x t,.str y u,.int 1 v]) Q E s:=by
 have hk:(decide ((1:Int)< -(2^63:Int))||decide ((1:Int)>=2^63))=false:=by decide
 have hn:(partsBetween x (occurrences x y 0 x.length (limitOf x 1)) y.length).length<=sizeLine:=by
  rw[length_partsBetween];exact hQ (StrLaws.occ_length_le_len x y 0 x.length (limitOf x 1)) cp
 cases h1:(decide (x.length<y.length)||decide (Builtin.Str.strKind x<Builtin.Str.strKind y))
 .cases hf:(occurrences x y 0 x.length (limitOf x 1)).isEmpty
  .refine s0 pc (typeIs_str _ _ _) ow (F.args_str_split_3 _ _ _) (meets_str_split_sep_max x y 1 t u v hk h1 L hf (a6 (ix _ _) cp) hn) ?_;show wants Q E _ {s with toks:=_,heap:=s.heap.push {cls:= .type "list",data:= .seq (strsFrom s.toks (partsBetween x (occurrences x y 0 x.length (limitOf x 1)) y.length)).toArray}};rw[strsFrom_eq];exact h (numbered s.toks _) _ ((numbered_texts _ _).trans ((hX (mi h1)).trans (hX (mi hf))).symm)
  .exact s0 pc (typeIs_str _ _ _) ow (F.args_str_split_3 _ _ _) (meets_str_split_max_not_found x y 1 t u v hk h1 L hf)
    (h [(x,t)] s.toks ((hX (mi h1)).trans (ec hf)).symm)
 .exact s0 pc (typeIs_str _ _ _) ow (F.args_str_split_3 _ _ _) (meets_str_split_max_cannot_occur x y 1 t u v hk h1) (h [(x,t)] s.toks (ec h1).symm)
theorem IY(q:jt (t::U)=some ns):∃i f,t= .str i/\jt U=some f/\i::f=ns:=by
 cases t<;>first|exact nso q|skip
 refine al (Option.map_eq_some_iff.mp q) λf e1 e2=>⟨_,f,rfl,e1,e2⟩
theorem Ag:∀{U:List T}{ns:List PySem.Str}{ys:List Value},jt U=some ns->TRs b1.w g U ys->∃q:List (PySem.Str×Tok),ys=strValues q/\q.map (·.1)=ns
 |[],ns,ys,q,h=>by cases q;have h:=h;subst h;exact⟨[],rfl,rfl⟩
 |x::U,ns,ys,q,h=>by
  (refine aq (IY q) λi f c3=>aw c3 λc2 e1 cr=>?_;clear c3;clear q;subst c2;subst cr);(refine aq h λy rr c3=>aw c3 λc2 c h2=>?_;clear c3;clear h;subst c2;rcases c with⟨t,rfl⟩);(refine ag (Ag e1 h2) λq' c1=>ac c1 λc2 bo=>?_;clear c1;subst c2;subst bo);exact⟨(i,t)::q',rfl,rfl⟩
end
end Internal
end
noncomputable section
namespace Internal
open PySem PySem.W PySem.Calls PyProof.Rows
section
variable {J:Program}{b1:Cx}{r g b6:ay}{b2 b4:List Addr}{l:List Env}{A:Around}{α β γ δ:Type}{P:bt}{b7 mb:Str->Option Value}{n:Nat}{rc:aG}{e ce:AE}{env bd:Env}{O:af}{h b5:Heap}{s:Shared}{K:Frag}
theorem IZ(hv:VR b1.w g b2 v x)(ha:LR (VR b1.w g b2) be U):aa J b1 r l A (RV b1.w) g b2 (call (.builtin "str.strip") (x::U)) (bm (aE v) λt=>yd t be):=by
 refine aa.vw hv λO s bs Y t B a b S ht q=>?_;have ha:=ha.up a b;clear hv;revert ht ha;refine ge q λz q=>mP q λa q=>bY q λa q=>ge q λc q ht ha=>?_;(refine ag (gj ht) λtk bo=>?_;clear ht;subst bo);(refine ag ha.one_inv λy bi=>ac bi λc2 c1=>?_;clear bi;clear ha;subst c2;refine ag c1 λi bo=>?_;clear c1;clear ha;subst bo);refine ac (cL q) λhf q=>?_;cases q;exact SC.stripChars (λt' k=>PQ.vt S kp) (jC hf)
theorem I0(hv:VR b1.w g b2 v x)(ha:LR (VR b1.w g b2) be U):aa J b1 r l A (RV b1.w) g b2 (call (.builtin "str.split") (x::U)) (bm (aE v) λt=>ye t be):=by
 refine aa.vw hv λO s bs Y t B a b S ht q=>?_;have ha:=ha.up a b;clear hv;revert ht ha;refine ge q λz q=>gN q (λq=>?_) λq=>?_
 .refine mP q λa q=>bY q λa q=>ge q λc q ht ha=>?_;(refine ag (gj ht) λtk bo=>?_;subst bo);(refine ag ha.one_inv λy bi=>ac bi λc2 c1=>?_;clear bi;subst c2;refine ag c1 λi bo=>?_;clear c1;subst bo);refine ac (cL q) λhf q=>?_;cases q;refine IW (beq_eq_false_iff_ne.mpr hf.1) (jC hf.2) λH f e=>PQ.alloc S rfl (oQ ?_);refine rwl _ (rwm _ ?_ List.toList_toArray) e;exact uZ H
 .refine xY q λa b q=>bY q λa q=>ge q λc q=>bY q λb q=>ib q λk q ht ha=>?_;(refine ag (gj ht) λtk bo=>?_;clear ht;subst bo);(refine aq ha.two_inv λy G D=>aw D λc2 d bi=>?_;clear D;clear ha;subst c2;clear ha;rcases d with⟨i,rfl⟩;refine ag bi λf bo=>?_;clear bi;subst bo);(refine ac (cL q) λc7 q1=>?_;rcases c7 with⟨m,j,rfl⟩);clear q;cases q1;refine IX (beq_eq_false_iff_ne.mpr m) (jC j) λH f e=>PQ.alloc S rfl (oQ ?_);refine rwl _ (rwm _ ?_ List.toList_toArray) e;exact uZ H
theorem I3(hv:VR b1.w g b2 v x)(ha:LR (VR b1.w g b2) be U):aa J b1 r l A (RV b1.w) g b2 (call (.builtin "str.join") (x::U)) (bm (aE v) λt=>t6 t be):=by
 refine aa.vw hv λO s bs Y t B a b S ht q=>?_;have ha:=ha.up a b;clear hv;revert ht ha;refine ge q λz q=>mP q λa q ht ha=>?_;(refine ag (gj ht) λtk bo=>?_;clear ht;subst bo);(refine ag ha.one_inv λy c1=>ac c1 λc2 L=>?_;clear c1;subst c2);refine al (oP q) λI e2 q=>?_;have h2:=oO S L e2;clear e2 L ha;revert h2;refine kb q λC q h2=>al (dG q) λd e3 q=>?_;(refine aq (il h2) λad ys c3=>aw c3 λc2 hl hs=>?_;clear c3;clear ha h2;subst c2);refine al (Ag e3 hs) λH e4 e5=>ac (cL q) λc q=>?_;cases q;exact SC.join (by refine rwl _ (rwm _ ?_ Array.toArray_toList) e4;exact hl) e5 c λt' k=>PQ.vt S kp
theorem I4(hv:VR b1.w g b2 v x)(ha:LR (VR b1.w g b2) be U):aa J b1 r l A (RV b1.w) g b2 (call (.builtin "dict.get") (x::U)) (bm (aE v) λt=>t7 t be):=by
 refine aa.vw hv λO s bs Y t B a b S ht q=>?_;have ha:=ha.up a b;clear hv;revert ht ha;refine qt q λN q=>gN q (λq=>?_) λq=>?_
 .refine mP q λa q=>bY q λk q ht ha=>?_;(refine aq (gh J ht) λad ps M=>bS M λc2 hs hd k1 k2=>?_;clear M;subst c2);(refine ag ha.one_inv λy c1=>ac c1 λc2 L=>?_;clear c1;subst c2);refine al (dG q) λf hk q=>?_;cases q;refine ac (nb f k1 k2) λd1 m=>call_meetsIn F.slot_dict_get hd.mapOf.typeIs F.entry_dict_get (F.args_dict_get_2 _ _) (meets_dict_get (kk J b1.w) ad (jz hk L) hs) ⟨_,hd.mapOf,?_⟩;show PQ _ _ _ _ _ _ _ _ _ _
  cases hg:bg N f with
  |none=>refine rwm _ ?_ (d1 hg);exact PQ.vt S qK
  |some t=>refine al (m t hg) λz hz tz=>?_;refine rwm _ ?_ hz;exact PQ.vt S tz
 .refine xY q λa d q=>bY q λk q ht ha=>?_;(refine aq (gh J ht) λad ps M=>bS M λc2 hs hd k1 k2=>?_;clear M;clear ht;subst c2);(refine aq ha.two_inv λy G c3=>aw c3 λc2 L hz=>?_;clear c3;clear ha;subst c2);refine al (dG q) λf hk q=>?_;cases q;refine ac (nb f k1 k2) λd1 m=>call_meetsIn F.slot_dict_get hd.mapOf.typeIs F.entry_dict_get (F.args_dict_get_3 _ _ _) (meets_dict_get_default (kk J b1.w) ad (jz hk L) hs G) ⟨_,hd.mapOf,?_⟩;show PQ _ _ _ _ _ _ _ _ _ _
  cases hg:bg N f with
  |none=>refine rwm _ ?_ (d1 hg);exact PQ.tok S hz
  |some t=>refine al (m t hg) λz hz tz=>?_;refine rwm _ ?_ hz;exact PQ.vt S tz
theorem I6(h:gc k y=true):(keyPart y).isSome=true:=by
 (refine a2 (xF h) (λzz=>?_) (λzz=>?_);refine aq zz λi t bi=>ac bi λc2 bo=>?_;clear bi;clear h;subst c2;subst bo;rotate_left;refine aq zz λx t bi=>ac bi λc2 bo=>?_;clear bi;subst c2;subst bo;rotate_right)<;>rfl
theorem I7(hv:VR b1.w g b2 v x)(ha:LR (VR b1.w g b2) be U):aa J b1 r l A (RV b1.w) g b2 (call (.builtin "dict.pop") (x::U)) (qz v be):=by
 intro O B s bs Y a b S q;have hv:=VR.mono a b _ _ hv;have ha:=ha.up a b;revert hv ha;refine xZ q λi q=>mP q λa q=>bY q λk q hv ha=>?_;(refine ag ha.one_inv λy c1=>ac c1 λc2 L=>?_;clear c1;subst c2);(refine ag hv λad c1=>ac c1 λj bo=>?_;clear c1;subst bo);refine al (dF q) λQ hi q=>?_;revert hi;refine FY q λN q hi=>al (dG q) λf hk q=>al (dG q) λt hg q=>ac (cL q) λhf q=>?_;cases q;have w:=S.own _ _ _ hi j;refine cS w λes ep ho z=>lz (gh J (show HR b1.w bs s.heap (.dict N) (.ref ad) from⟨ad,es,ep,rfl,ho,z⟩)) λI ps e1 hs hd k1 k2=>?_;cases e1;refine ac (nb f k1 k2) λd1 m=>al (m t hg) λz hz tz=>?_;have bb:=uY k1;refine call_meetsIn F.slot_dict_pop hd.mapOf.typeIs F.entry_dict_pop (F.args_dict_pop_2 _ _) (meets_dict_pop_there (kk J b1.w) ad (jz hk L) [] (.inl rfl) (I6 (jz hk L))) ⟨ps,z,hd,by refine rwm _ ?_ bb;exact jC hf,hz,λb5 c9 c3=>?_⟩;exact⟨bs,Y,_,rfl,⟨⟨b5,_,rfl⟩,.refl _,.refl _⟩,S.set hi rfl j c3.extBut rfl (oT c9 (DP.del ⟨k1,k2⟩) (beq_eq_false_iff_ne.mp hs)) (λo' e1 e2=>by rw[ho] at e1;cases e1;simp at e2),tz⟩
theorem I8(hv:VR b1.w g b2 v x)(ha:LR (VR b1.w g b2) be U):aa J b1 r l A (RV b1.w) g b2 (call (.builtin "list.append") (x::U)) (yf v be):=by
 intro O B s bs Y a b S q;have hv:=VR.mono a b _ _ hv;have ha:=ha.up a b;revert hv ha;refine xZ q λi q=>mP q λu q hv ha=>?_;(refine ag ha.one_inv λy c1=>ac c1 λc2 L=>?_;clear c1;clear ha;subst c2);(refine ag hv λad c1=>ac c1 λj bo=>?_;clear c1;clear hv;subst bo);refine aa.freeze L (λbs Y t hg hr ht=>?_) O B s bs Y (.refl _) (.refl _) S q;intro O B s c5 bl a b S q;have j:=b _ _ (hr _ _ j);refine al (dF q) λQ hi q=>?_;revert hi;refine FZ q λm q hi=>ac (cL q) λhf q=>?_;cases q;refine cS (S.own _ _ _ hi j) λys ep ho hs=>?_;refine wpAny_list_append_plain (hsz:=by have:=jC hf;refine rwl _ ?_ (hs.len.trans (en (xs:=ys)));exact Nat.le_of_succ_le this) (⟨ep,ho⟩:s.heap.PlainList ad ys) λb5 c4 c3=>?_;refine ag c4 λcf w=>⟨c5,bl,_,rfl,⟨⟨b5,s.toks,rfl⟩,.refl _,.refl _⟩,S.set hi rfl j c3.extBut rfl ⟨ys.push y,cf,w,?_⟩ (λo' e1 e2=>by rw[ho] at e1;cases e1;simp at e2),qK (b1:=b1) (g:=c5)⟩;refine rwm _ ?_ Array.toList_push;exact hs.app ⟨y,[],rfl,TR.mono a _ _ ht,rfl⟩
theorem I9(k:Nat)(hv:VR b1.w g b2 v x)(ha:LR (VR b1.w g b2) be U):aa J b1 r l A (RV b1.w) g b2 (call (.builtin (yc k)) (x::U)) (iM k v be):=by
 rcases k with _|_|_|_|_|k
 .exact IZ hv ha
 .exact I0 hv ha
 .exact I3 hv ha
 .exact I4 hv ha
 .exact I7 hv ha
 .exact I8 hv ha
structure u0 (K:Frag) (cx:Cx) (P:bt):Prop where
 X:K.In cx.B
 meth:∀C n f,P.meth C n=some f->findIn K (.ref C) "__getattribute__"=some (some (.builtin "object.__getattribute__"))/\findIn K (.ref C) "__getattr__"=some none/\findIn K (.ref C) n=some (some (.ref f))/\
  typeIn K (.ref f)=some (.type "function")/\∃o fd,cx.B.get? f=some o/\o.data= .func fd
theorem Ah{m:Str->Option Value}(hn:fm o m)(hv:m x=none):lookIn x o=some none:=by
 (refine b9 hn λes ep hd hk hf=>?_;clear hn);have:=hf x;rw[hv] at this;unfold nsFind findBy at this;have dd:es.find? (λe=>e.key.isStr x)=none:=by
  cases q:es.find? (λe=>e.key.isStr x) with
  |none=>rfl
  |some f=>rw[q] at this;exact sno this
 have i:es.toList.any (·.refKey)=false:=by
  rw[List.any_eq_false];intro e he;(refine bc λno=>aq (hk e (by simpa using he)) λn t h=>no ?_;clear no);simp [DictEntry.refKey,h]
 unfold lookIn;refine rwm _ ?_ hd;dsimp only;refine rwm _ (rwm _ ?_ dd) (Array.find?_toList);simp [i]
theorem u5{α:Type}:∀{fs:List (Str×α)}{x:Str},(fs.lookup x).isNone=true->x∉fs.map (·.1)
 |[],x,_=>by simp
 |(k,v)::fs,x,h=>by
  rw[List.lookup_cons] at h
  cases q:x==k with
  |true=>rw[q] at h;exact ftf h
  |false=>
   rw[q] at h;simp only[List.map_cons,List.mem_cons,not_or];exact⟨beq_eq_false_iff_ne.mp q,u5 h⟩
theorem Ai{α:Type}{fs:List (Str×α)}{B:Except Addr (Option Addr)×af}(q:t8 x C fs O=some B):B=(.ok (some C),O)/\(fs.lookup x).isNone=true:=by
 refine ac (cL q) λh e=>⟨(ai e).symm,h⟩
theorem Aj{B:Except Addr (Option Addr)×af}(q:qC x u O=some B):∃c,B=(.ok c,O)/\∀C,c=some C->∃fs,u= .inst C fs/\(fs.lookup x).isNone=true:=by
 cases u<;>first|exact⟨none,(ai q).symm,λC e=>nso e⟩|skip
 refine ac (Ai q) λe h=>⟨_,e,λC e=>⟨_,by exact rwm _ rfl (ai e),h⟩⟩
theorem Ja{B:Except Addr (Option Addr)×af}(q:t9 x u O=some B):∃c,B=(.ok c,O)/\∀C,c=some C->(∃fs,u= .sh C fs/\(fs.lookup x).isNone=true)\/∃fs,u= .fz (.inst C fs)/\(fs.lookup x).isNone=true:=by
 cases u<;>first|exact⟨none,(ai q).symm,λC e=>nso e⟩|skip
 .refine ac (Ai q) λe h=>⟨_,e,λC e=> .inl ⟨_,by exact rwm _ rfl (ai e),h⟩⟩
 .refine al (Aj q) λc e h=>⟨c,e,λC e=>by refine al (h C e) λfs h1 h2=> .inr ⟨fs,by exact rwm _ rfl h1,h2⟩⟩
theorem Ak{B:Except Addr (Option Addr)×af}(S:St b1 r g b2 l O h)(hv:VR b1.w g b2 v y)(q:mT v x O=some B):
  ∃c,B=(.ok c,O)/\∀C,c=some C->∃a ox od,y= .ref a/\InstAt h a ox C (some od)/\shadowIn (some od) x=some false:=by
 have tree:∀{C:Addr}{fs:List (Str×T)}{y:Value},TR b1.w g (.inst C fs) y->(fs.lookup x).isNone=true->∃a ox od,y= .ref a/\InstAt h a ox C (some od)/\shadowIn (some od) x=some false:=by
  intro C fs y ht hx;refine tn ht λa d od m e h1 h2 h3 h4 h5=>⟨a,_,od,e,⟨S.fr _ _ h1,rfl,rfl,S.fr _ _ h2⟩,?_⟩;show(lookIn x od).map _=_;refine rwm _ ?_ (Ah h3 (h5 _ (u5 hx)));rfl
 cases v with
 |t t=>
  refine al (Aj q) λc e k=>⟨c,e,λC e=>by refine al (k C e) λfs h1 h2=>tree (h1▸TR.strip hv) h2⟩
 |own i=>
  (refine ag hv λad c1=>ac c1 λj bo=>?_;clear c1;clear hv;subst bo);refine al (dF q) λQ hi q=>?_;have w:=S.own i Q ad hi j;refine al (Ja q) λc e k=>⟨c,e,λC e=>?_⟩;(refine bc λno=>a2 (k C e) (λzz=>ag zz λfs c1=>ac c1 λh1 h2=>no ?_) (λzz=>ag zz λfs c1=>ac c1 λh1 h2=>no ?_)<;>clear c1 zz no)
  .clear hi q k;subst h1;refine dp w λd od m h1 h3 h4 h5 G=>⟨ad,_,od,rfl,⟨S.fr _ _ h1,rfl,rfl,S.fr _ _ h3⟩,?_⟩;show(lookIn x od).map _=_;refine rwm _ ?_ (Ah h4 (G _ (u5 h2)));rfl
  .clear hi q k;subst h1;exact tree w h2
theorem Jb{pl:Sem Bool}{Q:Value×List Value->Shared->Prop}{E:Value->Shared->Prop}(S:St b1 r g b2 l O s.heap)(ht:HR b1.w g s.heap t x)(h1:mR t=some L)(h2:lP L bb=some k)(hq:Q (.builtin (yc k),[x]) s):
  wpAny (model J b1.w) A (getMethod x bb pl) Q E s:=by
 revert ht;cases t<;>first|exact nso h1|(have h1:=ai h1;subst h1;intro ht)
 ·(refine ag (gj ht) λtk bo=>?_;subst bo);refine gk h2 (λhn e=>?_) λh2=>gk h2 (λhn e=>?_) λh2=>gk h2 (λhn e=>?_) nso<;>(subst hn;have e:=ai e;subst e)
  .exact GM.strip hq
  .exact GM.split hq
  .exact GM.join hq
 ·(refine a9 ht λa ys ep D=>aw D λc2 ho _=>?_;clear D;subst c2);refine gk h2 (λhn e=>?_) nso;subst hn;have e:=ai e;subst e;exact getMethod_builtin ⟨_,ho,rfl⟩ F.plainAttrs_list F.slot_list_append F.type_list_append (λa e=>by cases e;exact⟨_,ho,rfl⟩) hq
 ·(refine a9 ht λa es ep D=>aw D λc2 ho _=>?_;clear D;clear ht;subst c2);refine gk h2 (λhn e=>?_) λh2=>gk h2 (λhn e=>?_) nso<;>(clear h2;subst hn;have e:=ai e;subst e)
  .exact getMethod_builtin ⟨_,ho,rfl⟩ F.plainAttrs_dict F.slot_dict_get F.type_dict_get (λa e=>by cases e;exact⟨_,ho,rfl⟩) hq
  .exact getMethod_builtin ⟨_,ho,rfl⟩ F.plainAttrs_dict F.slot_dict_pop F.type_dict_pop (λa e=>by cases e;exact⟨_,ho,rfl⟩) hq
theorem Al(S:aL J b1 n rc)(hR:Rm A l n)(he:ER b1 l g b2 e env)(be:List Expr)(c4:Pos)(hs:be.all noStar=true)(hk:∀(s:Shared)(b6:ay)(b4:List Addr)(O:af),aZ g b6->St b1 r b6 b4 l O s.heap->∀(Q:Keeper->Shared->Prop)(E:Value->Shared->Prop),(∀k,Q k s)->wpAny (model J b1.w) A (keeperOf f) Q E s){m:List V->MM V}
  (hc:∀bs Y vs U,aZ g bs->bu b2 Y->LR (VR b1.w bs Y) vs U->aa J b1 r l A (RV b1.w) bs Y (call f (x::U)) (m vs)):
  aa J b1 r l A (RV b1.w) g b2 (callWith c4 f [x] (backTo c4 (starEach be env)) []) (bm (a8 rc e be) m):=by
 have d:=ng (c4:=c4) (env:=env) be hs;have i:(backTo c4 (starEach be env)).any (·.1)=false:=by
  rw[List.any_eq_false];intro p hp;simp [d p hp]
 intro O B s bs Y a b H q;unfold callWith;refine ae (hy (qN d ?_));(refine a2 (ed q) (λzz=>?_) (λzz=>?_);refine aq zz λvs c6 bi=>ac bi λe1 q=>?_;clear bi;rotate_left;refine aq zz λc c6 bi=>ac bi λe1 bo=>?_;clear bi;clear zz;subst bo;rotate_right)
 .refine eb (jy S hR be c4 bs Y (he.mono a b) O _ s bs Y (.refl _) (.refl _) H e1) (λU s' z=>?_) λy s' z=>?_
  ·(refine ch z λc9 N j e2 p S3 c1=>?_;clear z);(have za:=oke e2;clear e2;cases za);refine ae (le ?_);refine qO i (λQ' hq=>hk s' c9 N _ (a.trans p.2.1) S3 Q' _ hq) (eb (hc c9 N vs U (a.trans p.2.1) (b.trans p.2.2) c1 c6 B s' c9 N (.refl _) (.refl _) S3 q) (λ_ _ z=>z.up p) λ_ _ z=>z.up p)
  .refine cT z λ_ _ _ _ q1 _=>oee q1
 .refine eb (jy S hR be c4 bs Y (he.mono a b) O _ s bs Y (.refl _) (.refl _) H e1) (λU s' z=>?_) λy s' z=>?_
  .refine d0 z λ_ _ _ q1 _=>eoe q1
  .refine cT z λc9 N c' ex q1 z=>?_;(have za:=ere q1;clear q1;cases za);exact⟨c9,N,_,ex,rfl,z⟩
theorem Am(be:List Expr)(c4:Pos)(hs:be.all noStar=true)(hl:be.length<20):methodCallForm (be.length+0) (backTo c4 (starEach be env)) []=true:=by
 unfold methodCallForm;have:(backTo c4 (starEach be env)).all (!·.1)=true:=by
  rw[List.all_eq_true];intro p hp;simp [ng be hs p hp]
 refine rwm _ ?_ this;simp;exact lB hl rfl
theorem An(o:Expr)(bb:Str)(d c4:Pos)(be:List Expr):eval (.Call (.Attribute o bb d) be [] c4) env=(do
  let M<-attributeBase o bb env (eval o env)
  standAt d.atName
  methodCall o bb d c4 env M (be.length+0) (backTo c4 (starEach be env)) []):=rfl
theorem Jc(k9:u0 K b1 P)(S:aL J b1 n rc)(hR:Rm A l n)(he:ER b1 l g b2 e env)(o:Expr)(bb:Str)(be:List Expr)(d c4:Pos):
  aa J b1 r l A (RV b1.w) g b2 (eval (.Call (.Attribute o bb d) be [] c4) env) (uf P rc e o bb be d c4):=by
 unfold uf
 by_cases hc:(d.endLine==c4.line&&be.all noStar&&decide (be.length<20)&&fP o)=true
 rotate_left
 .refine rwm _ ?_ (hX hc);exact aa.none
 refine rwm _ ?_ (ec hc);simp only[Bool.and_eq_true,decide_eq_true_eq] at hc;(refine ac hc λc7 fx=>?_;clear hc;rcases c7 with⟨⟨dt,ds⟩,f1⟩);rw[An,uA fx];refine aa.bind (S.ev hR he o) λbs Y v x hg hr hv=>aa.standAt ?_;have cf:=he.mono hg hr;intro O B s c5 bl a b H q;have bo:=cf.mono a b;have hv:=VR.mono a b _ _ hv;unfold methodCall;refine rwm _ ?_ (Am be c4 ds f1);have z:methodCallPos true o env d c4=pure c4:=by
  unfold methodCallPos;refine rwm _ ?_ dt;rfl
 refine rwm _ ?_ z;have cl:∀{f:Value}{m:MM V},(∀(Q:Value×List Value->Shared->Prop)(E:Value->Shared->Prop),Q (f,[x]) s->wpAny (model J b1.w) A (calleeOf true o env x bb) Q E s)->m O=some B->
   aa J b1 r l A (RV b1.w) c5 bl (callWith c4 f [x] (backTo c4 (starEach be env)) []) m->
   wpAny (model J b1.w) A (do
    let(f,first)<-holding [x] (calleeOf true o env x bb)
    let j<-(pure c4:Sem Pos)
    callWith j f first (backTo c4 (starEach be env)) []) (PQ (RV b1.w) b1 r l s c5 bl B) (PE b1 r l s c5 bl B) s:=by
  intro f m c3 q hm;refine ae (hy (c3 _ _ ?_));exact ae (ar (hm O B s c5 bl (.refl _) (.refl _) H q))
 (refine bc λno=>a2 (ed q) (λzz=>aq zz λc c6 bi=>ac bi λe1 q=>no ?_) (λzz=>aq zz λc c6 bi=>ac bi λe1 _=>no ?_)<;>clear bi zz no);rotate_left
 .refine al (Ak H hv e1) λ_ e2 _=>?_;cases e2
 refine al (Ak H hv e1) λc' e2 y=>?_;clear e1;cases e2
 cases c with
 |some C=>
  refine al (dG q) λf hm q=>?_;(refine bc λno=>bS (k9.meth C bb f hm) λm1 m2 m3 m4 cv=>aq cv λom fd bi=>ac bi λm5 m6=>no ?_;clear bi cv no);(refine a9 (y C rfl) λxa ox od D=>aw D λc2 I G=>?_;clear D;clear y;subst c2);have X:=k9.X.keeps H.ground;refine cl (λQ E hq=>method_fn X I m1 m2 m3 m4 G hq) q (Al S hR bo be c4 ds (λs' b6 b4 M w S3 Q E hq=>?_) λc9 N vs U w i c1=>?_)
  .unfold keeperOf;refine ae (ra (S3.ground _ _ m5) ?_);refine rwm _ ?_ m6;exact ar (hq _)
  .exact S.call hR (.t (.top f)) (v::vs) (.ref f) (.ref xa::U) rfl (.cons (VR.mono w i _ _ hv) c1)
 |none=>
  refine al (oP q) λt ht q=>?_;have hh:=oO H hv ht;refine al (dG q) λL p q=>al (dG q) λk hk q=>cl (λQ E hq=>Jb H hh p hk hq) q (Al S hR bo be c4 ds (λs' b6 b4 M w S3 Q E hq=>?_) λc9 N vs U w i c1=>?_)
  .exact ar (hq _)
  .exact I9 k (VR.mono w i _ _ hv) c1
noncomputable def cw(b2:List Addr)(p:List Nat):List Addr:=p.map λk=>(b2[k]?).getD 0
theorem nj{p:List Nat}{i k:Nat}{a:Addr}(e:p[i]? =some k)(q:b2[k]? =some a):(cw b2 p)[i]? =some a:=by
 unfold cw;refine a0 (pv) (rwm _ ?_ e);simp [q]
theorem nk{p:List Nat}{i:Nat}{a:Addr}(q:(cw b2 p)[i]? =some a):∃k,p[i]? =some k/\a=(b2[k]?).getD 0:=by
 unfold cw at q;rw[List.getElem?_map] at q
 cases e:p[i]?with
 |none=>rw[e] at q;exact nso q
 |some k=>rw[e] at q;cases q;exact⟨k,rfl,rfl⟩
theorem u6(p b:List Nat):bu (cw b2 p) (cw b2 (p++b)):=by
 unfold cw;refine rwm _ ?_ i6;exact .app _ _
theorem u7:∀{p:List Nat}{j i:Nat},jw k p j=some i->∃d,i=j+d/\p[d]? =some k
 |[],_,_,e=>nomatch e
 |a::p,j,i,e=>by
  have e:(if a=k then some j else jw k p (j+1))=some i:=e
  by_cases q:a=k
  .rw[if_pos q] at e;cases e;subst q;exact⟨0,rfl,rfl⟩
  .rw[if_neg q] at e;refine al (u7 e) λd e1 e2=>⟨d+1,e1.trans (Nat.add_right_comm _ _ _),by simpa using e2⟩
theorem Ao:∀{p:List Nat}{j:Nat},jw k p j=none->k∉p
 |[],_,_=>by simp
 |a::p,j,e=>by
  have e:(if a=k then some j else jw k p (j+1))=none:=e
  by_cases q:a=k
  .rw[if_pos q] at e;exact sno e
  .rw[if_neg q] at e;intro hm;(refine a2 (hG.mp hm) (λzz=>?_) (λhm=>?_);subst zz;rotate_left;rotate_right)
   .exact q rfl
   .exact Ao e hm
structure PI (cx:Cx) (g:ay) (ρ:List Addr) (O:af) (h:Heap) (p:Pk):Prop where
 len:p.S.length=p.σ.length
 nd:p.σ.Nodup
 at_:∀(i k:Nat),p.σ[i]? =some k->∃mo mo' a,O[k]? =some mo/\p.S[i]? =some mo'/\ρ[k]? =some a/\isFz mo=isFz mo'/\OR cx.w g (cw ρ p.σ) h mo' a
theorem PI.nil:PI b1 g b2 O h ⟨[],[]⟩:=⟨rfl,.nil,λi k e=>by simp at e⟩
theorem PI.push{p:Pk}(I:PI b1 g b2 O h p)(hk:k∉p.σ)(ho:O[k]? =some Q)(ha:b2[k]? =some a)(hf:isFz Q=isFz f)
  (c:OR b1.w g (cw b2 (p.σ++[k])) h f a):PI b1 g b2 O h ⟨p.σ++[k],p.S++[f]⟩:=by
 refine⟨by simp [I.len],?_,λi j e=>?_⟩
 .exact List.nodup_append.mpr ⟨I.nd,by simp,λx hx y L=>by simp at L;subst L;intro q;subst q;exact hk hx⟩
 ·(refine a2 (dC e) (λe=>?_) (λzz=>?_);rotate_left;refine ac zz λc2 bo=>?_;clear zz;subst c2;clear hk;subst bo;rotate_right)
  .refine dp (I.at_ i j e) λm1 m2 b e1 e2 e3 e4 e5=>⟨m1,m2,b,e1,?_,e3,e4,e5.mono (.refl _) (u6 _ _) (.same λ_ z=>z)⟩;show(p.S++[f])[i]? =_;refine a0 (List.getElem?_append_left (List.getElem?_eq_some_iff.mp e2).1) ?_;exact e2
  .refine⟨Q,f,a,ho,?_,ha,hf,c⟩;show(p.S++[f])[p.σ.length]? =_;refine rwl _ ?_ I.len;simp
noncomputable def fV(p B:Pk):Prop:=∃b,B.σ=p.σ++b
theorem fV.refl(p:Pk):fV p p:=⟨[],by simp⟩
theorem fV.trans(x:fV p q)(y:fV q t):fV p t:=by
 (refine ag x λa e=>?_;clear x);refine ag y λb e'=>⟨a++b,by rw[e',e,List.append_assoc]⟩
theorem fV.rle{p B:Pk}(x:fV p B):bu (cw b2 p.σ) (cw b2 B.σ):=by
 (refine ag x λt e=>?_;clear x);refine rwm _ ?_ e;exact u6 _ _
theorem Ap{p B:Pk}(I:PI b1 g b2 O h p)(ho:O[k]? =some Q)(ha:b2[k]? =some a)(w:OR b1.w g (cw b2 (p.σ++[k])) h Q a)(q:some (qD k Q p)=some (v,B)):
  PI b1 g b2 O h B/\fV p B/\VR b1.w g (cw b2 B.σ) v (.ref a):=by
 have q:=ai q;unfold qD at q
 cases hf:jw k p.σ 0 with
 |some i=>
  rw[hf] at q;cases q;refine al (u7 hf) λd e1 e2=>⟨I,.refl _,a,nj (by refine rwm _ ?_ e1;simpa using e2) ha,rfl⟩
 |none=>
  rw[hf] at q;cases q;exact⟨I.push (Ao hf) ho ha rfl w,⟨_,rfl⟩,a,nj (by simp) ha,rfl⟩
theorem Aq(S:St b1 r g b2 l O h){p B:Pk}(I:PI b1 g b2 O h p)(ha:b2[k]? =some a)(q:ub k p O[k]? =some (v',B)):
  PI b1 g b2 O h B/\fV p B/\VR b1.w g (cw b2 B.σ) v' (.ref a):=by
 cases ho:O[k]?with
 |none=>rw[ho] at q;exact nso q
 |some Q=>
  rw[ho] at q;have w:=S.own _ _ _ ho ha;cases Q<;>first|exact nso q|skip
  .exact Ap I ho ha w q
  .exact Ap I ho ha w q
  .cases q;exact⟨I,.refl _,w⟩
theorem Jd(S:St b1 r g b2 l O h){p B:Pk}(I:PI b1 g b2 O h p)(hv:VR b1.w g b2 v x)(q:yi v O p=some (v',B)):
  PI b1 g b2 O h B/\fV p B/\VR b1.w g (cw b2 B.σ) v' x:=by
 cases v with
 |t t=>cases q;exact⟨I,.refl _,hv⟩
 |own k=>
  (refine ag hv λa c1=>ac c1 λha bo=>?_;clear c1;clear hv;subst bo);exact Aq S I ha q
theorem Ar(S:St b1 r g b2 l O h){m:Str->Option Value}:∀{fs b:List (Str×V)}{p B:Pk},PI b1 g b2 O h p->FR (VR b1.w g b2) fs m->uc O fs p=some (b,B)->
  PI b1 g b2 O h B/\fV p B/\FR (VR b1.w g (cw b2 B.σ)) b m/\b.map (·.1)=fs.map (·.1)
 |[],_,_,_,I,_,q=>by cases q;exact⟨I,.refl _,trivial,rfl⟩
 |(k,v)::fs,b,p,B,I,hv,q=>by
  (refine bc λno=>ag (Option.bind_eq_some_iff.mp q) λD c1=>?_;rcases D with⟨i,f⟩;refine ac c1 λh1 q=>no ?_;clear no);(refine bc λno=>ag (Option.bind_eq_some_iff.mp q) λD c1=>?_;rcases D with⟨c,t⟩;refine ac c1 λh2 q=>no ?_;clear no);clear c1;cases q;(refine ac hv λc7 hr=>?_;clear hv;rcases c7 with⟨x,e,hx⟩);(refine bc λno=>aw (Jd S I hx h1) λo w z=>no ?_;clear no);refine bc λno=>bK (Ar S o hr h2) λE d C j=>no (⟨E,w.trans d,⟨⟨x,e,VR.mono (.refl _) d.rle _ _ z⟩,C⟩,hS (k::·) j⟩)
theorem Je{α:Type}{x:Option MO}{f:Addr->List (Str×V)->Option α}{y:Option α}{z:α}{P:Prop}(q:yj x f y=some z)(k1:∀C fs,x=some (.sh C fs)->f C fs=some z->P)(k2:y=some z->P):P:=by
 cases x with
 |none=>exact k2 q
 |some Q=>cases Q<;>first|exact k1 _ _ rfl q|exact k2 q
theorem Jf(S:St b1 r g b2 l O h){v v':V}{p B:Pk}{x:Value}(I:PI b1 g b2 O h p)(hv:VR b1.w g b2 v x)(q:yk v O p=some (v',B)):
  PI b1 g b2 O h B/\fV p B/\VR b1.w g (cw b2 B.σ) v' x:=by
 cases v with
 |t t=>cases q;exact⟨I,.refl _,hv⟩
 |own k=>
  (refine ag hv λa c1=>ac c1 λha bo=>?_;clear c1;clear hv;subst bo);refine Je q (λC fs ho q=>?_) λq=>Aq S I ha q
  cases hf:jw k p.σ 0 with
  |some i=>
   rw[hf] at q;cases q;refine al (u7 hf) λd e1 e2=>⟨I,.refl _,a,nj (by refine rwm _ ?_ e1;simpa using e2) ha,rfl⟩
  |none=>
   rw[hf] at q;(refine bc λno=>ag (Option.bind_eq_some_iff.mp q) λD c1=>?_;rcases D with⟨c,f⟩;refine ac c1 λh1 q=>no ?_;clear no);refine ac (mO q) λhk q=>?_;clear c1;cases q;refine dp (S.own _ _ _ ho ha) λd od m e1 e2 e3 e4 e5=>?_;refine bc λno=>bK (Ar S I e4 h1) λo w z b=>no (⟨o.push hk ho ha rfl ⟨d,od,m,e1,e2,e3,z.mono' (VR.mono (.refl _) (u6 _ _)),λn hn=>e5 n (by refine rwl _ ?_ b;exact hn)⟩,w.trans ⟨_,rfl⟩,a,nj (by simp) ha,rfl⟩)
theorem As(S:St b1 r g b2 l O h):∀{vs j:List V}{p B:Pk}{U:List Value},PI b1 g b2 O h p->LR (VR b1.w g b2) vs U->iO O vs p=some (j,B)->
  PI b1 g b2 O h B/\fV p B/\LR (VR b1.w g (cw b2 B.σ)) j U
 |[],_,_,_,_,I,hv,q=>by cases q;exact⟨I,.refl _,hv⟩
 |v::vs,j,p,B,U,I,⟨y,ys,e,L,hr⟩,q=>by
  (refine bc λno=>ag (Option.bind_eq_some_iff.mp q) λD c1=>?_;rcases D with⟨i,f⟩;refine ac c1 λh1 q=>no ?_;clear no);(refine bc λno=>ag (Option.bind_eq_some_iff.mp q) λD c1=>?_;rcases D with⟨c,t⟩;refine ac c1 λh2 q=>no ?_;clear no);clear c1;cases q;(refine bc λno=>aw (Jf S I L h1) λo w z=>no ?_;clear no);refine bc λno=>aw (As S o hr h2) λE d C=>no (⟨E,w.trans d,y,ys,e,VR.mono (.refl _) d.rle _ _ z,C⟩)
def Hd(b2:List Addr)(O:af)(p:List Nat)(b:Addr):Prop:=∃j Q,O[j]? =some Q/\isFz Q=false/\b2[j]? =some b/\j∉p
open Classical in
def fA(r:ay)(b2:List Addr)(O:af)(p:List Nat)(h:Heap):ay:=λb=>if Hd b2 O p b then h.get? b else r b
theorem u8(S:St b1 r g b2 l O h)(e:r b=some o):fA r b2 O p h b=some o:=by
 unfold fA;rw[if_neg];exact e
 rintro ⟨j,Q,e1,e2,e3,_⟩
 rw[(S.free j Q b e1 e3 e2).2.1] at e;exact nso e
theorem u9(S:St b1 r g b2 l O h)(e:fA r b2 O p h b=none):r b=none/\¬Hd b2 O p b:=by
 have h1:r b=none:=by
  cases z:r b with
  |none=>rfl
  |some o=>rw[u8 S z] at e;exact sno e
 refine⟨h1,λhd=>?_⟩;unfold fA at e;rw[if_pos hd] at e;refine mJ hd λj Q e1 e2 e3 _=>ag (OR.there e2 (S.own j Q b e1 e3)) λo ho=>?_;rw[ho] at e;exact sno e
set_option tactic.hygienic true in
theorem vb(S:St b1 r g b2 l O h){p:Pk}(I:PI b1 g b2 O h p):St b1 (fA r b2 O p.σ h) g (cw b2 p.σ) l p.S h where
 base:=S.base
 fr:=S.fr
 rs:=λb o e=>by
  unfold fA at e
  split at e
  .exact⟨o,e,.refl _⟩
  .exact S.rs b o e
 len:=by refine rwm _ ?_ I.len;simp [cw]
 own:=λi Q a e1 e2=>by
  (refine ag (nk e2) λk c1=>ac c1 λe3 bo=>?_;clear c1;subst bo);refine dp (I.at_ i k e3) λm1 m2 b f1 f2 v t y=>?_;rw[e1] at f2;cases f2;refine rwm _ ?_ v;exact y
 free:=λi Q a e1 e2 q=>by
  (refine ag (nk e2) λk c1=>ac c1 λe3 bo=>?_;clear c1;subst bo);refine dp (I.at_ i k e3) λm1 m2 b f1 f2 v t y=>?_;rw[e1] at f2;cases f2;refine rwm _ ?_ v;refine bc λno=>aw (S.free k m1 b f1 v (t.trans q)) λz1 E z3=>no (⟨z1,?_,z3⟩);unfold fA;simp only[Option.getD_some];rw[if_neg];exact E
  rintro ⟨j,f,g1,g2,g3,g4⟩
  have:=S.nd j k f m1 b g1 f1 g2 (t.trans q) g3 v;subst this;exact g4 (List.mem_of_getElem? e3)
 nd:=λi j Q f a e1 e2 q q' e3 e4=>by
  (refine ag (nk e3) λk c1=>ac c1 λf1 bo=>?_;clear c1;subst bo);refine al (nk e4) λU c f0=>dp (I.at_ i k f1) λm1 m2 b f2 v t y _=>dp (I.at_ j U c) λz D G N d bb C _=>?_;rw[e1] at v;cases v;rw[e2] at d;cases d;rw[t,bb] at f0;simp only[Option.getD_some] at f0;subst f0;have:=S.nd k U m1 z b f2 N (y.trans q) (C.trans q') t bb;clear N bb;subst this;have w:=(List.getElem?_eq_some_iff.mp f1);(refine ag w λhi ei=>?_;clear w);refine ag ((List.getElem?_eq_some_iff.mp c)) λhj H=>(List.getElem_inj I.nd).mp (ei.trans H.symm)
 gr:=λb o e=>by
  unfold fA at e
  split at e
  .rename_i hd
   (refine mJ hd λj Q e1 e2 e3 _=>?_;clear hd);refine bc λno=>aw (S.free j Q b e1 e3 e2) λz1 E z3=>no (⟨z1,z3⟩)
  .exact S.gr b o e
 gt:=S.gt
 tabs:=S.tabs
 frs:=S.frs
end
section
variable {J:Program}{b1:Cx}{r g b6:ay}{b2 b4:List Addr}{l:List Env}{A:Around}{α β γ δ:Type}{P:bt}{b7 mb:Str->Option Value}{n:Nat}{rc:aG}{e ce:AE}{env bd:Env}{O M H:af}{h b5:Heap}{s:Shared}{K:Frag}
theorem At:∀{p:List Nat}{S O M:af},unpack c p S O=some M->p.Nodup->
  M.length=O.length/\(∀(k:Nat),k∉p->M[k]? =O[k]?)/\(∀(i k:Nat),p[i]? =some k->k<O.length->∃Q f,S[i]? =some Q/\oL c Q=some f/\M[k]? =some f)
 |[],_,O,M,q,_=>by cases q;exact⟨rfl,λ_ _=>rfl,λi k e=>by simp at e⟩
 |k::p,[],_,_,q,_=>nomatch q
 |k::p,Q::S,O,M,q,nd=>by
  refine al (Option.bind_eq_some_iff.mp (show((oL c Q).bind λf=>unpack c p S (O.set k f))=some M from q)) λf hm q=>?_
  .skip
   refine ac (oc.mp nd) λhk nd=>?_;refine bc λno=>aw (At (O:=O.set k f) q nd) λe1 e2 e3=>no (⟨by exact rwm _ (rwm _ rfl oe) e1,λj hj=>?_,λi j hi hl=>?_⟩)
   .have h1:j≠k:=λz=>hj (z▸q0);have h2:j∉p:=λz=>hj (List.mem_cons_of_mem _ z);exact rwm _ (rwm _ rfl (p5 (Ne.symm h1))) (e2 j h2)
   .cases i with
    |zero=>
     simp at hi;subst hi;refine⟨Q,f,rfl,hm,?_⟩;exact rwm _ (rwm _ rfl (List.getElem?_set_self hl)) (e2 k hk)
    |succ i=>
     refine b9 (e3 i j (by simpa using hi) (by refine rwm _ ?_ oe;exact hl)) λa b dt ds f1=>⟨a,b,by simpa using dt,ds,f1⟩
theorem Jg(hl:∀k∈p,∃a,b2[k]? =some a)(hr:bu (cw b2 p) b4)(q:yl p v=some v')(hv:VR w g b4 v x):VR w g b2 v' x:=by
 cases v with
 |t t=>cases q;exact hv
 |own i=>
  (refine ag hv λa c1=>ac c1 λha bo=>?_;clear c1;clear hv;subst bo);refine al (Option.map_eq_some_iff.mp q) λk hi q=>?_
  .cases q;refine ag (hl k (List.mem_of_getElem? hi)) λb hb=>?_;have:=hr _ _ (nj hi hb);rw[ha] at this;cases this;exact⟨a,hb,rfl⟩
theorem Au(hl:∀k∈p,∃a,b2[k]? =some a)(hr:bu (cw b2 p) b4){m:Str->Option Value}:∀{fs b:List (Str×V)},ud p fs=some b->FR (VR w g b4) fs m->FR (VR w g b2) b m/\b.map (·.1)=fs.map (·.1)
 |[],_,q,_=>by cases q;exact⟨trivial,rfl⟩
 |(k,v)::fs,_,q,⟨⟨x,e,hx⟩,hf⟩=>by
  refine al (Option.bind_eq_some_iff.mp q) λv' h1 q=>al (Option.bind_eq_some_iff.mp q) λb h2 q=>?_
  ··cases q;refine ac (Au hl hr h2 hf) λf1 f2=>⟨⟨⟨x,e,Jg hl hr h1 hx⟩,f1⟩,by simp [f2]⟩
set_option tactic.hygienic true in
theorem lX(hl:∀k∈p,∃a,b2[k]? =some a)(hr:bu (cw b2 p) b4)(q:oL p Q=some f)(x:OR w g b4 h Q a):OR w g b2 h f a/\isFz f=isFz Q:=by
 cases Q<;>first|exact nso q|skip
 .cases q;exact⟨x,rfl⟩
 .cases q;exact⟨x,rfl⟩
 .rename_i C fs
  refine al (Option.map_eq_some_iff.mp q) λb hf q=>?_
  .cases q;refine dp x λd od m e1 e2 e3 e4 e5=>ac (Au hl hr hf e4) λf1 f2=>⟨⟨d,od,m,e1,e2,e3,f1,λn hn=>e5 n (by refine rwl _ ?_ f2;exact hn)⟩,rfl⟩
 .cases q;exact⟨x,rfl⟩
theorem vc(S0:St b1 r g b2 l O h){p:Pk}(I:PI b1 g b2 O h p)(S1:St b1 (fA r b2 O p.σ h) b6 b4 l H b5)(hg:aZ g b6)(hr:bu (cw b2 p.σ) b4)(q:unpack p.σ p.σ H O=some M):
  St b1 r b6 b2 l M b5/\∀a,aD b1 (fA r b2 O p.σ h) b6 b4 l H a->aD b1 r b6 b2 l M a:=by
 (refine bc λno=>aw (At q I.nd) λq1 q2 q3=>no ?_;clear no);have hl:∀k∈p.σ,∃a,b2[k]? =some a:=λk hk=>by
  refine ag (List.mem_iff_getElem?.mp hk) λi hi=>ch (I.at_ i k hi) λ_ _ a _ _ e _=>⟨a,e⟩
 have y:∀{k:Nat}{Q:MO}{a:Addr},M[k]? =some Q->b2[k]? =some a->
   (∃i m,p.σ[i]? =some k/\b4[i]? =some a/\H[i]? =some m/\oL p.σ m=some Q)\/(k∉p.σ/\O[k]? =some Q):=λ{k}{Q}{a} e1 e2=>by
  by_cases hk:k∈p.σ
  .refine ag (List.mem_iff_getElem?.mp hk) λi hi=>?_;have C:=(List.getElem?_eq_some_iff.mp e2).1;rw[S0.len] at C;refine b9 (q3 i k hi C) λm1 m2 f1 f2 v=>?_;rw[e1] at v;cases v;exact .inl ⟨i,m1,hi,hr _ _ (nj hi e2),f1,f2⟩
  .exact .inr ⟨hk,by refine rwl _ ?_ (q2 k hk);exact e1⟩
 have hid:∀{k:Nat}{Q:MO}{a:Addr},k∉p.σ->O[k]? =some Q->b2[k]? =some a->isFz Q=false->∃o,h.get? a=some o/\fA r b2 O p.σ h a=some o:=λ{k}{Q}{a} hk e1 e2 q=>by
  refine ag (OR.there q (S0.own k Q a e1 e2)) λo ho=>⟨o,ho,?_⟩;unfold fA;refine a0 (ec ⟨k,Q,e1,q,e2,hk⟩) ?_;exact ho
 refine⟨⟨S1.base,S1.fr,λb o e=>S1.rs b o (u8 S0 e),by exact rwm _ (rwm _ rfl q1) S0.len,λk Q a e1 e2=>?_,λk Q a e1 e2 z=>?_,λk U Q f a e1 e2 z G e3 e4=>?_,λb o e=>S1.gr b o (u8 S0 e),S1.gt,S1.tabs,S1.frs⟩,λa L=>?_⟩
 ·(refine bc λno=>a2 (y e1 e2) (λzz=>?_) (λzz=>?_);refine aq zz λi m1 D=>bK D λf1 f2 v t=>no ?_;clear no;rotate_left;refine ac zz λhk f1=>no ?_;clear no;rotate_right)
  .exact(lX hl hr t (S1.own i m1 a v f2)).1
  .have w:=S0.own k Q a f1 e2
   cases z:isFz Q with
   |true=>exact(w.still z).mono hg (.refl _) (.same λ_ e=>e)
   |false=>
    refine al (hid hk f1 e2 z) λo ho hh=>al (S1.rs a o hh) λo' e' B=>w.mono hg (.refl _) (λo1 e=>by rw[ho] at e;cases e;exact⟨o',e',B⟩)
 ·(refine bc λno=>a2 (y e1 e2) (λzz=>?_) (λzz=>?_);refine aq zz λi m1 D=>bK D λf1 f2 v t=>no ?_;clear no;rotate_left;refine ac zz λhk f1=>no ?_;clear no;rotate_right)
  .refine bc λno=>aw (S1.free i m1 a v f2 (((lX hl hr t (S1.own i m1 a v f2)).2)▸z)) λz1 E z3=>no (⟨z1,(u9 S0 E).1,z3⟩)
  .refine al (hid hk f1 e2 z) λo ho hh=>ac (S1.gr a o hh) λz1 E=>⟨z1,(S0.free k Q a f1 e2 z).2.1,E⟩
 ·(refine bc λno=>a2 (y e1 e3) (λzz=>?_) (λzz=>?_);refine aq zz λi m1 D=>bK D λf1 f2 v t=>no ?_;clear no;rotate_left;refine ac zz λhk f1=>no ?_;clear no;rotate_right)<;>(refine bc λno=>a2 (y e2 e4) (λzz=>?_) (λzz=>?_);refine aq zz λj m2 D=>bK D λc N d bb=>no ?_;clear no;rotate_left;refine ac zz λY c=>no ?_;clear no;rotate_right)
  .have h1:=(lX hl hr t (S1.own i m1 a v f2)).2;have h2:=(lX hl hr bb (S1.own j m2 a d N)).2;have:=S1.nd i j m1 m2 a v d (h1▸z) (h2▸G) f2 N;subst this;rw[f1] at c;cases c;rfl
  .have h1:=(lX hl hr t (S1.own i m1 a v f2)).2;refine al (hid Y c e4 G) λo ho hh=>?_;rw[(S1.free i m1 a v f2 (h1▸z)).2.1] at hh;exact nso hh
  .have h1:=(lX hl hr bb (S1.own j m2 a d N)).2;refine al (hid hk f1 e3 z) λo ho hh=>?_;rw[(S1.free j m2 a d N (h1▸G)).2.1] at hh;exact nso hh
  .exact S0.nd k U Q f a f1 c z G e3 e4
 .refine⟨L.1,(u9 S0 L.2.1).1,L.2.2.1,λk Q e1 e2=>?_,L.2.2.2.2⟩;(refine bc λno=>a2 (y e1 e2) (λzz=>?_) (λzz=>?_);refine aq zz λi m1 D=>bK D λf1 f2 v t=>no ?_;clear no;rotate_left;refine ac zz λhk f1=>no ?_;clear no;rotate_right)
  .refine a0 ((lX hl hr t (S1.own i m1 a v f2)).2) ?_;exact L.2.2.2.1 i m1 v f2
  .cases z:isFz Q with
   |true=>rfl
   |false=>exact absurd ⟨k,Q,f1,z,e2,hk⟩ (u9 S0 L.2.1).2
theorem dg.lift{r':ay}(k:∀a,aD b1 r g Y l c6 a->aD b1 r' g bl l c7 a)(X:dg b1 r g Y l c6 h C x):dg b1 r' g bl l c7 h C x:=by
 refine h8 X λo vs a1 d B G a5 c=>⟨o,vs,a1,d,B,G,k _ a5,?_⟩;rcases c with c|⟨t,i,vt,c5,cf,b3,U,y,z,cs⟩
 .exact .inl c
 .exact .inr ⟨t,i,vt,c5,cf,b3,U,y,k _ z,cs⟩
def cM(J:Program)(b1:Cx)(b:Nat)(i:Addr->List V->af->Option (Option (Except Addr T×af))):Prop:=
 ∀{A l r g b2},Rm A l b->∀(a:Addr)(be:List V)(U:List Value)(S:af)(q:Except Addr T×af)(s:Shared),i a be S=some (some q)->
  LR (VR b1.w g b2) be U->St b1 r g b2 l S s.heap->wpAny (model J b1.w) A (call (.ref a) U) (PQ (RT b1.w) b1 r l s g b2 q) (PE b1 r l s g b2 q) s
theorem cM.none:cM J b1 b λ_ _ _=>none:=λ_ _ _ _ _ _ _ e=>nomatch e
theorem Jh(hb:b<=n)(hc:cM J b1 b P.con)(hR:Rm A l n)(hv:LR (VR b1.w g b2) be U)
  (bb:aa J b1 r l A (RV b1.w) g b2 (call (.ref a) U) (ik P rc a be)):aa J b1 r l A (RV b1.w) g b2 (call (.ref a) U) (fT P rc a be):=by
 intro O B s bs Y d i S q;unfold fT at q
 cases hp:iO O be ⟨[],[]⟩ with
 |none=>rw[hp] at q;exact bb O B s bs Y d i S q
 |some z=>
  rcases z with⟨bi,p⟩;rw[hp] at q;dsimp only at q
  cases hq:P.con a bi p.S with
  |none=>rw[hq] at q;exact bb O B s bs Y d i S q
  |some z=>
   rw[hq] at q
   cases z with
   |none=>exact nso q
   |some z=>
    (refine bc λno=>aw (As S .nil (LR.up hv d i) hp) λI _ j=>no ?_;clear no);refine eb (hc (hR.mono hb) a bi U p.S z s hq j (vb S I)) (λx s' y=>?_) λx s' y=>?_
    ·(refine ch y λg2 m t e1 p1 S2 ht=>?_;clear y);clear hq;rcases z with⟨z1,S3⟩;cases e1;refine al (Option.map_eq_some_iff.mp q) λM hu q=>?_
     .cases q;exact⟨g2,Y,.t t,rfl,⟨p1.1,p1.2.1,.refl _⟩,(vc S I S2 p1.2.1 p1.2.2 hu).1,ht⟩
    ·(refine oq y λg2 m c ex e1 p1 S2 e2 X=>?_;clear y);clear hq;rcases z with⟨z1,S3⟩;cases e1;refine al (Option.map_eq_some_iff.mp q) λM hu q=>?_
     .cases q;refine ac (vc S I S2 p1.2.1 p1.2.2 hu) λB1 B2=>⟨g2,Y,c,ex,rfl,⟨p1.1,p1.2.1,.refl _⟩,B1,e2,X.lift B2⟩
end
structure gY (bm:List Value):Prop where
 hB:bm.contains (.type "Exception")=true
 hA:bm.contains (.type "AttributeError")=false
 hN:bm.contains (.type "NameError")=false
 hE:bm.contains (.type "BaseException")=true
section
variable {J:Program}{w:World}{A:Around}{R:Result->Shared->Prop}{h:Heap}{g:Array GenState}{d:Drawn}{t:Nat}{os:OsState}
variable {bb q:Str}{C N:Addr}{H bm:List Value}{bd:Bool}{sn:List Str}{sub:List Value}{ab:Bool}{bi:Option Bool}{dd:Option Addr}{k0 k1 k2 k3 k5:Option Value}
noncomputable abbrev io(C b:Addr):Obj:={cls:= .ref C,data:= .fields #[.ref b,.none,.none,.none,.bool false,.none]}
theorem Ji{M:Model}{E:Value->Shared->Prop}(X:gY bm){Q:Unit->Shared->Prop}(hC:h.get? C=some (excClassObj bb q C N H bm bd sn sub ab bi dd k0 k1 k2 k3 k5 "Exception.__new__"))
  (hq:Q () ⟨h,g,d,t,os⟩):wpAny M A (checkBuiltinCall "Exception.__new__" ⟨.ref C::j,[]⟩) Q E ⟨h,g,d,t,os⟩:=by
 have F:=o3;have hc:(Value.ref C::bm).contains (.type "Exception")=true:=by rw[List.contains_cons,X.hB,Bool.or_true]
 have hs:=F.noStar;simp only[checkBuiltinCall,F.newKind,F.newSplit,F.newRow]
 repeat (first|refine mc hC ?_|(refine pa hC ?_;refine rwm _ ?_ hc)|refine wpAny_staticBase_exc hC ?_|refine wpAny_madeBy_exc hC ?_|simp only[bne_self_eq_false,Bool.false_eq_true,if_false]|wp_step)
 exact hq
theorem Jj(X:gY bm){j:List Value}(hC:h.get? C=some (excClassObj bb q C N H bm bd sn sub ab bi dd k0 k1 k2 k3 k5 "Exception.__new__"))
  (hq:R (.ok (.ret (.ref (h.objs.size+1)))) ⟨(h.push {cls:= .type "tuple",data:= .seq j.toArray}).push (io C h.objs.size),g,d,t,os⟩)(B:j.length<=sizeLine):
  codeAny (model J w) A (.builtin "Exception.__new__" ⟨.ref C::j,[]⟩) R ⟨h,g,d,t,os⟩:=by
 have F:=o3;have he:=F.ends;have dt:(Value.ref C::bm).contains (.type "Exception")=true:=by rw[List.contains_cons,X.hB,Bool.or_true]
 have ds:(Value.ref C::bm).contains (.type "AttributeError")=false:=by refine a0 List.contains_cons (rwm _ ?_ X.hA);rfl
 have f1:(Value.ref C::bm).contains (.type "NameError")=false:=by refine a0 List.contains_cons (rwm _ ?_ X.hN);rfl
 refine codeAny_builtinAt F.entry ?_;unfold Builtin.«BaseException.__new__»;refine PySem.wpAt_bind ?_;show PySem.wpAt _ _ _ (stack>>=_) _ _ _;refine PySem.wpAt_bind (PySem.wpAt_stack λp b=>PySem.wpAt_of_wpAny ?_)
 wp_walk
 refine PySem.wpAt_of_wpAny ?_;refine rwm _ ?_ F.owner
 repeat (first|with_reducible refine wpAny_madeHere_exc F.canon hC ?_|with_reducible refine mc hC ?_|(with_reducible refine pa hC ?_;first|rw[dt]|rw[ds]|refine rwm _ ?_ f1)|wp_step)
 show R _ _;rw[Heap.size_push];exact hq
theorem Jk{K:Frag}(X:gY bm)(XK:K.In h)(e7:specialIn K (.ref C) "__call__"=some (some (.builtin "type.__call__")))(e8:instIn K (.ref C) (.type "type")=some true)
  (ei:findIn K (.ref C) "__init__"=some (some (.ref fI)))(ef:typeIn K (.ref fI)=some (.type "function")){j:List Value}
  (hC:h.get? C=some (excClassObj bb q C N H bm bd sn sub ab bi dd k0 k1 k2 k3 k5 "Exception.__new__"))(B:j.length<=sizeLine)
  (hq:codeAny (model J w) (A.under (.builtin "type.__call__" ⟨.ref C::j,[]⟩)) (.call (.ref fI) ⟨.ref (h.objs.size+1)::j,[]⟩) (InitBack (h.objs.size+1) R)
   ⟨(h.push {cls:= .type "tuple",data:= .seq j.toArray}).push (io C h.objs.size),g,d,t,os⟩):
  codeAny (model J w) A (.call (.ref C) ⟨j,[]⟩) R ⟨h,g,d,t,os⟩:=by
 refine codeAny_of_tree ?_;show wpAny _ _ (callAny (.ref C) _) _ _ _;refine nd_load hC ?_;show wpAny _ _ (callAny.viaDunder (.ref C) _) _ _ _;unfold callAny.viaDunder;refine ae ((looks_specialIn XK e7).at ?_);dsimp only;rw[tc_bind];refine ae (ar (ae (ar ?_)));refine ar (a:=Fin.again (.call (.builtin "type.__call__") ⟨.ref C::j,[]⟩)) (And.intro rfl ?_);refine codeAny_call_builtin_at (Code.quiet_builtin _ (by decide+kernel)) entry_typeCall (check_slot tc_kind tc_split (looks_instIn XK e8) (tc_args _ _ _) ?_);unfold Builtin.«type.__call__»
 repeat (first|with_reducible refine mc hC ?_|with_reducible refine wpAny_madeBy_exc hC ?_|wp_step)
 refine codeAny_call_builtin_code (Code.quiet_builtin _ o3.quiet) (Ji X hC ?_);refine Jj X hC ?_ B;show wpAny _ _ _ _ _ _;have k:∀b o,h.get? b=some o->((h.push {cls:= .type "tuple",data:= .seq j.toArray}).push (io C h.objs.size)).get? b=some o:=λb o e=>a3 _ (a3 _ e);have c:=XK.keeps k;have c3:((h.push {cls:= .type "tuple",data:= .seq j.toArray}).push (io C h.objs.size)).get? (h.objs.size+1)=some (io C h.objs.size):=by heap_get
 have fn:(Value.ref C::bm).contains (.ref C)=true:=by simp
 unfold isInstance
 repeat (first|with_reducible refine mc c3 ?_|(with_reducible refine pa (k _ _ hC) ?_;refine rwm _ ?_ fn)|wp_step)
 refine(looks_findIn c ei).here ?_;dsimp only;refine hy (ae ((bind_fn c _ ef).here ?_));dsimp only;refine ae (s1 (ov hq λr s' z=>?_));rcases r with e|(v|_|_|_)<;>first|exact z|exact z.elim|skip
 rcases z with⟨rfl,z⟩;exact ar (ar z)
end
end Internal
end
noncomputable section
namespace Internal
open PySem PySem.W PySem.Calls PyProof.Rows Builtin.ObjectAttr
structure nn (K:Frag) (C:Addr) (cd:ClassData):Prop where
 cls:clsIn K C=some cd
 hd:cd.hasDict=true
 ne:cd.mro.isEmpty=false
 top:cd.mro.contains (.type "object")=true
 pass:∀self,refuseLoop self "__setattr__" cd.mro=pure ()
 sa:findIn K (.ref C) "__setattr__"=some (some (.builtin "object.__setattr__"))
section
variable {J:Program}{b1:Cx}{r g b6:ay}{b2 b4:List Addr}{l:List Env}{A:Around}{α β γ δ:Type}{P:bt}{b7 mb:Str->Option Value}{n:Nat}{rc:aG}{e:AE}{env:Env}{O:af}{h b5:Heap}{s:Shared}{K:Frag}{C:Addr}{bm:List Value}{w:World}
def EX(b1:Cx)(r g:ay)(b2:List Addr)(l:List Env)(O:af)(h:Heap)(C x:Addr)(k:Nat):Prop:=
 ∃ob vs,h.get? x=some ob/\ob.cls= .ref C/\ob.data= .fields vs/\vs.size=6/\vs[1]? =some .none/\aD b1 r g b2 l O x/\
  (ob.dict=none\/∃d es ep m,ob.dict=some d/\d≠x/\h.get? d=some ⟨.type "dict",.none,.dict es ep,#[]⟩/\fm ⟨.type "dict",.none,.dict es ep,#[]⟩ m/\es.size<=k/\aD b1 r g b2 l O d)
theorem Av{R:Result->Shared->Prop}(X:K.In s.heap)(I:InstAt s.heap x ox C od)(p:nn K C c6)(ht:findIn K (.ref C) B=some none)
  (h:∀b,wpAny (model J w) A.in1 (storeInOwnDict (.ref x) (.ref C) (.str B tk) B v b)
   (λcl s'=>match cl with| .done f=>R (.ok f) s'| .again c'=>c'.quiet=true/\codeAny (model J w) A c' R s') (λe s'=>R (.error e) s') s):
  codeAny (model J w) A (.call (.builtin "object.__setattr__") ⟨[.ref x,.str B tk,v],[]⟩) R s:=by
 have c:=PySem.F.store_object;have sub:Looks (model J w) s.heap (isInstance (.ref x) (.type "object")) true:=I.type.andThen (looks_mroIn X (by unfold mroIn;rw[p.cls,Option.bind_some,if_neg (by rw[p.ne];decide),p.top]));refine codeAny_call_builtin c.slot.plain c.entry (@check_slot (model J w) _ _ s "object.__setattr__" "object" "__setattr__" (.ref x) [.str B tk,v] [] _ c.kind c.split sub (c.args (.ref x) (.str B tk) v) ?_);have hm:Looks (model J w) s.heap (mroOf (.ref C)) c6.mro:=(looks_clsIn X p.cls).andThen .now;have D:Looks (model J w) s.heap (storeTaker? none) none:= .now;rw[osa_eq,refuse_eq];refine ae (ae (I.type.here (ae (hm.here ?_))));rw[p.pass];refine ar (ae (I.type.here (ae ((looks_findIn X ht).here (ae (D.here ?_))))));exact h _
set_option tactic.hygienic true in
theorem Jl(KX:K.In b1.B)(p:nn K C c6)(ht:findIn K (.ref C) B=some none){v:Value}(hk:k<=900)(S:St b1 r g b2 l O s.heap)(X:EX b1 r g b2 l O s.heap C x k)
  {Q:Unit->Shared->Prop}{E:Value->Shared->Prop}(hq:∀b5 tk,St b1 r g b2 l O b5->EX b1 r g b2 l O b5 C x (k+1)->Q () {s with heap:=b5,toks:=tk}):
  wpAny (model J b1.w) A (setAttr (.ref x) B v) Q E s:=by
 (refine j2 X λob vs hx cr f cp h1 L c=>?_;clear X);have XK:=KX.keeps S.ground;have f4:notCls ob=true:=by unfold notCls;exact rwm _ rfl f
 have cl:∀{h1:Heap}{d:Addr}{es:Array DictEntry}{ep:Nat}{m:Str->Option Value}{bs:Obj},St b1 r g b2 l O h1->h1.get? x=some bs->bs.cls=ob.cls->bs.data=ob.data->bs.dict=some d->d≠x->
   h1.get? d=some ⟨.type "dict",.none,.dict es ep,#[]⟩->fm ⟨.type "dict",.none,.dict es ep,#[]⟩ m->es.size<=k->aD b1 r g b2 l O d->∀{A'}{E':Value->Shared->Prop}{Q':PySem.Fin->Shared->Prop},
   (∀s',Q () s'->Q' (.done (.ret .none)) s')->wpAny (model J b1.w) A' (storeInDict d (.str B s.toks) B v) Q' E' {s with heap:=h1,toks:=s.toks+1}:=by
  intro h1 d es ep m bs S1 M dt ds f1 U hD hn be Ld A' E' Q' q;refine ae (ar (ae ?_));refine uD hD hn λG t=>?_;refine bc λno=>bS (uC (x:=B) (v:=v) G t hn) λn1 n2 n3 n4 n5=>no (cS (y3 (x:=B) (v:=v) (es:=es) (ep:=ep) G t rfl) λH cf e1 e2=>?_);have c3:=ks (Obj.putName B G (.str B t) v) hD n3;rw[e1] at c3 n1;have y:H.size<=k+1:=by rcases e2 with e2|⟨e2,_⟩<;>lia
  refine ae (wpAny_lookBehind c3 (pastItsLine_dict (by refine rwm _ ?_ nf;exact xq hk y)) ?_);refine ar (q _ (hq _ _ (S1.extBut Ld (ka ..).extBut) ?_));have bl:=(ka h1 d (Obj.putName B G (.str B t) v)).extBut x bs (Ne.symm U) M;exact⟨bs,vs,bl,dt.trans cr,ds.trans f,cp,‹_›,L,.inr ⟨d,H,cf,_,f1,U,c3,n1,y,Ld⟩⟩
 (refine bc λno=>a2 c (λj=>?_) (λzz=>?_);(try clear c);refine no ?_;clear no;rotate_left;(try clear c);refine bH zz λd es ep m cs=>dc cs λY U hD hn be Ld=>no ?_;clear no;rotate_right)
 .have I:InstAt s.heap x ob C none:=⟨hx,cr,f4,by refine rwm _ ?_ j;trivial⟩;refine set_plain XK I p.sa (Av XK I p ht λb=>ae (ar (ae (ae (r9 hx ?_)))));dsimp only;refine rwm _ ?_ cr;refine ae (looks_clsIn XK p.cls _ _ _ _ (λ_ _ e=>e) ?_);refine rwm _ (rwm _ (rwm _ ?_ f) j) p.hd;simp only[Bool.not_true,Bool.false_eq_true,if_false,typeHasDict,Bool.or_self];refine ae (wpAny_alloc ?_);have i:=a3 {cls:= .type "dict",data:= .dict #[]} hx;refine ae (wpAny_update i ?_);refine ar (ae (ar ?_));have S1:=S.keep (b5:=s.heap.push {cls:= .type "dict",data:= .dict #[]}) λ_ _ e=>a3 _ e;have de:=mm (ms hx);have N:(s.heap.push {cls:= .type "dict",data:= .dict #[]}).get? s.heap.objs.size=some ⟨.type "dict",.none,.dict #[] 0,#[]⟩:=Heap.get?_push_at rfl rfl;have bb:=(ka (s.heap.push {cls:= .type "dict",data:= .dict #[]}) x λo=>{o with dict:=some s.heap.objs.size}).extBut _ _ (Ne.symm de) N;have bl:=ks (λo=>{o with dict:=some s.heap.objs.size}) i (by
   clear j i;rcases ob with⟨D,od,bo,c1⟩;simp only at f;subst f;rfl)
  exact cl (S1.extBut L (ka (s.heap.push {cls:= .type "dict",data:= .dict #[]}) x λo=>{o with dict:=some s.heap.objs.size}).extBut) bl rfl rfl rfl (Ne.symm de) bb ⟨#[],0,rfl,λ_ he=>by simp at he,λ_=>rfl⟩ (i1 _) (S.lone_new (cV _)) λs' z=>z
 .have I:InstAt s.heap x ob C (some ⟨.type "dict",.none,.dict es ep,#[]⟩):=⟨hx,cr,f4,by refine rwm _ ?_ Y;exact hD⟩;refine set_plain XK I p.sa (Av XK I p ht λb=>ae (ar (ae (ae (r9 hx ?_)))));dsimp only;refine rwm _ ?_ cr;refine ae (looks_clsIn XK p.cls _ _ _ _ (λ_ _ e=>e) ?_);refine rwm _ (rwm _ ?_ Y) p.hd;refine ar (ae (ar ?_));exact cl S hx rfl rfl Y U hD hn be Ld λs' z=>z
variable {bb q:Str}{N:Addr}{H:List Value}{bd:Bool}{sn:List Str}{sub:List Value}{ab:Bool}{bi:Option Bool}{dd:Option Addr}{k0 k1 k2 k3 k5:Option Value}
theorem Jm{M:Model}{E:Value->Shared->Prop}(X:gY bm){ob:Obj}{Q:Unit->Shared->Prop}
  (hC:s.heap.get? C=some (excClassObj bb q C N H bm bd sn sub ab bi dd k0 k1 k2 k3 k5 "Exception.__new__"))(hx:s.heap.get? x=some ob)(cr:ob.cls= .ref C)(hq:Q () s):
  wpAny M A (checkBuiltinCall "Exception.__init__" ⟨.ref x::j,[]⟩) Q E s:=by
 rcases s with⟨hh,gn,dr,tk,os⟩;have F:=o3;have hc:(Value.ref C::bm).contains (.type "Exception")=true:=by rw[List.contains_cons,X.hB,Bool.or_true]
 have hs:=F.noStar;simp only[checkBuiltinCall,F.initKind,F.initSplit,F.initRow]
 repeat (first|(with_reducible refine mc hx ?_;refine rwm _ ?_ cr)|with_reducible refine mc hC ?_|(with_reducible refine pa hC ?_;refine rwm _ ?_ hc)|wp_step)
 refine wpAny_onRaise ?_;rw[show∀(a b:String)(n:Nat),Bind.check ⟨.positional,"*","Exception",.self,[⟨"args",.varPos,false⟩]⟩ a b n (List.map (λx=>x.fst) ({pos:=Value.ref x::j}:Args).kw)=pure () from
  λa b n=>check_star_args _ _ _ _ _ _]
 exact ar hq
theorem Jn(X:gY bm){y:Value}(hC:s.heap.get? C=some (excClassObj bb q C N H bm bd sn sub ab bi dd k0 k1 k2 k3 k5 "Exception.__new__"))
  (S:St b1 r g b2 l O s.heap)(b:EX b1 r g b2 l O s.heap C x k){Q:Value->Shared->Prop}{E:Value->Shared->Prop}(hq:∀b5,St b1 r g b2 l O b5->EX b1 r g b2 l O b5 C x k->Q .none {s with heap:=b5}):
  wpAny (model J b1.w) A (call (.builtin "Exception.__init__") [.ref x,y]) Q E s:=by
 have F:=o3;refine j2 b λob vs hx cr f cp h1 L c=>s1 (codeAny_call_builtin F.init.plain F.initEntry (Jm X hC hx cr ?_));unfold Builtin.«BaseException.__init__»;dsimp only;refine rwm _ ?_ (hX (by simp));unfold newTuple Builtin.BaseException.bexcPut;have h0:=EJ cp;have i:=a3 (h:=s.heap) {cls:= .type "tuple",data:= .seq [y].toArray} hx;have p:=lv h0;refine ae (r8 (ae (ae (p4 i f p (ae (wpAny_setField i f h0 ?_))))) (by refine(?_:[y].toArray.size<=sizeLine);refine rwm _ ?_ List.size_toArray;exact a6 (by decide:1<=1000) (by refine rwm _ ?_ nf;exact ot _ _)));have S1:=S.keep (b5:=s.heap.push {cls:= .type "tuple",data:= .seq [y].toArray}) λ_ _ e=>a3 _ e;have bl:((s.heap.push {cls:= .type "tuple",data:= .seq [y].toArray}).update x (Obj.mapFields (·.setIfInBounds 0 (.ref s.heap.objs.size)))).get? x=some ⟨ob.cls,ob.dict,.fields (vs.setIfInBounds 0 (.ref s.heap.objs.size)),ob.slots⟩:=by
  clear hx;rcases ob with⟨D,od,bo,c1⟩;simp only at f;subst f;exact ks _ i rfl
 have cl:Q .none {s with heap:=(s.heap.push {cls:= .type "tuple",data:= .seq [y].toArray}).update x (Obj.mapFields (·.setIfInBounds 0 (.ref s.heap.objs.size)))}:=by
  refine hq _ (S1.extBut L (ka (s.heap.push {cls:= .type "tuple",data:= .seq [y].toArray}) x (Obj.mapFields (·.setIfInBounds 0 (.ref s.heap.objs.size)))).extBut) ⟨_,_,bl,cr,rfl,by refine a0 Array.size_setIfInBounds ?_;exact cp,?_,L,?_⟩
  .refine a0 (Array.getElem?_setIfInBounds_ne (by decide)) ?_;exact h1
  ·(refine bc λno=>a2 c (λj=>?_) (λzz=>?_);(try clear c);refine no ?_;clear no;rotate_left;(try clear c);refine bH zz λd es ep m cs=>dc cs λY U hD hn be Ld=>no ?_;clear no;rotate_right)
   .exact .inl j
   .exact .inr ⟨d,es,ep,m,Y,U,(ka _ x _).extBut _ _ U (a3 _ hD),hn,be,Ld⟩
 split
 .refine wpAny_letGo (ar cl)
 .exact ar (ar cl)
theorem oY{R:Rl α β}{tt:Sem β}{m:MM α}{v:α}(hs:∀r,aa J b1 r l A R g b2 tt m)(q:m O=some (.ok v,M))(S:St b1 r g b2 l O s.heap)(X:EX b1 r g b2 l O s.heap C x k)
  {Q:β->Shared->Prop}{E:Value->Shared->Prop}(hq:∀s' b6 b4 y,bk s g b2 s' b6 b4->St b1 r b6 b4 l M s'.heap->EX b1 r b6 b4 l M s'.heap C x k->R b6 b4 v y->Q y s'):wpAny (model J b1.w) A tt Q E s:=by
 (refine j2 X λob vs hx cr f cp h1 L c=>?_;clear X);have cf:ob.cls≠ .type "frame":=by refine rwm _ ?_ cr;simp
 have b:=S.reserve L hx;(refine bc λno=>a2 c (λj=>?_) (λzz=>?_);(try clear c);refine no ?_;clear no;rotate_left;(try clear c);refine bH zz λd es ep G cs=>dc cs λY U hD hn be Ld=>no ?_;clear no;rotate_right)
 .refine eb (hs _ O _ s g b2 (.refl _) (.refl _) b q) (λy s' z=>?_) λy s' z=>?_
  ·(refine ch z λc5 bl v' e1 p S2 hR=>?_;clear z);(have za:=oke e1;clear e1;cases za);refine bc λno=>aw (S2.release L.2.1 cf) λS3 D t=>no (hq s' c5 bl y p S3 ⟨ob,vs,t,cr,f,cp,h1,D,.inl j⟩ hR)
  .refine cT z λ_ _ _ _ e1 _=>oee e1
 .have i:aD b1 (upd r x ob) g b2 l O d:=⟨Ld.1,by unfold upd;refine a0 (hX U) ?_;exact Ld.2.1,Ld.2.2⟩;refine eb (hs _ O _ s g b2 (.refl _) (.refl _) (b.reserve i hD) q) (λy s' z=>?_) λy s' z=>?_
  ·(refine ch z λc5 bl v' e1 p S2 hR=>?_;clear z);(have za:=oke e1;clear e1;cases za);(refine bc λno=>aw (S2.release i.2.1 (by simp)) λS3 D bo=>no ?_;clear no);(refine bc λno=>aw (S3.release L.2.1 cf) λS4 I o=>no ?_;clear no);have B:aD b1 r c5 bl l M d:=⟨D.1,(oS D.2.1).2,D.2.2⟩;exact hq s' c5 bl y p S4 ⟨ob,vs,o,cr,f,cp,h1,I,.inr ⟨d,es,ep,G,Y,U,bo,hn,be,B⟩⟩ hR
  .refine cT z λ_ _ _ _ e1 _=>oee e1
end
end Internal
end
noncomputable section
set_option maxHeartbeats 2000000
namespace Internal
open PySem PySem.W PySem.Calls PyProof.Rows Builtin.ObjectAttr
section
variable {J:Program}{b1:Cx}{r g b6:ay}{b2 b4:List Addr}{l:List Env}{A:Around}{α β γ δ:Type}{P:bt}{b7 mb:Str->Option Value}{n:Nat}{rc:aG}{e:AE}{env:Env}{O:af}{h b5:Heap}{s:Shared}{K:Frag}{C:Addr}{bl:List Value}{w:World}
def re(P:bt):aG:=⟨λex e=>match ex with| .Name n _=>cu P.glob e n|_=>λ_=>none,λ_ _ _=>none,λ_ _ _=>none,λ_ _ _ _=>none,λ_ _ _=>none⟩
theorem Aw(G:Gl b1 P b7 mb)(n:Nat):aL J b1 n (re P) where
 ev:=λ_ he ex=>by
  cases ex<;>first|exact aa.none|skip
  exact qJ G he _ _
 test:=λ_ _ _=> .none
 ex:=λ_ _ _=> .none
 as:=λ_ _ _ _ _ _=> .none
 call:=λ_ _ _ _ _ _ _=> .none
 star:=λ_ _ _ _=>rfl
 set:=λ_ _ _ _ _=>rfl
theorem Jo{T:String}{B:Str}{v:Value}{pl:Sem Bool}{Q:Value×List Value->Shared->Prop}{E:Value->Shared->Prop}(X:K.In s.heap)(ht:typeOf (.type T)=pure (.type "type"))(hs:Manifest.isStub T=false)
  (e:findCls K (.type T) (.type "type") B=some (.val v))(hh:handedIn v=true)(h:Q (v,[]) {s with toks:=s.toks+1}):wpAny (model J w) A (getMethod (.type T) B pl) Q E s:=by
 have cp:opaqueClassAbove (.type T)=pure none:=by unfold opaqueClassAbove;dsimp only;refine rwm _ ?_ hs;rfl
 have L0:Looks (model J w) s.heap (typeOf (.type T)) (.type "type"):=Looks.of_pure ht;have hg:findIn K (.type "type") "__getattribute__"=some (some (.builtin "type.__getattribute__")):=type_tga;unfold getMethod specialOf;refine ae (ae (L0.here ((looks_findIn X hg).here ?_)));dsimp only;refine rwm _ ?_ (ec canon_tga);refine ae (eb ?_ (λ_ _ z=>ar z) λ_ _ z=>z);have b:Looks (model J w) s.heap (opaqueClassAbove (.type T)) none:=Looks.of_pure cp;exact cls_open X b L0 hg (looks_hook X (by rfl)) (by show subIn K _ _=_;rfl) e
  (ar (by show wpAny _ _ (handedOut v) _ _ _;refine rwm _ ?_ (handedOut_of hh);exact ar h))
set_option tactic.hygienic true in
theorem Jp(G:Gl b1 P b7 mb)(hR:Rm A l n)(KX:K.In b1.B)(ki:findCls K (.type "Exception") (.type "type") "__init__"=some (.val (.builtin "Exception.__init__")))(XM:gY bl)
  {bb q:Str}{N:Addr}{H:List Value}{bd:Bool}{sn:List Str}{sub:List Value}{ab:Bool}{bi:Option Bool}{dd:Option Addr}{k0 k1 k2 k3 k5:Option Value}
  (hC:b1.B.get? C=some (excClassObj bb q C N H bl bd sn sub ab bi dd k0 k1 k2 k3 k5 "Exception.__new__"))
  (he:ER b1 l g b2 e env){x:Addr}{t:T}{k:Nat}(h1:cu P.glob e "Exception" O=some (.ok (.t (.typ "Exception")),O))(h2:cu P.glob e "self" O=some (.ok (.t (.top x)),O))(h3:cu P.glob e "what" O=some (.ok (.t t),O))
  (S:St b1 r g b2 l O s.heap)(X:EX b1 r g b2 l O s.heap C x k){p1 p2 p3 D j ep:Pos}(hp:(D.endLine==j.line)=true){Q:Flow->Shared->Prop}{E:Value->Shared->Prop}
  (hq:∀s' b6 b4,bk s g b2 s' b6 b4->St b1 r b6 b4 l O s'.heap->EX b1 r b6 b4 l O s'.heap C x k->Q .next s'):
  wpAny (model J b1.w) A (exec (.Expr (.Call (.Attribute (.Name "Exception" p1) "__init__" D) [.Name "self" p2,.Name "what" p3] [] j) ep) env) Q E s:=by
 have b:aL J b1 n (re P):=Aw G n;have hi:interactive env=false:=by unfold interactive;refine rwm _ (rwm _ ?_ he.kind) he.scope;rfl
 rw[exec_Expr env _ ep hi rfl,An,uA rfl];refine ae (le (ae (ae ?_)));refine oY (R:=RV b1.w) (λr=>b.ev (r:=r) hR he (.Name "Exception" p1)) h1 S X λY g1 bo y B S1 X1 L=>?_;have L:y= .type "Exception":=by exact L
 subst L;refine ae (le ?_);unfold methodCall;refine rwm _ ?_ (Am _ j rfl (by refine(?_:2<20);decide));have z:methodCallPos true (.Name "Exception" p1) env D j=pure j:=by unfold methodCallPos;refine rwm _ ?_ hp;rfl
 refine rwm _ ?_ z;refine ae (hy ?_);refine Jo (KX.keeps S1.ground) (by lk) (by decide+kernel) ki (by decide+kernel) (ae (ar ?_));have c:bk Y g1 bo {Y with toks:=Y.toks+1} g1 bo:=⟨⟨Y.heap,Y.toks+1,rfl⟩,.refl _,.refl _⟩;unfold callWith;have hs:[Expr.Name "self" p2,Expr.Name "what" p3].all noStar=true:=rfl;have d:=ng (c4:=j) (env:=env) [Expr.Name "self" p2,Expr.Name "what" p3] hs;have i:(backTo j (starEach [Expr.Name "self" p2,Expr.Name "what" p3] env)).any (·.1)=false:=by
  rw[List.any_eq_false];intro p hp;simp [d p hp]
 refine ae (hy (qN d ?_));have qe:a8 (re P) e [Expr.Name "self" p2,Expr.Name "what" p3] O=some (.ok [.t (.top x),.t t],O):=by
  have e1:bm (cu P.glob e "what") (λv=>bm (pm []) λvs=>pm (v::vs)) O=some (.ok [.t t],O):=by refine a0 (az h3) ?_;rfl
  show bm (cu P.glob e "self") (λv=>bm (bm (cu P.glob e "what") λv=>bm (pm []) λvs=>pm (v::vs)) λvs=>pm (v::vs)) O=_;refine a0 (az h2) (rwm _ ?_ (az e1));rfl
 refine oY (s:={Y with toks:=Y.toks+1}) (R:=yz b1.w) (λr=>jy (r:=r) b hR [Expr.Name "self" p2,Expr.Name "what" p3] j g1 bo (he.mono B.2.1 B.2.2)) qe S1 X1 λs2 g2 m U bs S2 X2 de=>?_;(refine aq de λy1 r1 cd=>aw cd λc2 f M=>?_;clear cd;clear de;subst c2;refine aq M λI r2 c3=>aw c3 λc2 o cr=>?_;clear c3;subst c2;subst cr);have f:y1= .ref x:=by exact f
 subst f;refine ae (le ?_);refine qO i (λQ' hq=>ar (hq _)) (Jn XM (S2.ground _ _ hC) S2 X2 λb5 S3 X3=>wpAny_dropValue (hq _ g2 m (B.trans (c.trans (bs.trans ⟨⟨b5,s2.toks,rfl⟩,.refl _,.refl _⟩))) S3 X3))
set_option tactic.hygienic true in
theorem Ax(G:Gl b1 P b7 mb)(hR:Rm A l n)(KX:K.In b1.B)(p:nn K C c6)(he:ER b1 l g b2 e env)(hk:k<=900)(hf:findIn K (.ref C) f=some none)
  (h2:cu P.glob e "self" O=some (.ok (.t (.top x)),O))(h3:cu P.glob e nv O=some (.ok (.t t),O))
  (S:St b1 r g b2 l O s.heap)(X:EX b1 r g b2 l O s.heap C x k){Q:Flow->Shared->Prop}{E:Value->Shared->Prop}
  (hq:∀s' b6 b4,bk s g b2 s' b6 b4->St b1 r b6 b4 l O s'.heap->EX b1 r b6 b4 l O s'.heap C x (k+1)->Q .next s'):
  wpAny (model J b1.w) A (exec (.Assign [.Attribute (.Name "self" p1) f p2] (.Name nv p3) j) env) Q E s:=by
 have b:aL J b1 n (re P):=Aw G n;rw[zS];refine ae (le ?_);rw[zT rfl,pure_bind];show wpAny _ _ (eval (.Name nv p3) env>>=λv=>swappedStores [.Attribute (.Name "self" p1) f p2] (.Name nv p3) env>>=λsw=>assignStores env v sw ((assignEach [.Attribute (.Name "self" p1) f p2] env).map (·.2))) _ _ _;refine ae (oY (λr=>b.ev hR he (.Name nv p3)) h3 S X λY g1 bo y B S1 X1 L=>?_);refine rwm _ (rwm _ ?_ (qX rfl)) (zJ (he.mono B.2.1 B.2.2) (.Attribute (.Name "self" p1) f p2) (.Name nv p3) rfl);refine ae (ar ?_);show wpAny _ _ (do assign (.Attribute (.Name "self" p1) f p2) env y;pure Flow.next) _ _ _;show wpAny _ _ ((do
  let M<-holding [y] (eval (.Name "self" p1) env)
  standAt p2.atName
  holding [y,M] (setAttr M f y)
  release [y,M] [])>>=λ_=>pure Flow.next) _ _ _
 refine ae (ae (hy ?_));refine oY (λr=>b.ev hR (he.mono B.2.1 B.2.2) (.Name "self" p1)) h2 S1 X1 λs2 g2 m z c S2 X2 hz=>?_;have hz:z= .ref x:=by exact hz
 subst hz;refine ae (le (ae (hy ?_)));refine Jl KX p hf hk S2 X2 λb5 tk S3 X3=>?_;intro U pp I;rw[Sem.wp_release];exact ar (hq _ g2 m (B.trans (c.trans ⟨⟨b5,tk,rfl⟩,.refl _,.refl _⟩)) S3 X3)
end
noncomputable def oZ(x:Addr)(t:Str):List (Str×V):=[(Str.ofString "self",.t (.top x)),(Str.ofString "what",.t (.str t)),(Str.ofString "at",.t (.int (-1)))]
def ee(x:Addr)(t:Str):af:=[.ns true (oZ x t)]
structure rf (cx:Cx) (P:bt) (a:Addr) (fi:kh) (o:Obj) (fd:FuncData):Prop where
 fn:oW cx a fi o fd
 body:∃p1 p2 p3 ap cp ep q1 q2 q3 q4 u1 u2 u3 u4,(ap.endLine==cp.line)=true/\fd.body= .stmts [
  .Expr (.Call (.Attribute (.Name "Exception" p1) "__init__" ap) [.Name "self" p2,.Name "what" p3] [] cp) ep,
  .Assign [.Attribute (.Name "self" q1) "what" q2] (.Name "what" q3) q4,
  .Assign [.Attribute (.Name "self" u1) "at" u2] (.Name "at" u3) u4]
 bind:∀x t,d8 fd.params.args [.t (.top x),.t (.str t)] fi.dfl=some (oZ x t)
 env:∀x t,(bm (new (.ns true [])) λlh=>bm (et fd.scope.names []) λcl=>bm (gT ⟨fd.scope,lh,cl,fd.qualname++nm ".<locals>.",fi.code⟩ (oZ x t)) λ_=>pm (⟨fd.scope,lh,cl,fd.qualname++nm ".<locals>.",fi.code⟩:AE)) []
  =some (.ok ⟨fd.scope,0,[],fd.qualname++nm ".<locals>.",fi.code⟩,ee x t)
 nE:∀x t q c,cu P.glob ⟨fd.scope,0,[],q,c⟩ "Exception" (ee x t)=some (.ok (.t (.typ "Exception")),ee x t)
 nS:∀x t q c,cu P.glob ⟨fd.scope,0,[],q,c⟩ "self" (ee x t)=some (.ok (.t (.top x)),ee x t)
 nW:∀x t q c,cu P.glob ⟨fd.scope,0,[],q,c⟩ "what" (ee x t)=some (.ok (.t (.str t)),ee x t)
 nA:∀x t q c,cu P.glob ⟨fd.scope,0,[],q,c⟩ "at" (ee x t)=some (.ok (.t (.int (-1))),ee x t)
structure o0 (K:Frag) (cx:Cx) (P:bt):Prop where
 X:K.In cx.B
 ini:findCls K (.type "Exception") (.type "type") "__init__"=some (.val (.builtin "Exception.__init__"))
 exc:∀C,P.exc C=true->∀(Z:Prop),(∀(nm' q:Str)(N:Addr)(bs bl:List Value)(hdct:Bool)(sn:List Str)(sub:List Value)(ab:Bool)(col:Option Bool)(dd:Option Addr)(k0 k1 k2 k3 k5:Option Value)(cd:ClassData)(fI:Addr)(fi:kh)(o:Obj)(fd:FuncData),cx.B.get? C=some (excClassObj nm' q C N bs bl hdct sn sub ab col dd k0 k1 k2 k3 k5 "Exception.__new__")->gY bl->nn K C cd->findIn K (.ref C) "what"=some none->findIn K (.ref C) "at"=some none->specialIn K (.ref C) "__call__"=some (some (.builtin "type.__call__"))->instIn K (.ref C) (.type "type")=some true->findIn K (.ref C) "__init__"=some (some (.ref fI))->typeIn K (.ref fI)=some (.type "function")->rf cx P fI fi o fd->Z)->Z
section
variable {J:Program}{b1:Cx}{r g b6:ay}{b2 b4:List Addr}{l:List Env}{A:Around}{α β γ δ:Type}{P:bt}{b7 mb:Str->Option Value}{n:Nat}{rc:aG}{e:AE}{env:Env}{O:af}{h b5:Heap}{s:Shared}{K:Frag}{C:Addr}{bl:List Value}{w:World}
theorem EX.push{x:Addr}{k i:Nat}{N:List (Str×V)}(X:EX b1 r g b2 l O h C x k)(hi:O[i]? =some (.ns true N)){L:Addr}(M:b2[i]? =some L)(hf:env.frame=some L):EX b1 r g b2 (env::l) O h C x k:=by
 have p:∀{a:Addr},aD b1 r g b2 l O a->aD b1 r g b2 (env::l) O a:=λ{a} v=>⟨v.1,v.2.1,v.2.2.1,v.2.2.2.1,λe he q=>by
  (refine a2 (hG.mp he) (λzz=>?_) (λhe=>?_);subst zz;rotate_left;rotate_right)
  .rw[hf] at q;cases q;have:=v.2.2.2.1 i _ hi M;exact ftf this
  .exact v.2.2.2.2 e he q⟩
 refine j2 X λob vs hx cr f cp h1 v c=>⟨ob,vs,hx,cr,f,cp,h1,p v,?_⟩;(refine bc λno=>a2 c (λj=>?_) (λzz=>?_);(try clear c);refine no ?_;clear no;rotate_left;(try clear c);refine bH zz λd es ep m cs=>dc cs λY U hD hn be Ld=>no ?_;clear no;rotate_right)
 .exact .inl j
 .exact .inr ⟨d,es,ep,m,Y,U,hD,hn,be,p Ld⟩
theorem EX.pop(X:EX b1 r g b2 (env::l) O h C x k):EX b1 r g b2 l O h C x k:=by
 refine j2 X λob vs hx cr f cp h1 v c=>⟨ob,vs,hx,cr,f,cp,h1,v.pop,?_⟩;(refine bc λno=>a2 c (λj=>?_) (λzz=>?_);(try clear c);refine no ?_;clear no;rotate_left;(try clear c);refine bH zz λd es ep m cs=>dc cs λY U hD hn be Ld=>no ?_;clear no;rotate_right)
 .exact .inl j
 .exact .inr ⟨d,es,ep,m,Y,U,hD,hn,be,Ld.pop⟩
set_option tactic.hygienic true in
theorem Jq(G:Gl b1 P b7 mb)(KX:K.In b1.B)(ki:findCls K (.type "Exception") (.type "type") "__init__"=some (.val (.builtin "Exception.__init__")))(hR:Rg A l n){bb q:Str}{N:Addr}{H:List Value}{bd:Bool}{sn:List Str}{sub:List Value}{ab:Bool}{bi:Option Bool}{dd:Option Addr}{k0 k1 k2 k3 k5:Option Value}{c6:ClassData}{fI:Addr}{fi:kh}{o:Obj}{fd:FuncData}
  (hC:b1.B.get? C=some (excClassObj bb q C N H bl bd sn sub ab bi dd k0 k1 k2 k3 k5 "Exception.__new__"))(XM:gY bl)(p:nn K C c6)(f1:findIn K (.ref C) "what"=some none)(f2:findIn K (.ref C) "at"=some none)(I:rf b1 P fI fi o fd)
  {x:Addr}{t:Str}{tk:Tok}(S:St b1 r g [] l [] s.heap)(X:EX b1 r g [] l [] s.heap C x 0){R:Result->Shared->Prop}
  (hq:∀s' b6 b4 M,bk s g [] s' b6 b4->St b1 r b6 b4 l M s'.heap->EX b1 r b6 b4 l M s'.heap C x 2->R (.ok (.ret .none)) s'):
  codeAny (model J b1.w) A (.call (.ref fI) ⟨[.ref x,.str t tk],[]⟩) R s:=by
 have F:=I.fn;(refine bc λno=>aw (qU F.sc) λo1 E m=>no ?_;clear no);have b:LR (VR b1.w g []) [.t (.top x),.t (.str t)] [.ref x,.str t tk]:= .cons rfl (.cons (by exact⟨tk,rfl⟩) .nil);refine cD (qT S F.ps F.dfl F.len (I.bind x t) b) λys hb h1 h2=>uJ (by have:=hR.depth;refine(?_:A.depth<1000);exact xe this) (S.ground _ _ F.at_) F.data E m ((F.rec_).keeps S.ground) ?_;refine hb _ _ _ _ ?_;refine rwm _ (rwm _ (rwm _ (rwm _ ?_ F.clos) F.code) F.bui) F.glob;refine oY (λr=>uI (λ_=>rfl) o1 (cl:=[]) rfl h1 h2) (I.env x t) S X λY g1 bo env B S1 X1 he=>ac he λhe c2=>⟨G.nolimit.keeps S1.ground,?_⟩;(refine bc λno=>mH I.body λp1 p2 p3 D j ep q1 c=>mH c λq2 q3 q4 k u2 u3 U cd=>ac cd λhp L=>no ?_;clear cd c no);refine rwm _ ?_ L;have hk:env.scope.kind= .function:=by refine rwm _ ?_ he.scope;exact he.kind
 have be:ER b1 (env::l) g1 bo ⟨fd.scope,0,[],fd.qualname++nm ".<locals>.",fi.code⟩ env:=⟨he.scope,he.kind,he.loc,he.globals,he.cells,he.qual,he.code,he.builtins,⟨env,.head _,rfl⟩⟩;have X2:=X1.push rfl he.loc c2;refine codeAny_func ?_;have d:=hR.deeper env;show wpAny _ _ (execs [_,_,_] env) _ _ _;refine ae (Jp G d KX ki XM hC be (I.nE x t _ _) (I.nS x t _ _) (I.nW x t _ _) (S1.pushF rfl he.loc hk c2) X2 hp λs3 g3 c9 bs S3 X3=>?_);have i:=be.mono bs.2.1 bs.2.2;show wpAny _ _ (execs [_,_] env) _ _ _;refine ae (Ax G d KX p i (by decide) f1 (I.nS x t _ _) (I.nW x t _ _) S3 X3 λs4 g4 f ce S4 X4=>?_);show wpAny _ _ (execs [_] env) _ _ _;refine ae (Ax G d KX p (i.mono ce.2.1 ce.2.2) (by decide) f2 (I.nS x t _ _) (I.nA x t _ _) S4 X4 λs5 y z v S5 Q=>?_);show wpAny _ _ (pure Flow.next) _ _ _;refine ar (hq s5 y z (ee x t) (B.trans (bs.trans (ce.trans v))) S5.pop Q.pop)
theorem Jr(S:St b1 r g b2 l O h)(L:aD b1 r g b2 l O x):aD b1 (fA r b2 O [] h) g [] l [] x:=by
 refine⟨L.1,?_,L.2.2.1,λi Q e1 _=>by simp at e1,L.2.2.2.2⟩;unfold fA;rw[if_neg];exact L.2.1
 rintro ⟨j,Q,e1,e2,e3,_⟩
 rw[L.2.2.2.1 j Q e1 e3] at e2;exact tff e2
theorem Js(G:Gl b1 P b7 mb)(c5:o0 K b1 P)(hR:Rm A l (n+1))(hE:P.exc C=true)(S:St b1 r g b2 l O s.heap){Q:Value->Shared->Prop}{E:Value->Shared->Prop}
  (hq:∀s' b6 x,bk s g b2 s' b6 b2->St b1 r b6 b2 l O s'.heap->EX b1 r b6 b2 l O s'.heap C x 2->Q (.ref x) s'):wpAny (model J b1.w) A (call (.ref C) [.str t tk]) Q E s:=by
 refine c5.exc C hE _ λbb q N H bl bd sn sub ab bi dd k0 k1 k2 k3 k5 c6 fI fi o fd hC XM p f1 f2 e7 e8 ei ef I=>?_;rcases s with⟨hh,gn,dr,i,os⟩;have B:[Value.str t tk].length<=sizeLine:=by refine rwm _ ?_ nf;show 1<=_;exact ot _ _
 refine s1 (Jk XM (c5.X.keeps S.ground) e7 e8 ei ef (S.ground _ _ hC) B ?_);have k:∀b o,hh.get? b=some o->((hh.push {cls:= .type "tuple",data:= .seq [Value.str t tk].toArray}).push (io C hh.objs.size)).get? b=some o:=λb o e=>a3 _ (a3 _ e);have S1:=S.keep k;have L:=S.lone_new (pB (pk _));have c3:((hh.push {cls:= .type "tuple",data:= .seq [Value.str t tk].toArray}).push (io C hh.objs.size)).get? (hh.objs.size+1)=some (io C hh.objs.size):=by heap_get
 have X2:EX b1 (fA r b2 O [] ((hh.push {cls:= .type "tuple",data:= .seq [Value.str t tk].toArray}).push (io C hh.objs.size))) g [] l [] ((hh.push {cls:= .type "tuple",data:= .seq [Value.str t tk].toArray}).push (io C hh.objs.size)) C (hh.objs.size+1) 0:=
  ⟨_,_,c3,rfl,rfl,rfl,rfl,Jr S1 L,.inl rfl⟩
 refine Jq (s:=⟨(hh.push {cls:= .type "tuple",data:= .seq [Value.str t tk].toArray}).push (io C hh.objs.size),gn,dr,i,os⟩) G c5.X c5.ini (Rg.under hR C [.str t tk]) hC XM p f1 f2 I (vb S1 (PI.nil (b1:=b1))) X2 λs' b6 b4 M st S3 X3=>?_;(refine aw st λD p2 p3=>?_;clear st;rcases D with⟨h4,y,rfl⟩);refine ac (vc S1 (PI.nil (b1:=b1)) S3 p2 p3 (M:=O) rfl) λB1 B2=>⟨rfl,hq _ b6 _ ⟨⟨h4,y,rfl⟩,p2,.refl _⟩ B1 ?_⟩;refine j2 X3 λob vs hx cr f cp h1 v c=>⟨ob,vs,hx,cr,f,cp,h1,B2 _ v,?_⟩;(refine bc λno=>a2 c (λj=>?_) (λzz=>?_);(try clear c);refine no ?_;clear no;rotate_left;(try clear c);refine bH zz λd es ep m cs=>dc cs λY U hD hn be Ld=>no ?_;clear no;rotate_right)
 .exact .inl j
 .exact .inr ⟨d,es,ep,m,Y,U,hD,hn,be,B2 _ Ld⟩
theorem Jt(G:Gl b1 P b7 mb)(c5:o0 K b1 P)(hh:A.handled=none)(hE:P.exc C=true){x:Sem Value}{Q:Flow->Shared->Prop}{E:Value->Shared->Prop}
  (h:wpAny (model J b1.w) A x (λv cf=>∃a b6 b4 k,v= .ref a/\St b1 r b6 b4 l O cf.heap/\EX b1 r b6 b4 l O cf.heap C a k/\E (.ref a) cf) E s):wpAny (model J b1.w) A (raiseStmt env (some x) none) Q E s:=by
 refine c5.exc C hE _ λbb q N H bl bd sn sub ab bi dd k0 k1 k2 k3 k5 c6 fI fi o fd hC XM p f1 f2 e7 e8 ei ef I=>?_;have i:(Value.ref C::bl).contains (.type "BaseException")=true:=by rw[List.contains_cons,XM.hE,Bool.or_true]
 unfold raiseStmt;refine ae (eb h (λv cf c=>?_) λ_ _ x=>x);(refine bH c λa b6 b4 k cv=>bK cv λc2 S X hE=>?_;clear cv;clear c;subst c2);have hC:=S.ground _ _ hC;rcases cf with⟨hp,gn,dr,tk,os⟩;(refine bc λno=>aq X λb vs cv=>?_;clear X;rcases b with⟨D,od,bo,c1⟩;refine dc cv λhx cr f _ d _=>no ?_;clear no);simp only at cr f;clear cv;subst cr f
 repeat (first|with_reducible refine mc hx ?_|with_reducible refine mc hC ?_|(with_reducible refine pa hC ?_;refine rwm _ ?_ i)|wp_step)
 refine rwm _ ?_ d;refine ar (ar (wpAny_raiseNew_none hh hE))
theorem EX.xat(X:EX b1 r g b2 l O h C x k):dg b1 r g b2 l O h C x:=by
 refine j2 X λob vs hx cr f cp h1 v _=>⟨ob,vs,hx,cr,f,cp,v,.inl h1⟩
set_option tactic.hygienic true in
theorem Ju{B:Except Addr Fl×af}(q:um P rc e x O=some B):∃D np be j C,x= .Call (.Name D np) be [] j/\be.all noStar=true/\cu P.glob e D O=some (.ok (.t (.top C)),O)/\P.exc C=true/\
  bm (a8 rc e be) (λvs=>match vs with
   |[.t (.str _)]=>λO=>some (.error C,O)
   |_=>λ_=>none) O=some B:=by
 cases x<;>first|exact nso q|skip
 rename_i f be m j
 cases f<;>first|exact nso q|skip
 rename_i D np
 cases m with
 |cons a b=>exact nso q
 |nil=>
 refine ac (cL q) λcp q=>gW q (λfv c6 e1 q=>?_) λc c6 e1 _=>?_;rotate_left
 .refine ag (qY e1) λ_ e2=>eoe (pri e2).1
 refine ag (qY e1) λ_ e2=>?_;have e3:=(pri e2).2;clear e2;subst e3
 cases fv with
 |own i=>exact nso q
 |t d=>
 cases d<;>first|exact nso q|skip
 refine ac (cL q) λhE q=>⟨_,_,_,_,_,rfl,cp,e1,hE,q⟩
theorem Jv{vs:List V}{C:Addr}{B:Except Addr Fl×af}(q:(match vs with
   |[.t (.str _)]=>λO=>some (.error C,O)
   |_=>λ_=>none:MM Fl) O=some B):∃t,vs=[.t (.str t)]/\B=(.error C,O):=by
 rcases vs with _|⟨v,_|⟨b,c⟩⟩
 .exact nso q
 .cases v with
  |own i=>exact nso q
  |t t=>cases t<;>first|exact nso q|exact⟨_,rfl,(ai q).symm⟩
 .cases v with
  |own i=>exact nso q
  |t t=>cases t<;>exact nso q
theorem Jw(G:Gl b1 P b7 mb)(c5:o0 K b1 P)(S:aL J b1 n rc)(hR:Rm A l (n+1))(he:ER b1 l g b2 e env)(x c:Option Expr)(c4:Pos):
  aa J b1 r l A (RF b1.w) g b2 (exec (.Raise x c c4) env) (match x,c with
  |some x,none=>um P rc e x
  |_,_=>λ_=>none):=by
 cases x with
 |none=>exact aa.none
 |some x=>
 cases c with
 |some c=>exact aa.none
 |none=>
 intro O B s bs Y a b S0 q;(refine bc λno=>hZ (Ju q) λD np be j C cs=>bS cs λe0 cp e1 hE q1=>no ?_;clear cs no);clear q;subst e0;have cf:=he.mono a b;show wpAny (model J b1.w) A (do standAt c4;raiseStmt env (some (do let v<-(do callWith j (<-eval (.Name D np) env) [] (backTo j (starEach be env)) (backToKw j (keywordEach [] env)):Sem Value);standAt c4;pure v)) none) _ _ s;refine ae (le ?_);have keep:∀(s:Shared)(b6:ay)(b4:List Addr)(O:af),St b1 r b6 b4 l O s.heap->∀(Q:Keeper->Shared->Prop)(E:Value->Shared->Prop),(∀k,Q k s)->wpAny (model J b1.w) A (keeperOf (.ref C)) Q E s:=λs b6 b4 O S Q E hq=>by
  refine c5.exc C hE _ λbb q N H bl bd sn sub ab bi dd k0 k1 k2 k3 k5 c6 fI fi o fd hC XM p f1 f2 e7 e8 ei ef I=>?_;unfold keeperOf;refine ae (ra (S.ground _ _ hC) ?_);refine ae (looks_specialIn (c5.X.keeps S.ground) e7 _ _ _ _ (λ_ _ e=>e) ?_);exact ar (hq _)
 have d:=ng (c4:=j) (env:=env) be cp;have i:(backTo j (starEach be env)).any (·.1)=false:=by
  rw[List.any_eq_false];intro p hp;simp [d p hp]
 refine Jt (l:=l) (r:=r) (O:=B.2) G c5 hR.handled hE (ae (ae ?_));refine eb (qJ G cf D np O _ s bs Y (.refl _) (.refl _) S0 e1) (λy s2 z=>?_) λy s' z=>?_;rotate_left
 .refine cT z λ_ _ _ _ e2 _=>oee e2
 (refine ch z λg2 m v e2 p S2 hv=>?_;clear z);have e2:=oke e2;subst e2;have L:=hv;clear hv;subst L;unfold callWith;refine ae (hy (qN d ?_));clear S0 he e1 d cp;refine aa.run (jy S (hR.mono (pk n)) be j g2 m (cf.mono p.2.1 p.2.2)) S2 q1 (λvs U c7 s3 g3 c9 q p3 S3 de=>?_) λx s' z=>?_
 ·(refine ag (Jv q) λt c1=>ac c1 λc2 bo=>?_;clear c1;clear q;subst c2;subst bo);(refine aq de λy1 r1 c3=>aw c3 λc2 f cr=>?_;clear c3;clear de;subst c2;subst cr);(refine ag f λtk bo=>?_;clear f;subst bo);refine ae (le ?_);refine qO i (λQ' hq=>keep s3 g3 c9 _ S3 Q' _ hq) (Js G c5 hR hE S3 λs4 g4 a ce S4 X4=>ae (le (ar ?_)));exact⟨a,g4,c9,2,rfl,S4,X4,g4,c9,C,a,rfl,p.trans (p3.trans ce),S4,rfl,X4.xat⟩
 .refine bc λno=>bH z λg3 c9 c' ex M=>aw M λe4 p3 z=>no (⟨g3,c9,c',ex,e4,p.trans p3,z⟩)
end
end Internal
end
noncomputable section
set_option maxHeartbeats 2000000
namespace Internal
open PySem PySem.W PySem.Calls PyProof.Rows
structure gZ (K:Frag) (cx:Cx) (P:bt) (mg mb:Str->Option Value):Prop where
 G:Gl cx P mg mb
 k1:Kt K cx P
 k2:oU K cx P
 k3:qP K cx P
 k5:uO cx P mg
 k6:uQ K cx P
 k7:oX K cx P
 k8:nh K cx P
 k9:u0 K cx P
 k10:o0 K cx P
 sys:∃o,cx.B.get? sysModules=some o
section
variable {J:Program}{b1:Cx}{r g b6:ay}{b2 b4:List Addr}{l:List Env}{A:Around}{α β γ δ:Type}{P:bt}{b7 mb:Str->Option Value}{n:Nat}{rc:aG}{e:AE}{env:Env}{O:af}{h b5:Heap}{s:Shared}{K:Frag}
theorem Jx(T:gZ K b1 P b7 mb)(S:aL J b1 n rc)(hR:Rm A l (n+1))(hv:LR (VR b1.w g b2) be U):aa J b1 r l A (RV b1.w) g b2 (call (.ref a) U) (ik P rc a be):=by
 intro O B s bs Y d i S0 q;have hv:=LR.up hv d i;unfold ik at q
 cases hf:P.fns a with
 |some fi=>
  rw[hf] at q;refine bc λno=>aq (T.k6.fns _ _ hf) λo fd F=>no (s1 (uN T.G S hR.rg F hv S0 q))
 |none=>
  rw[hf] at q
  cases hi:P.init a with
  |none=>rw[hi] at q;exact nso q
  |some t=>
   rw[hi] at q;exact s1 (HK T.G T.k6 T.sys S hR hi hv S0 q)
set_option tactic.hygienic true in
theorem Jy(T:gZ K b1 P b7 mb)(hb:b<=n)(hc:cM J b1 b P.con)(S:aL J b1 n rc)(hR:Rm A l (n+1))(hf:VR b1.w g b2 f m)(hv:LR (VR b1.w g b2) be U):
  aa J b1 r l A (RV b1.w) g b2 (call m U) (yw P rc f be):=by
 cases f with
 |t t=>
  cases t<;>first|exact IV hR.handled T.G T.sys T.k8 hf hv|skip
  rename_i a
  have hf:m= .ref a:=by exact hf
  subst hf;exact Jh (l4 hb) hc hR hv (Jx T S hR hv)
 |own k=>
  intro O B s bs Y d i S0 q;(refine ag (VR.mono d i _ _ hf) λa c1=>ac c1 λha bo=>?_;clear c1;clear hf;subst bo);refine al (dF q) λQ hk q=>?_;cases Q<;>first|((first|exact nso q|cases q);done)|skip
  exact s1 (HF T.G S hR.rg (LR.up hv d i) S0 hk ha q)
set_option tactic.hygienic true in
theorem Jz(T:gZ K b1 P b7 mb)(S:aL J b1 n rc)(hR:Rm A l n)(he:ER b1 l g b2 e env)(ex:Expr):aa J b1 r l A (RV b1.w) g b2 (eval ex env) (yo P rc ex e):=by
 cases ex<;>first|exact aa.none|skip
 case Constant c k p=>exact F9 c
 case Name x p=>exact qJ T.G he x p
 case BoolOp w vs p=>exact yR S hR p w vs g b2 he
 case BinOp a w b p=>exact Gz S hR he w a b p
 case UnaryOp w a p=>exact GA S hR he w a p
 case Lambda ps v sc p=>exact HH T.G T.k5 he ps v sc p
 case IfExp c a b p=>exact Gy S hR he c a b p
 case Compare a j U p=>exact Gx S hR he a j U p
 case Call f be m p=>
  cases m with
  |cons a b=>exact aa.none
  |nil=>
   cases f
   case Attribute o x D=>exact Jc T.k9 S hR he o x be D p
   all_goals exact Hm T.k3 S hR he _ be p rfl
 case Attribute o x p=>exact GZ T.k1 S hR he o x p
 case Subscript o i p=>exact GQ S hR he o i p
 case List U p=>exact GE S hR he U p
 case Tuple U k p=>exact GF S hR he U k p
 case Dict C vs p=>exact GT T.G T.sys S hR he C vs p
 case ListComp Q I sc p=>exact zR S hR he Q I sc p
set_option tactic.hygienic true in
theorem JA(T:gZ K b1 P b7 mb)(S:aL J b1 n rc)(hR:Rm A l (n+1))(he:ER b1 l g b2 e env)(st:Stmt):aa J b1 r l A (RF b1.w) g b2 (exec st env) (yu P rc st e):=by
 have f:=hR.mono (pk n);cases st<;>first|exact aa.none|skip
 case Expr x p=>exact Ih S f he x p
 case Pass p=>exact Hj p
 case Return x p=>exact Hi S f he x p
 case Assign d x p=>exact Ig S f he d x p
 case If c a b p=>exact Hh S f he c a b p
 case For tg it j i p=>exact HP S f he tg it j i p
 case While c j i p=>exact HS S f he c j i p
 case Raise x c p=>exact Jw T.G T.k10 S hR he x c p
 case Try j hs i cl p=>exact Iv T.G T.k7 S f he j hs i cl p
theorem JB(T:gZ K b1 P b7 mb)(hb:b<=n)(hc:cM J b1 b P.con)(S:aL J b1 n rc):aL J b1 (n+1) (yy P rc) where
 ev:=λhR he ex=>Jz T S (hR.mono (pk n)) he ex
 test:=λhR he ex=>GB (P:=P) S (hR.mono (pk n)) he (λex=>S.ev (hR.mono (pk n)) he ex) ex
 ex:=λhR he st=>JA T S hR he st
 as:=λhR he ex v x hv=>Hg T.k2 S (hR.mono (pk n)) he ex hv
 call:=λhR f be m U hf hv=>Jy T hb hc S hR hf hv
 star:=λ_ _ _ _=>rfl
 set:=λ_ _ _ _ _=>rfl
theorem rh(T:gZ K b1 P b7 mb)(hc:cM J b1 b P.con):∀n,aL J b1 (b+n) (uq P n)
 |0=>F5 _ _ _
 |n+1=>JB T (ix b n) hc (rh T hc n)
end
end Internal
end
noncomputable section
namespace Internal
open PySem PySem.W PySem.Calls PyProof.Rows
def TC(t t':T):Prop:=∀w g x,TR w g t x->TR w g t' x
def bG(l N:List T):Prop:=∀w g x,TRs w g l x->TRs w g N x
def b0(l N:List (aj×T)):Prop:=(∀w g x,TRd w g l x->TRd w g N x)/\N.map (·.1)=l.map (·.1)
def g6(l N:List (Str×T)):Prop:=(∀w g m,TRf w g l m->TRf w g N m)/\N.map (·.1)=l.map (·.1)
def VC:V->V->Prop
 | .t t,.t t'=>TC t t'
 | .own i,.own j=>i=j
 |_,_=>False
def OC:MO->MO->Prop
 | .list l,.list N=>bG l N
 | .dict l,.dict N=>b0 l N
 |a,b=>a=b
noncomputable def LC:List V->List V->Prop
 |[],[]=>True
 |a::l,b::m=>VC a b/\LC l m
 |_,_=>False
noncomputable def SC:af->af->Prop
 |[],[]=>True
 |a::l,b::m=>OC a b/\SC l m
 |_,_=>False
def QC:Except Addr V×af->Except Addr T×af->Prop
 |(.ok (.t t),S),(.ok t',H)=>TC t t'/\SC S H
 |(.error c,S),(.error c',H)=>c=c'/\SC S H
 |_,_=>False
theorem TC.refl(t:T):TC t t:=λ_ _ _ h=>h
theorem TC.trans(x:TC a b)(y:TC b c):TC a c:=λ_ _ _ h=>y _ _ _ (x _ _ _ h)
theorem bG.refl(t:List T):bG t t:=λ_ _ _ h=>h
theorem bG.cons(x:TC t t')(y:bG l N):bG (t::l) (t'::N):=λw g v h=>by
 refine b9 h λa r e p q=>⟨a,r,e,x _ _ _ p,y _ _ _ q⟩
theorem b0.refl(t:List (aj×T)):b0 t t:=⟨λ_ _ _ h=>h,rfl⟩
theorem b0.cons(x:TC t t')(y:b0 l N):b0 ((k,t)::l) ((k,t')::N):=⟨λw g v h=>by
 refine mJ h λa r e p q z=>⟨a,r,e,p,x _ _ _ q,y.1 _ _ _ z⟩,by simp [y.2]⟩
theorem g6.refl(t:List (Str×T)):g6 t t:=⟨λ_ _ _ h=>h,rfl⟩
theorem g6.cons(x:TC t t')(y:g6 l N):g6 ((k,t)::l) ((k,t')::N):=⟨λw g m h=>by
 (refine ac h λc7 z=>?_;clear h;rcases c7 with⟨a,e,p⟩);exact⟨⟨a,e,x _ _ _ p⟩,y.1 _ _ _ z⟩,by simp [y.2]⟩
theorem TC.list(x:bG l N):TC (.list l) (.list N):=λw g v h=>by
 refine h9 h λa ys ep e q z=>⟨a,ys,ep,e,q,x _ _ _ z⟩
theorem TC.tuple(x:bG l N):TC (.tuple l) (.tuple N):=λw g v h=>by
 refine h9 h λa ys ep e q z=>⟨a,ys,ep,e,q,x _ _ _ z⟩
theorem TC.dict(x:b0 l N):TC (.dict l) (.dict N):=λw g v h=>by
 refine dp h λa ys ep e q z n1 n2=>⟨a,ys,ep,e,q,x.1 _ _ _ z,by refine rwm _ ?_ x.2;exact n1,n2⟩
theorem TC.inst(x:g6 l N):TC (.inst C l) (.inst C N):=λw g v h=>by
 refine tn h λa d od m e q q' n z o=>⟨a,d,od,m,e,q,q',n,x.1 _ _ _ z,λk hk=>o k (by refine rwl _ ?_ x.2;exact hk)⟩
theorem TC.box(x:TC t t')(h:lJ k t'):TC t (.box k t'):=λw g v z=>by
 exact⟨h,x _ _ _ z⟩
theorem TC.unbox(x:TC t t'):TC (.box k t) t':=λw g v z=>by
 exact x _ _ _ z.2
theorem VC.refl:∀v,VC v v
 | .t t=>TC.refl t
 | .own i=>rfl
theorem OC.refl(Q:MO):OC Q Q:=by cases Q<;>first|rfl|exact bG.refl _|exact b0.refl _
theorem LC.refl:∀l,LC l l
 |[]=>trivial
 |a::l=>⟨VC.refl a,LC.refl l⟩
theorem SC.refl:∀l,SC l l
 |[]=>trivial
 |a::l=>⟨OC.refl a,SC.refl l⟩
section
variable {J:Program}{b1:Cx}{r g b6:ay}{b2 b4:List Addr}{l:List Env}{A:Around}{n:Nat}{rc:aG}{O M:af}{h:Heap}{s:Shared}
theorem VR.conv(c:VC v v')(h:VR w g b2 v x):VR w g b2 v' x:=by
 cases v<;>cases v'<;>first|exact c.elim|skip
 .exact c _ _ _ h
 .have e:=c;clear c;subst e;exact h
theorem LR.conv:∀{v v':List V}{x:List Value},LC v v'->LR (VR w g b2) v x->LR (VR w g b2) v' x
 |[],[],_,_,h=>h
 |a::l,b::m,_,c,⟨y,r,e,p,q⟩=>⟨y,r,e,VR.conv c.1 p,LR.conv c.2 q⟩
 |[],_::_,_,c,_=>c.elim
 |_::_,[],_,c,_=>c.elim
theorem OC.e{P:MO->MO->Prop}(c:OC a b)(eq:∀a,P a a)(w:∀l N,bG l N->P (.list l) (.list N))(f:∀l N,b0 l N->P (.dict l) (.dict N)):P a b:=by
 cases a with
 |list l=>cases b<;>first|exact w _ _ c|(have c:=c;exact MO.noConfusion c)
 |dict l=>cases b<;>first|exact f _ _ c|(have c:=c;exact MO.noConfusion c)
 |inst C d=>have c:=c;subst c;exact eq _
 |sh C d=>have c:=c;subst c;exact eq _
 |ns C d=>have c:=c;subst c;exact eq _
 |idt C=>have c:=c;subst c;exact eq _
 |cell C=>have c:=c;subst c;exact eq _
 |clo p q r s t=>have c:=c;subst c;exact eq _
 |fz t=>have c:=c;subst c;exact eq _
 |dead=>have c:=c;subst c;exact eq _
theorem OR.conv(c:OC Q f)(z:OR w g b2 h Q a):OR w g b2 h f a:=by
 revert z;refine OC.e (P:=λQ f=>OR w g b2 h Q a->OR w g b2 h f a) c (λ_ z=>z) (λl N c z=>?_) λl N c z=>?_
 .refine cS z λys ep e q=>⟨ys,ep,e,c _ _ _ q⟩
 .refine mJ z λys ep e q n1 n2=>⟨ys,ep,e,c.1 _ _ _ q,by refine rwm _ ?_ c.2;exact n1,n2⟩
theorem OC.isFz(c:OC Q f):isFz f=isFz Q:=OC.e (P:=λQ f=>Internal.isFz f=Internal.isFz Q) c (λ_=>rfl) (λ_ _ _=>rfl) λ_ _ _=>rfl
theorem SC.get:∀{S H:af},SC S H->H.length=S.length/\∀(i:Nat)(f:MO),H[i]? =some f->∃Q,S[i]? =some Q/\OC Q f
 |[],[],_=>⟨rfl,λi Q e=>by simp at e⟩
 |a::l,b::m,c=>by
  refine ac (SC.get c.2) λe1 e2=>⟨by simp [e1],λi Q e=>?_⟩
  cases i with
  |zero=>simp at e;subst e;exact⟨a,rfl,c.1⟩
  |succ i=>simpa using e2 i Q (by simpa using e)
 |[],_::_,c=>c.elim
 |_::_,[],c=>c.elim
theorem St.conv(S:St b1 r g b2 l O h)(c:SC O M):St b1 r g b2 l M h:=by
 refine ac c.get λe1 e2=>⟨S.base,S.fr,S.rs,by exact rwm _ (rwm _ rfl e1) S.len,λi Q a h1 h2=>?_,λi Q a h1 h2 q=>?_,λi j Q f a h1 h2 q q' h3 h4=>?_,S.gr,S.gt,S.tabs,S.frs⟩
 .refine al (e2 i Q h1) λm1 f1 f2=>(S.own i m1 a f1 h2).conv f2
 .refine al (e2 i Q h1) λm1 f1 f2=>S.free i m1 a f1 h2 (f2.isFz▸q)
 .refine al (e2 i Q h1) λm1 f1 f2=>al (e2 j f h2) λm2 v t=>S.nd i j m1 m2 a f1 v (f2.isFz▸q) (t.isFz▸q') h3 h4
theorem aD.conv(L:aD b1 r g b2 l O a)(c:SC O M):aD b1 r g b2 l M a:=by
 refine ac c.get λe1 e2=>⟨L.1,L.2.1,L.2.2.1,λi Q h1 h2=>?_,L.2.2.2.2⟩;refine al (e2 i Q h1) λm1 f1 f2=>?_;refine a0 f2.isFz ?_;exact L.2.2.2.1 i m1 f1 h2
def o4(t:T):Prop:=∃w g x,TR w g t x
def cN(v:V):Prop:=∃w g b2 x,VR w g b2 v x
def eX(Q:MO):Prop:=∃w g b2 h a,OR w g b2 h Q a
def gl(rc:aG)(a:Addr)(be:List V)(S:af)(q:Except Addr T×af):Prop:=
 ∃bi H q',LC be bi/\SC S H/\rc.call (.t (.top a)) bi H=some q'/\QC q' q
theorem LR.sat:∀{v:List V}{x:List Value},LR (VR w g b2) v x->∀u∈v,cN u
 |[],_,_,_,h=>nomatch h
 |a::l,_,⟨y,r,e,p,q⟩,u,h=>by
  (refine a2 (hG.mp h) (λzz=>?_) (λh=>?_);subst zz;rotate_left;rotate_right)
  .exact⟨w,g,b2,y,p⟩
  .exact LR.sat q u h
theorem cM.run(d:aL J b1 b rc){c:Addr->List V->af->Option (Option (Except Addr T×af))}
  (hc:∀a be S q,c a be S=some (some q)->(∀v∈be,cN v)->(∀Q∈S,eX Q)->gl rc a be S q):cM J b1 b c:=by
 intro A l r g b2 hR a be U S q s e hv S0;refine ch (hc a be S q e hv.sat λQ hm=>by
  obtain⟨i,hi⟩:=List.mem_iff_getElem?.mp hm;have hl:=(List.getElem?_eq_some_iff.mp hi).1;rw[<-S0.len] at hl;exact⟨_,_,_,_,_,S0.own i Q _ hi (hW hl)⟩) λbi H q' dt ds f1 fx=>?_
 refine eb (d.call hR (.t (.top a)) bi (.ref a) U rfl (hv.conv dt) H q' s g b2 (.refl _) (.refl _) (S0.conv ds) f1) (λx s' z=>?_) λx s' z=>?_
 ·(refine ch z λg2 m v e1 p S2 hr=>?_;clear z);clear f1;rcases q' with⟨q1,O2⟩;cases e1;clear e;rcases q with⟨k,u2⟩
  cases v with
  |own i=>cases k<;>exact fx.elim
  |t t=>
   cases k with
   |error c=>exact fx.elim
   |ok t'=>exact⟨g2,m,t',rfl,p,S2.conv fx.2,fx.1 _ _ _ hr⟩
 ·(refine oq z λg2 m c' ex e1 p S2 e2 X=>?_;clear z);clear f1;rcases q' with⟨q1,O2⟩;cases e1;clear e;rcases q with⟨k,u2⟩
  cases k with
  |ok t=>exact fx.elim
  |error c=>
   (refine ac fx λe3 ft=>?_;clear fx);subst e3;exact⟨g2,m,_,ex,rfl,p,S2.conv ft,e2,X.lift λa L=>L.conv ft⟩
theorem cM.mono{c:Addr->List V->af->Option (Option (Except Addr T×af))}(k:cM J b1 b c)(h:b<=G):cM J b1 G c:=
 λhR=>k (hR.mono h)
noncomputable def ri(c c':Addr->List V->af->Option (Option (Except Addr T×af))):Addr->List V->af->Option (Option (Except Addr T×af)):=λa be S=>match c a be S with
 |some q=>some q
 |none=>c' a be S
theorem cM.or{c c':Addr->List V->af->Option (Option (Except Addr T×af))}(x:cM J b1 b c)(y:cM J b1 b c'):cM J b1 b (ri c c'):=by
 intro A l r g b2 hR a be U S q s e;unfold ri at e
 cases h:c a be S with
 |some z=>rw[h] at e;cases e;exact x hR a be U S q s h
 |none=>rw[h] at e;exact y hR a be U S q s e
end
inductive BT (α:Type) where
 |nil|leaf (k:Nat) (v:α)|node (m:Nat) (l r:BT α)
noncomputable def BT.get{α:Type}:BT α->Nat->Option α
 | .nil,_=>none
 | .leaf k v,x=>cond (Nat.beq x k) (some v) none
 | .node m l r,x=>cond (Nat.ble x m) (l.get x) (r.get x)
noncomputable def BT.all{α:Type}:BT α->List (Nat×α)
 | .nil=>[]
 | .leaf k v=>[(k,v)]
 | .node _ l r=>l.all++r.all
theorem BT.get_mem{α:Type}:∀{t:BT α}{x:Nat}{v:α},t.get x=some v->(x,v)∈t.all
 | .nil,_,_,e=>nomatch e
 | .leaf k v,x,u,e=>by
  have e:cond (Nat.beq x k) (some v) none=some u:=e
  cases q:Nat.beq x k with
  |false=>rw[q] at e;exact nso e
  |true=>rw[q] at e;cases e;refine rwm _ ?_ (ii q);exact .head _
 | .node m l r,x,u,e=>by
  have e:cond (Nat.ble x m) (l.get x) (r.get x)=some u:=e
  cases q:Nat.ble x m with
  |true=>rw[q] at e;exact List.mem_append_left _ (BT.get_mem e)
  |false=>rw[q] at e;exact List.mem_append_right _ (BT.get_mem e)
noncomputable def rj:List Nat->List Nat->Bool
 |[],[]=>true
 |a::l,b::m=>Nat.beq a b&&rj l m
 |_,_=>false
theorem Ay:∀{a b:List Nat},rj a b=true->a=b
 |[],[],_=>rfl
 |a::l,b::m,e=>by
  have e:(Nat.beq a b&&rj l m)=true:=e;rw[Bool.and_eq_true] at e;exact rwm _ (rwm _ rfl (Ay e.2)) (ii e.1)
def seq(a b:Str):Bool:=rj a.cps.toList b.cps.toList
theorem rk(e:seq a b=true):a=b:=by
 obtain⟨⟨a⟩⟩:=a;obtain⟨⟨b⟩⟩:=b;have:=Ay e;simp at this;clear e;subst this;rfl
noncomputable def hkey(n:Str):Nat:=n.cps.toList.foldl (λh c=>Nat.add (Nat.mul h 257) c) 7
noncomputable def o5{α:Type}:List (Str×α)->Str->Option α
 |[],_=>none
 |(k,v)::r,n=>cond (seq n k) (some v) (o5 r n)
theorem Az{α:Type}:∀{l:List (Str×α)}{n:Str}{v:α},o5 l n=some v->(n,v)∈l
 |[],_,_,e=>nomatch e
 |(k,v)::r,n,u,e=>by
  have e:cond (seq n k) (some v) (o5 r n)=some u:=e
  cases q:seq n k with
  |true=>rw[q] at e;cases e;refine rwm _ ?_ (rk q);exact .head _
  |false=>rw[q] at e;exact .tail _ (Az e)
noncomputable def lf{α:Type}:List (Nat×α)->BT α
 |[]=> .nil
 |p::_=> .leaf p.1 p.2
noncomputable def ky{α:Type}:List (Nat×α)->Nat
 |[]=>0
 |p::_=>p.1
noncomputable def vd{α:Type}:Nat->Nat->List (Nat×α)->BT α
 |0,_,_=> .nil
 |f+1,n,l=>cond (Nat.ble n 1) (lf l) (.node (ky (l.drop (Nat.pred (Nat.div n 2)))) (vd f (Nat.div n 2) l) (vd f (Nat.sub n (Nat.div n 2)) (l.drop (Nat.div n 2))))
def BT.mk{α:Type}(l:List (Nat×α)):BT α:=vd 8 l.length l
def gB:BT (Str×T):= .mk ([("chr",.bi "chr"),("int",.typ "int"),("law",.top 670),("len",.bi "len"),("max",.bi "max"),("ord",.bi "ord"),("str",.typ "str"),("Name",.top 250),("bool",.typ "bool"),("dict",.typ "dict"),("list",.typ "list"),("told",.top 344),("Bench",.top 90),("Shelf",.top 435),("_wall",.top 21),("bytes",.typ "bytes"),("range",.typ "range"),("Lookup",.top 381),("Stream",.top 293),("String",.top 272),("copied",.top 349),("sorted",.bi "sorted"),("Decimal",.top 222),("NOTHING",.str (S "none")),("kind_of",.top 332),("word_at",.top 451),("is_group",.top 465),("items_at",.top 458),("purposes",.top 498),("switched",.top 545),("whole_in",.top 123),("DeskFault",.top 71),("Exception",.typ "Exception"),("MOST_HOPS",.int 30),("Reference",.top 321),("_law_draw",.top 624),("_law_refs",.top 634),("_law_some",.top 629),("_law_text",.top 649),("groups_in",.top 472),("keep_laid",.top 609),("put_group",.top 564),("rows_text",.top 571),("sign_text",.top 233),("DraftFault",.top 59),("PaperError",.top 46),("_law_fault",.top 663),("copy_grown",.top 583),("first_word",.top 118),("isinstance",.bi "isinstance"),("layer_head",.top 479),("layer_laid",.top 616),("numbers_in",.top 128),("put_states",.top 557),("told_plain",.top 339),("_law_labels",.tuple [.bytes #[97],.bytes #[],.bytes #[98,32,99],.bytes #[233],.bytes #[122]]),("group_label",.top 493),("layers_text",.top 595),("line_octets",.top 106),("octets_line",.top 111),("switch_told",.top 602),("_law_started",.top 644),("bench_turned",.top 101),("copy_changed",.top 578),("layer_states",.top 588),("shelf_copied",.top 444),("told_objects",.top 344),("Configuration",.top 515),("_law_document",.top 639),("_law_switched",.top 656),("configuration",.top 530),("group_numbers",.top 486),("put_layer_head",.top 552),("starting_states",.top 538),("configuration_of",.top 524),("MOST_FIGURES_OF_LINES",.int 9)].map λp:String×T=>(hkey (S p.1),S p.1,p.2))
noncomputable def JC:List (Nat×List T):=[(29,[.int (-1)]),(262,[.bool false]),(357,[.none,.none]),(525,[.int (-1)]),(531,[.none])]
def KR.dfl(r:KR):List T:=(JC.lookup r.d).getD []
def fB:BT kh:= .mk (lE.map λr=>(r.a,⟨r.s,S r.q,r.dfl,r.a - 1⟩))
def mB:BT (List (Str×Addr)):= .mk [(222,[(S "compared",177),(S "floor",191),(S "is_whole",184),(S "least_text",219),(S "minus",156),(S "negated",170),(S "plus",149),(S "rounded",198),(S "text",212),(S "times",163),(S "told",205)]),(321,[(S "pair",318)]),(381,[(S "fetch",371),(S "get",378)]),(435,[(S "add",406),(S "drop",413),(S "fetch",371),(S "get",378),(S "numbers",420),(S "put",399),(S "root",427),(S "told",432)])]
def iB:BT Addr:= .mk [(90,87),(222,142),(250,247),(272,269),(293,290),(321,311),(381,364),(435,364),(515,512)]
def sB:BT (List Addr):= .mk [(46,[46]),(59,[59,46]),(71,[71,46]),(90,[90]),(222,[222]),(250,[250]),(272,[272]),(293,[293]),(321,[321]),(381,[381]),(435,[435,381]),(515,[515])]
def eB:BT Unit:= .mk [(46,()),(59,()),(71,())]
def rl:BT (List Str):= .mk ([(90,["data","base","shelf"]),(222,["top","places"]),(250,["text"]),(272,["octets","is_hex"]),(293,["head","octets"]),(321,["number","generation"]),(381,["table","trailer"]),(435,["table","trailer"]),(515,["base","on","off","radio","locked","order","words"])].map λp:Nat×List String=>(p.1,p.2.map S))
noncomputable def AA:List Nat:=[90,222,250,272,293,321,381,435,515]
def nq:BT (BT Bool):= .mk ((List.range 8++AA).map λa=>(a,.mk ([1,2,3,4,5,6,7,222,250,272,293,321].map λb=>(b,Nat.beq a b||(Nat.beq a 1&&Nat.beq b 2)))))
def AB:BT Str:= .mk [(608,(S "keep_laid.<locals>.<lambda>")),(615,(S "layer_laid.<locals>.<lambda>")),(669,(S "law.<locals>.<lambda>"))]
def AC:BT Bool:= .mk ([21,36,43,87,90,101,106,111,118,123,128,142,149,156,163,170,177,184,191,198,205,212,219,222,233,247,250,269,272,290,293,311,318,321,332,339,344,349,364,371,378,381,399,406,413,420,427,432,435,444,451,458,465,472,479,486,493,498,512,515,524,530,538,545,552,557,564,571,578,583,588,595,602,609,616,624,629,634,639,644,649,656,663,670].map λa=>(a,!AA.any (Nat.beq a)))
abbrev aN:=Addr->List V->af->Option (Option (Except Addr T×af))
noncomputable def av:aN:=λ_ _ _=>none
def Pc(c:aN):bt where
 glob:=λn=>match gB.get (hkey n) with|some p=>cond (seq n p.1) (some p.2) none|none=>none
 con:=c
 fns:=λa=>fB.get a
 init:=λa=>iB.get a
 meth:=λa n=>match mB.get a with|some l=>o5 l n|none=>none
 sub:=λa b=>match sB.get a with|some l=>l.any (Nat.beq b)|none=>false
 exc:=λa=>(eB.get a).isSome
 fld:=λa n=>match rl.get a with|some l=>l.any (seq n)|none=>false
 kd:=λa=>AC.get a
 tb:=λa=>AB.get a
 isi:=λa b=>match nq.get a with|some t=>t.get b|none=>none
end Internal
end
noncomputable section
namespace Internal
open PySem PySem.W PySem.Calls PyProof.Rows
set_option profiler.threshold 100
noncomputable def dI(x:Option (Option Value))(v:Option Value):Bool:=x==some v
def rm(K:Frag)(C:Addr)(n:Str):Bool:=(clsIn K C).any (·.hasDict)&&dI (findIn K (.ref C) n) none&&dI (findIn K (.ref C) "__getattribute__") (some (.builtin "object.__getattribute__"))&&
 dI (findIn K (.ref C) "__setattr__") (some (.builtin "object.__setattr__"))&&plainOver K C
theorem JD(b:Params):(rl.all.all λp=>p.2.all λn=>rm (heap b) p.1 n)=true:=by lk
noncomputable def AD(o:Obj):Bool:=match o.data with
 | .func _=>true
 |_=>false
noncomputable def ve(o:Obj):Bool:=match o.data with
 | .cls _=>true
 |_=>false
theorem AF{o:Obj}(h:AD o=true):∃f,o.data= .func f:=by
 rcases o with⟨_,_,d,_⟩;cases d<;>first|exact ftf h|exact⟨_,rfl⟩
theorem JE{o:Obj}(h:ve o=true):∃f,o.data= .cls f:=by
 rcases o with⟨_,_,d,_⟩;cases d<;>first|exact ftf h|exact⟨_,rfl⟩
def vf(K:Frag)(a:Addr)(b:Bool):Bool:=(K.lookup a).any λo=>cond b (AD o) (ve o&&dI (specialIn K (.ref a) "__call__") (some (.builtin "type.__call__")))
theorem JF(b:Params):(AC.all.all λp=>vf (heap b) p.1 p.2)=true:=by lk
def AG(K:Frag)(C g:Addr):Bool:=makesIn K C&&dI (findIn K (.ref C) "__init__") (some (.ref g))&&typeIn K (.ref g)==some (.type "function")
theorem JG(b:Params):(iB.all.all λp=>AG (heap b) p.1 p.2)=true:=by lk
noncomputable def AH(K:Frag)(D:Addr):Bool:=instIn K (.ref D) (.type "tuple")==some false&&subIn K (.ref D) (.type "BaseException")==some true&&(clsIn K D).isSome
theorem JH(b:Params):(eB.all.all λp=>AH (heap b) p.1)=true:=by lk
theorem JI(b:Params):(eB.all.all λp=>eB.all.all λq=>subIn (heap b) (.ref p.1) (.ref q.1)==some ((Pc av).sub p.1 q.1))=true:=by lk
theorem JJ(b:Params):(nq.all.all λp=>p.2.all.all λq=>kitOne (heap b) (fq p.1) (fq q.1)==some q.2)=true:=by lk
def AI(K:Frag)(a:Addr):Bool:=Nat.ble a 7||(plainGet K a "__class__"&&hasDictIn K a&&dI (findIn K (.ref a) "__class__") (some (.builtin "object.__class__"))&&mroIn K a (.type "object")==some true)
theorem JK(b:Params):(nq.all.all λp=>AI (heap b) p.1)=true:=by lk
theorem JL(b:Params):(specialIn (heap b) (.builtin "object.__class__") "__get__",takesIn (heap b) (.builtin "object.__class__"))=(some (some (.builtin "getset_descriptor.__get__")),some true):=by lk
def AJ(K:Frag)(C:Addr)(n:Str)(f:Addr):Bool:=dI (findIn K (.ref C) "__getattribute__") (some (.builtin "object.__getattribute__"))&&dI (findIn K (.ref C) "__getattr__") none&&dI (findIn K (.ref C) n) (some (.ref f))&&
 typeIn K (.ref f)==some (.type "function")&&vf K f true
theorem JM(b:Params):(mB.all.all λp=>p.2.all λq=>AJ (heap b) p.1 q.1 q.2)=true:=by lk
structure lY where
 a:Addr
 s:Stmt
 q:Str
 d:Value
 pm:Value
 c:Addr
 dfl:List T
def fl:List lY:=lE.map λr=>⟨r.a,r.s,S r.q,r.dv,r.m,r.a - 1,r.dfl⟩
theorem JN:fB.all=fl.map λp=>(p.a,⟨p.s,p.q,p.dfl,p.c⟩):=by lk
theorem JO(b:Params):(fl.map λp=>(heap b).lookup p.a)=fl.map λp=>some (⟨.type "function",none,.func (qf p.s p.q p.d .none .none p.pm (.ref p.c) .none 3 0),#[]⟩:Obj):=by lk
noncomputable def vg(t:T)(v:Value):Bool:=match t with
 | .none=>v== .none
 | .bool a=>v== .bool a
 | .int i=>Value.isInt i v
 |_=>false
noncomputable def rn:List T->List Value->Bool
 |[],[]=>true
 |a::l,b::m=>vg a b&&rn l m
 |_,_=>false
def AK(K:Frag)(d:Value)(l:List T):Bool:=match d,l with
 | .none,[]=>true
 | .ref t,l=>match K.lookup t with
  |some ⟨_,_,.seq c _,_⟩=>rn l c.toList
  |_=>false
 |_,_=>false
noncomputable def AL:Stmt->Bool
 | .FunctionDef .. =>true
 |_=>false
def AM(K:Frag)(p:lY):Bool:=AL p.s&&gV (aV p.s)&&gg (fj p.s)&&codeIn K (.ref p.c) p.q&&AK K p.d p.dfl&&decide (p.dfl.length<=(fj p.s).args.length)
theorem JP(b:Params):(fl.all λp=>AM (heap b) p)=true:=by lk
end Internal
end
noncomputable section
set_option maxHeartbeats 2000000
namespace Internal
open PySem PySem.W PySem.Calls PyProof.Rows
theorem o6{K:Frag}{h:Heap}{b7:Str->Option Value}(X:K.In h)(G:h.Ns N b7)(e:nsIn K N n=some (some v)):b7 n=some v:=by
 (refine ch G λo es ep ho hd _ hf=>?_;clear G);unfold nsIn at e
 cases q:K.lookup N with
 |none=>rw[q] at e;exact nso e
 |some o'=>
  rw[q] at e;have h1:=X _ _ q;rw[ho] at h1;have h1:=ai h1;clear q;subst h1;rcases o with⟨c,d,b,sl⟩;have hd:b=_:=hd;subst hd;dsimp only at e;rw[<-hf];unfold nsFind findBy;refine rwl _ ?_ (Array.find?_toList)
  cases he:es.toList.find? (·.key.isStr n) with
  |none=>
   rw[he] at e;cases hq:es.toList.any (·.refKey)<;>rw[hq] at e
   .exact nso (ai e)
   .exact nso e
  |some f=>
   rw[he] at e;exact ai e
noncomputable def sv(x:Option (Option Value))(f:Value->Bool):Bool:=match x with
 |some (some v)=>f v
 |_=>false
theorem vh{f:Value->Bool}(h:sv x f=true):∃v,x=some (some v)/\f v=true:=by
 rcases x with _|_|v
 .exact ftf h
 .exact ftf h
 .exact⟨v,rfl,h⟩
noncomputable def JQ(a:Array UInt8)(v:Value):Bool:=match v with
 | .bytes b _=>decide (a=b)
 |_=>false
def vi(t:T)(v:Value):Bool:=match t with
 | .bytes a=>JQ a v
 |_=>false
noncomputable def ro(l:List T)(m:List Value):Bool:=match l,m with
 |[],[]=>true
 |a::l,b::m=>vi a b&&ro l m
 |_,_=>false
def vj(l:List T)(o:Obj):Bool:=o.cls== .type "tuple"&&o.dict.isNone&&o.slots.isEmpty&&match o.data with
 | .seq c _=>ro l c.toList
 |_=>false
def JR(K:Frag)(l:List T)(v:Value):Bool:=match v with
 | .ref a=>(K.lookup a).any (vj l)
 |_=>false
def AN(K:Frag)(n:Str)(t:T):Bool:=match t with
 | .top a=>dI (nsIn K 3 n) (some (.ref a))
 | .int i=>sv (nsIn K 3 n) (Value.isInt i)
 | .str s=>sv (nsIn K 3 n) (Value.isStrOf s)
 | .typ s=>dI (nsIn K 3 n) none&&bootBuiltins n==some (.type s)&&decide (n≠"__name__")
 | .bi s=>dI (nsIn K 3 n) none&&bootBuiltins n==some (.builtin s)&&decide (n≠"__name__")
 | .tuple l=>sv (nsIn K 3 n) (JR K l)
 |_=>false
set_option profiler.threshold 100
theorem JS(b:Params):(gB.all.all λp=>AN (heap b) p.2.1 p.2.2)=true:=by lk
def o7:List (Addr×Addr×Str):=[(608,604,S "keep_laid.<locals>.<lambda>"),(615,611,S "layer_laid.<locals>.<lambda>"),(669,665,S "law.<locals>.<lambda>")]
abbrev bU(w:World)(B:Heap):Cx:=⟨w,B,o7⟩
section
variable {w:World}{B:Heap}{b7 mb:Str->Option Value}{c:aN}
theorem eJ(h:dI x v=true):x=some v:=by
 unfold dI at h;exact nr.mp h
theorem JT(h:(Pc c).glob n=some t):∃k,(k,(n,t))∈gB.all:=by
 have h:(match gB.get (hkey n) with|some p=>cond (seq n p.1) (some p.2) none|none=>none)=some t:=h
 cases hg:gB.get (hkey n) with
 |none=>rw[hg] at h;exact nso h
 |some p=>
  rw[hg] at h;dsimp only at h
  cases hs:seq n p.1 with
  |false=>rw[hs] at h;exact nso h
  |true=>
   rw[hs] at h;cases h;refine⟨hkey n,?_⟩;have:=BT.get_mem hg;refine rwm _ ?_ (rk hs);rw[rk hs] at this;exact this
theorem JU{g:ay}(h:vi t v=true):TR w g t v:=by
 cases t<;>first|exact ftf h|skip
 cases v<;>first|exact ftf h|skip
 exact⟨_,by exact rwm _ rfl (hK h)⟩
theorem AO{g:ay}:∀{l:List T}{m:List Value},ro l m=true->TRs w g l m
 |[],[],_=>rfl
 |[],_::_,h=>ftf h
 |_::_,[],h=>ftf h
 |a::l,b::m,h=>by
  have h:(vi a b&&ro l m)=true:=h;rw[Bool.and_eq_true] at h;exact⟨b,m,rfl,JU h.1,AO h.2⟩
theorem JV{g:ay}(h:vj l o=true)(ho:g a=some o):TR w g (.tuple l) (.ref a):=by
 rcases o with⟨c,d,j,sl⟩;unfold vj at h;refine ac (Bool.and_eq_true_iff.mp h) λh0 h4=>?_;clear h;simp only[Bool.and_eq_true,Array.isEmpty_iff,Option.isNone_iff_eq_none] at h0;rcases h0 with⟨⟨h1,h2⟩,h3⟩;have h1:=nr.mp h1;subst h1 h2 h3;cases j<;>first|exact ftf h4|exact⟨a,_,_,rfl,ho,AO h4⟩
theorem JW(X:(heap w.params).In B)(hg:B.Ns mainGlobals b7)(f:∀x:Str,x≠"__name__"->mb x=bootBuiltins x)(h:AN (heap w.params) n t=true):
  ∃x,(b7 n=some x\/(b7 n=none/\mb n=some x))/\TR w B.get? t x:=by
 have b:∀{v:Value},(dI (nsIn (heap w.params) 3 n) none&&bootBuiltins n==some v&&decide (n≠"__name__"))=true->b7 n=none/\mb n=some v:=λ{v} h=>by
  simp only[Bool.and_eq_true,decide_eq_true_eq] at h;exact⟨ns_none_of X hg (eJ h.1.1),(f _ h.2).trans (nr.mp h.1.2)⟩
 cases t<;>first|exact ftf h|skip
 .refine al (vh h) λv e h=>?_;(refine ag (rv h) λtk bo=>?_;subst bo);exact⟨_,.inl (o6 X hg e),tk,rfl⟩
 .refine al (vh h) λv e h=>?_;(refine ag (Value.isStrOf_shape h) λtk bo=>?_;subst bo);exact⟨_,.inl (o6 X hg e),tk,rfl⟩
 .exact⟨_,.inr (b h),rfl⟩
 .exact⟨_,.inr (b h),rfl⟩
 .exact⟨_,.inl (o6 X hg (eJ h)),rfl⟩
 .refine al (vh h) λv e h=>?_;cases v<;>first|exact ftf h|skip
  refine al (any_some h) λo e2 h=>⟨_,.inl (o6 X hg e),JV h (X _ _ e2)⟩
theorem JX(X:(heap w.params).In B)(hg:B.Ns mainGlobals b7)(hb:B.Ns builtinsNs mb)(hn:B.NoLimit)(f:∀x:Str,x≠"__name__"->mb x=bootBuiltins x):Gl (bU w B) (Pc c) b7 mb:=
 ⟨hg,hb,hn,λn t h=>by
  refine ag (JT h) λk hm=>JW X hg f (hO.mp (JS w.params) _ hm)⟩
theorem AP(h:(Pc c).fld C n=true):rm (heap w.params) C n=true:=by
 have h:(match rl.get C with|some l=>l.any (seq n)|none=>false)=true:=h
 cases hl:rl.get C with
 |none=>rw[hl] at h;exact ftf h
 |some l=>
  rw[hl] at h;refine al (List.any_eq_true.mp h) λm hm hs=>?_;refine rwm _ ?_ (rk hs);exact hO.mp (hO.mp (JD w.params) _ (BT.get_mem hl)) _ hm
theorem JY(X:(heap w.params).In B):Kt (heap w.params) (bU w B) (Pc c):=
 ⟨X,λC n h=>by
  have h:=AP (w:=w) h;unfold rm at h;simp only[Bool.and_eq_true] at h;refine al (any_some h.1.1.1.1) λc6 e1 e2=>⟨c6,e1,e2,eJ h.1.1.1.2,eJ h.1.1.2⟩⟩
theorem JZ(X:(heap w.params).In B):oU (heap w.params) (bU w B) (Pc c):=
 ⟨X,λC n h=>by
  have h:=AP (w:=w) h;unfold rm at h;simp only[Bool.and_eq_true] at h;refine⟨eJ h.1.2,h.2,?_,h.1.1.1.1⟩;unfold takerIn;refine rwm _ ?_ (eJ h.1.1.1.2);rfl⟩
theorem AQ(h:(Pc c).kd a=some b):vf (heap w.params) a b=true:=
 hO.mp (JF w.params) _ (BT.get_mem h)
theorem J0(X:(heap w.params).In B):qP (heap w.params) (bU w B) (Pc c):=by
 refine⟨X,λa h=>?_,λa h=>?_⟩
 .refine al (any_some (AQ h)) λo e h=>ag (AF h) λf hf=>⟨o,f,X _ _ e,hf⟩
 .refine al (any_some (AQ (w:=w) h)) λo e h=>?_;have h:(ve o&&dI (specialIn (heap w.params) (.ref a) "__call__") (some (.builtin "type.__call__")))=true:=h;rw[Bool.and_eq_true] at h;refine ag (JE h.1) λf hf=>⟨⟨o,f,X _ _ e,hf⟩,eJ h.2⟩
theorem AR(b:Params):codeHdIn (heap b) 608 604=true:=by lk
theorem AS(b:Params):codeHdIn (heap b) 615 611=true:=by lk
theorem AT(b:Params):codeHdIn (heap b) 669 665=true:=by lk
theorem J1:AB.all=[(608,S "keep_laid.<locals>.<lambda>"),(615,S "layer_laid.<locals>.<lambda>"),(669,S "law.<locals>.<lambda>")]:=rfl
theorem J2(X:(heap w.params).In B)(g:∃b o,b7 "__builtins__"=some (.ref b)/\b≠builtinsNs/\b≠mainGlobals/\B.get? b=some o/\o.cls= .type "module"/\o.dict=some builtinsNs/\o.data= .plain):uO (bU w B) (Pc c) b7:=by
 refine⟨λa q h=>?_,λq hq q' d h=>?_,g⟩
 .have hm:=BT.get_mem h;rw[J1] at hm;(refine bc λno=>a2 (hG.mp hm) (λe=>?_) (λhm=>?_);refine no ?_;clear no;rotate_left;refine no ?_;clear no;rotate_right)
  .cases e;exact⟨by decide,604,.head _,ti X (AR _)⟩
  (refine bc λno=>a2 (hG.mp hm) (λe=>?_) (λhm=>?_);refine no ?_;clear no;rotate_left;refine no ?_;clear no;rotate_right)
  .cases e;exact⟨by decide,611,.tail _ (.head _),ti X (AS _)⟩
  (refine bc λno=>a2 (hG.mp hm) (λe=>?_) (λhm=>?_);refine no ?_;clear no;rotate_left;refine no ?_;clear no;rotate_right)
  .cases e;exact⟨by decide,665,.tail _ (.tail _ (.head _)),ti X (AT _)⟩
  .cases hm
 .have hq:=hq;have d:=d;simp only[o7,List.mem_cons,List.not_mem_nil,or_false] at hq d;rcases hq with rfl|rfl|rfl<;>rcases d with rfl|rfl|rfl<;>first|rfl|exact absurd h (by decide)
theorem J3{g:ay}(h:vg t v=true):TR w g t v:=by
 cases t<;>first|exact ftf h|exact nr.mp h|exact rv h
theorem AU{g:ay}:∀{l:List T}{m:List Value},rn l m=true->TRs w g l m
 |[],[],_=>rfl
 |[],_::_,h=>ftf h
 |_::_,[],h=>ftf h
 |a::l,b::m,h=>by
  have h:(vg a b&&rn l m)=true:=h;rw[Bool.and_eq_true] at h;exact⟨b,m,rfl,J3 h.1,AU h.2⟩
theorem J4(h:AL s=true):∃bb v d r f ts b p,s= .FunctionDef bb (fj s) v d r f (aV s) ts b p/\FuncBody.stmts (ba s)= .stmts v:=by
 cases s<;>first|((first|exact ftf h|cases h);done)|skip
 exact⟨_,_,_,_,_,_,_,_,rfl,rfl⟩
abbrev lY.fd(p:lY):FuncData:=qf p.s p.q p.d .none .none p.pm (.ref p.c) .none 3 0
set_option tactic.hygienic true in
theorem vl(X:(heap w.params).In B){p:lY}(hp:p∈fl):oW (bU w B) p.a ⟨p.s,p.q,p.dfl,p.c⟩ ⟨.type "function",none,.func p.fd,#[]⟩ p.fd:=by
 have hk:=hO.mp (JP w.params) p hp;unfold AM at hk;simp only[Bool.and_eq_true,decide_eq_true_eq] at hk;(refine ac hk λc7 G=>?_;clear hk;rcases c7 with⟨⟨⟨⟨h1,h2⟩,h3⟩,h4⟩,h5⟩);refine⟨X _ _ (List.map_inj_left.mp (JO w.params) p hp),rfl,?_,rfl,rfl,rfl,rfl,h2,h3,rfl,codeRec_of X h4,?_,G⟩
 .exact J4 h1
 .refine(?_:uM B w p.d p.dfl);revert h5;generalize p.d=dv;generalize p.dfl=dl;intro h5;cases dv<;>first|((first|exact ftf h5|cases h5);done)|skip
  .cases dl with
   |nil=>exact .inl ⟨rfl,rfl⟩
   |cons a l=>exact ftf h5
  .rename_i t
   unfold AK at h5;dsimp only at h5
   cases hk:(heap w.params).lookup t with
   |none=>rw[hk] at h5;exact ftf h5
   |some ob=>
    rw[hk] at h5;rcases ob with⟨D,od,bo,c1⟩;cases bo<;>first|((first|exact ftf h5|cases h5);done)|skip
    exact .inr ⟨t,_,_,_,rfl,X _ _ hk,rfl,AU h5⟩
theorem J5(X:(heap w.params).In B)(h:(Pc c).fns a=some fi):∃o fd,oW (bU w B) a fi o fd:=by
 have hm:=BT.get_mem h;rw[JN] at hm;refine al (hL.mp hm) λp hp e=>?_;clear h hm;cases e;exact⟨_,_,vl X hp⟩
theorem J6(X:(heap w.params).In B):uQ (heap w.params) (bU w B) (Pc c):=by
 refine⟨X,λC g h=>?_,λa fi h=>J5 X h⟩;have:=hO.mp (JG w.params) _ (BT.get_mem (show iB.get C=some g from h));unfold AG at this;simp only[Bool.and_eq_true] at this;exact⟨this.1.1,eJ this.1.2,nr.mp this.2⟩
theorem rq(h:(Pc c).exc D=true):(D,())∈eB.all:=by
 have h:=h;refine ag (Option.isSome_iff_exists.mp h) λu hu=>BT.get_mem hu
theorem J7(X:(heap w.params).In B):oX (heap w.params) (bU w B) (Pc c):=by
 refine⟨X,λD h=>?_,λC D h b5=>?_⟩
 .have:=hO.mp (JH w.params) _ (rq h);unfold AH at this;simp only[Bool.and_eq_true] at this;exact⟨nr.mp this.1.1,nr.mp this.1.2,this.2⟩
 .exact nr.mp (hO.mp (hO.mp (JI w.params) _ (rq h)) _ (rq b5))
theorem AV(h:(Pc c).isi a b=some q):∃t,(a,t)∈nq.all/\(b,q)∈t.all:=by
 have h:(match nq.get a with|some t=>t.get b|none=>none)=some q:=h
 cases ht:nq.get a with
 |none=>rw[ht] at h;exact nso h
 |some t=>rw[ht] at h;exact⟨t,BT.get_mem ht,BT.get_mem h⟩
theorem J8(X:(heap w.params).In B):nh (heap w.params) (bU w B) (Pc c):=by
 refine⟨X,λa b q h=>?_,λa b q h ha=>?_,?_⟩
 .refine al (AV h) λt h1 h2=>nr.mp (hO.mp (hO.mp (JJ w.params) _ h1) _ h2)
 .refine al (AV h) λt h1 h2=>?_;have:=hO.mp (JK w.params) _ h1;unfold AI at this;have hb:Nat.ble a 7=false:=by
   cases z:Nat.ble a 7 with
   |false=>rfl
   |true=>have:=a4 z;exact absurd ha (Nat.not_lt.mpr this)
  dsimp only at this;rw[hb,Bool.false_or] at this;simp only[Bool.and_eq_true] at this;exact⟨this.1.1.1,this.1.1.2,eJ this.1.2,nr.mp this.2⟩
 .have:=JL w.params;simp only[Prod.mk.injEq] at this;exact this
theorem J9(X:(heap w.params).In B):u0 (heap w.params) (bU w B) (Pc c):=by
 refine⟨X,λC n f h=>?_⟩;have h:(match mB.get C with|some l=>o5 l n|none=>none)=some f:=h
 cases hl:mB.get C with
 |none=>rw[hl] at h;exact nso h
 |some l=>
  rw[hl] at h;have:=hO.mp (hO.mp (JM w.params) _ (BT.get_mem hl)) _ (Az h);unfold AJ at this;simp only[Bool.and_eq_true] at this;refine⟨eJ this.1.1.1.1,eJ this.1.1.1.2,eJ this.1.1.2,nr.mp this.1.2,?_⟩;refine al (any_some this.2) λo e hk=>ag (AF hk) λf hf=>⟨o,f,X _ _ e,hf⟩
def rt:lY:=⟨36,bf 2 0,S "PaperError.__init__",(.ref 29),(.str (S "paperhold.errors") 194),35,[(.int (-1))]⟩
theorem Ka:rt∈fl:= .tail _ (.head _)
noncomputable def Kb:Stmt->List Pos
 | .Expr (.Call (.Attribute (.Name _ p1) _ D) [.Name _ p2,.Name _ p3] _ j) ep=>[p1,p2,p3,D,j,ep]
 | .Assign [.Attribute (.Name _ q1) _ q2] (.Name _ q3) q4=>[q1,q2,q3,q4]
 |_=>[]
def ps(i j:Nat):Pos:=((Kb ((ba (bf 2 0))[i]?.getD (.Pass ⟨0,0,0,0⟩)))[j]?).getD ⟨0,0,0,0⟩
theorem Kc:FuncBody.stmts (ba (bf 2 0))= .stmts [
  .Expr (.Call (.Attribute (.Name "Exception" (ps 0 0)) "__init__" (ps 0 3)) [.Name "self" (ps 0 1),.Name "what" (ps 0 2)] [] (ps 0 4)) (ps 0 5),
  .Assign [.Attribute (.Name "self" (ps 1 0)) "what" (ps 1 1)] (.Name "what" (ps 1 2)) (ps 1 3),
  .Assign [.Attribute (.Name "self" (ps 2 0)) "at" (ps 2 1)] (.Name "at" (ps 2 2)) (ps 2 3)]:=by lk
theorem Kd:((ps 0 3).endLine==(ps 0 4).line)=true:=by lk
theorem Ke(x:Addr)(t:Str):d8 (fj (bf 2 0)).args [.t (.top x),.t (.str t)] [.int (-1)]=some (oZ x t):=by lk
theorem Kf(x:Addr)(t:Str):(bm (new (.ns true [])) λlh=>bm (et (aV (bf 2 0)).names []) λcl=>bm (gT ⟨aV (bf 2 0),lh,cl,S "PaperError.__init__"++nm ".<locals>.",35⟩ (oZ x t)) λ_=>pm (⟨aV (bf 2 0),lh,cl,S "PaperError.__init__"++nm ".<locals>.",35⟩:AE)) []
  =some (.ok ⟨aV (bf 2 0),0,[],S "PaperError.__init__"++nm ".<locals>.",35⟩,ee x t):=by lk
theorem Kg(c:aN)(x:Addr)(t q:Str)(a:Addr):cu (Pc c).glob ⟨aV (bf 2 0),0,[],q,a⟩ "Exception" (ee x t)=some (.ok (.t (.typ "Exception")),ee x t):=by lk
theorem Kh(c:aN)(x:Addr)(t q:Str)(a:Addr):cu (Pc c).glob ⟨aV (bf 2 0),0,[],q,a⟩ "self" (ee x t)=some (.ok (.t (.top x)),ee x t):=by lk
theorem Ki(c:aN)(x:Addr)(t q:Str)(a:Addr):cu (Pc c).glob ⟨aV (bf 2 0),0,[],q,a⟩ "what" (ee x t)=some (.ok (.t (.str t)),ee x t):=by lk
theorem Kj(c:aN)(x:Addr)(t q:Str)(a:Addr):cu (Pc c).glob ⟨aV (bf 2 0),0,[],q,a⟩ "at" (ee x t)=some (.ok (.t (.int (-1))),ee x t):=by lk
noncomputable def o8:List Value:=[.type "Exception",.type "BaseException",.type "object"]
theorem Kk(b:Params):(heap b).lookup 46=some (excClassObj (S "PaperError") (S "PaperError") 46 45 [.type "Exception"] o8 true [] [.ref 59,.ref 71] false none none (some (.ref 22)) none (some (.str (S "PaperError") 196)) (some (.str (S "PaperError") 204)) (some (.bool true)) "Exception.__new__"):=by lk
theorem Kl(b:Params):(heap b).lookup 59=some (excClassObj (S "DraftFault") (S "DraftFault") 59 58 [.ref 46] (.ref 46::o8) true [] [] false none none (some (.ref 50)) none (some (.str (S "DraftFault") 236)) (some (.str (S "DraftFault") 244)) (some (.bool true)) "Exception.__new__"):=by lk
theorem Km(b:Params):(heap b).lookup 71=some (excClassObj (S "DeskFault") (S "DeskFault") 71 70 [.ref 46] (.ref 46::o8) true [] [] false none none (some (.ref 62)) none (some (.str (S "DeskFault") 252)) (some (.str (S "DeskFault") 260)) (some (.bool true)) "Exception.__new__"):=by lk
theorem Kn:gY o8:=⟨by decide+kernel,by decide+kernel,by decide+kernel,by decide+kernel⟩
theorem AW:gY (.ref 46::o8):=⟨by decide+kernel,by decide+kernel,by decide+kernel,by decide+kernel⟩
def vm(K:Frag)(C:Addr):Bool:=(clsIn K C).any (λc6=>c6.hasDict&& !c6.mro.isEmpty&&c6.mro.contains (.type "object"))&&dI (findIn K (.ref C) "__setattr__") (some (.builtin "object.__setattr__"))&&dI (findIn K (.ref C) "what") none&&dI (findIn K (.ref C) "at") none&&
 dI (specialIn K (.ref C) "__call__") (some (.builtin "type.__call__"))&&instIn K (.ref C) (.type "type")==some true&&dI (findIn K (.ref C) "__init__") (some (.ref 36))
theorem Ko(b:Params):([46,59,71].all λC=>vm (heap b) C)=true:=by lk
theorem Kq(b:Params):typeIn (heap b) (.ref 36)=some (.type "function"):=by lk
theorem Kr(b:Params):findCls (heap b) (.type "Exception") (.type "type") "__init__"=some (.val (.builtin "Exception.__init__")):=by lk
theorem Ks:eB.all.map (·.1)=[46,59,71]:=by lk
theorem Ku(X:(heap w.params).In B):rf (bU w B) (Pc c) 36 ⟨bf 2 0,S "PaperError.__init__",[(.int (-1))],35⟩ ⟨.type "function",none,.func rt.fd,#[]⟩ rt.fd:=
 ⟨vl X Ka,⟨_,_,_,_,_,_,_,_,_,_,_,_,_,_,Kd,Kc⟩,Ke,Kf,Kg c,Kh c,Ki c,Kj c⟩
theorem Kv{K:Frag}{C:Addr}{bb q:Str}{N:Addr}{H bl:List Value}{bd:Bool}{sn:List Str}{sub:List Value}{ab:Bool}{bi:Option Bool}{dd:Option Addr}{k0 k1 k2 k3 k5:Option Value}{b:String}
  (h:K.lookup C=some (excClassObj bb q C N H bl bd sn sub ab bi dd k0 k1 k2 k3 k5 b)):∃c6,clsIn K C=some c6/\c6.mro= .ref C::bl:=by
 unfold clsIn;refine rwm _ ?_ h;exact⟨_,rfl,rfl⟩
theorem vn(X:(heap w.params).In B){C:Addr}{bb q:Str}{N:Addr}{H bl:List Value}{bd:Bool}{sn:List Str}{sub:List Value}{ab:Bool}{bi:Option Bool}{dd:Option Addr}{k0 k1 k2 k3 k5:Option Value}
  (h:(heap w.params).lookup C=some (excClassObj bb q C N H bl bd sn sub ab bi dd k0 k1 k2 k3 k5 "Exception.__new__"))(hm:gY bl)(hp:∀self,refuseLoop self "__setattr__" (.ref C::bl)=pure ())(hk:vm (heap w.params) C=true):
  ∀(Z:Prop),(∀(bb q:Str)(N:Addr)(H bl:List Value)(bd:Bool)(sn:List Str)(sub:List Value)(ab:Bool)(bi:Option Bool)(dd:Option Addr)(k0 k1 k2 k3 k5:Option Value)(c6:ClassData)(fI:Addr)(fi:kh)(o:Obj)(fd:FuncData),B.get? C=some (excClassObj bb q C N H bl bd sn sub ab bi dd k0 k1 k2 k3 k5 "Exception.__new__")->gY bl->nn (heap w.params) C c6->findIn (heap w.params) (.ref C) "what"=some none->findIn (heap w.params) (.ref C) "at"=some none->specialIn (heap w.params) (.ref C) "__call__"=some (some (.builtin "type.__call__"))->instIn (heap w.params) (.ref C) (.type "type")=some true->findIn (heap w.params) (.ref C) "__init__"=some (some (.ref fI))->typeIn (heap w.params) (.ref fI)=some (.type "function")->rf (bU w B) (Pc c) fI fi o fd->Z)->Z:=by
 refine al (Kv h) λc6 e1 e2=>?_;unfold vm at hk;simp only[Bool.and_eq_true] at hk;(refine ac hk λc7 b=>?_;clear hk;rcases c7 with⟨⟨⟨⟨⟨z1,E⟩,z3⟩,Y⟩,t⟩,A⟩);rw[e1] at z1;simp only[Option.any_some,Bool.and_eq_true,Bool.not_eq_true'] at z1;exactλZ k=>k _ _ _ _ _ _ _ _ _ _ _ _ _ _ _ _ c6 36 _ _ _ (X _ _ h) hm ⟨e1,z1.1.1,z1.1.2,z1.2,λself=>by refine rwm _ ?_ e2;exact hp self,eJ E⟩ (eJ z3) (eJ Y) (eJ t) (nr.mp A) (eJ b) (Kq _) (Ku X)
theorem Kw(X:(heap w.params).In B):o0 (heap w.params) (bU w B) (Pc c):=by
 refine⟨X,Kr _,λC h=>?_⟩;have hm:=List.mem_map_of_mem (f:=(·.1)) (rq h);rw[Ks] at hm;have b:=F.store_Exception.passes;have hx:=Ko w.params;simp only[List.mem_cons,List.not_mem_nil,or_false] at hm;clear h;rcases hm with rfl|rfl|rfl
 .exact vn X (Kk _) Kn (λself=>by rw[refuseLoop_ref];exact b self) (hO.mp hx _ (by simp))
 .exact vn X (Kl _) AW (λself=>by rw[refuseLoop_ref,refuseLoop_ref];exact b self) (hO.mp hx _ (by simp))
 .exact vn X (Km _) AW (λself=>by rw[refuseLoop_ref,refuseLoop_ref];exact b self) (hO.mp hx _ (by simp))
theorem Kx(X:(heap w.params).In B)(hg:B.Ns mainGlobals b7)(hb:B.Ns builtinsNs mb)(hn:B.NoLimit)(f:∀x:Str,x≠"__name__"->mb x=bootBuiltins x)
  (g:∃b o,b7 "__builtins__"=some (.ref b)/\b≠builtinsNs/\b≠mainGlobals/\B.get? b=some o/\o.cls= .type "module"/\o.dict=some builtinsNs/\o.data= .plain)(d:∃o,B.get? sysModules=some o):
  gZ (heap w.params) (bU w B) (Pc c) b7 mb:=
 ⟨JX X hg hb hn f,JY X,JZ X,J0 X,J2 X g,J6 X,J7 X,J8 X,J9 X,Kw X,d⟩
end
noncomputable abbrev ew:List Addr:=[611,604,665]
abbrev hid(h:Heap):Heap:=hideAll h ew
theorem Ky(b:Params):(ew.map λa=>(heap b).lookup a)=ew.map λ_=>(none:Option Obj):=by lk
section
variable {w:World}{h:Heap}{b7 mb:Str->Option Value}{c:aN}{p:Program}{loose:List Str}{y:ExcName->Option Value}
theorem Kz(KX:(heap w.params).In h):(heap w.params).In (hid h):=λa o e=>by
 refine rp _ (KX a o e) λhm=>?_;have:=List.map_inj_left.mp (Ky w.params) a hm;rw[this] at e;exact nso e
theorem vo{m:Str->Option Value}(ha:a∉ew)(n:h.Ns a m):(hid h).Ns a m:=by
 refine d0 n λo es ep e r=>⟨o,es,ep,rp _ e ha,r⟩
theorem KA(T:Top p loose y b7 mb h)(hs:importsNone p=true)(KX:(heap w.params).In h)(hT:∀P∈ew,h.get? P=some (tabObj #[])):gZ (heap w.params) (bU w (hid h)) (Pc c) b7 mb:=by
 refine Kx (Kz KX) (vo (by decide) T.g) (vo (by decide) T.b) ?_ T.builtins ?_ ?_
 .refine al T.nolimit λd n e=>⟨d,vo (by decide) n,e⟩
 .refine h8 T.bmain λb o h1 h2 h3 h4 h5 G=>⟨b,o,h1,h2,λe=>?_,rp _ h3 λhm=>?_,h4,h5,G⟩
  .clear h1 h2;subst e;refine h9 T.g λo' es ep e1 e2 _=>?_;rw[h3] at e1;cases e1;rw[G] at e2;cases e2
  .rw[hT b hm] at h3;clear h5 G;cases h3;cases h4
 .refine al ((T.seer hs).mods) λf n _=>?_;refine d0 n λo es ep e _=>⟨o,rp _ e (by decide)⟩
theorem KB(KX:(heap w.params).In h)(hT:∀P∈ew,h.get? P=some (tabObj #[])):St (bU w (hid h)) (λ_=>none) (hid h).get? [] [] [] h where
 base:=λ_ _ e=>e
 fr:=λ_ _ e=>of_hideAll _ e
 rs:=λ_ _ e=>nomatch e
 len:=rfl
 own:=λi Q a e=>by simp at e
 free:=λi Q a e=>by simp at e
 nd:=λi j Q f a e=>by simp at e
 gr:=λ_ _ e=>nomatch e
 gt:=λb o e ⟨q,hq,hb⟩=>by
  have hq:=hq;have:b∈ew:=by
   simp only[o7,List.mem_cons,List.not_mem_nil,or_false] at hq;rcases hq with rfl|rfl|rfl<;>subst hb<;>simp [ew]
  rw[hideAll_none _ this] at e;exact nso e
 tabs:=λq hq=>by
  have hq:=hq;have:q.2.1∈ew:=by
   simp only[o7,List.mem_cons,List.not_mem_nil,or_false] at hq;rcases hq with rfl|rfl|rfl<;>simp [ew]
  exact⟨#[],hT _ this,by trivial,λc4 bd e=>by exact nso e⟩
 frs:=λ_ he=>nomatch he
theorem KC{r g:ay}(KX:(heap w.params).In h)(hT:∀P∈ew,h.get? P=some (tabObj #[]))(S:St (bU w (hid h)) r g b2 l O b5):OldK h b5:=by
 have tab:∀b∈ew,∃q∈o7,q.2.1=b:=λb hb=>by
  simp only[ew,List.mem_cons,List.not_mem_nil,or_false] at hb;rcases hb with rfl|rfl|rfl
  .exact⟨_,.tail _ (.head _),rfl⟩
  .exact⟨_,.head _,rfl⟩
  .exact⟨_,.tail _ (.tail _ (.head _)),rfl⟩
 have i:∀b∈ew,∃ps,b5.get? b=some (tabObj ps):=λb hb=>by
  (refine ag (tab b hb) λq c1=>ac c1 λhq bo=>?_;clear c1;subst bo);refine al (S.tabs q hq) λps e _=>⟨ps,e⟩
 have f:∀{c P:Addr},CodeHd h c P->isCodeTable h P:=λx=>by
  refine bc λno=>mH x λo vs _ _ _ _ _ d=>aq d λ_ _ M=>bS M λe1 e2 e3 e4 _=>no (⟨_,o,vs,e1,e2,e3,e4⟩)
 have hd:∀b∈ew,isCodeTable h b:=λb hb=>by
  simp only[ew,List.mem_cons,List.not_mem_nil,or_false] at hb;rcases hb with rfl|rfl|rfl
  .exact f (ti KX (AS _))
  .exact f (ti KX (AR _))
  .exact f (ti KX (AT _))
 refine⟨λb o e=>?_,λb o e=>?_⟩
 .by_cases hb:b∈ew
  .rw[hT b hb] at e;cases e;refine ag (i b hb) λps e'=> .inr (.inl ⟨hd b hb,rfl,#[],ps,rfl,?_⟩);exact rwm _ (rwm _ rfl Array.empty_append) e'
  .exact .inl (S.ground b o (rp _ e hb))
 .by_cases hb:b∈ew
  .refine ag (i b hb) λps e'=>⟨_,e'⟩
  .exact⟨o,S.ground b o (rp _ e hb)⟩
end
end Internal
end
noncomputable section
namespace Internal
open PySem PySem.W PySem.Calls PyProof.Rows
abbrev R(c:aN)(n:Nat):aG:=uq (Pc c) n
noncomputable def an(l:List Stmt)(k:Nat):Stmt:=(l[k]?).getD (.Pass ⟨0,0,0,0⟩)
noncomputable def g7:Expr:= .Name ⟨#[]⟩ ⟨0,0,0,0⟩
def KD:Stmt->Expr
 | .Return (some e) _=>e
 |_=>g7
def bz:Expr->Expr
 | .BinOp a _ _ _=>a
 | .Subscript a _ _=>a
 |_=>g7
def bn:Expr->Expr
 | .BinOp _ _ a _=>a
 | .Subscript _ a _=>a
 |_=>g7
noncomputable def jD:Expr->Pos
 | .BinOp _ _ _ p=>p
 | .Subscript _ _ p=>p
 |_=>⟨0,0,0,0⟩
theorem jE{c:aN}(hE:E= .BinOp a w b p)(hx:(R c n).ev a e O=some (.ok (.t (.int x)),O))(L:(R c n).ev b e O=some (.ok (.t (.int y)),O))
  (m:eH w (.int x) (.int y)=pm (.t (.int z))):(R c (n+1)).ev E e O=some (.ok (.t (.int z)),O):=by
 subst hE;show bm ((R c n).ev a e) (λx=>bm ((R c n).ev b e) λy=>bm (aE x) λs=>bm (aE y) λt=>eH w s t) O=_;unfold bm;refine rwm _ ?_ hx;dsimp only;refine rwm _ ?_ L;show eH w (.int x) (.int y) O=_;refine rwm _ ?_ m;rfl
def KE:List Stmt:=ba (at_ 60)
def vp(sc:Scope):AE:=⟨sc,1,[],S "_law_draw"++nm ".<locals>.",623⟩
def bM(X:List T)(i m:Int):af:=[.list [.list X,.int (i+1)],.ns true [(S "tape",.own 0),(S "many",.t (.int m)),(S "cells",.t (.list X)),(S "at",.t (.int i))]]
def iX:Expr:=KD (an KE 2)
set_option tactic.hygienic true in
def vq(r:aG)(e:AE)(n:Nat)(m:MM V):MM V:=bm (bm (bm (bm m λv=>pm (Fl.ret v)) λf=>match f with| .next=>aR r e []| .ret v=>pm (.ret v)) λfl=>match fl with| .ret v=>pm v| .next=>pm (.t .none)) λv=>fw n v
theorem KF{m:MM V}(h:m O=some (.ok v,M)):vq r e n m O=fw n v M:=by
 unfold vq bm;refine rwm _ ?_ h;rfl
theorem d1(X:List T)(i m:Int):(R av 30).call (.t (.top 624)) [.own 0,.t (.int m)] [.list [.list X,.int i]]=
  vq (R av 29) (vp (aV (at_ 60))) 1 ((R av 28).ev iX (vp (aV (at_ 60)))) (bM X i m):=by lk
def dT:AE:=vp (aV (at_ 60))
def Ei:Expr:=bz (bz iX)
def Ep:Expr:=bn (bz iX)
def AX:Expr:=bn (bn Ei)
theorem q1:iX= .BinOp (bz iX) .Mod (bn iX) (jD iX):=by lk
theorem q2:bz iX= .BinOp Ei .Add Ep (jD (bz iX)):=by lk
theorem q3:bn Ei= .BinOp (bz (bn Ei)) .Mod AX (jD (bn Ei)):=by lk
theorem q4:Ep= .BinOp (bz Ep) .Mult (bn Ep) (jD Ep):=by lk
theorem q5:bz Ep= .BinOp (bz (bz Ep)) .FloorDiv (bn (bz Ep)) (jD (bz Ep)):=by lk
theorem q6:bn Ep= .BinOp (bz (bn Ep)) .Add (bn (bn Ep)) (jD (bn Ep)):=by lk
theorem q7:bz (bn Ep)= .BinOp (bz (bz (bn Ep))) .Add (bn (bz (bn Ep))) (jD (bz (bn Ep))):=by lk
theorem q8:bz (bz (bn Ep))= .BinOp (bz (bz (bz (bn Ep)))) .Mult (bn (bz (bz (bn Ep)))) (jD (bz (bz (bn Ep)))):=by lk
theorem q9:bn (bn Ep)= .BinOp (bz (bn (bn Ep))) .FloorDiv (bn (bn (bn Ep))) (jD (bn (bn Ep))):=by lk
theorem n1(X:List T)(i m:Int):(R av 24).ev (bz (bn Ei)) dT (bM X i m)=some (.ok (.t (.int i)),bM X i m):=by lk
theorem n2(X:List T)(i m:Int):(R av 27).ev (bn iX) dT (bM X i m)=some (.ok (.t (.int m)),bM X i m):=by lk
theorem n3(X:List T)(i m:Int):(R av 24).ev (bz (bz Ep)) dT (bM X i m)=some (.ok (.t (.int i)),bM X i m):=by lk
theorem n4(X:List T)(i m:Int):(R av 23).ev (bz (bn (bn Ep))) dT (bM X i m)=some (.ok (.t (.int i)),bM X i m):=by lk
theorem n5(X:List T)(i m:Int):(R av 23).ev (bn (bn (bn Ep))) dT (bM X i m)=some (.ok (.t (.int 2)),bM X i m):=by lk
theorem n6(X:List T)(i m:Int):(R av 23).ev (bn (bz (bn Ep))) dT (bM X i m)=some (.ok (.t (.int 3)),bM X i m):=by lk
theorem n7(X:List T)(i m:Int):(R av 22).ev (bz (bz (bz (bn Ep)))) dT (bM X i m)=some (.ok (.t (.int 7)),bM X i m):=by lk
theorem n8(X:List T)(i m:Int):(R av 22).ev (bn (bz (bz (bn Ep)))) dT (bM X i m)=some (.ok (.t (.int i)),bM X i m):=by lk
theorem KG(X:List T)(i m:Int):(R av 24).ev AX dT (bM X i m)=om ((ju (.list X)).map λ(k:Nat)=>V.t (.int (k:Int))) (bM X i m):=by lk
theorem KH(X:List T)(i m:Int):(R av 24).ev (bn (bz Ep)) dT (bM X i m)=om ((ju (.list X)).map λ(k:Nat)=>V.t (.int (k:Int))) (bM X i m):=by lk
theorem KI{X:List T}(h:X.length<=50):(ju (.list X)).map (λ(k:Nat)=>V.t (.int (k:Int)))=some (.t (.int (X.length:Int))):=by
 have h1:aJ X.length=true:=by unfold aJ;refine rwm _ ?_ nf;exact iv (lB h rfl)
 show(d4 (ic X.length) _).map _=_;unfold ic;refine rwm _ ?_ h1;rfl
theorem KJ(X:List T)(i m:Int):(R av 26).ev Ei dT (bM X i m)=bm ((R av 25).ev (bz Ei) dT) (λM=>bm ((R av 25).ev (bn Ei) dT) λL=>bm (aE M) λt=>match L with
  | .t k=>om ((dR t k).map .t)
  |_=>λ_=>none) (bM X i m):=by lk
theorem KK(X:List T)(i m:Int):(R av 25).ev (bz Ei) dT (bM X i m)=some (.ok (.t (.list X)),bM X i m):=by lk
theorem AY(h:Builtin.Int.intBits a<=shortFactorBits):oH a b=true:=by
 unfold oH;refine rwm _ ?_ (li (Nat.not_lt.mpr h));rfl
set_option tactic.hygienic true in
theorem AZ(h0:0<=a)(h:a<1000):Builtin.Int.intBits a<=shortFactorBits:=by
 unfold Builtin.Int.intBits
 split
 .exact i1 _
 .rename_i hz
  have hz:a≠0:=by simpa using hz
  have:a.natAbs.log2<10:=(Nat.log2_lt (Int.natAbs_ne_zero.mpr hz)).mpr (EL h0 h);show _<=64;exact lB this rfl
theorem A0(h0:0<y)(h:y<=50):Builtin.divisionGoesByPylong x y=false:=by
 unfold Builtin.divisionGoesByPylong;have h1:(if(y==0)=true then 0 else y.natAbs.log2/30+1)<=300:=by
  split
  .exact i1 _
  .have:=Nat.log2_le_self y.natAbs;exact EM h0 h this
 simp only[Bool.and_eq_false_iff];exact .inl (li (Nat.not_lt.mpr h1))
theorem KL{i l:Int}(h0:0<=i)(h:i<1000)(hl:0<l):0<=i.fdiv l/\i.fdiv l<1000:=by
 refine rwm _ ?_ (Int.fdiv_eq_ediv_of_nonneg _ (Int.le_of_lt hl));exact⟨Int.ediv_nonneg h0 (Int.le_of_lt hl),kV (Int.ediv_le_self _ h0) h⟩
theorem KM{ns:List Int}{k:Int}(h0:0<=k)(hk:k<ns.length)(hl:ns.length<=50):dR (.list (ns.map T.int)) (.int k)=some (.int (ns[k.toNat]?.getD 0)):=by
 (refine ag (pb h0) λj bo=>?_;clear h0;subst bo);have hj:=Int.ofNat_lt.mp hk;unfold dR jr;dsimp only;rw[List.length_map,if_pos (by constructor<;>lia)];have e1:seqIndex? (j:Int) ns.length=some j:=by
  unfold seqIndex?;simp;lia
 refine rwm _ ?_ e1;simp [hj]
theorem KN{ns:List Int}(hn:ns≠[])(hl:ns.length<=50)(h0:0<=i)(h:i<1000)(hm:0<m):
  (R av 30).call (.t (.top 624)) [.own 0,.t (.int m)] [.list [.list (ns.map T.int),.int i]]=some (.ok (.t (.int (drawn ns i m))),[.list [.list (ns.map T.int),.int (i+1)]]):=by
 have c:(ns.map T.int).length=ns.length:=ln ..;have z:0<ns.length:=List.length_pos_iff.mpr hn;have M:(0:Int)<ns.length:=Int.ofNat_lt.mpr z;have l1:=KG (ns.map T.int) i m;have l2:=KH (ns.map T.int) i m;rw[KI (by refine rwm _ ?_ c;exact hl),c] at l1 l2;have d:(R av 25).ev (bn Ei) dT (bM (ns.map T.int) i m)=some (.ok (.t (.int (i.fmod ns.length))),bM (ns.map T.int) i m):=
  jE q3 (n1 _ i m) l1 (by unfold eH;dsimp only;exact rwm _ rfl (hX (Int.ne_of_gt (Int.natCast_pos.mpr z))))
 have cf:=Int.fmod_lt_of_pos i M;have b:(R av 26).ev Ei dT (bM (ns.map T.int) i m)=some (.ok (.t (.int (ns[(i.fmod ns.length).toNat]?.getD 0))),bM (ns.map T.int) i m):=by
  rw[KJ];unfold bm;rw[KK];dsimp only;refine rwm _ ?_ d;show om ((dR (.list (ns.map T.int)) (.int (i.fmod ns.length))).map V.t) _=_;refine rwm _ ?_ (KM (Int.fmod_nonneg_of_pos i M) cf hl);rfl
 have f:(R av 25).ev (bz Ep) dT (bM (ns.map T.int) i m)=some (.ok (.t (.int (i.fdiv ns.length))),bM (ns.map T.int) i m):=
  jE q5 (n3 _ i m) l2 (by unfold eH;dsimp only;exact rwm _ (rwm _ (rwm _ rfl (hX (by decide))) (A0 M (Int.ofNat_le.mpr hl))) (hX (Int.ne_of_gt (Int.natCast_pos.mpr z))))
 have j:(R av 23).ev (bz (bz (bn Ep))) dT (bM (ns.map T.int) i m)=some (.ok (.t (.int (7*i))),bM (ns.map T.int) i m):=
  jE q8 (n7 _ i m) (n8 _ i m) (by unfold eH;dsimp only;refine rwm _ ?_ (AY (AZ EN EO));rfl)
 have g:(R av 24).ev (bz (bn Ep)) dT (bM (ns.map T.int) i m)=some (.ok (.t (.int (7*i+3))),bM (ns.map T.int) i m):=
  jE q7 j (n6 _ i m) rfl
 have h2:(R av 24).ev (bn (bn Ep)) dT (bM (ns.map T.int) i m)=some (.ok (.t (.int (i.fdiv 2))),bM (ns.map T.int) i m):=
  jE q9 (n4 _ i m) (n5 _ i m) (by unfold eH;dsimp only;exact rwm _ (rwm _ (rwm _ rfl (hX (by decide))) (A0 (Int.natCast_pos.mpr (Nat.succ_pos _)) (by lia))) (hX EP))
 have hs:=jE q6 g h2 rfl;refine ac (KL h0 h M) λf1 f2=>?_;have hp:=
  jE q4 f hs (by unfold eH;dsimp only;refine rwm _ ?_ (AY (AZ f1 f2));rfl)
 have he:=
  jE q1 (jE q2 b hp rfl) (n2 _ i m) (by unfold eH;dsimp only;refine a0 (hX ((Int.ne_of_gt hm))) ?_;rfl)
 rw[d1];exact(KF he).trans rfl
theorem kq(h:o4 (.box k t)):lJ k t/\o4 t:=by
 (refine bc λno=>a9 h λw g x h=>no ?_;clear no);exact⟨h.1,w,g,x,h.2⟩
theorem A1{g:ay}:∀{l:List T}{ys:List Value},TRs w g l ys->∀t∈l,o4 t
 |[],_,_,_,h=>nomatch h
 |a::l,_,z,t,h=>by
  (refine b9 z λy r e p q=>?_;clear z);(refine a2 (hG.mp h) (λzz=>?_) (λh=>?_);subst zz;rotate_left;rotate_right)
  .exact⟨w,g,y,p⟩
  .exact A1 q t h
theorem A2(h:eX (.list l)):∀t∈l,o4 t:=by
 refine bc λno=>mH h λw g b2 h a ys ep cd=>ac cd λe q=>no (A1 q)
theorem ku(h:cN (.t t)):o4 t:=by
 refine bc λno=>bH h λw g b2 x h=>no (⟨w,g,x,h⟩)
noncomputable def A3:T->Int
 | .int i=>i
 |_=>0
def cy:T->List Int
 | .list U=>U.map A3
 |_=>[]
theorem jF(ns:List Int):cy (ak ns)=ns:=by
 unfold cy ak;dsimp only;refine a0 md ?_;exact List.map_id'' (f:=A3∘T.int) (λ_=>rfl) ns
def ru(H:List (Int×Int×Int))(ns:List Int)(at_ b:Int):Int:=match H.find? λq=>decide (q.1=at_)&&decide (q.2.1=b) with
 |some q=>q.2.2
 |none=>drawn ns at_ b
theorem A4(h:∀q∈H,drawn ns q.1 q.2.1=q.2.2)(i m:Int):ru H ns i m=drawn ns i m:=by
 unfold ru
 cases hf:H.find? λq=>decide (q.1=i)&&decide (q.2.1=m) with
 |none=>rfl
 |some q=>
  have h1:=List.find?_some hf;simp only[Bool.and_eq_true,decide_eq_true_eq] at h1;have h2:=h q (List.mem_of_find?_eq_some hf);rw[h1.1,h1.2] at h2;exact h2.symm
abbrev cF:=Option (Option (Except Addr T×af))
noncomputable def yes(t:T)(S:af):cF:=some (some (.ok t,S))
section
variable {α β:Type}{q:α}
noncomputable def vu(m:MO)(f:List T->Option α):Option α:=match m with
 | .list l=>f l
 |_=>none
@[elab_as_elim] theorem A6{f:List T->Option α}{P:MO->Prop}(h:vu m f=some q)(k:∀l,f l=some q->P (.list l)):P m:=by
 cases m<;>first|exact nso h|exact k _ h
def rx(m:MO)(f:List (Int×Int×Int)->T->Int->Option α):Option α:=vu m λl=>un l λa l=>un l λb l=>nl l (j9 a λg t=>xN g λc=>fL b λi=>f c t i)
theorem vx{f:List (Int×Int×Int)->T->Int->Option α}{P:MO->Prop}(h:rx m f=some q)(k:∀c t i,f c t i=some q->P (.list [.box (.tape c) t,.int i])):P m:=by
 refine A6 h λl h=>cK h λa l h=>cK h λb l h=>bT h λh=>jp h λg t h=>FS h λc h=>ib h λi h=>k c t i h
end
def kx(be:List V)(O:af):cF:=un be λa l=>un l λb l=>nl l (un O λm l=>nl l (lK a 0 (aT b λt=>fL t λn=>rx m λH t i=>
 if 0<=i/\i<1000/\0<n then yes (.int (ru H (cy t) i n)) [.list [.box (.tape H) t,.int (i+1)]] else none)))
def A7:aN:=λa be S=>cond (Nat.beq a 624) (kx be S) none
theorem KO(a:Addr)(be:List V)(S:af)(q:Except Addr T×af)(h:A7 a be S=some (some q))(c:∀Q∈S,eX Q):gl (R av 30) a be S q:=by
 unfold A7 at h
 cases ha:Nat.beq a 624 with
 |false=>rw[ha] at h;exact nso h
 |true=>
  rw[ha] at h;have:=ii ha;clear ha;subst this;dsimp only[cond] at h;revert c;refine cK h λa l h=>cK h λb l h=>bT h λh=>cK h λm l h=>bT h λh=>mN h λh=>bY h λt h=>ib h λm h=>vx (P:=λo=>(∀Q∈[o],eX Q)->gl (R av 30) 624 [.own 0,.t (.int m)] [o] q) h λH t i h c=>?_
  by_cases hc:0<=i/\i<1000/\0<m
  .rw[if_pos hc] at h;cases h;refine ac (kq (A2 (c _ (.head _)) _ (.head _))) λtg _=>?_;(refine ag tg λns c3=>bK c3 λn1 n2 cr n3=>?_;clear c3;subst cr);have tk:lJ (.tape H) (ak ns):=⟨ns,n1,n2,rfl,n3⟩;refine⟨[.own 0,.t (.int m)],[.list [ak ns,.int i]],_,LC.refl _,⟨bG.cons (TC.unbox (TC.refl _)) (bG.refl _),trivial⟩,KN n1 n2 hc.1 hc.2.1 hc.2.2,?_⟩;rw[jF,A4 n3];exact⟨TC.refl _,bG.cons (TC.box (TC.refl _) tk) (bG.refl _),trivial⟩
  .rw[if_neg hc] at h;exact nso h
theorem ry:∀{ns L:List Int},ns.Nodup->(∀n∈ns,n∈L)->ns.length<=L.length
 |[],_,_,_=>i1 _
 |a::ns,L,h1,h2=>by
  refine ac (oc.mp h1) λn1 n2=>?_;have ha:=h2 a (.head _);have:=ry (L:=L.erase a) n2 λn hn=>(List.mem_erase_of_ne (λe=>by clear h1;subst e;exact n1 hn)).mpr (h2 n (.tail _ hn));rw[List.length_erase_of_mem ha] at this;have:0<L.length:=List.length_pos_of_mem ha;simp;lia
theorem rz(m:Nat):(aQ m).length=m:=by simp [aQ]
end Internal
end
noncomputable section
set_option maxHeartbeats 2000000
namespace Internal
open PySem PySem.W PySem.Calls PyProof.Rows
section
variable {J:Program}{b1:Cx}{r g b6 H:ay}{b2 b4 o:List Addr}{l:List Env}{A:Around}{n:Nat}{rc:aG}{e:AE}{env:Env}{O M:af}{h b5:Heap}{s L:Shared}
def cB(b1:Cx)(r:ay)(l:List Env)(L:Shared)(H:ay)(o:List Addr)(e:AE)(env:Env)(O:af)(s:Shared):Prop:=
 ∃g b2,bk L H o s g b2/\St b1 r g b2 l O s.heap/\ER b1 l g b2 e env
theorem cB.conv(k:cB b1 r l L H o e env O s)(c:SC O M):cB b1 r l L H o e env M s:=by
 refine b9 k λg b2 p S he=>⟨g,b2,p,S.conv c,he⟩
set_option tactic.hygienic true in
set_option backward.match.sparseCases true in
theorem cB.cons(d:aL J b1 n rc)(hR:Rm A l n){st:Stmt}{j:List Stmt}(k:cB b1 r l L H o e env O s)(q:rc.ex st e O=some (.ok .next,M)){Q:Flow->Shared->Prop}{E:Value->Shared->Prop}
  (hq:∀s',cB b1 r l L H o e env M s'->wpAny (model J b1.w) A (execs j env) Q E s'):wpAny (model J b1.w) A (execs (st::j) env) Q E s:=by
 (refine b9 k λg b2 p S he=>?_;clear k);show wpAny _ _ (do match<-exec st env with| .next=>execs j env|f=>pure f) _ _ _;refine ae (eb (d.ex hR he st O _ s g b2 (.refl _) (.refl _) S q) (λf s' z=>?_) λx s' z=>?_)
 ·(refine ch z λg2 m b e1 p2 S2 hf=>?_;clear z);(have za:=oke e1;clear e1;cases za);cases f<;>first|exact hf.elim|skip
  exact hq s' ⟨g2,m,p.trans p2,S2,he.mono p2.2.1 p2.2.2⟩
 .refine cT z λ_ _ _ _ e1 _=>oee e1
set_option tactic.hygienic true in
set_option backward.match.sparseCases true in
theorem cB.ret(d:aL J b1 n rc)(hR:Rm A l n){st:Stmt}{j:List Stmt}{v:V}(k:cB b1 r l L H o e env O s)(q:rc.ex st e O=some (.ok (.ret v),M)){Q:Flow->Shared->Prop}{E:Value->Shared->Prop}
  (hq:∀s' g b2 x,bk L H o s' g b2->St b1 r g b2 l M s'.heap->VR b1.w g b2 v x->Q (.ret x) s'):wpAny (model J b1.w) A (execs (st::j) env) Q E s:=by
 (refine b9 k λg b2 p S he=>?_;clear k);show wpAny _ _ (do match<-exec st env with| .next=>execs j env|f=>pure f) _ _ _;refine ae (eb (d.ex hR he st O _ s g b2 (.refl _) (.refl _) S q) (λf s' z=>?_) λx s' z=>?_)
 ·(refine ch z λg2 m b e1 p2 S2 hf=>?_;clear z);(have za:=oke e1;clear e1;cases za);cases f<;>first|exact hf.elim|skip
  exact ar (hq s' g2 m _ (p.trans p2) S2 hf)
 .refine cT z λ_ _ _ _ e1 _=>oee e1
end
def KQ:lY:=(fl.find? λp=>p.a==670).getD rt
theorem KS:fl.find? (λp=>p.a==670)=some ⟨670,at_ 68,S "law",.none,KQ.pm,669,[]⟩:=by rfl
def rA:Scope:=aV (at_ 68)
def aH:AE:=⟨rA,0,[(S "shelf",4),(S "line",3),(S "kept",2),(S "bench",1)],S "law"++nm ".<locals>.",669⟩
def ca(X:T):af:=[.ns true [(S "script",.t X)],.cell none,.cell none,.cell none,.cell none]
theorem KT(X:T):d8 (fj (at_ 68)).args [.t X] []=some [(S "script",.t X)]:=by lk
theorem KU(X:T):(bm (new (.ns true [])) λlh=>bm (et rA.names []) λcl=>bm (gT ⟨rA,lh,cl,S "law"++nm ".<locals>.",669⟩ [(S "script",.t X)]) λ_=>pm (⟨rA,lh,cl,S "law"++nm ".<locals>.",669⟩:AE)) []
  =some (.ok aH,ca X):=by lk
def A8:Prop:=∀(w:World)(s:Shared)(b7 mb:Str->Option Value)(ns:List Int)(x:Value),(∀c,gZ (heap w.params) (bU w (hid s.heap)) (Pc c) b7 mb)->St (bU w (hid s.heap)) (λ_=>none) (hid s.heap).get? [] [] [] s.heap->
 ns.length<=63->TR w (hid s.heap).get? (ak ns) x->
 wpAny (model PW w) callerA (call (.ref 670) [x]) (λv s'=>v= .bool true/\∃g b2 O,bk s (hid s.heap).get? [] s' g b2/\St (bU w (hid s.heap)) (λ_=>none) g b2 [] O s'.heap) (λ_ _=>False) s
theorem KV(n:Nat):sliceBounds none (some 50) none n=((0:Int),((min 50 n:Nat):Int),(1:Int)):=by
 unfold sliceBounds;simp;exact Fc
theorem KW(X:List T):lR X none (some 50) none=X.take 50:=by
 unfold lR;rw[KV];dsimp only;have h:=sliceRange_one 0 (min 50 X.length);rw[show((0:Nat):Int)=0 from rfl] at h;refine rwm _ (rwm _ (rwm _ ?_ List.drop_zero) (StrLaws.picks X _ 0 Fd)) h;(refine bc λno=>a2 (Nat.le_total 50 X.length) (λq=>?_) (λq=>?_);refine no ?_;clear no;rotate_left;refine no ?_;clear no;rotate_right)
 .exact rwm _ rfl (show min 50 X.length - 0=50 from Nat.min_eq_left q)
 .exact rwm _ (rwm _ (rwm _ rfl (si q)) List.take_length) (show min 50 X.length - 0=X.length from Nat.min_eq_right q)
def KY:Stmt->Expr
 | .Assign _ e _=>e
 |_=>g7
noncomputable def lZ:Expr->List Expr
 | .List l _=>l
 | .BoolOp _ l _=>l
 | .Call _ l _ _=>l
 |_=>[]
def aY(l:List Expr)(k:Nat):Expr:=(l[k]?).getD g7
def iY:Stmt:=an (ba (at_ 68)) 0
def ip:Expr:=KY iY
def nt:Expr:=aY (lZ ip) 0
def rC:Expr:=aY (lZ nt) 0
def vy:Expr:=aY (lZ rC) 0
noncomputable def vz(r:aG)(E:Expr)(e:AE):MM (List V):=bm (r.ev E e) λv=>bm (a8 r e []) λvs=>pm (v::vs)
theorem KZ{r:aG}(h:r.ev E e O=some (.ok v,M)):vz r E e O=some (.ok [v],M):=by
 unfold vz bm;refine rwm _ ?_ h;rfl
def A9:Expr:=aY (lZ nt) 1
theorem K0{r:aG}(h:r.ev a e O=some (.ok v,M))(ht:vw v M=some t)(hb:kf t=some true):gS r e .Or [a,b] O=some (.ok v,M):=by
 show bm (r.ev a e) (λv=>bm (fQ v) λc=>match BoolOp.Or,c with| .And,false| .Or,true=>pm v|_,_=>gS r e .Or [b]) O=_;refine a0 (az h) ?_;have h2:fQ v M=some (.ok true,M):=by
  show bm (aE v) (λt=>om (kf t)) M=_;have:aE v M=some (.ok t,M):=by unfold aE;exact rwm _ rfl ht
  refine a0 (az this) (rwm _ ?_ hb);rfl
 refine a0 (az h2) ?_;rfl
theorem K3{r:aG}(h:r.ev a e O=some (.ok v,M))(ht:vw v M=some t)(hb:kf t=some false):gS r e .Or [a,b] O=r.ev b e M:=by
 show bm (r.ev a e) (λv=>bm (fQ v) λc=>match BoolOp.Or,c with| .And,false| .Or,true=>pm v|_,_=>gS r e .Or [b]) O=_;refine a0 (az h) ?_;have h2:fQ v M=some (.ok false,M):=by
  show bm (aE v) (λt=>om (kf t)) M=_;have:aE v M=some (.ok t,M):=by unfold aE;exact rwm _ rfl ht
  refine a0 (az this) (rwm _ ?_ hb);rfl
 refine a0 (az h2) ?_;rfl
noncomputable def eg(ns:List Int):List Int:=match ns.take 50 with
 |[]=>[2]
 |l=>l
section
variable {J:Program}{b1:Cx}{r g H:ay}{b2 o:List Addr}{l:List Env}{e:AE}{env:Env}{O:af}{h:Heap}{s L:Shared}
theorem St.select(S:St b1 r g b2 l O h){p:Pk}(I:PI b1 g b2 O h p):St b1 r g (cw b2 p.σ) l p.S h where
 base:=S.base
 fr:=S.fr
 rs:=S.rs
 len:=by refine rwm _ ?_ I.len;simp [cw]
 own:=λi Q a e1 e2=>by
  (refine ag (nk e2) λk c1=>ac c1 λe3 bo=>?_;clear c1;subst bo);refine dp (I.at_ i k e3) λm1 m2 b f1 f2 v t y=>?_;rw[e1] at f2;cases f2;refine rwm _ ?_ v;exact y
 free:=λi Q a e1 e2 q=>by
  (refine ag (nk e2) λk c1=>ac c1 λe3 bo=>?_;clear c1;clear e2;subst bo);refine dp (I.at_ i k e3) λm1 m2 b f1 f2 v t y=>?_;rw[e1] at f2;clear y;cases f2;refine rwm _ ?_ v;exact S.free k m1 b f1 v (t.trans q)
 nd:=(vb S I).nd
 gr:=S.gr
 gt:=S.gt
 tabs:=S.tabs
 frs:=S.frs
end
abbrev b8:=List V->af->cF
def aC(c:aN)(b:Nat):Prop:=∀(w:World)(b7 mb:Str->Option Value)(B:Heap),(∀c,gZ (heap w.params) (bU w B) (Pc c) b7 mb)->cM PW (bU w B) b c
def cG(rc:aG)(a:Addr)(f:b8):Prop:=∀be O q,f be O=some (some q)->(∀v∈be,cN v)->(∀Q∈O,eX Q)->gl rc a be O q
def iZ(f:V->af->cF):b8:=λbe O=>un be λx l=>nl l (f x O)
@[elab_as_elim] theorem K4{f:V->af->cF}{P:List V->Prop}(h:iZ f be O=some q)(k:∀x,f x O=some q->P [x]):P be:=by
 refine cK h λx l h=>bT h λh=>k x h
theorem jG{f:V->af->cF}(H:∀x O q,f x O=some (some q)->cN x->(∀Q∈O,eX Q)->gl rc a [x] O q):cG rc a (iZ f):=λbe O q h hv ho=>by
 revert hv;exact K4 h λx h hv=>H x O q h (hv _ (.head _)) ho
def jH(f:V->V->af->cF):b8:=λbe O=>un be λx l=>un l λy l=>nl l (f x y O)
@[elab_as_elim] theorem Ba{f:V->V->af->cF}{P:List V->Prop}(h:jH f be O=some q)(k:∀x y,f x y O=some q->P [x,y]):P be:=by
 refine cK h λx l h=>cK h λy l h=>bT h λh=>k x y h
theorem nu{f:V->V->af->cF}(H:∀x y O q,f x y O=some (some q)->cN x->cN y->(∀Q∈O,eX Q)->gl rc a [x,y] O q):cG rc a (jH f):=λbe O q h hv ho=>by
 revert hv;exact Ba h λx y h hv=>H x y O q h (hv _ (.head _)) (hv _ (.tail _ (.head _))) ho
def o9(f:V->V->V->af->cF):b8:=λbe O=>un be λx l=>un l λy l=>un l λz l=>nl l (f x y z O)
@[elab_as_elim] theorem K5{f:V->V->V->af->cF}{P:List V->Prop}(h:o9 f be O=some q)(k:∀x y z,f x y z O=some q->P [x,y,z]):P be:=by
 refine cK h λx l h=>cK h λy l h=>cK h λz l h=>bT h λh=>k x y z h
theorem vA{f:V->V->V->af->cF}(H:∀x y z O q,f x y z O=some (some q)->cN x->cN y->cN z->(∀Q∈O,eX Q)->gl rc a [x,y,z] O q):cG rc a (o9 f):=λbe O q h hv ho=>by
 revert hv;exact K5 h λx y z h hv=>H x y z O q h (hv _ (.head _)) (hv _ (.tail _ (.head _))) (hv _ (.tail _ (.tail _ (.head _)))) ho
def rD(f:V->V->V->V->af->cF):b8:=λbe O=>un be λx l=>un l λy l=>un l λz l=>un l λu l=>nl l (f x y z u O)
@[elab_as_elim] theorem K6{f:V->V->V->V->af->cF}{P:List V->Prop}(h:rD f be O=some q)(k:∀x y z u,f x y z u O=some q->P [x,y,z,u]):P be:=by
 refine cK h λx l h=>cK h λy l h=>cK h λz l h=>cK h λu l h=>bT h λh=>k x y z u h
theorem Bb{f:V->V->V->V->af->cF}(H:∀x y z u O q,f x y z u O=some (some q)->cN x->cN y->cN z->cN u->(∀Q∈O,eX Q)->gl rc a [x,y,z,u] O q):cG rc a (rD f):=λbe O q h hv ho=>by
 revert hv;exact K6 h λx y z u h hv=>H x y z u O q h (hv _ (.head _)) (hv _ (.tail _ (.head _))) (hv _ (.tail _ (.tail _ (.head _)))) (hv _ (.tail _ (.tail _ (.tail _ (.head _))))) ho
noncomputable def bp(a:Addr)(f:b8)(c:aN):aN:=λx be O=>cond (Nat.beq x a) (f be O) (c x be O)
theorem aC.start:aC av 0:=λ_ _ _ _ _=>cM.none
theorem aC.mono{c:aN}(h:aC c b)(hb:b<=G):aC c G:=λw b7 mb B k=>cM.mono (h w b7 mb B k) hb
theorem aC.add{c d:aN}{f:b8}(h:aC c b)(hd:aC d k)(hk:b+n<=k)(hr:cG (R c n) a f):aC (bp a f d) k:=by
 intro w b7 mb B C;have h1:cM PW (bU w B) (b+n) (λx be O=>cond (Nat.beq x a) (f be O) Option.none):=cM.run (rh (C c) (h w b7 mb B C) n) λx be O q e h2 h3=>by
  cases hx:Nat.beq x a with
  |false=>rw[hx] at e;exact nso e
  |true=>
   rw[hx] at e;have:=ii hx;subst this;exact hr be O q e h2 h3
 intro A l r g b2 hR x be U O q s e;unfold bp at e
 cases hx:Nat.beq x a with
 |true=>
  rw[hx] at e;exact h1 (hR.mono hk) x be U O q s (by show(cond (Nat.beq x a) _ _:cF)=_;refine rwm _ ?_ hx;exact e)
 |false=>
  rw[hx] at e;exact hd w b7 mb B C hR x be U O q s e
section
variable {c:aN}{n:Nat}{e:AE}{O E O2 O3:af}{r:aG}
set_option tactic.hygienic true in
theorem aW(h:r.ex s e O=some (.ok .next,E))(h2:aR r e l E=B):aR r e (s::l) O=B:=by
 show bm (r.ex s e) _ O=_;refine a0 (az h) ?_;exact h2
theorem ci(h:r.ex s e O=some (.ok (.ret v),E)):aR r e (s::l) O=some (.ok (.ret v),E):=by
 show bm (r.ex s e) _ O=_;refine a0 (az h) ?_;rfl
set_option tactic.hygienic true in
theorem gm:aR r e [] O=some (.ok .next,O):=rfl
set_option tactic.hygienic true in
theorem bv(h:r.ex s e O=some (.ok .next,E)):aR r e [s] O=some (.ok .next,E):=aW h rfl
set_option tactic.hygienic true in
theorem K7(k:Nat){l:List Stmt}(h:aR r e (l.take k) O=some (.ok .next,E))(h2:aR r e (l.drop k) E=B):aR r e l O=B:=by
 suffices H:∀(k:Nat)(l:List Stmt)(O:af),aR r e (l.take k) O=some (.ok .next,E)->aR r e (l.drop k) E=B->aR r e l O=B from H k l O h h2
 intro k
 induction k with
 |zero=>intro l O h h2;(refine ac (okp h) λza b=>?_;clear h;cases za;cases b);exact h2
 |succ k ih=>
  intro l O h h2
  cases l with
  |nil=>(refine ac (okp h) λza b=>?_;clear h;cases za;cases b);exact h2
  |cons s l=>
   rw[List.take_succ_cons] at h
   refine(?_:bm (r.ex s e) (λf=>match f with
    | .next=>aR r e l
    | .ret v=>pm (.ret v)) O=B)
   have h:bm (r.ex s e) (λf=>match f with
    | .next=>aR r e (l.take k)
    | .ret v=>pm (.ret v)) O=_:=h
   unfold bm at h⊢
   cases hx:r.ex s e O with
   |none=>rw[hx] at h;exact nso h
   |some q=>
    rw[hx] at h;clear hx;rcases q with⟨q1,M⟩
    cases q1 with
    |error c=>exact eop h
    |ok f=>
     cases f with
     |ret v=>cases h
     |next=>exact ih l M h h2
theorem eh(h:(R c n).ev x e O=some (.ok v,E)):(R c (n+1)).ex (.Return (some x) p) e O=some (.ok (.ret v),E):=by
 show bm ((R c n).ev x e) (λv=>pm (Fl.ret v)) O=_;refine a0 (az h) ?_;rfl
theorem rE(h:(R c n).test t e O=some (.ok q,E))(h2:aR (R c n) e (cond q a b) E=B):(R c (n+1)).ex (.If t a b p) e O=B:=by
 show bm ((R c n).test t e) (λq=>if q then aR (R c n) e a else aR (R c n) e b) O=_;refine a0 (az h) (rwl _ ?_ h2);clear h h2;cases q<;>rfl
set_option tactic.hygienic true in
theorem jI(hx:ig x=true)(h:(R c n).ev x e O=some (.ok v,E)):(R c (n+1)).ex (.Expr x p) e O=some (.ok .next,E):=by
 show(if ig x then bm ((R c n).ev x e) λ_=>pm .next else λ_=>none:MM Fl) O=_;refine rwm _ (rwm _ (rwm _ ?_ (az h)) (ec rfl)) hx;rfl
set_option tactic.hygienic true in
theorem pd(hs:noStar tg=true)(h:ij (R c n) e tg x O=some (.ok (),E)):(R c (n+1)).ex (.Assign [tg] x p) e O=some (.ok .next,E):=by
 show(if noStar tg then bm (ij (R c n) e tg x) λ_=>pm .next else λ_=>none:MM Fl) O=_;refine rwm _ (rwm _ (rwm _ ?_ (az h)) (ec rfl)) hs;rfl
theorem ey(h1:(R c n).ev a e O=some (.ok v,E))(h2:(R c n).ev b e E=some (.ok u,O2))(h3:dQ w v u O2=B):
  (R c (n+1)).test (.Compare a [w] [b] p) e O=B:=by
 show bm ((R c n).ev a e) (λv=>bm ((R c n).ev b e) λu=>dQ w v u) O=_;exact rwm _ (rwm _ (rwm _ rfl h3) (az h2)) (az h1)
theorem Bc(h1:(R c n).test a e O=some (.ok q,E))(h2:cond q (iP (R c n) e .And l E) (some (.ok false,E))=B):
  (R c (n+1)).test (.BoolOp .And (a::l) p) e O=B:=by
 show bm ((R c n).test a e) (λb=>match BoolOp.And,b with
  | .And,false=>pm false
  | .Or,true=>pm true
  |_,_=>iP (R c n) e .And l) O=_
 refine a0 (az h1) (rwl _ ?_ h2);clear h1 h2;cases q<;>rfl
theorem Bd(h1:(R c n).test a e O=some (.ok q,E))(h2:cond q (some (.ok true,E)) (iP (R c n) e .Or l E)=B):
  (R c (n+1)).test (.BoolOp .Or (a::l) p) e O=B:=by
 show bm ((R c n).test a e) (λb=>match BoolOp.Or,b with
  | .And,false=>pm false
  | .Or,true=>pm true
  |_,_=>iP (R c n) e .Or l) O=_
 refine a0 (az h1) (rwl _ ?_ h2);clear h1 h2;cases q<;>rfl
theorem jJ(h:(R c n).test t e O=some (.ok true,E))(h2:aR (R c n) e a E=B):(R c (n+1)).ex (.If t a b p) e O=B:=rE h h2
theorem i0(h:(R c n).test t e O=some (.ok false,E))(h2:aR (R c n) e b E=B):(R c (n+1)).ex (.If t a b p) e O=B:=rE h h2
theorem rF(h1:(R c n).test a e O=some (.ok true,E))(h2:iP (R c n) e .And l E=B):(R c (n+1)).test (.BoolOp .And (a::l) p) e O=B:=Bc h1 h2
theorem K8(h1:(R c n).test a e O=some (.ok true,E)):(R c (n+1)).test (.BoolOp .Or (a::l) p) e O=some (.ok true,E):=Bd h1 rfl
theorem vB(h1:(R c n).test a e O=some (.ok false,E))(h2:iP (R c n) e .Or l E=B):(R c (n+1)).test (.BoolOp .Or (a::l) p) e O=B:=Bd h1 h2
theorem l0(h1:r.test a e O=some (.ok q,E)):iP r e w [a] O=some (.ok q,E):=by
 show bm (r.test a e) (λb=>match w,b with
  | .And,false=>pm false
  | .Or,true=>pm true
  |_,_=>pm (w== .And)) O=_
 refine a0 (az h1) ?_;cases w<;>(clear h1;cases q)<;>rfl
theorem rG(h1:(R c n).ev (.Call f be [] p) e O=some (.ok v,E))(h2:fQ v E=B):(R c (n+1)).test (.Call f be [] p) e O=B:=by
 show bm ((R c n).ev (.Call f be [] p) e) (λv=>fQ v) O=_;exact rwm _ (rwm _ rfl h2) (az h1)
theorem Be(h1:(R c n).ev a e O=some (.ok v,E))(h2:(R c n).ev b e E=some (.ok u,O2))(h3:dQ w v u O2=some (.ok q,O3)):
  (R c (n+1)).ev (.Compare a [w] [b] p) e O=some (.ok (.t (.bool q)),O3):=by
 show bm ((R c n).ev a e) (λv=>bm (bm ((R c n).ev b e) λu=>dQ w v u) λb=>pm (V.t (T.bool b))) O=_;refine a0 (az h1) ?_;have:bm ((R c n).ev b e) (λu=>dQ w v u) E=some (.ok q,O3):=by exact rwm _ (rwm _ rfl h3) (az h2)
 refine a0 (az this) ?_;rfl
theorem go(h1:(R c n).ev a e O=some (.ok v,E))(h2:(R c n).ev b e E=some (.ok u,O2))(hv:vw v O2=some x)(hu:vw u O2=some y)
  (h3:eH w x y O2=B):(R c (n+1)).ev (.BinOp a w b p) e O=B:=by
 show bm ((R c n).ev a e) (λx=>bm ((R c n).ev b e) λy=>bm (aE x) λs=>bm (aE y) λt=>eH w s t) O=_;exact rwm _ (rwm _ (rwm _ (rwm _ (rwm _ rfl h3) (az (show aE u O2=some (.ok y,O2) by unfold aE;exact rwm _ rfl hu))) (az (show aE v O2=some (.ok x,O2) by unfold aE;exact rwm _ rfl hv))) (az h2)) (az h1)
theorem vC(h:(R c n).test t e O=some (.ok q,E))(h2:(R c n).ev (cond q a b) e E=B):(R c (n+1)).ev (.IfExp t a b p) e O=B:=by
 show bm ((R c n).test t e) (λq=>if q then(R c n).ev a e else(R c n).ev b e) O=_;refine a0 (az h) (rwl _ ?_ h2);clear h h2;cases q<;>rfl
theorem vD(h:(R c n).test t e O=some (.ok true,E))(h2:(R c n).ev a e E=B):(R c (n+1)).ev (.IfExp t a b p) e O=B:=vC h h2
theorem K9(h:(R c n).test t e O=some (.ok false,E))(h2:(R c n).ev b e E=B):(R c (n+1)).ev (.IfExp t a b p) e O=B:=vC h h2
theorem aO{be:List Expr}(ha:(be.all noStar&&decide (be.length<30))=true)(h1:(R c n).ev (.Name f fp) e O=some (.ok fv,O))
  (h2:a8 (R c n) e be O=some (.ok vs,E))(h3:kl (Pc c) fv E=some (.ok (),E))(h4:(R c n).call fv vs E=B):(R c (n+1)).ev (.Call (.Name f fp) be [] p) e O=B:=by
 show(if be.all noStar&&decide (be.length<30) then bm ((R c n).ev (.Name f fp) e) λfv=>bm (a8 (R c n) e be) λvs=>bm (kl (Pc c) fv) λ_=>(R c n).call fv vs else λ_=>none:MM V) O=_;exact rwm _ (rwm _ (rwm _ (rwm _ (rwm _ (rwm _ rfl h4) (az h3)) (az h2)) (az h1)) (ec rfl)) ha
theorem rH{D p:Pos}{be:List Expr}(ha:(D.endLine==p.line&&be.all noStar&&decide (be.length<20)&&fP o)=true)
  (h1:(R c n).ev o e O=some (.ok M,E))(hc:mT M m E=some (.ok (some C),E))(hm:(Pc c).meth C m=some f)
  (h2:a8 (R c n) e be E=some (.ok vs,O2))(h4:(R c n).call (.t (.top f)) (M::vs) O2=B):(R c (n+1)).ev (.Call (.Attribute o m D) be [] p) e O=B:=by
 show(if D.endLine==p.line&&be.all noStar&&decide (be.length<20)&&fP o then bm ((R c n).ev o e) λM=>bm (mT M m) λc'=>match c' with
  |some C=>bm (om ((Pc c).meth C m)) λf=>bm (a8 (R c n) e be) λvs=>(R c n).call (.t (.top f)) (M::vs)
  |none=>bm (aE M) λt=>bm (om (mR t)) λL=>bm (om (lP L m)) λk=>bm (a8 (R c n) e be) λvs=>iM k M vs
 else λ_=>none:MM V) O=_
 refine rwm _ (rwm _ (rwm _ (rwm _ ?_ (az hc)) (az h1)) (ec rfl)) ha;show bm (om ((Pc c).meth C m)) (λf=>bm (a8 (R c n) e be) λvs=>(R c n).call (.t (.top f)) (M::vs)) E=_;refine rwm _ ?_ hm;show bm (a8 (R c n) e be) (λvs=>(R c n).call (.t (.top f)) (M::vs)) E=_;exact rwm _ (rwm _ rfl h4) (az h2)
theorem kE{o:Expr}{m:Str}{D p:Pos}{be:List Expr}{M:V}{t:T}{L k:Nat}{vs:List V}{B:Option (Except Addr V×af)}(ha:(D.endLine==p.line&&be.all noStar&&decide (be.length<20)&&fP o)=true)
  (h1:(R c n).ev o e O=some (.ok M,E))(hc:mT M m E=some (.ok none,E))(hv:vw M E=some t)(hk:mR t=some L)(hm:lP L m=some k)
  (h2:a8 (R c n) e be E=some (.ok vs,O2))(h4:iM k M vs O2=B):(R c (n+1)).ev (.Call (.Attribute o m D) be [] p) e O=B:=by
 show(if D.endLine==p.line&&be.all noStar&&decide (be.length<20)&&fP o then bm ((R c n).ev o e) λM=>bm (mT M m) λc'=>match c' with
  |some C=>bm (om ((Pc c).meth C m)) λf=>bm (a8 (R c n) e be) λvs=>(R c n).call (.t (.top f)) (M::vs)
  |none=>bm (aE M) λt=>bm (om (mR t)) λL=>bm (om (lP L m)) λk=>bm (a8 (R c n) e be) λvs=>iM k M vs
 else λ_=>none:MM V) O=_
 refine rwm _ (rwm _ (rwm _ (rwm _ ?_ (az hc)) (az h1)) (ec rfl)) ha;show bm (aE M) (λt=>bm (om (mR t)) λL=>bm (om (lP L m)) λk=>bm (a8 (R c n) e be) λvs=>iM k M vs) E=_;refine a0 (az (show aE M E=some (.ok t,E) by unfold aE;exact rwm _ rfl hv)) (rwm _ ?_ hk);show bm (om (lP L m)) (λk=>bm (a8 (R c n) e be) λvs=>iM k M vs) E=_;refine rwm _ ?_ hm;show bm (a8 (R c n) e be) (λvs=>iM k M vs) E=_;exact rwm _ (rwm _ rfl h4) (az h2)
theorem cb:a8 r e [] O=some (.ok [],O):=rfl
theorem bx(h:r.ev a e O=some (.ok v,E))(h2:a8 r e l E=some (.ok vs,O2)):a8 r e (a::l) O=some (.ok (v::vs),O2):=by
 show bm (r.ev a e) (λv=>bm (a8 r e l) λvs=>pm (v::vs)) O=_;refine a0 (az h) (rwm _ ?_ (az h2));rfl
theorem cm{p:Pk}(h1:iO O be ⟨[],[]⟩=some (bi,p))(h2:c a bi p.S=some (some (.ok t,X)))(h3:unpack p.σ p.σ X O=some E):
  (R c (n+1)).call (.t (.top a)) be O=some (.ok (.t t),E):=by
 show fT (Pc c) (R c n) a be O=_;unfold fT;refine rwm _ ?_ h1;show m9 (Pc c) (R c n) a be p (c a bi p.S) O=_;refine rwm _ ?_ h2;show(unpack p.σ p.σ X O).map _=_;refine rwm _ ?_ h3;rfl
theorem vE{p:Pk}(h1:iO O be ⟨[],[]⟩=some (bi,p))(h2:c a bi p.S=some (some (.error t,X)))(h3:unpack p.σ p.σ X O=some E):
  (R c (n+1)).call (.t (.top a)) be O=some (.error t,E):=by
 show fT (Pc c) (R c n) a be O=_;unfold fT;refine rwm _ ?_ h1;show m9 (Pc c) (R c n) a be p (c a bi p.S) O=_;refine rwm _ ?_ h2;show(unpack p.σ p.σ X O).map _=_;refine rwm _ ?_ h3;rfl
noncomputable def pe:Stmt->Bool
 | .FunctionDef _ _ _ _ _ _ _ _ _ _=>true
 |_=>false
def kF(sc:Scope)(q:Str)(c6:Addr)(H:List (Str×V)):MM AE:=bm (new (.ns true [])) λlh=>bm (et sc.names []) λcl=>bm (gT ⟨sc,lh,cl,q++nm ".<locals>.",c6⟩ H) λ_=>pm ⟨sc,lh,cl,q++nm ".<locals>.",c6⟩
theorem Lc{r:aG}{st:Stmt}{q:Str}{d:List T}{c6:Addr}{be:List V}(h:pe st=true):m8 r ⟨st,q,d,c6⟩ be=bm (om (d8 (fj st).args be d)) λH=>dS r (aV st) q c6 [] H (eu r (ba st)):=by
 cases st<;>first|exact ftf h|rfl
theorem Le:dS r sc q c6 [] H (eu r j) O=bm (kF sc q c6 H) (λe=>bm (eu r j e) λv=>fw O.length v) O:=by
 unfold dS kF;refine rwm _ ?_ dw
 congr 1
 funext lh
 refine rwm _ ?_ dw
 congr 1
 funext cl
 rw[dw];rfl
theorem vF{a:Addr}{be:List V}{st:Stmt}{q:Str}{d:List T}{c6:Addr}{H:List (Str×V)}(ht:fT (Pc c) (R c n) a be O=ik (Pc c) (R c n) a be O)(hf:(Pc c).fns a=some ⟨st,q,d,c6⟩)(cp:pe st=true)
  (hb:d8 (fj st).args be d=some H)(he:kF (aV st) q c6 H O=some (.ok e,E)):(R c (n+1)).call (.t (.top a)) be O=bm (eu (R c n) (ba st) e) (λv=>fw O.length v) E:=by
 show fT (Pc c) (R c n) a be O=_;refine a0 ht ?_;unfold ik;refine rwm _ ?_ hf;show m8 _ _ _ O=_;refine rwm _ (rwm _ ?_ hb) (Lc cp);show dS (R c n) (aV st) q c6 [] H (eu (R c n) (ba st)) O=_;exact rwm _ (rwm _ rfl (az he)) Le
theorem kI{a:Addr}{be:List V}{st:Stmt}{q:Str}{d:List T}{c6:Addr}{H:List (Str×V)}{v v':V}(ht:fT (Pc c) (R c n) a be O=ik (Pc c) (R c n) a be O)(hf:(Pc c).fns a=some ⟨st,q,d,c6⟩)(cp:pe st=true)
  (hb:d8 (fj st).args be d=some H)(he:kF (aV st) q c6 H O=some (.ok e,E))(hr:aR (R c n) e (ba st) E=some (.ok (.ret v),O2))(hl:fw O.length v O2=some (.ok v',O3)):
  (R c (n+1)).call (.t (.top a)) be O=some (.ok v',O3):=by
 have h5:eu (R c n) (ba st) e E=some (.ok v,O2):=by
  unfold eu;refine a0 (az hr) ?_;rfl
 exact rwm _ (rwm _ (rwm _ rfl hl) (az h5)) (vF ht hf cp hb he)
def i3(r:aG)(e:AE)(tg:Expr)(j:List Stmt)(k:Nat):T->MM Fl:=λt=>noErr (mW (bm (r.as tg e (.t t)) λ_=>aR r e j) k)
theorem pf(hs:ie it=true)(h1:(R c n).ev it e O=some (.ok x,E))(h2:fr x E=some (.ok t,O2))(h3:d7 t=some U)
  (h4:dD (i3 (R c n) e tg j O2.length) U O2=B):(R c (n+1)).ex (.For tg it j [] p) e O=B:=by
 show(if ie it then bm ((R c n).ev it e) λx=>bm (fr x) λt=>bm (om (d7 t)) λU=>uk (R c n) e tg j U else λ_=>none:MM Fl) O=_;refine rwm _ (rwm _ (rwm _ (rwm _ (rwm _ ?_ h3) (az h2)) (az h1)) (ec rfl)) hs;exact h4
set_option tactic.hygienic true in
theorem dJ(h1:r.as tg e (.t t) O=some (.ok (),E))(h2:aR r e j E=some (.ok .next,O2)):i3 r e tg j k t O=some (.ok .next,trunc k O2):=by
 unfold i3 noErr mW;exact rwm _ (rwm _ rfl h2) (az h1)
set_option tactic.hygienic true in
theorem Bf{α p:Type}(d:α->T)(I:p->af)(step:p->α->p)(F:T->MM Fl):∀(l:List α)(s:p),(∀A a B,l=A++a::B->F (d a) (I (A.foldl step s))=some (.ok .next,I (step (A.foldl step s) a)))->
  dD F (l.map d) (I s)=some (.ok .next,I (l.foldl step s))
 |[],s,_=>rfl
 |a::l,s,H=>by
  show bm (F (d a)) (λfl=>match fl with
   | .next=>dD F (l.map d)
   | .ret v=>pm (.ret v)) (I s)=_
  refine a0 (az (show F (d a) (I s)=some (.ok .next,I (step s a)) from H [] a l rfl)) ?_;exact Bf d I step F l (step s a) λA b B e=>H (a::A) b B (by refine rwm _ ?_ e;rfl)
noncomputable def kJ{α:Type}(g:List α->α->Option T):List α->List α->List T
 |_,[]=>[]
 |A,a::l=>(g A a).toList++kJ g (A++[a]) l
theorem Bg{α:Type}(g:α->Option T):∀(A l:List α),kJ (λ_ a=>g a) A l=l.filterMap g
 |_,[]=>rfl
 |A,a::l=>by
  refine a0 (hS ((g a).toList++·) (Bg g (A++[a]) l)) ?_;cases h:g a<;>simp [h]
theorem eY(h:k<=1000):aJ k=true:=by unfold aJ;refine rwm _ ?_ nf;exact iv (lB h rfl)
theorem rI{α:Type}(d:α->T)(I:List α->af)(g:List α->α->Option T)(F:T->MM (Option T)):∀(l A:List α)(be:List T),be.length+l.length<=1000->
  (∀p a q,A++l=p++a::q->F (d a) (I p)=some (.ok (g p a),I (p++[a])))->bZ F (l.map d) be (I A)=some (.ok (be++kJ g A l),I (A++l))
 |[],A,be,_,_=>by
  show pm be (I A)=_;rw[show kJ g A []=[] from rfl,List.append_nil,List.append_nil];rfl
 |a::l,A,be,hn,H=>by
  show bm (F (d a)) (λx=>match x with
   |some y=>if aJ be.length then bZ F (l.map d) (be++[y]) else λ_=>none
   |none=>bZ F (l.map d) be) (I A)=_
  refine a0 (az (H A a l rfl)) ?_;rw[List.length_cons] at hn;have f:∀p b q,(A++[a])++l=p++b::q->F (d b) (I p)=some (.ok (g p b),I (p++[b])):=λp b q e=>H p b q (by rw[<-e,List.append_assoc];rfl);have e1:A++a::l=(A++[a])++l:=by simp
  rw[show kJ g A (a::l)=(g A a).toList++kJ g (A++[a]) l from rfl]
  cases h:g A a with
  |none=>
   show bZ F (l.map d) be (I (A++[a]))=_;refine a0 (rI d I g F l (A++[a]) be (Nat.le_of_succ_le hn) f) (rwm _ ?_ e1);rfl
  |some y=>
   show(if aJ be.length then bZ F (l.map d) (be++[y]) else λ_=>none:MM (List T)) (I (A++[a]))=_;rw[eY (Nat.le_trans (Nat.le_add_right _ _) hn),if_pos rfl,rI d I g F l (A++[a]) (be++[y]) (by simp;exact Fb hn) f,e1,List.append_assoc];rfl
theorem vG(hk:(ie it&&qG tg&&km sc&&(eW e sc 0).isSome)=true)(h1:(R c n).ev it e O=some (.ok x,E))(h2:fr x E=some (.ok t,O2))
  (h3:d7 t=some U)(hc:eW e sc O2.length=some ce)(h4:bZ (dE (R c n) ce Q tg bi) U [] (O2++[.ns false []])=some (.ok be,O3))(h5:O3[O2.length]? =some (.ns false N)):
  fy (R c n) e Q [⟨tg,it,bi,0⟩] sc O=bP (.list be) (trunc O2.length (O3.set O2.length .dead)):=by
 show(if ie it&&qG tg&&km sc&&(eW e sc 0).isSome then bm ((R c n).ev it e) λx=>bm (fr x) λt=>bm (om (d7 t)) λU=>jx (R c n) e Q tg bi sc U else λ_=>none:MM V) O=_;refine rwm _ (rwm _ (rwm _ (rwm _ (rwm _ ?_ h3) (az h2)) (az h1)) (ec rfl)) hk;show jx (R c n) e Q tg bi sc U O2=_;unfold jx;refine a0 (az (show new (.ns false []) O2=some (.ok O2.length,O2++[.ns false []]) from rfl)) (rwm _ ?_ hc);show mY O2.length O2.length (bZ (dE (R c n) ce Q tg bi) U [] (O2++[.ns false []]))=_;refine rwm _ ?_ h4;show oN O3[O2.length]? (bP (.list be) (trunc O2.length (O3.set O2.length .dead)))=_;refine rwm _ ?_ h5;rfl
theorem kO(h1:r.as tg ce (.t t) O=some (.ok (),E))(h2:oM r ce bi E=some (.ok q,O2))(h3:q=true->bm (r.ev Q ce) (λv=>fr v) O2=some (.ok u,O3))(h4:q=false->O3=O2):
  dE r ce Q tg bi t O=some (.ok (cond q (some u) none),O3):=by
 unfold dE;refine a0 (az h1) (rwm _ ?_ (az h2))
 cases q with
 |false=>refine rwm _ ?_ (h4 rfl);rfl
 |true=>
  have:=h3 rfl;show bm (r.ev Q ce) (λv=>bm (fr v) λu=>pm (some u)) O2=_;refine rwm _ (rwm _ ?_ (az this)) (show bm (r.ev Q ce) (λv=>bm (fr v) λu=>pm (some u))=bm (bm (r.ev Q ce) λv=>fr v) λu=>pm (some u) from dw.symm);rfl
end
end Internal
end
noncomputable section
namespace Internal
open PySem PySem.W PySem.Calls PyProof.Rows
section
variable {α β γ δ:Type}{P:α->Prop}(w:α){a:α}
@[elab_as_elim] theorem oE{f:β->α}(h:w=a\/∃b,w=f b)(k:P a)(U:∀b,P (f b)):P w:=by
 (refine a2 h (λzz=>?_) (λzz=>?_);(try clear h);subst zz;rotate_left;(try clear h);refine ag zz λb bo=>?_;clear zz;subst bo;rotate_right)
 .exact k
 .exact U b
@[elab_as_elim] theorem Lf{f:β->γ->α}(h:w=a\/∃b c,w=f b c)(k:P a)(U:∀b c,P (f b c)):P w:=by
 (refine a2 h (λzz=>?_) (λzz=>?_);(try clear h);subst zz;rotate_left;(try clear h);refine aq zz λb c cr=>?_;clear zz;subst cr;rotate_right)
 .exact k
 .exact U b c
@[elab_as_elim] theorem cW{f:β->γ->δ->α}(h:w=a\/∃b c d,w=f b c d)(k:P a)(U:∀b c d,P (f b c d)):P w:=by
 (refine a2 h (λzz=>?_) (λzz=>?_);(try clear h);subst zz;rotate_left;(try clear h);refine a9 zz λb c d bo=>?_;clear zz;subst bo;rotate_right)
 .exact k
 .exact U b c d
@[elab_as_elim] theorem nw{f:β->α}{g:γ->δ->α}(h:w=a\/(∃b,w=f b)\/∃b c,w=g b c)(k:P a)(U:∀b,P (f b))(k2:∀b c,P (g b c)):P w:=by
 rcases h with rfl|⟨b,rfl⟩|⟨b,c,rfl⟩
 .exact k
 .exact U b
 .exact k2 b c
end
section
variable {c:aN}{n:Nat}{e:AE}{O E O2 O3:af}{P:bt}{r:aG}
theorem Lg{m:MM V}(h2:x=some (some (.ok t,[])))(h:m O=m9 P r a be ⟨[],[]⟩ x O):m O=some (.ok (.t t),O):=h.trans (by refine rwm _ ?_ h2;rfl)
theorem jK(a:Addr)(h2:c a as []=some (some (.ok t,[])))(h:(R c (n+2)).ev (.Call f be [] c4) e O=m9 (Pc c) (R c n) a as ⟨[],[]⟩ (c a as []) O):
  (R c (n+2)).ev (.Call f be [] c4) e O=some (.ok (.t t),O):=Lg h2 h
theorem pg(h3:fO x y=some q)(h:r.test t e O=om (fO x y) O):r.test t e O=some (.ok q,O):=h.trans (by refine rwm _ ?_ h3;rfl)
theorem Bh(h3:fO x y=some q)(h:r.test t e O=om ((fO x y).map (!·)) O):r.test t e O=some (.ok (!q),O):=h.trans (by refine rwm _ ?_ h3;rfl)
theorem Lh{N:List (aj×T)}(hk:cE it=some f)(hf:N.length<1000)(h:r.as tg e (.t t) O=lS (.dict N) k it t O):r.as tg e (.t t) O=some (.ok (),O.set k (.dict (bj N f t))):=by
 refine a0 h ?_;show bm (om (cE it)) (λf=>if aJ (N.length+1) then put k (.dict (bj N f t)) else λ_=>none) O=_;refine rwm _ ?_ hk;show(if aJ (N.length+1) then put k (.dict (bj N f t)) else λ_=>none:MM Unit) O=_;refine rwm _ (rwm _ ?_ (ec rfl)) (eY (lB hf rfl));rfl
set_option tactic.hygienic true in
def Bi(i:Nat)(U:List T)(u:T):MM Fl:=λO=>match(if aJ (U.length+1) then bm (put i (.list (U++[u]))) λ_=>pm (V.t .none) else λ_=>none:MM V) O with
 |some (.ok _,O)=>some (.ok .next,O)
 |some (.error c,O)=>some (.error c,O)
 |none=>none
set_option tactic.hygienic true in
theorem Li{U:List T}(h2:U.length<1000)(h3:O.set i (.list (U++[u]))=O3)(h:r.ex s e O=Bi i U u O):r.ex s e O=some (.ok .next,O3):=by
 refine a0 h ?_;unfold Bi;refine rwm _ (rwm _ (rwl _ ?_ h3) (ec rfl)) (eY (lB h2 rfl));rfl
def vH(c:aN)(a:Addr)(be:List V)(O:af):Option (AE×List Stmt×af):=
 (cond ((iO O be ⟨[],[]⟩).all λz=>(c a z.1 z.2.S).isNone) ((Pc c).fns a) none).bind λfi=>(cond (pe fi.st) (d8 (fj fi.st).args be fi.dfl) none).bind λH=>match kF (aV fi.st) fi.qual fi.code H O with
  |some (.ok e,E)=>some (e,ba fi.st,E)
  |_=>none
theorem Bj{α:Type}{b:Bool}{x:Option α}{y:α}(h:cond b x none=some y):b=true/\x=some y:=by
 cases b
 .exact nso h
 .exact⟨rfl,h⟩
theorem Bk(h:vH c a be O=some (e,b,E)):(R c (n+1)).call (.t (.top a)) be O=bm (eu (R c n) b e) (λv=>fw O.length v) E:=by
 refine al (Option.bind_eq_some_iff.mp h) λfi h1 h=>ac (Bj h1) λhn hf=>al (Option.bind_eq_some_iff.mp h) λH h1 h=>ac (Bj h1) λhs hb=>?_;clear h1;rcases fi with⟨st,q,d,c6⟩;have ht:fT (Pc c) (R c n) a be O=ik (Pc c) (R c n) a be O:=by
  unfold fT
  cases hp:iO O be ⟨[],[]⟩ with
  |none=>rfl
  |some z=>
   rcases z with⟨as,p⟩;rw[hp] at hn;have hn:=Option.isNone_iff_eq_none.mp hn;show m9 (Pc c) (R c n) a be p (c a as p.S) O=_;refine rwm _ ?_ hn;rfl
 cases he:kF (aV st) q c6 H O with
 |none=>rw[he] at h;exact nso h
 |some p=>
  rw[he] at h;rcases p with⟨x,O2⟩
  cases x with
  |error C=>exact nso h
  |ok e'=>
   cases h;exact vF ht hf hs hb he
theorem dU(h:vH c a be O=some (e,b,E))(hr:aR (R c n) e b E=some (.ok (.ret v),O2))(hl:fw O.length v O2=some (.ok v',O3)):
  (R c (n+1)).call (.t (.top a)) be O=some (.ok v',O3):=by
 exact rwm _ (rwm _ (rwm _ rfl hl) (az (show eu (R c n) b e E=some (.ok v,O2) by unfold eu;refine a0 (az hr) ?_;rfl))) (Bk h)
theorem rJ(h:vH c a be O=some (e,b,E))(hr:aR (R c n) e b E=some (.error C,O2)):(R c (n+1)).call (.t (.top a)) be O=some (.error C,O2):=by
 refine a0 (Bk h) ?_;unfold eu bm;exact rwm _ rfl hr
theorem gp(h4:dD (i3 (R c n) e tg j O2.length) U O2=B)(h:(R c (n+1)).ex (.For tg it j [] p) e O=dD (i3 (R c n) e tg j O2.length) U O2):(R c (n+1)).ex (.For tg it j [] p) e O=B:=h.trans h4
def rL(e:AE)(tg x:Expr):Bool:=noStar tg&&ig x&&(fS e tg x).any (·.isNone)
set_option tactic.hygienic true in
theorem nx(h:rL e tg x=true)(h1:(R c n).ev x e O=some (.ok v,E))(h2:(R c n).as tg e v E=some (.ok (),O2)):(R c (n+1)).ex (.Assign [tg] x p) e O=some (.ok .next,O2):=by
 unfold rL at h;rw[Bool.and_eq_true,Bool.and_eq_true] at h;(refine ac h λc7 hw=>?_;clear h;rcases c7 with⟨hs,hx⟩);refine pd hs ?_;have e1:ij (R c n) e tg x=bm ((R c n).ev x e) λv=>lT (R c n) e tg v (fS e tg x):=by
  cases x<;>first|rfl|exact ftf hx
 refine rwm _ (rwm _ ?_ (az h1)) e1
 cases hq:fS e tg x with
 |none=>rw[hq] at hw;exact ftf hw
 |some o=>
  rw[hq] at hw
  cases o with
  |none=>exact h2
  |some l=>exact ftf hw
theorem l5{F:T->MM (Option T)}(hc:bZ F U [] (O2++[.ns false []])=some (.ok be,O3))(h5:O3[O2.length]? =some (.ns false N))(G:bP (.list be) (trunc O2.length (O3.set O2.length .dead))=some (.ok v,O4))
  (h:X=mY O2.length O2.length (bZ F U [] (O2++[.ns false []]))):X=some (.ok v,O4):=by
 refine a0 h (rwm _ ?_ hc);show oN O3[O2.length]? (ug O2.length O2.length (.ok be) O3)=_;refine rwm _ ?_ h5;exact G
theorem Lj(h4:dR t it=some u)(h:r.ev x e O=om ((dR t it).map .t) O):r.ev x e O=some (.ok (.t u),O):=h.trans (by refine rwm _ ?_ h4;rfl)
theorem Lk(h1:(R c n).test a e O=some (.ok true,O))(h2:(R c n).test b e O=some (.ok q,O)):(R c (n+1)).test (.BoolOp .And [a,b] p) e O=some (.ok q,O):=rF h1 (l0 h2)
set_option tactic.hygienic true in
theorem l7{N:List (aj×T)}(hf:N.length<1000)(h:rL e tg x=true)(h1:(R c n).ev x e O=some (.ok (.t t),O))(hk:cE it=some f)(h2:(R c n).as tg e (.t t) O=lS (.dict N) k it t O):
  (R c (n+1)).ex (.Assign [tg] x p) e O=some (.ok .next,O.set k (.dict (bj N f t))):=nx h h1 (Lh hk hf h2)
theorem l8(h:(R c n).test t e O=some (.ok true,O))(h2:aR (R c n) e a O=B):(R c (n+1)).ex (.If t a b p) e O=B:=rE h h2
theorem l9(h:(R c n).test t e O=some (.ok false,O))(h2:aR (R c n) e b O=B):(R c (n+1)).ex (.If t a b p) e O=B:=rE h h2
theorem Ll(h1:(R c n).test a e O=some (.ok false,O)):(R c (n+1)).test (.BoolOp .And (a::l) p) e O=some (.ok false,O):=Bc h1 rfl
set_option tactic.hygienic true in
theorem vI(h:rL e tg x=true)(h1:(R c n).ev x e O=some (.ok v,O))(h2:(R c n).as tg e v O=some (.ok (),O2)):(R c (n+1)).ex (.Assign [tg] x p) e O=some (.ok .next,O2):=nx h h1 h2
theorem ny(h:r.ev a e O=some (.ok v,O))(h2:a8 r e l O=some (.ok vs,O)):a8 r e (a::l) O=some (.ok (v::vs),O):=bx h h2
end
noncomputable def nz(q:Option (Except Addr V×af)):cF:=match q with
 |some (.error C,X)=>some (some (.error C,X))
 |some (.ok (.t u),X)=>some (some (.ok u,X))
 |_=>none
theorem vJ{rc:aG}{q:Except Addr T×af}(hl:LC be bi)(h:nz (rc.call (.t (.top a)) bi O)=some (some q)):gl rc a be O q:=by
 refine⟨bi,O,?_⟩
 cases e:rc.call (.t (.top a)) bi O with
 |none=>rw[e] at h;exact nso h
 |some p=>
  rw[e] at h;clear e;rcases p with⟨x,X⟩
  cases x with
  |error C=>have h:=ai (ai h);subst h;exact⟨_,hl,SC.refl _,rfl,rfl,SC.refl _⟩
  |ok v=>
   cases v with
   |t u=>have h:=ai (ai h);subst h;exact⟨_,hl,SC.refl _,rfl,TC.refl _,SC.refl _⟩
   |own i=>exact nso h
noncomputable def Bl{α:Type}(x:α):α:=Classical.choose (⟨x,rfl⟩:∃y,y=x)
theorem Bm{α:Type}(x:α):Bl x=x:=Classical.choose_spec (⟨x,rfl⟩:∃y,y=x)
def br(c:aN)(n:Nat)(a:Addr)(be:List V)(O:af):Option (Except Addr V×af):=(R c n).call (.t (.top a)) be O
def rK(c:aN)(n:Nat)(a:Addr):b8:=λbe O=>Bl (nz (br c n a be O))
theorem nB{c:aN}(h:br c n a be O=some (.ok (.t u),X)):rK c n a be O=yes u X:=(Bm _).trans (by refine rwm _ ?_ h;rfl)
theorem aC.addK{c d:aN}(h:aC c b)(hd:aC d k)(hk:b+n<=k):aC (bp a (rK c n a) d) k:=
 aC.add h hd hk λbe O q h hv ho=>vJ (LC.refl _) ((Bm _).symm.trans h)
end Internal
end
noncomputable section
set_option maxHeartbeats 200000
namespace Internal
open PySem PySem.W PySem.Calls PyProof.Rows
def ah.all(D:ah):List Int:=D.order++D.more [D.k]
def ah.headT(D:ah):T:= .dict [(.str (aA "OCGs"),.list ((D.order++D.more [D.k]).map ao)),(.str (aA "D"),.dict D.firstT)]
def ah.labN(D:ah)(n:Int):List UInt8:=if D.st=2/\n=D.k then cj else gM ((n - 10).toNat/3)
theorem Lm(D:ah):(R av 60).call (.t (.top 479)) [.t D.tree] []=some (.ok (.t D.headT),[]):=by lk
abbrev au(D:ah):V:= .t (.box (.doc D) D.tree)
theorem gq{α β:Type}{f g:α->β}{l:List α}(h:l.map f=l.map g){a:α}(ha:a∈l):f a=g a:=List.map_inj_left.mp h a ha
noncomputable def i4:List (Nat×Nat):=[(1,0),(2,0),(2,1),(3,0),(3,1),(3,2),(4,0),(4,1),(4,2),(4,3)]
noncomputable def jL:List (Nat×Nat):=[0,1,2,3,4].flatMap λm=>[0,1,2,3,4,5,6,7,8].map λj=>(m,j)
theorem Bn(h:i<m)(hm:m<=4):(m,i)∈i4:=(by decide+kernel:∀m,m<=4->∀i,i<m->(m,i)∈i4) m hm i h
theorem Bo(h:j<9)(hm:m<=4):(m,j)∈jL:=(by decide+kernel:∀m,m<=4->∀j,j<9->(m,j)∈jL) m hm j h
theorem i7:n∈aQ m↔∃i:Nat,i<m/\n=10+3*(i:Int):=by
 unfold aQ;simp only[List.mem_map,List.mem_range];exact⟨λ⟨i,h,e⟩=>⟨i,h,e.symm⟩,λ⟨i,h,e⟩=>⟨i,h,e.symm⟩⟩
theorem i8{D:ah}:n∈D.order↔n∈aQ D.m:=by
 unfold ah.order;cases D.rev<;>simp
theorem Bp{D:ah}(h:D.Wf)(hn:n∈D.all):(∃i:Nat,(D.m,i)∈i4/\n=10+3*(i:Int))\/(D.st=2/\∃j:Nat,(D.m,j)∈jL/\n=D.k/\D.k=23+(j:Int)):=by
 unfold ah.all at hn;(refine bc λno=>a2 (qs.mp hn) (λhn=>?_) (λhn=>?_);refine no ?_;clear no;rotate_left;refine no ?_;clear no;rotate_right)
 .refine al (i7.mp (i8.mp hn)) λi h1 h2=> .inl ⟨i,Bn h1 h.m,h2⟩
 .have cp:D.st=2:=by
   have:=h.st;unfold ah.more at hn;rcases hs:D.st with _|_|_|s
   .rw[hs] at hn;cases hn
   .rw[hs] at hn;cases hn
   .rfl
   .exact Fn this hs
  have hk:=h.k cp;unfold ah.more at hn;rw[cp] at hn;have hn:n=D.k:=by simpa using hn
  exact .inr ⟨cp,(D.k - 23).toNat,Bo (xh hk) h.m,hn,xi hk⟩
theorem Ln(rev:Bool)(b:Nat)(x y z:List Int)(B:List (List Int))(st:Nat)(k:Int):i4.map (λp=>br av 60 465 [au ⟨p.1,rev,b,x,y,z,B,st,k⟩,.t (ao (10+3*(p.2:Int)))] [])=
  i4.map λ_=>some (.ok (.t (.bool true)),[]):=by lk
theorem Lp(rev:Bool)(b:Nat)(x y z:List Int)(B:List (List Int)):jL.map (λp=>br av 60 465 [au ⟨p.1,rev,b,x,y,z,B,2,23+(p.2:Int)⟩,.t (ao (23+(p.2:Int)))] [])=
  jL.map λ_=>some (.ok (.t (.bool true)),[]):=by lk
theorem Lq(rev:Bool)(b:Nat)(x y z:List Int)(B:List (List Int))(st:Nat)(k:Int):i4.map (λp=>br av 60 493 [au ⟨p.1,rev,b,x,y,z,B,st,k⟩,.t (.int (10+3*(p.2:Int)))] [])=
  i4.map λp=>some (.ok (.t (.bytes (gM p.2).toArray)),[]):=by lk
theorem Lr(rev:Bool)(b:Nat)(x y z:List Int)(B:List (List Int)):jL.map (λp=>br av 60 493 [au ⟨p.1,rev,b,x,y,z,B,2,23+(p.2:Int)⟩,.t (.int (23+(p.2:Int)))] [])=
  jL.map λ_=>some (.ok (.t (.bytes cj.toArray)),[]):=by lk
theorem Ls{D:ah}(h:D.Wf)(hn:n∈D.all):br av 60 465 [au D,.t (ao n)] []=some (.ok (.t (.bool true)),[]):=by
 (refine a2 (Bp h hn) (λzz=>?_) (λzz=>?_);refine ag zz λi c1=>ac c1 λh1 bo=>?_;clear c1;clear hn;subst bo;rotate_left;refine ac zz λcp c3=>ag c3 λj bi=>aw bi λh1 bo h2=>?_;clear bi;clear hn zz c3;subst bo;rotate_right)
 .rcases D with⟨m,rev,b,x,y,z,B,st,k⟩;have q:=gq (Ln rev b x y z B st k) h1;dsimp only at q;exact q
 .rcases D with⟨m,rev,b,x,y,z,B,st,k⟩;cases cp;cases h2;have q:=gq (Lp rev b x y z B) h1;dsimp only at q;exact q
theorem Lu{D:ah}(h:D.Wf)(hn:n∈D.all):br av 60 493 [au D,.t (.int n)] []=some (.ok (.t (.bytes (D.labN n).toArray)),[]):=by
 have hw:=h;(refine a2 (Bp h hn) (λzz=>?_) (λzz=>?_);refine ag zz λi c1=>ac c1 λh1 bo=>?_;clear c1;clear hn;subst bo;rotate_left;refine ac zz λcp c3=>ag c3 λj bi=>aw bi λh1 bo h2=>?_;clear bi;clear hn zz c3;subst bo;rotate_right)
 .have e:D.labN (10+3*(i:Int))=gM i:=by
   unfold ah.labN;have hi:i<4:=by
    have:=h1;unfold i4 at this;simp only[List.mem_cons,Prod.mk.injEq,List.not_mem_nil,or_false] at this;exact Fo this
   rw[if_neg (λhc=>by have:=h.k hc.1;exact Fp hi hc this)];exact rwm _ rfl Fq
  refine rwm _ ?_ e;rcases D with⟨m,rev,b,x,y,z,B,st,k⟩;have q:=gq (Lq rev b x y z B st k) h1;dsimp only at q;exact q
 .have e:D.labN D.k=cj:=by unfold ah.labN;exact rwm _ rfl (ec ⟨cp,rfl⟩)
  refine rwm _ ?_ e;rcases D with⟨m,rev,b,x,y,z,B,st,k⟩;cases cp;cases h2;have q:=gq (Lr rev b x y z B) h1;dsimp only at q;exact q
open Classical in
def gu(p:Prop)(a:cF):cF:=if p then a else none
set_option tactic.hygienic true in
theorem iq{p:Prop}{a:cF}{q:Except Addr T×af}(h:gu p a=some (some q)):p/\a=some (some q):=by
 unfold gu at h
 split at h
 .rename_i hp;exact⟨hp,h⟩
 .exact nso h
theorem fW{p:Prop}{a:cF}(h:p):gu p a=a:=ec h
theorem Lv{D:ah}(h:cN (.t (.box (.doc D) t))):D.Wf/\t=D.tree:=(kq (ku h)).1
def i9{α:Type}(v:V)(f:ah->Option α):Option α:=aT v λt=>j9 t λg _=>tU g f
@[elab_as_elim] theorem jM{α:Type}{q:α}{f:ah->Option α}{P:V->Prop}(h:i9 v f=some q)(s:cN v)(k:∀D:ah,D.Wf->f D=some q->P (.t (.box (.doc D) D.tree))):P v:=by
 revert s;refine bY h λt h=>jp h λg X h=>xO h λD h s=>ac (Lv s) λhw e=>?_;clear s;subst e;exact k D hw h
def Bq:b8:=iZ λx O=>nl O (i9 x λD=>yes D.headT [])
theorem Lw:cG (R av 60) 479 Bq:=jG λx O q h s _=>bT h λh=>jM h s λD hw h=>by
 cases h;exact⟨[.t D.tree],[],_,⟨TC.unbox (TC.refl _),trivial⟩,trivial,Lm D,TC.refl _,trivial⟩
theorem Lx{D:ah}(h:D.Wf)(hn:n∈D.all):rK av 60 465 [au D,.t (ao n)] []=yes (.bool true) []:=nB (Ls h hn)
theorem Br{D:ah}(h:D.Wf)(hn:n∈D.all):rK av 60 493 [au D,.t (.int n)] []=yes (.bytes (D.labN n).toArray) []:=nB (Lu h hn)
def k1:aN:=bp 479 Bq (bp 465 (rK av 60 465) (bp 493 (rK av 60 493) (bp 624 kx av)))
theorem vK:cG (R av 30) 624 kx:=λbe O q h hv ho=>KO 624 be O q h ho
theorem Bs:aC k1 60:=aC.add aC.start (aC.addK aC.start (aC.addK aC.start (aC.add aC.start (aC.mono aC.start (i1 _)) (by decide) vK) (by decide)) (by decide)) (by decide) Lw
noncomputable def dW(x:Int)(l:List Int):Bool:=l.any λa=>decide (a=x)
theorem nC(x:Int)(l:List Int):fO (.int x) (ak l)=some (dW x l):=by
 show gf (.int x) (l.map T.int)=_
 induction l with
 |nil=>rfl
 |cons a l ih=>
  show(match dP (.int a) (.int x),gf (.int x) (l.map T.int) with
   |some p,some q=>some (p||q)
   |_,_=>none)=_
  refine rwm _ ?_ ih;rfl
theorem rM(h:x∉l):dW x l=false:=by
 unfold dW;rw[List.any_eq_false];intro a ha;simp;intro e;subst e;exact h ha
theorem Bt(h:x∈l):dW x l=true:=by
 unfold dW;rw[List.any_eq_true];exact⟨x,h,by simp⟩
def vL:AE:=⟨aV (at_ 35),0,[],S "groups_in"++nm ".<locals>.",471⟩
def jN(D:ah)(X:T)(w:List (Str×V))(l:List Int):af:=[.ns true ([(S "shelf",au D),(S "items",.t X),(S "found",.own 1)]++w),.list (l.map T.int)]
noncomputable def bE(f:Int->T)(n:Str)(A:List Int):List (Str×V):=match A.getLast? with
 |none=>[]
 |some a=>[(n,.t (f a))]
theorem nD(f:Int->T)(n:Str)(A:List Int)(a:Int):bE f n (A++[a])=[(n,.t (f a))]:=by unfold bE;exact rwm _ rfl (p6)
theorem ir(f:Int->T)(n:Str)(A:List Int):bE f n A=[]\/∃a,bE f n A=[(n,.t (f a))]:=by
 unfold bE
 cases A.getLast? with
 |none=>exact .inl rfl
 |some a=>exact .inr ⟨a,rfl⟩
set_option tactic.hygienic true in
theorem kQ(d:Int->T)(I:List Int->af)(F:T->MM Fl)(l:List Int)(H:∀A a B,l=A++a::B->F (d a) (I A)=some (.ok .next,I (A++[a]))):dD F (l.map d) (I [])=some (.ok .next,I l):=by
 have e:∀(l s:List Int),l.foldl (λs a=>s++[a]) s=s++l:=λl=>by
  induction l with
  |nil=>intro s;simp
  |cons a l ih=>intro s;rw[List.foldl_cons,ih];simp
 have h:=Bf d I (λs a=>s++[a]) F l [] λA a B q=>by
  rw[e];exact H A a B q
 rw[e] at h;exact h
theorem ph{l:List Int}(h:l.Nodup)(e:l=A++a::B):a∉A:=by
 rw[e,List.nodup_append] at h;intro ha;exact h.2.2 a ha a (.head _) rfl
def dx:Stmt->Expr
 | .For t _ _ _ _=>t
 |_=>g7
noncomputable def dy:Stmt->List Stmt
 | .For _ _ b _ _=>b
 |_=>[]
def cz(c:aN)(n:Nat)(a:AE)(s:Stmt)(k:Nat):T->MM Fl:=i3 (R c n) a (dx s) (dy s) k
theorem ek{O:af}(h:O.length<=k):trunc k O=O:=by
 unfold trunc;refine rwm _ ?_ (si h)
 split<;>rfl
theorem vM(h1:vw v O=some x)(h2:vw u O=some y)(h3:fO x y=some b):dQ .NotIn v u O=some (.ok (!b),O):=by
 show bm (aE v) (λx=>bm (aE u) λy=>om (gR .NotIn x y)) O=_;refine a0 (az (show aE v O=some (.ok x,O) by unfold aE;exact rwm _ rfl h1)) (rwm _ ?_ (az (show aE u O=some (.ok y,O) by unfold aE;exact rwm _ rfl h2)));show om ((fO x y).map (!·)) O=_;refine rwm _ ?_ h3;rfl
theorem vN(h1:vw v O=some x)(h2:vw u O=some y)(h3:fO x y=some b):dQ .In v u O=some (.ok b,O):=by
 show bm (aE v) (λx=>bm (aE u) λy=>om (gR .In x y)) O=_;refine a0 (az (show aE v O=some (.ok x,O) by unfold aE;exact rwm _ rfl h1)) (rwm _ ?_ (az (show aE u O=some (.ok y,O) by unfold aE;exact rwm _ rfl h2)));show om (fO x y) O=_;refine rwm _ ?_ h3;rfl
theorem Bu{O M:af}{U:List T}(h1:O[i]? =some (.list U))(h2:U.length<1000)(h3:O.set i (.list (U++[t]))=M):iM 5 (.own i) [.t t] O=some (.ok (.t .none),M):=by
 show bm (bw i) (λQ O=>tZ Q λys=>(if aJ (ys.length+1) then bm (put i (.list (ys++[t]))) λ_=>pm (V.t .none) else λ_=>none:MM V) O) O=_;refine a0 (az (show bw i O=some (.ok (.list U),O) by unfold bw;exact rwm _ rfl h1)) ?_;show(if aJ (U.length+1) then bm (put i (.list (U++[t]))) λ_=>pm (V.t .none) else λ_=>none:MM V) O=_;refine rwm _ (rwm _ (rwl _ ?_ h3) (ec rfl)) (eY (lB h2 rfl));rfl
def pi:Stmt:=an (ba (at_ 35)) 1
set_option tactic.hygienic true in
theorem Ly{D:ah}{A:List Int}(h:D.Wf)(ha:a∈D.all)(hp:a∉A)(hl:A.length<100):cz k1 38 vL pi 2 (ao a) (jN D X (bE ao (S "item") A) A)=some (.ok .next,jN D X (bE ao (S "item") (A++[a])) (A++[a])):=by
 rw[nD];have hw:=ir ao (S "item") A;generalize bE ao (S "item") A=w at hw;have h1:(R k1 38).as (dx pi) vL (.t (ao a)) (jN D X w A)=some (.ok (),jN D X [(S "item",.t (ao a))] A):=by
  refine oE w hw ?_ λb=>?_<;>lk
 refine(dJ (O2:=jN D X [(S "item",.t (ao a))] (A++[a])) h1 (bv (jJ (rF (rG (jK 465 (Lx h ha) ?_) rfl)
  (l0 (Bh (x:= .int a) (y:=ak A) (q:=false) (by rw[nC,rM hp]) ?_))) (bv (Li (i:=1) (U:=A.map T.int) (u:= .int a) (by rw[List.length_map];exact lB hl rfl) ?_ ?_))))).trans ?_
 .lk
 .lk
 .unfold jN;refine rwm _ ?_ i6;rfl
 .lk
 .exact rwm _ rfl (ek (hY 2))
theorem Lz{D:ah}{ns:List Int}(h:D.Wf)(hn:ns.Nodup)(ha:∀n∈ns,n∈D.all)(hl:ns.length<100):br k1 40 472 [au D,.t (aK ns)] []=some (.ok (.t (ak ns)),[]):=by
 refine dU (e:=vL) (b:=ba (at_ 35)) (E:=[.ns true [(S "shelf",au D),(S "items",.t (aK ns))]]) (O2:=jN D (aK ns) (bE ao (S "item") ns) ns) (v:= .own 1) (by lk) ?_ rfl;refine aW (E:=jN D (aK ns) [] []) ?_ (aW (gp (kQ ao (λA=>jN D (aK ns) (bE ao (S "item") A) A) _ ns λA a B e=>Ly h (ha a (by refine rwm _ ?_ e;simp)) (ph hn e) (by rw[e] at hl;simp at hl;exact qd hl)) ?_) (ci ?_))
 .lk
 .lk
 .have hw:=ir ao (S "item") ns;generalize bE ao (S "item") ns=w at hw;refine oE w hw ?_ λb=>?_<;>lk
theorem VC.ofEq(h:t=u):VC (.t t) (.t u):=by subst h;exact TC.refl _
def k2:aN:=bp 472 (rK k1 40 472) k1
theorem vO:aC k2 100:=aC.addK Bs (Bs.mono (by decide)) (by decide)
theorem Bv{D:ah}{ns:List Int}(h:D.Wf)(hn:ns.Nodup)(ha:∀n∈ns,n∈D.all)(hl:ns.length<100):rK k1 40 472 [au D,.t (aK ns)] []=yes (ak ns) []:=nB (Lz h hn ha hl)
theorem vP(m:Nat):(aQ m).Nodup:=by
 unfold aQ;have h:List.Pairwise (λ(a b:Nat)=>a≠b) (List.range m):=List.nodup_range;exact List.pairwise_map.mpr (h.imp λ{a b} z e=>z (wY e))
theorem kR(D:ah):D.order.Nodup:=by
 unfold ah.order;cases D.rev
 .exact vP _
 .exact List.pairwise_reverse.mpr (List.Pairwise.imp (λ{a b}(z:a≠b)=>z.symm) (vP _))
theorem gv(D:ah):D.order.length=D.m:=by
 unfold ah.order;cases D.rev<;>simp [aQ]
theorem jO{D:ah}(h:D.Wf)(hn:n∈D.order):10<=n/\n<=19:=by
 refine al (i7.mp (i8.mp hn)) λi h1 h2=>?_;have:=h.m;exact Ej h1 h2 this
theorem rN(h:n<=2):n=0\/n=1\/n=2:=(by decide+kernel:∀n,n<=2->n=0\/n=1\/n=2) n h
theorem vQ{D:ah}(h:D.Wf):D.st=0\/D.st=1\/D.st=2:=rN h.st
theorem ja{D:ah}(h:D.st=0\/D.st=1):D.all=D.order:=by
 unfold ah.all ah.more;rcases h with h|h<;>refine rwm _ ?_ h<;>exact List.append_nil _
theorem rO{D:ah}(h:D.st=2):D.all=D.order++[D.k]:=by unfold ah.all ah.more;refine rwm _ ?_ h;rfl
theorem ma{D:ah}(h:D.Wf):D.all.Nodup:=by
 rcases vQ h with e|e|e
 .refine rwm _ ?_ (ja (.inl e));exact kR D
 .refine rwm _ ?_ (ja (.inr e));exact kR D
 .rw[rO e,List.nodup_append];refine⟨kR D,by simp,λa ha b hb=>?_⟩;have h1:=jO h ha;have h2:=h.k e;simp at hb;exactλz=>xn h2 h1 (z.trans hb)
theorem jP{D:ah}(h:D.Wf):D.all.length<=5:=by
 have:=h.m;rcases vQ h with e|e|e
 .rw[ja (.inl e),gv];exact l4 this
 .rw[ja (.inr e),gv];exact l4 this
 .rw[rO e,List.length_append,gv];simp;exact lB this rfl
theorem vR{D:ah}(h:D.Wf)(hn:n∈D.all):10<=n/\n<=31:=by
 rcases vQ h with e|e|e
 .rw[ja (.inl e)] at hn;have:=jO h hn;exact tx this
 .rw[ja (.inr e)] at hn;have:=jO h hn;exact tx this
 .rw[rO e] at hn;(refine bc λno=>a2 (qs.mp hn) (λhn=>?_) (λhn=>?_);refine no ?_;clear no;rotate_left;refine no ?_;clear no;rotate_right)
  .have:=jO h hn;exact tx this
  .simp at hn;have:=h.k e;exact Ek hn this
theorem rP{D:ah}(hs:eR D.m ns):∀n∈ns,n∈D.all:=λn hn=>List.mem_append_left _ (i8.mpr (hs.2 n hn))
theorem rQ{D:ah}(h:D.Wf){ns:List Int}(hs:eR D.m ns):ns.length<100:=by
 have:=ry hs.1 hs.2;rw[rz] at this;exact lC (a6 this h.m) rfl
noncomputable def ah.sh{α:Type}(F:ah->α)(m:Nat)(rev:Bool)(b:Nat)(on:List Int)(a:Int)(l lk:List Int)(rows:List (List Int))(k:Int):List α:=
 let G:=λ(b st:Nat)(off:List Int)=>F ⟨m,rev,b,on,off,lk,rows,st,k⟩
 [G 0 0 l,G 1 0 l,G 2 0 l,G b 1 [],G b 1 (a::l),G b 2 [],G b 2 (a::l)]
theorem ah.two{α:Type}{F G:ah->α}(D:ah)(hs:D.st<=2)(hb:D.base<=2)(e:ah.sh F=ah.sh G):F D=G D:=by
 rcases D with⟨m,rev,b,on,off,lk,rows,st,k⟩;have e:=λ(a:Int)(l:List Int)(i:Nat)=>hS (λx:List α=>x[i]?) (p7 (p7 (p7 (p7 (p7 (p7 (p7 (p7 (p7 e m) rev) b) on) a) l) lk) rows) k);rcases rN hs with rfl|rfl|rfl
 .clear hs;rcases rN hb with rfl|rfl|rfl
  .exact ai (e 0 off 0)
  .exact ai (e 0 off 1)
  .exact ai (e 0 off 2)
 .cases off with
  |nil=>exact ai (e 0 [] 3)
  |cons a l=>exact ai (e a l 4)
 .cases off with
  |nil=>exact ai (e 0 [] 5)
  |cons a l=>exact ai (e a l 6)
theorem ah.twoW{α:Type}{F G:ah->α}(D:ah)(h:D.Wf)(e:ah.sh F=ah.sh G):F D=G D:=ah.two D h.st h.base e
def ah.sh3{α:Type}(F:ah->α):=(ah.sh λD=>F {D with rows:=[]},ah.sh λD a=>F {D with rows:=[a]},ah.sh λD a b=>F {D with rows:=[a,b]})
theorem ah.two3{α:Type}{F G:ah->α}(D:ah)(h:D.Wf)(e:ah.sh3 F=ah.sh3 G):F D=G D:=by
 rcases D with⟨m,rev,b,on,off,lk,rows,st,k⟩;have hf:rows.length<=2:=h.few;rcases rows with _|⟨x,_|⟨y,_|⟨z,l⟩⟩⟩
 .exact ah.two (F:=λD=>F {D with rows:=[]}) (G:=λD=>G {D with rows:=[]}) ⟨m,rev,b,on,off,lk,[],st,k⟩ h.st h.base (hS Prod.fst e)
 .exact p7 (ah.two (F:=λD a=>F {D with rows:=[a]}) (G:=λD a=>G {D with rows:=[a]}) ⟨m,rev,b,on,off,lk,[],st,k⟩ h.st h.base (hS (λe=>e.2.1) e)) x
 .exact p7 (p7 (ah.two (F:=λD a b=>F {D with rows:=[a,b]}) (G:=λD a b=>G {D with rows:=[a,b]}) ⟨m,rev,b,on,off,lk,[],st,k⟩ h.st h.base (hS (λe=>e.2.2) e)) x) y
 .exact absurd hf (by simp)
def LA:AE:=⟨aV (at_ 37),0,[],S "group_numbers"++nm ".<locals>.",485⟩
def Bw(D:ah):af:=[.ns true [(S "shelf",au D)]]
theorem LB{D:ah}(h:D.Wf):br k2 60 486 [au D] []=some (.ok (.t (ak D.all)),[]):=
 dU (e:=LA) (b:=ba (at_ 37)) (E:=Bw D) (O2:=Bw D) (v:= .t (ak D.all)) (by lk) (ci (eh (jK 472 (Bv h (ma h) (λn hn=>hn) (by have:=jP h;exact lC this rfl)) (by lk)))) rfl
def Bx(rc:aG)(a:Addr)(be:List V)(O:af)(q:Except Addr T×af):Prop:=
 ∃bi M v E t O2 u X,LC be bi/\SC O M/\rc.call (.t (.top a)) bi M=some (.ok v,E)/\fr v E=some (.ok t,O2)/\q=(.ok u,X)/\TC t u/\SC (trunc O.length O2) X
def By(rc:aG)(a:Addr)(f:b8):Prop:=∀be O q,f be O=some (some q)->(∀v∈be,cN v)->(∀Q∈O,eX Q)->Bx rc a be O q
section
variable {J:Program}{b1:Cx}{r g b6:ay}{b2 b4:List Addr}{l:List Env}{A:Around}{n:Nat}{rc:aG}{O M:af}{h:Heap}{s:Shared}
theorem cM.run2(d:aL J b1 b rc){c:Addr->List V->af->Option (Option (Except Addr T×af))}
  (hc:∀a be S q,c a be S=some (some q)->(∀v∈be,cN v)->(∀Q∈S,eX Q)->Bx rc a be S q):cM J b1 b c:=by
 intro A l r g b2 hR a be U S q s e hv S0;(refine mH (hc a be S q e hv.sat λQ hm=>by
  obtain⟨i,hi⟩:=List.mem_iff_getElem?.mp hm;have hl:=(List.getElem?_eq_some_iff.mp hi).1;rw[<-S0.len] at hl;exact⟨_,_,_,_,_,S0.own i Q _ hi (hW hl)⟩) λbi H o E w O2 u j=>?_;refine ag j λX cv=>mI cv λdt ds f1 ft bd k t=>?_;clear cv;clear e j;subst bd)
 have S1:=S0.conv ds
 refine eb (d.call hR (.t (.top a)) bi (.ref a) U rfl (hv.conv dt) H _ s g b2 (.refl _) (.refl _) S1 f1) (λx s' z=>?_) λx s' z=>?_
 ·(refine ch z λg2 m v e1 p S2 hr=>?_;clear z);(have za:=oke e1;clear e1;cases za);refine ch (na 4 o x g2 E _ S2 hr ft) λt' M g3 q3 hg S3 ht=>?_;cases q3;refine cD (S3.trunc S.length) λf S4 h1 h2=>?_;have hl:=S0.len.symm;refine⟨g3,f,u,rfl,⟨p.1,p.2.1.trans hg,?_⟩,S4.conv t,k _ _ _ ht⟩;have:=bu.take_len p.2.2;rw[hl] at h1;exact this.trans h1
 .refine oq z λg2 m c' ex e1 p S2 e2 X=>oee e1
end
theorem aC.add2{c d:aN}{f:b8}(h:aC c b)(hd:aC d k)(hk:b+n<=k)(hr:By (R c n) a f):aC (bp a f d) k:=by
 intro w b7 mb B C;have h1:cM PW (bU w B) (b+n) (λx be O=>cond (Nat.beq x a) (f be O) Option.none):=cM.run2 (rh (C c) (h w b7 mb B C) n) λx be O q e h2 h3=>by
  cases hx:Nat.beq x a with
  |false=>rw[hx] at e;exact nso e
  |true=>
   rw[hx] at e;have:=ii hx;subst this;exact hr be O q e h2 h3
 intro A l r g b2 hR x be U O q s e;unfold bp at e
 cases hx:Nat.beq x a with
 |true=>
  rw[hx] at e;exact h1 (hR.mono hk) x be U O q s (by show(cond (Nat.beq x a) _ _:cF)=_;refine rwm _ ?_ hx;exact e)
 |false=>
  rw[hx] at e;exact hd w b7 mb B C hR x be U O q s e
def Bz:b8:=iZ λx O=>nl O (i9 x λD=>yes (ak D.all) [])
theorem LF:cG (R k2 60) 486 Bz:=jG λx O q h s _=>bT h λh=>jM h s λD hw h=>by
 cases h;exact⟨[au D],[],_,⟨TC.refl _,trivial⟩,trivial,LB hw,TC.refl _,trivial⟩
noncomputable def ah.onL(D:ah):List Int:=match D.st with
 |0=>D.on
 |_=>[]
def ah.baseW(D:ah):Str:=match D.st with
 |0=>match D.base with
  |1=>S "OFF"
  |_=>S "ON"
 |_=>S "ON"
def ah.ordT(D:ah):List T:=match D.st with
 |0=>[]
 |1=>[]
 |_=>[ao D.k]
def eK(D:ah):T:= .inst 515 [(S "base",.str D.baseW),(S "on",ak D.onL),(S "off",ak D.off),(S "radio",.list (D.rows.map ak)),(S "locked",ak D.lk),(S "order",.list D.ordT),(S "words",.list [.str (S "View")])]
def jQ:Stmt->Expr
 | .Assign (t::_) _ _=>t
 |_=>g7
theorem BA{c:aN}(h1:fy (R c n) e Q I sc O=some (.ok v,E))(h2:(R c n).as tg e v E=some (.ok (),O2)):
  ij (R c n) e tg (.ListComp Q I sc p) O=some (.ok (),O2):=by
 show bm (fy (R c n) e Q I sc) (λv=>(R c n).as tg e v) O=_;exact rwm _ (rwm _ rfl h2) (az h1)
theorem BB{c:aN}(h1:fy (R c n) e Q I sc O=B):(R c (n+1)).ev (.ListComp Q I sc p) e O=B:=h1
noncomputable def cO{α:Type}(f:α->T)(n:Str)(A:List α):List (Str×V):=match A.getLast? with
 |none=>[]
 |some a=>[(n,.t (f a))]
theorem BC{α:Type}(f:α->T)(n:Str)(A:List α)(a:α):cO f n (A++[a])=[(n,.t (f a))]:=by unfold cO;exact rwm _ rfl (p6)
theorem BD{α:Type}(f:α->T)(n:Str)(A:List α):cO f n A=[]\/∃a,cO f n A=[(n,.t (f a))]:=by
 unfold cO
 cases A.getLast? with
 |none=>exact .inl rfl
 |some a=>exact .inr ⟨a,rfl⟩
theorem jR{α:Type}(d:α->T)(f:Str)(g:α->Option T)(F:T->MM (Option T))(O:af)(l:List α)(hn:l.length<=1000)
  (H:∀a∈l,∀w,(w=[]\/∃b,w=[(f,V.t (d b))])->F (d a) (O++[.ns false w])=some (.ok (g a),O++[.ns false [(f,.t (d a))]])):
  bZ F (l.map d) [] (O++[.ns false []])=some (.ok (l.filterMap g),O++[.ns false (cO d f l)]):=by
 have:=rI d (λA=>O++[.ns false (cO d f A)]) (λ_ a=>g a) F l [] [] (by simpa using hn) λp a q e=>by
  rw[BC];exact H a (by rw[List.nil_append] at e;refine rwm _ ?_ e;simp) _ (BD d f p)
 rw[Bg] at this;exact this
def nF(D:ah):MO:= .cell (some (au D))
def g8(D:ah):af:=[.ns true [(S "head",.t (.dict D.firstT)),(S "rows",.own 2)],nF D,.list (D.rows.map aK)]
def kT(D:ah):af:=[.ns true [(S "head",.t (.dict D.firstT)),(S "rows",.own 2)],nF D,.fz (.list (D.rows.map aK))]
def iu(D:ah):af:=kT D++[.list (D.rows.map ak)]
def fC:AE:=⟨aV (at_ 41),0,[(S "shelf",1)],S "configuration_of"++nm ".<locals>.",523⟩
def BE:List Stmt:=ba (at_ 41)
noncomputable def a7:Expr->List Expr
 | .Call f l _ _=>f::l
 | .ListComp e [⟨t,i,bi,_⟩] _ _=>e::t::i::bi
 | .BinOp a _ b _=>[a,b]
 | .BoolOp _ l _=>l
 | .UnaryOp _ a _=>[a]
 | .Compare a _ l _=>a::l
 | .Attribute o _ _=>[o]
 | .Subscript o i _=>[o,i]
 | .IfExp c a b _=>[c,a,b]
 | .List l _=>l
 | .Tuple l _ _=>l
 |_=>[]
def bV:Stmt->Expr
 | .Return (some e) _=>e
 | .Assign _ e _=>e
 | .Expr e _=>e
 | .If e _ _ _=>e
 | .For _ e _ _ _=>e
 | .While e _ _ _=>e
 |_=>g7
def gw(k:Nat):Expr:=aY (a7 (bV (an BE 1))) (k+1)
set_option tactic.hygienic true in
theorem LG:ah.sh3 (λD=>(R k2 79).ex (an BE 0) fC [.ns true [(S "head",.t (.dict D.firstT))],nF D])=ah.sh3 λD=>some (.ok .next,g8 D):=by lk
theorem LH:ah.sh (λD=>(R k2 77).ev (gw 0) fC (g8 D))=ah.sh λD=>some (.ok (.t (.str D.baseW)),g8 D):=by lk
theorem LJ:ah.sh (λD=>(R k2 77).ev (gw 5) fC (iu D))=ah.sh λD=>some (.ok (.t (.list D.ordT)),iu D):=by lk
theorem LK:ah.sh (λD=>(R k2 77).ev (gw 6) fC (iu D))=ah.sh λD=>some (.ok (.t (.list [.str (S "View")])),iu D):=by lk
theorem rR{D:ah}{f fp p be}{ns:List Int}(ha:(be.all noStar&&decide (be.length<30))=true)(h1:(R k2 (n+1)).ev (.Name f fp) e O=some (.ok (.t (.top 472)),O))(h2:a8 (R k2 (n+1)) e be O=some (.ok [au D,.t (aK ns)],E))
  (hw:D.Wf)(hn:ns.Nodup)(hs:∀n∈ns,n∈D.all)(hl:ns.length<100):(R k2 (n+2)).ev (.Call (.Name f fp) be [] p) e O=some (.ok (.t (ak ns)),E):=
 aO ha h1 h2 (by lk) (cm rfl (Bv hw hn hs hl) rfl)
theorem rS{D:ah}(h:D.Wf):eR D.m D.onL:=by
 rcases D with⟨m,rev,b,on,off,lk,rows,st,k⟩;cases st
 .exact h.on
 .exact⟨List.nodup_nil,λn hn=>nomatch hn⟩
theorem LL:ah.sh (λD=>a8 (R k2 76) fC (a7 (gw 1)).tail (g8 D))=ah.sh λD=>some (.ok [au D,.t (aK D.onL)],g8 D):=by lk
theorem LM:ah.sh (λD=>a8 (R k2 76) fC (a7 (gw 2)).tail (g8 D))=ah.sh λD=>some (.ok [au D,.t (aK D.off)],g8 D):=by lk
theorem LN:ah.sh (λD=>a8 (R k2 76) fC (a7 (gw 4)).tail (iu D))=ah.sh λD=>some (.ok [au D,.t (aK D.lk)],iu D):=by lk
theorem LP(D:ah)(h:D.Wf):(R k2 77).ev (gw 1) fC (g8 D)=some (.ok (.t (ak D.onL)),g8 D):=
 have q:=ah.twoW D h LL
 rR rfl (by lk) q h (rS h).1 (rP (rS h)) (rQ h (rS h))
theorem LQ(D:ah)(h:D.Wf):(R k2 77).ev (gw 2) fC (g8 D)=some (.ok (.t (ak D.off)),g8 D):=
 have q:=ah.twoW D h LM
 rR rfl (by lk) q h h.off.1 (rP h.off) (rQ h h.off)
theorem LS(D:ah)(h:D.Wf):(R k2 77).ev (gw 4) fC (iu D)=some (.ok (.t (ak D.lk)),iu D):=
 have q:=ah.twoW D h LN
 rR rfl (by lk) q h h.lk.1 (rP h.lk) (rQ h h.lk)
def iw:Expr->Scope
 | .ListComp _ _ sc _=>sc
 | .Lambda _ _ sc _=>sc
 |_=>aV (at_ 0)
noncomputable def kU:Expr->List Expr
 | .ListComp _ [⟨_,_,bi,_⟩] _ _=>bi
 |_=>[]
def jb(e:AE)(x:Expr)(k:Nat):AE:=(eW e (iw x) k).getD e
def cP(c:aN)(n:Nat)(a:AE)(E:Expr)(k:Nat):T->MM (Option T):=dE (R c n) (jb a E k) (aY (a7 E) 0) (aY (a7 E) 1) (kU E)
theorem rT:fr (.t t) O=some (.ok t,O):=rfl
theorem pj{m:MM V}(h:m O=some (.ok (.t t),M)):bm m (λv=>fr v) O=some (.ok t,M):=by refine a0 (az h) ?_;rfl
theorem LT{D:ah}(h:D.Wf)(hs:eR D.m a)(hw:w=[]\/∃b,w=[(S "row",V.t (aK b))]):
  cP k2 76 fC (gw 3) 3 (aK a) (kT D++[.ns false w])=some (.ok (some (ak a)),kT D++[.ns false [(S "row",.t (aK a))]]):=by
 refine kO (q:=true) (E:=kT D++[.ns false [(S "row",.t (aK a))]]) (O2:=kT D++[.ns false [(S "row",.t (aK a))]]) ?_ ?_ (λ_=>?_) (λe=>nomatch e)
 .refine oE w hw ?_ λb=>?_<;>lk
 .lk
 .refine pj (rR ?_ ?_ ?_ h hs.1 (rP hs) (rQ h hs))
  .rfl
  .lk
  .lk
theorem LU(D:ah)(h:D.Wf):(R k2 77).ev (gw 3) fC (g8 D)=some (.ok (.own 3),iu D):=by
 have hc:bZ (cP k2 76 fC (gw 3) 3) (D.rows.map aK) [] (kT D++[.ns false []])=some (.ok (D.rows.map ak),kT D++[.ns false (cO aK (S "row") D.rows)]):=by
  have:=jR aK (S "row") (λa=>some (ak a)) (cP k2 76 fC (gw 3) 3) (kT D) D.rows (by have:=h.few;exact lB this rfl) λa ha w hw=>LT h (h.rows a ha) hw;refine a0 this ?_
  congr 2
  exact rwm _ rfl lt
 exact l5 hc rfl rfl (by lk)
def BF(D:ah):af:=iu D++[.dead,.sh 515 [(S "base",.t (.str D.baseW)),(S "on",.t (ak D.onL)),(S "off",.t (ak D.off)),(S "radio",.own 3),(S "locked",.t (ak D.lk)),(S "order",.t (.list D.ordT)),(S "words",.t (.list [.str (S "View")]))]]
theorem LV{D:ah}(h:D.Wf):br k2 80 524 [au D,.t (.dict D.firstT)] []=some (.ok (.own 5),BF D):=by
 have e0:=ah.twoW D h LH;have e5:=ah.twoW D h LJ;have e6:=ah.twoW D h LK;refine dU (e:=fC) (b:=ba (at_ 41)) (O2:=BF D) (v:= .own 5) (by lk) (aW (ah.two3 D h LG) (ci (eh (aO (fv:= .t (.top 515)) (E:=iu D) rfl (by lk)
  (bx e0 (bx (LP D h) (bx (LQ D h) (bx (LU D h) (bx (LS D h) (bx e5 (bx e6 cb))))))) ?_ ?_)))) rfl<;>lk
def BG:b8:=jH λx y O=>nl O (i9 x λD=>aT y λu=>gu (u= .dict D.firstT) (yes (eK D) []))
theorem vS(O:af):trunc 0 O=[]:=by unfold trunc;simp
theorem LW:By (R k2 80) 524 BG:=λbe O q h hv ho=>by
 revert hv;refine Ba h λx y h hv=>bT h λh=>jM h (hv _ (.head _)) λD hw h=>bY h λu h=>ac (iq h) λh1 h=>?_;cases h;refine⟨[au D,.t (.dict D.firstT)],[],.own 5,_,eK D,_,_,_,⟨TC.refl _,VC.ofEq h1,trivial⟩,trivial,LV hw,rfl,rfl,TC.refl _,?_⟩;rw[show([]:af).length=0 from rfl,vS];trivial
def k3:aN:=bp 486 Bz (bp 524 BG k2)
theorem vT:aC k3 180:=aC.add vO (aC.add2 vO (vO.mono (by decide)) (by decide) LW) (by decide) LF
def LX:AE:=⟨aV (at_ 42),0,[(S "shelf",1)],S "configuration"++nm ".<locals>.",529⟩
theorem LY:br k3 40 530 [au D] []=some (.ok (.t (eK D)),[]):=by
 refine dU (e:=LX) (b:=ba (at_ 42)) (E:=[.ns true [(S "index",.t (.int (-1)))],nF D]) (O2:=[.ns true [(S "index",.t (.int (-1))),(S "head",.t (.dict D.firstT))],nF D])
  (v:= .t (eK D)) (by lk) (ci (jJ (E:=[.ns true [(S "index",.t (.int (-1)))],nF D]) ?_ (aW ?_ (ci (eh (jK 524 (as:=[au D,.t (.dict D.firstT)]) (fW rfl) ?_)))))) rfl<;>lk
def BH:b8:=iZ λx O=>nl O (i9 x λD=>yes (eK D) [])
theorem LZ:cG (R k3 40) 530 BH:=jG λx O q h s _=>bT h λh=>jM h s λD hw h=>by
 cases h;exact⟨[au D],[],_,⟨TC.refl _,trivial⟩,trivial,LY,TC.refl _,trivial⟩
section
variable {c:aN}{n:Nat}{e:AE}{O E O2 O3:af}{r:aG}
def BI(r:aG)(e:AE)(o i:Expr)(v:V):MM Unit:=bm (r.ev o e) λM=>bm (r.ev i e) λL=>bm (fr v) λt=>match M,L with
  | .own k,.t it=>bm (bw k) λQ=>lS Q k it t
  |_,_=>λ_=>none
theorem pn{N:List (aj×T)}(hi:m7 (R c n) e o i v=BI (R c n) e o i v)(h1:(R c n).ev o e O=some (.ok (.own k),E))(h2:(R c n).ev i e E=some (.ok (.t it),O2))(h3:fr v O2=some (.ok t,O3))
  (h4:O3[k]? =some (.dict N))(hk:cE it=some f)(hf:N.length<1000):(R c (n+1)).as (.Subscript o i p) e v O=some (.ok (),O3.set k (.dict (bj N f t))):=by
 show m7 (R c n) e o i v O=_;refine rwm _ ?_ hi;unfold BI;refine a0 (az h1) (rwm _ (rwm _ ?_ (az h3)) (az h2));show bm (bw k) (λQ=>lS Q k it t) O3=_;refine a0 (az (show bw k O3=some (.ok (.dict N),O3) by unfold bw;exact rwm _ rfl h4)) ?_;show bm (om (cE it)) (λf=>if aJ (N.length+1) then put k (.dict (bj N f t)) else λ_=>none) O3=_;refine rwm _ ?_ hk;show(if aJ (N.length+1) then put k (.dict (bj N f t)) else λ_=>none:MM Unit) O3=_;refine rwm _ (rwm _ ?_ (ec rfl)) (eY (lB hf rfl));rfl
set_option tactic.hygienic true in
theorem dX(hs:noStar tg=true)(hx:ij (R c n) e tg x=bm ((R c n).ev x e) λv=>lT (R c n) e tg v (fS e tg x))(hw:fS e tg x=some none)(h1:(R c n).ev x e O=some (.ok v,E))(h2:(R c n).as tg e v E=some (.ok (),O2)):
  (R c (n+1)).ex (.Assign [tg] x p) e O=some (.ok .next,O2):=by
 refine pd hs ?_;refine rwm _ (rwm _ (rwm _ ?_ hw) (az h1)) hx;exact h2
theorem nG(hi:mX (R c n) e M i=bm ((R c n).ev i e) λL=>bm (aE M) λt=>match L with
  | .t k=>om ((dR t k).map .t)
  |_=>λ_=>none)(h1:(R c n).ev o e O=some (.ok M,E))(h2:(R c n).ev i e E=some (.ok (.t it),O2))(h3:vw M O2=some t)(h4:dR t it=some u):(R c (n+1)).ev (.Subscript o i p) e O=some (.ok (.t u),O2):=by
 show bm ((R c n).ev o e) (λM=>mX (R c n) e M i) O=_;refine a0 (az h1) (rwm _ (rwm _ (rwm _ ?_ (az (show aE M O2=some (.ok t,O2) by unfold aE;exact rwm _ rfl h3))) (az h2)) hi);show om ((dR t it).map V.t) O2=_;refine rwm _ ?_ h4;rfl
end
noncomputable def ax(l:List Int)(f:Int->Bool):List (aj×T):=l.map λn=>(.int n,.bool (f n))
theorem fX(l:List Int)(f:Int->Bool):(ax l f).length=l.length:=ln ..
theorem rU{f g:Int->Bool}(h:∀n∈l,f n=g n):ax l f=ax l g:=kv λn hn=>by exact rwm _ rfl (h n hn)
theorem kW{f:Int->Bool}:bg (ax l f) (.int a)=if a∈l then some (.bool (f a)) else none:=by
 unfold bg ax
 induction l with
 |nil=>rfl
 |cons b l ih=>
  refine rwm _ (rwm _ ?_ ni) o2
  by_cases h:a=b
  .subst h;simp
  .have:((aj.int a)==(aj.int b))=false:=beq_eq_false_iff_ne.mpr λe=>h (aj.int.inj e);refine rwm _ ?_ this;dsimp only;refine a0 ih ?_;simp [h]
theorem vU{f:Int->Bool}(h:a∈l):bj (ax l f) (.int a) (.bool b)=ax l λn=>if n=a then b else f n:=by
 unfold bj;have h1:(ax l f).any (λG=>decide (G.1=aj.int a))=true:=by
  rw[List.any_eq_true];exact⟨(.int a,.bool (f a)),hL.mpr ⟨a,h,rfl⟩,by simp⟩
 refine rwm _ (rwm _ ?_ (ec rfl)) h1;unfold ax;refine a0 md ?_;refine kv λn hn=>?_;dsimp only[Function.comp]
 by_cases e:n=a
 .exact rwm _ (rwm _ rfl (ec e)) (ec (by exact rwm _ rfl e))
 .exact rwm _ (rwm _ rfl (hX e)) (hX (λz=>e (aj.int.inj z)))
theorem nH{l:List (aj×T)}(h:k∉l.map (·.1)):bj l k t=l++[(k,t)]:=by
 unfold bj;have h1:l.any (λG=>decide (G.1=k))=false:=by
  rw[List.any_eq_false];intro x hx;simp;intro e;exact h (hL.mpr ⟨x,hx,e⟩)
 exact rwm _ (rwm _ rfl (hX (by decide))) h1
theorem BJ{f:Int->Bool}(h:a∉l):aj.int a∉(ax l f).map (·.1):=by
 intro hm;refine al (hL.mp hm) λx hx e=>?_;(refine ag (hL.mp hx) λn c1=>ac c1 λhn bo=>?_;clear c1;clear hx;subst bo);exact h (aj.int.inj e▸hn)
theorem rV{f:Int->Bool}:fO (.int a) (.dict (ax l f))=some (decide (a∈l)):=by
 show some ((bg (ax l f) (.int a)).isSome)=_;refine rwm _ ?_ kW
 by_cases h:a∈l<;>simp [h]
def bW(q:Bool):Str:=cond q (S "ON") (S "OFF")
def eZ(b:Str)(on off:List Int)(y lk od o:T):T:= .inst 515 [(S "base",.str b),(S "on",ak on),(S "off",ak off),(S "radio",y),(S "locked",lk),(S "order",od),(S "words",o)]
noncomputable def bB(f:Int->Bool)(l:List Int)(b:Bool)(n:Int):Bool:=if n∈l then b else f n
theorem rW{f:Int->Bool}(ha:a∈ns):bj (ax ns (bB f A b)) (.int a) (.bool b)=ax ns (bB f (A++[a]) b):=by
 refine a0 (vU ha) ?_;refine rU λn hn=>?_;unfold bB
 by_cases e:n=a
 .clear ha;subst e;simp
 .simp [e]
theorem BK{f:Int->Bool}(ha:a∉ns):ax ns (bB f A b)=ax ns (bB f (A++[a]) b):=rU λn hn=>by
 unfold bB;have:n≠a:=λe=>ha (e▸hn);simp [this]
noncomputable def me(x:T)(A:List Int):T:=match A.getLast? with
 |none=>x
 |some a=> .int a
theorem L5(x:T)(A:List Int)(a:Int):me x (A++[a])= .int a:=by unfold me;exact rwm _ rfl (p6)
def iy:List Stmt:=ba (at_ 43)
def iz:AE:=⟨aV (at_ 43),0,[],S "starting_states"++nm ".<locals>.",537⟩
def dh(X C:T)(w:List (Str×V))(N:List (aj×T)):af:=[.ns true ([(S "numbers",.t X),(S "config",.t C),(S "before",.t .none),(S "states",.own 1)]++w),.dict N]
def gx(x l:T)(b:Bool):List (Str×V):=[(S "number",.t x),(S "listed",.t l),(S "is_on",.t (.bool b))]
section
variable {q:Bool}{on off:List Int}{y lk od o:T}{X:T}
set_option tactic.hygienic true in
theorem L6{A:List Int}(hp:a∉A)(hl:A.length<100):cz k3 38 iz (an iy 1) 2 (.int a) (dh X (eZ (bW q) on off y lk od o) (bE T.int (S "number") A) (ax A λ_=>q))=
  some (.ok .next,dh X (eZ (bW q) on off y lk od o) (bE T.int (S "number") (A++[a])) (ax (A++[a]) λ_=>q)):=by
 rw[nD];have hw:=ir T.int (S "number") A;generalize bE T.int (S "number") A=w at hw;have h1:(R k3 38).as (dx (an iy 1)) iz (.t (.int a)) (dh X (eZ (bW q) on off y lk od o) w (ax A λ_=>q))=some (.ok (),dh X (eZ (bW q) on off y lk od o) [(S "number",.t (.int a))] (ax A λ_=>q)):=by
  refine oE w hw ?_ λb=>?_<;>lk
 refine(dJ h1 (bv (l9 (Ll ?_) (bv (l7 (k:=1) (it:= .int a) (t:= .bool q) (N:=ax A λ_=>q) ?_ rfl ?_ rfl ?_))))).trans ?_
 .clear h1;cases q<;>lk
 .rw[fX];exact lB hl rfl
 .clear h1;cases q<;>lk
 .lk
 .refine rwm _ (rwm _ ?_ (nH (BJ hp))) (ek (hY 2));unfold ax;refine rwm _ ?_ i6;rfl
set_option tactic.hygienic true in
theorem L7{ns:List Int}{f:Int->Bool}(hl:ns.length<100):cz k3 37 iz (an (dy (an iy 2)) 0) 2 (.int a) (dh X C (gx x L b) (ax ns (bB f A b)))=
  some (.ok .next,dh X C (gx (.int a) L b) (ax ns (bB f (A++[a]) b))):=by
 have h1:(R k3 37).as (dx (an (dy (an iy 2)) 0)) iz (.t (.int a)) (dh X C (gx x L b) (ax ns (bB f A b)))=some (.ok (),dh X C (gx (.int a) L b) (ax ns (bB f A b))):=by lk
 have ht:(R k3 36).test (bV (an (dy (an (dy (an iy 2)) 0)) 0)) iz (dh X C (gx (.int a) L b) (ax ns (bB f A b)))=some (.ok (decide (a∈ns)),dh X C (gx (.int a) L b) (ax ns (bB f A b))):=pg (rV (f:=bB f A b)) (by lk)
 by_cases ha:a∈ns
 .rw[decide_eq_true ha] at ht;refine(dJ h1 (bv (l8 ht (bv (l7 (k:=1) (it:= .int a) (t:= .bool b) (N:=ax ns (bB f A b)) (by rw[fX];exact DQ hl) rfl ?_ rfl ?_))))).trans ?_
  .lk
  .lk
  .refine rwm _ (rwm _ ?_ (rW ha)) (ek (hY 2));rfl
 .rw[decide_eq_false ha] at ht;refine(dJ h1 (bv (i0 ht gm))).trans ?_;exact rwm _ (rwm _ rfl (BK ha)) (ek (hY 2))
set_option tactic.hygienic true in
theorem L8{ns:List Int}{f:Int->Bool}(hl:ns.length<100)(l:List Int):dD (cz k3 37 iz (an (dy (an iy 2)) 0) 2) (l.map T.int) (dh X C (gx x L b) (ax ns f))=
  some (.ok .next,dh X C (gx (me x l) L b) (ax ns (bB f l b))):=by
 have:=kQ T.int (λA=>dh X C (gx (me x A) L b) (ax ns (bB f A b))) (cz k3 37 iz (an (dy (an iy 2)) 0) 2) l λA a B e=>by
  rw[L5];exact L7 hl
 refine rwl _ ?_ this
 congr 2
set_option tactic.hygienic true in
theorem L9{F:T->MM Fl}(h1:F a O=some (.ok .next,E))(h2:F b E=some (.ok .next,O2)):dD F [a,b] O=some (.ok .next,O2):=by
 show bm (F a) (λfl=>match fl with
  | .next=>dD F [b]
  | .ret v=>pm (.ret v)) O=_
 refine a0 (az h1) ?_
 show bm (F b) (λfl=>match fl with
  | .next=>dD F []
  | .ret v=>pm (.ret v)) E=_
 refine a0 (az h2) ?_;rfl
noncomputable def rX(ns:List Int):T:= .int (ns.getLast?.getD 0)
theorem Ma(h:ns≠[]):bE T.int (S "number") ns=[(S "number",.t (rX ns))]:=by
 unfold bE rX
 cases e:ns.getLast? with
 |none=>exact absurd (List.getLast?_eq_none_iff.mp e) h
 |some a=>rfl
set_option tactic.hygienic true in
theorem BL{ns l:List Int}{f:Int->Bool}(hw:w=[]\/∃d G,w=[(S "listed",.t d),(S "is_on",.t (.bool G))])(hl:ns.length<100):
  cz k3 38 iz (an iy 2) 2 (.tuple [ak l,.bool b]) (dh X C ([(S "number",.t x)]++w) (ax ns f))=
  some (.ok .next,dh X C (gx (me x l) (ak l) b) (ax ns (bB f l b))):=by
 have h1:(R k3 38).as (dx (an iy 2)) iz (.t (.tuple [ak l,.bool b])) (dh X C ([(S "number",.t x)]++w) (ax ns f))=some (.ok (),dh X C (gx x (ak l) b) (ax ns f)):=by
  refine Lf w hw ?_ λd G=>?_<;>lk
 exact(dJ h1 (bv (gp (O2:=dh X C (gx x (ak l) b) (ax ns f)) (L8 hl l) (by lk)))).trans (by exact rwm _ rfl (ek (hY 2)))
noncomputable def startF(q:Bool)(on off:List Int)(n:Int):Bool:=if n∈off then false else if n∈on then true else q
theorem Mb{ns:List Int}(hn:ns.Nodup)(hl:ns.length<100)(h0:ns≠[]):br k3 40 538 [.t (ak ns),.t (eZ (bW q) on off y lk od o)] []=some (.ok (.t (aS ns (startF q on off))),[]):=by
 have be:=kQ T.int (λA=>dh (ak ns) (eZ (bW q) on off y lk od o) (bE T.int (S "number") A) (ax A λ_=>q)) (cz k3 38 iz (an iy 1) 2) ns λA a B e=>L6 (ph hn e) (by rw[e] at hl;simp at hl;exact qd hl);rw[Ma h0] at be;refine dU (e:=iz) (b:=iy) (E:=[.ns true [(S "numbers",.t (ak ns)),(S "config",.t (eZ (bW q) on off y lk od o)),(S "before",.t .none)]])
  (O2:=dh (ak ns) (eZ (bW q) on off y lk od o) (gx (me (me (rX ns) on) off) (ak off) false) (ax ns (startF q on off))) (v:= .own 1) (by lk)
  (aW (E:=dh (ak ns) (eZ (bW q) on off y lk od o) [] []) ?_ (aW (gp (O2:=dh (ak ns) (eZ (bW q) on off y lk od o) [] []) be ?_)
   (aW (gp (O2:=dh (ak ns) (eZ (bW q) on off y lk od o) [(S "number",.t (rX ns))] (ax ns λ_=>q)) (L9 (BL (w:=[]) (.inl rfl) hl) (BL (l:=off) (b:=false) (.inr ⟨ak on,true,rfl⟩) hl)) ?_) (ci ?_)))) rfl<;>lk
theorem Mc:br k3 40 538 [.t (ak []),.t (eZ (bW q) [] [] y lk od o)] []=some (.ok (.t (aS [] (startF q [] []))),[]):=by lk
end
noncomputable def gy(k:Nat):T->T
 | .inst _ fs=>((fs[k]?).map (·.2)).getD .none
 |_=> .none
def Md:T->Str
 | .str s=>s
 |_=>S ""
theorem pq(ns:List Int):cy (ak ns)=ns:=jF ns
theorem BM{on off ns:List Int}(hn:ns.Nodup)(hl:ns.length<100)(h0:ns≠[]\/(ns=[]/\on=[]/\off=[])):
  rK k3 40 538 [.t (ak ns),.t (eZ (bW q) on off y lk od o)] []=yes (aS ns (startF q on off)) []:=nB (by
 rcases h0 with h0|⟨rfl,rfl,rfl⟩
 .exact Mb hn hl h0
 .exact Mc)
def k4:aN:=bp 530 BH (bp 538 (rK k3 40 538) k3)
theorem pr:aC k4 220:=aC.add vT (aC.addK vT (vT.mono (by decide)) (by decide)) (by decide) LZ
noncomputable def ah.bq(D:ah):Bool:=match D.st with
 |0=>match D.base with
  |1=>false
  |_=>true
 |_=>true
theorem vV{D:ah}(h:D.Wf):eK D=eZ (bW D.bq) D.onL D.off (.list (D.rows.map ak)) (ak D.lk) (.list D.ordT) (.list [.str (S "View")]):=
 ah.twoW (G:=λD=>eZ (bW D.bq) D.onL D.off (.list (D.rows.map ak)) (ak D.lk) (.list D.ordT) (.list [.str (S "View")])) D h (by lk)
noncomputable def ah.startF(D:ah):Int->Bool:=Internal.startF D.bq D.onL D.off
theorem BN(h:eR 0 ns):ns=[]:=by
 cases ns with
 |nil=>rfl
 |cons a l=>have:=h.2 a (.head _);exact nomatch this
theorem BO{D:ah}(h:D.Wf)(e:D.all=[]):D.onL=[]/\D.off=[]:=by
 have h0:D.order=[]:=by
  unfold ah.all at e;exact(List.append_eq_nil_iff.mp e).1
 have hm:D.m=0:=by refine rwl _ (rwm _ ?_ h0) (gv D);rfl
 have h1:=rS h;have h2:=h.off;rw[hm] at h1 h2;exact⟨BN h1,BN h2⟩
def pw:AE:=⟨aV (at_ 53),0,[(S "states",2),(S "kept",1)],S "layer_states"++nm ".<locals>.",587⟩
def vW:List Stmt:=ba (at_ 53)
def g9(D:ah)(K F:T):af:=[.ns true [(S "shelf",au D)],.cell (some (.t K)),.cell (some (.t F))]
def mf:Expr:=aY (a7 (bV (an vW 1))) 1
theorem BP(l:List Int)(f:Int->Bool):d7 (aS l f)=some (l.map T.int):=by
 show some ((l.map λn=>(aj.int n,T.bool (f n))).map λp=>dO p.1)=_;refine rwm _ ?_ md;rfl
theorem nI{c:aN}(h1:(R c n).ev a e O=some (.ok (.t t),E))(h2:(R c n).ev b e E=some (.ok (.t u),O2)):(R c (n+1)).ev (.Tuple [a,b] b1 p) e O=some (.ok (.t (.tuple [t,u])),O2):=by
 show bm (a8 (R c n) e [a,b]) (λvs=>bm (eV fr vs) λts=>if aJ ts.length then pm (V.t (T.tuple ts)) else λ_=>none) O=_;refine a0 (az (bx h1 (bx h2 cb))) ?_;show(if aJ 2 then pm (V.t (.tuple [t,u])) else λ_=>none:MM V) O2=_;refine rwm _ (rwm _ ?_ (ec rfl)) (eY (by decide));rfl
theorem Me{c:aN}(h1:(R c n).ev a e O=some (.ok (.t t),O))(h2:(R c n).ev b e O=some (.ok (.t u),O)):(R c (n+1)).ev (.Tuple [a,b] b1 p) e O=some (.ok (.t (.tuple [t,u])),O):=nI h1 h2
theorem Mf{c:aN}{n:Nat}{e:AE}{O:af}{o:Expr}{D p:Pos}{be:List Expr}{K d kt:T}{kk:List (aj×T)}{f:aj}(ha:(D.endLine==p.line&&be.all noStar&&decide (be.length<20)&&fP o)=true)(h1:(R c n).ev o e O=some (.ok (.t K),O))(m:strip K= .dict kk)(hk:cE kt=some f)
  (h2:a8 (R c n) e be O=some (.ok [.t kt,.t d],O)):(R c (n+1)).ev (.Call (.Attribute o (S "get") D) be [] p) e O=some (.ok (.t ((bg kk f).getD d)),O):=by
 refine kE (t:= .dict kk) (L:=1) (k:=3) ha h1 ?_ ?_ rfl (by decide) h2 ?_
 .show qC _ (strip K) _=_;refine rwm _ ?_ m;rfl
 .show some (strip K)=_;exact rwm _ rfl m
 .show bm (aE (.t K)) (λt=>t7 t [.t kt,.t d]) _=_;refine a0 (az (show aE (.t K) O=some (.ok (.dict kk),O) by unfold aE vw;dsimp only;exact rwm _ rfl m)) ?_;show bm (om (cE kt)) (λk=>pm (match bg kk k with|some t=>V.t t|none=> .t d)) O=_;refine rwm _ ?_ hk;show pm (match bg kk f with|some t=>V.t t|none=> .t d) O=_;cases bg kk f<;>rfl
section
variable {D:ah}{K:T}{kk:List (aj×T)}{G:Int->Option Bool}{f:Int->Bool}
theorem Mg(m:strip K= .dict kk)(B:∀n,bg kk (.int n)=(G n).map T.bool){a:Int}(ha:a∈D.all){w:List (Str×V)}(hw:w=[]\/∃b,w=[(S "number",V.t (.int b))]):
  cP k4 36 pw mf 3 (.int a) (g9 D K (aS D.all f)++[.ns false w])=some (.ok (some (.tuple [.int a,.bool ((G a).getD (f a))])),g9 D K (aS D.all f)++[.ns false [(S "number",.t (.int a))]]):=by
 have e:(bg kk (.int a)).getD (.bool (f a))= .bool ((G a).getD (f a)):=by rw[B];cases G a<;>rfl
 refine rwl _ ?_ e;refine kO (q:=true) (E:=g9 D K (aS D.all f)++[.ns false [(S "number",.t (.int a))]]) ?_ rfl (λ_=>pj (Me ?_ (Mf (kt:= .int a) rfl ?_ m rfl (ny ?_ (ny (Lj (t:=aS D.all f) (it:= .int a) (u:= .bool (f a)) ?_ ?_) cb))))) (λe=>nomatch e)
 .refine oE w hw ?_ λb=>?_<;>lk
 .lk
 .lk
 .lk
 .show bg (ax D.all f) (.int a)=_;exact rwm _ (rwm _ rfl (ec ha)) kW
 .lk
theorem Mh(l:List Int)(f:Int->Bool):fu (l.map λn=> .tuple [.int n,.bool (f n)])=some (ax l f):=by
 induction l with
 |nil=>rfl
 |cons a l ih=>
  show(match cE (.int a),fu (l.map λn=> .tuple [.int n,.bool (f n)]) with
   |some k,some l=>some ((k,T.bool (f a))::l)
   |_,_=>none)=_
  refine rwm _ ?_ ih;rfl
theorem BQ{f:Int->Bool}:∀(l A:List Int),(A++l).Nodup->(ax l f).foldl (λd p=>bj d p.1 p.2) (ax A f)=ax (A++l) f
 |[],A,_=>by rw[List.append_nil];rfl
 |a::l,A,h=>by
  show(ax l f).foldl (λd p=>bj d p.1 p.2) (bj (ax A f) (.int a) (.bool (f a)))=_;have ha:a∉A:=λhm=>by
   rw[List.nodup_append] at h;exact h.2.2 a hm a (.head _) rfl
  rw[nH (BJ ha),show ax A f++[(aj.int a,T.bool (f a))]=ax (A++[a]) f by unfold ax;rw[List.map_append];rfl,BQ l (A++[a]) (by rw[List.append_assoc];exact h),List.append_assoc];rfl
theorem vX{l:List Int}{g:Int->Bool}{O:af}(hn:l.Nodup)(hl:l.length<100):jv "dict" (.list (l.map λn=> .tuple [.int n,.bool (g n)])) O=some (.ok (.own O.length),O++[.dict (ax l g)]):=by
 show bm (om (fu (l.map λn=> .tuple [.int n,.bool (g n)]))) (λN=>if aJ N.length then bP (.dict (N.foldl (λd p=>bj d p.1 p.2) [])) else λ_=>none) O=_;rw[Mh];show(if aJ (ax l g).length then bP (.dict ((ax l g).foldl (λd p=>bj d p.1 p.2) [])) else λ_=>none:MM V) O=_;rw[fX,eY (lB (Nat.le_of_lt hl) rfl),if_pos rfl];have:=BQ (f:=g) l [] (by simpa using hn);refine rwm _ ?_ (show(ax l g).foldl (λd p=>bj d p.1 p.2) []=ax l g from this);rfl
def kX(D:ah)(G:Int->Option Bool):List T:=D.all.map λn=> .tuple [.int n,.bool ((G n).getD (D.startF n))]
theorem BR(h:D.Wf)(m:strip K= .dict kk)(B:∀n,bg kk (.int n)=(G n).map T.bool):br k4 40 588 [au D,.t K] []=some (.ok (.t (aS D.all λn=>(G n).getD (D.startF n))),[]):=by
 have hl:D.all.length<100:=by have:=jP h;exact lC this rfl
 have c:bZ (cP k4 36 pw mf 3) (D.all.map T.int) [] (g9 D K (aS D.all D.startF)++[.ns false []])=some (.ok (kX D G),g9 D K (aS D.all D.startF)++[.ns false (cO T.int (S "number") D.all)]):=by
  have:=jR T.int (S "number") (λn=>some (.tuple [.int n,.bool ((G n).getD (D.startF n))])) (cP k4 36 pw mf 3) (g9 D K (aS D.all D.startF)) D.all (lB (l3 hl) rfl) λa ha w hw=>Mg m B ha hw;refine a0 this ?_;unfold kX
  congr 2
  exact rwm _ rfl lt
 have hd:(R k4 37).call (.t (.typ "dict")) [.own 3] (g9 D K (aS D.all D.startF)++[.list (kX D G)])=some (.ok (.own 4),g9 D K (aS D.all D.startF)++[.list (kX D G)]++[.dict (ax D.all λn=>(G n).getD (D.startF n))]):=
  show jv "dict" (.list (kX D G)) (g9 D K (aS D.all D.startF)++[MO.list (kX D G)])=_ from vX (g:=λn=>(G n).getD (D.startF n)) (ma h) hl
 refine dU (e:=pw) (b:=vW) (E:=[.ns true [(S "shelf",au D)],.cell (some (.t K)),.cell none])
  (O2:=g9 D K (aS D.all D.startF)++[.list (kX D G)]++[.dict (ax D.all λn=>(G n).getD (D.startF n))]) (v:= .own 4) (by lk)
  (aW (E:=g9 D K (aS D.all D.startF)) (vI (v:= .t (aS D.all D.startF)) (by lk) (jK 538 (as:=[.t (ak D.all),.t (eK D)]) ?_ ?_) ?_)
   (ci (eh (aO (fv:= .t (.typ "dict")) (vs:=[.own 3]) (E:=g9 D K (aS D.all D.startF)++[.list (kX D G)]) rfl (by lk) (bx (l5 c rfl rfl ?_) cb) ?_ hd)))) rfl
 .refine rwm _ ?_ (vV h);refine BM (ma h) hl ?_
  by_cases e:D.all=[]
  .exact .inr ⟨e,BO h e⟩
  .exact .inl e
 .lk
 .lk
 .show _=mY 3 3 (bZ (cP k4 36 pw mf 3) (D.all.map T.int) [] _);refine rwl _ ?_ (ai (BP D.all D.startF));lk
 .lk
end
theorem Mi{l:List Int}{st:Int->Bool}(h:cN (.t (.box (.sts l st) t))):l.Nodup/\t=aS l st:=(kq (ku h)).1
def kY{α:Type}(t:T)(f:List Int->(Int->Bool)->Option α):Option α:=j9 t λg _=>xT g f
@[elab_as_elim] theorem vY{α:Type}{q:α}{f:List Int->(Int->Bool)->Option α}{P:T->Prop}(h:kY t f=some q)(s:cN (.t t))(k:∀l st,l.Nodup->f l st=some q->P (.box (.sts l st) (aS l st))):P t:=by
 revert s;refine jp h λg X h=>xU h λl st h s=>ac (Mi s) λhw e=>?_;clear s;subst e;exact k l st hw h
@[elab_as_elim] theorem vZ{α:Type}{q:α}{f:List Int->(Int->Bool)->Option α}{P:V->Prop}(h:aT v (λt=>kY t f)=some q)(s:cN v)(k:∀l st,l.Nodup->f l st=some q->P (.t (.box (.sts l st) (aS l st)))):P v:=by
 revert s;refine bY h λt h s=>vY h s k
def mh:b8:=jH λx y O=>nl O (i9 x λD=>aT y λt=>d4 (qr t (yes (.box (.sts D.all D.startF) (aS D.all D.startF)) [])) (kY t λl st=>gu (l=D.all) (yes (.box (.sts D.all st) (aS D.all st)) [])))
theorem BS:cG (R k4 40) 588 mh:=nu λx y O q h s s2 _=>bT h λh=>jM h s λD hw h=>by
 revert s2;refine bY h λt h s2=>gN h (λh=>tT h λh=>?_) (λh=>vY h s2 λl st hn h=>?_)
 .cases h;refine⟨[au D,.t (.dict [])],[],_,⟨TC.refl _,TC.refl _,trivial⟩,trivial,BR (G:=λ_=>none) hw rfl (λ_=>rfl),?_,trivial⟩;exact TC.box (TC.refl _) ⟨ma hw,rfl⟩
 .refine ac (iq h) λhl b5=>?_;clear h;subst hl;clear h;cases b5;have e:aS D.all (λn=>((if n∈D.all then some (st n) else none:Option Bool)).getD (D.startF n))=aS D.all st:=by
   show T.dict (ax _ _)=T.dict (ax _ _);rw[rU λn hn=>?_];refine rwm _ ?_ (ec hn);rfl
  have hr:=BR (K:= .box (.sts D.all st) (aS D.all st)) (kk:=ax D.all st) (G:=λn=>if n∈D.all then some (st n) else none) hw rfl (λn=>by
   refine a0 kW ?_
   by_cases hn:n∈D.all
   .refine a0 (ec hn) (rwm _ ?_ (ec hn));rfl
   .refine a0 (hX hn) (rwm _ ?_ (hX hn));rfl)
  rw[e] at hr;exact⟨[au D,.t (.box (.sts D.all st) (aS D.all st))],[],_,⟨TC.refl _,TC.refl _,trivial⟩,trivial,hr,TC.box (TC.refl _) ⟨hn,rfl⟩,trivial⟩
noncomputable def nJ(l:List UInt8):Str:=⟨(l.map λc=>c.toNat).toArray⟩
def kZ:List (List UInt8):=[[97],[],[98,32,99],[233],[122],cj]
def py(n:Int)(b:Bool)(l:Str):Str:=dq n++cond b (S " on ") (S " off ")++l
def gz:List Str->Str
 |[]=>S "none"
 |l=>Txt.join (S "\n") l
theorem Mj:kZ.map (λl=>br av 40 111 [.t (.bytes l.toArray)] [])=kZ.map λl=>some (.ok (.t (.str (nJ l))),[]):=by lk
theorem BU(n:Nat):gM n∈kZ:=by
 rcases n with _|_|_|_|n<;>first|decide|exact(by decide:gM 4∈kZ)
theorem pz(D:ah)(n:Int):D.labN n∈kZ:=by
 unfold ah.labN
 by_cases h:D.st=2/\n=D.k
 .refine rwm _ ?_ (ec h);decide
 .refine rwm _ ?_ (hX h);exact BU _
theorem BV{l:List UInt8}(h:l∈kZ):rK av 40 111 [.t (.bytes l.toArray)] []=yes (.str (nJ l)) []:=nB (gq Mj h)
theorem BW{s:Str}{l:List Str}(h1:s.length<=10)(h2:l.length<=100)(h3:∀x∈l,x.length<=100):JoinOk s l=true:=by
 have f:∀(l:List Str)(k:Nat),(∀x∈l,x.length<=100)->l.foldl (λa (x:Str)=>a+x.length+s.length) k<=k+110*l.length:=by
  intro l
  induction l with
  |nil=>intro k _;simp
  |cons a l ih=>
   intro k h;have:=ih (k+a.length+s.length) λx hx=>h x (.tail _ hx);refine rwm _ (rwm _ ?_ ss) List.foldl_cons;exact w0 this (Nat.add_le_add (h a (.head _)) h1)
 have:=f l 0 h3;unfold JoinOk;rw[List.foldl_toArray];show(!decide (_>sizeLine))=true;refine rwm _ ?_ (li (D6 h2 this nf));rfl
section
variable {c:aN}{n:Nat}{e:AE}{O E O2 O3:af}{r:aG}
theorem dY(h:vw v O=some t):aE v O=some (.ok t,O):=by unfold aE;exact rwm _ rfl h
theorem Mk{U:List T}(h:vw v O=some (.list U))(hl:U.length<1000):(R c (n+1)).call (.t (.bi "len")) [v] O=some (.ok (.t (.int (U.length:Int))),O):=by
 show bm (aE v) (λt=>oK "len" t) O=_;refine a0 (az (dY h)) ?_;show om ((ju (.list U)).map λ(k:Nat)=>V.t (.int (k:Int))) O=_;have:ju (.list U)=some U.length:=by
  show d4 (ic U.length) _=_;unfold ic;refine rwm _ (rwm _ ?_ (ec rfl)) (eY (Nat.le_of_succ_le hl));rfl
 refine rwm _ ?_ this;rfl
theorem BX{U:List (aj×T)}(h:vw v O=some (.dict U))(hl:U.length<1000):(R c (n+1)).call (.t (.bi "len")) [v] O=some (.ok (.t (.int (U.length:Int))),O):=by
 show bm (aE v) (λt=>oK "len" t) O=_;refine a0 (az (dY h)) ?_;show om ((ju (.dict U)).map λ(k:Nat)=>V.t (.int (k:Int))) O=_;have:ju (.dict U)=some U.length:=by
  show d4 (ic U.length) _=_;unfold ic;refine rwm _ (rwm _ ?_ (ec rfl)) (eY (Nat.le_of_succ_le hl));rfl
 refine rwm _ ?_ this;rfl
theorem pA{i:Int}(h:i.natAbs<1000000):(R c (n+1)).call (.t (.typ "str")) [.t (.int i)] O=some (.ok (.t (.str (dq i))),O):=by
 show bm (aE (.t (.int i))) (λt=>jv "str" t) O=_;refine a0 (az (dY rfl)) ?_;show d4 ((if i.natAbs<1000000 then pm (V.t (.str (dq i))) else λ_=>none:MM V) O) _=_;refine rwm _ ?_ (ec h);rfl
theorem jc{x y:Str}(h:x.length+y.length<=1000):eH .Add (.str x) (.str y) O=some (.ok (.t (.str (x++y))),O):=by
 show(if aJ (x.length+y.length) then pm (V.t (.str (x++y))) else λ_=>none:MM V) O=_;refine rwm _ (rwm _ ?_ (ec rfl)) (eY h);rfl
theorem Ml(l:List Str):jt (l.map T.str)=some l:=by
 induction l with
 |nil=>rfl
 |cons a l ih=>
  show(jt (l.map T.str)).map (a::·)=_;refine rwm _ ?_ ih;rfl
theorem BY{l:List Str}(h:vw v O=some (.list (l.map T.str)))(hj:JoinOk s l=true):iM 2 (.t (.str s)) [v] O=some (.ok (.t (.str (Txt.join s l))),O):=by
 show bm (aE (.t (.str s))) (λt=>t6 t [v]) O=_;refine a0 (az (dY rfl)) ?_;show bm (aE v) (λt O=>fM t λU=>bm (om (jt U)) (λl=>if JoinOk s l then pm (V.t (.str (Txt.join s l))) else λ_=>none) O) O=_;refine a0 (az (dY h)) ?_;show bm (om (jt (l.map T.str))) (λl=>if JoinOk s l then pm (V.t (.str (Txt.join s l))) else λ_=>none) O=_;rw[Ml];show(if JoinOk s l then pm (V.t (.str (Txt.join s l))) else λ_=>none:MM V) O=_;refine rwm _ (rwm _ ?_ (ec rfl)) hj;rfl
theorem Mm(h1:vw v O=some (.int a))(h2:vw u O=some (.int b)):dQ .Gt v u O=some (.ok (decide (a>b)),O):=by
 show bm (aE v) (λx=>bm (aE u) λy=>om (gR .Gt x y)) O=_;refine a0 (az (dY h1)) (rwm _ ?_ (az (dY h2)));rfl
theorem jS{x y:Str}(h1:(R c n).ev a e O=some (.ok (.t (.str x)),O))(h2:(R c n).ev b e O=some (.ok (.t (.str y)),O))(h:x.length+y.length<=1000):(R c (n+1)).ev (.BinOp a .Add b p) e O=some (.ok (.t (.str (x++y))),O):=go h1 h2 rfl rfl (jc h)
theorem pC{i:Int}(h:i.natAbs<1000000)(hx:r.ev x e O=jv "str" (.int i) O):r.ev x e O=some (.ok (.t (.str (dq i))),O):=hx.trans (by
 show d4 ((if i.natAbs<1000000 then pm (V.t (.str (dq i))) else λ_=>none:MM V) O) _=_;refine rwm _ ?_ (ec h);rfl)
theorem v4(h:(R c n).test t e O=some (.ok q,O))(h2:(R c n).ev (cond q a b) e O=B):(R c (n+1)).ev (.IfExp t a b p) e O=B:=vC h h2
theorem v5(h4:dR t it=some (.bool q))(h:r.test x e O=bm (om ((dR t it).map V.t)) (λv=>fQ v) O):r.test x e O=some (.ok q,O):=h.trans (by refine rwm _ ?_ h4;rfl)
set_option tactic.hygienic true in
theorem v6{D p B:Pos}{U:List T}(ha:(D.endLine==p.line&&[x].all noStar&&decide ([x].length<20)&&fP o)=true)(h1:(R c n).ev o e O=some (.ok (.own i),O))(hi:O[i]? =some (.list U))(hx:(R c n).ev x e O=some (.ok (.t u),O))(hl:U.length<1000)(h3:O.set i (.list (U++[u]))=O3):
  (R c (n+2)).ex (.Expr (.Call (.Attribute o (S "append") D) [x] [] p) B) e O=some (.ok .next,O3):=by
 refine jI rfl (kE (t:= .list U) (L:=2) (k:=5) ha h1 ?_ ?_ rfl (by decide) (bx hx cb) (Bu hi hl h3))
 .show bm (bw i) (t9 _) O=_;refine a0 (az (show bw i O=some (.ok (.list U),O) by unfold bw;exact rwm _ rfl hi)) ?_;rfl
 .show O[i]?.bind x0=_;refine rwm _ ?_ hi;rfl
theorem BZ(a:Addr){be:List Expr}(h2:c a as []=some (some (.ok t,[])))(hv:a8 (R c (n+1)) e be O=some (.ok as,O))(ha:(be.all noStar&&decide (be.length<30))=true)
  (h1:((R c (n+1)).ev (.Name f fp) e O,kl (Pc c) (.t (.top a)) O,iO O as ⟨[],[]⟩)=(some (.ok (.t (.top a)),O),some (.ok (),O),some (as,⟨[],[]⟩))):(R c (n+2)).ev (.Call (.Name f fp) be [] p) e O=some (.ok (.t t),O):=
 aO ha (hS Prod.fst h1) hv (hS (λx=>x.2.1) h1) (cm (hS (λx=>x.2.2) h1) h2 rfl)
end
def Mn:AE:=⟨aV (at_ 50),1,[],S "rows_text"++nm ".<locals>.",570⟩
def la(rows:List Str):af:=[.list (rows.map T.str),.ns true [(S "rows",.own 0)]]
theorem Mo{rows:List Str}(hl:rows.length<=100)(hx:∀x∈rows,x.length<=100):br av 20 571 [.own 0] [.list (rows.map T.str)]=some (.ok (.t (.str (gz rows))),[.list (rows.map T.str)]):=by
 refine dU (e:=Mn) (b:=ba (at_ 50)) (E:=la rows) (O2:=la rows) (v:= .t (.str (gz rows))) (by lk) (ci (eh ?_)) rfl
 cases rows with
 |nil=>lk
 |cons a l=>
  refine vD (E:=la (a::l)) (ey (v:= .t (.int (((a::l).map T.str).length:Nat))) (u:= .t (.int 0)) (E:=la (a::l)) (O2:=la (a::l)) (aO (fv:= .t (.bi "len")) (vs:=[.own 0]) (E:=la (a::l)) rfl ?_ ?_ ?_ (Mk (n:=14) rfl ?_)) ?_ ((Mm rfl rfl).trans ?_))
   (kE (E:=la (a::l)) (O2:=la (a::l)) (M:= .t (.str (S "\n"))) (t:= .str (S "\n")) (L:=0) (k:=2) (vs:=[.own 0]) ?_ ?_ ?_ rfl rfl rfl ?_ (BY rfl (BW (by decide) hl hx)))
  .lk
  .lk
  .lk
  .rw[List.length_map];exact lC hl rfl
  .lk
  .exact rwm _ rfl (iv (by simp only[List.map_cons,List.length_cons];exact Int.natCast_pos.mpr (Nat.succ_pos _)))
  .rfl
  all_goals lk
theorem B0{rows:List Str}(hl:rows.length<=100)(hx:∀x∈rows,x.length<=100):rK av 20 571 [.own 0] [.list (rows.map T.str)]=yes (.str (gz rows)) [.list (rows.map T.str)]:=nB (Mo hl hx)
def k5:aN:=bp 588 mh (bp 571 (rK av 20 571) (bp 111 (rK av 40 111) k4))
theorem B3:aC k5 260:=aC.add pr (aC.addK aC.start (aC.addK aC.start (pr.mono (by decide)) (by decide)) (by decide)) (by decide) BS
def rY:AE:=⟨aV (at_ 54),0,[],S "layers_text"++nm ".<locals>.",594⟩
def lb:List Stmt:=ba (at_ 54)
def aF(l:List Int)(g:Int->Bool):T:= .box (.sts l g) (aS l g)
def iA(D:ah)(K:T)(g:Int->Bool)(w:List (Str×V))(rows:List Str):af:=[.ns true ([(S "shelf",au D),(S "kept",.t K),(S "states",.t (aF D.all g)),(S "rows",.own 1)]++w),.list (rows.map T.str)]
def bQ(D:ah)(g:Int->Bool)(n:Int):Str:=py n (g n) (nJ (D.labN n))
theorem Mp:∀i:Nat,i<32->(dq (i:Int)).length<=10:=by decide
theorem hF(h:0<=n/\n<=31):(dq n).length<=10:=by
 (refine ag (pb h.1) λk bo=>?_;subst bo);exact Mp k (Nat.lt_succ_of_le (Int.ofNat_le.mp h.2))
theorem pD:∀l∈kZ,(nJ l).length<=10:=by decide
theorem jd(x y:Str):(x++y).length=x.length+y.length:=by
 show(x.cps++y.cps).size=_;refine a0 Array.size_append ?_;rfl
theorem B4{l:Str}(h1:(dq n).length<=10)(h2:l.length<=10):(py n b l).length<=30:=by
 unfold py;rw[jd,jd];have:(cond b (S " on ") (S " off ")).length<=5:=by cases b<;>decide
 exact lB (Nat.add_le_add (Nat.add_le_add h1 this) h2) rfl
theorem B5{D:ah}(h:D.Wf){g:Int->Bool}(hn:n∈D.all):(bQ D g n).length<=30:=B4 (hF (by have:=vR h hn;exact to this)) (pD _ (pz D n))
set_option tactic.hygienic true in
theorem Mq{D:ah}(h:D.Wf){K:T}{g:Int->Bool}{A:List Int}{a:Int}(ha:a∈D.all)(hl:A.length<100):
  cz k5 38 rY (an lb 2) 2 (.int a) (iA D K g (bE T.int (S "number") A) (A.map (bQ D g)))=some (.ok .next,iA D K g (bE T.int (S "number") (A++[a])) ((A++[a]).map (bQ D g))):=by
 rw[nD];have hw:=ir T.int (S "number") A;generalize bE T.int (S "number") A=w at hw;have h1:(R k5 38).as (dx (an lb 2)) rY (.t (.int a)) (iA D K g w (A.map (bQ D g)))=some (.ok (),iA D K g [(S "number",.t (.int a))] (A.map (bQ D g))):=by
  refine oE w hw ?_ λb=>?_<;>lk
 have v:=vR h ha;have l1:=hF (n:=a) (to v);have z:(cond (g a) (S " on ") (S " off ")).length<=5:=by cases g a<;>decide
 refine(dJ (O2:=iA D K g [(S "number",.t (.int a))] ((A++[a]).map (bQ D g))) h1 (bv (v6 (i:=1) (U:=(A.map (bQ D g)).map T.str) (u:= .str (bQ D g a)) rfl ?_ rfl (jS (jS (pC (i:=a) (w5 v) ?_) (v4 (v5 (t:=aS D.all g) (it:= .int a) (q:=g a) ?_ ?_) ?_) (lB (Nat.add_le_add l1 z) rfl))
  (BZ 111 (BV (pz D a)) (ny (jK 493 (Br h ha) ?_) cb) rfl ?_) ?_) (by rw[List.length_map,List.length_map];exact lB hl rfl) ?_))).trans ?_
 .lk
 .lk
 .show bg (ax D.all g) (.int a)=_;exact rwm _ (rwm _ rfl (ec ha)) kW
 .lk
 .cases g a<;>lk
 .lk
 .lk
 .rw[jd];exact lB (Nat.add_le_add (Nat.add_le_add l1 z) (pD _ (pz D a))) rfl
 .unfold iA;refine rwm _ (rwm _ ?_ i6) i6;rfl
 .exact rwm _ rfl (ek (hY 2))
theorem B6{D:ah}(h:D.Wf){K:T}{g:Int->Bool}(m:mh [au D,.t K] []=yes (aF D.all g) []):br k5 40 595 [au D,.t K] []=some (.ok (.t (.str (gz (D.all.map (bQ D g))))),[]):=by
 have bb:=jP h;have hw:=ir T.int (S "number") D.all;have hl:=kQ T.int (λA=>iA D K g (bE T.int (S "number") A) (A.map (bQ D g))) (cz k5 38 rY (an lb 2) 2) D.all λA a B e=>Mq h (by refine rwm _ ?_ e;simp) (by rw[e] at bb;simp at bb;exact tq bb);generalize bE T.int (S "number") D.all=w at hw hl;refine dU (e:=rY) (b:=lb) (E:=[.ns true [(S "shelf",au D),(S "kept",.t K)]]) (O2:=iA D K g w (D.all.map (bQ D g))) (v:= .t (.str (gz (D.all.map (bQ D g))))) (by lk)
  (aW (E:=[.ns true [(S "shelf",au D),(S "kept",.t K),(S "states",.t (aF D.all g))]]) (vI (v:= .t (aF D.all g)) (by lk) (jK 588 (as:=[au D,.t K]) m ?_) ?_)
   (aW (E:=iA D K g [] []) ?_ (aW (gp (O2:=iA D K g [] []) hl ?_)
    (ci (eh (aO (fv:= .t (.top 571)) (vs:=[.own 1]) (E:=iA D K g w (D.all.map (bQ D g))) rfl ?_ ?_ ?_ (cm (p:=⟨[1],[.list ((D.all.map (bQ D g)).map T.str)]⟩) (bi:=[.own 0]) (X:=[.list ((D.all.map (bQ D g)).map T.str)]) rfl ?_ rfl))))))) rfl
 .lk
 .lk
 .lk
 .lk
 .refine oE w hw ?_ λb=>?_<;>lk
 .refine oE w hw ?_ λb=>?_<;>lk
 .lk
 .exact B0 (by rw[List.length_map];exact lB bb rfl) (λx hx=>by
   (refine ag (hL.mp hx) λn c1=>ac c1 λhn bo=>?_;clear c1;clear hx;subst bo);have:=B5 (g:=g) h hn;exact lB this rfl)
def ah.txt(D:ah)(g:Int->Bool):Str:=gz (D.all.map (bQ D g))
def lc:b8:=jH λx y O=>nl O (i9 x λD=>aT y λt=>d4 (qr t (yes (.str (D.txt D.startF)) [])) (kY t λl st=>gu (l=D.all) (yes (.str (D.txt st)) [])))
theorem Mr:cG (R k5 40) 595 lc:=nu λx y O q h s s2 _=>bT h λh=>jM h s λD hw h=>by
 revert s2;refine bY h λt h s2=>gN h (λh=>tT h λh=>?_) (λh=>vY h s2 λl st hn h=>?_)
 .cases h;exact⟨[au D,.t (.dict [])],[],_,⟨TC.refl _,TC.refl _,trivial⟩,trivial,B6 hw rfl,TC.refl _,trivial⟩
 .refine ac (iq h) λhl b5=>?_;clear hn h;subst hl;clear h;cases b5;exact⟨[au D,.t (aF D.all st)],[],_,⟨TC.refl _,TC.refl _,trivial⟩,trivial,B6 hw (fW rfl),TC.refl _,trivial⟩
noncomputable def dZ{α:Type}(f:α->List (Str×V))(A:List α):List (Str×V):=match A.getLast? with
 |none=>[]
 |some a=>f a
theorem B7{α:Type}(f:α->List (Str×V))(A:List α)(a:α):dZ f (A++[a])=f a:=by unfold dZ;exact rwm _ rfl (p6)
theorem nK{α:Type}(f:α->List (Str×V))(A:List α):dZ f A=[]\/∃a,dZ f A=f a:=by
 unfold dZ
 cases A.getLast? with
 |none=>exact .inl rfl
 |some a=>exact .inr ⟨a,rfl⟩
abbrev cn(D:ah):V:= .t (.box (.told D) D.toldT)
theorem Ms{D:ah}(h:cN (.t (.box (.told D) t))):D.Wf/\t=D.toldT:=(kq (ku h)).1
def rZ{α:Type}(v:V)(f:ah->Option α):Option α:=aT v λt=>j9 t λg _=>xP g f
@[elab_as_elim] theorem v7{α:Type}{q:α}{f:ah->Option α}{P:V->Prop}(h:rZ v f=some q)(s:cN v)(k:∀D:ah,D.Wf->f D=some q->P (cn D)):P v:=by
 revert s;refine bY h λt h=>jp h λg X h=>FT h λD h s=>ac (Ms s) λhw e=>?_;clear s;subst e;exact k D hw h
def ld:AE:=⟨aV (at_ 65),0,[],S "_law_text"++nm ".<locals>.",648⟩
def lg:List Stmt:=ba (at_ 65)
def nL(n:Int):Str:=nJ (gM ((n - 10).toNat/3))
def cZ(g:Int->Bool)(n:Int):Str:=py n (g n) (nL n)
def hJ(n:Int):List (Str×V):=[(S "number",.t (.int n)),(S "label",.t (.str (nL n)))]
def dj(D:ah)(g:Int->Bool)(w:List (Str×V))(rows:List Str):af:=[.ns true ([(S "told_of",cn D),(S "states",.t (aF D.order g)),(S "rows",.own 1)]++w),.list (rows.map T.str)]
def zL(n:Int):List MO:=[.list ((gM ((n - 10).toNat/3)).map λc=> .str ⟨#[c.toNat]⟩)]
def mj(c:aN)(n:Nat)(s:Stmt)(e:AE)(O:af):Option (Except Addr Fl×af):=(R c n).ex s e O
noncomputable def ml:List Nat:=[0,1,2,3]
theorem Mt(h:i<4):i∈ml:=(by decide+kernel:∀i,i<4->i∈ml) i h
set_option tactic.hygienic true in
theorem Mu(D:ah)(g:Int->Bool)(rows:List Str):ml.map (λ(i:Nat)=>mj av 38 (an (dy (an lg 1)) 0) ld (dj D g [(S "number",.t (.int (10+3*(i:Int))))] rows))=ml.map λ(i:Nat)=>some (.ok .next,dj D g (hJ (10+3*(i:Int))) rows++zL (10+3*(i:Int))):=by lk
set_option tactic.hygienic true in
theorem Mv(D:ah)(g:Int->Bool)(rows:List Str)(x:T):ml.map (λ(i:Nat)=>mj av 38 (an (dy (an lg 1)) 0) ld (dj D g [(S "number",.t (.int (10+3*(i:Int)))),(S "label",.t x)] rows))=ml.map λ(i:Nat)=>some (.ok .next,dj D g (hJ (10+3*(i:Int))) rows++zL (10+3*(i:Int))):=by lk
theorem Mw{D:ah}(h:D.Wf)(hn:n∈D.order):∃i:Nat,i∈ml/\n=10+3*(i:Int):=by
 refine al (i7.mp (i8.mp hn)) λi h1 h2=>?_;have:=h.m;exact⟨i,Mt (a6 h1 this),h2⟩
set_option tactic.hygienic true in
theorem Mx{D:ah}(h:D.Wf){g:Int->Bool}(hn:n∈D.order)(hw:w=[]\/∃x,w=[(S "label",V.t x)]):
  mj av 38 (an (dy (an lg 1)) 0) ld (dj D g ([(S "number",.t (.int n))]++w) rows)=some (.ok .next,dj D g (hJ n) rows++zL n):=by
 (refine ag (Mw h hn) λi c1=>ac c1 λhi bo=>?_;clear c1;clear hn;subst bo);exact oE w hw (gq (Mu D g rows) hi) λx=>gq (Mv D g rows x) hi
theorem B8(n:Int):gM ((n - 10).toNat/3)∈kZ:=BU _
set_option tactic.hygienic true in
theorem My{D:ah}(h:D.Wf){g:Int->Bool}{A:List Int}(ha:a∈D.order)(hl:A.length<100):
  cz av 38 ld (an lg 1) 2 (.int a) (dj D g (dZ hJ A) (A.map (cZ g)))=some (.ok .next,dj D g (dZ hJ (A++[a])) ((A++[a]).map (cZ g))):=by
 rw[B7];have hw:=nK hJ A;generalize dZ hJ A=w at hw;have h1:∃G,(G=[]\/∃x,G=[(S "label",V.t x)])/\(R av 38).as (dx (an lg 1)) ld (.t (.int a)) (dj D g w (A.map (cZ g)))=some (.ok (),dj D g ([(S "number",.t (.int a))]++G) (A.map (cZ g))):=by
  (refine a2 hw (λzz=>?_) (λzz=>?_);(try clear hw);subst zz;rotate_left;(try clear hw);refine ag zz λb bo=>?_;clear zz;subst bo;rotate_right)
  .exact⟨[],.inl rfl,by lk⟩
  .exact⟨[(S "label",.t (.str (nL b)))],.inr ⟨_,rfl⟩,by lk⟩
 refine al h1 λG d h1=>?_;have h2:(R av 38).ex (an (dy (an lg 1)) 0) ld (dj D g ([(S "number",.t (.int a))]++G) (A.map (cZ g)))=some (.ok .next,dj D g (hJ a) (A.map (cZ g))++zL a):=Mx h ha d;have v:=jO h ha;have l1:=hF (n:=a) (xj v);have l2:=pD _ (B8 a);have z:(cond (g a) (S " on ") (S " off ")).length<=5:=by cases g a<;>decide
 have C:=l2;refine(dJ (O2:=dj D g (hJ a) ((A++[a]).map (cZ g))++zL a) h1 (aW h2 (bv (v6 (i:=1) (U:=(A.map (cZ g)).map T.str) (u:= .str (cZ g a)) rfl ?_ rfl
  (jS (y:=nL a) (jS (pC (i:=a) (EK v) ?_) (v4 (v5 (t:=aS D.order g) (it:= .int a) (q:=g a) ?_ ?_) ?_) (lB (Nat.add_le_add l1 z) rfl)) ?_ ?_) (by rw[List.length_map,List.length_map];exact lB hl rfl) ?_)))).trans ?_
 .lk
 .lk
 .show bg (ax D.order g) (.int a)=_;exact rwm _ (rwm _ rfl (ec ha)) kW
 .lk
 .cases g a<;>lk
 .lk
 .rw[jd];exact lB (Nat.add_le_add (Nat.add_le_add l1 z) C) rfl
 .unfold dj;refine rwm _ (rwm _ ?_ i6) i6;rfl
 .rfl
theorem B9{D:ah}(h:D.Wf){g:Int->Bool}(hn:n∈D.order):(cZ g n).length<=30:=B4 (hF (by have:=jO h hn;exact xj this)) (pD _ (B8 n))
def cC(l:List Int)(g:Int->Bool):Str:=gz (l.map (cZ g))
theorem Mz(h1:vw v O=some (.list (a::l)))(h2:vw u O=some (.list [])):dQ .NotEq v u O=some (.ok true,O):=by
 show bm (aE v) (λx=>bm (aE u) λy=>om (gR .NotEq x y)) O=_;refine a0 (az (dY h1)) (rwm _ ?_ (az (dY h2)));rfl
theorem MA{D:ah}(h:D.Wf){g:Int->Bool}:br av 40 649 [cn D,.t (aF D.order g)] []=some (.ok (.t (.str (cC D.order g))),[]):=by
 have bb:D.order.length<=5:=by rw[gv];have:=h.m;exact l4 this
 have c:∀x∈D.order.map (cZ g),x.length<=100:=λx hx=>by
  (refine ag (hL.mp hx) λn c1=>ac c1 λhn bo=>?_;clear c1;clear hx;subst bo);have:=B9 (g:=g) h hn;exact lB this rfl
 have hw:=nK hJ D.order;have hl:=kQ T.int (λA=>dj D g (dZ hJ A) (A.map (cZ g))) (cz av 38 ld (an lg 1) 2) D.order λA a B e=>My h (by refine rwm _ ?_ e;simp) (by rw[e] at bb;simp at bb;exact tq bb);generalize dZ hJ D.order=w at hw hl;have bd:(D.order.map (cZ g)).length<=100:=by rw[List.length_map];exact lB bb rfl
 refine dU (e:=ld) (b:=lg) (E:=[.ns true [(S "told_of",cn D),(S "states",.t (aF D.order g))]]) (O2:=dj D g w (D.order.map (cZ g))++[.list []]) (v:= .t (.str (cC D.order g))) (by lk)
  (aW (E:=dj D g [] []) ?_ (aW (gp (O2:=dj D g [] []) hl ?_) (ci (eh ?_)))) rfl
 .lk
 .lk
 .unfold cC;generalize D.order.map (cZ g)=rows at c bd
  cases rows with
  |nil=>refine oE w hw ?_ λb=>?_<;>lk
  |cons a l=>
   refine vD (E:=dj D g w (a::l)++[.list []]) (ey (v:= .own 1) (u:= .own 2) (E:=dj D g w (a::l)) (O2:=dj D g w (a::l)++[.list []]) ?_ ?_ (Mz (a:= .str a) (l:=l.map T.str) rfl rfl))
    (kE (E:=dj D g w (a::l)++[.list []]) (O2:=dj D g w (a::l)++[.list []]) (M:= .t (.str (S "\n"))) (t:= .str (S "\n")) (L:=0) (k:=2) (vs:=[.own 1]) rfl ?_ rfl rfl rfl rfl ?_ (BY (l:=a::l) rfl (BW (by decide) bd c)))<;>refine oE w hw ?_ λb=>?_<;>lk
set_option tactic.hygienic true in
theorem lj{α:Type}(d:α->T)(P:List α->af->Prop)(F:T->MM Fl)(l:List α)(h0:P [] O)(H:∀A a B O,l=A++a::B->P A O->∃M,F (d a) O=some (.ok .next,M)/\P (A++[a]) M):
  ∃M,dD F (l.map d) O=some (.ok .next,M)/\P l M:=by
 have f:∀(l2 A:List α)(O:af),l=A++l2->P A O->∃M,dD F (l2.map d) O=some (.ok .next,M)/\P l M:=by
  intro l2
  induction l2 with
  |nil=>intro A O e h;rw[List.append_nil] at e;subst e;exact⟨O,rfl,h⟩
  |cons a l2 ih=>
   intro A O e h;refine al (H A a l2 O e h) λE h1 h2=>?_;refine al (ih (A++[a]) E (by rw[e,List.append_assoc];rfl) h2) λO2 h3 h4=>⟨O2,?_,h4⟩
   show bm (F (d a)) (λfl=>match fl with
    | .next=>dD F (l2.map d)
    | .ret v=>pm (.ret v)) O=_
   refine a0 (az h1) ?_;exact h3
 exact f l [] O rfl h0
noncomputable def ah.bq0(D:ah):Bool:=match D.base with
 |1=>false
 |_=>true
def ll:AE:=⟨aV (at_ 64),0,[(S "told_of",1)],S "_law_started"++nm ".<locals>.",643⟩
def nM:List Stmt:=ba (at_ 64)
def je(D:ah):af:=[.ns true [],.cell (some (cn D))]
def v8:Expr:=aY (a7 (bV (an nM 0))) 1
noncomputable def jT(q:Bool)(n:Int):T:= .tuple [.int n,.bool q]
def gA(D:ah)(w:List (Str×V))(f:Int->Bool):af:=[.ns true ([(S "states",.own 3)]++w),.cell (some (cn D)),.list (D.order.map (jT D.bq0)),.dict (ax D.order f)]
theorem MB{D:ah}(h:D.Wf):D.base=0\/D.base=1\/D.base=2:=rN h.base
theorem MC{D:ah}(h:D.Wf)(a:Int)(hw:w=[]\/∃b,w=[(S "number",V.t (.int b))]):
  cP av 36 ll v8 2 (.int a) (je D++[.ns false w])=some (.ok (some (jT D.bq0 a)),je D++[.ns false [(S "number",.t (.int a))]]):=by
 have hb:=MB h;clear h;rcases D with⟨m,rev,b,on,off,lk,rows,st,k⟩;dsimp only at hb;rcases hb with rfl|rfl|rfl<;>refine oE w hw ?_ λb=>?_<;>lk
set_option tactic.hygienic true in
theorem Ca{D:ah}{j:Expr}{f:Int->Bool}(k:Nat)(hk:(k=1/\b=true)\/(k=2/\b=false))(hw:w=[]\/∃x,w=[(S "number",V.t (.int x))])(l:List Int)(hl:∀n∈l,n∈D.order)(ho:D.order.length<100):
  ∃G,(G=[]\/∃x,G=[(S "number",V.t (.int x))])/\dD (cz av 38 ll (an nM k) 4) (l.map T.int) (gA D w f)=some (.ok .next,gA D G (bB f l b)):=by
 (refine ag (lj T.int (λA O=>∃G,(G=[]\/∃x,G=[(S "number",V.t (.int x))])/\O=gA D G (bB f A b)) (cz av 38 ll (an nM k) 4) l (O:=gA D w f) ⟨w,hw,rfl⟩ λA a B O e Y=>by
  obtain⟨G,d,rfl⟩:=Y;have ha:=hl a (by refine rwm _ ?_ e;simp);refine⟨gA D [(S "number",.t (.int a))] (bB f (A++[a]) b),?_,_,.inr ⟨a,rfl⟩,rfl⟩;have h1:(R av 38).as (dx (an nM k)) ll (.t (.int a)) (gA D G (bB f A b))=some (.ok (),gA D [(S "number",.t (.int a))] (bB f A b)):=by
   rcases hk with⟨rfl,rfl⟩|⟨rfl,rfl⟩<;>refine oE G d ?_ λb=>?_<;>lk
  have h2:aR (R av 38) ll (dy (an nM k)) (gA D [(S "number",.t (.int a))] (bB f A b))=some (.ok .next,(gA D [(S "number",.t (.int a))] (bB f A b)).set 3 (.dict (bj (ax D.order (bB f A b)) (.int a) (.bool b)))):=by
   rcases hk with⟨rfl,rfl⟩|⟨rfl,rfl⟩<;>refine bv (l7 (k:=3) (it:= .int a) (t:= .bool _) (N:=ax D.order (bB f A _)) (by rw[fX];exact lB ho rfl) rfl ?_ rfl ?_)<;>lk
  exact(dJ h1 h2).trans (by refine rwm _ (rwm _ ?_ (rW ha)) (ek (hY 4));rfl)) λM c3=>?_;refine ac c3 λh1 bi=>ag bi λG c1=>ac c1 λd bo=>?_;clear c1;clear c3 bi;subst bo)
 exact⟨G,d,h1⟩
theorem MD{D:ah}(h:D.Wf):br av 40 644 [cn D] []=some (.ok (.t (aS D.order (startF D.bq0 D.on D.off))),[]):=by
 have bb:D.order.length<=5:=by rw[gv];have:=h.m;exact l4 this
 have c:bZ (cP av 36 ll v8 2) (D.order.map T.int) [] (je D++[.ns false []])=some (.ok (D.order.map (jT D.bq0)),je D++[.ns false (cO T.int (S "number") D.order)]):=by
  have:=jR T.int (S "number") (λn=>some (jT D.bq0 n)) (cP av 36 ll v8 2) (je D) D.order (lB bb rfl) λa ha w hw=>MC h a hw;refine a0 this ?_
  congr 2
  exact rwm _ rfl lt
 have hd:(R av 37).call (.t (.typ "dict")) [.own 2] (je D++[.list (D.order.map (jT D.bq0))])=some (.ok (.own 3),je D++[.list (D.order.map (jT D.bq0))]++[.dict (ax D.order λ_=>D.bq0)]):=
  by exact vX (O:=je D++[MO.list (D.order.map (jT D.bq0))]) (g:=λ_=>D.bq0) (kR D) (lC bb rfl)
 refine al (Ca (D:=D) (j:=g7) (b:=true) (f:=λ_=>D.bq0) (w:=[]) 1 (.inl ⟨rfl,rfl⟩) (.inl rfl) D.on (λn hn=>i8.mpr (h.on.2 n hn)) (lC bb rfl)) λd i L1=>al (Ca (D:=D) (j:=g7) (b:=false) (f:=bB (λ_=>D.bq0) D.on true) (w:=d) 2 (.inr ⟨rfl,rfl⟩) i D.off (λn hn=>i8.mpr (h.off.2 n hn)) (lC bb rfl)) λI Q t=>dU (e:=ll) (b:=nM) (E:=[.ns true [],.cell (some (cn D))]) (O2:=gA D I (startF D.bq0 D.on D.off)) (v:= .own 3) (by lk)
  (aW (E:=gA D [] λ_=>D.bq0) (nx (v:= .own 3) (E:=je D++[.list (D.order.map (jT D.bq0))]++[.dict (ax D.order λ_=>D.bq0)]) (by lk)
   (aO (fv:= .t (.typ "dict")) (vs:=[.own 2]) (E:=je D++[.list (D.order.map (jT D.bq0))]) rfl ?_ (bx (l5 c rfl rfl ?_) cb) ?_ hd) ?_)
   (aW (gp (O2:=gA D [] λ_=>D.bq0) L1 ?_) (aW (gp (O2:=gA D d (bB (λ_=>D.bq0) D.on true)) t ?_) (ci ?_)))) rfl
 .lk
 .lk
 .lk
 .lk
 .lk
 .refine oE d i ?_ λx=>?_<;>lk
 .refine oE I Q ?_ λx=>?_<;>lk
def v9:b8:=iZ λx O=>nl O (rZ x λD=>yes (aF D.order (startF D.bq0 D.on D.off)) [])
theorem ME:cG (R av 40) 644 v9:=jG λx O q h s _=>bT h λh=>v7 h s λD hw h=>by
 cases h;exact⟨[cn D],[],_,⟨TC.refl _,trivial⟩,trivial,MD hw,TC.box (TC.refl _) ⟨kR D,rfl⟩,trivial⟩
def r5:b8:=jH λx y O=>nl O (rZ x λD=>aT y λt=>kY t λl g=>gu (l=D.order) (yes (.str (cC D.order g)) []))
theorem MF:cG (R av 40) 649 r5:=nu λx y O q h s s2 _=>bT h λh=>v7 h s λD hw h=>vZ h s2 λl g hn h=>by
 refine ac (iq h) λhl b5=>?_;clear hn h;subst hl;clear h;cases b5;exact⟨[cn D,.t (aF D.order g)],[],_,⟨TC.refl _,TC.refl _,trivial⟩,trivial,MA hw,TC.refl _,trivial⟩
def dk(n:Int)(b:Bool)(f:Int->Bool)(rows:List (List Int)):Int->Bool:=rows.foldl (λf c=>cond (b&&dW n c) (bB f c false) f) f
def eL(rows:List (List Int))(st:Int->Bool)(n:Int)(b:Bool)(x:Int):Bool:=if x=n then b else dk n b st rows x
theorem wa(n:Int)(b:Bool)(f:Int->Bool)(rows:List (List Int))(r:List Int):dk n b f (rows++[r])=cond (b&&dW n r) (bB (dk n b f rows) r false) (dk n b f rows):=by
 unfold dk;refine a0 List.foldl_append ?_;rfl
def mn:AE:=⟨aV (at_ 66),0,[],S "_law_switched"++nm ".<locals>.",655⟩
def r7:List Stmt:=ba (at_ 66)
def eM(D:ah)(K:T)(n:Int)(b:Bool)(w:List (Str×V))(N:List (aj×T)):af:=[.ns true ([(S "told_of",cn D),(S "states",.t K),(S "number",.t (.int n)),(S "is_on",.t (.bool b)),(S "later",.own 1)]++w),.dict N]
def pE(w:List (Str×V)):Prop:=w=[]\/(∃x,w=[(S "row",V.t (ak x))])\/∃x y,w=[(S "row",V.t (ak x)),(S "other",V.t (.int y))]
def jf(c:List Int)(w:List (Str×V)):Prop:=(w=[(S "row",V.t (ak c))])\/∃y,w=[(S "row",V.t (ak c)),(S "other",V.t (.int y))]
@[elab_as_elim] theorem mq{P:List (Str×V)->Prop}(w:List (Str×V))(h:jf c w)(k:P [(S "row",V.t (ak c))])(U:∀y,P [(S "row",V.t (ak c)),(S "other",V.t (.int y))]):P w:=by
 (refine a2 h (λzz=>?_) (λzz=>?_);(try clear h);subst zz;rotate_left;(try clear h);refine ag zz λy bo=>?_;clear zz;subst bo;rotate_right)
 .exact k
 .exact U y
theorem Cb{r:aG}{O:af}{t:List (aj×T)}(hl:t.length<1000)(h:r.ev x e O=jv "dict" (.dict t) O):r.ev x e O=some (.ok (.own O.length),O++[.dict t]):=h.trans (by
 show d4 ((if aJ t.length then bP (.dict t) else λ_=>none:MM V) _) _=_;refine rwm _ (rwm _ ?_ (ec rfl)) (eY (Nat.le_of_succ_le hl));rfl)
def sb:Stmt:=an (dy (an r7 1)) 0
section
variable {D:ah}{K:T}{n:Int}{b:Bool}
set_option tactic.hygienic true in
theorem MG(f:Int->Bool)(c:List Int)(hr:∀x∈c,x∈D.order)(ho:D.order.length<100)(hw:jf c w):
  ∃G,jf c G/\dD (cz av 37 mn sb 2) (c.map T.int) (eM D K n b w (ax D.order f))=some (.ok .next,eM D K n b G (ax D.order (cond (b&&dW n c) (bB f c false) f))):=by
 (refine ag (lj T.int (λA O=>∃G,jf c G/\O=eM D K n b G (ax D.order (cond (b&&dW n c) (bB f A false) f))) (cz av 37 mn sb 2) c
  ⟨w,hw,by rw[rU λx _=>by cases(b&&dW n c)<;>rfl]⟩ λA a B O e Y=>by
  obtain⟨G,d,rfl⟩:=Y;have ha:=hr a (by refine rwm _ ?_ e;simp);generalize hf:cond (b&&dW n c) (bB f A false) f=f1;refine⟨eM D K n b [(S "row",.t (ak c)),(S "other",.t (.int a))] (ax D.order (cond (b&&dW n c) (bB f (A++[a]) false) f)),?_,_,.inr ⟨a,rfl⟩,rfl⟩;have h1:(R av 37).as (dx sb) mn (.t (.int a)) (eM D K n b G (ax D.order f1))=some (.ok (),eM D K n b [(S "row",.t (ak c)),(S "other",.t (.int a))] (ax D.order f1)):=by
   refine mq G d ?_ λb=>?_<;>lk
  have ht:(R av 36).test (bV (an (dy sb) 0)) mn (eM D K n b [(S "row",.t (ak c)),(S "other",.t (.int a))] (ax D.order f1))=some (.ok (b&&dW n c),eM D K n b [(S "row",.t (ak c)),(S "other",.t (.int a))] (ax D.order f1)):=by
   cases b with
   |false=>lk
   |true=>exact Lk (by lk) (pg (nC n c) (by lk))
  cases hc:(b&&dW n c) with
  |false=>
   rw[hc] at ht hf;exact(dJ h1 (bv (l9 ht gm))).trans (by refine rwm _ (rwl _ ?_ hf) (ek (hY 2));rfl)
  |true=>
   rw[hc] at ht hf;subst hf;refine(dJ h1 (bv (l8 ht (bv (l7 (k:=1) (it:= .int a) (t:= .bool false) (N:=ax D.order (bB f A false)) (by rw[fX];exact lB ho rfl) rfl ?_ rfl ?_))))).trans ?_
   .lk
   .lk
   .refine rwm _ (rwm _ ?_ (rW ha)) (ek (hY 2));rfl) λM c3=>?_;refine ac c3 λh1 bi=>ag bi λG c1=>ac c1 λd bo=>?_;clear c1;clear c3 bi;subst bo)
 exact⟨G,d,h1⟩
theorem MH(h:D.Wf){st:Int->Bool}(hn:n∈D.order):br av 40 656 [cn D,.t (aF D.order st),.t (.int n),.t (.bool b)] []=some (.ok (.t (aS D.order (eL D.rows st n b))),[]):=by
 have bb:D.order.length<=5:=by rw[gv];have:=h.m;exact l4 this
 (refine ag (lj ak (λA O=>∃G,pE G/\O=eM D (aF D.order st) n b G (ax D.order (dk n b st A))) (cz av 38 mn (an r7 1) 2) D.rows (O:=eM D (aF D.order st) n b [] (ax D.order st)) ⟨[],.inl rfl,rfl⟩ λA c B O e Y=>by
  obtain⟨G,d,rfl⟩:=Y;have hr:∀x∈c,x∈D.order:=λx hx=>i8.mpr ((h.rows c (by refine rwm _ ?_ e;simp)).2 x hx);have h1:∃I,jf c I/\(R av 38).as (dx (an r7 1)) mn (.t (ak c)) (eM D (aF D.order st) n b G (ax D.order (dk n b st A)))=some (.ok (),eM D (aF D.order st) n b I (ax D.order (dk n b st A))):=by
   rcases d with rfl|⟨x,rfl⟩|⟨x,y,rfl⟩
   .exact⟨_,.inl rfl,by lk⟩
   .exact⟨_,.inl rfl,by lk⟩
   .exact⟨_,.inr ⟨y,rfl⟩,by lk⟩
  obtain⟨I,Q,h1⟩:=h1;obtain⟨w3,f,h3⟩:=MG (K:=aF D.order st) (n:=n) (b:=b) (dk n b st A) c hr (lC bb rfl) Q;refine⟨_,(dJ h1 (bv (gp (O2:=eM D (aF D.order st) n b I (ax D.order (dk n b st A))) h3 ?_))).trans (by exact rwm _ rfl (ek (hY 2))),w3,?_,by rw[wa]⟩
  .refine mq I Q ?_ λb=>?_<;>lk
  .exact mq w3 f (.inr (.inl ⟨c,rfl⟩)) λy=> .inr (.inr ⟨c,y,rfl⟩)) λM c3=>?_;refine ac c3 λL1 bi=>ag bi λG c1=>ac c1 λd bo=>?_;clear c1;clear c3 bi;subst bo)
 refine dU (e:=mn) (b:=r7) (E:=[.ns true [(S "told_of",cn D),(S "states",.t (aF D.order st)),(S "number",.t (.int n)),(S "is_on",.t (.bool b))]])
  (O2:=eM D (aF D.order st) n b G (ax D.order (eL D.rows st n b))) (v:= .own 1) (by lk) (aW (E:=eM D (aF D.order st) n b [] (ax D.order st)) (nx (v:= .own 1) (by lk) (Cb (t:=ax D.order st) ?_ ?_) ?_)
   (aW (gp (O2:=eM D (aF D.order st) n b [] (ax D.order st)) L1 ?_)
   (aW (E:=eM D (aF D.order st) n b G (ax D.order (eL D.rows st n b))) ((l7 (k:=1) (it:= .int n) (t:= .bool b) (N:=ax D.order (dk n b st D.rows)) ?_ rfl ?_ rfl ?_).trans ?_) (ci ?_)))) rfl
 .rw[fX];exact lC bb rfl
 .lk
 .lk
 .lk
 .rw[fX];exact lC bb rfl
 .refine nw G d ?_ (λx=>?_) λx y=>?_<;>lk
 .refine nw G d ?_ (λx=>?_) λx y=>?_<;>lk
 .refine rwm _ ?_ (vU hn);rfl
 .refine nw G d ?_ (λx=>?_) λx y=>?_<;>lk
end
def sd:b8:=rD λx y z u O=>nl O (rZ x λD=>aT y λt=>kY t λl st=>aT z λz=>fL z λn=>aT u λu=>tS u λb=>gu (l=D.order/\n∈D.order) (yes (aF D.order (eL D.rows st n b)) []))
theorem MI:cG (R av 40) 656 sd:=Bb λx y z u O q h s s2 _ _ _=>bT h λh=>v7 h s λD hw h=>vZ h s2 λl st hn h=>bY h λz h=>ib h λn h=>bY h λu h=>xM h λb h=>by
 (refine ac (iq h) λc7 b5=>?_;rcases c7 with⟨hl,hm⟩);clear hn h;subst hl;clear h;cases b5;exact⟨[cn D,.t (aF D.order st),.t (.int n),.t (.bool b)],[],_,⟨TC.refl _,TC.refl _,TC.refl _,TC.refl _,trivial⟩,trivial,MH hw hm,TC.box (TC.refl _) ⟨kR D,rfl⟩,trivial⟩
noncomputable def nN:Stmt->List Stmt
 | .If _ b _ _=>b
 |_=>[]
section
variable {c:aN}{n:Nat}{e:AE}{O E O2 O3:af}{r:aG}
theorem jU(h:r.ex s e O=some (.error C,E)):aR r e (s::l) O=some (.error C,E):=by
 show bm (r.ex s e) _ O=_;unfold bm;exact rwm _ rfl h
theorem Cc{be:List Expr}(ha:be.all noStar=true)(hn:cu (Pc c).glob e x O=some (.ok (.t (.top C)),O))(hC:(Pc c).exc C=true)(hv:a8 (R c n) e be O=some (.ok [.t (.str s)],E)):
  (R c (n+1)).ex (.Raise (some (.Call (.Name x xp) be [] p)) none B) e O=some (.error C,E):=by
 show(if be.all noStar then bm (cu (Pc c).glob e x) λf=>match f with
  | .t (.top C)=>if(Pc c).exc C then bm (a8 (R c n) e be) λvs=>match vs with
   |[.t (.str _)]=>λO=>some (.error C,O)
   |_=>λ_=>none
   else λ_=>none
  |_=>λ_=>none
  else λ_=>none:MM Fl) O=_
 refine rwm _ (rwm _ (rwm _ ?_ (az hn)) (ec rfl)) ha
 show(if(Pc c).exc C then bm (a8 (R c n) e be) λvs=>match vs with
   |[.t (.str _)]=>λO=>some (.error C,O)
   |_=>λ_=>none
   else λ_=>none:MM Fl) O=_
 exact rwm _ (rwm _ (rwm _ rfl (az hv)) (ec rfl)) hC
end
def fY:AE:=⟨aV (at_ 44),0,[],S "switched"++nm ".<locals>.",544⟩
def lm:List Stmt:=ba (at_ 44)
def hM(l:List Int)(st:Int->Bool)(C:T)(n:Int)(b:Bool):af:=[.ns true [(S "states",.t (aF l st)),(S "config",.t C),(S "number",.t (.int n)),(S "is_on",.t (.bool b))]]
def dm(l:List Int)(st:Int->Bool)(C:T)(n:Int)(b:Bool)(w:List (Str×V))(N:List (aj×T)):af:=[.ns true ([(S "states",.t (aF l st)),(S "config",.t C),(S "number",.t (.int n)),(S "is_on",.t (.bool b)),(S "found",.own 1)]++w),.dict N]
def pF:Stmt:=an (nN (an lm 3)) 0
def se:Stmt:=an (nN (an (dy pF) 0)) 0
section
variable {l lk:List Int}{st:Int->Bool}{H:Str}{on off:List Int}{rows:List (List Int)}{od o:T}{n:Int}{b:Bool}
abbrev dz(H:Str)(on off:List Int)(rows:List (List Int))(lk:List Int)(od o:T):T:=eZ H on off (.list (rows.map ak)) (ak lk) od o
def C5(H:Str)(on off:List Int)(rows:List (List Int))(lk:List Int)(od o:T)(l:List Int)(st:Int->Bool)(n:Int)(b:Bool):List V:=[.t (aF l st),.t (dz H on off rows lk od o),.t (.int n),.t (.bool b)]
theorem wb:(R av 38).test (bV (an lm 0)) fY (hM l st C n b)=some (.ok (!decide (n∈l)),hM l st C n b):=Bh (rV (f:=st)) (by lk)
theorem Cd:(R av 38).test (bV (an lm 1)) fY (hM l st (dz H on off rows lk od o) n b)=some (.ok (dW n lk),hM l st (dz H on off rows lk od o) n b):=pg (nC n lk) (by lk)
theorem MJ(hn:n∉l)(hb:0<=n/\n<=31):br av 40 545 (C5 H on off rows lk od o l st n b) []=some (.error 59,hM l st (dz H on off rows lk od o) n b):=by
 have ht:=wb (l:=l) (st:=st) (C:=dz H on off rows lk od o) (n:=n) (b:=b);rw[decide_eq_false hn] at ht;refine rJ (e:=fY) (b:=lm) (E:=hM l st (dz H on off rows lk od o) n b) (by lk) (jU (l8 ht (jU (Cc (s:=S "no group "++dq n) rfl ?_ ?_ (ny (jS ?_ (pC (tA hb) ?_) ?_) cb)))))
 .lk
 .lk
 .lk
 .lk
 .have:(S "no group ").length=9:=by decide
  exact lB (Nat.add_le_add (ej this) (hF hb)) rfl
theorem MK(hn:n∈l)(hk:n∈lk)(hb:0<=n/\n<=31):br av 40 545 (C5 H on off rows lk od o l st n b) []=some (.error 59,hM l st (dz H on off rows lk od o) n b):=by
 have ht:=wb (l:=l) (st:=st) (C:=dz H on off rows lk od o) (n:=n) (b:=b);rw[decide_eq_true hn] at ht;have hu:=Cd (l:=l) (st:=st) (H:=H) (on:=on) (off:=off) (rows:=rows) (lk:=lk) (od:=od) (o:=o) (n:=n) (b:=b);rw[Bt hk] at hu;have hl:=hF hb;refine rJ (e:=fY) (b:=lm) (E:=hM l st (dz H on off rows lk od o) n b) (by lk) (aW (l9 ht gm) (jU (l8 hu (jU (Cc (s:=S "the group "++dq n++S " is locked") rfl ?_ ?_ (ny (jS (y:=S " is locked") (jS (x:=S "the group ") ?_ (pC (i:=n) (tA hb) ?_) ?_) ?_ ?_) cb))))))
 .lk
 .lk
 .lk
 .lk
 .have:(S "the group ").length=10:=by decide
  exact lB (Nat.add_le_add (ej this) hl) rfl
 .lk
 .have h1:(S "the group ").length=10:=by decide
  have h2:(S " is locked").length=10:=by decide
  rw[jd];exact Ft hl h1 h2
set_option tactic.hygienic true in
theorem ML(f:Int->Bool)(c:List Int)(ho:l.length<100)(hw:jf c w):
  ∃G,jf c G/\dD (cz av 35 fY se 2) (c.map T.int) (dm l st C n b w (ax l f))=some (.ok .next,dm l st C n b G (ax l (bB f c false))):=by
 (refine ag (lj T.int (λA O=>∃G,jf c G/\O=dm l st C n b G (ax l (bB f A false))) (cz av 35 fY se 2) c (O:=dm l st C n b w (ax l f))
  ⟨w,hw,rfl⟩ λA a B O e Y=>by
  obtain⟨G,d,rfl⟩:=Y;refine⟨dm l st C n b [(S "row",.t (ak c)),(S "other",.t (.int a))] (ax l (bB f (A++[a]) false)),?_,_,.inr ⟨a,rfl⟩,rfl⟩;have h1:(R av 35).as (dx se) fY (.t (.int a)) (dm l st C n b G (ax l (bB f A false)))=some (.ok (),dm l st C n b [(S "row",.t (ak c)),(S "other",.t (.int a))] (ax l (bB f A false))):=by
   refine mq G d ?_ λb=>?_<;>lk
  have ht:(R av 34).test (bV (an (dy se) 0)) fY (dm l st C n b [(S "row",.t (ak c)),(S "other",.t (.int a))] (ax l (bB f A false)))=some (.ok (decide (a∈l)),dm l st C n b [(S "row",.t (ak c)),(S "other",.t (.int a))] (ax l (bB f A false))):=
   pg (rV (f:=bB f A false)) (by lk)
  by_cases ha:a∈l
  .rw[decide_eq_true ha] at ht;refine(dJ h1 (bv (l8 ht (bv (l7 (k:=1) (it:= .int a) (t:= .bool false) (N:=ax l (bB f A false)) (by rw[fX];exact lB ho rfl) rfl ?_ rfl ?_))))).trans ?_
   .lk
   .lk
   .refine rwm _ (rwm _ ?_ (rW ha)) (ek (hY 2));rfl
  .rw[decide_eq_false ha] at ht;exact(dJ h1 (bv (l9 ht gm))).trans (by exact rwm _ (rwm _ rfl (BK ha)) (ek (hY 2)))) λM c3=>?_;refine ac c3 λh1 bi=>ag bi λG c1=>ac c1 λd bo=>?_;clear c1;clear c3 bi;subst bo)
 exact⟨G,d,h1⟩
theorem MN(n:Int)(f:Int->Bool)(rows:List (List Int)):dk n false f rows=f:=by
 unfold dk
 induction rows with
 |nil=>rfl
 |cons a l ih=>refine a0 List.foldl_cons ?_;exact ih
set_option tactic.hygienic true in
theorem MP(rows:List (List Int))(ho:l.length<100):∃G,pE G/\dD (cz av 37 fY pF 2) (rows.map ak) (dm l st C n true [] (ax l st))=some (.ok .next,dm l st C n true G (ax l (dk n true st rows))):=by
 (refine ag (lj ak (λA O=>∃G,pE G/\O=dm l st C n true G (ax l (dk n true st A))) (cz av 37 fY pF 2) rows ⟨[],.inl rfl,rfl⟩ λA c B O e Y=>by
  obtain⟨G,d,rfl⟩:=Y;have h1:∃I,jf c I/\(R av 37).as (dx pF) fY (.t (ak c)) (dm l st C n true G (ax l (dk n true st A)))=some (.ok (),dm l st C n true I (ax l (dk n true st A))):=by
   rcases d with rfl|⟨x,rfl⟩|⟨x,y,rfl⟩
   .exact⟨_,.inl rfl,by lk⟩
   .exact⟨_,.inl rfl,by lk⟩
   .exact⟨_,.inr ⟨y,rfl⟩,by lk⟩
  obtain⟨I,Q,h1⟩:=h1;have ht:(R av 36).test (bV (an (dy pF) 0)) fY (dm l st C n true I (ax l (dk n true st A)))=some (.ok (dW n c),dm l st C n true I (ax l (dk n true st A))):=
   pg (nC n c) (by refine mq I Q ?_ λy=>?_<;>lk)
  have up:∀{w},jf c w->pE w:=λ{w} h=>mq w h (.inr (.inl ⟨c,rfl⟩)) λy=> .inr (.inr ⟨c,y,rfl⟩)
  cases hc:dW n c with
  |false=>
   rw[hc] at ht;exact⟨_,(dJ h1 (bv (l9 ht gm))).trans (by exact rwm _ rfl (ek (hY 2))),I,up Q,by rw[wa,hc];rfl⟩
  |true=>
   rw[hc] at ht;obtain⟨w3,f,h3⟩:=ML (dk n true st A) c ho Q;refine⟨_,(dJ h1 (bv (l8 ht (bv (gp (O2:=dm l st C n true I (ax l (dk n true st A))) h3 ?_))))).trans (by exact rwm _ rfl (ek (hY 2))),w3,up f,by rw[wa,hc];rfl⟩;refine mq I Q ?_ λy=>?_<;>lk) λM c3=>?_;refine ac c3 λL1 bi=>ag bi λG c1=>ac c1 λd bo=>?_;clear c1;clear c3 bi;subst bo)
 exact⟨G,d,L1⟩
set_option tactic.hygienic true in
theorem MQ(hn:n∈l)(hk:n∉lk)(hl:l.length<100):br av 40 545 (C5 H on off rows lk od o l st n b) []=some (.ok (.t (aS l (eL rows st n b))),[]):=by
 have ht:=wb (l:=l) (st:=st) (C:=dz H on off rows lk od o) (n:=n) (b:=b);rw[decide_eq_true hn] at ht;have hu:=Cd (l:=l) (st:=st) (H:=H) (on:=on) (off:=off) (rows:=rows) (lk:=lk) (od:=od) (o:=o) (n:=n) (b:=b);rw[rM hk] at hu;have h3:∃G,pE G/\(R av 39).ex (an lm 3) fY (dm l st (dz H on off rows lk od o) n b [] (ax l st))=some (.ok .next,dm l st (dz H on off rows lk od o) n b G (ax l (dk n b st rows))):=by
  cases b with
  |false=>exact⟨[],.inl rfl,by rw[MN];lk⟩
  |true=>
   refine al (MP (l:=l) (st:=st) (n:=n) (C:=dz H on off rows lk od o) rows hl) λG d L1=>⟨G,d,l8 (by lk) (bv (gp (O2:=dm l st (dz H on off rows lk od o) n true [] (ax l st)) L1 (by lk)))⟩
 refine al h3 λG d h3=>dU (e:=fY) (b:=lm) (E:=hM l st (dz H on off rows lk od o) n b) (O2:=dm l st (dz H on off rows lk od o) n b G (ax l (eL rows st n b))) (v:= .own 1) (by lk)
  (aW (l9 ht gm) (aW (l9 hu gm) (aW (E:=dm l st (dz H on off rows lk od o) n b [] (ax l st)) (nx (v:= .own 1) (by lk) (Cb (t:=ax l st) ?_ ?_) ?_)
   (aW (s:=an lm 3) h3 (aW (E:=dm l st (dz H on off rows lk od o) n b G (ax l (eL rows st n b))) ((l7 (k:=1) (it:= .int n) (t:= .bool b) (N:=ax l (dk n b st rows)) ?_ rfl ?_ rfl ?_).trans ?_) (ci ?_)))))) rfl
 .rw[fX];exact lB hl rfl
 .lk
 .lk
 .rw[fX];exact lB hl rfl
 .refine nw G d ?_ (λx=>?_) λx y=>?_<;>lk
 .refine nw G d ?_ (λx=>?_) λx y=>?_<;>lk
 .refine rwm _ ?_ (vU hn);rfl
 .refine nw G d ?_ (λx=>?_) λx y=>?_<;>lk
end
def mr:T->List (List Int)
 | .list U=>U.map cy
 |_=>[]
theorem Ce(rows:List (List Int)):mr (.list (rows.map ak))=rows:=by
 unfold mr;dsimp only;refine a0 md ?_;exact(kv (λr _=>pq r)).trans (List.map_id rows)
def nO(v:T):T:=dz (Md (gy 0 v)) (cy (gy 1 v)) (cy (gy 2 v)) (mr (gy 3 v)) (cy (gy 4 v)) (gy 5 v) (gy 6 v)
theorem MR(H:Str)(on off:List Int)(rows:List (List Int))(lk:List Int)(od o:T):nO (dz H on off rows lk od o)=dz H on off rows lk od o:=by
 show dz H (cy (ak on)) (cy (ak off)) (mr (.list (rows.map ak))) (cy (ak lk)) od o=_;rw[pq,pq,pq,Ce]
open Classical in
def pG(l:List Int)(st:Int->Bool)(v:T)(n:Int)(b:Bool):cF:=gu (v=nO v/\l.length<100/\0<=n/\n<=31) (if n∈l/\n∉cy (gy 4 v) then yes (aF l (eL (mr (gy 3 v)) st n b)) [] else some (some (.error 59,hM l st v n b)))
def sf:b8:=rD λx y z u O=>nl O (aT x λt=>kY t λl st=>aT y λv=>aT z λz=>fL z λn=>aT u λu=>tS u λb=>pG l st v n b)
theorem MS:cG (R av 40) 545 sf:=Bb λx y z u O q h s _ _ _ _=>bT h λh=>vZ h s λl st hn h=>bY h λv h=>bY h λz h=>ib h λn h=>bY h λu h=>xM h λb h=>by
 (refine ac (iq h) λc7 h=>?_;rcases c7 with⟨h1,h2,h3⟩)
 by_cases hc:n∈l/\n∉cy (gy 4 v)
 .rw[if_pos hc] at h;cases h;refine⟨[.t (aF l st),.t (nO v),.t (.int n),.t (.bool b)],[],(.ok (.t (aS l (eL (mr (gy 3 v)) st n b))),[]),⟨TC.refl _,VC.ofEq h1,TC.refl _,TC.refl _,trivial⟩,trivial,?_,TC.box (TC.refl _) ⟨hn,rfl⟩,trivial⟩;exact MQ hc.1 hc.2 h2
 .rw[if_neg hc] at h;cases h;refine⟨[.t (aF l st),.t (nO v),.t (.int n),.t (.bool b)],[],(.error 59,hM l st (nO v) n b),⟨TC.refl _,VC.ofEq h1,TC.refl _,TC.refl _,trivial⟩,trivial,?_,rfl,?_⟩
  .by_cases hm:n∈l
   .exact MK hm (p9 λhk=>hc ⟨hm,hk⟩) h3
   .exact MJ hm h3
  .refine rwl _ ?_ h1;exact SC.refl _
def k6:aN:=bp 545 sf k5
theorem MT:aC k6 260:=aC.add aC.start B3 (by decide) MS
def cX(D:ah)(K:T):Option (Int->Bool):=d4 (qr K (some D.startF)) (kY K λl st=> @ite _ (l=D.all) (Classical.propDecidable _) (some st) none)
theorem Cf{D:ah}{K:T}{g:Int->Bool}{P:T->(Int->Bool)->Prop}(h:cX D K=some g)(k0:P (.dict []) D.startF)(k1:∀st t,P (.box (.sts D.all st) t) st):P K g:=by
 refine gN h (λh=>?_) λh=>?_
 .exact tT h λh=>ai h▸k0
 .refine jp h λa X h=>xU h λl st h=>?_;(refine ac (@eU _ _ (Classical.propDecidable _) _ _ h) λc2 q1=>?_;clear h;subst c2);exact ai q1▸k1 _ _
theorem Cg{D:ah}{K:T}{g:Int->Bool}(h:cX D K=some g):mh [au D,.t K] []=yes (aF D.all g) []:=
 Cf (P:=λK g=>mh [au D,.t K] []=yes (aF D.all g) []) h rfl λst t=>fW (p:=D.all=D.all) rfl
def Ch:Nat->Str
 |0=>S "10"
 |1=>S "13"
 |2=>S "16"
 |3=>S "19"
 |4=>S "22"
 |_=>S "x"
def fb:Nat->Str
 |0=>S "on"
 |1=>S "off"
 |2=>S "of"
 |3=>S ""
 |_=>S "on on"
def bR(i j:Nat):Str:=Ch i++S " "++fb j
noncomputable def lp:List Nat:=[0,1,2,3,4,5]
noncomputable def fD:List Nat:=[0,1,2,3,4]
noncomputable def wc{α:Type}:Option (Except Addr α×af)->Option Addr
 |some (.error c,_)=>some c
 |_=>none
theorem Ci{α:Type}{q:Option (Except Addr α×af)}{c:Addr}(h:wc q=some c):∃X,q=some (.error c,X):=by
 match q with
 |some (.error d,X)=>cases h;exact⟨X,rfl⟩
 |some (.ok _,_)=>exact nso h
 |none=>exact nso h
def fZ:AE:=⟨aV (at_ 55),0,[],S "switch_told"++nm ".<locals>.",601⟩
def iC:List Stmt:=ba (at_ 55)
def pH(D:ah)(K:T)(s:Str):af:=[.ns true [(S "shelf",au D),(S "kept",.t K),(S "rest",.t (.str s))]]
def el(D:ah)(K:T)(s:Str)(i j:Nat):af:=[.ns true [(S "shelf",au D),(S "kept",.t K),(S "rest",.t (.str s)),(S "word",.t (.str (Ch i))),(S "way",.t (.str (fb j)))]]
def MU(c:aN)(n:Nat)(e:AE)(l:List Stmt)(O:af):Option (Except Addr Fl×af):=aR (R c n) e l O
set_option tactic.hygienic true in
theorem MV(D:ah)(K:T):lp.map (λi=>fD.map λj=>mj k6 39 (an iC 0) fZ (pH D K (bR i j)))=lp.map λi=>fD.map λj=>some (.ok .next,el D K (bR i j) i j):=by lk
theorem MW(D:ah)(K:T)(s:Str)(i:Nat):[2,3,4].map (λj=>wc (mj k6 39 (an iC 1) fZ (el D K s i j)))=[2,3,4].map λj=>some 71:=by lk
set_option tactic.hygienic true in
theorem MX(D:ah)(K:T)(s:Str)(i:Nat):[0,1].map (λj=>mj k6 39 (an iC 1) fZ (el D K s i j))=[0,1].map λj=>some (.ok .next,el D K s i j):=by lk
def nP:Expr:=bV (an iC 2)
def sg(c:aN)(n:Nat)(x:Expr)(e:AE)(O:af):Option (Except Addr V×af):=(R c n).ev x e O
theorem MY(D:ah)(K:T)(s:Str)(j:Nat):fD.map (λ(i:Nat)=>sg k6 37 (aY (a7 nP) 3) fZ (el D K s i j))=fD.map λ(i:Nat)=>some (.ok (.t (.int (10+3*(i:Int)))),el D K s i j):=by lk
theorem MZ(D:ah)(K:T)(s:Str)(j:Nat):wc (sg k6 37 (aY (a7 nP) 3) fZ (el D K s 5 j))=some 71:=by lk
theorem M0(D:ah)(K:T)(s:Str)(i:Nat):[0,1].map (λj=>sg k6 37 (aY (a7 nP) 4) fZ (el D K s i j))=[0,1].map λj=>some (.ok (.t (.bool (Nat.beq j 0))),el D K s i j):=by lk
section
variable {c:aN}{n:Nat}{e:AE}{O E O2 O3:af}{r:aG}
theorem M1{a:Expr}{l:List Expr}{C:Addr}(h:r.ev a e O=some (.error C,E)):a8 r e (a::l) O=some (.error C,E):=by
 show bm (r.ev a e) _ O=_;unfold bm;exact rwm _ rfl h
theorem Cj{a:Expr}{l:List Expr}{v:V}{C:Addr}(h:r.ev a e O=some (.ok v,E))(h2:a8 r e l E=some (.error C,O2)):a8 r e (a::l) O=some (.error C,O2):=by
 show bm (r.ev a e) (λv=>bm (a8 r e l) λvs=>pm (v::vs)) O=_;refine a0 (az h) ?_;unfold bm;exact rwm _ rfl h2
theorem M2{f:Str}{fp p:Pos}{be:List Expr}{fv:V}{C:Addr}(ha:(be.all noStar&&decide (be.length<30))=true)(h1:(R c n).ev (.Name f fp) e O=some (.ok fv,O))
  (h2:a8 (R c n) e be O=some (.error C,E)):(R c (n+1)).ev (.Call (.Name f fp) be [] p) e O=some (.error C,E):=by
 show(if be.all noStar&&decide (be.length<30) then bm ((R c n).ev (.Name f fp) e) λfv=>bm (a8 (R c n) e be) λvs=>bm (kl (Pc c) fv) λ_=>(R c n).call fv vs else λ_=>none:MM V) O=_;refine rwm _ (rwm _ (rwm _ ?_ (az h1)) (ec rfl)) ha;unfold bm;exact rwm _ rfl h2
theorem Ck{x:Expr}{p:Pos}{C:Addr}(h:(R c n).ev x e O=some (.error C,E)):(R c (n+1)).ex (.Return (some x) p) e O=some (.error C,E):=by
 show bm ((R c n).ev x e) (λv=>pm (Fl.ret v)) O=_;unfold bm;exact rwm _ rfl h
end
theorem we{i:Nat}(h:i<6):i∈lp:=(by decide+kernel:∀i,i<6->i∈lp) i h
theorem mt{i:Nat}(h:i<5):i∈fD:=(by decide+kernel:∀i,i<5->i∈fD) i h
section
variable {D:ah}{K:T}{g:Int->Bool}{i j:Nat}
set_option tactic.hygienic true in
theorem sj(hi:i<6)(hj:j<5):(R k6 39).ex (an iC 0) fZ (pH D K (bR i j))=some (.ok .next,el D K (bR i j) i j):=by
 exact gq (gq (MV D K) (we hi)) (mt hj)
theorem wf{j:Nat}(h:j<2):j∈[0,1]:=(by decide+kernel:∀j,j<2->j∈[0,1]) j h
set_option tactic.hygienic true in
theorem wg(hj:j<2){s:Str}:(R k6 39).ex (an iC 1) fZ (el D K s i j)=some (.ok .next,el D K s i j):=gq (MX D K s i) (wf hj)
theorem Cl(h:D.Wf)(hg:cX D K=some g){s:Str}:(R k6 37).ev (aY (a7 nP) 1) fZ (el D K s i j)=some (.ok (.t (aF D.all g)),el D K s i j):=
 jK 588 (as:=[au D,.t K]) (Cg hg) (by lk)
theorem Cm{s:Str}:(R k6 37).ev (aY (a7 nP) 2) fZ (el D K s i j)=some (.ok (.t (eK D)),el D K s i j):=by lk
theorem M3(h:D.Wf)(hg:cX D K=some g)(hi:i<6)(hj:j<5)(hb:2<=j\/i=5):∃X,br k6 40 602 [au D,.t K,.t (.str (bR i j))] []=some (.error 71,X):=by
 have f:∃X,aR (R k6 39) fZ iC (pH D K (bR i j))=some (.error 71,X):=by
  by_cases b:2<=j
  .have:j∈[2,3,4]:=by
    exact(by decide+kernel:∀j,j<5->2<=j->j∈[2,3,4]) j hj b
   refine ag (Ci (gq (MW D K (bR i j) i) this)) λX c=>⟨X,aW (sj hi hj) (jU c)⟩
  .have h5:=hb.resolve_left b;clear hb;subst h5;refine ag (Ci (MZ D K (bR 5 j) j)) λX c=>⟨X,aW (sj hi hj) (aW (wg (Nat.not_le.mp b)) (jU (Ck (M2 (fv:= .t (.top 545)) rfl ?_ (Cj (Cl h hg) (Cj Cm (M1 c)))))))⟩;lk
 refine ag f λX c=>⟨X,rJ (by lk) c⟩
theorem Cn(h:D.Wf)(hg:cX D K=some g)(hi:i<5)(hj:j<2){s:Str}:a8 (R k6 37) fZ (a7 nP).tail (el D K s i j)=some (.ok [.t (aF D.all g),.t (eK D),.t (.int (10+3*(i:Int))),.t (.bool (Nat.beq j 0))],el D K s i j):=by
 have h3:=gq (MY D K s j) (mt hi);have h4:=gq (M0 D K s i) (wf hj);exact bx (Cl h hg) (bx Cm (bx h3 (bx h4 cb)))
theorem Co{D:ah}(h:D.Wf){l:List Int}{st:Int->Bool}{n:Int}{b:Bool}(hl:l.length<100)(hn:0<=n/\n<=31):
  (n∈l->n∉D.lk->sf [.t (aF l st),.t (eK D),.t (.int n),.t (.bool b)] []=yes (aF l (eL D.rows st n b)) [])/\(¬(n∈l/\n∉D.lk)->sf [.t (aF l st),.t (eK D),.t (.int n),.t (.bool b)] []=some (some (.error 59,hM l st (eK D) n b))):=by
 have e0:=vV h;have e1:eK D=nO (eK D):=by rw[e0,MR]
 have e2:cy (gy 4 (eK D))=D.lk:=by refine rwm _ ?_ e0;exact pq _
 have e3:mr (gy 3 (eK D))=D.rows:=by refine rwm _ ?_ e0;exact Ce _
 refine⟨λh1 h2=>?_,λh1=>?_⟩
 .show pG _ _ _ _ _=_;unfold pG;exact rwm _ (rwm _ (rwm _ (rwm _ rfl (ec ⟨h1,h2⟩)) e3) e2) (fW ⟨e1,hl,hn⟩)
 .show pG _ _ _ _ _=_;unfold pG;exact rwm _ (rwm _ (rwm _ (rwm _ rfl (hX h1)) e3) e2) (fW ⟨e1,hl,hn⟩)
theorem M4(h:D.Wf)(hg:cX D K=some g)(hi:i<5)(hj:j<2)(hb:¬((10+3*(i:Int))∈D.all/\(10+3*(i:Int))∉D.lk)):∃X,br k6 40 602 [au D,.t K,.t (.str (bR i j))] []=some (.error 59,X):=by
 have hc:=(Co h (l:=D.all) (st:=g) (n:=10+3*(i:Int)) (b:=Nat.beq j 0) (by have:=jP h;exact lC this rfl) (w8 hi)).2 hb;refine⟨_,rJ (e:=fZ) (b:=iC) (E:=pH D K (bR i j)) (by lk)
  (aW (sj (l4 hi) (lB hj rfl)) (aW (s:=an iC 1) (wg hj) (jU (Ck (aO (fv:= .t (.top 545)) rfl ?_ (Cn h hg hi hj) ?_ (vE rfl hc rfl))))))⟩<;>lk
theorem M5(h:D.Wf)(hg:cX D K=some g)(hi:i<5)(hj:j<2)(h1:(10+3*(i:Int))∈D.all)(h2:(10+3*(i:Int))∉D.lk):
  br k6 40 602 [au D,.t K,.t (.str (bR i j))] []=some (.ok (.t (aF D.all (eL D.rows g (10+3*(i:Int)) (Nat.beq j 0)))),[]):=by
 have hc:=(Co h (l:=D.all) (st:=g) (n:=10+3*(i:Int)) (b:=Nat.beq j 0) (by have:=jP h;exact DR this) (w8 hi)).1 h1 h2;refine dU (e:=fZ) (b:=iC) (E:=pH D K (bR i j)) (O2:=el D K (bR i j) i j) (by lk)
  (aW (sj (DS hi) (DT hj)) (aW (s:=an iC 1) (wg hj) (ci (eh (aO (fv:= .t (.top 545)) rfl ?_ (Cn h hg hi hj) ?_ (cm rfl hc rfl)))))) rfl<;>lk
end
def mu:b8:=o9 λx y z O=>nl O (i9 x λD=>aT y λK=>aT z λz=>eT z λs=>nz (br k6 40 602 [au D,.t K,.t (.str s)] []))
theorem M6:cG (R k6 40) 602 mu:=vA λx y z O q h s _ _ _=>bT h λh=>jM h s λD hw h=>bY h λK h=>bY h λz h=>ge h λs h=>vJ (LC.refl _) h
def kA:aN:=bp 624 kx av
theorem Cp:aC kA 30:=aC.add aC.start (aC.start.mono (i1 _)) (by decide) vK
theorem wh{r:aG}(h:r.test a e O=some (.ok b,E)):oM r e [a] O=some (.ok b,E):=by
 show bm (r.test a e) (λb=>if b then pm true else pm false) O=_;refine a0 (az h) ?_;clear h;cases b<;>rfl
theorem M7(h1:vw v O=some (.int a))(h2:vw u O=some (.int b)):dQ .Eq v u O=some (.ok (decide (a=b)),O):=by
 show bm (aE v) (λx=>bm (aE u) λy=>om (gR .Eq x y)) O=_;refine rwm _ (rwm _ ?_ (az (dY h2))) (az (dY h1));rfl
noncomputable def eN(ns:List Int):List Int->Int->List Int
 |[],_=>[]
 |n::l,at_=>if drawn ns at_ 3=1 then n::eN ns l (at_+1) else eN ns l (at_+1)
theorem Cq(ns:List Int)(i:Int):∀(A l:List Int),kJ (λA a=>cond (decide (drawn ns (i+(A.length:Int)) 3=1)) (some (T.int a)) none) A l=(eN ns l (i+(A.length:Int))).map T.int
 |_,[]=>rfl
 |A,a::l=>by
  unfold kJ;refine rwm _ ?_ (Cq ns i (A++[a]) l);show _=(if drawn ns (i+(A.length:Int)) 3=1 then a::eN ns l (i+(A.length:Int)+1) else eN ns l (i+(A.length:Int)+1)).map T.int;have e:i+((A++[a]).length:Int)=i+(A.length:Int)+1:=by refine rwm _ ?_ js;simp;exact(Int.add_assoc _ _ _).symm
  refine rwm _ ?_ e
  by_cases h:drawn ns (i+(A.length:Int)) 3=1
  .refine rwm _ (rwm _ ?_ (iv h)) (ec h);rfl
  .refine rwm _ (rwm _ ?_ (li h)) (hX h);rfl
noncomputable def c0(H:List (Int×Int×Int))(t:T):T:= .box (.tape H) t
noncomputable def wi(q:Bool)(U:List T):af:=cond q [.fz (.list U)] []
noncomputable def sk(q:Bool)(U:List T):V:=cond q (.own 1) (.t (.list U))
def sm(q:Bool):AE:=⟨aV (at_ 61),cond q 2 1,[(S "tape",cond q 3 2)],S "_law_some"++nm ".<locals>.",628⟩
def Cr:List Stmt:=ba (at_ 61)
def wj:Expr:=bV (an Cr 0)
def iD(q:Bool)(H:List (Int×Int×Int))(t:T)(U:List T)(i:Int):af:=[.list [c0 H t,.int i]]++wi q U++[.ns true [(S "numbers",sk q U)],.cell (some (.own 0))]
def M8(q:Bool)(H:List (Int×Int×Int))(t:T)(U:List T)(i:Int):af:=[.list [c0 H t,.int i]]++cond q [.list U] []++[.ns true [(S "numbers",sk q U)],.cell (some (.own 0))]
section
variable {q:Bool}{H:List (Int×Int×Int)}{ns:List Int}{U:List T}
theorem pI(hc:∀p∈H,drawn ns p.1 p.2.1=p.2.2)(hi:0<=i/\i<1000/\0<m):kx [.own 0,.t (.int m)] [.list [c0 H (ak ns),.int i]]=yes (.int (drawn ns i m)) [.list [c0 H (ak ns),.int (i+1)]]:=by
 have e:kx [.own 0,.t (.int m)] [.list [c0 H (ak ns),.int i]]=if 0<=i/\i<1000/\0<m then yes (.int (ru H (cy (ak ns)) i m)) [.list [c0 H (ak ns),.int (i+1)]] else none:=rfl
 rw[e,if_pos hi,jF,A4 hc]
theorem M9(hc:∀p∈H,drawn ns p.1 p.2.1=p.2.2)(hi:0<=i/\i<1000)(hw:w=[]\/∃b,w=[(S "number",V.t (.int b))]):
  cP kA 27 (sm q) wj (cond q 4 3) (.int a) (iD q H (ak ns) U i++[.ns false w])=some (.ok (cond (decide (drawn ns i 3=1)) (some (.int a)) none),iD q H (ak ns) U (i+1)++[.ns false [(S "number",.t (.int a))]]):=by
 refine kO (q:=decide (drawn ns i 3=1)) (E:=iD q H (ak ns) U i++[.ns false [(S "number",.t (.int a))]]) ?_
  (wh (ey (u:= .t (.int 1)) (E:=iD q H (ak ns) U (i+1)++[.ns false [(S "number",.t (.int a))]]) (O2:=iD q H (ak ns) U (i+1)++[.ns false [(S "number",.t (.int a))]])
   (aO (fv:= .t (.top 624)) (vs:=[.own 0,.t (.int 3)]) (E:=iD q H (ak ns) U i++[.ns false [(S "number",.t (.int a))]]) rfl ?_ ?_ ?_ (cm (p:=⟨[0],[.list [c0 H (ak ns),.int i]]⟩) (bi:=[.own 0,.t (.int 3)]) (X:=[.list [c0 H (ak ns),.int (i+1)]]) ?_ (pI hc ⟨hi.1,hi.2,by decide⟩) ?_)) ?_ (M7 rfl rfl))) (λ_=>?_) (λ_=>rfl)
 .cases q<;>refine oE w hw ?_ λb=>?_<;>lk
 all_goals cases q<;>first|rfl|lk
theorem Na(hc:∀p∈H,drawn ns p.1 p.2.1=p.2.2){l:List Int}(hi:0<=i/\i<900)(hl:l.length<50):
  br kA 30 629 [.own 0,sk q (l.map T.int)] ([.list [c0 H (ak ns),.int i]]++cond q [.list (l.map T.int)] [])=some (.ok (.t (ak (eN ns l i))),[.list [c0 H (ak ns),.int (i+(l.length:Int))]]++wi q (l.map T.int)):=by
 have c:bZ (cP kA 27 (sm q) wj (cond q 4 3)) (l.map T.int) [] (iD q H (ak ns) (l.map T.int) i++[.ns false []])=
   some (.ok ((eN ns l i).map T.int),iD q H (ak ns) (l.map T.int) (i+(l.length:Int))++[.ns false (cO T.int (S "number") l)]):=by
  have:=rI T.int (λA=>iD q H (ak ns) (l.map T.int) (i+(A.length:Int))++[.ns false (cO T.int (S "number") A)]) (λA a=>cond (decide (drawn ns (i+(A.length:Int)) 3=1)) (some (T.int a)) none)
   (cP kA 27 (sm q) wj (cond q 4 3)) l [] [] (by simp;exact lB (l3 hl) rfl) λA a B e=>by
    rw[BC];have c4:A.length<l.length:=by rw[List.nil_append] at e;refine rwm _ ?_ e;simp
    refine a0 (M9 (q:=q) (U:=l.map T.int) (a:=a) hc (i:=i+(A.length:Int)) (El hi hl c4) (BD T.int (S "number") A)) ?_
    congr 4
    refine rwm _ ?_ js;simp;exact Int.add_assoc _ _ _
  rw[Cq] at this;simp at this;rw[show cO T.int (S "number") ([]:List Int)=[] from rfl] at this;exact this
 refine dU (e:=sm q) (b:=Cr) (E:=M8 q H (ak ns) (l.map T.int) i) (O2:=iD q H (ak ns) (l.map T.int) (i+(l.length:Int))++[.list ((eN ns l i).map T.int)]) (v:= .own (cond q 4 3)) ?_
  (ci (eh (l5 (O2:=iD q H (ak ns) (l.map T.int) i) c (N:=cO T.int (S "number") l) ?_ ?_ ?_))) ?_<;>(clear c;cases q)<;>first|rfl|lk
end
def so(U:List T):Option (List Int):=match cY U with
 |some l=>cond (decide (l=aQ l.length)&&Nat.ble l.length 4) (some l) none
 |none=>none
def sp(q:Bool)(H:List (Int×Int×Int))(t:T)(i:Int)(U:List T):cF:=match so U with
 |some l=>cond (decide (0<=i)&&decide (i<900)) (yes (.box (.ints 4) (ak (eN (cy t) l i))) ([.list [.box (.tape H) t,.int (i+(l.length:Int))]]++wi q U)) none
 |none=>none
def Cs:b8:=jH λx y O=>lK x 0 (un O λm l=>rx m λH t i=>d4 (lK y 1 (un l λm2 l2=>nl l2 (vu m2 λU=>sp true H t i U))) (aT y λu=>nl l (fM u λU=>sp false H t i U)))
theorem wk:∀{U:List T}{l:List Int},cY U=some l->U=l.map T.int
 |[],l,h=>by cases h;rfl
 | .int a::U,l,h=>by
  have h:(cY U).map (a::·)=some l:=h
  cases e:cY U with
  |none=>rw[e] at h;exact nso h
  |some N=>
   rw[e] at h;cases h;refine rwm _ ?_ (wk e);rfl
 | .none::_,_,h=>nomatch h
 | .bool _::_,_,h=>nomatch h
 | .str _::_,_,h=>nomatch h
 | .bytes _::_,_,h=>nomatch h
 | .typ _::_,_,h=>nomatch h
 | .bi _::_,_,h=>nomatch h
 | .top _::_,_,h=>nomatch h
 | .range _ _::_,_,h=>nomatch h
 | .list _::_,_,h=>nomatch h
 | .tuple _::_,_,h=>nomatch h
 | .dict _::_,_,h=>nomatch h
 | .inst _ _::_,_,h=>nomatch h
 | .box _ _::_,_,h=>nomatch h
theorem Nb{l:List Int}(h:so U=some l):U=l.map T.int/\l=aQ l.length/\l.length<=4:=by
 unfold so at h
 cases e:cY U with
 |none=>rw[e] at h;exact nso h
 |some N=>
  rw[e] at h;dsimp only at h
  cases hc:(decide (N=aQ N.length)&&Nat.ble N.length 4) with
  |false=>rw[hc] at h;exact nso h
  |true=>
   rw[hc] at h;cases h;rw[Bool.and_eq_true] at hc;exact⟨wk e,hK hc.1,a4 hc.2⟩
theorem sr(ns:List Int):∀(l:List Int)(i:Int),List.Sublist (eN ns l i) l
 |[],_=> .slnil
 |a::l,i=>by
  by_cases h:drawn ns i 3=1
  .refine rwm _ ?_ (show eN ns (a::l) i=_ from ec h);exact(sr ns l (i+1)).cons₂ a
  .refine rwm _ ?_ (show eN ns (a::l) i=_ from hX h);exact(sr ns l (i+1)).cons a
theorem pJ(ns:List Int)(m:Nat)(i:Int):eR m (eN ns (aQ m) i):=
 ⟨(sr ns (aQ m) i).nodup (vP m),λn hn=>(sr ns (aQ m) i).subset hn⟩
theorem Nc(h:m<=k)(hn:n∈aQ m):n∈aQ k:=by
 refine al (i7.mp hn) λi h1 h2=>i7.mpr ⟨i,a6 h1 h,h2⟩
theorem Nd(h:m<=k)(hs:eR m ns):eR k ns:=⟨hs.1,λn hn=>Nc h (hs.2 n hn)⟩
theorem Ct(h:eX (.list (.box (.tape H) t::U))):lJ (.tape H) t:=(kq (A2 h _ (.head _))).1
theorem Cu{p:Except Addr T×af}(h:sp q H t i U=some (some p))(ho:eX (.list [.box (.tape H) t,.int i])):gl (R kA 30) 629 [.own 0,sk q U] ([.list [.box (.tape H) t,.int i]]++cond q [.list U] []) p:=by
 unfold sp at h
 cases hl:so U with
 |none=>rw[hl] at h;exact nso h
 |some l=>
  rw[hl] at h;(refine aw (Nb hl) λc2 e2 e3=>?_;clear hl;subst c2);(refine ag (Ct ho) λns c3=>bK c3 λn1 n2 cr n3=>?_;clear c3;clear ho;subst cr)
  cases hc:(decide (0<=i)&&decide (i<900)) with
  |false=>rw[hc] at h;exact nso h
  |true=>
   rw[hc] at h;cases h;rw[Bool.and_eq_true] at hc;refine⟨_,_,_,LC.refl _,SC.refl _,(Na (q:=q) (l:=l) n3 ⟨hK hc.1,hK hc.2⟩ (lC e3 rfl)),?_,SC.refl _⟩;rw[jF];exact TC.box (TC.refl _) ⟨_,by refine rwm _ ?_ e2;exact Nd e3 (pJ _ _ _),rfl⟩
theorem Nf:cG (R kA 30) 629 Cs:=nu λx y O q h _ _ ho=>by
 revert ho;refine mN h λh=>cK h λm l h=>vx (P:=λm=>(∀Q∈m::l,eX Q)->gl (R kA 30) 629 [V.own 0,y] (m::l) q) h λH t i h=>gN h (λh=>?_) (λh=>?_)
 .refine mN h λh=>cK h λm2 l2 h=>bT h λh=>A6 h λU h ho=>Cu h (ho _ (.head _))
 .refine bY h λu h=>bT h λh=>kb h λU h ho=>Cu h (ho _ (.head _))
def su:AE:=⟨aV (at_ 62),0,[],S "_law_refs"++nm ".<locals>.",633⟩
def wm:Expr:=bV (an (ba (at_ 62)) 0)
def nQ(l:List Int):af:=[.ns true [(S "numbers",.t (ak l))]]
theorem Ng(l:List Int)(a:Int)(hw:w=[]\/∃b,w=[(S "number",V.t (.int b))]):
  cP av 27 su wm 1 (.int a) (nQ l++[.ns false w])=some (.ok (some (ao a)),nQ l++[.ns false [(S "number",.t (.int a))]]):=by
 refine oE w hw ?_ λb=>?_<;>lk
theorem Cv{l:List Int}(hl:l.length<100):br av 30 634 [.t (ak l)] []=some (.ok (.t (aK l)),[]):=by
 have c:bZ (cP av 27 su wm 1) (l.map T.int) [] (nQ l++[.ns false []])=some (.ok (l.map ao),nQ l++[.ns false (cO T.int (S "number") l)]):=by
  have:=jR T.int (S "number") (λn=>some (ao n)) (cP av 27 su wm 1) (nQ l) l (lB (l3 hl) rfl) λa ha w hw=>Ng l a hw;refine a0 this ?_
  congr 2
  exact rwm _ rfl lt
 exact dU (e:=su) (b:=ba (at_ 62)) (E:=nQ l) (by lk) (ci (eh (l5 c rfl rfl (by lk)))) rfl
def wn(U:List T):Option (List Int):=match cY U with
 |some l=>cond (Nat.ble l.length 50) (some l) none
 |none=>none
def Cw(U:List T):cF:=match wn U with
 |some l=>yes (.list (l.map ao)) []
 |none=>none
def Cy:b8:=iZ λx O=>nl O (aT x λu=>d4 (j9 u λg t=>xQ g λk=>cond (Nat.beq k 4) (yes (.box (.refs 4) (aK (cy t))) []) none) (fM u Cw))
theorem Nh:cG (R av 30) 634 Cy:=jG λx O q h s _=>bT h λh=>by
 revert s;refine bY h λu h=>gN h (λh=>?_) (λh=>?_)
 .refine jp h λg t h=>FU h λk h s=>?_
  cases hk:Nat.beq k 4 with
  |false=>rw[hk] at h;exact nso h
  |true=>
  rw[hk] at h;have hk:=ii hk;subst hk;(refine ag ((kq (ku s)).1) λns c1=>ac c1 λhs bo=>?_;clear c1;subst bo);cases h;have hl:ns.length<100:=by have:=ry hs.1 hs.2;rw[rz] at this;exact lC this rfl
  refine⟨[.t (ak ns)],[],_,⟨TC.unbox (TC.refl _),trivial⟩,trivial,Cv hl,?_,trivial⟩;rw[jF];exact TC.box (TC.refl _) ⟨ns,hs,rfl⟩
 .refine kb h λU h s=>?_;unfold Cw at h
  cases hl:wn U with
  |none=>rw[hl] at h;exact nso h
  |some l=>
   rw[hl] at h;unfold wn at hl
   cases e:cY U with
   |none=>rw[e] at hl;exact nso hl
   |some N=>
    rw[e] at hl;dsimp only at hl
    cases hb:Nat.ble N.length 50 with
    |false=>rw[hb] at hl;exact nso hl
    |true=>
     rw[hb] at hl;cases hl;cases h;have:=wk e;clear s e;subst this;have:=a4 hb;exact⟨[.t (ak l)],[],_,LC.refl _,trivial,Cv (lC this rfl),TC.refl _,trivial⟩
def kB:aN:=bp 629 Cs (bp 634 Cy kA)
theorem Ni:aC kB 60:=aC.add Cp (aC.add aC.start (Cp.mono (by decide)) (by decide) Nh) (by decide) Nf
noncomputable def nR(ns:List Int)(l:List Int):Nat->Int->List (List Int)
 |0,_=>[]
 |k+1,at_=>eN ns l at_::nR ns l k (at_+(l.length:Int))
def Cz(ns:List Int)(m b c:Nat)(o:Bool):ah:=
 ⟨m,o,b,eN ns (aQ m) 2,eN ns (aQ m) (2+(m:Int)),eN ns (aQ m) (3+2*(m:Int)+(c:Int)*(m:Int)),nR ns (aQ m) c (3+2*(m:Int)),0,0⟩
noncomputable def wo(m c:Nat):Int:=4+3*(m:Int)+(c:Int)*(m:Int)
noncomputable def sx(m b c:Nat)(o:Bool):List (Int×Int×Int):=[(0,5,(m:Int)),(1,3,(b:Int)),(2+2*(m:Int),3,(c:Int)),(3+3*(m:Int)+(c:Int)*(m:Int),2,cond o 1 0)]
def rB(l:List Int):T:= .box (.refs 4) (aK (cy (ak l)))
def hP(l:List Int):T:= .box (.ints 4) (ak l)
def pK(D:ah):T:= .inst 435 [(aA "table",.dict ((.int 1,.tuple [.int 0,.dict [(.str (aA "Type"),gL "Catalog"),
  (.str (aA "OCProperties"),.dict [(.str (aA "OCGs"),.list (D.order.map ao)),(.str (aA "D"),.dict ([(.str (aA "ON"),rB D.on),(.str (aA "OFF"),rB D.off),(.str (aA "Locked"),rB D.lk),(.str (aA "RBGroups"),.list (D.rows.map rB))]++lI D.base))])]])::aI 0 D.m)),
 (aA "trailer",.dict [(.str (aA "Root"),ao 1)])]
def pL(D:ah):T:= .dict [(.str (aA "base"),.str (aA (tP D.base))),(.str (aA "on"),hP D.on),(.str (aA "off"),hP D.off),(.str (aA "rows"),.list (D.rows.map hP)),
 (.str (aA "locked"),hP D.lk),(.str (aA "order"),ak D.order)]
noncomputable def jg:List (Nat×Nat×Nat×Bool):=[0,1,2,3,4].flatMap λm=>[0,1,2].flatMap λb=>[0,1,2].flatMap λc=>[false,true].map λo=>(m,b,c,o)
def jh:AE:=⟨aV (at_ 63),1,[(S "numbers",3),(S "tape",2)],S "_law_document"++nm ".<locals>.",638⟩
def lq:List Stmt:=ba (at_ 63)
noncomputable def nT(f:List T):af:=[.list f,.ns true [],.cell (some (.own 0)),.cell none]
def wp(f:List T)(o:Bool)(m:Nat)(tk:List (aj×T))(h g d b c:T)(tab:List (aj×T)):af:=[.list f,.ns true [(S "told_of",.own 5),(S "first",.own (cond o 8 7)),(S "table",.own (cond o 12 11))],.cell (some (.own 0)),.cell (some (.own 4)),.fz (ak (aQ m)),.dict tk,.fz h]++
 cond o [.fz (ak (aQ m).reverse)] []++[.fz g,.fz d,.fz b,.fz c,.dict tab]
def sy(D:ah):T:= .dict ([(.str (aA "ON"),rB D.on),(.str (aA "OFF"),rB D.off),(.str (aA "Locked"),rB D.lk),(.str (aA "RBGroups"),.list (D.rows.map rB))]++lI D.base)
def sA(D:ah):T:= .dict [(.str (aA "OCGs"),.list (D.order.map ao)),(.str (aA "D"),sy D)]
def nU(D:ah):T:= .dict [(.str (aA "Type"),gL "Catalog"),(.str (aA "OCProperties"),sA D)]
def wq(D:ah):List (aj×T):=[(.str (aA "base"),.str (aA (tP D.base))),(.str (aA "on"),hP D.on),(.str (aA "off"),hP D.off),(.str (aA "rows"),.list (D.rows.map hP)),(.str (aA "locked"),hP D.lk),(.str (aA "order"),ak D.order)]
def sC(f:List T)(o:Bool)(D:ah):af:=wp f o D.m (wq D) (.list (D.rows.map hP)) (sy D) (.list (D.rows.map rB)) (sA D) (nU D) [(.int 1,.tuple [.int 0,nU D])]
def fc(r:aG)(e:AE)(l:List Stmt)(k:Nat)(O:af):Option (Except Addr V×af):=bm (eu r l e) (λv=>fw k v) O
noncomputable def eO{α β:Type}(f:α->β):List α->List β
 |[]=>[]
 |a::l=>f a::eO f l
theorem fe{α β:Type}{f g:α->β}:∀{l:List α},l.map f=eO g l->∀{a:α},a∈l->f a=g a
 |b::l,h,a,ha=>by
  have h:=h
  injection h with h1 h2
  (refine a2 (hG.mp ha) (λzz=>?_) (λha=>?_);clear h;subst zz;rotate_left;rotate_right)
  .exact h1
  .exact fe h2 ha
theorem Nj(f:List T)(o:Bool)(tk:List (aj×T))(h g d b c x:T):fD.map (λm=>fc (R kB 59) jh (lq.drop 9) 1 (wp f true m tk h g d b c [(.int 1,x)]))=
  eO (λm=>some (.ok (.t (.tuple [.inst 435 [(aA "table",.dict ((.int 1,x)::aI 0 m)),(aA "trailer",.dict [(.str (aA "Root"),ao 1)])],.dict tk])),[.list f])) fD:=by lk
theorem Nk(f:List T)(o:Bool)(tk:List (aj×T))(h g d b c x:T):fD.map (λm=>fc (R kB 59) jh (lq.drop 9) 1 (wp f false m tk h g d b c [(.int 1,x)]))=
  eO (λm=>some (.ok (.t (.tuple [.inst 435 [(aA "table",.dict ((.int 1,x)::aI 0 m)),(aA "trailer",.dict [(.str (aA "Root"),ao 1)])],.dict tk])),[.list f])) fD:=by lk
def iE(t:T)(m b c:Nat)(o:Bool)(i:Int):List T:=[.box (.tape (sx m b c o)) t,.int i]
def pM(t:T)(p:Nat×Nat×Nat×Bool):=MU kB 59 jh (lq.take 9) (nT (iE t p.1 p.2.1 p.2.2.1 p.2.2.2 0))
def pN(t:T)(p:Nat×Nat×Nat×Bool):Option (Except Addr Fl×af):=some (.ok .next,sC (iE t p.1 p.2.1 p.2.2.1 p.2.2.2 (wo p.1 p.2.2.1)) p.2.2.2 (Cz (cy t) p.1 p.2.1 p.2.2.1 p.2.2.2))
theorem Nl(t:T):(jg.take 30).map (pM t)=eO (pN t) (jg.take 30):=by lk
theorem Nm(t:T):((jg.drop 30).take 30).map (pM t)=eO (pN t) ((jg.drop 30).take 30):=by lk
theorem Nn(t:T):((jg.drop 30).drop 30).map (pM t)=eO (pN t) ((jg.drop 30).drop 30):=by lk
theorem No(t:T){a:Nat×Nat×Nat×Bool}(h:a∈jg):pM t a=pN t a:=by
 rw[<-List.take_append_drop 30 jg] at h;refine(qs.mp h).elim (fe (Nl t)) λh=>?_;rw[<-List.take_append_drop 30 (jg.drop 30)] at h;exact(qs.mp h).elim (fe (Nm t)) (fe (Nn t))
def mD(ns:List Int):Nat:=(drawn ns 0 5).toNat
def bD(ns:List Int):Nat:=(drawn ns 1 3).toNat
def cQ(ns:List Int):Nat:=(drawn ns (2+2*(mD ns:Int)) 3).toNat
def oD(ns:List Int):Bool:=decide (drawn ns (3+3*(mD ns:Int)+(cQ ns:Int)*(mD ns:Int)) 2=1)
def cR(ns:List Int):ah:=Cz ns (mD ns) (bD ns) (cQ ns) (oD ns)
def fE(ns:List Int):Int:=wo (mD ns) (cQ ns)
theorem gC(ns:List Int)(i:Int)(hm:0<m):0<=drawn ns i m/\drawn ns i m<m:=⟨Int.fmod_nonneg_of_pos _ hm,Int.fmod_lt_of_pos _ hm⟩
theorem sD(ns:List Int):mD ns<=4:=by have:=gC ns 0 (m:=5) (by decide);unfold mD;exact i5 (qb this.1 this.2)
theorem CA(ns:List Int):bD ns<=2:=by have:=gC ns 1 (m:=3) (by decide);unfold bD;exact i5 (qb this.1 this.2)
theorem wr(ns:List Int):cQ ns<=2:=by have:=gC ns (2+2*(mD ns:Int)) (m:=3) (by decide);unfold cQ;exact i5 (qb this.1 this.2)
theorem Np(ns:List Int):∀q∈sx (mD ns) (bD ns) (cQ ns) (oD ns),drawn ns q.1 q.2.1=q.2.2:=by
 intro q hq;unfold sx at hq;simp only[List.mem_cons,List.not_mem_nil,or_false] at hq;rcases hq with rfl|rfl|rfl|rfl
 .have:=gC ns 0 (m:=5) (by decide);refine(?_:drawn ns 0 5=(mD ns:Int));unfold mD;exact(Int.toNat_of_nonneg this.1).symm
 .have:=gC ns 1 (m:=3) (by decide);refine(?_:drawn ns 1 3=(bD ns:Int));unfold bD;exact(Int.toNat_of_nonneg this.1).symm
 .have:=gC ns (2+2*(mD ns:Int)) (m:=3) (by decide);refine(?_:drawn ns (2+2*(mD ns:Int)) 3=(cQ ns:Int));unfold cQ;exact(Int.toNat_of_nonneg this.1).symm
 .have:=gC ns (3+3*(mD ns:Int)+(cQ ns:Int)*(mD ns:Int)) (m:=2) (by decide);refine(?_:drawn ns (3+3*(mD ns:Int)+(cQ ns:Int)*(mD ns:Int)) 2=cond (oD ns) 1 0);unfold oD
  by_cases h:drawn ns (3+3*(mD ns:Int)+(cQ ns:Int)*(mD ns:Int)) 2=1
  .refine rwm _ ?_ (iv h);exact h
  .refine rwm _ ?_ (li h);show _=(0:Int);exact D7 this h
theorem ws(ns:List Int)(m:Nat):∀(k:Nat)(i:Int),(nR ns (aQ m) k i).length=k/\∀r∈nR ns (aQ m) k i,eR m r
 |0,_=>⟨rfl,λ_ h=>nomatch h⟩
 |k+1,i=>by
  refine ac (ws ns m k (i+((aQ m).length:Int))) λh1 h2=>⟨by show(nR ns (aQ m) k _).length+1=k+1;exact rwm _ rfl h1,λr hr=>?_⟩;(refine a2 (hG.mp hr) (λzz=>?_) (λhr=>?_);subst zz;rotate_left;rotate_right)
  .exact pJ _ _ _
  .exact h2 r hr
theorem wt(ns:List Int):(cR ns).Wf where
 m:=sD ns
 base:=CA ns
 on:=pJ _ _ _
 off:=pJ _ _ _
 lk:=pJ _ _ _
 few:=by have:=(ws ns (mD ns) (cQ ns) (3+2*(mD ns:Int))).1;refine(?_:(nR ns (aQ (mD ns)) (cQ ns) (3+2*(mD ns:Int))).length<=2);exact D8 this (wr ns)
 rows:=(ws ns (mD ns) (cQ ns) (3+2*(mD ns:Int))).2
 st:=by refine(?_:0<=2);decide
 k:=λh=>nomatch (h:0=2)
theorem CB(h:n<=2):n∈[0,1,2]:=(by decide+kernel:∀n,n<=2->n∈[0,1,2]) n h
theorem Nq(hm:m<=4)(hb:b<=2)(hn:c<=2):(m,b,c,o)∈jg:=
 List.mem_flatMap.mpr ⟨m,mt (Nat.lt_succ_of_le hm),List.mem_flatMap.mpr ⟨b,CB hb,List.mem_flatMap.mpr ⟨c,CB hn,hL.mpr ⟨o,by cases o<;>simp,rfl⟩⟩⟩⟩
theorem sE(l:List Int):TC (rB l) (aK l):=by
 unfold rB;rw[jF];exact TC.unbox (TC.refl _)
theorem sF(l:List Int):TC (hP l) (ak l):=TC.unbox (TC.refl _)
theorem wu{α:Type}{f g:α->T}(h:∀a,TC (f a) (g a)):∀l:List α,bG (l.map f) (l.map g)
 |[]=>bG.refl _
 |a::l=>bG.cons (h a) (wu h l)
theorem CC{D:ah}(h:D.st=0):D.tree= .inst 435 [(aA "table",.dict ((.int 1,.tuple [.int 0,.dict [(.str (aA "Type"),gL "Catalog"),(.str (aA "OCProperties"),.dict [(.str (aA "OCGs"),.list (D.order.map ao)),(.str (aA "D"),
  .dict ([(.str (aA "ON"),aK D.on),(.str (aA "OFF"),aK D.off),(.str (aA "Locked"),aK D.lk),(.str (aA "RBGroups"),.list (D.rows.map aK))]++lI D.base))])]])::aI 0 D.m)),(aA "trailer",.dict [(.str (aA "Root"),ao 1)])]:=by
 rcases D with⟨m,rev,b,on,off,lk,rows,st,k⟩;cases h;show T.inst 435 [(aA "table",.dict ((.int 1,.tuple [.int 0,.dict [(.str (aA "Type"),gL "Catalog"),(.str (aA "OCProperties"),.dict [(.str (aA "OCGs"),.list ((ah.order ⟨m,rev,b,on,off,lk,rows,0,k⟩++[]).map ao)),(.str (aA "D"),
  .dict ([(.str (aA "ON"),aK on),(.str (aA "OFF"),aK off),(.str (aA "Locked"),aK lk),(.str (aA "RBGroups"),.list (rows.map aK))]++lI b))])]])::(aI 0 m++[]))),(aA "trailer",.dict [(.str (aA "Root"),ao 1)])]=_
 rw[List.append_nil,List.append_nil]
theorem Nr{D:ah}(h:D.st=0):TC (pK D) D.tree:=by
 refine rwm _ ?_ (CC h);exact TC.inst (g6.cons (TC.dict (b0.cons (TC.tuple (bG.cons (TC.refl _) (bG.cons (TC.dict (b0.cons (TC.refl _) (b0.cons (TC.dict (b0.cons (TC.refl _) (b0.cons
  (TC.dict (b0.cons (sE _) (b0.cons (sE _) (b0.cons (sE _) (b0.cons (TC.list (wu sE _)) (b0.refl _)))))) (b0.refl _)))) (b0.refl _)))) (bG.refl _)))) (b0.refl _))) (g6.refl _))
theorem Nt(D:ah):TC (pL D) D.toldT:=
 TC.dict (b0.cons (TC.refl _) (b0.cons (sF _) (b0.cons (sF _) (b0.cons (TC.list (wu sF _)) (b0.cons (sF _) (b0.refl _))))))
theorem lr{c:aN}{n:Nat}{e:AE}{O E O3:af}{a:Addr}{be:List V}{st:Stmt}{q:Str}{d:List T}{c6:Addr}{H:List (Str×V)}{v:V}(ht:fT (Pc c) (R c n) a be O=ik (Pc c) (R c n) a be O)(hf:(Pc c).fns a=some ⟨st,q,d,c6⟩)(cp:pe st=true)
  (hb:d8 (fj st).args be d=some H)(he:kF (aV st) q c6 H O=some (.ok e,E))(hr:fc (R c n) e (ba st) O.length E=some (.ok v,O3)):(R c (n+1)).call (.t (.top a)) be O=some (.ok v,O3):=by
 refine a0 (vF ht hf cp hb he) ?_;exact hr
set_option tactic.hygienic true in
theorem eP{l:List Stmt}(h1:aR r e (l.take j) O=some (.ok .next,E))(h2:fc r e (l.drop j) k E=B):fc r e l k O=B:=by
 have e1:=K7 j h1 rfl;have e2:eu r l e O=eu r (l.drop j) e E:=by
  unfold eu bm;exact rwm _ rfl e1
 refine rwl _ ?_ h2;unfold fc bm;exact rwm _ rfl e2
theorem Nu(o:Bool)(f:List T)(D:ah)(hm:D.m∈fD):fc (R kB 59) jh (lq.drop 9) 1 (sC f o D)=some (.ok (.t (.tuple [pK D,pL D])),[.list f]):=by
 cases o with
 |true=>exact fe (Nj f true (wq D) (.list (D.rows.map hP)) (sy D) (.list (D.rows.map rB)) (sA D) (nU D) (.tuple [.int 0,nU D])) hm
 |false=>exact fe (Nk f false (wq D) (.list (D.rows.map hP)) (sy D) (.list (D.rows.map rB)) (sA D) (nU D) (.tuple [.int 0,nU D])) hm
theorem Nv(f:List T):fT (Pc kB) (R kB 59) 639 [.own 0] [.list f]=ik (Pc kB) (R kB 59) 639 [.own 0] [.list f]:=by lk
theorem Nw(f:List T):kF (aV (at_ 63)) (S "_law_document") 638 [(S "tape",.own 0)] [.list f]=some (.ok jh,nT f):=by lk
set_option tactic.hygienic true in
theorem Nx(ns:List Int):aR (R kB 59) jh (lq.take 9) (nT (iE (ak ns) (mD ns) (bD ns) (cQ ns) (oD ns) 0))=some (.ok .next,sC (iE (ak ns) (mD ns) (bD ns) (cQ ns) (oD ns) (fE ns)) (oD ns) (cR ns)):=by
 have h1:=No (ak ns) (Nq (o:=oD ns) (sD ns) (CA ns) (wr ns));unfold pM pN at h1;dsimp only at h1;rw[jF] at h1;exact h1
theorem Ny(ns:List Int):fc (R kB 59) jh (lq.drop 9) 1 (sC (iE (ak ns) (mD ns) (bD ns) (cQ ns) (oD ns) (fE ns)) (oD ns) (cR ns))=some (.ok (.t (.tuple [pK (cR ns),pL (cR ns)])),[.list (iE (ak ns) (mD ns) (bD ns) (cQ ns) (oD ns) (fE ns))]):=
 Nu (oD ns) (iE (ak ns) (mD ns) (bD ns) (cQ ns) (oD ns) (fE ns)) (cR ns) (mt (by have:=sD ns;refine(?_:mD ns<5);exact lC this rfl))
theorem Nz(ns:List Int):fc (R kB 59) jh lq 1 (nT (iE (ak ns) (mD ns) (bD ns) (cQ ns) (oD ns) 0))=some (.ok (.t (.tuple [pK (cR ns),pL (cR ns)])),[.list (iE (ak ns) (mD ns) (bD ns) (cQ ns) (oD ns) (fE ns))]):=
 eP (Nx ns) (Ny ns)
theorem NA(f b:List T)(v:V)(h:fc (R kB 59) jh lq 1 (nT f)=some (.ok v,[.list b])):(R kB 60).call (.t (.top 639)) [.own 0] [.list f]=some (.ok v,[.list b]):=by
 refine lr (e:=jh) (H:=[(S "tape",.own 0)]) (E:=nT f) (st:=at_ 63) (q:=S "_law_document") (d:=[]) (Nv _) ?_ rfl ?_ (Nw _) h
 .lk
 .lk
theorem NB(ns:List Int):(R kB 60).call (.t (.top 639)) [.own 0] [.list (iE (ak ns) (mD ns) (bD ns) (cQ ns) (oD ns) 0)]=some (.ok (.t (.tuple [pK (cR ns),pL (cR ns)])),[.list (iE (ak ns) (mD ns) (bD ns) (cQ ns) (oD ns) (fE ns))]):=NA _ _ _ (Nz ns)
def NC(t:T):cF:=yes (.tuple [.box (.doc (cR (cy t))) (cR (cy t)).tree,.box (.told (cR (cy t))) (cR (cy t)).toldT]) [.list [.box (.tape []) t,.int (fE (cy t))]]
def sG:b8:=iZ λx O=>lK x 0 (un O λm l=>nl l (rx m λc t i=>nl c (cond (decide (i=0)) (NC t) none)))
theorem ND:cG (R kB 60) 639 sG:=jG λx O q h _ ho=>by
 revert ho;refine mN h λh=>cK h λm l h=>bT h λh=>vx (P:=λm=>(∀Q∈[m],eX Q)->gl (R kB 60) 639 [V.own 0] [m] q) h λc t i h=>bT (l:=c) (P:=λc=>(∀Q∈[MO.list [.box (.tape c) t,.int i]],eX Q)->gl (R kB 60) 639 [V.own 0] [MO.list [.box (.tape c) t,.int i]] q) h λhf=>?_
 cases hi:decide (i=0) with
 |false=>rw[hi] at hf;exact nso hf
 |true=>
  rw[hi] at hf;have hi:=hK hi;clear h;subst hi;intro ho;(refine ag (Ct (ho _ (.head _))) λns c3=>bK c3 λn1 n2 cr n3=>?_;clear c3;clear h ho;subst cr);clear h;cases hf;have tk:lJ (.tape (sx (mD ns) (bD ns) (cQ ns) (oD ns))) (ak ns):=⟨ns,n1,n2,rfl,Np ns⟩;have b:lJ (.tape []) (ak ns):=⟨ns,n1,n2,rfl,n3⟩;rw[jF];refine⟨[.own 0],_,_,LC.refl _,?_,NB ns,?_,?_⟩
  .exact⟨bG.cons (TC.box (TC.unbox (TC.refl _)) tk) (bG.refl _),trivial⟩
  .exact TC.tuple (bG.cons (TC.box (Nr rfl) ⟨wt ns,rfl⟩) (bG.cons (TC.box (Nt _) ⟨wt ns,rfl⟩) (bG.refl _)))
  .exact⟨bG.cons (TC.box (TC.unbox (TC.refl _)) b) (bG.refl _),trivial⟩
def ji:AE:=⟨aV (at_ 27),0,[(S "value",1)],S "copied"++nm ".<locals>.",348⟩
def CD:List Stmt:=ba (at_ 27)
noncomputable def CE(t:T):af:=[.ns true [],.cell (some (.t t))]
def cc(k:Str)(t:T):af:=[.ns true [(S "kind",.t (.str k))],.cell (some (.t t))]
def wv(d:Nat):b8:=iZ λx O=>nl O (aT x λu=>j9 u λg t=>xR g λk=>gu (k<=d) (yes (.box (.plain k) t) []))
def cq(d:Nat):aN:=bp 349 (wv d) av
def gD:Expr:=bV (an (nN (an CD 1)) 0)
def gE:Expr:=aY (a7 (bV (an (nN (an CD 2)) 0))) 1
noncomputable def bN(d:Nat)(t:T):T:= .box (.plain d) t
section
variable {d j:Nat}
theorem CF{f fp p be}(hj:j<=d)(ha:(be.all noStar&&decide (be.length<30))=true)(h1:(R (cq d) (n+1)).ev (.Name f fp) e O=some (.ok (.t (.top 349)),O))(h2:a8 (R (cq d) (n+1)) e be O=some (.ok [.t (bN j t)],E)):
  (R (cq d) (n+2)).ev (.Call (.Name f fp) be [] p) e O=some (.ok (.t (bN j t)),E):=
 aO ha h1 h2 (by lk) (cm rfl (fW hj) rfl)
theorem NE(hj:j<=d)(X:T)(a:T)(hw:w=[]\/∃b,w=[(S "part",V.t (bN j b))]):
  dE (R (cq d) 11) (jb ji gD 2) (aY (a7 gD) 0) (aY (a7 gD) 1) (kU gD) (bN j a) (cc (S "array") X++[.ns false w])=some (.ok (some (bN j a)),cc (S "array") X++[.ns false [(S "part",.t (bN j a))]]):=by
 refine kO (q:=true) (E:=cc (S "array") X++[.ns false [(S "part",.t (bN j a))]]) (O2:=cc (S "array") X++[.ns false [(S "part",.t (bN j a))]]) ?_ rfl (λ_=>pj ?_) (λe=>nomatch e)
 .refine oE w hw ?_ λb=>?_<;>lk
 .refine CF hj ?_ ?_ ?_
  .rfl
  .lk
  .lk
theorem NF(hj:j<=d){U:List T}(hl:U.length<=20):(R (cq d) 15).call (.t (.top 349)) [.t (.list (U.map (bN j)))] []=some (.ok (.t (.list (U.map (bN j)))),[]):=by
 have c:∀X,bZ (dE (R (cq d) 11) (jb ji gD 2) (aY (a7 gD) 0) (aY (a7 gD) 1) (kU gD)) (U.map (bN j)) [] (cc (S "array") X++[.ns false []])=some (.ok (U.map (bN j)),cc (S "array") X++[.ns false (cO (bN j) (S "part") U)]):=λX=>by
  have:=jR (bN j) (S "part") (λn=>some (bN j n)) (dE (R (cq d) 11) (jb ji gD 2) (aY (a7 gD) 0) (aY (a7 gD) 1) (kU gD)) (cc (S "array") X) U (lB hl rfl) λa ha w hw=>NE hj X a hw;refine a0 this ?_
  congr 2
  exact rwm _ rfl lt
 generalize C:U.map (bN j)=ys at c;refine dU (e:=ji) (b:=ba (at_ 27)) (E:=CE (.list ys)) (O2:=cc (S "array") (.list ys)++[.list ys]) (v:= .own 2) (by lk) ?_ rfl;refine aW (E:=cc (S "array") (.list ys)) ?_ (ci (jJ (E:=cc (S "array") (.list ys)) ?_ (ci (eh ((BB (vG (E:=cc (S "array") (.list ys)) (O2:=cc (S "array") (.list ys)) (x:= .t (.list ys)) (t:= .list ys) (U:=ys) (ce:=jb ji gD 2) (be:=ys) (O3:=cc (S "array") (.list ys)++[.ns false (cO (bN j) (S "part") U)]) (N:=cO (bN j) (S "part") U) ?_ ?_ rfl rfl ?_ (c _) rfl)).trans ?_)))))
 .lk
 .lk
 .rfl
 .lk
 .lk
 .rfl
def dK(j:Nat)(l:List (Str×T)):List (aj×T):=l.map λp=>(.str p.1,bN j p.2)
theorem NG{l:List (Str×T)}(hn:(l.map (·.1)).Nodup)(h:(s,t)∈l):bg (dK j l) (.str s)=some (bN j t):=by
 unfold bg dK
 induction l with
 |nil=>cases h
 |cons a l ih=>
  rw[List.map_cons,List.nodup_cons] at hn;refine rwm _ (rwm _ ?_ ni) o2;(refine bc λno=>a2 (hG.mp h) (λe=>?_) (λh=>?_);refine no ?_;clear no;rotate_left;refine no ?_;clear no;rotate_right)
  .subst e;simp
  .have:(aj.str s==aj.str a.1)=false:=beq_eq_false_iff_ne.mpr λe=>hn.1 (hL.mpr ⟨(s,t),h,aj.str.inj e⟩);refine rwm _ ?_ this;exact ih hn.2 h
theorem NH(l:List (Str×T)):fu (l.map λp=> .tuple [.str p.1,bN j p.2])=some (dK j l):=by
 induction l with
 |nil=>rfl
 |cons a l ih=>
  show(match cE (.str a.1),fu (l.map λp=> .tuple [.str p.1,bN j p.2]) with
   |some k,some l=>some ((k,bN j a.2)::l)
   |_,_=>none)=_
  refine rwm _ ?_ ih;rfl
theorem CG:∀(l A:List (Str×T)),((A++l).map (·.1)).Nodup->(dK j l).foldl (λd p=>bj d p.1 p.2) (dK j A)=dK j (A++l)
 |[],A,_=>by rw[List.append_nil];rfl
 |a::l,A,h=>by
  show(dK j l).foldl (λd p=>bj d p.1 p.2) (bj (dK j A) (.str a.1) (bN j a.2))=_;have ha:aj.str a.1∉(dK j A).map (·.1):=λhm=>by
   rw[List.map_append,List.nodup_append] at h;refine al (hL.mp hm) λx hx e=>?_;(refine ag (hL.mp hx) λy c1=>ac c1 λL bo=>?_;clear c1;clear hx;subst bo);exact h.2.2 y.1 (hL.mpr ⟨y,L,rfl⟩) a.1 (.head _) (aj.str.inj e)
  rw[nH ha,show dK j A++[(aj.str a.1,bN j a.2)]=dK j (A++[a]) by unfold dK;rw[List.map_append];rfl,CG l (A++[a]) (by rw[List.append_assoc];exact h),List.append_assoc];rfl
theorem NI(hj:j<=d){l:List (Str×T)}(hn:(l.map (·.1)).Nodup){a:Str×T}(ha:a∈l)(hw:w=[]\/∃b:Str×T,w=[(S "key",V.t (.str b.1))]):
  dE (R (cq d) 10) (jb ji gE 2) (aY (a7 gE) 0) (aY (a7 gE) 1) (kU gE) (.str a.1) (cc (S "dict") (.dict (dK j l))++[.ns false w])=some (.ok (some (.tuple [.str a.1,bN j a.2])),cc (S "dict") (.dict (dK j l))++[.ns false [(S "key",.t (.str a.1))]]):=by
 have hg:=NG (j:=j) hn (show(a.1,a.2)∈l from ha);generalize dK j l=ys at hg;refine kO (q:=true) (E:=cc (S "dict") (.dict ys)++[.ns false [(S "key",.t (.str a.1))]]) (O2:=cc (S "dict") (.dict ys)++[.ns false [(S "key",.t (.str a.1))]]) ?_ rfl (λ_=>pj (nI (E:=cc (S "dict") (.dict ys)++[.ns false [(S "key",.t (.str a.1))]]) ?_
  (CF (n:=7) hj ?_ ?_ (bx (nG (M:= .t (.dict ys)) (t:= .dict ys) (it:= .str a.1) (E:=cc (S "dict") (.dict ys)++[.ns false [(S "key",.t (.str a.1))]]) rfl ?_ ?_ rfl hg) cb)))) (λe=>nomatch e)
 .refine oE w hw ?_ λb=>?_<;>lk
 .lk
 .rfl
 .lk
 .lk
 .lk
theorem NJ(hj:j<=d){l:List (Str×T)}(hn:(l.map (·.1)).Nodup)(hl:l.length<=20):(R (cq d) 15).call (.t (.top 349)) [.t (.dict (dK j l))] []=some (.ok (.t (.dict (dK j l))),[]):=by
 have c:bZ (dE (R (cq d) 10) (jb ji gE 2) (aY (a7 gE) 0) (aY (a7 gE) 1) (kU gE)) (l.map λp=> .str p.1) [] (cc (S "dict") (.dict (dK j l))++[.ns false []])=some (.ok (l.map λp=> .tuple [.str p.1,bN j p.2]),cc (S "dict") (.dict (dK j l))++[.ns false (cO (λp:Str×T=>T.str p.1) (S "key") l)]):=by
  have:=jR (λp:Str×T=>T.str p.1) (S "key") (λp=>some (.tuple [.str p.1,bN j p.2])) (dE (R (cq d) 10) (jb ji gE 2) (aY (a7 gE) 0) (aY (a7 gE) 1) (kU gE)) (cc (S "dict") (.dict (dK j l))) l (lB hl rfl) λa ha w hw=>NI hj hn ha hw;refine a0 this ?_
  congr 2
  exact rwm _ rfl lt
 have d5:d7 (.dict (dK j l))=some (l.map λp=> .str p.1):=by
  show some ((l.map λp=>(aj.str p.1,bN j p.2)).map λp=>dO p.1)=_;refine rwm _ ?_ md;rfl
 have lU:(dK j l).length<=20:=by unfold dK;rw[List.length_map];exact hl
 have hp:=NH (j:=j) l;have hf:(dK j l).foldl (λd p=>bj d p.1 p.2) []=dK j l:=CG l [] (by simpa using hn);generalize C:dK j l=ys at c d5 lU hp hf;generalize f:(l.map λp=>T.tuple [.str p.1,bN j p.2])=m at c hp;have hd:(R (cq d) 11).call (.t (.typ "dict")) [.own 2] (cc (S "dict") (.dict ys)++[.list m])=some (.ok (.own 3),cc (S "dict") (.dict ys)++[.list m]++[.dict ys]):=by
  show bm (om (fu m)) (λN=>if aJ N.length then bP (.dict (N.foldl (λd p=>bj d p.1 p.2) [])) else λ_=>none) _=_;refine rwm _ ?_ hp;show(if aJ ys.length then bP (.dict (ys.foldl (λd p=>bj d p.1 p.2) [])) else λ_=>none:MM V) _=_;refine rwm _ (rwm _ (rwm _ ?_ hf) (ec rfl)) (eY (lB lU rfl));rfl
 refine dU (e:=ji) (b:=ba (at_ 27)) (E:=CE (.dict ys)) (O2:=cc (S "dict") (.dict ys)++[.list m]++[.dict ys]) (v:= .own 3) (by lk) ?_ rfl;refine aW (E:=cc (S "dict") (.dict ys)) ?_ (aW (E:=cc (S "dict") (.dict ys)) ?_ (ci (jJ (E:=cc (S "dict") (.dict ys)) ?_ (ci (eh (aO (fv:= .t (.typ "dict")) (vs:=[.own 2]) (E:=cc (S "dict") (.dict ys)++[.list m]) rfl ?_
  (bx ((BB (vG (E:=cc (S "dict") (.dict ys)) (O2:=cc (S "dict") (.dict ys)) (x:= .t (.dict ys)) (t:= .dict ys) (U:=l.map λp=> .str p.1) (ce:=jb ji gE 2) (be:=m) (O3:=cc (S "dict") (.dict ys)++[.ns false (cO (λp:Str×T=>T.str p.1) (S "key") l)]) (N:=cO (λp:Str×T=>T.str p.1) (S "key") l) ?_ ?_ rfl d5 ?_ c rfl)).trans ?_) cb) ?_ hd))))))
 .lk
 .lk
 .lk
 .lk
 .rfl
 .lk
 .lk
 .rfl
 .rfl
theorem NK(hC:C=250\/C=272\/C=321)(fs:List (Str×T)):(R (cq d) 15).call (.t (.top 349)) [.t (.inst C fs)] []=some (.ok (.t (.inst C fs)),[]):=by
 rcases hC with rfl|rfl|rfl<;>lk
end
theorem CH:∀{U:List T},(∀x∈U,bC j x=true)->bG U (U.map (bN j))
 |[],_=>bG.refl _
 |a::l,h=>bG.cons (TC.box (TC.refl _) (h a (.head _))) (CH λx hx=>h x (.tail _ hx))
theorem CI:∀U:List T,bG (U.map (bN j)) U
 |[]=>bG.refl _
 |a::l=>bG.cons (TC.unbox (TC.refl _)) (CI l)
theorem CJ:∀{l:List (Str×T)},(∀x∈l,bC j x.2=true)->b0 (l.map λp=>(aj.str p.1,p.2)) (dK j l)
 |[],_=>b0.refl _
 |a::l,h=>b0.cons (TC.box (TC.refl _) (h a (.head _))) (CJ λx hx=>h x (.tail _ hx))
theorem CK:∀l:List (Str×T),b0 (dK j l) (l.map λp=>(aj.str p.1,p.2))
 |[]=>b0.refl _
 |a::l=>b0.cons (TC.unbox (TC.refl _)) (CK l)
theorem CL:∀{N:List (aj×T)},(∀p∈N,j7 p.1=true)->∃l:List (Str×T),N=l.map λp=>(aj.str p.1,p.2)
 |[],_=>⟨[],rfl⟩
 |(.str s,t)::N,h=>by
  (refine ag (CL (N:=N) λp hp=>h p (.tail _ hp)) λl bo=>?_;subst bo);exact⟨(s,t)::l,rfl⟩
 |(.int i,t)::N,h=>nomatch h _ (.head _)
set_option tactic.hygienic true in
theorem CM(d:Nat):cG (R (cq d) 15) 349 (wv (d+1)):=jG λx O q h0 s _=>bT h0 λh1=>by
 revert s;clear h0;refine bY h1 λu h2=>?_;clear h1;refine jp h2 λg t h3=>?_;clear h2;refine xS h3 λk h hv=>?_;clear h3
 .skip
  refine ac (kq (ku hv)) λf st=>?_;have tg:=f;clear f;refine ac (iq h) λhk b5=>?_;clear h;cases b5;clear hv
  cases k with
  |zero=>exact ftf tg
  |succ j=>
   have hj:=Nat.le_sub_one_of_lt hk;cases t<;>first|((first|exact ftf tg|cases tg);done)|skip
   .rename_i U
    have c:(decide (U.length<=20)&&U.all (bC j))=true:=tg;rw[Bool.and_eq_true] at c;exact⟨[.t (.list (U.map (bN j)))],[],_,⟨TC.unbox (TC.list (CH λx hx=>hO.mp c.2 x hx)),trivial⟩,trivial,NF hj (hK c.1),TC.box (TC.list (CI U)) tg,trivial⟩
   .rename_i N
    have c:(decide (N.length<=20)&&N.all λp=>j7 p.1&&bC j p.2)=true:=tg;rw[Bool.and_eq_true] at c;have ha:=hO.mp c.2;(refine ag (CL λp hp=>by have q:=ha p hp;rw[Bool.and_eq_true] at q;exact q.1) λl bo=>?_;subst bo);have hl:∀x∈l,bC j x.2=true:=λx hx=>by have q:=ha (aj.str x.1,x.2) (hL.mpr ⟨x,hx,rfl⟩);rw[Bool.and_eq_true] at q;exact q.2
    have hn:(l.map (·.1)).Nodup:=by
     (refine bc λno=>a9 st λw g x z=>no ?_;clear st no);(refine dp z λ_ _ _ _ _ _ n1 _=>?_;clear z);rw[List.map_map] at n1;have n2:=n1;refine List.pairwise_map.mpr ((List.pairwise_map.mp n2).imp λ{a b} h e=>h ?_);refine(?_:aj.str a.1=aj.str b.1);exact rwm _ rfl e
    have bb:l.length<=20:=by have:=hK c.1;rwa [ln] at this
    exact⟨[.t (.dict (dK j l))],[],_,⟨TC.unbox (TC.dict (CJ hl)),trivial⟩,trivial,NJ hj hn bb,TC.box (TC.dict (CK l)) tg,trivial⟩
   .rename_i C fs
    have c:(Nat.beq C 250||Nat.beq C 272||Nat.beq C 321)=true:=tg;have hC:C=250\/C=272\/C=321:=by
     rw[Bool.or_eq_true,Bool.or_eq_true] at c;rcases c with(h|h)|h
     .exact .inl (ii h)
     .exact .inr (.inl (ii h))
     .exact .inr (.inr (ii h))
    exact⟨[.t (.inst C fs)],[],_,⟨TC.unbox (TC.refl _),trivial⟩,trivial,NK hC fs,TC.box (TC.refl _) tg,trivial⟩
theorem NL:cG (R av 0) 349 (wv 0):=jG λx O q h0 s _=>bT h0 λh1=>by
 revert s;clear h0;refine bY h1 λu h2=>?_;clear h1;refine jp h2 λg t h3=>?_;clear h2;refine xS h3 λk h hv=>?_;clear h3
 .skip
  refine ac (kq (ku hv)) λtg st=>?_;have tg:=tg;refine ac (iq h) λhk h=>?_;have:k=0:=Nat.eq_zero_of_le_zero hk;clear hv hk h;subst this;exact ftf tg
theorem CN:∀d,aC (cq d) (15*d)
 |0=>aC.add aC.start aC.start (by decide) NL
 |d+1=>aC.add (CN d) (aC.start.mono (i1 _)) (show 15*d+15<=15*(d+1) from hY _) (CM d)
def bO(c:aN)(n:Nat)(a:Addr):b8:=λbe O=>nz ((R c n).call (.t (.top a)) be O)
theorem jV(c:aN)(n:Nat)(a:Addr):cG (R c n) a (bO c n a):=λbe O q h _ _=>vJ (LC.refl _) h
theorem VC.trans(x:VC a b)(y:VC b c):VC a c:=by
 cases a<;>cases b<;>first|exact x.elim|skip
 .cases c<;>first|exact y.elim|exact TC.trans x y
 .cases c<;>first|exact y.elim|exact a0 x y
theorem LC.trans:∀{a b c:List V},LC a b->LC b c->LC a c
 |[],[],[],_,_=>trivial
 |_::_,_::_,_::_,x,y=>⟨VC.trans x.1 y.1,LC.trans x.2 y.2⟩
 |[],_::_,_,x,_=>x.elim
 |_::_,[],_,x,_=>x.elim
 |[],[],_::_,_,y=>y.elim
 |_::_,_::_,[],_,y=>y.elim
def CO:b8:=iZ λx O=>nl O (aT x λt=>gu (bC 6 t=true) (yes t []))
theorem NM:cG (R (cq 5) 15) 349 CO:=jG λx O q h s _=>bT h λh=>by
 revert s;refine bY h λt h hv=>?_
 .skip
  refine ac (iq h) λhp b5=>?_;cases b5;(refine bc λno=>a9 (ku hv) λw g x hx=>no ?_;clear no);have hb:=TC.box (k:= .plain 6) (TC.refl t) hp;have hs:cN (.t (bN 6 t)):=⟨w,g,[],x,hb _ _ _ hx⟩;refine ch (CM 5 [.t (bN 6 t)] [] (.ok (bN 6 t),[]) (fW (p:=6<=6) (hY 6)) (λv hv=>by rcases hG.mp hv with rfl|hv;exact hs;cases hv) (λ_ h=>nomatch h)) λbi M q' h1 h2 h3 h4=>⟨bi,M,q',LC.trans (b:=[.t (bN 6 t)]) ⟨hb,trivial⟩ h1,h2,h3,?_⟩;clear h3;rcases q' with⟨u,Y⟩
  match u,h4 with
  | .ok (.t u),h4=>exact⟨TC.trans h4.1 (TC.unbox (TC.refl _)),h4.2⟩
def bI:T:= .dict [(.str (aA "Root"),ao 1)]
def sS(tab:List (aj×T)):af:=[.dict tab,.sh 435 [(S "table",.own 0),(S "trailer",.t bI)]]
theorem NN(x:T)(more:List (aj×T)):i4.map (λp=>br av 22 465 [.own 1,.t (ao (10+3*(p.2:Int)))] (sS ((.int 1,x)::(aI 0 p.1++more))))=eO (λp=>some (.ok (.t (.bool true)),sS ((.int 1,x)::(aI 0 p.1++more)))) i4:=by lk
theorem NO(x:T):jL.map (λp=>br av 22 465 [.own 1,.t (ao (23+(p.2:Int)))] (sS ((.int 1,x)::(aI 0 p.1++[(.int (23+(p.2:Int)),df cj)]))))=eO (λp=>some (.ok (.t (.bool true)),sS ((.int 1,x)::(aI 0 p.1++[(.int (23+(p.2:Int)),df cj)])))) jL:=by lk
theorem jj{c:aN}(h:br c n a be O=some (.ok (.t t),X)):bO c n a be O=some (some (.ok t,X)):=by
 have h:(R c n).call (.t (.top a)) be O=some (.ok (.t t),X):=h;unfold bO;refine rwm _ ?_ h;rfl
theorem CP(hm:m<=4)(hn:n∈aQ m)(x:T)(more:List (aj×T)):bO av 22 465 [.own 1,.t (ao n)] (sS ((.int 1,x)::(aI 0 m++more)))=some (some (.ok (.bool true),sS ((.int 1,x)::(aI 0 m++more)))):=by
 (refine ag (i7.mp hn) λi c1=>ac c1 λh1 bo=>?_;clear c1;clear hn;subst bo);have q:=fe (NN x more) (Bn h1 hm);dsimp only at q;exact jj q
def kP:aN:=bp 465 (bO av 22 465) av
theorem CQ:aC kP 22:=aC.add aC.start (aC.start.mono (i1 _)) (by decide) (jV av 22 465)
def fF(ord:List Int)(A:List (aj×T)):List (aj×T):=[(.str (aA "OCGs"),.list (ord.map ao)),(.str (aA "D"),.dict A)]
def hU(ord:List Int)(A:List (aj×T)):T:= .dict [(.str (aA "Type"),gL "Catalog"),(.str (aA "OCProperties"),.dict (fF ord A))]
def aB(ord:List Int)(A:List (aj×T))(l:List (aj×T)):List (aj×T):=(.int 1,.tuple [.int 0,hU ord A])::l
def co(b:Nat)(on off lk:List Int)(rows:List (List Int)):List (aj×T):=[(.str (aA "ON"),aK on),(.str (aA "OFF"),aK off),(.str (aA "Locked"),aK lk),(.str (aA "RBGroups"),.list (rows.map aK))]++lI b
def bA(lk:List Int)(rows:List (List Int))(I:List Int):List (aj×T):=[(.str (aA "Locked"),aK lk),(.str (aA "RBGroups"),.list (rows.map aK))]++oF I
def iF:AE:=⟨aV (at_ 46),2,[(S "states",4),(S "shelf",3)],S "put_states"++nm ".<locals>.",556⟩
def jW:List Stmt:=ba (at_ 46)
def sH(tab:List (aj×T))(Z:T):af:=sS tab++[.ns true [],.cell (some (.own 1)),.cell (some (.t Z))]
def ff(tab:List (aj×T))(Z:T)(ord:List Int)(A:List (aj×T)):af:=sS tab++[.ns true [(S "head",.own 5),(S "found",.t (.dict A)),(S "first",.own 6)],.cell (some (.own 1)),.cell (some (.t Z)),.dict (fF ord A),.dict A]
def sI(tab:List (aj×T))(Z:T)(ord:List Int)(A:List (aj×T))(I:List Int):af:=sS tab++[.ns true [(S "head",.own 5),(S "found",.t (.dict A)),(S "first",.own 6),(S "off",.own 7)],.cell (some (.own 1)),.cell (some (.t Z)),.dict (fF ord A),.dict A,.list (I.map ao)]
def ww:Expr:=bV (an jW 3)
theorem b3{P:Nat->Prop}(h0:P 0)(h1:P 1)(h2:P 2)(hb:b<=2):P b:=by
 have:b=0\/b=1\/b=2:=tw hb;clear hb;rcases this with rfl|rfl|rfl<;>assumption
section
variable {ord on off lk:List Int}{rows:List (List Int)}{l:List (aj×T)}{f:Int->Bool}{b m:Nat}
set_option tactic.hygienic true in
theorem NP(Z:T)(hb:b<=2):aR (R kP 34) iF (jW.take 3) (sH (aB ord (co b on off lk rows) l) Z)=some (.ok .next,ff (aB ord (co b on off lk rows) l) Z ord (co b on off lk rows)):=
 b3 (P:=λb=>aR (R kP 34) iF (jW.take 3) (sH (aB ord (co b on off lk rows) l) Z)=some (.ok .next,ff (aB ord (co b on off lk rows) l) Z ord (co b on off lk rows))) (by lk) (by lk) (by lk) hb
theorem NQ{c:aN}(h:(R c n).test a e O=some (.ok q,E)):(R c (n+1)).test (.UnaryOp .Not a p) e O=some (.ok (!q),E):=by
 show bm ((R c n).test a e) (λb=>pm !b) O=_;refine a0 (az h) ?_;rfl
theorem CR(be:List V)(O:af):kP 465 be O=bO av 22 465 be O:=by lk
theorem NR(hm:m<=4)(ha:a∈aQ m)(c:a∈ord)(A more:List (aj×T))(hw:w=[]\/∃b,w=[(S "item",V.t (ao b))]):
  cP kP 33 iF ww 7 (ao a) (ff (aB ord A (aI 0 m++more)) (aF ord f) ord A++[.ns false w])=some (.ok (cond (!f a) (some (ao a)) none),ff (aB ord A (aI 0 m++more)) (aF ord f) ord A++[.ns false [(S "item",.t (ao a))]]):=by
 have hc:=CP hm ha (.tuple [.int 0,hU ord A]) more;have hc:bO av 22 465 [.own 1,.t (ao a)] (sS (aB ord A (aI 0 m++more)))=some (some (.ok (.bool true),sS (aB ord A (aI 0 m++more)))):=hc;generalize aB ord A (aI 0 m++more)=tab at hc;refine kO (q:= !f a) (E:=ff tab (aF ord f) ord A++[.ns false [(S "item",.t (ao a))]]) (O2:=ff tab (aF ord f) ord A++[.ns false [(S "item",.t (ao a))]]) ?_
  (wh (rF (E:=ff tab (aF ord f) ord A++[.ns false [(S "item",.t (ao a))]]) (rG (v:= .t (.bool true)) (E:=ff tab (aF ord f) ord A++[.ns false [(S "item",.t (ao a))]])
   (aO (fv:= .t (.top 465)) (vs:=[.own 1,.t (ao a)]) (E:=ff tab (aF ord f) ord A++[.ns false [(S "item",.t (ao a))]]) rfl ?_ ?_ ?_ (cm (p:=⟨[0,1],sS tab⟩) (bi:=[.own 1,.t (ao a)]) (X:=sS tab) ?_ ((CR _ _).trans hc) ?_)) rfl)
   (l0 (NQ (q:=f a) (rG (v:= .t (.bool (f a))) (E:=ff tab (aF ord f) ord A++[.ns false [(S "item",.t (ao a))]])
    (kE (E:=ff tab (aF ord f) ord A++[.ns false [(S "item",.t (ao a))]]) (O2:=ff tab (aF ord f) ord A++[.ns false [(S "item",.t (ao a))]]) (M:= .t (aF ord f)) (t:=aS ord f) (L:=1) (k:=3) (vs:=[.t (.int a),.t (.bool true)]) rfl ?_ rfl rfl rfl rfl ?_ ?_) rfl))))) (λ_=>?_) (λ_=>rfl)
 .refine oE w hw ?_ λb=>?_<;>lk
 .lk
 .lk
 .lk
 .lk
 .lk
 .lk
 .lk
 .show pm (match bg (ax ord f) (.int a) with|some t=>V.t t|none=> .t (.bool true)) _=_;refine rwm _ (rwm _ ?_ (ec c)) kW;rfl
 .lk
end
theorem CS{l:List (aj×T)}(h:k∉l.map (·.1)):bj ((k,t)::l) k u=(k,u)::l:=by
 unfold bj;refine a0 (ec (by simp)) ?_;refine a0 o2 (rwm _ ?_ (ec rfl));have e:l.map (λG=>if G.1=k then(G.1,u) else G)=l.map λG=>G:=kv λx hx=>hX λe=>h (hL.mpr ⟨x,hx,e⟩);rw[e,List.map_id']
theorem pO:∀(n i:Nat),(aI i n).map (·.1)=(List.range n).map λj=>aj.int (10+3*((i+j:Nat):Int))
 |0,_=>rfl
 |n+1,i=>by
  refine rwm _ ?_ r6;show aj.int (10+3*(i:Int))::(aI (i+1) n).map (·.1)=_;refine rwm _ (rwm _ (rwm _ ?_ md) o2) (pO n (i+1))
  congr 1
  refine kv λj _=>(?_:aj.int (10+3*((i+1+j:Nat):Int))=aj.int (10+3*((i+(j+1):Nat):Int)));exact rwm _ rfl (show i+1+j=i+(j+1) from Nat.succ_add i j)
theorem CT(n i:Nat):aj.int 1∉(aI i n).map (·.1):=by
 rw[pO];intro h;refine al (hL.mp h) λj _ e=>?_;have:=aj.int.inj e;exact wZ this
section
variable {ord on off lk:List Int}{rows:List (List Int)}{l:List (aj×T)}{f:Int->Bool}{b m:Nat}
noncomputable def c8(ord:List Int)(f:Int->Bool):List Int:=ord.filter λn=> !f n
theorem NS(f:Int->Bool)(l:List Int):l.filterMap (λa=>cond (!f a) (some (ao a)) none)=(c8 l f).map ao:=by
 unfold c8
 induction l with
 |nil=>rfl
 |cons a l ih=>
  cases h:f a
  .exact rwm _ (rwm _ (rwm _ (rwm _ rfl ih) o2) (List.filter_cons_of_pos (by refine rwm _ ?_ h;rfl))) (qn (by refine rwm _ ?_ h;rfl))
  .exact rwm _ (rwm _ (rwm _ rfl ih) (List.filter_cons_of_neg (by refine rwm _ ?_ h;decide))) (List.filterMap_cons_none (by refine rwm _ ?_ h;rfl))
set_option tactic.hygienic true in
theorem NT(hm:m<=4)(ho:∀a∈ord,a∈aQ m)(hl:ord.length<100)(A more:List (aj×T)):(R kP 34).ex (an jW 3) iF (ff (aB ord A (aI 0 m++more)) (aF ord f) ord A)=some (.ok .next,sI (aB ord A (aI 0 m++more)) (aF ord f) ord A (c8 ord f)):=by
 have c:bZ (cP kP 33 iF ww 7) (ord.map ao) [] (ff (aB ord A (aI 0 m++more)) (aF ord f) ord A++[.ns false []])=
   some (.ok ((c8 ord f).map ao),ff (aB ord A (aI 0 m++more)) (aF ord f) ord A++[.ns false (cO ao (S "item") ord)]):=by
  have:=jR ao (S "item") (λa=>cond (!f a) (some (ao a)) none) (cP kP 33 iF ww 7) (ff (aB ord A (aI 0 m++more)) (aF ord f) ord A) ord (lB (l3 hl) rfl) λa ha w hw=>NR hm (ho a ha) ha A more hw;rw[this,NS]
 exact pd rfl (BA (l5 c rfl rfl (by lk)) (by lk))
noncomputable def pP:List (Nat×Nat):=[0,1,2,3,4].flatMap λm=>[0,1,2].map λb=>(m,b)
theorem CU(hm:m<=4)(hb:b<=2):(m,b)∈pP:=by
 refine List.mem_flatMap.mpr ⟨m,mt (lC hm rfl),hL.mpr ⟨b,?_,rfl⟩⟩;have:b=0\/b=1\/b=2:=tw hb;clear hb;rcases this with rfl|rfl|rfl<;>simp
theorem NU(Z:T):pP.map (λp=>fc (R kP 34) iF (jW.drop 4) 2 (sI (aB ord (co p.2 on off lk rows) (aI 0 p.1)) Z ord (co p.2 on off lk rows) []))=eO (λp=>some (.ok (.t .none),sS (bj (aB ord (co p.2 on off lk rows) (aI 0 p.1)) (.int 1) (.tuple [.int 0,hU ord (bA lk rows [])])))) pP:=by lk
theorem NV(Z:T)(a:Int)(r:List Int):pP.map (λp=>fc (R kP 34) iF (jW.drop 4) 2 (sI (aB ord (co p.2 on off lk rows) (aI 0 p.1)) Z ord (co p.2 on off lk rows) (a::r)))=eO (λp=>some (.ok (.t .none),sS (bj (aB ord (co p.2 on off lk rows) (aI 0 p.1)) (.int 1) (.tuple [.int 0,hU ord (bA lk rows (a::r))])))) pP:=by lk
theorem NW(Z:T)(hm:m<=4)(hb:b<=2)(I:List Int):fc (R kP 34) iF (jW.drop 4) 2 (sI (aB ord (co b on off lk rows) (aI 0 m)) Z ord (co b on off lk rows) I)=some (.ok (.t .none),sS (bj (aB ord (co b on off lk rows) (aI 0 m)) (.int 1) (.tuple [.int 0,hU ord (bA lk rows I)]))):=by
 cases I with
 |nil=>
  have q:=fe (NU (ord:=ord) (on:=on) (off:=off) (lk:=lk) (rows:=rows) Z) (CU hm hb);dsimp only at q;exact q
 |cons a r=>
  have q:=fe (NV (ord:=ord) (on:=on) (off:=off) (lk:=lk) (rows:=rows) Z a r) (CU hm hb);dsimp only at q;exact q
theorem NX(tab:List (aj×T))(Z:T)(h:fc (R kP 34) iF jW 2 (sH tab Z)=some (.ok (.t .none),X)):br kP 35 557 [.own 1,.t Z] (sS tab)=some (.ok (.t .none),X):=by
 refine lr (e:=iF) (H:=[(S "shelf",.own 1),(S "states",.t Z)]) (E:=sH tab Z) (st:=at_ 46) (q:=S "put_states") (d:=[]) (c6:=556) ?_ ?_ ?_ ?_ ?_ h
 .lk
 .lk
 .rfl
 .lk
 .lk
theorem NY(hm:m<=4)(hb:b<=2)(ho:∀a∈ord,a∈aQ m)(hl:ord.length<100):br kP 35 557 [.own 1,.t (aF ord f)] (sS (aB ord (co b on off lk rows) (aI 0 m)))=some (.ok (.t .none),sS (aB ord (bA lk rows (c8 ord f)) (aI 0 m))):=by
 have h1:=NT (f:=f) (ord:=ord) (m:=m) hm ho hl (co b on off lk rows) [];rw[List.append_nil] at h1;have h2:=NW (ord:=ord) (on:=on) (off:=off) (lk:=lk) (rows:=rows) (aF ord f) hm hb (c8 ord f);rw[show bj (aB ord (co b on off lk rows) (aI 0 m)) (.int 1) (.tuple [.int 0,hU ord (bA lk rows (c8 ord f))])=aB ord (bA lk rows (c8 ord f)) (aI 0 m) from CS (CT m 0)] at h2;exact NX _ _ (eP (NP _ hb) (eP (j:=1) (bv (s:=an jW 3) h1) h2))
end
def NZ:AE:=⟨aV (bf 29 0),2,[],S "Shelf.put"++nm ".<locals>.",398⟩
def N0:List Stmt:=ba (bf 29 0)
def pQ(N:List (aj×T))(n g:T)(v:T):af:=sS N++[.ns true [(S "self",.own 1),(S "number",.t n),(S "generation",.t g),(S "value",.t v)]]
theorem N3{N:List (aj×T)}(hl:N.length<900)(n:Int)(v:T):br av 15 399 [.own 1,.t (.int n),.t (.int 0),.t v] (sS N)=some (.ok (.t .none),sS (bj N (.int n) (.tuple [.int 0,v]))):=by
 refine lr (e:=NZ) (H:=[(S "self",.own 1),(S "number",.t (.int n)),(S "generation",.t (.int 0)),(S "value",.t v)]) (E:=pQ N (.int n) (.int 0) v) (st:=bf 29 0) (q:=S "Shelf.put") (d:=[]) (c6:=398) ?_ ?_ ?_ ?_ ?_ ?_
 .lk
 .lk
 .rfl
 .lk
 .lk
 .refine eP (j:=1) (E:=pQ (bj N (.int n) (.tuple [.int 0,v])) (.int n) (.int 0) v) (bv ((dX (v:= .t (.tuple [.int 0,v])) (E:=pQ N (.int n) (.int 0) v) rfl rfl rfl ?_ (pn (k:=0) (it:= .int n) (t:= .tuple [.int 0,v]) (N:=N) (f:= .int n) (E:=pQ N (.int n) (.int 0) v) (O2:=pQ N (.int n) (.int 0) v) rfl ?_ ?_ rT rfl rfl ?_)).trans ?_)) ?_
  .lk
  .lk
  .lk
  .exact lB hl rfl
  .rfl
  .lk
def N4:AE:=⟨aV (bf 29 2),2,[],S "Shelf.drop"++nm ".<locals>.",412⟩
def hV(N:List (aj×T))(n:T):af:=sS N++[.ns true [(S "self",.own 1),(S "number",.t n)]]
theorem N5{N:List (aj×T)}(hl:N.length<900)(hn:bg N (.int n)=some t):br av 15 413 [.own 1,.t (.int n)] (sS N)=some (.ok (.t .none),sS (gP N (.int n))):=by
 refine lr (e:=N4) (H:=[(S "self",.own 1),(S "number",.t (.int n))]) (E:=hV N (.int n)) (st:=bf 29 2) (q:=S "Shelf.drop") (d:=[]) (c6:=412) ?_ ?_ ?_ ?_ ?_ ?_
 .lk
 .lk
 .rfl
 .lk
 .lk
 .refine eP (j:=1) (E:=hV (gP N (.int n)) (.int n)) (bv (jJ (E:=hV N (.int n)) (ey (v:= .t (.int n)) (u:= .own 0) (E:=hV N (.int n)) (O2:=hV N (.int n)) ?_ ?_ (vN (x:= .int n) (y:= .dict N) rfl rfl ?_))
   (bv (jI (v:= .t t) rfl (kE (E:=hV N (.int n)) (O2:=hV N (.int n)) (M:= .own 0) (t:= .dict N) (L:=1) (k:=4) (vs:=[.t (.int n)]) ?_ ?_ ?_ rfl rfl ?_ ?_ ?_))))) ?_
  .lk
  .lk
  .show some ((bg N (.int n)).isSome)=_;refine rwm _ ?_ hn;rfl
  .rfl
  .lk
  .lk
  .lk
  .lk
  .show qz (.own 0) [.t (.int n)] (hV N (.int n))=_;refine a0 (show qz (.own 0) [.t (.int n)] (hV N (.int n))=bm (bw 0) (λQ O=>tY Q λN=>bm (om (cE (.int n))) (λk=>bm (om (bg N k)) λt=>if aJ N.length then bm (put 0 (.dict (gP N k))) λ_=>pm (V.t t) else λ_=>none) O) (hV N (.int n)) from rfl) ?_;refine a0 (az (show bw 0 (hV N (.int n))=some (.ok (.dict N),hV N (.int n)) from rfl)) ?_;show bm (om (bg N (.int n))) (λt=>if aJ N.length then bm (put 0 (.dict (gP N (.int n)))) λ_=>pm (V.t t) else λ_=>none) _=_;refine rwm _ ?_ hn;show(if aJ N.length then bm (put 0 (.dict (gP N (.int n)))) λ_=>pm (V.t t) else λ_=>none:MM V) _=_;refine rwm _ (rwm _ ?_ (ec rfl)) (eY (lB (l3 hl) rfl));rfl
  .lk
def kH:aN:=bp 399 (bO av 15 399) av
def kG:aN:=bp 406 (bO av 20 406) (bp 552 (bO kH 30 552) av)
def kK:aN:=bp 557 (bO kP 35 557) (bp 564 (bO kG 40 564) (bp 399 (bO av 15 399) (bp 413 (bO av 15 413) (bp 472 (bO kP 30 472) (bp 349 CO (bp 588 mh av))))))
theorem N6:aC kH 15:=aC.add aC.start (aC.start.mono (i1 _)) (by decide) (jV av 15 399)
theorem N7:aC kG 45:=aC.add aC.start (aC.add N6 (aC.start.mono (i1 _)) (by decide) (jV kH 30 552)) (by decide) (jV av 20 406)
theorem CV:aC kK 260:=aC.add CQ (aC.add N7 (aC.add aC.start (aC.add aC.start (aC.add CQ (aC.add (CN 5) (aC.add pr (aC.start.mono (i1 _)) (by decide) BS) (by decide) NM) (by decide) (jV kP 30 472)) (by decide) (jV av 15 413)) (by decide) (jV av 15 399)) (by decide) (jV kG 40 564)) (by decide) (jV kP 35 557)
noncomputable def aM(l:List (Int×T)):List (aj×T):=l.map λp=>(.int p.1,.tuple [.int 0,p.2])
theorem CW(l:List (Int×T)):(aM l).length=l.length:=ln ..
theorem N8{l:List (Int×T)}(hn:(l.map (·.1)).Nodup)(h:(s,t)∈l):bg (aM l) (.int s)=some (.tuple [.int 0,t]):=by
 unfold bg aM
 induction l with
 |nil=>cases h
 |cons a l ih=>
  rw[List.map_cons,List.nodup_cons] at hn;refine rwm _ (rwm _ ?_ ni) o2;(refine bc λno=>a2 (hG.mp h) (λe=>?_) (λh=>?_);refine no ?_;clear no;rotate_left;refine no ?_;clear no;rotate_right)
  .subst e;simp
  .have:(aj.int s==aj.int a.1)=false:=beq_eq_false_iff_ne.mpr λe=>hn.1 (hL.mpr ⟨(s,t),h,aj.int.inj e⟩);refine rwm _ ?_ this;exact ih hn.2 h
theorem N9{l:List (Int×T)}(h:a∉l.map (·.1)):aj.int a∉(aM l).map (·.1):=by
 intro hm;refine al (hL.mp hm) λx hx e=>?_;(refine ag (hL.mp hx) λy c1=>ac c1 λL bo=>?_;clear c1;clear hx;subst bo);exact h (hL.mpr ⟨y,L,aj.int.inj e⟩)
section
variable {c:aN}{n:Nat}{e:AE}{O E:af}
theorem ls{fs:List (Str×T)}(hb:fP o=true)(h1:(R c n).ev o e O=some (.ok (.t X),E))(h2:strip X= .inst C fs)(h3:(Pc c).fld C f=true)(h4:fs.lookup f=some t)(h5:iN (.t t)=some (.t t)):
  (R c (n+1)).ev (.Attribute o f p) e O=some (.ok (.t t),E):=by
 show(if fP o then bm ((R c n).ev o e) λM=>qB (Pc c).fld M f else λ_=>none:MM V) O=_;refine rwm _ (rwm _ (rwm _ ?_ (az h1)) (ec rfl)) hb;show mS (Pc c).fld (strip X) f E=_;refine rwm _ ?_ h2;show(if(Pc c).fld C f then om ((fs.lookup f).bind λt=>iN (.t t)) else λ_=>none:MM V) E=_;refine rwm _ (rwm _ (rwm _ ?_ h4) (ec rfl)) h3;show om (iN (.t t)) E=_;refine rwm _ ?_ h5;rfl
end
def db(l:List (aj×T))(G:T):T:= .inst 435 [(S "table",.dict l),(S "trailer",G)]
noncomputable def wx(x:Expr)(c:Str)(cl:List (Str×Nat)):MO:=match x with
 | .Lambda ps b sc _=> .clo ps b sc c cl
 |_=> .dead
def lu:List Stmt:=ba (at_ 56)
def lw:List Stmt:=ba (at_ 57)
def mv:Expr:=aY (a7 (aY (a7 (bV (an lu 2))) 0)) 2
def nV:Expr:=aY (a7 (bV (an lw 1))) 3
def pR:MO:=wx mv (S "keep_laid"++nm ".<locals>."++nm "<lambda>") [(S "states",1)]
def mw:MO:=wx nV (S "layer_laid"++nm ".<locals>."++nm "<lambda>") [(S "label",1)]
def gF(q:Bool)(y u s z:T):af:=cond q [.ns true [(S "bench",.t y),(S "kept",.t u),(S "rest",.t s)],.cell (some (.t z)),pR,.ns true [(S "bench",.t y),(S "change",.own 2)]]
 [.ns true [(S "bench",.t y),(S "beyond",.t u),(S "rest",.t s)],.cell (some (.t z)),mw,.ns true [(S "bench",.t y),(S "beyond",.t u),(S "change",.own 2)],.cell none]
def sJ(q:Bool):AE:=⟨aV (at_ 30),cond q 4 5,[],S "shelf_copied"++nm ".<locals>.",443⟩
def pS:List Stmt:=ba (at_ 30)
def cA(q:Bool)(y u s z:T)(X:T)(w:List (Str×V))(l:List (aj×T)):af:=gF q y u s z++[.ns true ([(S "shelf",.t X),(S "table",.own (cond q 5 6))]++w),.dict l]
def dA(p:Int×T):List (Str×V):=[(S "number",.t (.int p.1)),(S "generation",.t (.int 0)),(S "value",.t p.2)]
section
variable {q:Bool}{y u s z:T}{X:T}{l:List (Int×T)}
set_option tactic.hygienic true in
theorem Oa(c:strip X=db (aM l) bI)(hn:(l.map (·.1)).Nodup)(hp:∀p∈l,bC 6 p.2=true)(hl:l.length<100){a:Int×T}(e:l=A++a::B):
  i3 (R kK 28) (sJ q) (dx (an pS 1)) (dy (an pS 1)) (cond q 6 7) (.int a.1) (cA q y u s z X (dZ dA A) (aM A))=some (.ok .next,cA q y u s z X (dZ dA (A++[a])) (aM (A++[a]))):=by
 have ha:a∈l:=by refine rwm _ ?_ e;simp
 have hf:a.1∉A.map (·.1):=by
  rw[e,List.map_append,List.nodup_append] at hn;intro hm;exact hn.2.2 a.1 hm a.1 (by simp) rfl
 have c4:A.length<100:=by rw[e] at hl;simp at hl;exact qd hl
 rw[B7];have hw:=nK dA A;generalize dZ dA A=w at hw;have h1:∃G,(G=[(S "number",V.t (.int a.1))]\/∃g v,G=[(S "number",V.t (.int a.1)),(S "generation",g),(S "value",v)])/\(R kK 28).as (dx (an pS 1)) (sJ q) (.t (.int a.1)) (cA q y u s z X w (aM A))=some (.ok (),cA q y u s z X G (aM A)):=by
  (refine a2 hw (λzz=>?_) (λzz=>?_);(try clear hw);subst zz;rotate_left;(try clear hw);refine ag zz λb bo=>?_;clear zz;subst bo;rotate_right)
  .exact⟨_,.inl rfl,by cases q<;>lk⟩
  .exact⟨_,.inr ⟨.t (.int 0),.t b.2,rfl⟩,by cases q<;>lk⟩
 refine al h1 λG d h1=>(dJ (O2:=cA q y u s z X (dA a) (aM (A++[a]))) h1 (aW (E:=cA q y u s z X (dA a) (aM A)) (dX (v:= .t (.tuple [.int 0,a.2])) (E:=cA q y u s z X G (aM A)) rfl rfl rfl
  (nG (M:= .t (.dict (aM l))) (t:= .dict (aM l)) (it:= .int a.1) (E:=cA q y u s z X G (aM A)) rfl (ls (X:=X) (E:=cA q y u s z X G (aM A)) rfl ?_ c ?_ rfl rfl) ?_ rfl (N8 hn ha)) ?_)
  (bv ((dX (v:= .t (.tuple [.int 0,a.2])) (E:=cA q y u s z X (dA a) (aM A)) rfl rfl rfl (nI (E:=cA q y u s z X (dA a) (aM A)) ?_ (aO (fv:= .t (.top 349)) (vs:=[.t a.2]) (E:=cA q y u s z X (dA a) (aM A)) rfl ?_ ?_ ?_ (cm (p:=⟨[],[]⟩) (X:=[]) rfl (fW (p:=bC 6 a.2=true) (hp a ha)) rfl)))
   (pn (k:=cond q 5 6) (it:= .int a.1) (t:= .tuple [.int 0,a.2]) (N:=aM A) (f:= .int a.1) (E:=cA q y u s z X (dA a) (aM A)) (O2:=cA q y u s z X (dA a) (aM A)) rfl ?_ ?_ rT ?_ rfl ?_)).trans ?_)))).trans ?_
 ·(refine a2 d (λzz=>?_) (λzz=>?_);(try clear d);clear h1;subst zz;rotate_left;(try clear d);refine aq zz λg v cr=>?_;clear zz;clear h1;subst cr;rotate_right)<;>(clear h1;cases q)<;>lk
 .lk
 ·(refine a2 d (λzz=>?_) (λzz=>?_);(try clear d);clear h1;subst zz;rotate_left;(try clear d);refine aq zz λg v cr=>?_;clear zz;clear h1;subst cr;rotate_right)<;>(clear h1;cases q)<;>lk
 ·(refine a2 d (λzz=>?_) (λzz=>?_);(try clear d);clear h1;subst zz;rotate_left;(try clear d);refine aq zz λg v cr=>?_;clear zz;clear h1;subst cr;rotate_right)<;>(clear h1;cases q)<;>lk
 .clear h1;cases q<;>lk
 .clear h1;cases q<;>lk
 .clear h1;cases q<;>lk
 .clear h1;cases q<;>lk
 .clear h1;cases q<;>lk
 .clear h1;cases q<;>lk
 .clear h1;cases q<;>rfl
 .rw[CW];exact lB c4 rfl
 .refine rwm _ (rwm _ ?_ (show aM A++[(aj.int a.1,T.tuple [.int 0,a.2])]=aM (A++[a]) by unfold aM;refine rwm _ ?_ i6;rfl)) (nH (N9 hf));clear h1;cases q<;>rfl
 .exact hS (λY=>some (Except.ok Fl.next,Y)) (ek (by clear h1;cases q<;>exact hY _))
theorem CX(c:strip X=db (aM l) bI)(hn:(l.map (·.1)).Nodup)(hp:∀p∈l,bC 6 p.2=true)(hl:l.length<100)(ht:bC 6 bI=true):
  (R kK 30).call (.t (.top 444)) [.t X] (gF q y u s z)=some (.ok (.own (cond q 7 8)),cA q y u s z X (dZ dA l) (aM l)++[.dead,.sh 435 [(S "table",.own (cond q 5 6)),(S "trailer",.t bI)]]):=by
 have L:=lj (λp:Int×T=>T.int p.1) (λA O=>O=cA q y u s z X (dZ dA A) (aM A)) (i3 (R kK 28) (sJ q) (dx (an pS 1)) (dy (an pS 1)) (cond q 6 7)) l (O:=cA q y u s z X [] []) rfl λA a B O e Y=>by
  subst Y;exact⟨_,Oa c hn hp hl e,rfl⟩
 (refine ag L λM c1=>ac c1 λL1 bo=>?_;clear c1;subst bo);have d5:d7 (.dict (aM l))=some (l.map λp=>T.int p.1):=by
  show some ((l.map λp=>(aj.int p.1,T.tuple [.int 0,p.2])).map λp=>dO p.1)=_;refine rwm _ ?_ md;rfl
 have hw:=nK dA l;generalize dZ dA l=w at hw L1;refine kI (e:=sJ q) (H:=[(S "shelf",.t X)]) (E:=gF q y u s z++[.ns true [(S "shelf",.t X)]]) (O2:=cA q y u s z X w (aM l)++[.dead,.sh 435 [(S "table",.own (cond q 5 6)),(S "trailer",.t bI)]]) (v:= .own (cond q 7 8)) (st:=at_ 30) (q:=S "shelf_copied") (d:=[]) (c6:=443) ?_ ?_ ?_ ?_ ?_ ?_ ?_
 .clear L;cases q<;>lk
 .lk
 .rfl
 .lk
 .clear L;cases q<;>lk
 .refine aW (E:=cA q y u s z X [] []) ?_ (aW (E:=cA q y u s z X w (aM l)) (pf (E:=cA q y u s z X [] []) (O2:=cA q y u s z X [] []) (x:= .t (.dict (aM l))) (t:= .dict (aM l)) (U:=l.map λp=>T.int p.1) rfl (ls (X:=X) rfl ?_ c ?_ rfl rfl) rfl d5 ?_)
   (ci (eh (aO (fv:= .t (.top 435)) (vs:=[.own (cond q 5 6),.t bI]) (E:=cA q y u s z X w (aM l)) rfl ?_
    (bx (E:=cA q y u s z X w (aM l)) ?_ (bx (aO (fv:= .t (.top 349)) (vs:=[.t bI]) (E:=cA q y u s z X w (aM l)) rfl ?_ (bx (ls (X:=X) rfl ?_ c ?_ rfl rfl) cb) ?_ (cm (p:=⟨[],[]⟩) (X:=[]) rfl (fW (p:=bC 6 bI=true) ht) rfl)) cb)) ?_ ?_))))
  .clear L;cases q<;>lk
  .clear L;cases q<;>lk
  .lk
  .clear L;cases q<;>exact L1
  ·(refine a2 hw (λzz=>?_) (λzz=>?_);(try clear hw);clear L1;subst zz;rotate_left;(try clear hw);refine ag zz λb bo=>?_;clear zz;clear L1;subst bo;rotate_right)<;>cases q<;>lk
  ·(refine a2 hw (λzz=>?_) (λzz=>?_);(try clear hw);clear L1;subst zz;rotate_left;(try clear hw);refine ag zz λb bo=>?_;clear zz;clear L1;subst bo;rotate_right)<;>cases q<;>lk
  ·(refine a2 hw (λzz=>?_) (λzz=>?_);(try clear hw);clear L1;subst zz;rotate_left;(try clear hw);refine ag zz λb bo=>?_;clear zz;clear L1;subst bo;rotate_right)<;>cases q<;>lk
  ·(refine a2 hw (λzz=>?_) (λzz=>?_);(try clear hw);clear L1;subst zz;rotate_left;(try clear hw);refine ag zz λb bo=>?_;clear zz;clear L1;subst bo;rotate_right)<;>cases q<;>lk
  .lk
  .lk
  .lk
  ·(refine a2 hw (λzz=>?_) (λzz=>?_);(try clear hw);clear L1;subst zz;rotate_left;(try clear hw);refine ag zz λb bo=>?_;clear zz;clear L1;subst bo;rotate_right)<;>cases q<;>lk
 ·(refine a2 hw (λzz=>?_) (λzz=>?_);(try clear hw);clear L1;subst zz;rotate_left;(try clear hw);refine ag zz λb bo=>?_;clear zz;clear L1;subst bo;rotate_right)<;>cases q<;>rfl
end
theorem CY{U:List T}(h:U.length<=20)(hx:∀x∈U,bC n x=true):bC (n+1) (.list U)=true:=by
 refine(?_:(decide (U.length<=20)&&U.all (bC n))=true);refine rwm _ (rwm _ ?_ (hO.mpr hx)) (iv h);rfl
theorem wz{N:List (aj×T)}(h:N.length<=20)(hx:∀p∈N,j7 p.1=true/\bC n p.2=true):bC (n+1) (.dict N)=true:=by
 refine(?_:(decide (N.length<=20)&&N.all λp=>j7 p.1&&bC n p.2)=true);rw[decide_eq_true h,List.all_eq_true.mpr λp hp=>by refine rwm _ (rwm _ ?_ ((hx p hp).2)) ((hx p hp).1);rfl];rfl
theorem mx{l:List Int}(h:l.length<=20):bC (n+2) (aK l)=true:=
 CY (by rw[List.length_map];exact h) λx hx=>by
  (refine ag (hL.mp hx) λa c1=>ac c1 λ_ bo=>?_;clear c1;clear hx;subst bo);rfl
theorem CZ{rows:List (List Int)}(h:rows.length<=20)(hr:∀r∈rows,r.length<=20):bC (n+3) (.list (rows.map aK))=true:=
 CY (by rw[List.length_map];exact h) λx hx=>by
  (refine ag (hL.mp hx) λa c1=>ac c1 λha bo=>?_;clear c1;clear hx;subst bo);exact mx (hr a ha)
theorem C0{ord:List Int}{A:List (aj×T)}(ho:ord.length<=20)(hl:A.length<=20)(hf:∀p∈A,j7 p.1=true/\bC 3 p.2=true):bC 6 (hU ord A)=true:=by
 refine wz (show 2<=20 by decide) λp hp=>?_;simp only[List.mem_cons,List.not_mem_nil,or_false] at hp;(refine a2 hp (λzz=>?_) (λzz=>?_);(try clear hp);subst zz;rotate_left;(try clear hp);subst zz;rotate_right)
 .exact⟨rfl,rfl⟩
 .refine⟨rfl,wz (show 2<=20 by decide) λp hp=>?_⟩;have hp:p∈[(aj.str (aA "OCGs"),T.list (ord.map ao)),(aj.str (aA "D"),T.dict A)]:=hp;simp only[List.mem_cons,List.not_mem_nil,or_false] at hp;(refine a2 hp (λzz=>?_) (λzz=>?_);(try clear hp);subst zz;rotate_left;(try clear hp);clear hp;subst zz;rotate_right)
  .exact⟨rfl,mx ho⟩
  .exact⟨rfl,wz hl hf⟩
theorem my{D:ah}(h:D.Wf){ns:List Int}(hs:eR D.m ns):ns.length<=20:=by
 have:=ry hs.1 hs.2;rw[rz] at this;exact lB (a6 this h.m) rfl
def C1(l:List UInt8):T:= .dict [(.str (aA "Type"),gL "OCG"),(.str (aA "Name"),tO l)]
noncomputable def gG(i:Nat):Nat->List (Int×T)
 |0=>[]
 |n+1=>(10+3*(i:Int),C1 (gM i))::gG (i+1) n
theorem C2:∀(n i:Nat),aM (gG i n)=aI i n
 |0,_=>rfl
 |n+1,i=>by
  show(aj.int (10+3*(i:Int)),T.tuple [.int 0,C1 (gM i)])::aM (gG (i+1) n)=_;refine rwm _ ?_ (C2 n (i+1));rfl
theorem C3:∀(n i:Nat),(gG i n).map (·.1)=(List.range n).map λj=>10+3*((i+j:Nat):Int)
 |0,_=>rfl
 |n+1,i=>by
  refine rwm _ ?_ r6;show(10+3*(i:Int))::(gG (i+1) n).map (·.1)=_;refine rwm _ (rwm _ (rwm _ ?_ md) o2) (C3 n (i+1))
  congr 1
  refine kv λj _=>(?_:10+3*((i+1+j:Nat):Int)=10+3*((i+(j+1):Nat):Int));exact rwm _ rfl (show i+1+j=i+(j+1) from Nat.succ_add i j)
theorem wA:∀(n i:Nat),∀p∈gG i n,bC 6 p.2=true
 |0,_,_,h=>nomatch h
 |n+1,i,p,h=>by
  (refine a2 (hG.mp h) (λzz=>?_) (λh=>?_);subst zz;rotate_left;rotate_right)
  .rfl
  .exact wA n (i+1) p h
theorem wB:∀(n i:Nat),(gG i n).length=n
 |0,_=>rfl
 |n+1,i=>by show(gG (i+1) n).length+1=_;rw[wB n (i+1)]
def iG(ord:List Int)(A:List (aj×T))(m:Nat)(more:List (Int×T)):List (Int×T):=(1,hU ord A)::(gG 0 m++more)
theorem sK(ord:List Int)(A:List (aj×T))(m:Nat):aM (iG ord A m [])=aB ord A (aI 0 m):=by
 show(aj.int 1,T.tuple [.int 0,hU ord A])::aM (gG 0 m++[])=_;rw[List.append_nil,C2];rfl
theorem C4:((iG ord A m []).map (·.1)).Nodup:=by
 refine(?_:((1:Int)::((gG 0 m++[]).map λp:Int×T=>p.1)).Nodup);rw[List.append_nil,List.nodup_cons,C3];refine⟨λh=>?_,?_⟩
 .refine al (hL.mp h) λj _ e=>?_;exact wZ e
 .have h:List.Pairwise (λ(a b:Nat)=>a≠b) (List.range m):=List.nodup_range;exact List.pairwise_map.mpr (h.imp λ{a b} z e=>z (Nat.add_left_cancel (wY e)))
theorem C6{D:ah}(h:D.st=0):D.tree=db (aB D.order (co D.base D.on D.off D.lk D.rows) (aI 0 D.m)) bI:=CC h
theorem C7{D:ah}(h:D.st=1):D.tree=db (aB D.order (bA D.lk D.rows D.off) (aI 0 D.m)) bI:=by
 rcases D with⟨m,rev,b,on,off,lk,rows,st,k⟩;cases h;show db (aB (ah.order ⟨m,rev,b,on,off,lk,rows,1,k⟩++[]) (bA lk rows off) (aI 0 m++[])) bI=_;rw[List.append_nil,List.append_nil]
def ah.kept(D:ah)(st:Int->Bool):ah:={D with st:=1,on:=[],base:=2,off:=c8 D.order st}
theorem Ob{D:ah}(h:D.Wf)(st:Int->Bool):(D.kept st).Wf where
 m:=h.m
 base:=by refine(?_:2<=2);decide
 on:=⟨List.nodup_nil,λ_ hn=>nomatch hn⟩
 off:=⟨(kR D).filter _,λn hn=>i8.mp (qu.mp hn).1⟩
 lk:=h.lk
 few:=h.few
 rows:=h.rows
 st:=by refine(?_:1<=2);decide
 k:=λe=>nomatch (e:1=2)
section
variable {c:aN}{n:Nat}{e:AE}{O E O2 O3:af}{r:aG}
def nX(sc:Scope)(q:Str)(cl:List (Str×Nat))(H:List (Str×V)):MM AE:=bm (new (.ns true [])) λlh=>bm (et sc.names cl) λcl=>bm (gT ⟨sc,lh,cl,q++nm ".<locals>.",0⟩ H) λ_=>pm ⟨sc,lh,cl,q++nm ".<locals>.",0⟩
theorem C8{ps:Arguments}(hk:O[k]? =some (.clo ps j sc q cl))(hp:(gg ps&&gV sc)=true)(hb:d8 ps.args be []=some H)
  (he:nX sc q cl H O=some (.ok e,E))(hr:(R c n).ev j e E=some (.ok v,O2))(hl:fw O.length v O2=some (.ok v',O3)):(R c (n+1)).call (.own k) be O=some (.ok v',O3):=by
 show bm (bw k) (λQ=>match Q with
  | .clo ps b sc q cl=>if gg ps&&gV sc then bm (om (d8 ps.args be [])) λH=>dS (R c n) sc q 0 cl H ((R c n).ev b) else λ_=>none
  |_=>λ_=>none) O=_
 refine a0 (az (show bw k O=some (.ok (.clo ps j sc q cl),O) by unfold bw;exact rwm _ rfl hk)) ?_;show(if gg ps&&gV sc then bm (om (d8 ps.args be [])) λH=>dS (R c n) sc q 0 cl H ((R c n).ev j) else λ_=>none:MM V) O=_;refine rwm _ (rwm _ (rwm _ ?_ hb) (ec rfl)) hp;show dS (R c n) sc q 0 cl H ((R c n).ev j) O=_;have f:dS (R c n) sc q 0 cl H ((R c n).ev j) O=bm (nX sc q cl H) (λe=>bm ((R c n).ev j e) λv=>fw O.length v) O:=by
  unfold dS nX;refine rwm _ ?_ dw
  congr 1
  funext lh
  refine rwm _ ?_ dw
  congr 1
  funext cl
  refine rwm _ ?_ dw;rfl
 exact rwm _ (rwm _ (rwm _ (rwm _ rfl hl) (az hr)) (az he)) f
theorem wC{ts:List T}(h1:a8 (R c n) e l O=some (.ok vs,E))(h2:eV fr vs E=some (.ok ts,O2))(h3:ts.length<1000):(R c (n+1)).ev (.Tuple l b1 p) e O=some (.ok (.t (.tuple ts)),O2):=by
 show bm (a8 (R c n) e l) (λvs=>bm (eV fr vs) λts=>if aJ ts.length then pm (V.t (T.tuple ts)) else λ_=>none) O=_;refine a0 (az h1) (rwm _ (rwm _ (rwm _ ?_ (ec rfl)) (eY (Nat.le_of_succ_le h3))) (az h2));rfl
end
def sL:Expr->Arguments
 | .Lambda ps _ _ _=>ps
 |_=>fj (at_ 0)
def lx:Expr->Expr
 | .Lambda _ b _ _=>b
 |_=>g7
theorem wD(h:strip X= .inst C fs):iN (.t X)=some (.t X):=by
 show cond (qA (strip X)) none (some (V.t X))=_;refine rwm _ ?_ h;rfl
def am(dd:Array UInt8)(X:T):T:= .inst 90 [(S "data",.bytes dd),(S "base",.none),(S "shelf",X)]
def em:Str:=S ""
def pT:AE:=⟨aV (at_ 56),0,[(S "states",1)],S "keep_laid"++nm ".<locals>.",608⟩
def sM:AE:=⟨aV (at_ 51),3,[],S "copy_changed"++nm ".<locals>.",577⟩
def nY:List Stmt:=ba (at_ 51)
def nZ(y K:T):af:=[.ns true [(S "bench",.t y),(S "kept",.t K),(S "rest",.t (.str em))],.cell none]
def n0(y K Z:T):af:=[.ns true [(S "bench",.t y),(S "kept",.t K),(S "rest",.t (.str em))],.cell (some (.t Z))]
def gH(y K Z X:T)(w:List (Str×V))(tab:List (aj×T)):af:=n0 y K Z++[pR,.ns true [(S "bench",.t y),(S "change",.own 2),(S "shelf",.own 7)],.ns true ([(S "shelf",.t X),(S "table",.own 5)]++w),.dict tab,.dead,.sh 435 [(S "table",.own 5),(S "trailer",.t bI)]]
def eo(w:List (Str×V)):Prop:=w=[]\/∃p,w=dA p
section
variable {dd:Array UInt8}{K Z X:T}
set_option tactic.hygienic true in
theorem Oc{l:List (Int×T)}(c:strip X=db (aM l) bI)(hn:(l.map (·.1)).Nodup)(hp:∀p∈l,bC 6 p.2=true)(hl:l.length<100):∃w,eo w/\(R kK 32).ex (an nY 0) sM (gF true (am dd X) K (.str em) Z)=some (.ok .next,gH (am dd X) K Z X w (aM l)):=by
 have h1:(R kK 30).call (.t (.top 444)) [.t X] (gF true (am dd X) K (.str em) Z)=some (.ok (.own 7),cA true (am dd X) K (.str em) Z X (dZ dA l) (aM l)++[MO.dead,MO.sh 435 [(S "table",.own 5),(S "trailer",.t bI)]]):=CX (q:=true) (y:=am dd X) (u:=K) (s:= .str em) (z:=Z) (X:=X) c hn hp hl rfl;have hw:=nK dA l;generalize dZ dA l=w at hw h1;refine⟨w,hw,dX (v:= .own 7) (E:=cA true (am dd X) K (.str em) Z X w (aM l)++[.dead,.sh 435 [(S "table",.own 5),(S "trailer",.t bI)]]) rfl rfl rfl (aO (fv:= .t (.top 444)) (vs:=[.t X]) (E:=gF true (am dd X) K (.str em) Z) ?_ ?_
  (bx (ls (X:=am dd X) (C:=90) (fs:=[(S "data",.bytes dd),(S "base",.none),(S "shelf",X)]) (E:=gF true (am dd X) K (.str em) Z) ?_ ?_ ?_ ?_ ?_ (wD c)) cb) ?_ h1) ?_⟩
 .rfl
 .lk
 .rfl
 .lk
 .rfl
 .lk
 .lk
 .lk
 .refine oE w hw ?_ λp=>?_<;>lk
theorem Od(be:List V)(O:af):kK 557 be O=bO kP 35 557 be O:=by lk
set_option tactic.hygienic true in
theorem Oe(hw:eo w)(hc:bO kP 35 557 [.own 1,.t Z] (sS tab)=some (some (.ok .none,sS tab'))):
  (R kK 32).ex (an nY 1) sM (gH (am dd X) K Z X w tab)=some (.ok .next,gH (am dd X) K Z X w tab'):=by
 have hb:(R kK 29).ev (lx mv) ⟨iw mv,8,[(S "states",1)],S "keep_laid"++nm ".<locals>."++nm "<lambda>"++nm ".<locals>.",0⟩ (gH (am dd X) K Z X w tab++[.ns true [(S "shelf",.own 7)]])=some (.ok (.t .none),gH (am dd X) K Z X w tab'++[.ns true [(S "shelf",.own 7)]]):=by
  refine aO (fv:= .t (.top 557)) (vs:=[.own 7,.t Z]) (E:=gH (am dd X) K Z X w tab++[.ns true [(S "shelf",.own 7)]]) ?_ ?_ ?_ ?_ (cm (p:=⟨[5,7],sS tab⟩) (bi:=[.own 1,.t Z]) (X:=sS tab') ?_ ((Od _ _).trans hc) ?_)
  .rfl
  .refine oE w hw ?_ λp=>?_<;>lk
  .refine oE w hw ?_ λp=>?_<;>lk
  .lk
  .refine oE w hw ?_ λp=>?_<;>lk
  .refine oE w hw ?_ λp=>?_<;>lk
 have cr:(R kK 30).call (.own 2) [.own 7] (gH (am dd X) K Z X w tab)=some (.ok (.t .none),gH (am dd X) K Z X w tab'):=by
  refine C8 (ps:=sL mv) (j:=lx mv) (sc:=iw mv) (q:=S "keep_laid"++nm ".<locals>."++nm "<lambda>") (cl:=[(S "states",1)]) (H:=[(S "shelf",.own 7)]) (e:=⟨iw mv,8,[(S "states",1)],S "keep_laid"++nm ".<locals>."++nm "<lambda>"++nm ".<locals>.",0⟩) (E:=gH (am dd X) K Z X w tab++[.ns true [(S "shelf",.own 7)]])
   (O2:=gH (am dd X) K Z X w tab'++[.ns true [(S "shelf",.own 7)]]) (v:= .t .none) ?_ ?_ ?_ ?_ ?_ ?_
  .lk
  .lk
  .lk
  .refine oE w hw ?_ λp=>?_<;>lk
  .exact hb
  .refine oE w hw ?_ λp=>?_<;>lk
 refine jI (v:= .t .none) rfl (aO (fv:= .own 2) (vs:=[.own 7]) (E:=gH (am dd X) K Z X w tab) ?_ ?_ ?_ ?_ cr)
 .rfl
 .refine oE w hw ?_ λp=>?_<;>lk
 .refine oE w hw ?_ λp=>?_<;>lk
 .lk
def mz(y K Z X:T)(w:List (Str×V))(tab:List (aj×T))(dd:Array UInt8):af:=gH y K Z X w tab++[.ns true [(S "bench",.t y),(S "shelf",.own 7)],.dict [],.dead,.sh 90 [(S "data",.t (.bytes dd)),(S "base",.t .none),(S "shelf",.own 7)]]
def C9(y K Z X:T)(w:List (Str×V))(tab:List (aj×T))(dd:Array UInt8):af:=n0 y K Z++[pR,.ns true [(S "bench",.t y),(S "change",.own 2),(S "shelf",.own 7)],.ns true ([(S "shelf",.t X),(S "table",.own 5)]++w),.fz (.dict tab),.dead,.fz (db tab bI),
 .ns true [(S "bench",.t y),(S "shelf",.own 7)],.dict [],.dead,.fz (am dd (db tab bI))]
theorem Of(hw:eo w):(R kK 32).ex (an nY 2) sM (gH (am dd X) K Z X w (aB ord A l))=some (.ok (.ret (.own 11)),mz (am dd X) K Z X w (aB ord A l) dd):=by
 refine oE w hw ?_ λp=>?_<;>lk
theorem Og(hw:eo w):eV fr [.own 11,.t (.str s)] (mz (am dd X) K Z X w tab dd)=some (.ok [am dd (db tab bI),.str s],C9 (am dd X) K Z X w tab dd):=by
 refine oE w hw ?_ λp=>?_<;>lk
theorem Oh{l:List (Int×T)}(c:strip X=db (aM l) bI)(hn:(l.map (·.1)).Nodup)(hp:∀p∈l,bC 6 p.2=true)(hl:l.length<100)(hc:bO kP 35 557 [.own 1,.t Z] (sS (aM l))=some (some (.ok .none,sS (aB ord A N)))):
  ∃w,eo w/\(R kK 33).call (.t (.top 578)) [.t (am dd X),.own 2] (n0 (am dd X) K Z++[pR])=some (.ok (.own 11),mz (am dd X) K Z X w (aB ord A N) dd):=by
 refine al (Oc (dd:=dd) (K:=K) (Z:=Z) c hn hp hl) λw hw h1=>?_;have h3:=Of (dd:=dd) (K:=K) (Z:=Z) (X:=X) hw (ord:=ord) (A:=A) (l:=N);refine⟨w,hw,kI (e:=sM) (H:=[(S "bench",.t (am dd X)),(S "change",.own 2)]) (E:=gF true (am dd X) K (.str em) Z) (O2:=mz (am dd X) K Z X w (aB ord A N) dd) (v:= .own 11) (st:=at_ 51) (q:=S "copy_changed") (d:=[]) (c6:=577) ?_ ?_ ?_ ?_ ?_ ?_ ?_⟩
 .lk
 .lk
 .rfl
 .lk
 .lk
 .exact aW (s:=an nY 0) h1 (aW (s:=an nY 1) (Oe (dd:=dd) (K:=K) (X:=X) hw hc) (ci (s:=an nY 2) h3))
 .rfl
theorem Oi(be:List V)(O:af):kK 588 be O=mh be O:=by lk
def jX(n:Nat):Str:=S "kept "++dq (n:Int)++S " layers"
set_option tactic.hygienic true in
theorem Oj{D:ah}(h:D.Wf)(h0:D.st=0){g:Int->Bool}(hg:cX D K=some g):br kK 37 609 [.t (am dd (.box (.doc D) D.tree)),.t K,.t (.str em)] []=some (.ok (.t (.tuple [am dd (D.kept g).tree,.str (jX D.m)])),[]):=by
 have c:strip (.box (.doc D) D.tree)=db (aM (iG D.order (co D.base D.on D.off D.lk D.rows) D.m [])) bI:=by
  show strip D.tree=_;rw[C6 h0,sK];rfl
 have m:D.order.length<=20:=by rw[gv];have:=h.m;exact lB this rfl
 have i:=ja (.inl h0);have t:(co D.base D.on D.off D.lk D.rows).length<=20/\∀p∈co D.base D.on D.off D.lk D.rows,j7 p.1=true/\bC 3 p.2=true:=by
  have f:bC 3 (.list (D.rows.map aK))=true:=CZ (by have:=h.few;exact lB this rfl) λr hr=>my h (h.rows r hr);have h1:bC 3 (aK D.on)=true:=mx (my h h.on);have h2:bC 3 (aK D.off)=true:=mx (my h h.off);have h3:bC 3 (aK D.lk)=true:=mx (my h h.lk);unfold co;have hb:=h.base;have l:=tw hb;rcases l with e|e|e<;>refine rwm _ ?_ e<;>refine⟨a4 rfl,λp hp=>?_⟩<;>
   simp only[lI,List.mem_append,List.mem_cons,List.not_mem_nil,or_false] at hp
  .rcases hp with(rfl|rfl|rfl|rfl)|rfl
   .exact⟨rfl,h1⟩
   .exact⟨rfl,h2⟩
   .exact⟨rfl,h3⟩
   .exact⟨rfl,f⟩
   .exact⟨rfl,rfl⟩
  .rcases hp with(rfl|rfl|rfl|rfl)|rfl
   .exact⟨rfl,h1⟩
   .exact⟨rfl,h2⟩
   .exact⟨rfl,h3⟩
   .exact⟨rfl,f⟩
   .exact⟨rfl,rfl⟩
  .rcases hp with rfl|rfl|rfl|rfl
   .exact⟨rfl,h1⟩
   .exact⟨rfl,h2⟩
   .exact⟨rfl,h3⟩
   .exact⟨rfl,f⟩
 have A:=C0 m t.1 t.2;have c4:∀p∈iG D.order (co D.base D.on D.off D.lk D.rows) D.m [],bC 6 p.2=true:=λp hp=>by
  (refine a2 (hG.mp hp) (λzz=>?_) (λhp=>?_);subst zz;rotate_left;rotate_right)
  .exact A
  .rw[List.append_nil] at hp;exact wA _ _ p hp
 have bb:(iG D.order (co D.base D.on D.off D.lk D.rows) D.m []).length<100:=by
  refine(?_:(gG 0 D.m++[]).length+1<100);rw[List.append_nil,wB];have:=h.m;exact lC (i2 this) rfl
 have hc:bO kP 35 557 [.own 1,.t (aF D.order g)] (sS (aM (iG D.order (co D.base D.on D.off D.lk D.rows) D.m [])))=some (some (.ok .none,sS (aB D.order (bA D.lk D.rows (c8 D.order g)) (aI 0 D.m)))):=by
  rw[sK];exact jj (NY h.m h.base (λa ha=>i8.mp ha) (lC m rfl))
 refine al (Oh (dd:=dd) (K:=K) (Z:=aF D.order g) c C4 c4 bb hc) λw hw h1=>?_;have ht:(D.kept g).tree=db (aB D.order (bA D.lk D.rows (c8 D.order g)) (aI 0 D.m)) bI:=C7 rfl;refine rwm _ ?_ ht;have I:(R kK 36).ex (an lu 0) pT (nZ (am dd (.box (.doc D) D.tree)) K)=some (.ok .next,nZ (am dd (.box (.doc D) D.tree)) K):=by lk
 have o:(R kK 36).ex (an lu 1) pT (nZ (am dd (.box (.doc D) D.tree)) K)=some (.ok .next,n0 (am dd (.box (.doc D) D.tree)) K (aF D.order g)):=by
  refine dX (v:= .t (aF D.order g)) (E:=nZ (am dd (.box (.doc D) D.tree)) K) rfl rfl rfl (aO (fv:= .t (.top 588)) (vs:=[au D,.t K]) (E:=nZ (am dd (.box (.doc D) D.tree)) K) ?_ ?_ ?_ ?_ (cm (p:=⟨[],[]⟩) (X:=[]) rfl ((Oi _ _).trans (by refine a0 (Cg hg) (rwm _ ?_ i);rfl)) rfl)) ?_
  .rfl
  .lk
  .lk
  .lk
  .lk
 have k:(ax D.order g).length<1000:=by rw[fX];exact lC m rfl
 have b:((ax D.order g).length:Int)=(D.m:Int):=by rw[fX,gv]
 have hm:=h.m;have be:=hF (n:=(D.m:Int)) (xb hm);have j:(R kK 34).ev (aY (a7 (bV (an lu 2))) 1) pT (mz (am dd (.box (.doc D) D.tree)) K (aF D.order g) (.box (.doc D) D.tree) w (aB D.order (bA D.lk D.rows (c8 D.order g)) (aI 0 D.m)) dd)=
   some (.ok (.t (.str (jX D.m))),mz (am dd (.box (.doc D) D.tree)) K (aF D.order g) (.box (.doc D) D.tree) w (aB D.order (bA D.lk D.rows (c8 D.order g)) (aI 0 D.m)) dd):=by
  generalize aB D.order (bA D.lk D.rows (c8 D.order g)) (aI 0 D.m)=tab;generalize Y:mz (am dd (.box (.doc D) D.tree)) K (aF D.order g) (.box (.doc D) D.tree) w tab dd=O;refine go (v:= .t (.str (S "kept "++dq (D.m:Int)))) (u:= .t (.str (S " layers"))) (E:=O) (O2:=O) (go (v:= .t (.str (S "kept "))) (u:= .t (.str (dq (D.m:Int)))) (E:=O) (O2:=O) ?_
   (aO (fv:= .t (.typ "str")) (vs:=[.t (.int ((ax D.order g).length:Int))]) (E:=O) ?_ ?_ (bx (E:=O) (aO (fv:= .t (.bi "len")) (vs:=[.t (aF D.order g)]) (E:=O) ?_ ?_ (bx (E:=O) ?_ cb) ?_ (BX rfl k)) cb) ?_ ?_) rfl rfl (jc ?_)) ?_ rfl rfl (jc ?_)
  .lk
  .rfl
  .subst Y;refine oE w hw ?_ λp=>?_<;>lk
  .rfl
  .subst Y;refine oE w hw ?_ λp=>?_<;>lk
  .subst Y;refine oE w hw ?_ λp=>?_<;>lk
  .lk
  .lk
  .refine rwm _ ?_ b;exact pA (Em k b)
  .have:(S "kept ").length=5:=by decide
   exact lB (Nat.add_le_add (ej this) be) rfl
  .lk
  .have h1:(S "kept ").length=5:=by decide
   have h2:(S " layers").length=7:=by decide
   rw[jd];exact xd be h1 h2
 have L:(R kK 36).ex (an lu 2) pT (n0 (am dd (.box (.doc D) D.tree)) K (aF D.order g))=some (.ok (.ret (.t (.tuple [am dd (db (aB D.order (bA D.lk D.rows (c8 D.order g)) (aI 0 D.m)) bI),.str (jX D.m)]))),
   C9 (am dd (.box (.doc D) D.tree)) K (aF D.order g) (.box (.doc D) D.tree) w (aB D.order (bA D.lk D.rows (c8 D.order g)) (aI 0 D.m)) dd):=by
  refine eh (wC (bx (aO (fv:= .t (.top 578)) (vs:=[.t (am dd (.box (.doc D) D.tree)),.own 2]) (E:=n0 (am dd (.box (.doc D) D.tree)) K (aF D.order g)++[pR]) ?_ ?_ ?_ ?_ h1) (bx j cb)) (Og hw) (show 2<1000 by decide))
  .rfl
  .lk
  .lk
  .lk
 refine kI (e:=pT) (H:=[(S "bench",.t (am dd (.box (.doc D) D.tree))),(S "kept",.t K),(S "rest",.t (.str em))]) (E:=nZ (am dd (.box (.doc D) D.tree)) K) (st:=at_ 56) (q:=S "keep_laid") (d:=[]) (c6:=608) ?_ ?_ ?_ ?_ ?_ (aW (s:=an lu 0) I (aW (s:=an lu 1) o (ci (s:=an lu 2) L))) ?_
 .lk
 .lk
 .rfl
 .lk
 .lk
 .show some (Except.ok _,trunc 0 _)=_;rw[vS]
end
def Ok:AE:=⟨aV (bf 29 0),3,[],S "Shelf.put"++nm ".<locals>.",398⟩
def pU(N:List (aj×T))(r:MO)(n:Int):af:=sS N++[r,.ns true [(S "self",.own 1),(S "number",.t (.int n)),(S "generation",.t (.int 0)),(S "value",.own 2)]]
theorem Ol{N r:List (aj×T)}(hl:N.length<900)(n:Int):br av 15 399 [.own 1,.t (.int n),.t (.int 0),.own 2] (sS N++[.dict r])=some (.ok (.t .none),sS (bj N (.int n) (.tuple [.int 0,.dict r]))++[.fz (.dict r)]):=by
 refine lr (e:=Ok) (H:=[(S "self",.own 1),(S "number",.t (.int n)),(S "generation",.t (.int 0)),(S "value",.own 2)]) (E:=pU N (.dict r) n) (st:=bf 29 0) (q:=S "Shelf.put") (d:=[]) (c6:=398) ?_ ?_ ?_ ?_ ?_ ?_
 .lk
 .lk
 .rfl
 .lk
 .lk
 .refine eP (l:=N0) (j:=1) (E:=pU (bj N (.int n) (.tuple [.int 0,.dict r])) (.fz (.dict r)) n) (bv ((dX (v:= .t (.tuple [.int 0,.dict r])) (E:=pU N (.fz (.dict r)) n) rfl rfl rfl ?_ (pn (k:=0) (it:= .int n) (t:= .tuple [.int 0,.dict r]) (N:=N) (f:= .int n) (E:=pU N (.fz (.dict r)) n) (O2:=pU N (.fz (.dict r)) n) rfl ?_ ?_ rT rfl rfl ?_)).trans ?_)) ?_
  .lk
  .lk
  .lk
  .exact lB hl rfl
  .rfl
  .lk
theorem Om(be:List V)(O:af):kH 399 be O=bO av 15 399 be O:=by lk
def wE:AE:=⟨aV (at_ 45),3,[],S "put_layer_head"++nm ".<locals>.",551⟩
def sN:List Stmt:=ba (at_ 45)
def Da(tab hk:List (aj×T)):af:=sS tab++[.dict hk,.ns true [(S "shelf",.own 1),(S "head",.own 2)]]
def fg(hk:List (aj×T)):List (aj×T):=[(.str (aA "Type"),gL "Catalog"),(.str (aA "OCProperties"),.dict hk)]
def n9(tab hk:List (aj×T))(r:MO):af:=sS tab++[.fz (.dict hk),.ns true [(S "shelf",.own 1),(S "head",.own 2),(S "root",.own 5),(S "place",.t (ao 1))],.dict [],r]
set_option tactic.hygienic true in
theorem Db:aR (R kH 29) wE (sN.take 4) (Da (aB ord A l) hk)=some (.ok .next,n9 (aB ord A l) hk (.dict (fg hk))):=by lk
set_option tactic.hygienic true in
theorem On{A l hk:List (aj×T)}(hl:l.length<800)(h1:aj.int 1∉l.map (·.1)):br kH 30 552 [.own 1,.own 2] (sS (aB ord A l)++[.dict hk])=some (.ok (.t .none),sS ((.int 1,.tuple [.int 0,.dict (fg hk)])::l)++[.fz (.dict hk)]):=by
 have hp:=jj (Ol (N:=aB ord A l) (r:=fg hk) (by refine(?_:l.length+1<900);exact lC hl rfl) 1);rw[show bj (aB ord A l) (.int 1) (.tuple [.int 0,.dict (fg hk)])=(.int 1,.tuple [.int 0,.dict (fg hk)])::l from CS h1] at hp;have h4:aR (R kH 29) wE (sN.drop 4) (n9 (aB ord A l) hk (.dict (fg hk)))=some (.ok .next,n9 ((.int 1,.tuple [.int 0,.dict (fg hk)])::l) hk (.fz (.dict (fg hk)))):=by
  have I:=Db (ord:=ord) (A:=A) (l:=l) (hk:=hk);clear I;generalize aB ord A l=tab at hp;refine bv (jJ (E:=n9 tab hk (.dict (fg hk))) ?_ (bv (jI (v:= .t .none) rfl (rH (E:=n9 tab hk (.dict (fg hk))) (O2:=n9 tab hk (.dict (fg hk))) (M:= .own 1) (C:=435) (f:=399) (vs:=[.t (.int 1),.t (.int 0),.own 5]) ?_ ?_ ?_ ?_ ?_
   (cm (p:=⟨[0,1,5],sS tab++[.dict (fg hk)]⟩) (bi:=[.own 1,.t (.int 1),.t (.int 0),.own 2]) (X:=sS ((.int 1,.tuple [.int 0,.dict (fg hk)])::l)++[.fz (.dict (fg hk))]) ?_ ((Om _ _).trans hp) ?_)))))
  .lk
  .rfl
  .lk
  .lk
  .lk
  .lk
  .lk
  .lk
 refine lr (e:=wE) (H:=[(S "shelf",.own 1),(S "head",.own 2)]) (E:=Da (aB ord A l) hk) (st:=at_ 45) (q:=S "put_layer_head") (d:=[]) (c6:=551) ?_ ?_ ?_ ?_ ?_ (eP (l:=sN) (j:=4) Db (eP (l:=sN.drop 4) (j:=5) h4 ?_))
 .lk
 .lk
 .rfl
 .lk
 .lk
 .lk
set_option tactic.hygienic true in
theorem Dc{r:aG}(P:Nat->af)(n:Nat)(h1:∀i,i<n->r.test c e (P i)=some (.ok true,P i))(h2:∀i,i<n->aR r e j (P i)=some (.ok .next,P (i+1)))(h3:r.test c e (P n)=some (.ok false,P n)):
  ∀(k i m:Nat),i+k=n->k<m->iR r e c j m (P i)=some (.ok .next,P n)
 |0,i,m+1,hi,_=>by
  have:i=n:=hi;subst this;show bm (noErr (r.test c e)) _ (P i)=_;refine a0 (az (show noErr (r.test c e) (P i)=some (.ok false,P i) by unfold noErr;exact rwm _ rfl h3)) ?_;rfl
 |k+1,i,m+1,hi,hm=>by
  show bm (noErr (r.test c e)) (λq=>if q then bm (noErr (aR r e j)) λf=>match f with
   | .next=>iR r e c j m
   | .ret v=>pm (Fl.ret v) else pm .next) (P i)=_
  refine a0 (az (show noErr (r.test c e) (P i)=some (.ok true,P i) by unfold noErr;exact rwm _ rfl (h1 i (xk hi)))) ?_
  show bm (noErr (aR r e j)) (λf=>match f with
   | .next=>iR r e c j m
   | .ret v=>pm (Fl.ret v)) (P i)=_
  refine a0 (az (show noErr (aR r e j) (P i)=some (.ok .next,P (i+1)) by unfold noErr;exact rwm _ rfl (h2 i (xk hi)))) ?_;exact Dc P n h1 h2 h3 k (i+1) m ((Nat.add_right_comm _ _ _).trans hi) (Nat.le_sub_one_of_lt hm)
theorem Oo{c:aN}(h:iR (R c n) e t j 80 O=B):(R c (n+1)).ex (.While t j [] p) e O=B:=h
def pV:AE:=⟨aV (bf 29 1),3,[],S "Shelf.add"++nm ".<locals>.",405⟩
def jY:List Stmt:=ba (bf 29 1)
def Dd(tab vk:List (aj×T)):af:=sS tab++[.dict vk,.ns true [(S "self",.own 1),(S "value",.own 2)]]
def gb(tab:List (aj×T))(r:MO)(n:Int):af:=sS tab++[r,.ns true [(S "self",.own 1),(S "value",.own 2),(S "number",.t (.int n))]]
def Op:Stmt->Expr
 | .While t _ _ _=>t
 |_=>g7
noncomputable def Oq:Stmt->List Stmt
 | .While _ b _ _=>b
 |_=>[]
set_option tactic.hygienic true in
theorem Os{tab vk:List (aj×T)}(hl:tab.length<900)(hk:k<70)(h1:∀i:Nat,i<k->(bg tab (.int (1+(i:Int)))).isSome=true)(h2:bg tab (.int (1+(k:Int)))=none):
  br av 20 406 [.own 1,.own 2] (sS tab++[.dict vk])=some (.ok (.t (ao (1+(k:Int)))),sS (bj tab (.int (1+(k:Int))) (.tuple [.int 0,.dict vk]))++[.fz (.dict vk)]):=by
 have ht:∀i:Nat,∀b,(bg tab (.int (1+(i:Int)))).isSome=b->(R av 18).test (Op (an jY 1)) pV (gb tab (.dict vk) (1+(i:Int)))=some (.ok b,gb tab (.dict vk) (1+(i:Int))):=λi b hb=>by
  refine ey (v:= .t (.int (1+(i:Int)))) (u:= .own 0) (E:=gb tab (.dict vk) (1+(i:Int))) (O2:=gb tab (.dict vk) (1+(i:Int))) ?_ ?_ (vN (x:= .int (1+(i:Int))) (y:= .dict tab) rfl rfl ?_)
  .lk
  .lk
  .show some ((bg tab (.int (1+(i:Int)))).isSome)=_;exact rwm _ rfl hb
 have hw:(R av 19).ex (an jY 1) pV (gb tab (.dict vk) (1+((0:Nat):Int)))=some (.ok .next,gb tab (.dict vk) (1+(k:Int))):=by
  refine Oo (Dc (λi=>gb tab (.dict vk) (1+(i:Int))) k (λi hi=>ht i true (h1 i hi)) (λi hi=>?_) (ht k false (by refine rwm _ ?_ h2;rfl)) k 0 80 (Nat.zero_add _) (lB hk rfl));have hb:aR (R av 18) pV (Oq (an jY 1)) (gb tab (.dict vk) (1+(i:Int)))=some (.ok .next,gb tab (.dict vk) (1+(i:Int)+1)):=by lk
  refine hb.trans ?_;exact rwm _ rfl (show(1+(i:Int)+1)=1+((i+1:Nat):Int) from Int.add_assoc _ _ _)
 have h0:(R av 19).ex (an jY 0) pV (Dd tab vk)=some (.ok .next,gb tab (.dict vk) (1+((0:Nat):Int))):=by lk
 generalize (1+(k:Int))=n at*;refine lr (e:=pV) (H:=[(S "self",.own 1),(S "value",.own 2)]) (E:=Dd tab vk) (st:=bf 29 1) (q:=S "Shelf.add") (d:=[]) (c6:=405) ?_ ?_ ?_ ?_ ?_ (eP (l:=jY) (j:=1) (bv (s:=an jY 0) h0) (eP (l:=jY.drop 1) (j:=1) (bv (s:=an jY 1) hw)
  (eP (l:=(jY.drop 1).drop 1) (j:=1) (E:=gb (bj tab (.int n) (.tuple [.int 0,.dict vk])) (.fz (.dict vk)) n) (bv ((dX (v:= .t (.tuple [.int 0,.dict vk])) (E:=gb tab (.fz (.dict vk)) n) rfl rfl rfl ?_
   (pn (k:=0) (it:= .int n) (t:= .tuple [.int 0,.dict vk]) (N:=tab) (f:= .int n) (E:=gb tab (.fz (.dict vk)) n) (O2:=gb tab (.fz (.dict vk)) n) rfl ?_ ?_ rT rfl rfl ?_)).trans ?_)) ?_)))
 .lk
 .lk
 .rfl
 .lk
 .lk
 .lk
 .lk
 .lk
 .exact lB hl rfl
 .rfl
 .lk
theorem De{U ys:List T}{O:af}(h:U.length+ys.length<=1000):eH .Add (.list U) (.list ys) O=some (.ok (.own O.length),O++[.list (U++ys)]):=by
 show(if aJ (U.length+ys.length) then bP (.list (U++ys)) else λ_=>none:MM V) O=_;refine rwm _ (rwm _ ?_ (ec rfl)) (eY h);rfl
theorem Ot(be:List V)(O:af):kG 406 be O=bO av 20 406 be O:=by lk
theorem Ou(be:List V)(O:af):kG 552 be O=bO kH 30 552 be O:=by lk
def dL:T:= .bytes cj.toArray
def mA:List (aj×T):=[(.str (aA "Type"),gL "OCG"),(.str (aA "Name"),tO cj)]
def jZ:AE:=⟨aV (at_ 47),2,[],S "put_group"++nm ".<locals>.",563⟩
def ez:List Stmt:=ba (at_ 47)
def wF(tab:List (aj×T)):af:=sS tab++[.ns true [(S "shelf",.own 1),(S "label",.t dL)]]
def wG(A:List (aj×T)):List (Str×V):=[(S "shelf",.own 1),(S "label",.t dL),(S "head",.own 3),(S "found",.t (.dict A)),(S "first",.own 4)]
def sO(tab hk A:List (aj×T)):af:=sS tab++[.ns true (wG A),.dict hk,.dict A,.dict []]
def eA(tab:List (aj×T))(hk:MO)(A:List (aj×T))(f2:MO)(k:Int)(o:af):af:=sS tab++[.ns true (wG A++[(S "place",.t (ao k))]),hk,f2,.dict [],.fz (.dict mA)]++o
def fG(lk:List Int)(rows:List (List Int))(I:List Int)(k:Int):List (aj×T):=bA lk rows I++[(.str (aA "Order"),.list [ao k])]
section
variable {ord lk I:List Int}{rows:List (List Int)}{l:List (aj×T)}{k:Int}
set_option tactic.hygienic true in
theorem Ov:aR (R kG 39) jZ (ez.take 4) (wF (aB ord (bA lk rows I) l))=some (.ok .next,sO (aB ord (bA lk rows I) l) (fF ord (bA lk rows I)) (bA lk rows I)):=by
 cases I<;>lk
set_option tactic.hygienic true in
theorem Ow(hc:bO av 20 406 [.own 1,.own 2] (sS tab++[.dict mA])=some (some (.ok (ao k),sS tab'++[.fz (.dict mA)]))):
  (R kG 39).ex (an ez 4) jZ (sO tab hk A)=some (.ok .next,eA tab' (.dict hk) A (.dict A) k []):=by
 refine dX (v:= .t (ao k)) (E:=eA tab' (.dict hk) A (.dict A) k []|>.set 2 (.ns true (wG A))) rfl rfl rfl (rH (E:=sO tab hk A) (O2:=sO tab hk A++[.dict mA]) (M:= .own 1) (C:=435) (f:=406) (vs:=[.own 6]) ?_ ?_ ?_ ?_ ?_
  (cm (p:=⟨[0,1,6],sS tab++[.dict mA]⟩) (bi:=[.own 1,.own 2]) (X:=sS tab'++[.fz (.dict mA)]) ?_ ((Ot _ _).trans hc) ?_)) ?_
 .rfl
 .lk
 .lk
 .lk
 .lk
 .lk
 .lk
 .lk
set_option tactic.hygienic true in
theorem Ox:aR (R kG 39) jZ ((ez.drop 5).take 2) (eA (aB ord (bA lk rows I) l) (.dict (fF ord (bA lk rows I))) (bA lk rows I) (.dict (bA lk rows I)) k [])=
  some (.ok .next,eA (aB ord (bA lk rows I) l) (.dict (fF ord (bA lk rows I))) (bA lk rows I) (.dict (fG lk rows I k)) k [.list [ao k],.fz (.list [ao k])]):=by
 cases I<;>lk
def oa(ord:List Int)(k:Int)(A:List (aj×T)):List (aj×T):=[(.str (aA "OCGs"),.list (ord.map ao++[ao k])),(.str (aA "D"),.dict A)]
set_option tactic.hygienic true in
theorem Oy{A f2 tab:List (aj×T)}(hl:ord.length<900):(R kG 39).ex (an ez 7) jZ (eA (aB ord A l) (.dict (fF ord A)) A (.dict f2) k [.list [ao k],.fz (.list [ao k])])=
  some (.ok .next,eA (aB ord A l) (.dict (oa ord k A)) A (.dict f2) k [.list [ao k],.fz (.list [ao k]),.list [ao k],.fz (.list (ord.map ao++[ao k]))]):=by
 have bb:(ord.map ao).length+[ao k].length<=1000:=by rw[List.length_map];refine(?_:ord.length+1<=1000);exact lB hl rfl
 refine(dX (v:= .own 10) (E:=eA (aB ord A l) (.dict (fF ord A)) A (.dict f2) k [.list [ao k],.fz (.list [ao k]),.list [ao k],.list (ord.map ao++[ao k])]) rfl rfl rfl
  ((go (v:= .t (.list (ord.map ao))) (u:= .own 9) (x:= .list (ord.map ao)) (y:= .list [ao k]) (E:=eA (aB ord A l) (.dict (fF ord A)) A (.dict f2) k [.list [ao k],.fz (.list [ao k])]) (O2:=eA (aB ord A l) (.dict (fF ord A)) A (.dict f2) k [.list [ao k],.fz (.list [ao k]),.list [ao k]]) ?_ ?_ rfl rfl (De bb)).trans ?_)
  (pn (k:=3) (it:= .str (S "OCGs")) (t:= .list (ord.map ao++[ao k])) (N:=fF ord A) (f:= .str (S "OCGs")) (E:=eA (aB ord A l) (.dict (fF ord A)) A (.dict f2) k [.list [ao k],.fz (.list [ao k]),.list [ao k],.list (ord.map ao++[ao k])]) (O2:=eA (aB ord A l) (.dict (fF ord A)) A (.dict f2) k [.list [ao k],.fz (.list [ao k]),.list [ao k],.list (ord.map ao++[ao k])])
   (O3:=eA (aB ord A l) (.dict (fF ord A)) A (.dict f2) k [.list [ao k],.fz (.list [ao k]),.list [ao k],.fz (.list (ord.map ao++[ao k]))]) rfl ?_ ?_ ?_ rfl rfl (show 2<1000 by decide))).trans ?_
 .lk
 .lk
 .rfl
 .lk
 .lk
 .lk
 .lk
set_option tactic.hygienic true in
theorem Oz{o:af}:(R kG 39).ex (an ez 8) jZ (eA tab (.dict (oa ord k A)) A (.dict f2) k [.list [ao k],.fz (.list [ao k]),.list [ao k],.fz (.list (ord.map ao++[ao k]))])=
  some (.ok .next,eA tab (.dict (oa ord k f2)) A (.fz (.dict f2)) k [.list [ao k],.fz (.list [ao k]),.list [ao k],.fz (.list (ord.map ao++[ao k]))]):=by lk
set_option tactic.hygienic true in
theorem OA(hc:bO kH 30 552 [.own 1,.own 2] (sS tab++[.dict hk])=some (some (.ok .none,sS tab'++[.fz (.dict hk)]))):
  (R kG 39).ex (an ez 9) jZ (eA tab (.dict hk) A f2 k [a,b,c,d])=some (.ok .next,eA tab' (.fz (.dict hk)) A f2 k [a,b,c,d]):=by
 refine jI (v:= .t .none) rfl (aO (fv:= .t (.top 552)) (vs:=[.own 1,.own 3]) (E:=eA tab (.dict hk) A f2 k [a,b,c,d]) ?_ ?_ ?_ ?_
  (cm (p:=⟨[0,1,3],sS tab++[.dict hk]⟩) (bi:=[.own 1,.own 2]) (X:=sS tab'++[.fz (.dict hk)]) ?_ ?_ ?_))
 .rfl
 .lk
 .lk
 .lk
 .lk
 .exact(Ou _ _).trans hc
 .lk
theorem OB{hk f2 b d:MO}:fc (R kG 39) jZ (ez.drop 10) 2 (eA tab (.fz x) A (.fz y) k [.list [ao k],.fz (.list [ao k]),.list [ao k],.fz (.list (ord.map ao++[ao k]))])=some (.ok (.t (ao k)),sS tab):=by lk
theorem OD(tab:List (aj×T))(h:fc (R kG 39) jZ ez 2 (wF tab)=some (.ok v,X)):br kG 40 564 [.own 1,.t dL] (sS tab)=some (.ok v,X):=by
 refine lr (e:=jZ) (H:=[(S "shelf",.own 1),(S "label",.t dL)]) (E:=wF tab) (st:=at_ 47) (q:=S "put_group") (d:=[]) (c6:=563) ?_ ?_ ?_ ?_ ?_ h
 .lk
 .lk
 .rfl
 .lk
 .lk
theorem OE{K:Nat}(hk:k=1+(K:Int))(m:K<70)(hl:l.length<700)(ho:ord.length<900)(h1:aj.int 1∉l.map (·.1))(bb:∀i:Nat,i<K->(bg (aB ord (bA lk rows I) l) (.int (1+(i:Int)))).isSome=true)(q:aj.int k∉(aB ord (bA lk rows I) l).map (·.1))(c3:bg (aB ord (bA lk rows I) l) (.int k)=none):
  br kG 40 564 [.own 1,.t dL] (sS (aB ord (bA lk rows I) l))=some (.ok (.t (ao k)),sS (aB (ord++[k]) (fG lk rows I k) (l++[(.int k,df cj)]))):=by
 have ha:=jj (Os (tab:=aB ord (bA lk rows I) l) (vk:=mA) (k:=K) (by refine(?_:l.length+1<900);exact lC hl rfl) m bb (by refine rwl _ ?_ hk;exact c3));rw[<-hk,nH q] at ha;have ha:=ha;have c:aj.int 1∉(l++[(aj.int k,df cj)]).map (·.1):=by
  rw[List.map_append,List.mem_append]
  rintro (h|h)
  .exact h1 h
  .have:aj.int 1=aj.int k:=by simpa using h
   exact q (this▸q0)
 have hp:=jj (On (ord:=ord) (A:=bA lk rows I) (l:=l++[(aj.int k,df cj)]) (hk:=oa ord k (fG lk rows I k)) (by refine rwm _ ?_ js;refine(?_:l.length+1<800);exact lC hl rfl) c);have e:(aj.int 1,T.tuple [.int 0,.dict (fg (oa ord k (fG lk rows I k)))])::(l++[(aj.int k,df cj)])=aB (ord++[k]) (fG lk rows I k) (l++[(.int k,df cj)]):=by
  unfold aB hU fF oa fg;refine rwm _ ?_ i6;rfl
 rw[e] at hp;exact OD _ (eP (l:=ez) (j:=4) Ov (eP (l:=ez.drop 4) (j:=1) (bv (s:=an ez 4) (Ow ha)) (eP (l:=ez.drop 5) (j:=2) Ox
  (eP (l:=ez.drop 7) (j:=1) (bv (s:=an ez 7) (Oy (tab:=[]) ho)) (eP (l:=ez.drop 8) (j:=1) (bv (s:=an ez 8) (Oz (tab:=aB ord (bA lk rows I) (l++[(.int k,df cj)])) (o:=[]))) (eP (l:=ez.drop 9) (j:=1) (bv (s:=an ez 9) (OA hp)) (OB (hk:= .dead) (f2:= .dead) (b:= .dead) (d:= .dead))))))))
end
def sP:AE:=⟨aV (at_ 35),2,[],S "groups_in"++nm ".<locals>.",471⟩
def er(tab:List (aj×T))(X:T)(w:List (Str×V))(l:List Int):af:=sS tab++[.ns true ([(S "shelf",.own 1),(S "items",.t X),(S "found",.own 3)]++w),.list (l.map T.int)]
set_option tactic.hygienic true in
theorem OF{A:List Int}(ha:bO av 22 465 [.own 1,.t (ao a)] (sS tab)=some (some (.ok (.bool true),sS tab)))(hp:a∉A)(hl:A.length<100):
  cz kP 28 sP pi 4 (ao a) (er tab X (bE ao (S "item") A) A)=some (.ok .next,er tab X (bE ao (S "item") (A++[a])) (A++[a])):=by
 rw[nD];have hw:=ir ao (S "item") A;generalize bE ao (S "item") A=w at hw;have h1:(R kP 28).as (dx pi) sP (.t (ao a)) (er tab X w A)=some (.ok (),er tab X [(S "item",.t (ao a))] A):=by
  refine oE w hw ?_ λb=>?_<;>lk
 refine(dJ (O2:=er tab X [(S "item",.t (ao a))] (A++[a])) h1 (bv (jJ (E:=er tab X [(S "item",.t (ao a))] A) (rF (E:=er tab X [(S "item",.t (ao a))] A) ?_ (l0 ?_)) (bv ?_)))).trans ?_
 .refine rG (v:= .t (.bool true)) (E:=er tab X [(S "item",.t (ao a))] A) (aO (fv:= .t (.top 465)) (vs:=[.own 1,.t (ao a)]) (E:=er tab X [(S "item",.t (ao a))] A) ?_ ?_ ?_ ?_ (cm (p:=⟨[0,1],sS tab⟩) (bi:=[.own 1,.t (ao a)]) (X:=sS tab) ?_ ?_ ?_)) rfl
  .rfl
  .lk
  .lk
  .lk
  .lk
  .exact(CR _ _).trans ha
  .lk
 .refine ey (v:= .t (.int a)) (u:= .own 3) (E:=er tab X [(S "item",.t (ao a))] A) (O2:=er tab X [(S "item",.t (ao a))] A) ?_ ?_ (vM (x:= .int a) (y:=ak A) rfl rfl (by rw[nC,rM hp]))
  .lk
  .lk
 .refine jI (v:= .t .none) rfl (kE (E:=er tab X [(S "item",.t (ao a))] A) (O2:=er tab X [(S "item",.t (ao a))] A) (M:= .own 3) (t:=ak A) (L:=2) (k:=5) (vs:=[.t (.int a)]) ?_ ?_ ?_ rfl rfl ?_ ?_ (Bu (U:=A.map T.int) rfl (by rw[List.length_map];exact lB hl rfl) ?_))
  .rfl
  .lk
  .lk
  .lk
  .lk
  .unfold er;refine rwm _ ?_ i6;rfl
 .exact rwm _ rfl (ek (hY 4))
theorem OG{ns:List Int}(hn:ns.Nodup)(ha:∀n∈ns,bO av 22 465 [.own 1,.t (ao n)] (sS tab)=some (some (.ok (.bool true),sS tab)))(hl:ns.length<100):br kP 30 472 [.own 1,.t (aK ns)] (sS tab)=some (.ok (.t (ak ns)),sS tab):=by
 have L:=kQ ao (λA=>er tab (aK ns) (bE ao (S "item") A) A) (cz kP 28 sP pi 4) ns λA a B e=>OF (ha a (by refine rwm _ ?_ e;simp)) (ph hn e) (by rw[e] at hl;simp at hl;exact qd hl);have hw:=ir ao (S "item") ns;generalize bE ao (S "item") ns=w at hw L;refine dU (e:=sP) (b:=ba (at_ 35)) (E:=sS tab++[.ns true [(S "shelf",.own 1),(S "items",.t (aK ns))]]) (O2:=er tab (aK ns) w ns) (v:= .own 3) (by lk) ?_ rfl;refine aW (E:=er tab (aK ns) [] []) ?_ (aW (E:=er tab (aK ns) w ns) (pf (E:=er tab (aK ns) [] []) (x:= .t (aK ns)) (t:=aK ns) (U:=ns.map ao) rfl ?_ rfl rfl ?_) (ci ?_))
 .lk
 .lk
 .exact L
 .refine oE w hw ?_ λb=>?_<;>lk
noncomputable def cg(l:List Int):List (aj×T):=l.map λn=>(.int n,.tuple [.int 0,.none])
theorem sQ:k∈(cg l).map (·.1)↔∃n∈l,k= .int n:=by
 unfold cg;refine rwm _ ?_ md;simp only[List.mem_map,Function.comp];exact⟨λ⟨n,hn,e⟩=>⟨n,hn,e.symm⟩,λ⟨n,hn,e⟩=>⟨n,hn,e.symm⟩⟩
theorem pW{l:List (aj×T)}:(bg l k).isSome=decide (k∈l.map (·.1)):=by
 unfold bg
 induction l with
 |nil=>rfl
 |cons a l ih=>
  rcases a with⟨j,t⟩;refine rwm _ ?_ ni
  by_cases h:k=j
  .subst h;simp
  .have:(k==j)=false:=beq_eq_false_iff_ne.mpr h;refine rwm _ ?_ this;dsimp only;refine a0 ih ?_;simp [h]
theorem OH{l:List (aj×T)}(h:k∉l.map (·.1)):bg l k=none:=by
 have:=pW (l:=l) (k:=k);rw[decide_eq_false h] at this
 cases e:bg l k with
 |none=>rfl
 |some t=>rw[e] at this;exact tff this
noncomputable def eC(l:List (aj×T))(g:List Int):List (aj×T):=l.filter λG=> !g.any λn=>decide (G.1=aj.int n)
theorem OI(l:List (aj×T)):eC l []=l:=by
 unfold eC;exact List.filter_eq_self.mpr λ_ _=>rfl
theorem OJ(l:List (aj×T))(g:List Int)(a:Int):eC l (g++[a])=gP (eC l g) (.int a):=by
 unfold eC gP;refine rwm _ ?_ List.filter_filter;refine List.filter_congr λG _=>?_;refine rwm _ ?_ List.any_append;simp;rw[Bool.and_comm]
theorem OK{l:List (aj×T)}(h:aj.int a∈l.map (·.1))(ha:a∉g):aj.int a∈(eC l g).map (·.1):=by
 refine al (hL.mp h) λG h1 h2=>hL.mpr ⟨G,qu.mpr ⟨h1,?_⟩,h2⟩;rw[Bool.not_eq_true',List.any_eq_false];intro n hn;refine rwm _ ?_ h2;simp;intro e;subst e;exact ha hn
theorem wH{l:List (aj×T)}(h:∀n∈g,aj.int n∉l.map (·.1)):eC l g=l:=by
 unfold eC;refine List.filter_eq_self.mpr λG B=>?_;rw[Bool.not_eq_true',List.any_eq_false];intro n hn;simp;intro e;exact h n hn (hL.mpr ⟨G,B,e⟩)
theorem OL(g:List Int):eC (cg g) g=[]:=by
 unfold eC;refine List.filter_eq_nil_iff.mpr λG B=>?_;(refine ag (hL.mp B) λn c1=>ac c1 λhn bo=>?_;clear c1;clear B;subst bo);simp only[Bool.not_eq_true',Bool.not_eq_false,List.any_eq_true];exact⟨n,hn,by simp⟩
theorem wI(a b:List (aj×T))(g:List Int):eC (a++b) g=eC a g++eC b g:=List.filter_append ..
theorem OM(be:List V)(O:af):kK 399 be O=bO av 15 399 be O:=by lk
theorem ON(be:List V)(O:af):kK 413 be O=bO av 15 413 be O:=by lk
theorem OO(be:List V)(O:af):kK 564 be O=bO kG 40 564 be O:=by lk
theorem OP(be:List V)(O:af):kK 472 be O=bO kP 30 472 be O:=by lk
def eD:T:= .str (S "new one")
def dM:AE:=⟨aV (at_ 52),3,[(S "shelf",4)],S "copy_grown"++nm ".<locals>.",582⟩
def dB:List Stmt:=ba (at_ 52)
def j0:Expr:=bV (an dB 1)
def og(y:T)(k:Int):af:=[.ns true [(S "bench",.t y),(S "beyond",.t (.int k)),(S "rest",.t eD)],.cell (some (.t dL))]
def aU(y:T)(k:Int)(X:T)(I w:List (Str×V))(tab:List (aj×T))(o:af):af:=og y k++[mw,.ns true ([(S "bench",.t y),(S "beyond",.t (.int k)),(S "change",.own 2)]++I),.cell (some (.own 8)),.ns true ([(S "shelf",.t X),(S "table",.own 6)]++w),.dict tab,.dead,.sh 435 [(S "table",.own 6),(S "trailer",.t bI)]]++o
noncomputable def fH(K:Nat):List Int:=(List.range K).map λ(i:Nat)=>1+(i:Int)
section
variable {dd:Array UInt8}{X:T}{k:Int}{w I:List (Str×V)}{tab:List (aj×T)}
set_option tactic.hygienic true in
theorem OQ{l:List (Int×T)}(c:strip X=db (aM l) bI)(hn:(l.map (·.1)).Nodup)(hp:∀p∈l,bC 6 p.2=true)(hl:l.length<100):∃w,eo w/\(R kK 32).ex (an dB 0) dM (gF false (am dd X) (.int k) eD dL)=some (.ok .next,aU (am dd X) k X [] w (aM l) []):=by
 have h1:(R kK 30).call (.t (.top 444)) [.t X] (gF false (am dd X) (.int k) eD dL)=some (.ok (.own 8),cA false (am dd X) (.int k) eD dL X (dZ dA l) (aM l)++[MO.dead,MO.sh 435 [(S "table",.own 6),(S "trailer",.t bI)]]):=CX (q:=false) (y:=am dd X) (u:= .int k) (s:=eD) (z:=dL) (X:=X) c hn hp hl rfl;have hw:=nK dA l;generalize dZ dA l=w at hw h1;refine⟨w,hw,dX (v:= .own 8) (E:=cA false (am dd X) (.int k) eD dL X w (aM l)++[.dead,.sh 435 [(S "table",.own 6),(S "trailer",.t bI)]]) rfl rfl rfl (aO (fv:= .t (.top 444)) (vs:=[.t X]) (E:=gF false (am dd X) (.int k) eD dL) ?_ ?_
  (bx (ls (X:=am dd X) (C:=90) (fs:=[(S "data",.bytes dd),(S "base",.none),(S "shelf",X)]) (E:=gF false (am dd X) (.int k) eD dL) ?_ ?_ ?_ ?_ ?_ (wD c)) cb) ?_ h1) ?_⟩
 .rfl
 .lk
 .rfl
 .lk
 .rfl
 .lk
 .lk
 .lk
 .refine oE w hw ?_ λp=>?_<;>lk
theorem OS(hw:eo w)(a:Int)(hv:v=[]\/∃b,v=[(S "number",V.t (.int b))]):
  cP kK 31 dM j0 9 (.int a) (aU (am dd X) k X [] w tab []++[.ns false v])=some (.ok (cond (!(bg tab (.int a)).isSome) (some (.int a)) none),aU (am dd X) k X [] w tab []++[.ns false [(S "number",.t (.int a))]]):=by
 refine kO (q:= !(bg tab (.int a)).isSome) (E:=aU (am dd X) k X [] w tab []++[.ns false [(S "number",.t (.int a))]]) (O2:=aU (am dd X) k X [] w tab []++[.ns false [(S "number",.t (.int a))]]) ?_
  (wh (ey (v:= .t (.int a)) (u:= .own 6) (E:=aU (am dd X) k X [] w tab []++[.ns false [(S "number",.t (.int a))]]) (O2:=aU (am dd X) k X [] w tab []++[.ns false [(S "number",.t (.int a))]]) ?_ ?_ (vM (x:= .int a) (y:= .dict tab) ?_ ?_ ?_))) (λ_=>?_) (λ_=>rfl)
 ·(refine a2 hw (λzz=>?_) (λzz=>?_);(try clear hw);subst zz;rotate_left;(try clear hw);refine ag zz λp bo=>?_;clear zz;subst bo;rotate_right)<;>refine oE v hv ?_ λb=>?_<;>lk
 .refine oE w hw ?_ λp=>?_<;>lk
 .refine oE w hw ?_ λp=>?_<;>lk
 .rfl
 .rfl
 .rfl
 .refine oE w hw ?_ λp=>?_<;>lk
def fh(tab:List (aj×T))(K:Nat):List Int:=(fH K).filter λn=> !(bg tab (.int n)).isSome
theorem OT(p:Int->Bool)(l:List Int):l.filterMap (λa=>cond (p a) (some (T.int a)) none)=(l.filter p).map T.int:=by
 induction l with
 |nil=>rfl
 |cons a l ih=>
  cases h:p a
  .exact rwm _ (rwm _ (rwm _ rfl ih) (List.filter_cons_of_neg (by refine rwm _ ?_ h;decide))) (List.filterMap_cons_none (by refine rwm _ ?_ h;rfl))
  .exact rwm _ (rwm _ (rwm _ (rwm _ rfl ih) o2) (List.filter_cons_of_pos h)) (qn (by refine rwm _ ?_ h;rfl))
set_option tactic.hygienic true in
theorem OU(hw:eo w){K:Nat}(m:K<900)(hr:d7 (.range 1 k)=some ((fH K).map T.int)):(R kK 32).ex (an dB 1) dM (aU (am dd X) k X [] w tab [])=some (.ok .next,aU (am dd X) k X [(S "gaps",.own 9)] w tab [.list ((fh tab K).map T.int)]):=by
 have c:bZ (cP kK 31 dM j0 9) ((fH K).map T.int) [] (aU (am dd X) k X [] w tab []++[.ns false []])=
   some (.ok ((fh tab K).map T.int),aU (am dd X) k X [] w tab []++[.ns false (cO T.int (S "number") (fH K))]):=by
  have:=jR T.int (S "number") (λa=>cond (!(bg tab (.int a)).isSome) (some (T.int a)) none) (cP kK 31 dM j0 9) (aU (am dd X) k X [] w tab []) (fH K) (by unfold fH;rw[List.length_map,List.length_range];exact lB (l3 m) rfl) λa ha v hv=>OS hw a hv;rw[this,OT];rfl
 generalize (fh tab K).map T.int=G at c;unfold cP at c;have hl:fy (R kK 31) dM (aY (a7 j0) 0) [⟨aY (a7 j0) 1,aY (a7 j0) 2,kU j0,0⟩] (iw j0) (aU (am dd X) k X [] w tab [])=some (.ok (.own 9),aU (am dd X) k X [] w tab [.list G]):=by
  refine(vG (x:= .t (.range 1 k)) (t:= .range 1 k) (U:=(fH K).map T.int) (ce:=jb dM j0 9) (be:=G) (O3:=aU (am dd X) k X [] w tab []++[.ns false (cO T.int (S "number") (fH K))]) (N:=cO T.int (S "number") (fH K)) ?_ ?_ rfl hr ?_ c rfl).trans ?_
  .rfl
  .refine oE w hw ?_ λp=>?_<;>lk
  .refine oE w hw ?_ λp=>?_<;>lk
  .refine oE w hw ?_ λp=>?_<;>lk
 refine pd rfl (BA hl ?_);refine oE w hw ?_ λp=>?_<;>lk
set_option tactic.hygienic true in
theorem OV(hw:eo w){A:List Int}(hl:tab.length<800)(c4:A.length<90)(hf:aj.int a∉(tab++cg A).map (·.1)):
  cz kK 31 dM (an dB 2) 10 (.int a) (aU (am dd X) k X ([(S "gaps",.own 9)]++bE T.int (S "number") A) w (tab++cg A) [.fz G])=some (.ok .next,aU (am dd X) k X ([(S "gaps",.own 9)]++bE T.int (S "number") (A++[a])) w (tab++cg (A++[a])) [.fz G]):=by
 have hc:=jj (N3 (N:=tab++cg A) (by refine rwm _ ?_ js;unfold cg;rw[List.length_map];exact lB (Nat.add_le_add (l3 hl) c4) rfl) a .none);rw[nH hf,List.append_assoc,show cg A++[(aj.int a,T.tuple [.int 0,.none])]=cg (A++[a]) by unfold cg;refine rwm _ ?_ List.map_append;rfl] at hc;rw[nD];have hv:=ir T.int (S "number") A;generalize bE T.int (S "number") A=v at hv;generalize tab++cg A=c at hc;generalize tab++cg (A++[a])=m at hc;have h1:(R kK 31).as (dx (an dB 2)) dM (.t (.int a)) (aU (am dd X) k X ([(S "gaps",.own 9)]++v) w c [.fz G])=some (.ok (),aU (am dd X) k X [(S "gaps",.own 9),(S "number",.t (.int a))] w c [.fz G]):=by
  (refine a2 hw (λzz=>?_) (λzz=>?_);(try clear hw);subst zz;rotate_left;(try clear hw);refine ag zz λp bo=>?_;clear zz;subst bo;rotate_right)<;>refine oE v hv ?_ λb=>?_<;>lk
 have h2:aR (R kK 31) dM (dy (an dB 2)) (aU (am dd X) k X [(S "gaps",.own 9),(S "number",.t (.int a))] w c [.fz G])=some (.ok .next,aU (am dd X) k X [(S "gaps",.own 9),(S "number",.t (.int a))] w m [.fz G]):=by
  refine bv (jI (v:= .t .none) rfl (rH (E:=aU (am dd X) k X [(S "gaps",.own 9),(S "number",.t (.int a))] w c [.fz G]) (O2:=aU (am dd X) k X [(S "gaps",.own 9),(S "number",.t (.int a))] w c [.fz G]) (M:= .own 8) (C:=435) (f:=399) (vs:=[.t (.int a),.t (.int 0),.t .none]) ?_ ?_ ?_ ?_ ?_
   (cm (p:=⟨[6,8],sS c⟩) (bi:=[.own 1,.t (.int a),.t (.int 0),.t .none]) (X:=sS m) ?_ ?_ ?_)))
  .rfl
  .refine oE w hw ?_ λp=>?_<;>lk
  .refine oE w hw ?_ λp=>?_<;>lk
  .lk
  .refine oE w hw ?_ λp=>?_<;>lk
  .refine oE w hw ?_ λp=>?_<;>lk
  .exact(OM _ _).trans hc
  .refine oE w hw ?_ λp=>?_<;>lk
 refine(dJ h1 h2).trans (hS (λY=>some (Except.ok Fl.next,Y)) (ek (hY 10)))
set_option tactic.hygienic true in
theorem OW(hw:eo w)(hv:v=[]\/∃b,v=[(S "number",V.t (.int b))])(hl:tab.length<900)(hf:aj.int a∈tab.map (·.1)):
  cz kK 31 dM (an dB 4) 10 (.int a) (aU (am dd X) k X ([(S "gaps",.own 9)]++v) w tab [.fz G])=some (.ok .next,aU (am dd X) k X [(S "gaps",.own 9),(S "number",.t (.int a))] w (gP tab (.int a)) [.fz G]):=by
 have hs:(bg tab (.int a)).isSome=true:=by exact rwm _ (rwm _ rfl (iv hf)) pW
 refine ag (Option.isSome_iff_exists.mp hs) λt ht=>?_;have hc:=jj (N5 hl ht);generalize gP tab (.int a)=m at hc;have h1:(R kK 31).as (dx (an dB 4)) dM (.t (.int a)) (aU (am dd X) k X ([(S "gaps",.own 9)]++v) w tab [.fz G])=some (.ok (),aU (am dd X) k X [(S "gaps",.own 9),(S "number",.t (.int a))] w tab [.fz G]):=by
  (refine a2 hw (λzz=>?_) (λzz=>?_);(try clear hw);subst zz;rotate_left;(try clear hw);refine ag zz λp bo=>?_;clear zz;subst bo;rotate_right)<;>refine oE v hv ?_ λb=>?_<;>lk
 have h2:aR (R kK 31) dM (dy (an dB 4)) (aU (am dd X) k X [(S "gaps",.own 9),(S "number",.t (.int a))] w tab [.fz G])=some (.ok .next,aU (am dd X) k X [(S "gaps",.own 9),(S "number",.t (.int a))] w m [.fz G]):=by
  refine bv (jI (v:= .t .none) rfl (rH (E:=aU (am dd X) k X [(S "gaps",.own 9),(S "number",.t (.int a))] w tab [.fz G]) (O2:=aU (am dd X) k X [(S "gaps",.own 9),(S "number",.t (.int a))] w tab [.fz G]) (M:= .own 8) (C:=435) (f:=413) (vs:=[.t (.int a)]) ?_ ?_ ?_ ?_ ?_
   (cm (p:=⟨[6,8],sS tab⟩) (bi:=[.own 1,.t (.int a)]) (X:=sS m) ?_ ?_ ?_)))
  .rfl
  .refine oE w hw ?_ λp=>?_<;>lk
  .refine oE w hw ?_ λp=>?_<;>lk
  .lk
  .refine oE w hw ?_ λp=>?_<;>lk
  .refine oE w hw ?_ λp=>?_<;>lk
  .exact(ON _ _).trans hc
  .refine oE w hw ?_ λp=>?_<;>lk
 refine(dJ h1 h2).trans (hS (λY=>some (Except.ok Fl.next,Y)) (ek (hY 10)))
def iH(v:List (Str×V)):Prop:=v=[]\/∃b,v=[(S "number",V.t (.int b))]
theorem Df(l:List Int):(cg l).length=l.length:=ln ..
set_option tactic.hygienic true in
theorem OX(hw:eo w){G:List Int}(z:G.Nodup)(hg:∀n∈G,aj.int n∉tab.map (·.1))(hl:tab.length<800)(g:G.length<90):
  ∃v,iH v/\(R kK 32).ex (an dB 2) dM (aU (am dd X) k X [(S "gaps",.own 9)] w tab [.list (G.map T.int)])=some (.ok .next,aU (am dd X) k X ([(S "gaps",.own 9)]++v) w (tab++cg G) [.fz (ak G)]):=by
 have H:∀A a B,G=A++a::B->cz kK 31 dM (an dB 2) 10 (.int a) (aU (am dd X) k X ([(S "gaps",.own 9)]++bE T.int (S "number") A) w (tab++cg A) [.fz (ak G)])=some (.ok .next,aU (am dd X) k X ([(S "gaps",.own 9)]++bE T.int (S "number") (A++[a])) w (tab++cg (A++[a])) [.fz (ak G)]):=by
  intro A a B e;refine OV hw hl (by rw[e] at g;simp at g;exact hQ (ix _ _) g) ?_;have ha:a∈G:=by refine rwm _ ?_ e;simp
  rw[List.map_append,List.mem_append]
  rintro (h|h)
  .exact hg a ha h
  .refine al (sQ.mp h) λn hn e1=>ph z e (aj.int.inj e1▸hn)
 have L:dD (cz kK 31 dM (an dB 2) 10) (G.map T.int) (aU (am dd X) k X ([(S "gaps",.own 9)]++[]) w (tab++cg []) [.fz (ak G)])=some (.ok .next,aU (am dd X) k X ([(S "gaps",.own 9)]++bE T.int (S "number") G) w (tab++cg G) [.fz (ak G)]):=
  kQ T.int (λA=>aU (am dd X) k X ([(S "gaps",.own 9)]++bE T.int (S "number") A) w (tab++cg A) [.fz (ak G)]) _ G H
 have hv:=ir T.int (S "number") G;generalize bE T.int (S "number") G=v at hv L;rw[show cg []=[] from rfl,List.append_nil,List.append_nil] at L;refine⟨v,hv,pf (x:= .own 9) (t:=ak G) (U:=G.map T.int) (E:=aU (am dd X) k X [(S "gaps",.own 9)] w tab [.list (G.map T.int)]) (O2:=aU (am dd X) k X [(S "gaps",.own 9)] w tab [.fz (ak G)]) rfl ?_ ?_ rfl ?_⟩
 .refine oE w hw ?_ λp=>?_<;>lk
 .refine oE w hw ?_ λp=>?_<;>lk
 .exact L
def Dg:AE:=⟨iw nV,10,[(S "label",1)],S "layer_laid"++nm ".<locals>."++nm "<lambda>"++nm ".<locals>.",0⟩
set_option tactic.hygienic true in
theorem OY(hw:eo w)(hv:iH v)(hc:bO kG 40 564 [.own 1,.t dL] (sS tab)=some (some (.ok t,sS tab'))):
  (R kK 32).ex (an dB 3) dM (aU (am dd X) k X ([(S "gaps",.own 9)]++v) w tab [.fz G])=some (.ok .next,aU (am dd X) k X ([(S "gaps",.own 9)]++v) w tab' [.fz G]):=by
 have hb:(R kK 29).ev (lx nV) Dg (aU (am dd X) k X ([(S "gaps",.own 9)]++v) w tab [.fz G,.ns true [(S "shelf",.own 8)]])=some (.ok (.t t),aU (am dd X) k X ([(S "gaps",.own 9)]++v) w tab' [.fz G,.ns true [(S "shelf",.own 8)]]):=by
  refine aO (fv:= .t (.top 564)) (vs:=[.own 8,.t dL]) (E:=aU (am dd X) k X ([(S "gaps",.own 9)]++v) w tab [.fz G,.ns true [(S "shelf",.own 8)]]) ?_ ?_ ?_ ?_ (cm (p:=⟨[6,8],sS tab⟩) (bi:=[.own 1,.t dL]) (X:=sS tab') ?_ ?_ ?_)
  .rfl
  ·(refine a2 hw (λzz=>?_) (λzz=>?_);(try clear hw);subst zz;rotate_left;(try clear hw);refine ag zz λp bo=>?_;clear zz;subst bo;rotate_right)<;>refine oE v hv ?_ λb=>?_<;>lk
  ·(refine a2 hw (λzz=>?_) (λzz=>?_);(try clear hw);subst zz;rotate_left;(try clear hw);refine ag zz λp bo=>?_;clear zz;subst bo;rotate_right)<;>refine oE v hv ?_ λb=>?_<;>lk
  .lk
  ·(refine a2 hw (λzz=>?_) (λzz=>?_);(try clear hw);subst zz;rotate_left;(try clear hw);refine ag zz λp bo=>?_;clear zz;subst bo;rotate_right)<;>refine oE v hv ?_ λb=>?_<;>lk
  .exact(OO _ _).trans hc
  ·(refine a2 hw (λzz=>?_) (λzz=>?_);(try clear hw);subst zz;rotate_left;(try clear hw);refine ag zz λp bo=>?_;clear zz;subst bo;rotate_right)<;>refine oE v hv ?_ λb=>?_<;>lk
 have cr:(R kK 30).call (.own 2) [.own 8] (aU (am dd X) k X ([(S "gaps",.own 9)]++v) w tab [.fz G])=some (.ok (.t t),aU (am dd X) k X ([(S "gaps",.own 9)]++v) w tab' [.fz G]):=by
  refine C8 (ps:=sL nV) (j:=lx nV) (sc:=iw nV) (q:=S "layer_laid"++nm ".<locals>."++nm "<lambda>") (cl:=[(S "label",1)]) (H:=[(S "shelf",.own 8)]) (e:=Dg) (E:=aU (am dd X) k X ([(S "gaps",.own 9)]++v) w tab [.fz G,.ns true [(S "shelf",.own 8)]])
   (O2:=aU (am dd X) k X ([(S "gaps",.own 9)]++v) w tab' [.fz G,.ns true [(S "shelf",.own 8)]]) (v:= .t t) ?_ ?_ ?_ ?_ ?_ ?_
  .lk
  .lk
  .lk
  ·(refine a2 hw (λzz=>?_) (λzz=>?_);(try clear hw);subst zz;rotate_left;(try clear hw);refine ag zz λp bo=>?_;clear zz;subst bo;rotate_right)<;>refine oE v hv ?_ λb=>?_<;>lk
  .exact hb
  ·(refine a2 hw (λzz=>?_) (λzz=>?_);(try clear hw);clear hb;subst zz;rotate_left;(try clear hw);refine ag zz λp bo=>?_;clear zz;clear hb;subst bo;rotate_right)<;>refine oE v hv ?_ λb=>?_<;>lk
 refine jI (v:= .t t) rfl (aO (fv:= .own 2) (vs:=[.own 8]) (E:=aU (am dd X) k X ([(S "gaps",.own 9)]++v) w tab [.fz G]) ?_ ?_ ?_ ?_ ?_)
 .rfl
 ·(refine a2 hw (λzz=>?_) (λzz=>?_);(try clear hw);clear hb;subst zz;rotate_left;(try clear hw);refine ag zz λp bo=>?_;clear zz;clear hb;subst bo;rotate_right)<;>refine oE v hv ?_ λb=>?_<;>lk
 ·(refine a2 hw (λzz=>?_) (λzz=>?_);(try clear hw);clear hb;subst zz;rotate_left;(try clear hw);refine ag zz λp bo=>?_;clear zz;clear hb;subst bo;rotate_right)<;>refine oE v hv ?_ λb=>?_<;>lk
 .lk
 .exact cr
set_option tactic.hygienic true in
theorem OZ(hw:eo w)(hv:iH v){G:List Int}(z:G.Nodup)(hg:∀n∈G,aj.int n∈tab.map (·.1))(hl:tab.length<900):
  ∃v',iH v'/\(R kK 32).ex (an dB 4) dM (aU (am dd X) k X ([(S "gaps",.own 9)]++v) w tab [.fz (ak G)])=some (.ok .next,aU (am dd X) k X ([(S "gaps",.own 9)]++v') w (eC tab G) [.fz (ak G)]):=by
 (refine ag (lj T.int (λA O=>∃v',iH v'/\O=aU (am dd X) k X ([(S "gaps",.own 9)]++v') w (eC tab A) [.fz (ak G)]) (cz kK 31 dM (an dB 4) 10) G (O:=aU (am dd X) k X ([(S "gaps",.own 9)]++v) w tab [.fz (ak G)]) ⟨v,hv,by rw[OI]⟩ λA a B O e Y=>by
  obtain⟨f,d,rfl⟩:=Y;have ha:a∈G:=by refine rwm _ ?_ e;simp
  refine⟨_,OW hw d (hQ (List.length_filter_le _ _) hl) (OK (hg a ha) (ph z e)),[(S "number",.t (.int a))],.inr ⟨a,rfl⟩,?_⟩;rw[OJ];rfl) λM c3=>?_;refine ac c3 λL bi=>ag bi λv' c1=>ac c1 λj bo=>?_;clear c1;clear c3 bi;subst bo)
 refine⟨v',j,pf (x:= .own 9) (t:=ak G) (U:=G.map T.int) (E:=aU (am dd X) k X ([(S "gaps",.own 9)]++v) w tab [.fz (ak G)]) (O2:=aU (am dd X) k X ([(S "gaps",.own 9)]++v) w tab [.fz (ak G)]) rfl ?_ ?_ rfl ?_⟩
 ·(refine a2 hw (λzz=>?_) (λzz=>?_);(try clear hw);subst zz;rotate_left;(try clear hw);refine ag zz λp bo=>?_;clear zz;subst bo;rotate_right)<;>refine oE v hv ?_ λb=>?_<;>lk
 ·(refine a2 hw (λzz=>?_) (λzz=>?_);(try clear hw);subst zz;rotate_left;(try clear hw);refine ag zz λp bo=>?_;clear zz;subst bo;rotate_right)<;>refine oE v hv ?_ λb=>?_<;>lk
 .exact L
def eE(y:T)(G:T)(dd:Array UInt8):af:=[.fz G,.ns true [(S "bench",.t y),(S "shelf",.own 8)],.dict [],.dead,.sh 90 [(S "data",.t (.bytes dd)),(S "base",.t .none),(S "shelf",.own 8)]]
theorem O0(hw:eo w)(hv:iH v):(R kK 32).ex (an dB 5) dM (aU (am dd X) k X ([(S "gaps",.own 9)]++v) w (aB ord A l) [.fz G])=some (.ok (.ret (.own 13)),aU (am dd X) k X ([(S "gaps",.own 9)]++v) w (aB ord A l) (eE (am dd X) G dd)):=by
 (refine a2 hw (λzz=>?_) (λzz=>?_);(try clear hw);subst zz;rotate_left;(try clear hw);refine ag zz λp bo=>?_;clear zz;subst bo;rotate_right)<;>refine oE v hv ?_ λb=>?_<;>lk
theorem O5{l:List (Int×T)}{K:Nat}{ord:List Int}{A N f:List (aj×T)}{t:T}(c:strip X=db (aM l) bI)(hn:(l.map (·.1)).Nodup)(hp:∀p∈l,bC 6 p.2=true)(hl:l.length<100)(m:K<80)(hr:d7 (.range 1 k)=some ((fH K).map T.int))
  (hc:bO kG 40 564 [.own 1,.t dL] (sS (aM l++cg (fh (aM l) K)))=some (some (.ok t,sS f)))(h3:f.length<900)(bb:∀n∈fh (aM l) K,aj.int n∈f.map (·.1))(ho:eC f (fh (aM l) K)=aB ord A N):
  ∃w v,eo w/\iH v/\(R kK 33).call (.t (.top 583)) [.t (am dd X),.t (.int k),.own 2] (og (am dd X) k++[mw])=some (.ok (.own 13),aU (am dd X) k X ([(S "gaps",.own 9)]++v) w (aB ord A N) (eE (am dd X) (ak (fh (aM l) K)) dd)):=by
 have o:(fh (aM l) K).Nodup:=by
  unfold fh fH;have h:List.Pairwise (λ(a b:Nat)=>a≠b) (List.range K):=List.nodup_range;have h2:((List.range K).map λ(i:Nat)=>1+(i:Int)).Nodup:=List.pairwise_map.mpr (h.imp λ{a b} z e=>z (Int.ofNat.inj (Int.add_left_cancel e)));exact h2.filter _
 have r:∀n∈fh (aM l) K,aj.int n∉(aM l).map (·.1):=λn hn hm=>by
  have:=(qu.mp hn).2;rw[pW,decide_eq_true hm] at this;exact ftf this
 have g:(fh (aM l) K).length<90:=by
  refine hQ (List.length_filter_le _ _) ?_;unfold fH;rw[List.length_map,List.length_range];exact lB m rfl
 refine al (OQ (dd:=dd) (k:=k) c hn hp hl) λw hw e0=>?_;have e1:=OU (dd:=dd) (X:=X) (tab:=aM l) hw (lB m rfl) hr;(refine al (OX (dd:=dd) (X:=X) (k:=k) (tab:=aM l) hw o r (by rw[CW];exact lB hl rfl) g) λv hv e2=>?_);refine al (OZ (dd:=dd) (X:=X) (k:=k) (tab:=f) hw hv o bb h3) λv' j e4=>?_;rw[ho] at e4;have e5:=O0 (dd:=dd) (X:=X) (k:=k) hw j (G:=ak (fh (aM l) K)) (ord:=ord) (A:=A) (l:=N);refine⟨w,v',hw,j,kI (e:=dM) (H:=[(S "bench",.t (am dd X)),(S "beyond",.t (.int k)),(S "change",.own 2)]) (E:=gF false (am dd X) (.int k) eD dL) (O2:=aU (am dd X) k X ([(S "gaps",.own 9)]++v') w (aB ord A N) (eE (am dd X) (ak (fh (aM l) K)) dd)) (v:= .own 13) (st:=at_ 52) (q:=S "copy_grown") (d:=[]) (c6:=582) ?_ ?_ ?_ ?_ ?_ ?_ ?_⟩
 .lk
 .lk
 .rfl
 .lk
 .lk
 .exact aW (s:=an dB 0) e0 (aW (s:=an dB 1) e1 (aW (s:=an dB 2) e2 (aW (s:=an dB 3) (OY (dd:=dd) (X:=X) (k:=k) hw hv (G:=ak (fh (aM l) K)) hc) (aW (s:=an dB 4) e4 (ci (s:=an dB 5) e5)))))
 .rfl
end
theorem O6{l:List Int}(hl:l.length<100):dR (ak (l++[k])) (.int (-1))=some (.int k):=by
 show(jr ((l++[k]).map T.int).length (-1)).bind (((l++[k]).map T.int)[·]?)=_;have e:jr ((l++[k]).map T.int).length (-1)=some l.length:=by
  unfold jr;refine a0 (ec (by constructor<;>decide)) ?_;unfold seqIndex?;simp;exact E1
 refine rwm _ ?_ e;show((l++[k]).map T.int)[l.length]? =_;simp
def pX:AE:=⟨aV (at_ 57),0,[(S "label",1)],S "layer_laid"++nm ".<locals>.",615⟩
def Dh(y:T)(k:Int):af:=[.ns true [(S "bench",.t y),(S "beyond",.t (.int k)),(S "rest",.t eD)],.cell none]
def Di(y:T)(k:Int):MO:= .ns true [(S "bench",.t y),(S "beyond",.t (.int k)),(S "rest",.t eD),(S "fresh",.own 13)]
def gI(y:T)(k:Int)(X:T)(I w:List (Str×V))(tab:List (aj×T))(o:af):af:=[Di y k,.cell (some (.t dL)),mw,.ns true ([(S "bench",.t y),(S "beyond",.t (.int k)),(S "change",.own 2)]++I),.cell (some (.own 8)),.ns true ([(S "shelf",.t X),(S "table",.own 6)]++w),.dict tab,.dead,.sh 435 [(S "table",.own 6),(S "trailer",.t bI)]]++o
def Dj(y:T)(k:Int)(X:T)(I w:List (Str×V))(tab:List (aj×T))(G:T)(dd:Array UInt8):af:=[Di y k,.cell (some (.t dL)),mw,.ns true ([(S "bench",.t y),(S "beyond",.t (.int k)),(S "change",.own 2)]++I),.cell (some (.own 8)),.ns true ([(S "shelf",.t X),(S "table",.own 6)]++w),.fz (.dict tab),.dead,.fz (db tab bI),
 .fz G,.ns true [(S "bench",.t y),(S "shelf",.own 8)],.dict [],.dead,.fz (am dd (db tab bI))]
def jk(k:Int):Str:=S "layer "++dq k
def O7:Expr:=aY (a7 (bV (an lw 2))) 1
def Dk:AE:=⟨aV (at_ 37),14,[],S "group_numbers"++nm ".<locals>.",485⟩
section
variable {dd:Array UInt8}{X:T}{k:Int}{w v:List (Str×V)}
theorem O8(hw:eo w)(hv:iH v)(hc:bO kP 30 472 [.own 1,.t (aK ord)] (sS (aB ord A l))=some (some (.ok (ak ord),sS (aB ord A l)))):
  (R kK 29).call (.t (.top 486)) [.own 8] (gI (am dd X) k X ([(S "gaps",.own 9)]++v) w (aB ord A l) (eE (am dd X) G dd))=some (.ok (.t (ak ord)),gI (am dd X) k X ([(S "gaps",.own 9)]++v) w (aB ord A l) (eE (am dd X) G dd)):=by
 have hq:(R kK 28).ex (an (ba (at_ 37)) 0) Dk (gI (am dd X) k X ([(S "gaps",.own 9)]++v) w (aB ord A l) (eE (am dd X) G dd)++[.ns true [(S "shelf",.own 8)]])=some (.ok (.ret (.t (ak ord))),gI (am dd X) k X ([(S "gaps",.own 9)]++v) w (aB ord A l) (eE (am dd X) G dd)++[.ns true [(S "shelf",.own 8)]]):=by
  refine eh (aO (fv:= .t (.top 472)) (vs:=[.own 8,.t (aK ord)]) (E:=gI (am dd X) k X ([(S "gaps",.own 9)]++v) w (aB ord A l) (eE (am dd X) G dd)++[.ns true [(S "shelf",.own 8)]]) ?_ ?_ ?_ ?_ (cm (p:=⟨[6,8],sS (aB ord A l)⟩) (bi:=[.own 1,.t (aK ord)]) (X:=sS (aB ord A l)) ?_ ?_ ?_))
  .rfl
  ·(refine a2 hw (λzz=>?_) (λzz=>?_);(try clear hw);subst zz;rotate_left;(try clear hw);refine ag zz λp bo=>?_;clear zz;subst bo;rotate_right)<;>refine oE v hv ?_ λb=>?_<;>lk
  ·(refine a2 hw (λzz=>?_) (λzz=>?_);(try clear hw);subst zz;rotate_left;(try clear hw);refine ag zz λp bo=>?_;clear zz;subst bo;rotate_right)<;>refine oE v hv ?_ λb=>?_<;>lk
  .lk
  ·(refine a2 hw (λzz=>?_) (λzz=>?_);(try clear hw);subst zz;rotate_left;(try clear hw);refine ag zz λp bo=>?_;clear zz;subst bo;rotate_right)<;>refine oE v hv ?_ λb=>?_<;>lk
  .exact(OP _ _).trans hc
  ·(refine a2 hw (λzz=>?_) (λzz=>?_);(try clear hw);subst zz;rotate_left;(try clear hw);refine ag zz λp bo=>?_;clear zz;subst bo;rotate_right)<;>refine oE v hv ?_ λb=>?_<;>lk
 refine kI (e:=Dk) (H:=[(S "shelf",.own 8)]) (E:=gI (am dd X) k X ([(S "gaps",.own 9)]++v) w (aB ord A l) (eE (am dd X) G dd)++[.ns true [(S "shelf",.own 8)]]) (O2:=gI (am dd X) k X ([(S "gaps",.own 9)]++v) w (aB ord A l) (eE (am dd X) G dd)++[.ns true [(S "shelf",.own 8)]]) (v:= .t (ak ord)) (st:=at_ 37) (q:=S "group_numbers") (d:=[]) (c6:=485) ?_ ?_ ?_ ?_ ?_ ?_ ?_
 ·(refine a2 hw (λzz=>?_) (λzz=>?_);(try clear hw);subst zz;rotate_left;(try clear hw);refine ag zz λp bo=>?_;clear zz;subst bo;rotate_right)<;>refine oE v hv ?_ λb=>?_<;>lk
 .lk
 .rfl
 .lk
 ·(refine a2 hw (λzz=>?_) (λzz=>?_);(try clear hw);subst zz;rotate_left;(try clear hw);refine ag zz λp bo=>?_;clear zz;subst bo;rotate_right)<;>refine oE v hv ?_ λb=>?_<;>lk
 .exact ci (s:=an (ba (at_ 37)) 0) hq
 ·(refine a2 hw (λzz=>?_) (λzz=>?_);(try clear hw);subst zz;rotate_left;(try clear hw);refine ag zz λp bo=>?_;clear zz;subst bo;rotate_right)<;>refine oE v hv ?_ λb=>?_<;>lk
theorem O9(hw:eo w)(hv:iH v){ord:List Int}(ho:ord.length<100)(hk:0<=k/\k<=31)(hc:bO kP 30 472 [.own 1,.t (aK (ord++[k]))] (sS (aB (ord++[k]) A l))=some (some (.ok (ak (ord++[k])),sS (aB (ord++[k]) A l)))):
  (R kK 33).ev O7 pX (gI (am dd X) k X ([(S "gaps",.own 9)]++v) w (aB (ord++[k]) A l) (eE (am dd X) G dd))=some (.ok (.t (.str (jk k))),gI (am dd X) k X ([(S "gaps",.own 9)]++v) w (aB (ord++[k]) A l) (eE (am dd X) G dd)):=by
 have h1:=O8 (dd:=dd) (X:=X) (k:=k) hw hv (G:=G) hc;have hs:=hF hk;generalize Y:gI (am dd X) k X ([(S "gaps",.own 9)]++v) w (aB (ord++[k]) A l) (eE (am dd X) G dd)=O at h1;refine go (v:= .t (.str (S "layer "))) (u:= .t (.str (dq k))) (E:=O) (O2:=O) ?_ (aO (fv:= .t (.typ "str")) (vs:=[.t (.int k)]) (E:=O) ?_ ?_ (bx (E:=O) (nG (M:= .t (ak (ord++[k]))) (t:=ak (ord++[k])) (it:= .int (-1)) (E:=O) ?_
  (aO (fv:= .t (.top 486)) (vs:=[.own 8]) (E:=O) ?_ ?_ ?_ ?_ ?_) ?_ rfl (O6 ho)) cb) ?_ (pA (tA hk))) rfl rfl (jc ?_)
 .lk
 .rfl
 .subst Y;(refine a2 hw (λzz=>?_) (λzz=>?_);(try clear hw);subst zz;rotate_left;(try clear hw);refine ag zz λp bo=>?_;clear zz;subst bo;rotate_right)<;>refine oE v hv ?_ λb=>?_<;>lk
 .rfl
 .rfl
 .subst Y;(refine a2 hw (λzz=>?_) (λzz=>?_);(try clear hw);subst zz;rotate_left;(try clear hw);refine ag zz λp bo=>?_;clear zz;subst bo;rotate_right)<;>refine oE v hv ?_ λb=>?_<;>lk
 .subst Y;(refine a2 hw (λzz=>?_) (λzz=>?_);(try clear hw);subst zz;rotate_left;(try clear hw);refine ag zz λp bo=>?_;clear zz;subst bo;rotate_right)<;>refine oE v hv ?_ λb=>?_<;>lk
 .lk
 .exact h1
 .clear h1;subst Y;(refine a2 hw (λzz=>?_) (λzz=>?_);(try clear hw);subst zz;rotate_left;(try clear hw);refine ag zz λp bo=>?_;clear zz;subst bo;rotate_right)<;>refine oE v hv ?_ λb=>?_<;>lk
 .lk
 .have:(S "layer ").length=6:=by decide
  exact lB (Nat.add_le_add (ej this) hs) rfl
theorem Pa(hw:eo w)(hv:iH v):eV fr [.own 13,.t (.str s)] (gI (am dd X) k X ([(S "gaps",.own 9)]++v) w tab (eE (am dd X) G dd))=some (.ok [am dd (db tab bI),.str s],Dj (am dd X) k X ([(S "gaps",.own 9)]++v) w tab G dd):=by
 (refine a2 hw (λzz=>?_) (λzz=>?_);(try clear hw);subst zz;rotate_left;(try clear hw);refine ag zz λp bo=>?_;clear zz;subst bo;rotate_right)<;>refine oE v hv ?_ λb=>?_<;>lk
set_option tactic.hygienic true in
theorem Pb(hw:eo w)(hv:iH v){ord:List Int}(ho:ord.length<100)(hk:0<=k/\k<=31)(hc:bO kP 30 472 [.own 1,.t (aK (ord++[k]))] (sS (aB (ord++[k]) A l))=some (some (.ok (ak (ord++[k])),sS (aB (ord++[k]) A l))))
  (h1:(R kK 33).call (.t (.top 583)) [.t (am dd X),.t (.int k),.own 2] (og (am dd X) k++[mw])=some (.ok (.own 13),aU (am dd X) k X ([(S "gaps",.own 9)]++v) w (aB (ord++[k]) A l) (eE (am dd X) G dd))):
  br kK 36 616 [.t (am dd X),.t (.int k),.t eD] []=some (.ok (.t (.tuple [am dd (db (aB (ord++[k]) A l) bI),.str (jk k)])),[]):=by
 have I:(R kK 35).ex (an lw 0) pX (Dh (am dd X) k)=some (.ok .next,og (am dd X) k):=by lk
 have o:(R kK 35).ex (an lw 1) pX (og (am dd X) k)=some (.ok .next,gI (am dd X) k X ([(S "gaps",.own 9)]++v) w (aB (ord++[k]) A l) (eE (am dd X) G dd)):=by
  refine dX (v:= .own 13) (E:=aU (am dd X) k X ([(S "gaps",.own 9)]++v) w (aB (ord++[k]) A l) (eE (am dd X) G dd)) rfl rfl rfl (aO (fv:= .t (.top 583)) (vs:=[.t (am dd X),.t (.int k),.own 2]) (E:=og (am dd X) k++[mw]) ?_ ?_ ?_ ?_ ?_) ?_
  .rfl
  .lk
  .lk
  .lk
  .exact h1
  ·(refine a2 hw (λzz=>?_) (λzz=>?_);(try clear hw);clear h1;subst zz;rotate_left;(try clear hw);refine ag zz λp bo=>?_;clear zz;clear h1;subst bo;rotate_right)<;>refine oE v hv ?_ λb=>?_<;>lk
 have L:(R kK 35).ex (an lw 2) pX (gI (am dd X) k X ([(S "gaps",.own 9)]++v) w (aB (ord++[k]) A l) (eE (am dd X) G dd))=some (.ok (.ret (.t (.tuple [am dd (db (aB (ord++[k]) A l) bI),.str (jk k)]))),Dj (am dd X) k X ([(S "gaps",.own 9)]++v) w (aB (ord++[k]) A l) G dd):=by
  have hb:=O9 (dd:=dd) (X:=X) hw hv (G:=G) ho hk hc;refine eh (wC (bx ?_ (bx hb cb)) (Pa hw hv) (show 2<1000 by decide));(refine a2 hw (λzz=>?_) (λzz=>?_);(try clear hw);clear h1 hb;subst zz;rotate_left;(try clear hw);refine ag zz λp bo=>?_;clear zz;clear h1 hb;subst bo;rotate_right)<;>refine oE v hv ?_ λb=>?_<;>lk
 refine kI (e:=pX) (H:=[(S "bench",.t (am dd X)),(S "beyond",.t (.int k)),(S "rest",.t eD)]) (E:=Dh (am dd X) k) (st:=at_ 57) (q:=S "layer_laid") (d:=[]) (c6:=615) ?_ ?_ ?_ ?_ ?_ (aW (s:=an lw 0) I (aW (s:=an lw 1) o (ci (s:=an lw 2) L))) ?_
 .lk
 .lk
 .rfl
 .lk
 .lk
 .show some (Except.ok _,trunc 0 _)=_;rw[vS]
end
noncomputable def sR:List Nat:=[0,1,2,3,4,5,6,7,8]
theorem Pd(h:j<9):j∈sR:=(by decide+kernel:∀j,j<9->j∈sR) j h
theorem Pe:sR.map (λ(j:Nat)=>d7 (.range 1 (23+(j:Int))))=eO (λ(j:Nat)=>some ((fH (22+j)).map T.int)) sR:=by lk
theorem Pf{m j:Nat}(hm:m<=4)(hj:j<9)(x:T):bO av 22 465 [.own 1,.t (ao (23+(j:Int)))] (sS ((.int 1,x)::(aI 0 m++[(.int (23+(j:Int)),df cj)])))=some (some (.ok (.bool true),sS ((.int 1,x)::(aI 0 m++[(.int (23+(j:Int)),df cj)])))):=by
 have q:=fe (NO x) (Bo hj hm);dsimp only at q;exact jj q
noncomputable def ah.grown(D:ah)(k:Int):ah:={D with st:=2,k:=k}
theorem Pg{D:ah}(h:D.Wf)(hk:23<=k/\k<=31):(D.grown k).Wf where
 m:=h.m
 base:=h.base
 on:=h.on
 off:=h.off
 lk:=h.lk
 few:=h.few
 rows:=h.rows
 st:=by refine(?_:2<=2);decide
 k:=λ_=>hk
theorem Ph(D:ah)(k:Int):(D.grown k).tree=db (aB (D.order++[k]) (fG D.lk D.rows D.off k) (aI 0 D.m++[(.int k,df cj)])) bI:=rfl
theorem wJ:aj.int n∈(aI 0 m).map (·.1)↔n∈aQ m:=by
 rw[pO,i7];simp only[List.mem_map,List.mem_range]
 constructor
 .rintro ⟨i,h1,h2⟩
  exact⟨i,h1,by have:=aj.int.inj h2;exact Ey this⟩
 .rintro ⟨i,h1,h2⟩
  exact⟨i,h1,by refine rwm _ ?_ h2;simp⟩
theorem Pi{D:ah}(h:D.Wf)(h1:D.st=1){k:Int}(hk:23<=k/\k<=31){dd:Array UInt8}:br kK 36 616 [.t (am dd (.box (.doc D) D.tree)),.t (.int k),.t eD] []=some (.ok (.t (.tuple [am dd (D.grown k).tree,.str (jk k)])),[]):=by
 have hm:=h.m;obtain⟨j,hj,rfl⟩:∃j:Nat,j<9/\k=23+(j:Int):=⟨(k - 23).toNat,xh hk,xi hk⟩;have c:strip (.box (.doc D) D.tree)=db (aM (iG D.order (bA D.lk D.rows D.off) D.m [])) bI:=by
  show strip D.tree=_;rw[C7 h1,sK];rfl
 have m:D.order.length<=20:=by rw[gv];exact lB hm rfl
 have t:(bA D.lk D.rows D.off).length<=20/\∀p∈bA D.lk D.rows D.off,j7 p.1=true/\bC 3 p.2=true:=by
  have f:bC 3 (.list (D.rows.map aK))=true:=CZ (by have:=h.few;exact lB this rfl) λr hr=>my h (h.rows r hr);have h2:bC 3 (aK D.off)=true:=mx (my h h.off);have h3:bC 3 (aK D.lk)=true:=mx (my h h.lk);unfold bA
  cases ho:D.off with
  |nil=>
   refine⟨a4 rfl,λp hp=>?_⟩;simp only[oF,List.mem_append,List.mem_cons,List.not_mem_nil,or_false] at hp;(refine a2 hp (λzz=>?_) (λzz=>?_);(try clear hp);subst zz;rotate_left;(try clear hp);subst zz;rotate_right)
   .exact⟨rfl,h3⟩
   .exact⟨rfl,f⟩
  |cons a r=>
   rw[ho] at h2;refine⟨a4 rfl,λp hp=>?_⟩;simp only[oF,List.mem_append,List.mem_cons,List.not_mem_nil,or_false] at hp;rcases hp with(rfl|rfl)|rfl
   .exact⟨rfl,h3⟩
   .exact⟨rfl,f⟩
   .exact⟨rfl,h2⟩
 have A:=C0 m t.1 t.2;have c4:∀p∈iG D.order (bA D.lk D.rows D.off) D.m [],bC 6 p.2=true:=λp hp=>by
  (refine a2 (hG.mp hp) (λzz=>?_) (λhp=>?_);subst zz;rotate_left;rotate_right)
  .exact A
  .rw[List.append_nil] at hp;exact wA _ _ p hp
 have bb:(iG D.order (bA D.lk D.rows D.off) D.m []).length<100:=by
  refine(?_:(gG 0 D.m++[]).length+1<100);rw[List.append_nil,wB];exact lC (i2 hm) rfl
 have hr:=fe Pe (Pd hj);have B:=sK D.order (bA D.lk D.rows D.off) D.m;generalize z:fh (aM (iG D.order (bA D.lk D.rows D.off) D.m [])) (22+j)=G;have d:∀n,n∈G↔((∃i:Nat,i<22+j/\n=1+(i:Int))/\n≠1/\n∉aQ D.m):=by
  intro n;rw[<-z];unfold fh;rw[List.mem_filter,B,pW];have e:(aj.int n∈(aB D.order (bA D.lk D.rows D.off) (aI 0 D.m)).map (·.1))↔(n=1\/n∈aQ D.m):=by
   show aj.int n∈aj.int 1::(aI 0 D.m).map (·.1)↔_;rw[List.mem_cons,wJ]
   constructor
   .rintro (h|h)
    .exact .inl (aj.int.inj h)
    .exact .inr h
   .rintro (h|h)
    .exact .inl (by rw[h])
    .exact .inr h
  rw[Bool.not_eq_true',decide_eq_false_iff_not,e,not_or];unfold fH;simp only[List.mem_map,List.mem_range]
  constructor
  .rintro ⟨⟨i,hi,rfl⟩,h2⟩;exact⟨⟨i,hi,rfl⟩,h2⟩
  .rintro ⟨⟨i,hi,rfl⟩,h2⟩;exact⟨⟨i,hi,rfl⟩,h2⟩
 have g:G.length<=30:=by
  rw[<-z];refine a6 (List.length_filter_le _ _) ?_;unfold fH;rw[List.length_map,List.length_range];exact Ez hj
 have J:∀n,n∈aQ D.m->10<=n/\n<=19:=λn hn=>by
  (refine ag (i7.mp hn) λi c1=>ac c1 λhi bo=>?_;clear c1;subst bo);exact EA hm hi
 have C:(aI 0 D.m).length=D.m:=by
  have:=hS List.length (pO D.m 0)
  simpa using this
 have s:∀n,aj.int n∈(aB D.order (bA D.lk D.rows D.off) (aI 0 D.m++cg G)).map (·.1)↔(n=1\/n∈aQ D.m\/n∈G):=by
  intro n;show aj.int n∈aj.int 1::(aI 0 D.m++cg G).map (·.1)↔_;rw[List.mem_cons,List.map_append,List.mem_append,wJ,sQ]
  constructor
  .rintro (h|h|⟨a,ha,e⟩)
   .exact .inl (aj.int.inj h)
   .exact .inr (.inl h)
   .exact .inr (.inr (aj.int.inj e▸ha))
  .rintro (h|h|h)
   .exact .inl (by rw[h])
   .exact .inr (.inl h)
   .exact .inr (.inr ⟨n,h,rfl⟩)
 have E:aj.int (23+(j:Int))∉(aB D.order (bA D.lk D.rows D.off) (aI 0 D.m++cg G)).map (·.1):=by
  rw[s]
  rintro (h|h|h)
  .exact EB h
  .have:=J _ h;exact EC this
  ·(refine ac ((d _).mp h) λc7 _=>?_;rcases c7 with⟨i,hi,e⟩);exact ED hi e
 have H:=jj (OE (ord:=D.order) (lk:=D.lk) (rows:=D.rows) (I:=D.off) (l:=aI 0 D.m++cg G) (k:=23+(j:Int)) (K:=22+j) EE (lB (Nat.add_le_add_left hj _) rfl) (by rw[List.length_append,Df,C];exact lC (Nat.add_le_add hm g) rfl) (lC m rfl)
  (by
   rw[List.map_append,List.mem_append]
   rintro (h|h)
   .exact CT _ _ h
   .refine al (sQ.mp h) λn hn e=>?_;have:=((d n).mp hn).2.1;exact this (aj.int.inj e).symm)
  (λi hi=>by
   refine a0 pW ?_;refine iv ((s _).mpr ?_)
   by_cases e1:(1+(i:Int))=1
   .exact .inl e1
   .by_cases e2:(1+(i:Int))∈aQ D.m
    .exact .inr (.inl e2)
    .exact .inr (.inr ((d _).mpr ⟨⟨i,hi,rfl⟩,e1,e2⟩)))
  E (OH E))
 have hc:bO kG 40 564 [.own 1,.t dL] (sS (aM (iG D.order (bA D.lk D.rows D.off) D.m [])++cg G))=some (some (.ok (ao (23+(j:Int))),sS (aB (D.order++[23+(j:Int)]) (fG D.lk D.rows D.off (23+(j:Int))) ((aI 0 D.m++cg G)++[(.int (23+(j:Int)),df cj)])))):=by
  refine rwm _ ?_ B;exact H
 have q:eC (aB (D.order++[23+(j:Int)]) (fG D.lk D.rows D.off (23+(j:Int))) ((aI 0 D.m++cg G)++[(.int (23+(j:Int)),df cj)])) G=aB (D.order++[23+(j:Int)]) (fG D.lk D.rows D.off (23+(j:Int))) (aI 0 D.m++[(.int (23+(j:Int)),df cj)]):=by
  show eC ([(aj.int 1,T.tuple [.int 0,hU (D.order++[23+(j:Int)]) (fG D.lk D.rows D.off (23+(j:Int)))])]++((aI 0 D.m++cg G)++[(.int (23+(j:Int)),df cj)])) G=_;rw[wI,wI,wI,OL,List.append_nil];rw[wH (l:=[(aj.int 1,T.tuple [.int 0,hU (D.order++[23+(j:Int)]) (fG D.lk D.rows D.off (23+(j:Int)))])]) λn hn=>?_,wH (l:=aI 0 D.m) λn hn=>?_,wH (l:=[(aj.int (23+(j:Int)),df cj)]) λn hn=>?_]
  .rfl
  .intro y;have:aj.int n=aj.int (23+(j:Int)):=by simpa using y
   have:=aj.int.inj this;(refine ac ((d n).mp hn) λc7 _=>?_;rcases c7 with⟨i,hi,e⟩);exact EF this hi e
  .intro y;exact((d n).mp hn).2.2 (wJ.mp y)
  .intro y;have:aj.int n=aj.int 1:=by simpa using y
   exact((d n).mp hn).2.1 (aj.int.inj this)
 (refine b9 (O5 (dd:=dd) (K:=22+j) c C4 c4 bb (lB (Nat.add_le_add_left hj _) rfl) hr (by refine rwm _ ?_ z;exact hc) (by show((aI 0 D.m++cg G)++[_]).length+1<900;rw[List.length_append,List.length_append,Df,C];show D.m+G.length+1+1<900;exact EG hm g)
  (λn hn=>by
   rw[z] at hn;show aj.int n∈aj.int 1::((aI 0 D.m++cg G)++[(aj.int (23+(j:Int)),df cj)]).map (·.1);refine List.mem_cons_of_mem _ ?_;rw[List.map_append,List.map_append,List.mem_append,List.mem_append];exact .inl (.inr (sQ.mpr ⟨n,hn,rfl⟩)))
  (by refine rwm _ ?_ z;exact q)) λw v hw hv o=>?_)
 rw[Ph];refine Pb hw hv (lC m rfl) (EH hj) ?_ o;refine jj (OG ?_ (λn hn=>?_) ?_)
 .rw[List.nodup_append];refine⟨kR D,by simp,λa ha b hb=>?_⟩;have:=jO h ha;simp at hb;exact EI this hb
 ·(refine bc λno=>a2 (qs.mp hn) (λhn=>?_) (λhn=>?_);refine no ?_;clear no;rotate_left;refine no ?_;clear no;rotate_right)
  .exact CP hm (i8.mp hn) _ _
  .have:n=23+(j:Int):=by simpa using hn
   clear hn;subst this;exact Pf hm hj _
 .refine rwm _ ?_ js;refine(?_:D.order.length+1<100);exact lC (i2 m) rfl
def sT:AE:=⟨aV (at_ 53),1,[(S "states",3),(S "kept",2)],S "layer_states"++nm ".<locals>.",587⟩
def eF(D:ah)(F:T):af:=[.dict [],.ns true [(S "shelf",au D)],.cell (some (.own 0)),.cell (some (.t F))]
section
variable {D:ah}{f:Int->Bool}
theorem Pj(ha:a∈D.all)(hw:w=[]\/∃b,w=[(S "number",V.t (.int b))]):
  cP k4 36 sT mf 4 (.int a) (eF D (aS D.all f)++[.ns false w])=some (.ok (some (.tuple [.int a,.bool (f a)])),eF D (aS D.all f)++[.ns false [(S "number",.t (.int a))]]):=by
 refine kO (q:=true) (E:=eF D (aS D.all f)++[.ns false [(S "number",.t (.int a))]]) (O2:=eF D (aS D.all f)++[.ns false [(S "number",.t (.int a))]]) ?_ rfl (λ_=>?_) (λe=>nomatch e)
 .refine oE w hw ?_ λb=>?_<;>lk
 .refine pj (nI (E:=eF D (aS D.all f)++[.ns false [(S "number",.t (.int a))]]) ?_ (kE (E:=eF D (aS D.all f)++[.ns false [(S "number",.t (.int a))]]) (O2:=eF D (aS D.all f)++[.ns false [(S "number",.t (.int a))]]) (M:= .own 0) (t:= .dict []) (L:=1) (k:=3) (vs:=[.t (.int a),.t (.bool (f a))]) ?_ ?_ ?_ ?_ rfl ?_
   (bx (E:=eF D (aS D.all f)++[.ns false [(S "number",.t (.int a))]]) ?_ (bx (nG (M:= .t (aS D.all f)) (t:=aS D.all f) (it:= .int a) (E:=eF D (aS D.all f)++[.ns false [(S "number",.t (.int a))]]) rfl ?_ ?_ rfl ?_) cb)) ?_))
  .lk
  .rfl
  .lk
  .lk
  .rfl
  .rfl
  .lk
  .lk
  .lk
  .show bg (ax D.all f) (.int a)=_;exact rwm _ (rwm _ rfl (ec ha)) kW
  .lk
theorem Pl(h:D.Wf):br k4 40 588 [au D,.own 0] [.dict []]=some (.ok (.t (aS D.all D.startF)),[.dict []]):=by
 have c:bZ (cP k4 36 sT mf 4) (D.all.map T.int) [] (eF D (aS D.all D.startF)++[.ns false []])=
   some (.ok (D.all.map λn=> .tuple [.int n,.bool (D.startF n)]),eF D (aS D.all D.startF)++[.ns false (cO T.int (S "number") D.all)]):=by
  have:=jR T.int (S "number") (λn=>some (.tuple [.int n,.bool (D.startF n)])) (cP k4 36 sT mf 4) (eF D (aS D.all D.startF)) D.all (by have:=jP h;exact lB this rfl) λa ha w hw=>Pj ha hw;refine a0 this ?_
  congr 2
  exact rwm _ rfl lt
 have hd:(R k4 37).call (.t (.typ "dict")) [.own 4] (eF D (aS D.all D.startF)++[.list (D.all.map λn=> .tuple [.int n,.bool (D.startF n)])])=
   some (.ok (.own 5),eF D (aS D.all D.startF)++[.list (D.all.map λn=> .tuple [.int n,.bool (D.startF n)])]++[.dict (ax D.all D.startF)]):=by
  exact vX (O:=eF D (aS D.all D.startF)++[.list (D.all.map λn=> .tuple [.int n,.bool (D.startF n)])]) (g:=D.startF) (ma h) (by have:=jP h;exact lC this rfl)
 refine dU (e:=sT) (b:=vW) (E:=[.dict [],.ns true [(S "shelf",au D)],.cell (some (.own 0)),.cell none])
  (O2:=eF D (aS D.all D.startF)++[.list (D.all.map λn=> .tuple [.int n,.bool (D.startF n)])]++[.dict (ax D.all D.startF)]) (v:= .own 5) (by lk)
  (aW (E:=eF D (aS D.all D.startF)) (vI (v:= .t (aS D.all D.startF)) (by lk) (jK 538 (as:=[.t (ak D.all),.t (eK D)]) ?_ ?_) ?_)
   (ci (eh (aO (fv:= .t (.typ "dict")) (vs:=[.own 4]) (E:=eF D (aS D.all D.startF)++[.list (D.all.map λn=> .tuple [.int n,.bool (D.startF n)])]) rfl (by lk) (bx (l5 c rfl rfl ?_) cb) ?_ hd)))) rfl
 .refine rwm _ ?_ (vV h);refine BM (ma h) (by have:=jP h;exact lC this rfl) ?_
  by_cases e:D.all=[]
  .exact .inr ⟨e,BO h e⟩
  .exact .inl e
 .lk
 .lk
 .refine rwl _ ?_ (ai (BP D.all D.startF));lk
 .lk
end
def wK{α:Type}(m:MO)(x:Option α):Option α:=match m with
 | .dict l=>nl l x
 |_=>none
@[elab_as_elim] theorem Dl{α:Type}{q:α}{m:MO}{x:Option α}{P:MO->Prop}(h:wK m x=some q)(k:x=some q->P (.dict [])):P m:=by
 cases m<;>first|exact nso h|exact bT h k
def Dm:b8:=jH λx y O=>i9 x λD=>lK y 0 (un O λm l=>nl l (wK m (yes (.box (.sts D.all D.startF) (aS D.all D.startF)) [.dict []])))
theorem Pm:cG (R k4 40) 588 Dm:=nu λx y O q h s _ _=>jM h s λD hw h=>mN h λh=>by
 refine cK h λm l h=>bT h λh=>Dl h λh=>?_
 .skip
  cases h;exact⟨[au D,.own 0],[.dict []],_,LC.refl _,SC.refl _,Pl hw,TC.box (TC.refl _) ⟨ma hw,rfl⟩,SC.refl _⟩
def oh:aN:=bp 588 Dm (bp 571 (rK av 20 571) (bp 111 (rK av 40 111) k4))
theorem Po:aC oh 260:=aC.add pr (aC.addK aC.start (aC.addK aC.start (pr.mono (by decide)) (by decide)) (by decide)) (by decide) Pm
def sU:AE:=⟨aV (at_ 54),1,[],S "layers_text"++nm ".<locals>.",594⟩
def iI(D:ah)(g:Int->Bool)(w:List (Str×V))(rows:List Str):af:=[.dict [],.ns true ([(S "shelf",au D),(S "kept",.own 0),(S "states",.t (aF D.all g)),(S "rows",.own 2)]++w),.list (rows.map T.str)]
set_option tactic.hygienic true in
theorem Pp{D:ah}(h:D.Wf){g:Int->Bool}{A:List Int}(ha:a∈D.all)(hl:A.length<100):
  cz oh 38 sU (an lb 2) 3 (.int a) (iI D g (bE T.int (S "number") A) (A.map (bQ D g)))=some (.ok .next,iI D g (bE T.int (S "number") (A++[a])) ((A++[a]).map (bQ D g))):=by
 rw[nD];have hw:=ir T.int (S "number") A;generalize bE T.int (S "number") A=w at hw;have h1:(R oh 38).as (dx (an lb 2)) sU (.t (.int a)) (iI D g w (A.map (bQ D g)))=some (.ok (),iI D g [(S "number",.t (.int a))] (A.map (bQ D g))):=by
  refine oE w hw ?_ λb=>?_<;>lk
 have v:=vR h ha;have l1:=hF (n:=a) (to v);have z:(cond (g a) (S " on ") (S " off ")).length<=5:=by cases g a<;>decide
 refine(dJ (O2:=iI D g [(S "number",.t (.int a))] ((A++[a]).map (bQ D g))) h1 (bv (v6 (i:=2) (U:=(A.map (bQ D g)).map T.str) (u:= .str (bQ D g a)) rfl ?_ rfl (jS (jS (pC (i:=a) (w5 v) ?_) (v4 (v5 (t:=aS D.all g) (it:= .int a) (q:=g a) ?_ ?_) ?_) (lB (Nat.add_le_add l1 z) rfl))
  (BZ 111 (BV (pz D a)) (ny (jK 493 (Br h ha) ?_) cb) rfl ?_) ?_) (by rw[List.length_map,List.length_map];exact lB hl rfl) ?_))).trans ?_
 .lk
 .lk
 .show bg (ax D.all g) (.int a)=_;exact rwm _ (rwm _ rfl (ec ha)) kW
 .lk
 .cases g a<;>lk
 .lk
 .lk
 .rw[jd];exact lB (Nat.add_le_add (Nat.add_le_add l1 z) (pD _ (pz D a))) rfl
 .unfold iI;refine rwm _ (rwm _ ?_ i6) i6;rfl
 .exact rwm _ rfl (ek (hY 3))
theorem Pq{D:ah}(h:D.Wf):br oh 40 595 [au D,.own 0] [.dict []]=some (.ok (.t (.str (gz (D.all.map (bQ D D.startF))))),[.dict []]):=by
 have bb:=jP h;have hw:=ir T.int (S "number") D.all;have hl:=kQ T.int (λA=>iI D D.startF (bE T.int (S "number") A) (A.map (bQ D D.startF))) (cz oh 38 sU (an lb 2) 3) D.all λA a B e=>Pp h (by refine rwm _ ?_ e;simp) (by rw[e] at bb;simp at bb;exact tq bb);generalize bE T.int (S "number") D.all=w at hw hl;refine dU (e:=sU) (b:=lb) (E:=[.dict [],.ns true [(S "shelf",au D),(S "kept",.own 0)]]) (O2:=iI D D.startF w (D.all.map (bQ D D.startF))) (v:= .t (.str (gz (D.all.map (bQ D D.startF))))) (by lk)
  (aW (E:=[.dict [],.ns true [(S "shelf",au D),(S "kept",.own 0),(S "states",.t (aF D.all D.startF))]]) (nx (v:= .t (aF D.all D.startF)) (E:=[.dict [],.ns true [(S "shelf",au D),(S "kept",.own 0)]]) (by lk)
   (aO (fv:= .t (.top 588)) (vs:=[au D,.own 0]) (E:=[.dict [],.ns true [(S "shelf",au D),(S "kept",.own 0)]]) rfl ?_ ?_ ?_ (cm (p:=⟨[0],[.dict []]⟩) (bi:=[au D,.own 0]) (X:=[.dict []]) rfl rfl rfl)) ?_)
   (aW (E:=iI D D.startF [] []) ?_ (aW (gp (O2:=iI D D.startF [] []) hl ?_)
    (ci (eh (aO (fv:= .t (.top 571)) (vs:=[.own 2]) (E:=iI D D.startF w (D.all.map (bQ D D.startF))) rfl ?_ ?_ ?_ (cm (p:=⟨[2],[.list ((D.all.map (bQ D D.startF)).map T.str)]⟩) (bi:=[.own 0]) (X:=[.list ((D.all.map (bQ D D.startF)).map T.str)]) rfl ?_ rfl))))))) rfl
 .lk
 .lk
 .lk
 .lk
 .lk
 .lk
 .refine oE w hw ?_ λb=>?_<;>lk
 .refine oE w hw ?_ λb=>?_<;>lk
 .lk
 .exact B0 (by rw[List.length_map];exact lB bb rfl) (λx hx=>by
   (refine ag (hL.mp hx) λn c1=>ac c1 λhn bo=>?_;clear c1;clear hx;subst bo);have:=B5 (g:=D.startF) h hn;exact lB this rfl)
def pY(D:ah)(K:T)(dd:Array UInt8)(n1 n2 n3:Str):cF:=match cX D K with
 |some g=>gu (D.st=0/\n1=S "data"/\n2=S "base"/\n3=S "shelf") (yes (.tuple [am dd (.box (.doc (D.kept g)) (D.kept g).tree),.str (jX D.m)]) [])
 |none=>none
def wM{α:Type}(t:T)(f:Str->Array UInt8->Str->Str->ah->Option α):Option α:=xW t λC fs=>cond (Nat.beq C 90) (un fs λa l=>un l λb l=>un l λc l=>nl l (xL a.2 λdd=>tV b.2 (j9 c.2 λg _=>tU g λD=>f a.1 dd b.1 c.1 D))) none
theorem Pr{n1 n2 n3:Str}{dd:Array UInt8}{D:ah}{X:T}(h:cN (.t (.inst 90 [(n1,.bytes dd),(n2,.none),(n3,.box (.doc D) X)]))):D.Wf/\X=D.tree:=by
 (refine bc λno=>a9 (ku h) λw g x z=>no ?_;clear no);refine tn z λ_ _ _ _ _ _ _ _ z _=>?_;(refine bc λno=>bK z λ_ _ b _=>?_;clear z;rcases b with⟨y,_,q⟩;refine no ?_;clear no);exact q.1
@[elab_as_elim] theorem Dn{α:Type}{q:α}{v:V}{f:Str->Array UInt8->Str->Str->ah->Option α}{P:V->Prop}(h:aT v (λt=>wM t f)=some q)(s:cN v)(k:∀n1 dd n2 n3 D,D.Wf->f n1 dd n2 n3 D=some q->P (.t (.inst 90 [(n1,.bytes dd),(n2,.none),(n3,.box (.doc D) D.tree)]))):P v:=by
 revert s;refine bY h λt h=>FV h λC fs h=>?_
 cases hC:Nat.beq C 90 with
 |false=>rw[hC] at h;exact nso h
 |true=>
  rw[hC] at h;have hC:=ii hC;subst hC;refine cK h λa l h=>cK h λb l h=>cK h λc l h=>bT h λh=>?_;rcases a with⟨n1,t1⟩;rcases b with⟨n2,I⟩;rcases c with⟨n3,d⟩;refine FQ (t:=t1) h λdd h=>xV (t:=I) h λh=>jp (t:=d) h λg X h=>xO h λD h s=>ac (Pr s) λhw e=>?_;clear s;subst e;exact k n1 dd n2 n3 D hw h
def sV:b8:=o9 λx y z O=>nl O (aT x λt=>wM t λn1 dd n2 n3 D=>aT y λK=>aT z λz=>eT z λs=>cond (decide (s=em)) (pY D K dd n1 n2 n3) none)
def sW:b8:=o9 λx y z O=>nl O (aT x λt=>wM t λn1 dd n2 n3 D=>aT y λy=>fL y λk=>aT z λz=>eT z λs=>gu ((D.st=1/\n1=S "data"/\n2=S "base"/\n3=S "shelf")/\(23<=k/\k<=31)/\T.str s=eD) (yes (.tuple [am dd (.box (.doc (D.grown k)) (D.grown k).tree),.str (jk k)]) []))
theorem Do{D:ah}(h:D.Wf):TC (am dd D.tree) (am dd (.box (.doc D) D.tree)):=
 TC.inst (g6.cons (TC.refl _) (g6.cons (TC.refl _) (g6.cons (TC.box (TC.refl _) ⟨h,rfl⟩) (g6.refl _))))
theorem Ps:cG (R kK 37) 609 sV:=vA λx y z O q h s _ _ _=>bT h λh=>Dn h s λn1 dd n2 n3 D hw h=>bY h λK h=>bY h λz h=>ge h λs h=>by
 .skip
  cases hs:decide (s=em) with
  |false=>rw[hs] at h;exact nso h
  |true=>
   rw[hs] at h;have hs:=hK hs;subst hs;have h:=h;unfold pY at h
   cases hg:cX D K with
   |none=>rw[hg] at h;exact nso h
   |some g=>
    rw[hg] at h;(refine ac (iq h) λc7 b5=>?_;clear h;rcases c7 with⟨h0,rfl,rfl,rfl⟩);clear h;cases b5;exact⟨[.t (am dd (.box (.doc D) D.tree)),.t K,.t (.str em)],[],_,LC.refl _,trivial,Oj hw h0 hg,TC.tuple (bG.cons (Do (Ob hw g)) (bG.refl _)),trivial⟩
theorem Pt:cG (R kK 36) 616 sW:=vA λx y z O q h s _ _ _=>bT h λh=>Dn h s λn1 dd n2 n3 D hw h=>bY h λy h=>ib h λk h=>bY h λz h=>ge h λs h=>by
 .skip
  (refine ac (iq h) λc7 b5=>?_;clear h;rcases c7 with⟨⟨h0,rfl,rfl,rfl⟩,hk,hs⟩);clear h;cases b5;have hr:=Pi hw h0 hk (dd:=dd);rw[<-hs] at hr;exact⟨[.t (am dd (.box (.doc D) D.tree)),.t (.int k),.t (.str s)],[],_,LC.refl _,trivial,hr,TC.tuple (bG.cons (Do (Pg hw hk)) (bG.refl _)),trivial⟩
def mC:b8:=jH λx y O=>i9 x λD=>lK y 0 (un O λm l=>nl l (wK m (yes (.str (D.txt D.startF)) [.dict []])))
theorem Pu:cG (R oh 40) 595 mC:=nu λx y O q h s _ _=>jM h s λD hw h=>mN h λh=>by
 refine cK h λm l h=>bT h λh=>Dl h λh=>?_
 .skip
  cases h;exact⟨[au D,.own 0],[.dict []],_,LC.refl _,SC.refl _,Pq hw,TC.refl _,SC.refl _⟩
noncomputable def mE(f g:b8):b8:=λbe O=>match f be O with
 |some q=>some q
 |none=>g be O
theorem aC.or1{c:aN}{f g:b8}(h1:aC (bp a f av) b)(h2:aC (bp a g c) b):aC (bp a (mE f g) c) b:=by
 intro w b7 mb B C;have k:cM PW (bU w B) b (ri (bp a f av) (bp a g c)):=cM.or (h1 w b7 mb B C) (h2 w b7 mb B C);intro A l r b6 b2 hR x be U O q s e;refine k hR x be U O q s ?_;unfold ri bp;unfold bp at e
 cases hx:Nat.beq x a with
 |true=>
  rw[hx] at e;exact e
 |false=>
  rw[hx] at e;exact e
def kM:aN:=bp 639 sG (bp 624 kx (bp 644 v9 (bp 649 r5 (bp 656 sd (bp 602 mu (bp 609 sV (bp 616 sW av)))))))
def kL:aN:=bp 595 (mE mC lc) kM
theorem Pv:aC kM 300:=aC.add Ni (aC.add aC.start (aC.add aC.start (aC.add aC.start (aC.add aC.start (aC.add MT (aC.add CV (aC.add CV (aC.start.mono (i1 _)) (by decide) Pt) (by decide) Ps) (by decide) M6) (by decide) MI) (by decide) MF) (by decide) ME) (by decide) vK) (by decide) ND
theorem Pw:aC kL 300:=aC.or1 (aC.add Po (aC.start.mono (i1 _)) (by decide) Pu) (aC.add B3 Pv (by decide) Mr)
def Dp:Prop:=∀(w:World)(b7 mb:Str->Option Value)(B:Heap)(r:ay)(A:Around)(l:List Env)(env:Env)(ns:List Int)(L:Shared)(H:ay)(s:Shared),
 (∀c,gZ (heap w.params) (bU w B) (Pc c) b7 mb)->Rm A l 348->ns.length<=63->cB (bU w B) r l L H [] aH env (ca (ak ns)) s->
 ∀(Q:Flow->Shared->Prop)(E:Value->Shared->Prop),(∀s' g b2 O,bk L H [] s' g b2->St (bU w B) r g b2 l O s'.heap->Q (.ret (.bool true)) s')->wpAny (model PW w) A (execs (ba (at_ 68)) env) Q E s
theorem Px(H:Dp):A8:=by
 intro w s b7 mb ns x hk S bb hx;have F:=vl (hk av).k1.X (List.mem_of_find?_eq_some KS);(refine bc λno=>aw (qU F.sc) λo1 E m=>no ?_;clear no);have b:LR (VR w (hid s.heap).get? []) [.t (ak ns)] [x]:= .cons hx .nil;refine cD (qT S F.ps F.dfl F.len (KT (ak ns)) b) λys hb h1 h2=>s1 (uJ (by decide) (S.ground _ _ F.at_) F.data E m ((F.rec_).keeps S.ground) ?_);refine hb _ _ _ _ (eb (uI (λ_=>rfl) o1 (cl:=[]) rfl h1 h2 [] _ s _ _ (.refl _) (.refl _) S (KU (ak ns))) (λenv Y z=>?_) λy Y z=>?_);rotate_left
 .refine cT z λ_ _ _ _ e1 _=>oee e1
 (refine dp z λg1 bo Q e1 B S1 he c2=>?_;clear z);(have za:=oke e1;clear e1;cases za);refine⟨((hk av).G).nolimit.keeps S1.ground,?_⟩;have c:env.scope.kind= .function:=by refine rwm _ ?_ he.scope;exact he.kind
 have be:ER (bU w (hid s.heap)) [env] g1 bo aH env:=⟨he.scope,he.kind,he.loc,he.globals,he.cells,he.qual,he.code,he.builtins,⟨env,.head _,rfl⟩⟩;refine codeAny_func ?_;have hR:Rg callerA [] 348:=⟨rfl,rfl,by decide,by decide⟩;refine H w b7 mb (hid s.heap) (λ_=>none) (callerA.deeper env) [env] env ns s (hid s.heap).get? Y hk (hR.deeper env) bb ⟨g1,bo,B,(S1.pushF rfl he.loc c c2),be⟩ _ _ λs' g b2 O st S3=>⟨rfl,g,b2,O,st,S3.pop⟩
theorem Py(X:List T):(R kL 44).ev vy aH (ca (.list X))=qF (.list X) none (some (.t (.int 50))) none (ca (.list X)):=by lk
theorem Pz(X:List T):(R kL 45).ev rC aH (ca (.list X))=bm (vz (R kL 44) vy aH) (λvs=>bm (kl (Pc kL) (.t (.typ "list"))) λ_=>(R kL 44).call (.t (.typ "list")) vs) (ca (.list X)):=by lk
theorem PA(O:af)(k:Nat):(R kL 44).call (.t (.typ "list")) [.own k] O=bm (aE (.own k)) (λt=>jv "list" t) O:=by lk
theorem PB{X:List T}(h:X.length<=63):(R kL 45).ev rC aH (ca (.list X))=some (.ok (.own 6),ca (.list X)++[.list (X.take 50),.list (X.take 50)]):=by
 have f1:aJ X.length=true:=by unfold aJ;refine rwm _ ?_ nf;exact iv (lB h rfl)
 have hs:(R kL 44).ev vy aH (ca (.list X))=some (.ok (.own 5),ca (.list X)++[.list (X.take 50)]):=by
  rw[Py];show(if(none:Option Int)≠some 0/\aJ X.length=true then bP (.list (lR X none (some 50) none)) else λ_=>none:MM V) _=_;rw[if_pos ⟨by simp,f1⟩,KW];rfl
 rw[Pz,az (KZ hs)];show(R kL 44).call (.t (.typ "list")) [.own 5] _=_;rw[PA];show jv "list" (.list (X.take 50)) _=_;have f2:aJ (X.take 50).length=true:=by unfold aJ;refine rwm _ ?_ nf;exact iv (by refine rwm _ ?_ p8;exact lB (Nat.min_le_left _ _) rfl)
 show(if aJ (X.take 50).length then bP (.list (X.take 50)) else λ_=>none:MM V) _=_;refine rwm _ ?_ f2;rfl
theorem PC(O:af):(R kL 46).ev nt aH O=gS (R kL 45) aH .Or [rC,A9] O:=by lk
theorem PD(X Y Z:List T):(R kL 45).ev A9 aH (ca (.list X)++[.list Y,.list Z])=some (.ok (.own 7),ca (.list X)++[.list Y,.list Z]++[.list [.int 2]]):=by lk
theorem PF{ns:List Int}(h:ns.length<=63):∃k L,(R kL 46).ev nt aH (ca (ak ns))=some (.ok (.own k),ca (ak ns)++L)/\5<=k/\L[k - 5]? =some (.list ((eg ns).map T.int))/\∀Q∈L,∃U,Q= .list U:=by
 have c:(ns.map T.int).length<=63:=by rw[List.length_map];exact h
 have hc:=PB c;have f2:aJ ((ns.map T.int).take 50).length=true:=by unfold aJ;refine rwm _ ?_ nf;exact iv (by refine rwm _ ?_ p8;exact lB (Nat.min_le_left _ _) rfl)
 show∃k L,(R kL 46).ev nt aH (ca (.list (ns.map T.int)))=_/\_;rw[PC];have hv:vw (.own 6) (ca (.list (ns.map T.int))++[.list ((ns.map T.int).take 50),.list ((ns.map T.int).take 50)])=some (.list ((ns.map T.int).take 50)):=rfl;have b:(ns.map T.int).take 50=(ns.take 50).map T.int:=List.map_take.symm
 cases hn:ns.take 50 with
 |nil=>
  have d:(ns.map T.int).take 50=[]:=by refine a0 b (rwm _ ?_ hn);rfl
  have ht:kf (.list ((ns.map T.int).take 50))=some false:=by refine rwm _ ?_ d;rfl
  refine⟨7,[.list ((ns.map T.int).take 50),.list ((ns.map T.int).take 50),.list [.int 2]],(K3 hc hv ht).trans ((PD _ _ _).trans (by rw[List.append_assoc];rfl)),by decide,?_,?_⟩
  .unfold eg;refine rwm _ ?_ hn;rfl
  .intro Q hm;simp at hm;rcases hm with rfl|rfl|rfl<;>exact⟨_,rfl⟩
 |cons a l=>
  have ht:kf (.list ((ns.map T.int).take 50))=some true:=by
   show(if aJ ((ns.map T.int).take 50).length then some (!((ns.map T.int).take 50).isEmpty) else none)=_;refine rwm _ (rwm _ (rwm _ ?_ hn) b) f2;rfl
  refine⟨6,_,K0 hc hv ht,by decide,?_,?_⟩
  .unfold eg;refine rwm _ (rwm _ (rwm _ ?_ hn) b) hn;rfl
  .intro Q hm;simp at hm;subst hm;exact⟨_,rfl⟩
section
variable {J:Program}{b1:Cx}{r g H:ay}{b2:List Addr}{l:List Env}{env:Env}{O:af}{s L:Shared}
theorem sX{g:ay}(z:OR w g b2 h (.cell none) a):OR w g b4 h (.cell none) a:=by
 (refine al z λx z1 E=>?_;clear z);cases x<;>exact⟨_,z1,E⟩
def wO(X:T)(w:List (Str×V)):MO:= .ns true ([(S "script",.t X),(S "tape",.own 5)]++w)
theorem cB.start(k:cB b1 r l L H [] aH env O s)(hn:5<=n)(h0:O[0]? =some (.ns true [(S "script",.t X),(S "tape",.own n)]))(h1:O[1]? =some (.cell none))(h2:O[2]? =some (.cell none))(h3:O[3]? =some (.cell none))(h4:O[4]? =some (.cell none))(h5:O[n]? =some (.list f)):
  cB b1 r l L H [] aH env [wO X [],.cell none,.cell none,.cell none,.cell none,.list f] s:=by
 (refine b9 k λg b2 p S0 he=>?_;clear k);have hr:∀i Q,O[i]? =some Q->∃a,b2[i]? =some a:=λi Q hi=>by
  have:=(List.getElem?_eq_some_iff.mp hi).1;rw[<-S0.len] at this;exact⟨_,hW this⟩
 refine ag (hr _ _ h0) λh e0=>ag (hr _ _ h1) λa1 e1=>ag (hr _ _ h2) λd e2=>ag (hr _ _ h3) λB e3=>ag (hr _ _ h4) λG e4=>ag (hr _ _ h5) λa5 e5=>?_;have w:cw b2 [0,1,2,3,4,n]=[h,a1,d,B,G,a5]:=by
  show [(b2[0]?).getD 0,(b2[1]?).getD 0,(b2[2]?).getD 0,(b2[3]?).getD 0,(b2[4]?).getD 0,(b2[n]?).getD 0]=_;refine rwm _ (rwm _ (rwm _ (rwm _ (rwm _ (rwm _ ?_ e5) e4) e3) e2) e1) e0;rfl
 have I:PI b1 g b2 O s.heap ⟨[0,1,2,3,4,n],[wO X [],.cell none,.cell none,.cell none,.cell none,.list f]⟩:=by
  refine⟨rfl,?_,λi k e=>?_⟩
  .simp;exact E2 hn
  .have hi:=(List.getElem?_eq_some_iff.mp e).1;have:i=0\/i=1\/i=2\/i=3\/i=4\/i=5:=E3 hi;clear hi;rcases this with rfl|rfl|rfl|rfl|rfl|rfl
   .cases e;refine⟨_,_,h,h0,rfl,e0,rfl,?_⟩;refine h8 (S0.own 0 _ h h0 e0) λo m z1 E z3 Y t A=>⟨o,m,z1,E,?_,?_,t,A⟩
    ·(refine bc λno=>aw z3 λD c _=>?_;clear z3;rcases D with⟨x,q1,q2⟩;rcases c with⟨y,q3,q4⟩;refine no ?_;clear no);(refine ag q4 λb c1=>ac c1 λq5 bo=>?_;clear c1;subst bo);rw[e5] at q5;cases q5;exact⟨⟨x,q1,q2⟩,⟨_,q3,a5,by show(cw b2 [0,1,2,3,4,n])[5]? =_;refine rwm _ ?_ w;rfl,rfl⟩,trivial⟩
    .exact Y
   .cases e;exact⟨_,_,a1,h1,rfl,e1,rfl,sX (S0.own 1 _ a1 h1 e1)⟩
   .cases e;exact⟨_,_,d,h2,rfl,e2,rfl,sX (S0.own 2 _ d h2 e2)⟩
   .cases e;exact⟨_,_,B,h3,rfl,e3,rfl,sX (S0.own 3 _ B h3 e3)⟩
   .cases e;exact⟨_,_,G,h4,rfl,e4,rfl,sX (S0.own 4 _ G h4 e4)⟩
   .cases e;exact⟨_,_,a5,h5,rfl,e5,rfl,S0.own n _ a5 h5 e5⟩
 refine⟨g,cw b2 [0,1,2,3,4,n],⟨p.1,p.2.1,λi a e=>by simp at e⟩,S0.select I,?_⟩;refine⟨he.scope,he.kind,?_,he.globals,?_,he.qual,he.code,he.builtins,he.frame⟩
 .have:=he.loc;refine rwm _ ?_ w;have q:b2[0]? =some env.locals:=this;rw[e0] at q;exact q
 .have hc:=he.cells;(refine bc λno=>aq hc λU l1 v=>aw v λq1 q2 j=>aq j λb3 l2 f8=>aw f8 λq3 q4 f7=>aq f7 λcf z cd=>aw cd λq5 q6 M=>aq M λc5 C c3=>aw c3 λq7 q8 q9=>no ?_;clear c3 M cd f7 f8 j v hc no);refine rwm _ ?_ w;rw[e4] at q2;cases q2;rw[e3] at q4;cases q4;rw[e2] at q6;cases q6;rw[e1] at q8;cases q8;exact⟨G,l1,q1,rfl,B,l2,q3,rfl,d,z,q5,rfl,a1,C,q7,rfl,q9⟩
end
theorem PG{O:af}(h:O[k]? =some (.list U)):fr (.own k) O=some (.ok (.list U),O.set k (.fz (.list U))):=by
 show bm (bw k) _ O=_;refine a0 (az (show bw k O=some (.ok (.list U),O) by unfold bw;exact rwm _ rfl h)) ?_;rfl
theorem PH{O:af}(h:O[0]? =some (.ns true [(S "script",.t X)])):(R kL 47).as (jQ iY) aH (.own n) O=some (.ok (),O.set 0 (.ns true [(S "script",.t X),(S "tape",.own n)])):=by
 have e:(R kL 47).as (jQ iY) aH (.own n) O=bm (bw 0) (λQ=>match Q with
  | .ns f N=>put 0 (.ns f (dN N (S "tape") (.own n)))
  |_=>λ_=>none) O:=by lk
 refine rwm _ (rwm _ ?_ (az (show bw 0 O=some (.ok (.ns true [(S "script",.t X)]),O) by unfold bw;exact rwm _ rfl h))) e;have e2:dN [(S "script",V.t X)] (S "tape") (.own n)=[(S "script",.t X),(S "tape",.own n)]:=by lk
 show put 0 (.ns true (dN [(S "script",V.t X)] (S "tape") (.own n))) O=_;refine rwm _ ?_ e2;rfl
set_option tactic.hygienic true in
theorem PJ{ns:List Int}(h:ns.length<=63):∃n O,5<=n/\(R kL 48).ex iY aH (ca (ak ns))=some (.ok .next,O)/\O[0]? =some (.ns true [(S "script",.t (ak ns)),(S "tape",.own n)])/\O[1]? =some (.cell none)/\O[2]? =some (.cell none)/\O[3]? =some (.cell none)/\O[4]? =some (.cell none)/\
  O[n]? =some (.list [.list ((eg ns).map T.int),.int 0]):=by
 refine mJ (PF h) λk L h1 h2 h3 h4=>?_;have hk:(ca (ak ns)++L)[k]? =some (.list ((eg ns).map T.int)):=by
  refine a0 (List.getElem?_append_right (show(ca (ak ns)).length<=k from h2)) ?_;exact h3
 have hs:(ca (ak ns)++L).set k (.fz (.list ((eg ns).map T.int)))=ca (ak ns)++L.set (k - 5) (.fz (.list ((eg ns).map T.int))):=by
  refine a0 (List.set_append_right _ _ (show(ca (ak ns)).length<=k from h2)) ?_;rfl
 have hd:(R kL 47).ev ip aH (ca (ak ns))=some (.ok (.own (5+L.length)),ca (ak ns)++L.set (k - 5) (.fz (.list ((eg ns).map T.int)))++[.list [.list ((eg ns).map T.int),.int 0]]):=by
  have he:a8 (R kL 46) aH (lZ ip) (ca (ak ns))=some (.ok [.own k,.t (.int 0)],ca (ak ns)++L):=by
   refine bx (a:=nt) (l:=[aY (lZ ip) 1]) h1 (bx (E:=ca (ak ns)++L) ?_ cb);lk
  have hm:eV fr [.own k,.t (.int 0)] (ca (ak ns)++L)=some (.ok [.list ((eg ns).map T.int),.int 0],ca (ak ns)++L.set (k - 5) (.fz (.list ((eg ns).map T.int)))):=by
   show bm (fr (.own k)) (λb=>bm (eV fr [.t (.int 0)]) λH=>pm (b::H)) _=_;refine a0 (az (PG hk)) (rwm _ ?_ hs);rfl
  have e:(R kL 47).ev ip aH (ca (ak ns))=bm (a8 (R kL 46) aH (lZ ip)) (λvs=>bm (eV fr vs) λts=>if aJ ts.length then bP (.list ts) else λ_=>none) (ca (ak ns)):=by lk
  refine a0 e (rwm _ (rwm _ ?_ (az hm)) (az he));show(if aJ 2 then bP (.list [.list ((eg ns).map T.int),.int 0]) else λ_=>none:MM V) _=_;refine rwm _ (rwm _ ?_ (ec rfl)) (eY (by decide));unfold bP;refine rwm _ (rwm _ ?_ oe) js;rfl
 have hx:(R kL 48).ex iY aH (ca (ak ns))=some (.ok .next,(ca (ak ns)++L.set (k - 5) (MO.fz (.list ((eg ns).map T.int)))++[MO.list [.list ((eg ns).map T.int),.int 0]]).set 0 (.ns true [(S "script",.t (ak ns)),(S "tape",.own (5+L.length))])):=by
  have q1:ij (R kL 47) aH (jQ iY) ip=bm ((R kL 47).ev ip aH) λv=>lT (R kL 47) aH (jQ iY) v (fS aH (jQ iY) ip):=rfl;have q2:fS aH (jQ iY) ip=some none:=by lk
  exact dX (tg:=jQ iY) (x:=ip) rfl q1 q2 hd (PH rfl)
 refine⟨5+L.length,_,ix _ _,hx,rfl,rfl,rfl,rfl,rfl,?_⟩;refine a0 (p5 E4) (rwm _ (rwm _ (rwm _ ?_ oe) js) (List.getElem?_append_right (by(refine rwm _ ?_ js;refine rwm _ ?_ oe);refine(?_:5+L.length<=5+L.length);exact hY _)));show [MO.list [.list ((eg ns).map T.int),.int 0]][5+L.length - (5+L.length)]? =_;rw[Nat.sub_self];rfl
def bL:List Stmt:=ba (at_ 68)
def bX(k:Nat):Stmt:=an bL k
def aX(X:T)(w:List (Str×V))(b k l s:Option V)(t:T)(i:Int)(o:af):af:=[wO X w,.cell b,.cell k,.cell l,.cell s,.list [c0 [] t,.int i]]++o
theorem PK(be:List V)(O:af):kL 639 be O=sG be O:=by lk
theorem sY(be:List V)(O:af):kL 624 be O=kx be O:=by lk
theorem PL(be:List V)(O:af):kL 644 be O=v9 be O:=by lk
theorem sZ(be:List V)(O:af):kL 649 be O=r5 be O:=by lk
theorem PM(be:List V)(O:af):kL 656 be O=sd be O:=by lk
theorem pZ(be:List V)(O:af):kL 595 be O=mE mC lc be O:=by lk
theorem wQ(be:List V)(O:af):kL 602 be O=mu be O:=by lk
theorem PN(be:List V)(O:af):kL 609 be O=sV be O:=by lk
theorem PO(be:List V)(O:af):kL 616 be O=sW be O:=by lk
theorem ly(h1:vw v O=some (.str a))(h2:vw u O=some (.str b)):dQ .NotEq v u O=some (.ok (!decide (a=b)),O):=by
 show bm (aE v) (λx=>bm (aE u) λy=>om (gR .NotEq x y)) O=_;refine a0 (az (dY h1)) (rwm _ ?_ (az (dY h2)));rfl
theorem PR(h1:vw v O=some (.str a))(h2:vw u O=some (.str b)):dQ .Eq v u O=some (.ok (decide (a=b)),O):=by
 show bm (aE v) (λx=>bm (aE u) λy=>om (gR .Eq x y)) O=_;refine a0 (az (dY h1)) (rwm _ ?_ (az (dY h2)));rfl
theorem iJ{c:aN}(h1:iO O be ⟨[],[]⟩=some (be,⟨[],[]⟩))(h2:c a be []=yes t []):(R c (n+1)).call (.t (.top a)) be O=some (.ok (.t t),O):=cm h1 h2 rfl
theorem ta{D:ah}(h:D.st=0\/D.st=1)(g:Int->Bool):D.txt g=cC D.order g:=by
 unfold ah.txt cC;refine rwm _ ?_ (ja h)
 congr 1
 refine kv λn _=>?_;unfold bQ cZ nL ah.labN;rw[if_neg (λhc=>Fk h hc)]
def ah.f0(D:ah):Int->Bool:=Internal.startF D.bq0 D.on D.off
theorem wR{D:ah}(h:D.st=0):D.startF=D.f0:=by
 rcases D with⟨m,rev,b,on,off,lk,rows,st,k⟩;cases h;rfl
theorem Dq{D:ah}{K:T}{g:Int->Bool}(hg:cX D K=some g):mE mC lc [au D,.t K] []=yes (.str (D.txt g)) []:=by
 have e1:mC [au D,.t K] []=none:=rfl;have e2:mE mC lc [au D,.t K] []=lc [au D,.t K] []:=by unfold mE;exact rwm _ rfl e1
 refine a0 e2 ?_;exact Cf (P:=λK g=>lc [au D,.t K] []=yes (.str (D.txt g)) []) hg rfl λst t=>fW (p:=D.all=D.all) rfl
theorem tc{D:ah}{g:Int->Bool}:r5 [cn D,.t (aF D.order g)] []=yes (.str (cC D.order g)) []:=fW rfl
section
variable {D:ah}{X t:T}{ns:List Int}
set_option tactic.hygienic true in
theorem PS(hD:D=cR ns):(R kL 48).ex (bX 1) aH (aX X [] none none none none (ak ns) 0 [])=some (.ok .next,aX X [(S "told_of",cn D)] none none none (some (au D)) (ak ns) (fE ns) []):=by
 subst hD;have hc:sG [.own 0] [.list [c0 [] (ak ns),.int 0]]=yes (.tuple [.box (.doc (cR ns)) (cR ns).tree,.box (.told (cR ns)) (cR ns).toldT]) [.list [c0 [] (ak ns),.int (fE ns)]]:=by
  show yes (.tuple [.box (.doc (cR (cy (ak ns)))) (cR (cy (ak ns))).tree,.box (.told (cR (cy (ak ns)))) (cR (cy (ak ns))).toldT]) [.list [c0 [] (ak ns),.int (fE (cy (ak ns)))]]=_;rw[jF]
 generalize cR ns=D at hc;refine dX (v:= .t (.tuple [.box (.doc D) D.tree,.box (.told D) D.toldT])) (E:=aX X [] none none none none (ak ns) (fE ns) []) rfl ?_ ?_ (aO (fv:= .t (.top 639)) (vs:=[.own 5]) (E:=aX X [] none none none none (ak ns) 0 []) ?_ ?_ ?_ ?_ (cm (p:=⟨[5],[.list [c0 [] (ak ns),.int 0]]⟩) (bi:=[.own 0]) (X:=[.list [c0 [] (ak ns),.int (fE ns)]]) ?_ ?_ ?_)) ?_
 .rfl
 .lk
 .rfl
 .lk
 .lk
 .lk
 .lk
 .exact(PK _ _).trans hc
 .lk
 .lk
variable {i:Int}
set_option tactic.hygienic true in
theorem PT:(R kL 48).ex (bX 2) aH (aX X [(S "told_of",cn D)] none none none (some (au D)) t i [])=some (.ok .next,aX X [(S "told_of",cn D),(S "states",.t (aF D.order D.f0))] none (some (.t (.dict []))) none (some (au D)) t i [.fz (.dict [])]):=by
 refine dX (v:= .t (.tuple [aF D.order D.f0,.dict []])) (E:=aX X [(S "told_of",cn D)] none none none (some (au D)) t i [.fz (.dict [])]) rfl ?_ ?_ (wC (vs:=[.t (aF D.order D.f0),.own 6]) (ts:=[aF D.order D.f0,.dict []]) (E:=aX X [(S "told_of",cn D)] none none none (some (au D)) t i [.dict []])
  (bx (E:=aX X [(S "told_of",cn D)] none none none (some (au D)) t i []) (aO (fv:= .t (.top 644)) (vs:=[cn D]) ?_ ?_ ?_ ?_ (iJ ?_ ?_)) (bx ?_ cb)) ?_ (show 2<1000 by decide)) ?_
 .rfl
 .lk
 .rfl
 .lk
 .lk
 .lk
 .rfl
 .exact PL _ _
 .lk
 .lk
 .lk
def w3(D:ah)(g:Int->Bool):List (Str×V):=[(S "told_of",cn D),(S "states",.t (aF D.order g))]
def w4(D:ah)(g:Int->Bool)(z:Str):List (Str×V):=[(S "told_of",cn D),(S "states",.t (aF D.order g)),(S "begun",.t (.str z))]
set_option tactic.hygienic true in
theorem PU{g:Int->Bool}{K:T}{o:MO}:(R kL 48).ex (bX 3) aH (aX X (w3 D g) none (some (.t K)) none (some (au D)) t i [o])=some (.ok .next,aX X (w4 D g (cC D.order g)) none (some (.t K)) none (some (au D)) t i [o]):=by
 refine dX (v:= .t (.str (cC D.order g))) (E:=aX X (w3 D g) none (some (.t K)) none (some (au D)) t i [o]) rfl ?_ ?_ (aO (fv:= .t (.top 649)) (vs:=[cn D,.t (aF D.order g)]) ?_ ?_ ?_ ?_ (iJ ?_ ?_)) ?_
 .rfl
 .lk
 .rfl
 .lk
 .lk
 .lk
 .rfl
 .exact(sZ _ _).trans tc
 .lk
set_option tactic.hygienic true in
theorem PV(h:D.st=0){g:Int->Bool}{K:T}{o:MO}(hg:cX D K=some g):(R kL 48).ex (bX 4) aH (aX X (w4 D g (cC D.order g)) none (some (.t K)) none (some (au D)) t i [o])=some (.ok .next,aX X (w4 D g (cC D.order g)) none (some (.t K)) none (some (au D)) t i [o]):=by
 refine i0 (ey (v:= .t (.str (D.txt g))) (u:= .t (.str (cC D.order g))) (E:=aX X (w4 D g (cC D.order g)) none (some (.t K)) none (some (au D)) t i [o]) (O2:=aX X (w4 D g (cC D.order g)) none (some (.t K)) none (some (au D)) t i [o])
  (aO (fv:= .t (.top 595)) (vs:=[au D,.t K]) (E:=aX X (w4 D g (cC D.order g)) none (some (.t K)) none (some (au D)) t i [o]) ?_ ?_ ?_ ?_ (iJ ?_ ?_)) ?_ ((ly rfl rfl).trans ?_)) gm
 .rfl
 .lk
 .lk
 .lk
 .rfl
 .exact(pZ _ _).trans (Dq hg)
 .lk
 .rw[ta (.inl h),decide_eq_true rfl];rfl
end
section
variable {c:aN}{n:Nat}{e:AE}{O E O2 O3:af}{r:aG}
theorem Dr{ps:Arguments}(hk:O[k]? =some (.clo ps j sc q cl))(hp:(gg ps&&gV sc)=true)(hb:d8 ps.args be []=some H)
  (he:nX sc q cl H O=some (.ok e,E))(hr:(R c n).ev j e E=some (.error C,O2)):(R c (n+1)).call (.own k) be O=some (.error C,O2):=by
 show bm (bw k) (λQ=>match Q with
  | .clo ps b sc q cl=>if gg ps&&gV sc then bm (om (d8 ps.args be [])) λH=>dS (R c n) sc q 0 cl H ((R c n).ev b) else λ_=>none
  |_=>λ_=>none) O=_
 refine a0 (az (show bw k O=some (.ok (.clo ps j sc q cl),O) by unfold bw;exact rwm _ rfl hk)) ?_;show(if gg ps&&gV sc then bm (om (d8 ps.args be [])) λH=>dS (R c n) sc q 0 cl H ((R c n).ev j) else λ_=>none:MM V) O=_;refine rwm _ (rwm _ (rwm _ ?_ hb) (ec rfl)) hp;show dS (R c n) sc q 0 cl H ((R c n).ev j) O=_;have f:dS (R c n) sc q 0 cl H ((R c n).ev j) O=bm (nX sc q cl H) (λe=>bm ((R c n).ev j e) λv=>fw O.length v) O:=by
  unfold dS nX;refine rwm _ ?_ dw
  congr 1
  funext lh
  refine rwm _ ?_ dw
  congr 1
  funext cl
  refine rwm _ ?_ dw;rfl
 refine a0 f (rwm _ ?_ (az he));unfold bm;exact rwm _ rfl hr
set_option tactic.hygienic true in
theorem Ds(hx:ig x=true)(h:(R c n).ev x e O=some (.error C,E)):(R c (n+1)).ex (.Expr x p) e O=some (.error C,E):=by
 show(if ig x then bm ((R c n).ev x e) λ_=>pm .next else λ_=>none:MM Fl) O=_;refine rwm _ (rwm _ ?_ (ec rfl)) hx;unfold bm;exact rwm _ rfl h
theorem Dt(h:aR (R c n) e j O=some (.error C,E))(h2:gU (Pc c) e C (h0::hs) E=B):(R c (n+1)).ex (.Try j (h0::hs) [] [] p) e O=B:=by
 show(match aR (R c n) e j O with
   |some (.error C,M)=>gU (Pc c) e C (h0::hs) M
   |x=>x)=_
 refine rwm _ ?_ h;exact h2
end
noncomputable def Du:Stmt->List Stmt
 | .Try b _ _ _ _=>b
 |_=>[]
noncomputable def oi:Stmt->List ExceptHandler
 | .Try _ h _ _ _=>h
 |_=>[]
noncomputable def Dv:Stmt->List Stmt
 | .If _ _ b _=>b
 |_=>[]
def gJ:List Stmt:=dy (bX 5)
def I5:Stmt:=an gJ 2
def cH:Stmt:=an (nN I5) 0
def mF:Stmt:=an (Dv I5) 0
def cI:Stmt:=an (nN mF) 0
def FE(J:Stmt):Expr:=aY (a7 (bV J)) 0
def LE(J:Stmt):Expr:=aY (a7 (FE J)) 1
def td(x:Expr):List (Str×Nat):=(((iw x).names.filter λp=>p.2== .free).reverse.mapM λp=>(aH.cells.lookup p.1).map λc=>(p.1,c)).getD []
def te:Str:=S "law"++nm ".<locals>."++nm "<lambda>"
def bJ(x:Expr):MO:=wx x te (td x)
def wl(C:Addr):Str:=if C=71 then S "desk" else S "draft"
def oj:AE:=⟨aV (at_ 67),8,[],S "_law_fault"++nm ".<locals>.",662⟩
def jl:List Stmt:=ba (at_ 67)
def tf(x:Expr):AE:=⟨iw x,9,td x,te++nm ".<locals>.",0⟩
def qa(i:Nat):T:=match i with
 |5=> .str (S "x")
 |i=> .int (10+3*(i:Int))
def w6(D:ah)(g:Int->Bool)(z:Str)(u:List (Str×V)):List (Str×V):=w4 D g z++u
def uT(a:Int)(i j:Nat):List (Str×V):=[(S "turn",.t (.int a)),(S "way",.t (.str (fb j))),(S "number",.t (qa i))]
def fJ(u:List (Str×V)):Prop:=u=[]\/∃a i j,u=uT a i j
section
variable {D:ah}{X t K:T}{i:Int}{w:List (Str×V)}{I:Str}{o:T}{C:Addr}{Y:af}{g:Int->Bool}{z:Str}{a:Int}{p q:Nat}
def aP(X:T)(w:List (Str×V))(K:T)(I:Str)(D:ah)(t:T)(i:Int)(o:T):af:=aX X w none (some (.t K)) (some (.t (.str I))) (some (au D)) t i [.fz o]
theorem PX(hC:C=71\/C=59)(hc:mu [au D,.t K,.t (.str I)] []=some (some (.error C,Y))):
  (R kL 44).ev (FE cH) aH (aP X (w6 D g z (uT a p q)) K I D t i o)=some (.ok (.t (.str (wl C))),aP X (w6 D g z (uT a p q)) K I D t i o++[bJ (LE cH)]):=by
 have hb:(R kL 38).ev (lx (LE cH)) (tf (LE cH)) (aP X (w6 D g z (uT a p q)) K I D t i o++[bJ (LE cH),.ns true [(S "deed",.own 7)],.ns true []])=some (.error C,aP X (w6 D g z (uT a p q)) K I D t i o++[bJ (LE cH),.ns true [(S "deed",.own 7)],.ns true []]):=by
  refine aO (fv:= .t (.top 602)) (vs:=[au D,.t K,.t (.str I)]) (E:=aP X (w6 D g z (uT a p q)) K I D t i o++[bJ (LE cH),.ns true [(S "deed",.own 7)],.ns true []]) ?_ ?_ ?_ ?_ (vE (p:=⟨[],[]⟩) (bi:=[au D,.t K,.t (.str I)]) (X:=Y) ?_ ?_ rfl)
  .rfl
  .lk
  .lk
  .lk
  .rfl
  .exact(wQ _ _).trans hc
 have cr:(R kL 39).call (.own 7) [] (aP X (w6 D g z (uT a p q)) K I D t i o++[bJ (LE cH),.ns true [(S "deed",.own 7)]])=some (.error C,aP X (w6 D g z (uT a p q)) K I D t i o++[bJ (LE cH),.ns true [(S "deed",.own 7)],.ns true []]):=by
  refine Dr (ps:=sL (LE cH)) (j:=lx (LE cH)) (sc:=iw (LE cH)) (q:=te) (cl:=td (LE cH)) (H:=[]) (e:=tf (LE cH)) (E:=aP X (w6 D g z (uT a p q)) K I D t i o++[bJ (LE cH),.ns true [(S "deed",.own 7)],.ns true []]) ?_ ?_ ?_ ?_ ?_
  .lk
  .lk
  .lk
  .lk
  .exact hb
 have ht:aR (R kL 41) oj (Du (an jl 0)) (aP X (w6 D g z (uT a p q)) K I D t i o++[bJ (LE cH),.ns true [(S "deed",.own 7)]])=some (.error C,aP X (w6 D g z (uT a p q)) K I D t i o++[bJ (LE cH),.ns true [(S "deed",.own 7)],.ns true []]):=by
  refine jU (Ds ?_ (aO (fv:= .own 7) (vs:=[]) (E:=aP X (w6 D g z (uT a p q)) K I D t i o++[bJ (LE cH),.ns true [(S "deed",.own 7)]]) ?_ ?_ ?_ ?_ cr))
  .rfl
  .rfl
  .lk
  .lk
  .lk
 have hh:gU (Pc kL) oj C (oi (an jl 0)) (aP X (w6 D g z (uT a p q)) K I D t i o++[bJ (LE cH),.ns true [(S "deed",.own 7)],.ns true []])=some (.ok (.ret (.t (.str (wl C)))),aP X (w6 D g z (uT a p q)) K I D t i o++[bJ (LE cH),.ns true [(S "deed",.own 7)],.ns true []]):=by
  (refine a2 hC (λzz=>?_) (λzz=>?_);(try clear hC);clear hc hb cr;subst zz;rotate_left;(try clear hC);clear hc hb cr;subst zz;rotate_right)<;>lk
 refine aO (fv:= .t (.top 663)) (vs:=[.own 7]) (E:=aP X (w6 D g z (uT a p q)) K I D t i o++[bJ (LE cH)]) ?_ ?_ ?_ ?_ (kI (e:=oj) (H:=[(S "deed",.own 7)]) (E:=aP X (w6 D g z (uT a p q)) K I D t i o++[bJ (LE cH),.ns true [(S "deed",.own 7)]]) (O2:=aP X (w6 D g z (uT a p q)) K I D t i o++[bJ (LE cH),.ns true [(S "deed",.own 7)],.ns true []]) (v:= .t (.str (wl C))) (st:=at_ 67) (q:=S "_law_fault") (d:=[]) (c6:=662) ?_ ?_ ?_ ?_ ?_ ?_ ?_)
 .rfl
 .lk
 .lk
 .lk
 .lk
 .lk
 .rfl
 .lk
 .lk
 .exact ci (s:=an jl 0) (Dt (h0:=(oi (an jl 0)).headD (.ExceptHandler none none [] ⟨0,0,0,0⟩)) (hs:=(oi (an jl 0)).tail) ht hh)
 .lk
theorem PY(hC:C=71\/C=59)(hc:mu [au D,.t K,.t (.str I)] []=some (some (.error C,Y))):
  (R kL 43).ev (FE cI) aH (aP X (w6 D g z (uT a p q)) K I D t i o)=some (.ok (.t (.str (wl C))),aP X (w6 D g z (uT a p q)) K I D t i o++[bJ (LE cI)]):=by
 have hb:(R kL 37).ev (lx (LE cI)) (tf (LE cI)) (aP X (w6 D g z (uT a p q)) K I D t i o++[bJ (LE cI),.ns true [(S "deed",.own 7)],.ns true []])=some (.error C,aP X (w6 D g z (uT a p q)) K I D t i o++[bJ (LE cI),.ns true [(S "deed",.own 7)],.ns true []]):=by
  refine aO (fv:= .t (.top 602)) (vs:=[au D,.t K,.t (.str I)]) (E:=aP X (w6 D g z (uT a p q)) K I D t i o++[bJ (LE cI),.ns true [(S "deed",.own 7)],.ns true []]) ?_ ?_ ?_ ?_ (vE (p:=⟨[],[]⟩) (bi:=[au D,.t K,.t (.str I)]) (X:=Y) ?_ ?_ rfl)
  .rfl
  .lk
  .lk
  .lk
  .rfl
  .exact(wQ _ _).trans hc
 have cr:(R kL 38).call (.own 7) [] (aP X (w6 D g z (uT a p q)) K I D t i o++[bJ (LE cI),.ns true [(S "deed",.own 7)]])=some (.error C,aP X (w6 D g z (uT a p q)) K I D t i o++[bJ (LE cI),.ns true [(S "deed",.own 7)],.ns true []]):=by
  refine Dr (ps:=sL (LE cI)) (j:=lx (LE cI)) (sc:=iw (LE cI)) (q:=te) (cl:=td (LE cI)) (H:=[]) (e:=tf (LE cI)) (E:=aP X (w6 D g z (uT a p q)) K I D t i o++[bJ (LE cI),.ns true [(S "deed",.own 7)],.ns true []]) ?_ ?_ ?_ ?_ ?_
  .lk
  .lk
  .lk
  .lk
  .exact hb
 have ht:aR (R kL 40) oj (Du (an jl 0)) (aP X (w6 D g z (uT a p q)) K I D t i o++[bJ (LE cI),.ns true [(S "deed",.own 7)]])=some (.error C,aP X (w6 D g z (uT a p q)) K I D t i o++[bJ (LE cI),.ns true [(S "deed",.own 7)],.ns true []]):=by
  refine jU (Ds ?_ (aO (fv:= .own 7) (vs:=[]) (E:=aP X (w6 D g z (uT a p q)) K I D t i o++[bJ (LE cI),.ns true [(S "deed",.own 7)]]) ?_ ?_ ?_ ?_ cr))
  .rfl
  .rfl
  .lk
  .lk
  .lk
 have hh:gU (Pc kL) oj C (oi (an jl 0)) (aP X (w6 D g z (uT a p q)) K I D t i o++[bJ (LE cI),.ns true [(S "deed",.own 7)],.ns true []])=some (.ok (.ret (.t (.str (wl C)))),aP X (w6 D g z (uT a p q)) K I D t i o++[bJ (LE cI),.ns true [(S "deed",.own 7)],.ns true []]):=by
  (refine a2 hC (λzz=>?_) (λzz=>?_);(try clear hC);clear hc hb cr;subst zz;rotate_left;(try clear hC);clear hc hb cr;subst zz;rotate_right)<;>lk
 refine aO (fv:= .t (.top 663)) (vs:=[.own 7]) (E:=aP X (w6 D g z (uT a p q)) K I D t i o++[bJ (LE cI)]) ?_ ?_ ?_ ?_ (kI (e:=oj) (H:=[(S "deed",.own 7)]) (E:=aP X (w6 D g z (uT a p q)) K I D t i o++[bJ (LE cI),.ns true [(S "deed",.own 7)]]) (O2:=aP X (w6 D g z (uT a p q)) K I D t i o++[bJ (LE cI),.ns true [(S "deed",.own 7)],.ns true []]) (v:= .t (.str (wl C))) (st:=at_ 67) (q:=S "_law_fault") (d:=[]) (c6:=662) ?_ ?_ ?_ ?_ ?_ ?_ ?_)
 .rfl
 .lk
 .lk
 .lk
 .lk
 .lk
 .rfl
 .lk
 .lk
 .exact ci (s:=an jl 0) (Dt (h0:=(oi (an jl 0)).headD (.ExceptHandler none none [] ⟨0,0,0,0⟩)) (hs:=(oi (an jl 0)).tail) ht hh)
 .lk
def th:List T:=[.int 10,.int 13,.int 16,.int 19,.int 22,.str (S "x")]
def tj:List T:=[.str (S "on"),.str (S "off"),.str (S "of"),.str (S ""),.str (S "on on")]
theorem wS{k:Nat}{P:Int->Prop}(h:∀n:Nat,n<k->P n){d:Int}(hd:0<=d/\d<k):P d:=by
 (refine ag (pb hd.1) λn bo=>?_;subst bo);exact h n (Int.ofNat_lt.mp hd.2)
theorem PZ{d:Int}(h:0<=d/\d<6):dR (.tuple th) (.int d)=some (qa d.toNat):=wS (P:=λd=>dR (.tuple th) (.int d)=some (qa d.toNat)) (λ
 |0,_=>rfl|1,_=>rfl|2,_=>rfl|3,_=>rfl|4,_=>rfl|5,_=>rfl|n+6,h=>absurd h (Nat.not_lt.mpr (ot 6 n))) h
theorem P0{d:Int}(h:0<=d/\d<5):dR (.tuple tj) (.int d)=some (.str (fb d.toNat)):=wS (P:=λd=>dR (.tuple tj) (.int d)=some (.str (fb d.toNat))) (λ
 |0,_=>rfl|1,_=>rfl|2,_=>rfl|3,_=>rfl|4,_=>rfl|n+5,h=>absurd h (Nat.not_lt.mpr (ot 5 n))) h
end
set_option tactic.hygienic true in
theorem P1{c:aN}{d:List Str}{ts:List T}(hs:noStar tg=true)(hx:ij (R c n) e tg x=bm ((R c n).ev x e) λv=>lT (R c n) e tg v (fS e tg x))(hw:fS e tg x=some (some d))(h1:(R c n).ev x e O=some (.ok (.t (.tuple ts)),E))
  (hl:ts.length=d.length)(h2:kn e d.reverse ts.reverse E=some (.ok (),O2)):(R c (n+1)).ex (.Assign [tg] x p) e O=some (.ok .next,O2):=by
 refine pd hs ?_;refine rwm _ (rwm _ (rwm _ ?_ hw) (az h1)) hx;show(if ts.length=d.length then kn e d.reverse ts.reverse else λ_=>none:MM Unit) E=_;refine rwm _ ?_ (ec hl);exact h2
section
variable {D:ah}{X K:T}{g:Int->Bool}{z:Str}{l:Option V}{o:T}{ns:List Int}
set_option tactic.hygienic true in
theorem P2(hn:ns≠[])(hl:ns.length<=50)(hi:0<=i/\i<900)(hu:u=[(S "turn",.t (.int a))]\/∃b i j,u=uT b i j/\b=a):
  (R kL 47).ex (an gJ 0) aH (aX X (w6 D g z u) none (some (.t K)) l (some (au D)) (ak ns) i [.fz o])=some (.ok .next,aX X (w6 D g z (uT a (drawn ns i 6).toNat (drawn ns (i+1) 5).toNat)) none (some (.t K)) l (some (au D)) (ak ns) (i+1+1) [.fz o]):=by
 have B:=gC ns i (m:=6) (by decide);have v:=gC ns (i+1) (m:=5) (by decide);have k:=pI (ns:=ns) (H:=[]) (λp hp=>nomatch hp) (i:=i) (m:=6) ⟨hi.1,Ec hi,by decide⟩;have ft:=pI (ns:=ns) (H:=[]) (λp hp=>nomatch hp) (i:=i+1) (m:=5) ⟨Int.le_of_lt (Int.lt_add_one_of_le hi.1),Ed hi,by decide⟩;have f:=PZ B;have c:=P0 v;generalize drawn ns i 6=r at k f;generalize drawn ns (i+1) 5=n at ft c;have e1:(R kL 46).ev (bV (an gJ 0)) aH (aX X (w6 D g z u) none (some (.t K)) l (some (au D)) (ak ns) i [.fz o])=some (.ok (.t (.tuple [qa r.toNat,.str (fb n.toNat)])),aX X (w6 D g z u) none (some (.t K)) l (some (au D)) (ak ns) (i+1+1) [.fz o]):=by
  refine nI (E:=aX X (w6 D g z u) none (some (.t K)) l (some (au D)) (ak ns) (i+1) [.fz o])
   (nG (M:= .t (.tuple th)) (t:= .tuple th) (it:= .int r) (E:=aX X (w6 D g z u) none (some (.t K)) l (some (au D)) (ak ns) i [.fz o]) ?_ ?_ (aO (fv:= .t (.top 624)) (vs:=[.own 5,.t (.int 6)]) (E:=aX X (w6 D g z u) none (some (.t K)) l (some (au D)) (ak ns) i [.fz o]) ?_ ?_ ?_ ?_ (cm (p:=⟨[5],[.list [c0 [] (ak ns),.int i]]⟩) (bi:=[.own 0,.t (.int 6)]) (X:=[.list [c0 [] (ak ns),.int (i+1)]]) ?_ ?_ ?_)) rfl f)
   (nG (M:= .t (.tuple tj)) (t:= .tuple tj) (it:= .int n) (E:=aX X (w6 D g z u) none (some (.t K)) l (some (au D)) (ak ns) (i+1) [.fz o]) ?_ ?_ (aO (fv:= .t (.top 624)) (vs:=[.own 5,.t (.int 5)]) (E:=aX X (w6 D g z u) none (some (.t K)) l (some (au D)) (ak ns) (i+1) [.fz o]) ?_ ?_ ?_ ?_ (cm (p:=⟨[5],[.list [c0 [] (ak ns),.int (i+1)]]⟩) (bi:=[.own 0,.t (.int 5)]) (X:=[.list [c0 [] (ak ns),.int (i+1+1)]]) ?_ ?_ ?_)) rfl c)
  .rfl
  ·(refine a2 hu (λzz=>?_) (λzz=>?_);(try clear hu);subst zz;rotate_left;(try clear hu);refine a9 zz λb p q c3=>ac c3 λc2 bo=>?_;clear c3;subst c2;subst bo;rotate_right)<;>lk
  .rfl
  .lk
  ·(refine a2 hu (λzz=>?_) (λzz=>?_);(try clear hu);subst zz;rotate_left;(try clear hu);refine a9 zz λb p q c3=>ac c3 λc2 bo=>?_;clear c3;subst c2;subst bo;rotate_right)<;>lk
  .lk
  ·(refine a2 hu (λzz=>?_) (λzz=>?_);(try clear hu);subst zz;rotate_left;(try clear hu);refine a9 zz λb p q c3=>ac c3 λc2 bo=>?_;clear c3;subst c2;subst bo;rotate_right)<;>lk
  .exact(sY _ _).trans k
  ·(refine a2 hu (λzz=>?_) (λzz=>?_);(try clear hu);subst zz;rotate_left;(try clear hu);refine a9 zz λb p q c3=>ac c3 λc2 bo=>?_;clear c3;subst c2;subst bo;rotate_right)<;>lk
  .rfl
  ·(refine a2 hu (λzz=>?_) (λzz=>?_);(try clear hu);subst zz;rotate_left;(try clear hu);refine a9 zz λb p q c3=>ac c3 λc2 bo=>?_;clear c3;subst c2;subst bo;rotate_right)<;>lk
  .rfl
  .lk
  ·(refine a2 hu (λzz=>?_) (λzz=>?_);(try clear hu);subst zz;rotate_left;(try clear hu);refine a9 zz λb p q c3=>ac c3 λc2 bo=>?_;clear c3;subst c2;subst bo;rotate_right)<;>lk
  .lk
  ·(refine a2 hu (λzz=>?_) (λzz=>?_);(try clear hu);subst zz;rotate_left;(try clear hu);refine a9 zz λb p q c3=>ac c3 λc2 bo=>?_;clear c3;subst c2;subst bo;rotate_right)<;>lk
  .exact(sY _ _).trans ft
  ·(refine a2 hu (λzz=>?_) (λzz=>?_);(try clear hu);subst zz;rotate_left;(try clear hu);refine a9 zz λb p q c3=>ac c3 λc2 bo=>?_;clear c3;subst c2;subst bo;rotate_right)<;>lk
 refine P1 (tg:=jQ (an gJ 0)) (x:=bV (an gJ 0)) (d:=[S "number",S "way"]) rfl ?_ ?_ e1 rfl ?_
 .rfl
 .lk
 ·(refine a2 hu (λzz=>?_) (λzz=>?_);(try clear hu);clear e1;subst zz;rotate_left;(try clear hu);refine a9 zz λb p q c3=>ac c3 λc2 bo=>?_;clear c3;clear e1 zz;subst c2;subst bo;rotate_right)<;>lk
end
def P3(c:aN)(n:Nat)(x:Expr)(e:AE)(O:af):Option (Except Addr Bool×af):=(R c n).test x e O
noncomputable def j1(i j:Nat):Bool:=Nat.ble 2 j||Nat.beq i 5
set_option tactic.hygienic true in
theorem P4(D:ah)(g:Int->Bool)(X K t o:T)(z:Str)(a G:Int)(l:Option V):lp.map (λi=>fD.map λj=>mj kL 47 (an gJ 1) aH (aX X (w6 D g z (uT a i j)) none (some (.t K)) l (some (au D)) t G [.fz o]))=
  eO (λi=>eO (λj=>some (.ok .next,aP X (w6 D g z (uT a i j)) K (bR i j) D t G o)) fD) lp:=by lk
theorem P5(D:ah)(g:Int->Bool)(X K t o:T)(z I:Str)(a G:Int):lp.map (λi=>fD.map λj=>P3 kL 46 (bV I5) aH (aP X (w6 D g z (uT a i j)) K I D t G o))=
  eO (λi=>eO (λj=>some (.ok (j1 i j),aP X (w6 D g z (uT a i j)) K I D t G o)) fD) lp:=by lk
section
variable {D:ah}{X t K:T}{G:Int}{I:Str}{o:T}{g:Int->Bool}{z:Str}{a:Int}{i j:Nat}
set_option tactic.hygienic true in
theorem P6(hi:i<6)(hj:j<5):(R kL 47).ex (an gJ 1) aH (aX X (w6 D g z (uT a i j)) none (some (.t K)) l (some (au D)) t G [.fz o])=some (.ok .next,aP X (w6 D g z (uT a i j)) K (bR i j) D t G o):=by
 exact fe (fe (P4 D g X K t o z a G l) (we hi)) (mt hj)
theorem wT(hi:i<6)(hj:j<5):(R kL 46).test (bV I5) aH (aP X (w6 D g z (uT a i j)) K I D t G o)=some (.ok (j1 i j),aP X (w6 D g z (uT a i j)) K I D t G o):=by
 exact fe (fe (P5 D g X K t o z I a G) (we hi)) (mt hj)
theorem Dw(h:br k6 40 602 [au D,.t K,.t (.str s)] []=some (.error C,Y)):mu [au D,.t K,.t (.str s)] []=some (some (.error C,Y)):=by
 show nz (br k6 40 602 [au D,.t K,.t (.str s)] [])=_;refine rwm _ ?_ h;rfl
theorem P7(h:br k6 40 602 [au D,.t K,.t (.str s)] []=some (.ok (.t u),Y)):mu [au D,.t K,.t (.str s)] []=some (some (.ok u,Y)):=by
 show nz (br k6 40 602 [au D,.t K,.t (.str s)] [])=_;refine rwm _ ?_ h;rfl
set_option tactic.hygienic true in
theorem P8(h:D.Wf)(hg:cX D K=some g)(hi:i<6)(hj:j<5)(hb:j1 i j=true):(R kL 47).ex I5 aH (aP X (w6 D g z (uT a i j)) K (bR i j) D t G o)=some (.ok .next,aP X (w6 D g z (uT a i j)) K (bR i j) D t G o++[bJ (LE cH)]):=by
 have h1:=wT (D:=D) (X:=X) (t:=t) (K:=K) (G:=G) (I:=bR i j) (o:=o) (g:=g) (z:=z) (a:=a) hi hj;rw[hb] at h1;have hc:2<=j\/i=5:=by
  unfold j1 at hb;rw[Bool.or_eq_true] at hb;rcases hb with hb|hb
  .exact .inl (a4 hb)
  .exact .inr (ii hb)
 refine ag (M3 h hg hi hj hc) λY f=>?_;refine jJ h1 (bv (i0 (E:=aP X (w6 D g z (uT a i j)) K (bR i j) D t G o++[bJ (LE cH)]) (ey (v:= .t (.str (wl 71))) (u:= .t (.str (S "desk"))) (O2:=aP X (w6 D g z (uT a i j)) K (bR i j) D t G o++[bJ (LE cH)]) (PX (X:=X) (t:=t) (i:=G) (o:=o) (g:=g) (z:=z) (a:=a) (p:=i) (q:=j) (.inl rfl) (Dw f)) ?_ ((ly rfl rfl).trans ?_)) gm))
 .lk
 .refine rwm _ (rwm _ ?_ (iv rfl)) (show wl 71=S "desk" from rfl);rfl
theorem Dx(hi:i<6)(hj:j<5)(hb:j1 i j=false):i<5/\j<2:=by
 unfold j1 at hb;rw[Bool.or_eq_false_iff] at hb;refine⟨?_,?_⟩
 .have:i≠5:=λe=>by subst e;cases hb.2
  exact Nat.lt_of_le_of_ne (i5 hi) this
 .clear hj;rcases j with _|_|j
  .exact ot _ _
  .exact hY _
  .have:=hb.1;have e:Nat.ble 2 (j+2)=true:=Nat.ble_eq_true_of_le (ot _ _);rw[e] at this;exact tff this
theorem Dy(h:i<5):qa i= .int (10+3*(i:Int)):=by
 rcases i with _|_|_|_|_|i<;>first|rfl|lia
theorem Dz(hi:i<5):(R kL 45).test (bV mF) aH (aP X (w6 D g z (uT a i j)) K I D t G o)=some (.ok (!decide (10+3*(i:Int)∈D.order)||dW (10+3*(i:Int)) D.lk),aP X (w6 D g z (uT a i j)) K I D t G o):=by
 have e:uT a i j=[(S "turn",.t (.int a)),(S "way",.t (.str (fb j))),(S "number",.t (.int (10+3*(i:Int))))]:=by unfold uT;exact rwm _ rfl (Dy hi)
 refine rwm _ ?_ e;generalize 10+3*(i:Int)=n;generalize Y:aP X (w6 D g z [(S "turn",.t (.int a)),(S "way",.t (.str (fb j))),(S "number",.t (.int n))]) K I D t G o=O;have h1:(R kL 44).test (aY (a7 (bV mF)) 0) aH O=some (.ok (!decide (n∈D.order)),O):=by
  subst Y;refine ey (v:= .t (.int n)) (u:= .t (aF D.order g)) (E:=aP X (w6 D g z [(S "turn",.t (.int a)),(S "way",.t (.str (fb j))),(S "number",.t (.int n))]) K I D t G o) (O2:=aP X (w6 D g z [(S "turn",.t (.int a)),(S "way",.t (.str (fb j))),(S "number",.t (.int n))]) K I D t G o) ?_ ?_ (vM (x:= .int n) (y:=aS D.order g) rfl rfl rV)
  .lk
  .lk
 have h2:(R kL 44).test (aY (a7 (bV mF)) 1) aH O=some (.ok (dW n D.lk),O):=by
  subst Y;refine ey (v:= .t (.int n)) (u:= .t (ak D.lk)) (E:=aP X (w6 D g z [(S "turn",.t (.int a)),(S "way",.t (.str (fb j))),(S "number",.t (.int n))]) K I D t G o) (O2:=aP X (w6 D g z [(S "turn",.t (.int a)),(S "way",.t (.str (fb j))),(S "number",.t (.int n))]) K I D t G o) ?_ ?_ (vN (x:= .int n) (y:=ak D.lk) rfl rfl (nC n D.lk))
  .lk
  .lk
 cases hd:decide (n∈D.order) with
 |false=>
  rw[hd] at h1;exact K8 h1
 |true=>
  rw[hd] at h1;exact vB h1 (l0 h2)
set_option tactic.hygienic true in
theorem P9(h:D.Wf)(h0:D.st=0)(hg:cX D K=some g)(hi:i<6)(hj:j<5)(hb:j1 i j=false)(b:¬(10+3*(i:Int)∈D.order/\10+3*(i:Int)∉D.lk)):(R kL 47).ex I5 aH (aP X (w6 D g z (uT a i j)) K (bR i j) D t G o)=some (.ok .next,aP X (w6 D g z (uT a i j)) K (bR i j) D t G o++[bJ (LE cI)]):=by
 have h1:=wT (D:=D) (X:=X) (t:=t) (K:=K) (G:=G) (I:=bR i j) (o:=o) (g:=g) (z:=z) (a:=a) hi hj;rw[hb] at h1;refine ac (Dx hi hj hb) λc d=>?_;have h2:=Dz (D:=D) (X:=X) (t:=t) (K:=K) (G:=G) (I:=bR i j) (o:=o) (g:=g) (z:=z) (a:=a) (j:=j) c;have e2:(!decide (10+3*(i:Int)∈D.order)||dW (10+3*(i:Int)) D.lk)=true:=by
  by_cases hm:10+3*(i:Int)∈D.order
  .have hk:=p9 λhk=>b ⟨hm,hk⟩;rw[Bt hk,Bool.or_true]
  .refine rwm _ ?_ (li hm);rfl
 rw[e2] at h2;(refine ag (M4 h hg c d (by refine rwm _ ?_ (ja (.inl h0));exact b)) λY f=>?_);refine i0 h1 (bv (s:=mF) (jJ h2 (bv (i0 (E:=aP X (w6 D g z (uT a i j)) K (bR i j) D t G o++[bJ (LE cI)]) (ey (v:= .t (.str (wl 59))) (u:= .t (.str (S "draft"))) (O2:=aP X (w6 D g z (uT a i j)) K (bR i j) D t G o++[bJ (LE cI)]) (PY (X:=X) (t:=t) (i:=G) (o:=o) (g:=g) (z:=z) (a:=a) (p:=i) (q:=j) (.inr rfl) (Dw f)) ?_ ((ly rfl rfl).trans ?_)) gm))))
 .lk
 .refine rwm _ (rwm _ ?_ (iv rfl)) (show wl 59=S "draft" from rfl);rfl
def A5:Stmt:=an (Dv mF) 0
theorem Qa(D:ah)(g:Int->Bool)(X K t o:T)(z I:Str)(a G n:Int):[0,1].map (λj=>sg kL 42 (aY (a7 (aY (a7 (bV A5)) 0)) 4) aH (aP X (w6 D g z [(S "turn",.t (.int a)),(S "way",.t (.str (fb j))),(S "number",.t (.int n))]) K I D t G o))=
  eO (λj=>some (.ok (.t (.bool (Nat.beq j 0))),aP X (w6 D g z [(S "turn",.t (.int a)),(S "way",.t (.str (fb j))),(S "number",.t (.int n))]) K I D t G o)) [0,1]:=by lk
set_option tactic.hygienic true in
theorem Qb(h:D.Wf)(h0:D.st=0)(hg:cX D K=some g)(hi:i<6)(hj:j<5)(hb:j1 i j=false)(hm:10+3*(i:Int)∈D.order)(hk:10+3*(i:Int)∉D.lk):
  (R kL 47).ex I5 aH (aP X (w6 D g z (uT a i j)) K (bR i j) D t G o)=some (.ok .next,aP X (w6 D (eL D.rows g (10+3*(i:Int)) (Nat.beq j 0)) z (uT a i j)) (aF D.all (eL D.rows g (10+3*(i:Int)) (Nat.beq j 0))) (bR i j) D t G o):=by
 have h1:=wT (D:=D) (X:=X) (t:=t) (K:=K) (G:=G) (I:=bR i j) (o:=o) (g:=g) (z:=z) (a:=a) hi hj;rw[hb] at h1;refine ac (Dx hi hj hb) λc d=>?_;have h2:=Dz (D:=D) (X:=X) (t:=t) (K:=K) (G:=G) (I:=bR i j) (o:=o) (g:=g) (z:=z) (a:=a) (j:=j) c;rw[decide_eq_true hm,rM hk] at h2;have f:=P7 (M5 h hg c d (by refine rwm _ ?_ (ja (.inl h0));exact hm) hk);have hw:=fe (Qa D g X K t o z (bR i j) a G (10+3*(i:Int))) (wf d);have e:uT a i j=[(S "turn",.t (.int a)),(S "way",.t (.str (fb j))),(S "number",.t (.int (10+3*(i:Int))))]:=by unfold uT;exact rwm _ rfl (Dy c)
 have b:sd [cn D,.t (aF D.order g),.t (.int (10+3*(i:Int))),.t (.bool (Nat.beq j 0))] []=yes (aF D.order (eL D.rows g (10+3*(i:Int)) (Nat.beq j 0))) []:=fW (p:=D.order=D.order/\10+3*(i:Int)∈D.order) ⟨rfl,hm⟩;refine i0 h1 (bv (s:=mF) (i0 h2 (bv (s:=A5) ?_)));refine rwm _ ?_ e;generalize w:eL D.rows g (10+3*(i:Int)) (Nat.beq j 0)=b6 at f b;generalize hn:(10+3*(i:Int))=n at hw b;generalize Nat.beq j 0=k at hw b;generalize fb j=l at hw;generalize bR i j=I at hw f;generalize Y:aP X (w6 D g z [(S "turn",.t (.int a)),(S "way",.t (.str l)),(S "number",.t (.int n))]) K I D t G o=O at hw;have q:(R kL 44).ev (bV A5) aH O=some (.ok (.t (.tuple [aF D.order b6,aF D.all b6])),O):=by
  refine nI (E:=O) (aO (fv:= .t (.top 656)) (vs:=[cn D,.t (aF D.order g),.t (.int n),.t (.bool k)]) (E:=O) ?_ ?_ (bx (E:=O) ?_ (bx (E:=O) ?_ (bx (E:=O) ?_ (bx hw cb)))) ?_ (iJ ?_ ((PM _ _).trans b)))
   (aO (fv:= .t (.top 602)) (vs:=[au D,.t K,.t (.str I)]) (E:=O) ?_ ?_ ?_ ?_ (iJ ?_ ((wQ _ _).trans f)))
  .rfl
  .lk
  .clear hw;subst Y;lk
  .clear hw;subst Y;lk
  .clear hw;subst Y;lk
  .lk
  .rfl
  .rfl
  .lk
  .clear hw;subst Y;lk
  .lk
  .rfl
 refine dX (tg:=jQ A5) (x:=bV A5) rfl ?_ ?_ q ?_
 .rfl
 .lk
 .clear hw q;subst Y;lk
end
noncomputable def ol(l:Option V):Prop:=l=none\/∃s,l=some (V.t (.str s))
def wU(y:List MO):Prop:=y=[]\/y=[bJ (LE cH)]\/y=[bJ (LE cI)]
section
variable {D:ah}{X t K:T}{G:Int}{I:Str}{o:T}{g:Int->Bool}{z:Str}{a:Int}{i j:Nat}{y:List MO}
set_option tactic.hygienic true in
theorem Qc(h0:D.st=0)(hg:cX D K=some g)(hc:wU y):(R kL 47).ex (an gJ 3) aH (aP X (w6 D g z (uT a i j)) K I D t G o++y)=some (.ok .next,aP X (w6 D g z (uT a i j)) K I D t G o++y):=by
 generalize Y:aP X (w6 D g z (uT a i j)) K I D t G o++y=O;refine i0 (ey (v:= .t (.str (D.txt g))) (u:= .t (.str (cC D.order g))) (E:=O) (O2:=O)
  (aO (fv:= .t (.top 595)) (vs:=[au D,.t K]) (E:=O) ?_ ?_ ?_ ?_ (iJ ?_ ?_)) (aO (fv:= .t (.top 649)) (vs:=[cn D,.t (aF D.order g)]) (E:=O) ?_ ?_ ?_ ?_ (iJ ?_ ?_)) ((ly rfl rfl).trans ?_)) gm
 .rfl
 .lk
 .subst Y;rcases hc with rfl|rfl|rfl<;>lk
 .lk
 .rfl
 .exact(pZ _ _).trans (Dq hg)
 .rfl
 .lk
 .subst Y;rcases hc with rfl|rfl|rfl<;>lk
 .lk
 .rfl
 .exact(sZ _ _).trans tc
 .rw[ta (.inl h0),decide_eq_true rfl];rfl
theorem Qd{g:Int->Bool}:cX D (aF D.all g)=some g:=by
 show @ite _ (D.all=D.all) (Classical.propDecidable _) (some g) none=some g;exact rwm _ rfl (ec rfl)
theorem Qe(hc:wU y):trunc 7 (aP X (w6 D g z (uT a i j)) K I D t G o++y)=aP X (w6 D g z (uT a i j)) K I D t G o:=by
 rcases hc with rfl|rfl|rfl<;>rfl
set_option tactic.hygienic true in
theorem Qf(h:D.Wf)(h0:D.st=0){ns:List Int}(hn:ns≠[])(hl:ns.length<=50)(hg:cX D K=some g)(hi:0<=G/\G<900)(hu:fJ u):
  ∃b6 f C N,cX D f=some b6/\fJ C/\ol N/\i3 (R kL 47) aH (dx (bX 5)) gJ 7 (.int b) (aX X (w6 D g z u) none (some (.t K)) l (some (au D)) (ak ns) G [.fz o])=some (.ok .next,aX X (w6 D b6 z C) none (some (.t f)) N (some (au D)) (ak ns) (G+1+1) [.fz o]):=by
 have h1:∃k,(k=[(S "turn",.t (.int b))]\/∃c p q,k=uT c p q/\c=b)/\(R kL 47).as (dx (bX 5)) aH (.t (.int b)) (aX X (w6 D g z u) none (some (.t K)) l (some (au D)) (ak ns) G [.fz o])=some (.ok (),aX X (w6 D g z k) none (some (.t K)) l (some (au D)) (ak ns) G [.fz o]):=by
  (refine a2 hu (λzz=>?_) (λzz=>?_);(try clear hu);subst zz;rotate_left;(try clear hu);refine a9 zz λc p q bo=>?_;clear zz;subst bo;rotate_right)
  .exact⟨_,.inl rfl,by lk⟩
  .exact⟨uT b p q,.inr ⟨b,p,q,rfl,rfl⟩,by lk⟩
 refine al h1 λk r h1=>?_;have h2:=P2 (D:=D) (X:=X) (K:=K) (g:=g) (z:=z) (l:=l) (o:=o) hn hl hi (a:=b) r;have B:=gC ns G (m:=6) (by decide);have v:=gC ns (G+1) (m:=5) (by decide);have d:=(Int.toNat_lt B.1).mpr B.2;have n:=(Int.toNat_lt v.1).mpr v.2;generalize (drawn ns G 6).toNat=i at h2 d;generalize (drawn ns (G+1) 5).toNat=j at h2 n;have h4:∃b6 f y,cX D f=some b6/\wU y/\(R kL 47).ex I5 aH (aP X (w6 D g z (uT b i j)) K (bR i j) D (ak ns) (G+1+1) o)=some (.ok .next,aP X (w6 D b6 z (uT b i j)) f (bR i j) D (ak ns) (G+1+1) o++y):=by
  cases hb:j1 i j with
  |true=>exact⟨g,K,_,hg,.inr (.inl rfl),P8 h hg d n hb⟩
  |false=>
   by_cases hm:10+3*(i:Int)∈D.order/\10+3*(i:Int)∉D.lk
   .have q:=Qb (X:=X) (t:=ak ns) (G:=G+1+1) (o:=o) (z:=z) (a:=b) h h0 hg d n hb hm.1 hm.2;exact⟨eL D.rows g (10+3*(i:Int)) (Nat.beq j 0),aF D.all (eL D.rows g (10+3*(i:Int)) (Nat.beq j 0)),[],Qd,.inl rfl,by rw[List.append_nil];exact q⟩
   .exact⟨g,K,_,hg,.inr (.inr rfl),P9 h h0 hg d n hb hm⟩
 refine h9 h4 λb6 f y w A h4=>?_;have h5:=Qc (X:=X) (t:=ak ns) (G:=G+1+1) (I:=bR i j) (o:=o) (z:=z) (a:=b) (i:=i) (j:=j) h0 w A;refine⟨b6,f,uT b i j,some (.t (.str (bR i j))),w,.inr ⟨b,i,j,rfl⟩,.inr ⟨_,rfl⟩,(dJ h1 (aW (s:=an gJ 0) h2 (aW (s:=an gJ 1) (P6 (D:=D) (X:=X) (t:=ak ns) (K:=K) (G:=G+1+1) (o:=o) (g:=g) (z:=z) (a:=b) (l:=l) d n) (aW (s:=I5) h4 (bv (s:=an gJ 3) h5))))).trans ?_⟩;refine rwm _ ?_ (Qe A);rfl
theorem Qg{d:Int}(h:0<=d/\d<5):d7 (.range 0 d)=some (((List.range d.toNat).map λ(i:Nat)=>(i:Int)).map T.int):=wS (P:=λd=>d7 (.range 0 d)=some (((List.range d.toNat).map λ(i:Nat)=>(i:Int)).map T.int)) (λ
 |0,_=>rfl|1,_=>rfl|2,_=>rfl|3,_=>rfl|4,_=>rfl|n+5,h=>absurd h (Nat.not_lt.mpr (ot 5 n))) h
set_option tactic.hygienic true in
theorem Qh(h:D.Wf)(h0:D.st=0){ns:List Int}(hn:ns≠[])(hl:ns.length<=50)(hg:cX D K=some g)(hi:0<=G/\G<800):
  ∃b6 f C N c,cX D f=some b6/\fJ C/\ol N/\(0<=c/\c<900)/\(R kL 48).ex (bX 5) aH (aX X (w4 D g z) none (some (.t K)) none (some (au D)) (ak ns) G [.fz o])=some (.ok .next,aX X (w6 D b6 z C) none (some (.t f)) N (some (au D)) (ak ns) c [.fz o]):=by
 have v:=gC ns G (m:=5) (by decide);have ft:=pI (ns:=ns) (H:=[]) (λp hp=>nomatch hp) (i:=G) (m:=5) ⟨hi.1,E5 hi,by decide⟩;have hr:=Qg v;have bb:=(Int.toNat_lt v.1).mpr v.2;generalize drawn ns G 5=d at ft hr bb;(refine ag (lj T.int (λA O=>∃b6 f C N,cX D f=some b6/\fJ C/\ol N/\O=aX X (w6 D b6 z C) none (some (.t f)) N (some (au D)) (ak ns) (G+1+2*(A.length:Int)) [.fz o])
  (i3 (R kL 47) aH (dx (bX 5)) gJ 7) ((List.range d.toNat).map λ(i:Nat)=>(i:Int)) (O:=aX X (w4 D g z) none (some (.t K)) none (some (au D)) (ak ns) (G+1) [.fz o])
  ⟨g,K,[],none,hg,.inl rfl,.inl rfl,by refine rwm _ ?_ (show G+1+2*(([]:List Int).length:Int)=G+1 by simp);rfl⟩ λA b B O e Y=>by
  obtain⟨g1,K1,k,l1,Q,r,be,rfl⟩:=Y;have c4:A.length<5:=by
   have:=hS List.length e;rw[List.length_map,List.length_range,List.length_append,List.length_cons] at this;exact E6 bb this
  obtain⟨g2,K2,u2,l2,n,s,bd,q⟩:=Qf (X:=X) (z:=z) (o:=o) h h0 hn hl Q (G:=G+1+2*(A.length:Int)) (xo hi c4) (b:=b) r (l:=l1);refine⟨_,q,g2,K2,u2,l2,n,s,bd,?_⟩;exact rwm _ rfl (show G+1+2*(A.length:Int)+1+1=G+1+2*((A++[b]).length:Int) by refine rwm _ ?_ js;simp;exact E7)) λM cs=>?_;refine ac cs λL cd=>bH cd λb6 f C N cv=>bK cv λw b1 J bo=>?_;clear cv;clear cs cd;subst bo)
 refine⟨b6,f,C,N,_,w,b1,J,?_,pf (x:= .t (.range 0 d)) (t:= .range 0 d) (U:=((List.range d.toNat).map λ(i:Nat)=>(i:Int)).map T.int) (E:=aX X (w4 D g z) none (some (.t K)) none (some (au D)) (ak ns) (G+1) [.fz o]) (O2:=aX X (w4 D g z) none (some (.t K)) none (some (au D)) (ak ns) (G+1) [.fz o]) rfl ?_ rfl hr L⟩
 .rw[List.length_map,List.length_range];exact xo hi bb
 .refine aO (fv:= .t (.typ "range")) (vs:=[.t (.int d)]) (E:=aX X (w4 D g z) none (some (.t K)) none (some (au D)) (ak ns) (G+1) [.fz o]) ?_ ?_ (bx (E:=aX X (w4 D g z) none (some (.t K)) none (some (au D)) (ak ns) (G+1) [.fz o])
   (aO (fv:= .t (.top 624)) (vs:=[.own 5,.t (.int 5)]) (E:=aX X (w4 D g z) none (some (.t K)) none (some (au D)) (ak ns) G [.fz o]) ?_ ?_ ?_ ?_ (cm (p:=⟨[5],[.list [c0 [] (ak ns),.int G]]⟩) (bi:=[.own 0,.t (.int 5)]) (X:=[.list [c0 [] (ak ns),.int (G+1)]]) ?_ ?_ ?_)) cb) ?_ ?_
  .rfl
  .lk
  .rfl
  .lk
  .lk
  .lk
  .lk
  .exact(sY _ _).trans ft
  .lk
  .lk
  .lk
end
abbrev cJ(D:ah):T:=am #[] (.box (.doc D) D.tree)
theorem Qi{f g:Int->Bool}(h:∀n∈l,f n=g n):cC l f=cC l g:=by
 unfold cC
 congr 1
 refine kv λn hn=>?_;unfold cZ;exact rwm _ rfl (h n hn)
theorem DA(D:ah)(g:Int->Bool)(hn:n∈D.order):(D.kept g).startF n=g n:=by
 refine(?_:(if n∈c8 D.order g then false else if n∈([]:List Int) then true else true)=g n)
 cases h:g n with
 |true=>
  rw[if_neg,if_neg (by simp)];intro hm;have:=(qu.mp hm).2;rw[h] at this;exact ftf this
 |false=>exact rwm _ rfl (ec (show n∈c8 D.order g from qu.mpr ⟨hn,by refine rwm _ ?_ h;rfl⟩))
theorem wV(D:ah):mE mC lc [au D,.own 0] [.dict []]=yes (.str (D.txt D.startF)) [.dict []]:=rfl
section
variable {D:ah}{X t K:T}{G:Int}{o:T}{g:Int->Bool}{z:Str}{u:List (Str×V)}{l:Option V}
set_option tactic.hygienic true in
theorem Qj(hu:fJ u)(b:ol l):(R kL 48).ex (bX 6) aH (aX X (w6 D g z u) none (some (.t K)) l (some (au D)) t G [.fz o])=some (.ok .next,aX X (w6 D g z u) (some (.t (cJ D))) (some (.t K)) l (some (au D)) t G [.fz o]):=by
 (refine a2 b (λzz=>?_) (λzz=>?_);(try clear b);subst zz;rotate_left;(try clear b);refine ag zz λs bo=>?_;clear zz;subst bo;rotate_right)<;>refine cW u hu ?_ (λa i j=>?_)<;>lk
def w7(D:ah)(g:Int->Bool)(z:Str)(u:List (Str×V)):List (Str×V):=w6 D g z u++[(S "fresh",.t (cJ (D.kept g))),(S "answer",.t (.str (jX D.m)))]
set_option tactic.hygienic true in
theorem Qk(hu:fJ u)(h0:D.st=0)(hg:cX D K=some g):(R kL 48).ex (bX 7) aH (aX X (w6 D g z u) (some (.t (cJ D))) (some (.t K)) l (some (au D)) t G [.fz o])=some (.ok .next,aX X (w7 D g z u) (some (.t (cJ D))) (some (.t K)) l (some (au D)) t G [.fz o]):=by
 have hc:sV [.t (cJ D),.t K,.t (.str em)] []=yes (.tuple [cJ (D.kept g),.str (jX D.m)]) []:=by
  show cond (decide (em=em)) (pY D K #[] (S "data") (S "base") (S "shelf")) none=_;refine rwm _ ?_ (iv rfl);show pY D K #[] (S "data") (S "base") (S "shelf")=_;unfold pY;refine rwm _ ?_ hg;exact fW (p:=D.st=0/\S "data"=S "data"/\S "base"=S "base"/\S "shelf"=S "shelf") ⟨h0,rfl,rfl,rfl⟩
 refine dX (v:= .t (.tuple [cJ (D.kept g),.str (jX D.m)])) (E:=aX X (w6 D g z u) (some (.t (cJ D))) (some (.t K)) l (some (au D)) t G [.fz o]) rfl ?_ ?_ (aO (fv:= .t (.top 609)) (vs:=[.t (cJ D),.t K,.t (.str em)]) ?_ ?_ ?_ ?_ (iJ ?_ ?_)) ?_
 .rfl
 .lk
 .rfl
 .lk
 .refine cW u hu ?_ (λa i j=>?_)<;>lk
 .lk
 .rfl
 .exact(PN _ _).trans hc
 .refine cW u hu ?_ (λa i j=>?_)<;>lk
def T8(k:Nat):Expr:=aY (a7 (bV (bX 8))) k
set_option tactic.hygienic true in
theorem Ql(h:D.Wf)(hu:fJ u)(h0:D.st=0):(R kL 48).ex (bX 8) aH (aX X (w7 D g z u) (some (.t (cJ D))) (some (.t K)) l (some (au D)) t G [.fz o])=some (.ok .next,aX X (w7 D g z u) (some (.t (cJ D))) (some (.t K)) l (some (au D)) t G [.fz o,.dict []]):=by
 have hm:=h.m;have k:(ax D.order g).length<1000:=by rw[fX,gv];exact lC hm rfl
 have b:((ax D.order g).length:Int)=(D.m:Int):=by rw[fX,gv]
 have be:=hF (n:=(D.m:Int)) (xb hm);have t1:(R kL 46).test (T8 0) aH (aX X (w7 D g z u) (some (.t (cJ D))) (some (.t K)) l (some (au D)) t G [.fz o])=some (.ok false,aX X (w7 D g z u) (some (.t (cJ D))) (some (.t K)) l (some (au D)) t G [.fz o]):=by
  generalize Y:aX X (w7 D g z u) (some (.t (cJ D))) (some (.t K)) l (some (au D)) t G [.fz o]=O;refine ey (v:= .t (.str (jX D.m))) (u:= .t (.str (jX D.m))) (E:=O) (O2:=O) ?_ (go (v:= .t (.str (S "kept "++dq (D.m:Int)))) (u:= .t (.str (S " layers"))) (E:=O) (O2:=O) (go (v:= .t (.str (S "kept "))) (u:= .t (.str (dq (D.m:Int)))) (E:=O) (O2:=O) ?_
   (aO (fv:= .t (.typ "str")) (vs:=[.t (.int ((ax D.order g).length:Int))]) (E:=O) ?_ ?_ (bx (E:=O) (aO (fv:= .t (.bi "len")) (vs:=[.t (aF D.order g)]) (E:=O) ?_ ?_ (bx (E:=O) ?_ cb) ?_ (BX rfl k)) cb) ?_ ?_) rfl rfl (jc ?_)) ?_ rfl rfl (jc ?_)) ((ly rfl rfl).trans ?_)
  .subst Y;refine cW u hu ?_ (λa i j=>?_)<;>lk
  .lk
  .rfl
  .lk
  .rfl
  .lk
  .subst Y;refine cW u hu ?_ (λa i j=>?_)<;>lk
  .lk
  .lk
  .refine rwm _ ?_ b;exact pA (Ev hm)
  .have:(S "kept ").length=5:=by decide
   exact lB (Nat.add_le_add (ej this) be) rfl
  .lk
  .have h1:(S "kept ").length=5:=by decide
   have h2:(S " layers").length=7:=by decide
   rw[jd];exact xd be h1 h2
  .refine rwm _ ?_ (iv rfl);rfl
 have I:(R kL 46).test (T8 1) aH (aX X (w7 D g z u) (some (.t (cJ D))) (some (.t K)) l (some (au D)) t G [.fz o])=some (.ok false,aX X (w7 D g z u) (some (.t (cJ D))) (some (.t K)) l (some (au D)) t G [.fz o,.dict []]):=by
  refine ey (v:= .t (.str ((D.kept g).txt (D.kept g).startF))) (u:= .t (.str (cC D.order g))) (E:=aX X (w7 D g z u) (some (.t (cJ D))) (some (.t K)) l (some (au D)) t G [.fz o,.dict []]) (O2:=aX X (w7 D g z u) (some (.t (cJ D))) (some (.t K)) l (some (au D)) t G [.fz o,.dict []])
   (aO (fv:= .t (.top 595)) (vs:=[au (D.kept g),.own 7]) (E:=aX X (w7 D g z u) (some (.t (cJ D))) (some (.t K)) l (some (au D)) t G [.fz o,.dict []]) ?_ ?_ ?_ ?_ (cm (p:=⟨[7],[.dict []]⟩) (bi:=[au (D.kept g),.own 0]) (X:=[.dict []]) ?_ ?_ ?_))
   (aO (fv:= .t (.top 649)) (vs:=[cn D,.t (aF D.order g)]) (E:=aX X (w7 D g z u) (some (.t (cJ D))) (some (.t K)) l (some (au D)) t G [.fz o,.dict []]) ?_ ?_ ?_ ?_ (iJ ?_ ?_)) ((ly rfl rfl).trans ?_)
  .rfl
  .lk
  .refine cW u hu ?_ (λa i j=>?_)<;>lk
  .lk
  .rfl
  .exact(pZ _ _).trans (wV _)
  .rfl
  .rfl
  .lk
  .refine cW u hu ?_ (λa i j=>?_)<;>lk
  .lk
  .rfl
  .exact(sZ _ _).trans tc
  .rw[ta (.inr rfl),Qi (l:=(D.kept g).order) (g:=g) λn hn=>DA D g hn,show(D.kept g).order=D.order from rfl,decide_eq_true rfl];rfl
 exact i0 (vB (a:=T8 0) (l:=[T8 1]) t1 (l0 I)) gm
end
def wN(w:List (Str×V))(k:Int):List (Str×V):=dN w (S "number") (.t (.int k))
def w9(D:ah)(g:Int->Bool)(z:Str)(u:List (Str×V))(k:Int):List (Str×V):=wN (w7 D g z u) k
def oo(D:ah)(g:Int->Bool)(z:Str)(u:List (Str×V))(k:Int):List (Str×V):=dN (w9 D g z u k++[(S "grown",.t (cJ ((D.kept g).grown k)))]) (S "answer") (.t (.str (jk k)))
def jm(k:Int):Str:=dq k++S " on new one"
def bF(D:ah)(g:Int->Bool)(z:Str)(u:List (Str×V))(k:Int):List (Str×V):=oo D g z u k++[(S "row",.t (.str (jm k)))]
section
variable {D:ah}{X t K:T}{G k:Int}{o:T}{g:Int->Bool}{z:Str}{u:List (Str×V)}{l:Option V}{ns:List Int}
abbrev bh(D:ah)(X:T)(w:List (Str×V))(K:T)(l:Option V)(t:T)(G:Int)(o:List MO):af:=aX X w (some (.t (cJ D))) (some (.t K)) l (some (au D)) t G o
set_option tactic.hygienic true in
theorem Qm(hu:fJ u)(hn:ns≠[])(hl:ns.length<=50)(hi:0<=G/\G<1000):(R kL 48).ex (bX 9) aH (bh D X (w7 D g z u) K l (ak ns) G [.fz o,.dict []])=some (.ok .next,bh D X (w9 D g z u (23+drawn ns G 9)) K l (ak ns) (G+1) [.fz o,.dict []]):=by
 have b:=pI (ns:=ns) (H:=[]) (λp hp=>nomatch hp) (i:=G) (m:=9) ⟨hi.1,hi.2,by decide⟩;generalize drawn ns G 9=d at b;refine dX (v:= .t (.int (23+d))) (E:=bh D X (w7 D g z u) K l (ak ns) (G+1) [.fz o,.dict []]) rfl ?_ ?_ (go (v:= .t (.int 23)) (u:= .t (.int d)) (E:=bh D X (w7 D g z u) K l (ak ns) G [.fz o,.dict []]) (O2:=bh D X (w7 D g z u) K l (ak ns) (G+1) [.fz o,.dict []]) ?_
  (aO (fv:= .t (.top 624)) (vs:=[.own 5,.t (.int 9)]) (E:=bh D X (w7 D g z u) K l (ak ns) G [.fz o,.dict []]) ?_ ?_ ?_ ?_ (cm (p:=⟨[5],[.list [c0 [] (ak ns),.int G]]⟩) (bi:=[.own 0,.t (.int 9)]) (X:=[.list [c0 [] (ak ns),.int (G+1)]]) ?_ ?_ ?_)) rfl rfl rfl) ?_
 .rfl
 .lk
 .lk
 .rfl
 .lk
 .refine cW u hu ?_ (λa i j=>?_)<;>lk
 .lk
 .rfl
 .exact(sY _ _).trans b
 .lk
 .refine cW u hu ?_ (λa i j=>?_)<;>lk
set_option tactic.hygienic true in
theorem Qn(hu:fJ u)(hk:23<=k/\k<=31):(R kL 48).ex (bX 10) aH (bh D X (w9 D g z u k) K l t G [.fz o,.dict []])=some (.ok .next,bh D X (oo D g z u k) K l t G [.fz o,.dict []]):=by
 have hc:sW [.t (cJ (D.kept g)),.t (.int k),.t eD] []=yes (.tuple [cJ ((D.kept g).grown k),.str (jk k)]) []:=fW (p:=((D.kept g).st=1/\S "data"=S "data"/\S "base"=S "base"/\S "shelf"=S "shelf")/\(23<=k/\k<=31)/\T.str (S "new one")=eD) ⟨⟨rfl,rfl,rfl,rfl⟩,hk,rfl⟩;refine dX (v:= .t (.tuple [cJ ((D.kept g).grown k),.str (jk k)])) (E:=bh D X (w9 D g z u k) K l t G [.fz o,.dict []]) rfl ?_ ?_ (aO (fv:= .t (.top 616)) (vs:=[.t (cJ (D.kept g)),.t (.int k),.t eD]) ?_ ?_ ?_ ?_ (iJ ?_ ?_)) ?_
 .rfl
 .lk
 .rfl
 .lk
 .refine cW u hu ?_ (λa i j=>?_)<;>lk
 .lk
 .rfl
 .exact(PO _ _).trans hc
 .refine cW u hu ?_ (λa i j=>?_)<;>lk
theorem DB(hk:23<=k/\k<=31):(dq k).length+(S " on new one").length<=30:=by
 have h2:(S " on new one").length=11:=by decide
 exact lB (Nat.add_le_add (hF (xf hk)) (ej h2)) rfl
set_option tactic.hygienic true in
theorem Qo(hu:fJ u)(hk:23<=k/\k<=31):(R kL 48).ex (bX 11) aH (bh D X (oo D g z u k) K l t G [.fz o,.dict []])=some (.ok .next,bh D X (bF D g z u k) K l t G [.fz o,.dict []]):=by
 have hr:=DB hk;refine dX rfl ?_ ?_ (go (u:= .t (.str (S " on new one"))) (E:=bh D X (oo D g z u k) K l t G [.fz o,.dict []]) (O2:=bh D X (oo D g z u k) K l t G [.fz o,.dict []])
  (aO (fv:= .t (.typ "str")) (vs:=[.t (.int k)]) (E:=bh D X (oo D g z u k) K l t G [.fz o,.dict []]) ?_ ?_ ?_ ?_ (pA (xg hk))) ?_ rfl rfl (jc (lB hr rfl))) ?_
 .rfl
 .lk
 .rfl
 .lk
 .refine cW u hu ?_ (λa i j=>?_)<;>lk
 .lk
 .lk
 .refine cW u hu ?_ (λa i j=>?_)<;>lk
end
theorem Qp(a b c:Str):a++b++c=a++(b++c):=by
 refine(?_:(⟨(a.cps++b.cps)++c.cps⟩:Str)=⟨a.cps++(b.cps++c.cps)⟩);exact rwm _ rfl Array.append_assoc
theorem Qq(s x:Str):∀{l:List Str},l≠[]->Txt.join s (l++[x])=Txt.join s l++s++x
 |a::r,_=>by
  refine(?_:(⟨((r++[x]).foldl (λbe (p:Str)=>be++s.cps++p.cps) a.cps)⟩:Str)=⟨(r.foldl (λbe (p:Str)=>be++s.cps++p.cps) a.cps)++s.cps++x.cps⟩);refine rwm _ ?_ List.foldl_append;rfl
theorem Qr(x:Str)(h:l≠[]):gz (l++[x])=gz l++S "\n"++x:=by
 cases l with
 |nil=>exact absurd rfl h
 |cons a r=>exact Qq (S "\n") x (l:=a::r) (by simp)
theorem Qs(s:Str)(hs:s.length<=5):∀(l:List Str),(∀x∈l,x.length<=30)->(Txt.join s l).length<=35*l.length
 |[],_=>i1 _
 |a::r,h=>by
  have f:∀(r:List Str)(be:Array Nat),(∀x∈r,x.length<=30)->(r.foldl (λbe (p:Str)=>be++s.cps++p.cps) be).size<=be.size+35*r.length:=by
   intro r
   induction r with
   |nil=>intro be _;simp
   |cons b r ih=>
    intro be h;have:=ih (be++s.cps++b.cps) λx hx=>h x (.tail _ hx);have e1:b.cps.size=b.length:=rfl;have e2:s.cps.size=s.length:=rfl;refine rwm _ (rwm _ ?_ ss) List.foldl_cons;rw[Array.size_append,Array.size_append] at this;exact Eo hs this (h b (.head _)) e1 e2
  have:=f r a.cps λx hx=>h x (.tail _ hx);have e1:a.cps.size=a.length:=rfl;show((r.foldl (λbe (p:Str)=>be++s.cps++p.cps) a.cps).size:Nat)<=_;refine rwm _ ?_ ss;exact Er this (h a (.head _)) e1
theorem Qt{D:ah}(h:D.Wf)(g:Int->Bool):(cC D.order g).length<=200:=by
 have bb:(D.order.map (cZ g)).length<=4:=by rw[List.length_map,gv];exact h.m
 have hx:∀x∈D.order.map (cZ g),x.length<=30:=λx hx=>by
  (refine ag (hL.mp hx) λn c1=>ac c1 λhn bo=>?_;clear c1;subst bo);exact B9 h hn
 unfold cC;generalize D.order.map (cZ g)=rows at bb hx
 cases rows with
 |nil=>
  have:(gz []).length=4:=by decide
  exact Es this
 |cons a r=>
  have hs:(S "\n").length<=5:=by decide
  have:=Qs (S "\n") hs (a::r) hx;refine(?_:(Txt.join (S "\n") (a::r)).length<=200);exact lB (Nat.mul_le_mul_left 35 bb|>a6 this) rfl
theorem Qu{D:ah}(h:D.Wf)(g:Int->Bool)(hk:23<=k/\k<=31):((D.kept g).grown k).txt ((D.kept g).grown k).startF=if D.order=[] then jm k else cC D.order g++S "\n"++jm k:=by
 have i:((D.kept g).grown k).all=D.order++[k]:=rO rfl;have c:∀n∈D.order,bQ ((D.kept g).grown k) ((D.kept g).grown k).startF n=cZ g n:=λn hn=>by
  have hs:((D.kept g).grown k).startF n=g n:=DA D g hn;unfold bQ cZ nL;refine rwm _ ?_ hs;have hl:((D.kept g).grown k).labN n=gM ((n - 10).toNat/3):=hX (λhc:_/\_=>by have e:=hc.2;exact xn hk (jO h hn) e);exact rwm _ rfl hl
 have d:k∉D.order:=λhm=>by have:=jO h hm;exact Et hk this
 have b:bQ ((D.kept g).grown k) ((D.kept g).grown k).startF k=jm k:=by
  have hs:((D.kept g).grown k).startF k=true:=by
   refine(?_:(if k∈c8 D.order g then false else if k∈([]:List Int) then true else true)=true);rw[if_neg (show k∉c8 D.order g fromλhm=>d (List.mem_filter.mp hm).1),if_neg (by simp)]
  have hl:((D.kept g).grown k).labN k=cj:=ec ⟨rfl,rfl⟩;unfold bQ py jm;rw[hs,hl,Qp];have e:cond true (S " on ") (S " off ")++nJ cj=S " on new one":=by decide
  exact rwm _ rfl e
 unfold ah.txt;refine rwm _ (rwm _ (rwm _ ?_ (kv c)) i6) i;show gz (D.order.map (cZ g)++[bQ ((D.kept g).grown k) ((D.kept g).grown k).startF k])=_;refine rwm _ ?_ b
 by_cases ho:D.order=[]
 .refine rwm _ (rwm _ ?_ ho) (ec ho);rfl
 .refine rwm _ (rwm _ ?_ (Qr _ (by simpa using ho))) (hX ho);rfl
theorem Qv{a:List (aj×T)}(h1:vw v O=some (.dict a))(h2:vw u O=some (.dict [])):dQ .NotEq v u O=some (.ok (!a.isEmpty),O):=by
 show bm (aE v) (λx=>bm (aE u) λy=>om (gR .NotEq x y)) O=_;refine a0 (az (dY h1)) (rwm _ ?_ (az (dY h2)));rfl
section
variable {D:ah}{X t K:T}{G k:Int}{o:T}{g:Int->Bool}{z:Str}{u:List (Str×V)}{l:Option V}
def mG(k:Nat):Expr:=aY (a7 (bV (bX 12))) k
def wW:Expr:=aY (a7 (mG 1)) 1
set_option tactic.hygienic true in
theorem Qw(h:D.Wf)(hu:fJ u)(hk:23<=k/\k<=31):(R kL 48).ex (bX 12) aH (bh D X (bF D g z u k) K l t G [.fz o,.dict []])=some (.ok .next,bh D X (bF D g z u k) K l t G [.fz o,.dict [],.dict [],.dict []]):=by
 have hr:=DB hk;have ht:=Qt h g;have t1:(R kL 46).test (mG 0) aH (bh D X (bF D g z u k) K l t G [.fz o,.dict []])=some (.ok false,bh D X (bF D g z u k) K l t G [.fz o,.dict []]):=by
  generalize Y:bh D X (bF D g z u k) K l t G [.fz o,.dict []]=O;refine ey (v:= .t (.str (jk k))) (u:= .t (.str (jk k))) (E:=O) (O2:=O) ?_ (go (v:= .t (.str (S "layer "))) (u:= .t (.str (dq k))) (E:=O) (O2:=O) ?_ (aO (fv:= .t (.typ "str")) (vs:=[.t (.int k)]) (E:=O) ?_ ?_ ?_ ?_ (pA (xg hk))) rfl rfl (jc ?_)) ((ly rfl rfl).trans ?_)
  .subst Y;refine cW u hu ?_ (λa i j=>?_)<;>lk
  .lk
  .rfl
  .lk
  .subst Y;refine cW u hu ?_ (λa i j=>?_)<;>lk
  .lk
  .have:(S "layer ").length=6:=by decide
   exact lB (Nat.add_le_add (ej this) (hF (n:=k) (xf hk))) rfl
  .refine rwm _ ?_ (iv rfl);rfl
 have I:(R kL 45).ev (aY (a7 (mG 1)) 0) aH (bh D X (bF D g z u k) K l t G [.fz o,.dict []])=some (.ok (.t (.str (((D.kept g).grown k).txt ((D.kept g).grown k).startF))),bh D X (bF D g z u k) K l t G [.fz o,.dict [],.dict []]):=by
  refine aO (fv:= .t (.top 595)) (vs:=[au ((D.kept g).grown k),.own 8]) (E:=bh D X (bF D g z u k) K l t G [.fz o,.dict [],.dict []]) ?_ ?_ ?_ ?_ (cm (p:=⟨[8],[.dict []]⟩) (bi:=[au ((D.kept g).grown k),.own 0]) (X:=[.dict []]) ?_ ?_ ?_)
  .rfl
  .lk
  .refine cW u hu ?_ (λa i j=>?_)<;>lk
  .lk
  .rfl
  .exact(pZ _ _).trans (wV _)
  .rfl
 have d:(R kL 45).ev wW aH (bh D X (bF D g z u k) K l t G [.fz o,.dict [],.dict []])=some (.ok (.t (.str (if D.order=[] then jm k else cC D.order g++S "\n"++jm k))),bh D X (bF D g z u k) K l t G [.fz o,.dict [],.dict [],.dict []]):=by
  generalize Y:bh D X (bF D g z u k) K l t G [.fz o,.dict [],.dict [],.dict []]=O;have q:(R kL 44).test (aY (a7 wW) 0) aH (bh D X (bF D g z u k) K l t G [.fz o,.dict [],.dict []])=some (.ok (!(ax D.order g).isEmpty),O):=by
   subst Y;refine ey (v:= .t (aF D.order g)) (u:= .own 9) (E:=bh D X (bF D g z u k) K l t G [.fz o,.dict [],.dict []]) (O2:=bh D X (bF D g z u k) K l t G [.fz o,.dict [],.dict [],.dict []]) ?_ ?_ (Qv rfl rfl)
   .refine cW u hu ?_ (λa i j=>?_)<;>lk
   .lk
  by_cases ho:D.order=[]
  .refine rwm _ ?_ (ec ho);have e:(!(ax D.order g).isEmpty)=false:=by refine rwm _ ?_ ho;rfl
   rw[e] at q;refine K9 q ?_;subst Y;refine cW u hu ?_ (λa i j=>?_)<;>lk
  .refine rwm _ ?_ (hX ho);have e:(!(ax D.order g).isEmpty)=true:=by
    cases hd:D.order with
    |nil=>exact absurd hd ho
    |cons a r=>rfl
   rw[e] at q;refine vD q (go (v:= .t (.str (cC D.order g++S "\n"))) (u:= .t (.str (jm k))) (E:=O) (O2:=O) (go (v:= .t (.str (cC D.order g))) (u:= .t (.str (S "\n"))) (E:=O) (O2:=O)
    (aO (fv:= .t (.top 649)) (vs:=[cn D,.t (aF D.order g)]) (E:=O) ?_ ?_ ?_ ?_ (iJ ?_ ?_)) ?_ rfl rfl (jc ?_)) ?_ rfl rfl (jc ?_))
   .rfl
   .lk
   .subst Y;refine cW u hu ?_ (λa i j=>?_)<;>lk
   .lk
   .rfl
   .exact(sZ _ _).trans tc
   .lk
   .have:(S "\n").length=1:=by decide
    exact lB (Nat.add_le_add ht (ej this)) rfl
   .subst Y;refine cW u hu ?_ (λa i j=>?_)<;>lk
   .have h1:(S "\n").length=1:=by decide
    have h2:(jm k).length<=30:=by unfold jm;rw[jd];exact lB hr rfl
    rw[jd];exact Eu ht h1 h2
 have c:(R kL 46).test (mG 1) aH (bh D X (bF D g z u k) K l t G [.fz o,.dict []])=some (.ok false,bh D X (bF D g z u k) K l t G [.fz o,.dict [],.dict [],.dict []]):=by
  rw[(Qu h g hk)] at I;refine ey (a:=aY (a7 (mG 1)) 0) (b:=wW) I d ((ly rfl rfl).trans ?_);refine rwm _ ?_ (iv rfl);rfl
 exact i0 (vB (a:=mG 0) (l:=[mG 1]) t1 (l0 c)) gm
end
theorem DC:∀{l:List Int},l.Pairwise (·<=·)->iL l=l
 |[],_=>rfl
 |[a],_=>rfl
 |a::b::l,h=>by
  have h1:=List.pairwise_cons.mp h;show kj a (iL (b::l))=_;refine rwm _ ?_ (DC h1.2);show(if b<a then b::kj a l else a::b::l)=_;exact rwm _ rfl (hX (by have:=h1.1 b (.head _);exact Int.not_lt.mpr this))
theorem DD:∀l:List Int,cY (l.map T.int)=some l
 |[]=>rfl
 |a::l=>by
  show(cY (l.map T.int)).map (a::·)=_;refine rwm _ ?_ (DD l);rfl
theorem DF{c:aN}{O:af}{N:List (aj×T)}{l:List Int}(h:vw v O=some (.dict N))(hk:(N.map λp=>dO p.1)=l.map T.int)(hl:l.length<64)(hs:l.Pairwise (·<=·)):(R c (n+1)).call (.t (.bi "sorted")) [v] O=some (.ok (.own O.length),O++[.list (l.map T.int)]):=by
 show bm (aE v) (λt=>oK "sorted" t) O=_;refine a0 (az (dY h)) ?_;show bm (om (cY (N.map λp=>dO p.1))) (λl=>if l.length<64 then bP (.list ((iL l).map .int)) else λ_=>none) O=_;rw[hk,DD];show(if l.length<64 then bP (.list ((iL l).map T.int)) else λ_=>none:MM V) O=_;refine rwm _ (rwm _ ?_ (DC hs)) (ec hl);rfl
theorem DG:∀l:List Int,gQ (l.map T.int) (l.map T.int)=some true
 |[]=>rfl
 |a::l=>by
  show(match dP (.int a) (.int a),gQ (l.map T.int) (l.map T.int) with
   |some x,some y=>some (x&&y)
   |_,_=>none)=_
  refine rwm _ ?_ (DG l);show some (decide (a=a)&&true)=_;refine rwm _ ?_ (iv rfl);rfl
theorem Qx{l:List Int}(h1:vw v O=some (.list (l.map T.int)))(h2:vw u O=some (.list (l.map T.int))):dQ .Eq v u O=some (.ok true,O):=by
 show bm (aE v) (λx=>bm (aE u) λy=>om (gR .Eq x y)) O=_;refine a0 (az (dY h1)) (rwm _ ?_ (az (dY h2)));show om (gQ (l.map T.int) (l.map T.int)) O=_;rw[DG];rfl
theorem DH(m:Nat):((aI 0 m).map λp=>dO p.1)=(aQ m).map T.int:=by
 have e:((aI 0 m).map λp=>dO p.1)=((aI 0 m).map (·.1)).map dO:=by refine rwm _ ?_ md;rfl
 rw[e,pO,List.map_map];unfold aQ;refine rwm _ ?_ md;refine kv λi _=>(?_:T.int (10+3*((0+i:Nat):Int))=T.int (10+3*(i:Int)));rw[Nat.zero_add]
theorem Qy(m:Nat):(aQ m).Pairwise (·<=·):=by
 unfold aQ;refine List.pairwise_map.mpr ((List.pairwise_lt_range).imp λ{a b} h=>?_);exact DZ h
theorem DI{r:aG}(h:r.ev a e O=some (.ok (.t (.bool true)),E))(h2:gS r e .And (b::l) E=B):gS r e .And (a::b::l) O=B:=by
 show bm (r.ev a e) (λv=>bm (fQ v) λc=>match BoolOp.And,c with
  | .And,false| .Or,true=>pm v
  |_,_=>gS r e .And (b::l)) O=_
 refine a0 (az h) (rwm _ ?_ (az (show fQ (.t (.bool true)) E=some (.ok true,E) from rfl)));exact h2
noncomputable def Qz:Option (Except Addr V×af)->Bool
 |some (.ok (.t (.bool b)),_)=>b
 |_=>false
theorem QA(h:Qz q=true):∃O,q=some (.ok (.t (.bool true)),O):=by
 match q with
 |some (.ok (.t (.bool b)),O)=>cases(show b=true from h);exact⟨O,rfl⟩
 |none=>exact ftf h
 |some (.error _,_)=>exact ftf h
 |some (.ok (.own _),_)=>exact ftf h
 |some (.ok (.t .none),_)=>exact ftf h
 |some (.ok (.t (.int _)),_)=>exact ftf h
 |some (.ok (.t (.str _)),_)=>exact ftf h
 |some (.ok (.t (.bytes _)),_)=>exact ftf h
 |some (.ok (.t (.typ _)),_)=>exact ftf h
 |some (.ok (.t (.bi _)),_)=>exact ftf h
 |some (.ok (.t (.top _)),_)=>exact ftf h
 |some (.ok (.t (.range _ _)),_)=>exact ftf h
 |some (.ok (.t (.list _)),_)=>exact ftf h
 |some (.ok (.t (.tuple _)),_)=>exact ftf h
 |some (.ok (.t (.dict _)),_)=>exact ftf h
 |some (.ok (.t (.inst _ _)),_)=>exact ftf h
 |some (.ok (.t (.box _ _)),_)=>exact ftf h
section
variable {D:ah}{X t K:T}{G k:Int}{o:T}{g:Int->Bool}{z:Str}{u:List (Str×V)}{l:Option V}
def iK(k:Nat):Expr:=aY (a7 (bV (bX 13))) k
theorem QB(h0:D.st=0)(hu:fJ u)(hz:z=D.txt D.startF):(R kL 46).ev (iK 0) aH (bh D X (bF D g z u k) K l t G [.fz o,.dict [],.dict [],.dict []])=some (.ok (.t (.bool true)),bh D X (bF D g z u k) K l t G [.fz o,.dict [],.dict [],.dict [],.dict []]):=by
 have hv:=wR h0;refine Be (v:= .t (.str (D.txt D.startF))) (u:= .t (.str z)) (E:=bh D X (bF D g z u k) K l t G [.fz o,.dict [],.dict [],.dict [],.dict []]) (O2:=bh D X (bF D g z u k) K l t G [.fz o,.dict [],.dict [],.dict [],.dict []])
  (aO (fv:= .t (.top 595)) (vs:=[au D,.own 10]) (E:=bh D X (bF D g z u k) K l t G [.fz o,.dict [],.dict [],.dict [],.dict []]) ?_ ?_ ?_ ?_ (cm (p:=⟨[10],[.dict []]⟩) (bi:=[au D,.own 0]) (X:=[.dict []]) ?_ ?_ ?_)) ?_ ((PR rfl rfl).trans ?_)
 .rfl
 .lk
 .refine cW u hu ?_ (λa i j=>?_)<;>lk
 .lk
 .rfl
 .exact(pZ _ _).trans (wV _)
 .rfl
 .refine cW u hu ?_ (λa i j=>?_)<;>lk
 .exact rwm _ (rwm _ rfl (iv rfl)) hz
theorem QD(hu:fJ u)(hl:ol l){a b c d:MO}:∃M,(R kL 46).ev (iK 2) aH (bh D X (bF D g z u k) K l t G [.fz o,.dict [],.dict [],.dict [],.dict [],.list U,.list ys,.list m,.list (ys++m)])=some (.ok (.t (.bool true)),M):=by
 refine QA ?_;(refine a2 hl (λzz=>?_) (λzz=>?_);(try clear hl);subst zz;rotate_left;(try clear hl);refine ag zz λs bo=>?_;clear zz;subst bo;rotate_right)<;>refine cW u hu ?_ (λa i j=>?_)<;>lk
theorem QE(ord:List Int)(A:List (aj×T))(m:Nat):((aB ord A (aI 0 m)).map λp=>dO p.1)=((1:Int)::aQ m).map T.int:=by
 show T.int 1::((aI 0 m).map λp=>dO p.1)=_;rw[DH];rfl
theorem QF(ord:List Int)(A:List (aj×T))(m:Nat)(k:Int)(x:T):((aB ord A (aI 0 m++[(.int k,x)])).map λp=>dO p.1)=(((1:Int)::aQ m)++[k]).map T.int:=by
 show T.int 1::((aI 0 m++[(aj.int k,x)]).map λp=>dO p.1)=_;rw[List.map_append,DH];show _=T.int 1::(aQ m++[k]).map T.int;refine rwm _ ?_ i6;rfl
theorem DJ{D:ah}(h:D.Wf):((1:Int)::aQ D.m).Pairwise (·<=·):=by
 refine List.pairwise_cons.mpr ⟨λn hn=>?_,Qy _⟩;(refine ag (i7.mp hn) λi c1=>ac c1 λ_ bo=>?_;clear c1;clear hn;subst bo);exact D0
theorem QG{D:ah}(h:D.Wf)(hk:23<=k/\k<=31):(((1:Int)::aQ D.m)++[k]).Pairwise (·<=·):=by
 refine List.pairwise_append.mpr ⟨DJ h,by simp,λa ha b hb=>?_⟩;have hb:b=k:=by simpa using hb
 subst hb;(refine a2 (hG.mp ha) (λzz=>?_) (λha=>?_);subst zz;rotate_left;rotate_right)
 .exact D1 hk
 ·(refine ag (i7.mp ha) λi c1=>ac c1 λhi bo=>?_;clear c1;clear ha;subst bo);have:=h.m;exact D2 hk hi this
theorem QH(h:D.Wf)(h0:D.st=0)(hu:fJ u)(hk:23<=k/\k<=31):(R kL 46).ev (iK 1) aH (bh D X (bF D g z u k) K l t G [.fz o,.dict [],.dict [],.dict [],.dict []])=
  some (.ok (.t (.bool true)),bh D X (bF D g z u k) K l t G [.fz o,.dict [],.dict [],.dict [],.dict [],.list ((((1:Int)::aQ D.m)++[k]).map T.int),.list (((1:Int)::aQ D.m).map T.int),.list [.int k],.list (((1:Int)::aQ D.m).map T.int++[.int k])]):=by
 have hm:=h.m;have b:(aQ D.m).length=D.m:=rz _;have e2:strip (.box (.doc ((D.kept g).grown k)) ((D.kept g).grown k).tree)=db (aB (D.order++[k]) (fG D.lk D.rows (c8 D.order g) k) (aI 0 D.m++[(.int k,df cj)])) bI:=rfl;have e0:strip (.box (.doc D) D.tree)=db (aB D.order (co D.base D.on D.off D.lk D.rows) (aI 0 D.m)) bI:=by
  show strip D.tree=_;refine a0 (C6 h0) ?_;rfl
 have p:=QF (D.order++[k]) (fG D.lk D.rows (c8 D.order g) k) D.m k (df cj);have n:=QE D.order (co D.base D.on D.off D.lk D.rows) D.m;have L:=QG h hk;have I:=DJ h;have bd:(((1:Int)::aQ D.m)++[k]).length<64:=by refine rwm _ ?_ js;refine(?_:(aQ D.m).length+1+1<64);exact D3 hm b
 have q:((1:Int)::aQ D.m).length<64:=by refine(?_:(aQ D.m).length+1<64);exact D4 hm b
 have c:(((1:Int)::aQ D.m).map T.int).length+[T.int k].length<=1000:=by rw[List.length_map];refine(?_:(aQ D.m).length+1+1<=1000);exact D5 hm b
 have A:((1:Int)::aQ D.m).map T.int++[T.int k]=(((1:Int)::aQ D.m)++[k]).map T.int:=by refine rwm _ ?_ i6;rfl
 have q1:(R kL 44).ev (aY (a7 (aY (a7 (iK 1)) 0)) 1) aH (bh D X (bF D g z u k) K l t G [.fz o,.dict [],.dict [],.dict [],.dict []])=some (.ok (.t (.dict (aB (D.order++[k]) (fG D.lk D.rows (c8 D.order g) k) (aI 0 D.m++[(.int k,df cj)])))),bh D X (bF D g z u k) K l t G [.fz o,.dict [],.dict [],.dict [],.dict []]):=by
  refine ls ?_ ?_ e2 ?_ rfl rfl
  .rfl
  .refine cW u hu ?_ (λa i j=>?_)<;>lk
  .lk
 generalize aQ D.m=f at*;generalize aB (D.order++[k]) (fG D.lk D.rows (c8 D.order g) k) (aI 0 D.m++[(.int k,df cj)])=m at*;generalize v:(((1:Int)::f)++[k])=U at*;generalize s:((1:Int)::f)=ys at*;have a1:(R kL 45).ev (aY (a7 (iK 1)) 0) aH (bh D X (bF D g z u k) K l t G [.fz o,.dict [],.dict [],.dict [],.dict []])=some (.ok (.own 11),bh D X (bF D g z u k) K l t G [.fz o,.dict [],.dict [],.dict [],.dict [],.list (U.map T.int)]):=by
  refine aO ?_ ?_ (bx q1 cb) ?_ (DF rfl p bd L)
  .rfl
  .lk
  .lk
 have q2:(R kL 43).ev (aY (a7 (aY (a7 (aY (a7 (iK 1)) 1)) 0)) 1) aH (bh D X (bF D g z u k) K l t G [.fz o,.dict [],.dict [],.dict [],.dict [],.list (U.map T.int)])=some (.ok (.t (.dict (aB D.order (co D.base D.on D.off D.lk D.rows) (aI 0 D.m)))),bh D X (bF D g z u k) K l t G [.fz o,.dict [],.dict [],.dict [],.dict [],.list (U.map T.int)]):=by
  refine ls ?_ (ls (X:=cJ D) (C:=90) (fs:=[(S "data",.bytes #[]),(S "base",.none),(S "shelf",.box (.doc D) D.tree)]) (E:=bh D X (bF D g z u k) K l t G [.fz o,.dict [],.dict [],.dict [],.dict [],.list (U.map T.int)]) ?_ ?_ ?_ ?_ ?_ (wD e0)) e0 ?_ rfl rfl
  .rfl
  .rfl
  .lk
  .rfl
  .lk
  .lk
  .lk
 generalize aB D.order (co D.base D.on D.off D.lk D.rows) (aI 0 D.m)=r at*;have d:(R kL 44).ev (aY (a7 (aY (a7 (iK 1)) 1)) 0) aH (bh D X (bF D g z u k) K l t G [.fz o,.dict [],.dict [],.dict [],.dict [],.list (U.map T.int)])=some (.ok (.own 12),bh D X (bF D g z u k) K l t G [.fz o,.dict [],.dict [],.dict [],.dict [],.list (U.map T.int),.list (ys.map T.int)]):=by
  refine aO ?_ ?_ (bx q2 cb) ?_ (DF rfl n q I)
  .rfl
  .lk
  .lk
 have B:(R kL 45).ev (aY (a7 (iK 1)) 1) aH (bh D X (bF D g z u k) K l t G [.fz o,.dict [],.dict [],.dict [],.dict [],.list (U.map T.int)])=some (.ok (.own 14),bh D X (bF D g z u k) K l t G [.fz o,.dict [],.dict [],.dict [],.dict [],.list (U.map T.int),.list (ys.map T.int),.list [.int k],.list (ys.map T.int++[.int k])]):=by
  refine go (u:= .own 13) (x:= .list (ys.map T.int)) (y:= .list [.int k]) (O2:=bh D X (bF D g z u k) K l t G [.fz o,.dict [],.dict [],.dict [],.dict [],.list (U.map T.int),.list (ys.map T.int),.list [.int k]]) d ?_ rfl rfl (De c);refine cW u hu ?_ (λa i j=>?_)<;>lk
 refine Be a1 B (Qx rfl ?_);show some (T.list (ys.map T.int++[.int k]))=_;exact rwm _ rfl A
theorem QI(h:D.Wf)(h0:D.st=0)(hu:fJ u)(hl:ol l)(hk:23<=k/\k<=31)(hz:z=D.txt D.startF):∃M,(R kL 48).ex (bX 13) aH (bh D X (bF D g z u k) K l t G [.fz o,.dict [],.dict [],.dict []])=some (.ok (.ret (.t (.bool true))),M):=by
 refine ag (QD (D:=D) (X:=X) (t:=t) (K:=K) (G:=G) (k:=k) (o:=o) (g:=g) (z:=z) hu hl (a:= .dead) (b:= .dead) (c:= .dead) (d:= .dead) (U:=(((1:Int)::aQ D.m)++[k]).map T.int) (ys:=((1:Int)::aQ D.m).map T.int) (m:=[.int k])) λM hc=>⟨M,eh ?_⟩;have e:(R kL 47).ev (bV (bX 13)) aH (bh D X (bF D g z u k) K l t G [.fz o,.dict [],.dict [],.dict []])=gS (R kL 46) aH .And [iK 0,iK 1,iK 2] (bh D X (bF D g z u k) K l t G [.fz o,.dict [],.dict [],.dict []]):=rfl;refine e.trans (DI (QB h0 hu hz) (DI (QH h h0 hu hk) hc))
end
end Internal
end
noncomputable section
set_option maxHeartbeats 400000
namespace Internal
open PySem PySem.W PySem.Calls PyProof.Rows
theorem QJ(ns:List Int):eg ns≠[]/\(eg ns).length<=50:=by
 unfold eg;have hl:(ns.take 50).length<=50:=by refine rwm _ ?_ p8;exact Nat.min_le_left _ _
 cases e:ns.take 50 with
 |nil=>exact⟨List.cons_ne_nil _ _,by decide⟩
 |cons a l=>rw[e] at hl;exact⟨List.cons_ne_nil _ _,hl⟩
theorem QK(ns:List Int):0<=fE ns/\fE ns<800:=by
 have h1:=sD ns;have h2:=wr ns;have h3:=Nat.mul_le_mul h2 h1;unfold fE wo;have h4:(cQ ns:Int)*(mD ns:Int)=((cQ ns*mD ns:Nat):Int):=by simp
 refine rwm _ ?_ h4;exact DW h1 h3
theorem QL:ba (at_ 68)=[bX 0,bX 1,bX 2,bX 3,bX 4,bX 5,bX 6,bX 7,bX 8,bX 9,bX 10,bX 11,bX 12,bX 13]:=by lk
theorem QM:Dp:=by
 intro w b7 mb B r A l env ns L H s hk hR bb hA Q E hq;have d:aL PW (bU w B) 348 (R kL 48):=rh (hk kL) (Pw w b7 mb B hk) 48;refine rwm _ ?_ QL;refine bc λno=>aq (PJ bb) λn O cs=>wX cs λhn h0 e0 e1 e2 e3 e4 e5=>no (cB.cons d hR hA h0 λY k1=>ac (QJ ns) λdt ds=>?_);have k1:=cB.start k1 hn e0 e1 e2 e3 e4 e5;generalize c:ak ns=X at k1;clear e0 e1 e2 e3 e4 e5 h0;generalize eg ns=y at k1 dt ds;have k1:cB (bU w B) r l L H [] aH env (aX X [] none none none none (ak y) 0 []) Y:=
  k1.conv ⟨rfl,rfl,rfl,rfl,rfl,bG.cons (TC.box (TC.refl _) ⟨y,dt,ds,rfl,λ_ h=>nomatch h⟩) (bG.refl _),trivial⟩
 have j:=wt y;have b:(cR y).st=0:=rfl;generalize hD:cR y=D at j b;refine cB.cons d hR k1 (PS hD.symm) λs2 k2=>cB.cons d hR k2 PT λs3 k3=>cB.cons d hR k3 PU λs4 k4=>?_;have i:cX D (.dict [])=some D.f0:=by
  show some D.startF=_;exact rwm _ rfl (wR b)
 refine cB.cons d hR k4 (PV b i) λs5 k5=>?_;refine bc λno=>hZ (Qh (X:=X) (o:= .dict []) (z:=cC D.order D.f0) j b dt ds i (QK y)) λg K u I G cs=>bS cs λhg hu hl hi h5=>no (cB.cons d hR k5 h5 λs6 k6=>cB.cons d hR k6 (Qj hu hl) λs7 U=>cB.cons d hR U (Qk hu b hg) λs8 C=>cB.cons d hR C (Ql j hu b) λs9 k9=>cB.cons d hR k9 (Qm hu dt ds (DX hi)) λb4 c5=>?_);have d9:=gC y G (m:=9) (by decide);have f:=DY d9;generalize 23+drawn y G 9=k at c5 f;refine cB.cons d hR c5 (Qn hu f) λN v=>cB.cons d hR v (Qo hu f) λb5 J=>cB.cons d hR J (Qw j hu f) λb1 t=>?_;have hz:cC D.order D.f0=D.txt D.startF:=by rw[ta (.inl b),wR b]
 refine ag (QI j b hu hl f hz) λM q=>cB.ret d hR t q λs' b6 b2 x p S0 hv=>?_;have:x= .bool true:=by exact hv
 clear hv;subst this;exact hq s' b6 b2 M p S0
theorem law_ok:A8:=Px QM
end Internal
end
noncomputable section
set_option maxHeartbeats 4000000
namespace Internal
open PySem PySem.W PySem.Calls PyProof.Rows
def DK:Prop:=∀(w:World)(s:Shared)(b7 mb:Str->Option Value)(ns:List Int)(x:Value),(∀c,gZ (heap w.params) (bU w (hid s.heap)) (Pc c) b7 mb)->St (bU w (hid s.heap)) (λ_=>none) (hid s.heap).get? [] [] [] s.heap->
 ns.length<=63->TR w (hid s.heap).get? (ak ns) x->
 wpAny (model PW w) callerA (call (.ref 670) [x]) (λv s'=>v= .bool true/\∃g b2 O,bk s (hid s.heap).get? [] s' g b2/\St (bU w (hid s.heap)) (λ_=>none) g b2 [] O s'.heap) (λ_ _=>False) s
theorem QN(b:Params):nsIn (heap b) 3 (j3 (at_ 68))=some (some (.ref 670)):=by lk
theorem DL{b:Params}{h:Heap}:∀{vs:List Value}{ns:List Int},WellAll b h vs (ns.map WData.int)->∀(w:World)(g:ay),TRs w g (ns.map T.int) vs
 |vs,[],h,w,g=>by cases h;rfl
 |vs,n::ns,h,w,g=>by
  cases h with
  |cons h1 h2=>
   cases h1;exact⟨_,_,rfl,by exact⟨_,rfl⟩,DL h2 w g⟩
theorem QO(ns:List Int):ofPy (PyData.list (ns.map PyData.int))=WData.list (ns.map WData.int):=by
 have h:∀ns:List Int,ofPys (ns.map PyData.int)=ns.map WData.int:=λns=>by
  induction ns with
  |nil=>simp [ofPys]
  |cons a l ih=>simp only[List.map_cons,ofPys,ofPy,ih]
 simp only[ofPy,h]
set_option tactic.hygienic true in
theorem QP(H:DK):WalkO qv loose (XL qv []) (Hook.says hkZ) rowZ.toRowW ⟨j3 (at_ 68),fj (at_ 68),ba (at_ 68),aV (at_ 68),posS (at_ 68)⟩ [] λf vs=>PySem.call f vs:=by
 intro w L cf b7 mb G Y C o pm c6 doc E A ho hdZ N hD l hg be q as b i m n k;have KX:=km_in_of Y;have hT:=km_tabs_of Y;have T:=G.T;have e1:=o6 KX T.g (QN _);have e2:=l;rw[e1] at e2;cases e2;clear ho hdZ N hD l
 wrow_args b i m n k
 rename_i ns I p r s bd w4 w3 a vs B M y d t hI hr hc ht
 have bi:=hT;have hx:TR w (hid cf.heap).get? (ak ns) (.ref a):=by
  rw[QO] at d
  cases d with
  |list e1 e2=>
   rename_i j
   unfold ak;refine⟨a,j.toArray,0,rfl,rp _ e1 λhm=>?_,DL e2 w _⟩;rw[bi a hm] at e1;cases e1
 refine eb (H w cf b7 mb ns (.ref a) (λc=>KA T (by lk) KX bi) (KB KX bi) (Fj hc) hx) (λv s' z=>?_) λ_ _ z=>z.elim;(refine ac z λc2 D=>?_;clear z;subst c2;refine a9 D λg b2 O c3=>?_;clear D;refine ac c3 λc7 S=>?_;clear c3;rcases c7 with⟨⟨b5,tk,rfl⟩,p2,p3⟩);refine⟨.inl ⟨_,.bool true,[],rfl,λ_=>rfl,?_,?_,λ_=>⟨.nil,λ_ h=>nomatch h⟩⟩,KC KX bi S,rfl,?_⟩
 .exact .bool true
 .lk
 .exact AllBare.of_eq hg
theorem holds_of(H:DK):PySem.Challenge.rw_pb0493_01.Holds:=Internal.hdZ (QP H)
end Internal
end
theorem PySem.Challenge.cw_pb0493_01_holds : PySem.Challenge.rw_pb0493_01.Holds :=
 Internal.holds_of Internal.law_ok
