import PyProof.Rows.All
import Wide.All
import OpenK.AllK
import Wide.FinOn
import KE.KTurns
import KE.KBytesCut
import KE.KDeep
import Lean
import PySem.Challenge.RW_pq0943_01
open PySem PySem.W PyProof.Rows
set_option Elab.async false
set_option maxRecDepth 100000
set_option maxHeartbeats 4000000
set_option bootstrap.genMatcherCode false
set_option tactic.hygienic false
set_option genInjectivity false
set_option genSizeOf false
set_option genSizeOfSpec false
set_option backward.eqns.nonrecursive false
set_option linter.all false
namespace Mine.Lake
abbrev om:=@Nat.le_trans
abbrev oq:=@PySem.wpAny_bind
abbrev ou:=@Nat.le_refl
abbrev oy:=@Nat.le_of_not_lt
abbrev o6:=@PySem.wpAny_pure
abbrev o7:=@Nat.add_le_add
abbrev o8:=@List.getElem?_eq_getElem
abbrev o9:=@List.length_append
abbrev pB:=@Nat.le_add_right
abbrev pC:=@Nat.lt_of_le_of_lt
abbrev pD:=@List.append_assoc
abbrev pE:=@PySem.Heap.get?_push_size
abbrev pF:=@PySem.Heap.get?_push_of_some
abbrev pG:=@Int.natCast_nonneg
abbrev pH:=@if_neg
abbrev pI:=@Int.ofNat_lt
abbrev pJ:=@Nat.lt_of_lt_of_le
abbrev pK:=@List.length_map
abbrev pL:=@Nat.le_of_eq
abbrev pN:=@PySem.wpAny_mono
abbrev pO:=@if_pos
abbrev pP:=@Option.some.inj
abbrev pQ:=@Nat.zero_le
abbrev pR:=@PySem.wpAny_holding
abbrev pS:=@Nat.mul_le_mul_left
abbrev pT:=@PySem.wpAny_execs_cons
abbrev pU:=@List.drop_eq_nil_of_le
abbrev pV:=@List.mem_append
abbrev pW:=@Nat.succ_pos
abbrev pX:=@Nat.ne_of_lt
abbrev pY:=@PySem.W.typeIs_bytes
abbrev pZ:=@List.mem_singleton
abbrev pg:=@Nat.add_le_add_right
abbrev ph:=@List.size_toArray
abbrev pi:=@PySem.Heap.lt_size
abbrev pj:=@List.mem_cons
abbrev pq:=@Nat.lt_of_not_le
abbrev pr:=@List.all_eq_true
abbrev pz:=@Nat.sub_lt_sub_left
abbrev qA:=@List.drop_drop
abbrev qB:=@List.getElem?_map
abbrev qC:=@Nat.zero_add
abbrev qD:=@List.mem_of_mem_drop
abbrev qE:=@List.mem_of_getElem?
abbrev qF:=@Nat.lt_succ_self
abbrev qG:=@List.length_cons
abbrev qH:=@List.append_nil
abbrev qI:=@PySem.wpAny_standAt
abbrev qJ:=@Int.lt_of_lt_of_le
abbrev qK:=@PySem.wpAny_items_cons
abbrev qL:=@List.mem_map
abbrev qM:=@List.getElem?_eq_some_iff
abbrev qN:=@Option.map_eq_some_iff
abbrev qO:=@Nat.succ_le_of_lt
abbrev qP:=@Nat.le_succ_of_le
abbrev qQ:=@PySem.wpAny_truthy_bool
abbrev qR:=@PySem.wpAny_of_eq
abbrev qS:=@PySem.Heap.get?_update_other
abbrev qT:=@beq_eq_false_iff_ne
abbrev qU:=@Nat.le_of_lt
abbrev qV:=@List.map_map
abbrev qW:=@Nat.le_add_left
abbrev qX:=@Nat.add_sub_cancel_left
abbrev qY:=@Int.ofNat.inj
abbrev qZ:=@PySem.wpAny_call_entry
abbrev qa:=@List.drop_eq_getElem_cons
abbrev qb:=@Nat.succ_le_succ
abbrev qc:=@Nat.lt_add_of_pos_right
abbrev qd:=@PySem.Heap.get?_update_self
abbrev qe:=@decide_eq_true
abbrev qf:=@List.getElem?_drop
abbrev qg:=@decide_eq_false
abbrev qh:=@List.map_append
abbrev qi:=@List.take_of_length_le
abbrev qj:=@List.length_drop
abbrev qk:=@List.find?_cons_of_neg
abbrev qm:=@Option.isNone_iff_eq_none
abbrev qn:=@PySem.Heap.get?_none_of_le
abbrev qo:=@Nat.add_le_add_left
theorem AM{a b P:Prop}(h:a/\b)(k:a->b->P):P:=k h.1 h.2
theorem AI{α:Sort _}{a:α->Prop}{P:Prop}(h:∃ x,a x)(k:∀ x,a x->P):P:=h.elim k
theorem Bq{a b c P:Prop}(h:a/\b/\c)(k:a->b->c->P):P:=k h.1 h.2.1 h.2.2
theorem QX{a b c d P:Prop}(h:a/\b/\c/\d)(k:a->b->c->d->P):P:=Bq h.2 (k h.1)
theorem Ho{a b c d e P:Prop}(h:a/\b/\c/\d/\e)(k:a->b->c->d->e->P):P:=QX h.2 (k h.1)
theorem MI{a b c d e f P:Prop}(h:a/\b/\c/\d/\e/\f)(k:a->b->c->d->e->f->P):P:=Ho h.2 (k h.1)
theorem bS{a b c d e f g P:Prop}(h:a/\b/\c/\d/\e/\f/\g)(k:a->b->c->d->e->f->g->P):P:=MI h.2 (k h.1)
theorem AE{α:Sort _}{a b:α->Prop}{P:Prop}(h:∃ x,a x/\b x)(k:∀ x,a x->b x->P):P:=h.elim fun x h=>k x h.1 h.2
theorem Cp{α:Sort _}{a b c:α->Prop}{P:Prop}(h:∃ x,a x/\b x/\c x)(k:∀ x,a x->b x->c x->P):P:=h.elim fun x h=>Bq h (k x)
theorem FY{α:Sort _}{a b c d:α->Prop}{P:Prop}(h:∃ x,a x/\b x/\c x/\d x)(k:∀ x,a x->b x->c x->d x->P):P:=h.elim fun x h=>QX h (k x)
theorem MJ{α:Sort _}{a b c d e:α->Prop}{P:Prop}(h:∃ x,a x/\b x/\c x/\d x/\e x)(k:∀ x,a x->b x->c x->d x->e x->P):P:=h.elim fun x h=>Ho h (k x)
theorem Bm{α β:Sort _}{a:α->β->Prop}{P:Prop}(h:∃ x y,a x y)(k:∀ x y,a x y->P):P:=h.elim fun x h=>h.elim (k x)
theorem BS{α β:Sort _}{a b:α->β->Prop}{P:Prop}(h:∃ x y,a x y/\b x y)(k:∀ x y,a x y->b x y->P):P:=h.elim fun x h=>AE h (k x)
theorem CQ{α β:Sort _}{a b c:α->β->Prop}{P:Prop}(h:∃ x y,a x y/\b x y/\c x y)(k:∀ x y,a x y->b x y->c x y->P):P:=h.elim fun x h=>Cp h (k x)
theorem bT{α β:Sort _}{a b c d:α->β->Prop}{P:Prop}(h:∃ x y,a x y/\b x y/\c x y/\d x y)(k:∀ x y,a x y->b x y->c x y->d x y->P):P:=h.elim fun x h=>FY h (k x)
theorem bU{α β:Sort _}{a b c d e:α->β->Prop}{P:Prop}(h:∃ x y,a x y/\b x y/\c x y/\d x y/\e x y)(k:∀ x y,a x y->b x y->c x y->d x y->e x y->P):P:=h.elim fun x h=>MJ h (k x)
theorem IW{α β γ:Sort _}{a:α->β->γ->Prop}{P:Prop}(h:∃ x y z,a x y z)(k:∀ x y z,a x y z->P):P:=h.elim fun x h=>Bm h (k x)
theorem IX{α β γ:Sort _}{a b:α->β->γ->Prop}{P:Prop}(h:∃ x y z,a x y z/\b x y z)(k:∀ x y z,a x y z->b x y z->P):P:=h.elim fun x h=>BS h (k x)
theorem IY{α β γ:Sort _}{a b c:α->β->γ->Prop}{P:Prop}(h:∃ x y z,a x y z/\b x y z/\c x y z)(k:∀ x y z,a x y z->b x y z->c x y z->P):P:=h.elim fun x h=>CQ h (k x)
theorem FZ{α β γ:Sort _}{a b c d:α->β->γ->Prop}{P:Prop}(h:∃ x y z,a x y z/\b x y z/\c x y z/\d x y z)(k:∀ x y z,a x y z->b x y z->c x y z->d x y z->P):P:=h.elim fun x h=>bT h (k x)
theorem VA{α β γ δ:Sort _}{a b:α->β->γ->δ->Prop}{P:Prop}(h:∃ x y z w,a x y z w/\b x y z w)(k:∀ x y z w,a x y z w->b x y z w->P):P:=h.elim fun x h=>IX h (k x)
theorem Nm{α β γ δ:Sort _}{a b c:α->β->γ->δ->Prop}{P:Prop}(h:∃ x y z w,a x y z w/\b x y z w/\c x y z w)(k:∀ x y z w,a x y z w->b x y z w->c x y z w->P):P:=h.elim fun x h=>IY h (k x)
theorem jx{α β γ:Sort _}{a b c d e:α->β->γ->Prop}{P:Prop}(h:∃ x y z,a x y z/\b x y z/\c x y z/\d x y z/\e x y z)(k:∀ x y z,a x y z->b x y z->c x y z->d x y z->e x y z->P):P:=h.elim fun x h=>h.elim fun y h=>h.elim fun z h=>Ho h (k x y z)
theorem sI{α:Sort _}{a b:α}{P:Prop}(h:some a=some b)(k:a=b->P):P:=k (pP h)
theorem nS{α:Type _}{a:α}{P:Prop}(h:none=some a):P:=nomatch h
theorem sN{α:Type _}{a:α}{P:Prop}(h:some a=none):P:=nomatch h
theorem fT{P:Prop}(h:false=true):P:=nomatch h
theorem tF{P:Prop}(h:true=false):P:=nomatch h
@[elab_as_elim] theorem AA{α:Sort _}{a b:α}{motive:α->Prop}(h:a=b)(p:motive b):motive a:=h▸p
@[elab_as_elim] theorem BO{α:Sort _}{a b:α}{motive:α->Prop}(h:b=a)(p:motive b):motive a:=h▸p
@[elab_as_elim] theorem F7{a b:Prop}{motive:Prop->Prop}(h:a↔b)(p:motive b):motive a:=propext h▸p
theorem nl(ctx:Nat.Internal.Linear.Context)(c:Nat.Internal.Linear.ExprCnstr)(u:c.toNormPoly.isUnsat=true)(h:c.denote ctx):False:=(Nat.Internal.Linear.ExprCnstr.eq_false_of_isUnsat ctx c u).mp h
theorem two{α:Type _}{motive:List α->Prop}(nil:motive [])(one:∀ a,motive [a])(more:∀ a b r,motive (b::r)->motive r->motive (a::b::r))(l:List α):motive l:=
 (show motive l/\∀ a,motive (a::l) from List.rec ⟨nil,one⟩ (fun b r ih=>⟨ih.2 b,fun a=>more a b r (ih.2 b) ih.1⟩) l).1
theorem XH{α:Type _}{motive:List α->Prop}(nil:motive [])(one:∀ a,motive [a])(two:∀ a b,motive [a,b])(more:∀ a b c r,motive r->motive (a::b::c::r))(l:List α):motive l:=
 (show motive l/\(∀ a,motive (a::l))/\∀ a b,motive (a::b::l) from List.rec ⟨nil,one,two⟩ (fun c r ih=>⟨ih.2.1 c,fun a=>ih.2.2 a c,fun a b=>more a b c r ih.1⟩) l).1
noncomputable abbrev nP(a b:Nat.Internal.Linear.Expr):Nat.Internal.Linear.Expr:=.add a b
noncomputable abbrev nW(a:Nat.Internal.Linear.Expr):Nat.Internal.Linear.Expr:=.add a (.num 1)
noncomputable abbrev nK(k:Nat):Nat.Internal.Linear.Expr:=.num k
noncomputable abbrev nM(k:Nat)(a:Nat.Internal.Linear.Expr):Nat.Internal.Linear.Expr:=.mulL k a
noncomputable abbrev Ae:Nat.Internal.Linear.Expr:=.var 0
noncomputable abbrev Ag:Nat.Internal.Linear.Expr:=.var 1
noncomputable abbrev BK:Nat.Internal.Linear.Expr:=.var 2
noncomputable abbrev FM:Nat.Internal.Linear.Expr:=.var 3
noncomputable abbrev MK:Nat.Internal.Linear.Expr:=.var 4
noncomputable abbrev VB:Nat.Internal.Linear.Expr:=.var 5
noncomputable abbrev mr(a:Nat):Nat.Internal.Linear.Context:=.leaf a
noncomputable abbrev IZ(a b:Nat):Nat.Internal.Linear.Context:=.branch 1 (.leaf a) (.leaf b)
noncomputable abbrev FO(a b c:Nat):Nat.Internal.Linear.Context:=.branch 1 (.leaf a) (.branch 2 (.leaf b) (.leaf c))
noncomputable abbrev XI(a b c d:Nat):Nat.Internal.Linear.Context:=.branch 1 (.leaf a) (.branch 2 (.leaf b) (.branch 3 (.leaf c) (.leaf d)))
noncomputable abbrev jk(a b c d e:Nat):Nat.Internal.Linear.Context:=.branch 1 (.leaf a) (.branch 2 (.leaf b) (.branch 3 (.leaf c) (.branch 4 (.leaf d) (.leaf e))))
noncomputable abbrev bV(a b c d e f:Nat):Nat.Internal.Linear.Context:=.branch 1 (.leaf a) (.branch 2 (.leaf b) (.branch 3 (.leaf c) (.branch 4 (.leaf d) (.branch 5 (.leaf e) (.leaf f)))))
noncomputable abbrev l8:Nat.Internal.Linear.Expr:=.var 6
noncomputable abbrev l9(a b c d e f g:Nat):Nat.Internal.Linear.Context:=.branch 1 (.leaf a) (.branch 2 (.leaf b) (.branch 3 (.leaf c) (.branch 4 (.leaf d) (.branch 5 (.leaf e) (.branch 6 (.leaf f) (.leaf g))))))
theorem nQ{a b c d:Nat}(h:a<b)(k:c<=d):a+1+c<=b+d:=o7 h k
theorem Ap{P:Prop}(h:∀ G:Prop,(P->G)->G):P:=h P id
theorem ms(n:Nat):(-1+(n:Int)).toNat=n - 1:=(congrArg Int.toNat (Int.add_comm (-1) n)).trans (Int.toNat_sub n 1)
theorem mt{n:Nat}(h:0<n):0<=-1+(n:Int):=(Int.add_le_add_left (Int.ofNat_le.mpr h) (-1):-1+1<=-1+(n:Int))
theorem mu(n:Nat):-1+(n:Int)<n:=lt_of_lt_of_eq (Int.add_lt_add_right (by decide:(-1:Int)<0) n) (Int.zero_add _)
theorem Xv(a n:Nat):min (a:Int) (n:Int)=((min a n:Nat):Int):=(Nat.le_total a n).elim (fun h=>(Int.min_eq_left (Int.ofNat_le.mpr h)).trans (congrArg _ (Nat.min_eq_left h).symm)) fun h=>(Int.min_eq_right (Int.ofNat_le.mpr h)).trans (congrArg _ (Nat.min_eq_right h).symm)
theorem jy(a n:Nat):(max 0 (min (a:Int) (n:Int))).toNat=min a n:=(congrArg Int.toNat ((congrArg (max 0) (Xv a n)).trans (Int.max_eq_right (pG _)))).trans (Int.toNat_natCast _)
theorem bW{i k:Nat}(h:i<k):k - i=k - (i+1)+1:=(Nat.succ_pred_eq_of_pos (Nat.sub_pos_of_lt h)).symm
theorem mw(a n:Nat):min ((max 0 (min (a:Int) (n:Int))).toNat - 0) n=min a n:=(congrArg (min · n) (jy a n)).trans (Nat.min_eq_left (Nat.min_le_right a n))
theorem go4:∀ m,m<=3->(6*((m+1:Nat):Int) - 8*(((m+1:Nat):Int) - 1)).toNat=6*(m+1) - 8*(m+1 - 1)/\0<=6*((m+1:Nat):Int) - 8*(((m+1:Nat):Int) - 1)/\6*((m+1:Nat):Int) - 8*(((m+1:Nat):Int) - 1)<=256:=by decide
theorem mx{a e s:Nat}(h1:a<s)(h2:s<e):a<=s - 1/\s - 1<=e/\s+1<=e/\a<=s+1/\(a<e->a<s+1)/\s - 1<=s+1:=⟨Nat.le_sub_one_of_lt h1,om (Nat.sub_le _ _) (qU h2),h2,qP (qU h1),fun _=>Nat.lt_succ_of_lt h1,om (Nat.sub_le _ _) (Nat.le_succ _)⟩
theorem my{a e s:Nat}(h1:a<=s)(h2:s<e):a<=s/\s<=e/\s+1<=e/\a<=s+1/\(a<e->a<s+1)/\s<=s+1:=⟨h1,qU h2,h2,qP h1,fun _=>Nat.lt_succ_of_le h1,Nat.le_succ _⟩
theorem mz{L k i:Nat}(h:i<0+(L+k) / (k+1)):(k+1)*i<L:=by
 rw [Nat.zero_add] at h
 have:=(Nat.le_div_iff_mul_le (pW k)).mp h
 rw [Nat.mul_comm] at this
 exact Nat.le_of_add_le_add_right (b:=k) (om (pL (Nat.add_right_comm _ 1 k)) this)
theorem mB{L k:Nat}:L<=(k+1)*(0+(L+k) / (k+1)):=by
 rw [Nat.zero_add]
 exact Nat.le_of_add_le_add_right (b:=k+1) (Nat.lt_mul_div_succ (L+k) (pW k))
theorem m5{a b c:Int}(hc:0<c)(h:a<b):(b - a - 1) / c+1=(((b - a+c - 1) / c).toNat:Int):=by
 have e:b - a+c - 1=b - a - 1+1*c:=(Int.add_right_comm (b - a) c (-1)).trans (congrArg _ (Int.one_mul c).symm)
 rw [e,Int.add_mul_ediv_right _ _ (Int.ne_of_gt hc)]
 exact(Int.toNat_of_nonneg (Int.add_nonneg (Int.ediv_nonneg (Int.sub_nonneg_of_le (Int.sub_pos_of_lt h)) (Int.le_of_lt hc)) (by decide))).symm
theorem jz{a b c:Int}(hc:0<c)(h:¬a<b):0=(((b - a+c - 1) / c).toNat:Int):=by
 have e:(b - a+c - 1) / c<1:=Int.ediv_lt_of_lt_mul hc (lt_of_lt_of_eq (Int.sub_one_lt_of_le (Int.add_le_add_right (Int.sub_nonpos_of_le (Int.not_lt.mp h)) c)) ((Int.zero_add c).trans (Int.one_mul c).symm))
 exact(congrArg _ (Int.toNat_of_nonpos (Int.lt_add_one_iff.mp e))).symm
theorem mD{a b:Int}(h:a<b):b - a=((b - a).toNat:Int):=(Int.toNat_of_nonneg (Int.sub_nonneg_of_le (Int.le_of_lt h))).symm
theorem mE{a b:Int}(h:¬a<b):0=((b - a).toNat:Int):=congrArg _ (Int.toNat_of_nonpos (Int.sub_nonpos_of_le (Int.not_lt.mp h))).symm
theorem jl{a b c:Int}(hc:0<=c)(ha:-1099511627776<a/\a<1099511627776)(hb:-1099511627776<b/\b<1099511627776)(h:a<b):-9000000000000<(b - a - 1) / c+1/\(b - a - 1) / c+1<9000000000000:=by
 have h0:0<=(b - a - 1) / c:=Int.ediv_nonneg (Int.sub_nonneg_of_le (Int.sub_pos_of_lt h)) hc
 have h1:(b - a - 1) / c+1<=b - a:=Int.add_le_add_right (Int.ediv_le_self c (Int.sub_nonneg_of_le (Int.sub_pos_of_lt h))) 1 |> fun q=>le_of_le_of_eq q (Int.sub_add_cancel _ 1)
 exact⟨qJ (by decide) (Int.add_le_add_right h0 1),Int.lt_of_le_of_lt h1 (Int.lt_trans (Int.sub_lt_sub hb.2 ha.1) (by decide))⟩
theorem m6{a b L n:Nat}(h2:n<b - a)(h3:¬n<min b L - a):L<=a+n:=oy fun q=>h3 (Nat.sub_min_sub_right b L a▸Nat.lt_min.mpr ⟨h2,Nat.lt_sub_of_add_lt (Nat.add_comm a n▸q)⟩)
theorem m9{a b L n:Nat}(h2:¬n<b - a):¬n<min b L - a:=fun h=>h2 (pJ h (Nat.sub_le_sub_right (Nat.min_le_left _ _) a))
theorem nA{a L n:Nat}(h:¬a<=L):L<=min a L+n:=om (Nat.le_min.mpr ⟨Nat.le_of_not_le h,ou _⟩) (pB _ _)
theorem nB(m:Nat):((m:Int) - 1 - (-1)).toNat=m:=(congrArg Int.toNat (Int.sub_add_cancel m 1)).trans (Int.toNat_natCast m)
theorem nE{m n:Nat}(h:n<m):(m:Int) - 1+-(n:Int)=((m - 1 - n:Nat):Int):=((Int.natCast_sub (Nat.le_sub_one_of_lt h)).trans (congrArg (· - (n:Int)) (Int.natCast_sub (Nat.one_le_of_lt h)))).symm
theorem nF{m:Nat}(h:m<=1000000):-1099511627776<(m:Int) - 1/\(m:Int) - 1<1099511627776:=⟨qJ (by decide) (Int.sub_le_sub_right (pG m) 1),Int.lt_of_le_of_lt (Int.sub_le_self _ (by decide)) (pI.mpr (pC h (by decide)))⟩
theorem mF{t w P:Nat}(hw:w<64)(ht:t<P):64*t+w<P*64:=pJ (Nat.add_lt_add_left hw _) (Nat.mul_comm P 64▸pS 64 ht)
theorem j0{t w P:Nat}(hw:w<64)(ht:t<P):t*64+w<P*64:=Nat.mul_comm 64 t▸mF hw ht
theorem rg(b k:Nat):(((b:Int) - 0+((k+1:Nat):Int) - 1) / ((k+1:Nat):Int)).toNat=(b+k) / (k+1):=by
 rw [Int.sub_zero,show (b:Int)+((k+1:Nat):Int) - 1=((b+k:Nat):Int) from Int.add_sub_cancel (b+k:Nat) 1];rfl
theorem nG{a b:Nat}(h:(1:Int)<(a:Int) - (b:Int)):1<a - b:=Int.toNat_sub a b▸Int.lt_toNat.mpr h
theorem nH{a b:Nat}(h:¬(1:Int)<(a:Int) - (b:Int)):¬1<a - b:=fun q=>h (Int.lt_toNat.mp (Int.toNat_sub a b▸q))
theorem fp{f a n:Nat}(h:n<=a+f)(k:a<n):f=f - 1+1:=(Nat.succ_pred_eq_of_pos (Nat.pos_of_ne_zero fun e=>Nat.not_lt_of_le (e▸h:n<=a+0) k)).symm
theorem fs{n a f k:Nat}(h:n<=a+(f+1))(hk:1<=k):n<=a+k+f:=om h (Nat.add_right_comm a k f▸qo hk (a+f))
theorem mG{c m k n:Nat}(h:c<=m)(d:m - k<n):c - k<n:=pC (Nat.sub_le_sub_right h k) d
theorem mH{L i R:Nat}(h:L - i=R+1+1):i+2<=L:=om (qo (h▸qW 2 R:2<=L - i) i) (pL (Nat.add_sub_cancel' (qU (Nat.lt_of_sub_pos (h▸pW _)))))
theorem nI{L i R:Nat}(h:L - i=R+1+1):L - R=i+2:=by
 have e:L=i+(R+1+1):=h▸(Nat.add_sub_cancel' (qU (Nat.lt_of_sub_pos (h▸pW _)))).symm
 exact Nat.sub_eq_of_eq_add (e.trans (Nat.add_right_comm i R 2))
theorem sl1{n e dl a k:Nat}(h:k<n)(h':n<=min e dl - a):a+k<e/\a+k<dl:=Nat.lt_min.mp (Nat.add_lt_of_lt_sub' (pJ h h'))
theorem nJ{i:Int}(h:-9000000000000<i/\i<9000000000000):-2 ^ 63<=i/\i<2 ^ 63:=⟨Int.le_trans (by decide) (Int.le_of_lt h.1),Int.lt_trans h.2 (by decide)⟩
theorem wd{a:Int}(h:-1099511627776<a/\a<1099511627776):-9000000000000<a/\a<9000000000000:=⟨Int.lt_trans (by decide) h.1,Int.lt_trans h.2 (by decide)⟩
theorem bM{c:Int}(h:c=1∨c=4∨c=3∨c=-1):-1<=c/\c<=4:=by rcases h with rfl | rfl | rfl | rfl<;>exact⟨by decide,by decide⟩
theorem mI{b c:Int}(h:-1099511627776<b/\b<1099511627776)(h1:-2<=c)(h2:c<=5):-9000000000000<b+c/\b+c<9000000000000:=⟨Int.lt_trans (by decide) (Int.add_lt_add_of_lt_of_le h.1 h1),Int.lt_trans (Int.add_lt_add_of_lt_of_le h.2 h2) (by decide)⟩
theorem nN{i k:Int}{n:Nat}(h:0<=k/\k<n)(e:i+n=k):k.toNat<n/\-(n:Int)<=i/\i<n:=by
 subst e
 exact⟨(Int.toNat_lt h.1).mpr h.2,Int.neg_le_of_neg_le (Int.neg_le_of_neg_le (Int.le_of_sub_nonneg ((Int.sub_neg i n).symm▸h.1))),qJ (Int.lt_of_add_lt_add_right (lt_of_lt_of_eq h.2 (Int.zero_add _).symm)) (pG n)⟩
theorem nR{i j:Int}(h:j - i<1):j.toNat - i.toNat=0:=Nat.sub_eq_zero_of_le (Int.toNat_le_toNat (Int.le_of_sub_nonpos (Int.lt_add_one_iff.mp h)))
theorem cx{x:Int}(h:0<=x)(c:Nat):(c:Int)=x↔c=x.toNat:=⟨fun e=>e▸rfl,fun e=>e▸Int.toNat_of_nonneg h⟩
theorem nU{x:Int}(h:-4611686018427387904<x/\x<4611686018427387904):x.natAbs<4611686018427387904:=
 pI.mp ((Int.natAbs_eq x).elim (fun e=>lt_of_eq_of_lt e.symm h.2) fun e=>lt_of_eq_of_lt (Int.neg_eq_comm.mp e.symm).symm (Int.neg_lt_of_neg_lt h.1))
theorem nV{x m:Int}(h:x<m)(h0:0<=x):(x.natAbs:Int)<m:=(Int.natAbs_of_nonneg h0).symm▸h
theorem mJ{L a Y Z:Nat}(h:L - a=Y+(Z+1)):a+Y<L:=Nat.add_lt_of_lt_sub' (h▸qc (pW Z))
theorem j3{a k:Nat}(ha:a<256)(hk:k<65536):a*65536+k<16777216:=pJ (Nat.add_lt_add_left hk _) (Nat.succ_mul a 65536▸Nat.mul_le_mul_right 65536 ha)
theorem mK{a k:Nat}(ha:a<256)(hk:k<256):a*256+k<65536:=pJ (Nat.add_lt_add_left hk _) (Nat.succ_mul a 256▸Nat.mul_le_mul_right 256 ha)
theorem j4{a n l:Nat}(h:a<l)(k:n<=4):a+n<=l+3:=Nat.le_of_lt_succ (pJ (Nat.add_lt_add_right h n) (qo k l))
theorem x3(a b c:Nat):a*65536+b*256+c=(a*256+b)*256+c:=congrArg (·+c) (((Nat.add_mul (a*256) b 256).trans (congrArg (·+b*256) (Nat.mul_assoc a 256 256))).symm)
theorem nX{u v:Nat}(hu:u<16)(hv:v<16):16*u+v<256:=pJ (Nat.add_lt_add_left hv _) (Nat.mul_succ 16 u▸pS 16 hu)
theorem mO{b L k n:Nat}(h:L<=n):min b L - k<=n:=om (Nat.sub_le _ _) (om (Nat.min_le_right _ _) h)
theorem su{L k n:Nat}(h:L<=n):L - k<=n:=om (Nat.sub_le _ _) h
theorem al{c:Nat}(h:((48<=c/\c<=57)∨65<=c/\c<=90)∨97<=c/\c<=122):¬c=95/\¬c=61/\¬c=63/\(33<=c/\c<=126)/\¬c=63:=
 ⟨fun e=>absurd (e▸h) (by decide),fun e=>absurd (e▸h) (by decide),fun e=>absurd (e▸h) (by decide),h.elim (fun h=>h.elim (fun h=>⟨om (by decide) h.1,om h.2 (by decide)⟩) fun h=>⟨om (by decide) h.1,om h.2 (by decide)⟩) fun h=>⟨om (by decide) h.1,om h.2 (by decide)⟩,fun e=>absurd (e▸h) (by decide)⟩
theorem j5(a b:Nat):((a:Int)==b)=(b==a):=Bool.eq_iff_iff.mpr ((beq_iff_eq.trans Int.ofNat_inj).trans (eq_comm.trans beq_iff_eq.symm))
theorem nY(a b:Nat):decide ((a:Int)=b)=(a==b):=Bool.eq_iff_iff.mpr ((decide_eq_true_iff.trans Int.ofNat_inj).trans beq_iff_eq.symm)
theorem ub(b:Nat){n:Nat}(h:b<n):0<=(b:Int)/\(b:Int)<(n:Int):=⟨pG b,pI.mpr h⟩
theorem j6:∀ k,k<=3->k=0∨k=1∨k=2∨k=3:=by decide
theorem j7{b k n:Nat}(h:b+k<=n)(m:Nat):(b+k) / m<=n:=om (Nat.div_le_self _ _) h
theorem nZ{f a n:Nat}(h:n+3<=f+a)(k:a<=n):f=f - 1+1:=fp (a:=a) (n:=n+3) (Nat.add_comm f a▸h) (pC k (qc (by decide)))
theorem mQ{A R n:Nat}(h:A<=R+1 - n)(k:1<=n):A+1<=R+1:=qb (om h (Nat.sub_le_sub_left k (R+1)))
theorem Xw{k:Int}{n:Nat}(hn:n<=16777216)(h1:-(n:Int)<=k)(h2:k<n):-2 ^ 63<=k/\k<2 ^ 63:=⟨Int.le_trans (Int.le_trans (by decide) (Int.neg_le_neg (Int.ofNat_le.mpr hn))) h1,Int.lt_trans (qJ h2 (Int.ofNat_le.mpr hn)) (by decide)⟩
section
variable{α β:Type}{M:Model}{A:Around}{s:Shared}{E:Value->Shared->Prop}{Q:α->Shared->Prop}{R:β->Shared->Prop}{f:α->Sem β}{m m' x y:Sem α}{c:Prop}
end
set_option genCtorIdx false in
inductive PV where
 | none
 | bool (b:Bool)
 | int (i:Int)
 | str (s:List Nat)
 | bytes (b:List Nat)
 | tup (l:List PV)
 | lst (l:List PV)
 | fn (n:Str)
 | bi (id:String)
 | ty (n:String)
 | kls (n:Str)
 | field (name raw:List Nat)
 | idict (f:Int->Option Int)
 | sdict (f:List Nat->Option (List Nat))
 | addr (a:Addr)
noncomputable def PV.ctorIdx(x:PV):Nat:=match x with
 | .none ..=>0
 | .bool ..=>1
 | .int ..=>2
 | .str ..=>3
 | .bytes ..=>4
 | .tup ..=>5
 | .lst ..=>6
 | .fn ..=>7
 | .bi ..=>8
 | .ty ..=>9
 | .kls ..=>10
 | .field ..=>11
 | .idict ..=>12
 | .sdict ..=>13
 | .addr ..=>14
noncomputable abbrev toB(b:List Nat):Array UInt8:=(b.map UInt8.ofNat).toArray
noncomputable abbrev toS(s:List Nat):Str:=⟨s.toArray⟩
noncomputable abbrev BL(b:List Nat):Prop:=∀ x∈b,x<256
structure Al where
 prog:Program
 w:World
 base:Heap
 mg:Str->Option Value
 mb:Str->Option Value
 fieldCls:Addr
 wordFn:Addr
noncomputable def bX(C:Al)(f:Str)(a:Addr):Prop:=C.mg f=some (.ref a)∨(f = "Field.word" /\ a=C.wordFn)
inductive F8(C:Al)(h:Heap)(X:Addr->Prop)(a:Addr)(name raw:List Nat):Prop where
 | mk (d:Addr) (mA:Str->Option Value) (t1 t2:Tok) (x:¬X a) (y:¬X d) (i:h.Inst a C.fieldCls mA) (o:∀ o,h.get? a=some o->o.dict=some d)
  (n:mA "name" = some (.bytes (toB name) t1)) (r:mA "raw" = some (.bytes (toB raw) t2)) (w:mA "word" = none):F8 C h X a name raw
noncomputable abbrev DE(h:Heap)(a:Addr)(vs:List Value):Prop:=∃ n,h.get? a=some { cls:=.type "tuple",data:=.seq vs.toArray n }
theorem DE.is(x:DE h a vs):h.IsTuple a vs.toArray:=(by(refine AI x ?_;rintro n e);exact⟨_,e,rfl,n,rfl⟩)
inductive Xx:Option Int->Option Value->Prop where
 | none:Xx none none
 | some (i:Int) (t:Tok):Xx (some i) (some (.int i t))
inductive VC:Option (List Nat)->Option Value->Prop where
 | none:VC none none
 | some {i:List Nat} (hz:i.length<=sizeLine) (t:Tok):VC (some i) (some (.str (toS i) t))
structure DB(C:Al)(h:Heap)(f:Int->Option Int)(a:Addr)(g:Int->Option Value):Prop where
 nm:(a==sysModules)=false
 m:h.MapOf (intKind C.prog C.w) a g
 at_:∀ k,Xx (f k) (g k)
structure Eo(C:Al)(h:Heap)(f:List Nat->Option (List Nat))(a:Addr)(g:Str->Option Value):Prop where
 nm:(a==sysModules)=false
 m:h.MapOf (strKind C.prog C.w) a g
 at_:∀ k,VC (f k) (g (toS k))
inductive Xy(i:Int):Value->Prop where
 | mk (t:Tok):Xy i (.int i t)
inductive ML(s:List Nat):Value->Prop where
 | mk (hz:s.length<=sizeLine) (t:Tok):ML s (.str (toS s) t)
inductive R2(b:List Nat):Value->Prop where
 | mk (ok:BL b) (hz:b.length<=sizeLine) (t:Tok):R2 b (.bytes (toB b) t)
inductive KJ(H:Value->Prop)(T:List Value->Prop):List Value->Prop where
 | mk (v:Value) (vs:List Value) (h:H v) (t:T vs):KJ H T (v::vs)
inductive MM(n:Nat)(X:Addr->Prop)(At:Addr->List Value->Prop)(R:List Value->Prop):Value->Prop where
 | mk (hz:n<=sizeLine) (a:Addr) (vs:List Value) (ha:¬X a) (ht:At a vs) (hv:R vs):MM n X At R (.ref a)
inductive HP{K:Type}(X:Addr->Prop)(At:Addr->(K->Option Value)->Prop):Value->Prop where
 | mk (a:Addr) (g:K->Option Value) (ha:¬X a) (ht:At a g):HP X At (.ref a)
inductive Nn(m:Option Value):Value->Prop where
 | mk (a:Addr) (e:m=some (.ref a)):Nn m (.ref a)
inductive Gg(C:Al)(h:Heap)(X:Addr->Prop)(n r:List Nat):Value->Prop where
 | mk (on:BL n) (zn:n.length<=sizeLine) (or:BL r) (zr:r.length<=sizeLine) (a:Addr) (hf:F8 C h X a n r):Gg C h X n r (.ref a)
noncomputable abbrev Xz(h:Heap)(a:Addr)(vs:List Value):Prop:=h.IsList a vs.toArray
mutual
noncomputable def AJ(C:Al)(h:Heap)(X:Addr->Prop):PV->Value->Prop
 | .none,v=>v=.none
 | .bool b,v=>v=.bool b
 | .int i,v=>Xy i v
 | .str s,v=>ML s v
 | .bytes b,v=>R2 b v
 | .tup l,v=>MM l.length X (DE h) (AF C h X l) v
 | .lst l,v=>MM l.length X (Xz h) (AF C h X l) v
 | .fn n,v=>Nn (C.mg n) v
 | .bi id,v=>v=.builtin id
 | .ty n,v=>v=.type n
 | .kls n,v=>Nn (C.mg n) v
 | .field name raw,v=>Gg C h X name raw v
 | .idict f,v=>HP X (DB C h f) v
 | .sdict f,v=>HP X (Eo C h f) v
 | .addr a,v=>v=.ref a
noncomputable def AF(C:Al)(h:Heap)(X:Addr->Prop):List PV->List Value->Prop
 | [],vs=>vs=[]
 | p::ps,vs=>KJ (AJ C h X p) (AF C h X ps) vs
end
noncomputable def R3:Value->Bool
 | .type n=>n == "list_iterator" || n == "tuple_iterator" || n == "range_iterator" || n == "bytes_iterator" || n == "str_iterator" || n == "str_ascii_iterator" || n == "zip" || n == "enumerate"
 | _=>false
noncomputable def Fa(h:Heap)(b:Addr):Prop:=∃ o,h.get? b=some o/\R3 o.cls=true/\∀ es n,o.data≠.dict es n
theorem noIt{o:Obj}(e:h.get? a=some o)(c:R3 o.cls=false):¬Fa h a:=fun zq=>by
 refine Cp zq ?_;rintro o' e' c' _
 exact by
  (replace e':=(e)▸e');(refine sI e' ?_;clear e';intro zz;induction zz);(replace c':=(c)▸c');exact fT c'
theorem R4(x:h.Ns1 a m):¬Fa h a:=fun zq=>by
 refine Cp zq ?_;rintro o' e' _ q
 exact by
  (refine IY x ?_;rintro o es ep e d _)
  (replace e':=(e)▸e');(refine sI e' ?_;clear e';intro zz;induction zz);exact q _ _ d
theorem DE.noIt(x:DE h a vs):¬Fa h a:=(by(refine AI x ?_;rintro _ e);exact Mine.Lake.noIt e (by refine(?_:R3 (.type "tuple")=false);rfl))
theorem QY(x:h.IsList a vs):¬Fa h a:=(by refine Cp x ?_;rintro _ e c _;exact Mine.Lake.noIt e (by(refine AA c ?_);rfl))
noncomputable def KX(P F:Addr->Prop)(h h':Heap):Prop:=
 ∀ b o,¬P b->h.get? b=some o->(¬F b->h'.get? b=some o)/\∃ sl,h'.get? b=some { o with slots:=sl }
noncomputable abbrev Ax:Addr->Prop:=fun _=>False
theorem KX.refl(P F:Addr->Prop)(h:Heap):KX P F h h:=fun _ o _ e=>⟨fun _=>e,o.slots,e⟩
theorem KX.trans_news(x:KX P F h h')(y:KX P' F' h' h'')(hP:∀ b,P' b->P b∨h.get? b=none)(hF:∀ b,F' b->F b∨h.get? b=none):KX P F h h'':=fun b o hb e=>by
 refine Ap fun G kk=>?_;obtain ⟨e1,sl,e2⟩:=x b o hb e
 obtain ⟨_,sl',e4⟩:=y b _ (fun q=>(hP b q).elim hb fun z=>by(replace e:=(z)▸e);exact nS e) e2;refine kk ?_
 refine⟨fun hc=>?_,sl',e4⟩
 exact(y b _ (fun q=>(hP b q).elim hb fun z=>by(replace e:=(z)▸e);exact nS e) (e1 hc)).1 fun q=>(hF b q).elim hc fun z=>by(replace e:=(z)▸e);exact nS e
theorem KX.trans(x:KX P F h h')(y:KX P F h' h''):KX P F h h'':=x.trans_news y (fun _ q=>.inl q) fun _ q=>.inl q
theorem KX.of_keepsBut(k:∀ b o,¬P b->h.get? b=some o->h'.get? b=some o):KX P F h h':=fun b o hb e=>⟨fun _=>k b o hb e,o.slots,k b o hb e⟩
theorem KX.of_keeps(k:∀ b o,h.get? b=some o->h'.get? b=some o):KX P F h h':=.of_keepsBut fun b o _ e=>k b o e
theorem KX.news(x:KX P F h h')(hP:∀ b,P b->P' b∨h.get? b=none)(hF:∀ b,F b->F' b∨h.get? b=none):KX P' F' h h':=
 (KX.refl P' F' h).trans_news x hP hF
theorem KX.mono(x:KX P F h h')(hP:∀ b,P b->P' b)(hF:∀ b,F b->F' b):KX P' F' h h':=x.news (fun b q=>.inl (hP b q)) fun b q=>.inl (hF b q)
theorem KX.lives(x:KX P F h h')(hb:¬P b)(e:h.get? b=some o):∃ sl,h'.get? b=some { o with slots:=sl }:=(x b o hb e).2
theorem KX.at(x:KX P F h h')(hb:¬P b)(hf:¬F b)(e:h.get? b=some o):h'.get? b=some o:=(x b o hb e).1 hf
theorem KX.tupAt(x:KX P F h h')(ha:¬P a)(hf:¬F a)(t:DE h a vs):DE h' a vs:=
 (by(refine AI t ?_;rintro n e);exact⟨n,x.at ha hf e⟩)
theorem KX.list(x:KX P F h h')(ha:¬P a)(t:h.IsList a vs):h'.IsList a vs:=
 (by refine Cp t ?_;rintro o e c d;exact(by(refine AI (x.lives ha e) ?_;rintro _ e2);exact⟨_,e2,c,d⟩))
theorem KX.ns(x:KX P F h h')(ha:¬P a)(t:h.Ns a m):h'.Ns a m:=
 (by refine IY t ?_;rintro o es ep e d r;exact(by(refine AI (x.lives ha e) ?_;rintro _ e2);exact⟨_,es,ep,e2,d,r⟩))
theorem KX.isCell(x:KX P F h h')(ha:¬P a)(t:h.IsCell a v):h'.IsCell a v:=
 (by refine AE t ?_;rintro _ e d;exact(by(refine AI (x.lives ha e) ?_;rintro _ e2);exact⟨_,e2,d⟩))
theorem KX.mapOf{K:Type}[DecidableEq K]{prog:Program}{w:World}{knd:KeyKind prog w K}{P F:Addr->Prop}{h h':Heap}(x:KX P F h h'){a:Addr}{g:K->Option Value}(ha:¬P a)(hf:¬F a)(t:h.MapOf knd a g):h'.MapOf knd a g:=
 (by refine IY t ?_;rintro o es ep e c r;exact⟨o,es,ep,x.at ha hf e,c,r⟩)
theorem No{K:Type}[DecidableEq K]{prog:Program}{w:World}{knd:KeyKind prog w K}{h:Heap}{a:Addr}{g:K->Option Value}(t:h.MapOf knd a g):¬Fa h a:=
 (by refine IY t ?_;rintro _ _ _ e c _;exact Mine.Lake.noIt e (by(refine AA c.1 ?_);rfl))
theorem Fb{K:Type}[DecidableEq K]{prog:Program}{w:World}{knd:KeyKind prog w K}{h:Heap}{a:Addr}{g:K->Option Value}(t:h.MapOf knd a g):∃ o,h.get? a=some o:=
 (by refine IX t ?_;rintro o _ _ e _;exact⟨o,e⟩)
theorem Np{h:Heap}(e:h.get? a=some o)(hx:¬X):¬(X∨h.get? a=none):=fun q=>q.elim hx fun z=>by(replace e:=(z)▸e);exact nS e
theorem F8.move{P F:Addr->Prop}{h h':Heap}{a:Addr}(k:KX P F h h')(hP:∀ b,P b->X b∨Fa h b)(hX:∀ b,X' b->X b∨h.get? b=none)(x:F8 C h X a n r):F8 C h' X' a n r:=by
 obtain ⟨d,mA,t1,t2,ha,hd,⟨o,e,c,nc,hk⟩,hdd,h1,h2,h3⟩:=x
 rcases hk with ⟨hn,_⟩ | ⟨d',e',ne,ns⟩
 ·(replace hn:=((hdd o e))▸hn);exact sN hn
 ·obtain rfl:=pP ((hdd o e).symm.trans e')
  have pa:=fun q=>(hP _ q).elim ha (Mine.Lake.noIt e (by(refine AA c ?_);rfl))
  (refine AI (k.lives pa e) ?_;rintro sl e2)
  have ns':h'.Ns1 d mA:=by
   refine Ap fun G kk=>?_;(refine IX ns ?_;rintro o' es ep e3 r)
   (refine AI (k.lives (fun q=>(hP _ q).elim hd (R4 ns)) e3) ?_;rintro _ e4);refine kk ?_
   exact⟨_,es,ep,e4,r⟩
  refine⟨d,mA,t1,t2,fun q=>Np e ha (hX _ q),fun q=>?_,⟨_,e2,c,nc,.inr ⟨d,(hdd o e),ne,ns'⟩⟩,fun o' e'=>?_,h1,h2,h3⟩
  ·(refine IX ns ?_;rintro o' _ _ e3 _)
   exact Np e3 hd (hX _ q)
  ·(replace e':=(e2)▸e');(refine sI e' ?_;clear e';intro zz;induction zz);exact(hdd o e)
theorem DE.some(t:DE h a vs):∃ o,h.get? a=.some o:=(by(refine AI t ?_;rintro _ e);exact⟨_,e⟩)
theorem QZ{h:Heap}(t:h.IsList a vs):∃ o,h.get? a=some o:=(by refine AE t ?_;rintro o e _;exact⟨o,e⟩)
theorem KX.map'{K:Type}[DecidableEq K]{prog:Program}{w:World}{knd:KeyKind prog w K}{P F X:Addr->Prop}{h h':Heap}(k:KX P F h h')(hP:∀ b,P b->X b∨Fa h b)(hF:∀ b,F b->X b){a:Addr}{g:K->Option Value}(ha:¬X a)(m:h.MapOf knd a g):h'.MapOf knd a g:=
 k.mapOf (fun q=>(hP _ q).elim ha (No m)) (fun q=>ha (hF _ q)) m
theorem H6{h:Heap}{X X':Addr->Prop}(hX:∀ b,X' b->X b∨h.get? b=none)(ha:¬X a)(e:∃ o,h.get? a=some o):¬X' a:=fun q=>(by(refine AI e ?_;rintro _ e);exact Np e ha (hX _ q))
theorem DB.move{P F X:Addr->Prop}(k:KX P F h h')(hP:∀ b,P b->X b∨Fa h b)(hF:∀ b,F b->X b){a:Addr}(ha:¬X a)(x:DB C h f a g):DB C h' f a g:=⟨x.nm,k.map' hP hF ha x.m,x.at_⟩
theorem Eo.move{P F X:Addr->Prop}(k:KX P F h h')(hP:∀ b,P b->X b∨Fa h b)(hF:∀ b,F b->X b){a:Addr}(ha:¬X a)(x:Eo C h f a g):Eo C h' f a g:=⟨x.nm,k.map' hP hF ha x.m,x.at_⟩
theorem MM.imp(x:MM n X At R v)(hX:∀ a vs,At a vs->¬X a->¬X' a)(hA:∀ a vs,¬X a->At a vs->At' a vs)(hR:∀ vs,R vs->R' vs):MM n X' At' R' v:=by
 induction x with
 | mk hz a vs ha ht hv=>exact⟨hz,a,vs,hX a vs ht ha,hA a vs ha ht,hR vs hv⟩
theorem HP.imp{K:Type}{X X':Addr->Prop}{At At':Addr->(K->Option Value)->Prop}(x:HP X At v)(hX:∀ a g,At a g->¬X a->¬X' a)(hA:∀ a g,¬X a->At a g->At' a g):HP X' At' v:=by
 induction x with
 | mk a g ha ht=>exact⟨a,g,hX a g ht ha,hA a g ha ht⟩
theorem Gg.move(k:KX P F h h')(hP:∀ b,P b->X b∨Fa h b)(hX:∀ b,X' b->X b∨h.get? b=none)(x:Gg C h X n r v):Gg C h' X' n r v:=by
 induction x with
 | mk a1 a2 a3 a4 a hf=>exact⟨a1,a2,a3,a4,a,hf.move k hP hX⟩
theorem KJ.imp(x:KJ H T vs)(h:∀ v,H v->H' v)(t:∀ vs,T vs->T' vs):KJ H' T' vs:=by
 induction x with
 | mk v vs a b=>exact⟨v,vs,h v a,t vs b⟩
mutual
theorem AJ.move{P F:Addr->Prop}{h h':Heap}{X X':Addr->Prop}(k:KX P F h h')(hP:∀ b,P b->X b∨Fa h b)(hF:∀ b,F b->X b)(hX:∀ b,X' b->X b∨h.get? b=none):∀ (p:PV) (v:Value),AJ C h X p v->AJ C h' X' p v
 | .none,_,x=>x
 | .bool _,_,x=>x
 | .int _,_,x=>x
 | .str _,_,x=>x
 | .bytes _,_,x=>x
 | .tup l,_,x=>MM.imp x (fun _ _ ht ha=>H6 hX ha ht.some) (fun _ _ ha ht=>k.tupAt (fun q=>(hP _ q).elim ha ht.noIt) (fun q=>ha (hF _ q)) ht) (AF.move k hP hF hX l)
 | .lst l,_,x=>MM.imp x (fun _ _ ht ha=>H6 hX ha (QZ ht)) (fun _ _ ha ht=>k.list (fun q=>(hP _ q).elim ha (QY ht)) ht) (AF.move k hP hF hX l)
 | .fn _,_,x=>x
 | .bi _,_,x=>x
 | .ty _,_,x=>x
 | .kls _,_,x=>x
 | .field _ _,_,x=>Gg.move k hP hX x
 | .idict _,_,x=>HP.imp x (fun _ _ ht ha=>H6 hX ha (Fb ht.m)) fun _ _ ha ht=>ht.move k hP hF ha
 | .sdict _,_,x=>HP.imp x (fun _ _ ht ha=>H6 hX ha (Fb ht.m)) fun _ _ ha ht=>ht.move k hP hF ha
 | .addr _,_,x=>x
theorem AF.move{C:Al}{P F:Addr->Prop}{h h':Heap}{X X':Addr->Prop}(k:KX P F h h')(hP:∀ b,P b->X b∨Fa h b)(hF:∀ b,F b->X b)(hX:∀ b,X' b->X b∨h.get? b=none):∀ (l:List PV) (vs:List Value),AF C h X l vs->AF C h' X' l vs
 | [],_,x=>x
 | p::ps,_,x=>KJ.imp x (AJ.move k hP hF hX p) (AF.move k hP hF hX ps)
end
theorem AJ.mono{X X':Addr->Prop}(hX:∀ b,X' b->X b)(x:AJ C h X p v):AJ C h X' p v:=AJ.move (KX.refl Ax Ax h) (fun _ q=>q.elim) (fun _ q=>q.elim) (fun b q=>.inl (hX b q)) p v x
theorem AF.mono{X X':Addr->Prop}(hX:∀ b,X' b->X b)(x:AF C h X p v):AF C h X' p v:=AF.move (KX.refl Ax Ax h) (fun _ q=>q.elim) (fun _ q=>q.elim) (fun b q=>.inl (hX b q)) p v x
section
variable{C:Al}{h:Heap}{X:Addr->Prop}
theorem AF.length:∀ {l:List PV} {vs:List Value},AF C h X l vs->vs.length=l.length
 | [],_,x=>congrArg List.length x
 | _::l,_,x=>by induction x with | mk v vs a b=>exact congrArg Nat.succ (AF.length b)
theorem AF.get:∀ {l:List PV} {vs:List Value} (i:Nat) {p:PV},AF C h X l vs->l[i]?=some p->∃ v,vs[i]?=some v/\AJ C h X p v
 | [],_,_,_,_,e=>(nS e)
 | _::l,_,i,_,x,e=>by
  induction x with
  | mk v vs a b=>induction i with
   | zero=>exact⟨v,rfl,pP e▸a⟩
   | succ i=>exact AF.get i b e
theorem AF.append(y:AF C h X l' vs'):∀ {l:List PV} {vs:List Value},AF C h X l vs->AF C h X (l ++ l') (vs ++ vs')
 | [],_,x=>(show _=[] from x)▸y
 | _::l,_,x=>by induction x with | mk v vs a b=>exact⟨v,vs ++ vs',a,AF.append y b⟩
theorem AF.single(x:AJ C h X p v):AF C h X [p] [v]:=⟨v,[],x,rfl⟩
theorem AF.drop:∀ (n:Nat) {l:List PV} {vs:List Value},AF C h X l vs->AF C h X (l.drop n) (vs.drop n)
 | 0,_,_,x=>x
 | _+1,[],_,x=>(show _=[] from x)▸rfl
 | n+1,_::l,_,x=>by induction x with | mk v vs a b=>exact AF.drop n b
theorem AF.take:∀ (n:Nat) {l:List PV} {vs:List Value},AF C h X l vs->AF C h X (l.take n) (vs.take n)
 | 0,_,_,_=>rfl
 | _+1,[],_,x=>(show _=[] from x)▸rfl
 | n+1,_::l,_,x=>by induction x with | mk v vs a b=>exact⟨v,vs.take n,a,AF.take n b⟩
theorem AF.set(y:AJ C h X p v):∀ (n:Nat) {l:List PV} {vs:List Value},AF C h X l vs->AF C h X (l.set n p) (vs.set n v)
 | _,[],_,x=>(show _=[] from x)▸rfl
 | 0,_::l,_,x=>by induction x with | mk u vs a b=>exact⟨v,vs,y,b⟩
 | n+1,_::l,_,x=>by induction x with | mk u vs a b=>exact⟨u,vs.set n v,a,AF.set y n b⟩
end
theorem AJ.base(k:∀ b o,h.get? b=some o->h'.get? b=some o)(hX:∀ a,X a->h.get? a=none)(p:PV)(v:Value)(x:AJ C h Ax p v):AJ C h' X p v:=
 AJ.move (KX.of_keeps (P:=Ax) (F:=Ax) k) (fun _ q=>q.elim) (fun _ q=>q.elim) (fun b q=>.inr (hX b q)) p v x
set_option genCtorIdx false in
inductive Slot where
 | un
 | fr (p:PV)
 | ow (l:List PV)
noncomputable def Slot.ctorIdx(x:Slot):Nat:=match x with
 | .un ..=>0
 | .fr ..=>1
 | .ow ..=>2
noncomputable abbrev Pu:=Option (Addr×Addr×List Int×Int)
structure St where
 vars:List Slot
 purse:Pu
noncomputable def pa(p:Pu):List Addr:=match p with
 | none=>[]
 | some (a,b,_,_)=>[a,b]
noncomputable abbrev inP(p:Pu):Addr->Prop:=fun b=>b∈pa p
noncomputable abbrev inF(l:List Env):Addr->Prop:=fun b=>b∈l.filterMap (·.frame)
noncomputable def St.get(σ:St)(x:Nat):Option Slot:=σ.vars[x]?
noncomputable def St.set(σ:St)(x:Nat)(s:Slot):St:=⟨σ.vars.set x s,σ.purse⟩
noncomputable def St.setP(σ:St)(p:Pu):St:=⟨σ.vars,p⟩
theorem St.of_set{σ:St}{x y:Nat}(h:(σ.set x s).get y=some t):(y=x/\s=t)∨(y≠x/\σ.get y=some t):=by
 by_cases q:y=x
 ·induction q
  have hl:y<(σ.vars.set y s).length:=(qM.mp h).1
  have:=List.getElem?_set_self (a:=s) (by simpa using hl)
  exact .inl ⟨rfl,pP (this.symm.trans h)⟩
 ·exact .inr ⟨q,(List.getElem?_set_ne (Ne.symm q)).symm.trans h⟩
theorem St.set_get{σ:St}(h:σ.get x=some t):(σ.set x s).get x=some s:=List.getElem?_set_self (qM.mp h).1
noncomputable def Look(env:Env)(h:Heap)(x:Str)(v:Value):Prop:=
 (env.kindOf x=some .local/\∃ m,h.Ns env.locals m/\m x=some v)∨
 ((env.kindOf x=some .cell∨env.kindOf x=some .free)/\x ≠ "__classdict__" /\ ∃ c,env.cells.lookup x=some c/\h.IsCell c (some v))
structure XJ(env:Env):Prop where
 kind:env.scope.kind=.function
 glob:env.globals=mainGlobals
 bu:env.builtins=builtinsNs
 inj:∀ x y c,env.cells.lookup x=some c->env.cells.lookup y=some c->x=y
noncomputable def Jx(base:Heap)(l:List Env)(h:Heap):Prop:=
 ∀ env∈l,env.scope.kind≠.module/\∃ L o,env.frame=some L/\base.get? L=none/\h.get? L=some o/\∀ vs,o.data≠.fields vs
theorem Jx.fun:∀ {base:Heap} {l:List Env} {h:Heap},Jx base l h->h.FunFrames base l
 | _,[],_,_=>trivial
 | _,env::l,_,x=>⟨(x env (List.Mem.head _)).1,(by refine bT ((x env (List.Mem.head _)).2) ?_;rintro L o a b c d;exact⟨L,o,a,b,c,d⟩),Jx.fun fun e he=>x e (by simp [he])⟩
theorem Jx.inF{base:Heap}{h:Heap}(x:Jx base l h)(hb:inF l b):base.get? b=none/\∃ o,h.get? b=some o/\∀ vs,o.data≠.fields vs:=by
 simp only [List.mem_filterMap] at hb
 refine Ap fun G kk=>?_;(refine AE hb ?_;clear hb;rintro env he hf)
 obtain ⟨_,L,o,e1,e2,e3,e4⟩:=x env he
 (replace hf:=(e1)▸hf);(refine sI hf ?_;clear hf;intro zz;induction zz);refine kk ?_
 exact⟨e2,o,e3,e4⟩
noncomputable def Ah(P:Pu)(X:Addr->Prop)(h:Heap):Prop:=match P with
 | none=>True
 | some (p,c,ns,t)=>X p/\X c/\p≠c/\(∃ tk,h.IsList p #[.ref c,.int t tk])/\∃ vs:List Value,h.IsList c vs.toArray/\IntsAre vs ns
noncomputable def B2(A:Around)(P:Addr->Prop)(h:Heap):Prop:=
 A.handled=none∨∃ e o fs,A.handled=some (.ref e)/\¬P e/\h.get? e=some o/\o.data=.fields fs/\fs[2]?=some .none
inductive Ba(h:Heap)(a:Addr)(vs:List Value):Prop where
 | mk (o:Obj) (e:h.get? a=some o) (c:o.cls=.type "list" /\ o.dict=none/\∃ n,o.data=.seq vs.toArray n):Ba h a vs
theorem Ba.isList(x:Ba h a vs):h.IsList a vs.toArray:=(by obtain ⟨o,e,c,_,n,d⟩:=x;exact⟨o,e,c,n,d⟩)
theorem KX.own(x:KX P F h h')(ha:¬P a)(t:Ba h a vs):Ba h' a vs:=
 (by obtain ⟨o,e,c,d,q⟩:=t;exact(by(refine AI (x.lives ha e) ?_;rintro _ e2);exact⟨_,e2,c,d,q⟩))
structure Cx where
 C:Al
 env:Env
 X:Addr->Prop
 l:List Env
 hn:Bool
 d:Nat
 he:Heap
 P:Addr->Prop
 oc:Str->Bool
 nm:List Str
structure EC(cx:Cx)(A:Around):Prop where
 frames:A.frames=some cx.l
 hand:B2 A cx.P cx.he
 hn:cx.hn=true->A.handled=none
 depth:A.depth+cx.d<recursionLimit
 units:A.units+10*cx.d+10<cLine
noncomputable abbrev Ow:=Nat->Option Addr
noncomputable def DZ(cx:Cx)(h:Heap)(i:Nat)(v:Value):Prop:=∃ x,cx.nm[i]?=some x/\Look cx.env h x v
noncomputable def Ex(cx:Cx)(O:Ow)(a:Addr):Prop:=cx.X a∨(∃ x,O x=some a)∨a=cx.env.locals∨∃ x,cx.env.cells.lookup x=some a
inductive X0(cx:Cx)(O:Ow)(h:Heap)(x:Nat)(l:List PV):Prop where
 | mk (a:Addr) (vs:List Value) (o:O x=some a) (k:DZ cx h x (.ref a)) (w:Ba h a vs) (r:AF cx.C h (Ex cx O) l vs) (z:l.length<=sizeLine):X0 cx O h x l
structure R(cx:Cx)(O:Ow)(σ:St)(s:Shared):Prop where
 stays:cx.C.base.StaysIn s.heap
 env:XJ cx.env
 nd:cx.nm.Nodup
 ns:∃ m,s.heap.Ns cx.env.locals m
 nsNew:cx.C.base.get? cx.env.locals=none/\cx.he.get? cx.env.locals=none
 cells:∀ x c,cx.env.cells.lookup x=some c->(∃ v,s.heap.IsCell c v)/\cx.C.base.get? c=none/\cx.he.get? c=none
 fr:∀ x p,σ.get x=some (.fr p)->∃ v,DZ cx s.heap x v/\AJ cx.C s.heap (Ex cx O) p v
 ow:∀ x l,σ.get x=some (.ow l)->X0 cx O s.heap x l
 oinj:∀ x y a,O x=some a->O y=some a->x=y
 oNew:∀ x a,O x=some a->¬cx.X a/\cx.C.base.get? a=none/\cx.he.get? a=none
 oIn:∀ x a,O x=some a->∃ vs,s.heap.IsList a vs
 frames:Jx cx.C.base cx.l s.heap
 fX:∀ b,inF cx.l b->cx.X b∨b=cx.env.locals
 purse:Ah σ.purse cx.X s.heap
 pNew:∀ b∈pa σ.purse,cx.C.base.get? b=none/\(cx.P b∨cx.he.get? b=none)
 ent:KX cx.P (inF cx.l) cx.he s.heap
 xIn:∀ a,cx.X a->(∃ o,s.heap.get? a=some o)/\cx.C.base.get? a=none
 heIn:∀ b o,cx.he.get? b=some o->∃ o',s.heap.get? b=some o'
inductive AG(C:Al)(P F:Addr->Prop)(s s':Shared):Prop where
 | mk (h':Heap) (tk:Tok) (e:s'={ s with heap:=h',toks:=tk }) (k:KX P F s.heap h') (b:C.base.StaysIn s.heap->C.base.StaysIn h'):AG C P F s s'
theorem AG.refl(C:Al)(P F:Addr->Prop)(s:Shared):AG C P F s s:=⟨s.heap,s.toks,rfl,KX.refl _ _ _,fun x=>x⟩
theorem AG.kx(x:AG C P F s s'):KX P F s.heap s'.heap:=by
 obtain ⟨h1,t1,rfl,k1,b1⟩:=x
 exact k1
theorem AG.stays(x:AG C P F s s'):C.base.StaysIn s.heap->C.base.StaysIn s'.heap:=by
 obtain ⟨h1,t1,rfl,k1,b1⟩:=x
 exact b1
theorem AG.trans_news{P F P' F':Addr->Prop}{s s' s'':Shared}(x:AG C P F s s')(y:AG C P' F' s' s'')(hP:∀ b,P' b->P b∨s.heap.get? b=none)(hF:∀ b,F' b->F b∨s.heap.get? b=none):AG C P F s s'':=by
 obtain ⟨h1,t1,rfl,k1,b1⟩:=x
 obtain ⟨h2,t2,rfl,k2,b2⟩:=y
 exact⟨h2,t2,rfl,k1.trans_news k2 hP hF,fun z=>b2 (b1 z)⟩
theorem AG.trans(x:AG C P F s s')(y:AG C P F s' s''):AG C P F s s'':=x.trans_news y (fun _ q=>.inl q) fun _ q=>.inl q
theorem AG.news(x:AG C P F s s')(hP:∀ b,P b->P' b∨s.heap.get? b=none)(hF:∀ b,F b->F' b∨s.heap.get? b=none):AG C P' F' s s':=(AG.refl C P' F' s).trans_news x hP hF
theorem AG.mono(x:AG C P F s s')(hP:∀ b,P b->P' b)(hF:∀ b,F b->F' b):AG C P' F' s s':=x.news (fun b q=>.inl (hP b q)) fun b q=>.inl (hF b q)
theorem AG.of_keeps(k:∀ b o,s.heap.get? b=some o->h'.get? b=some o):AG C P F s { s with heap:=h',toks:=tk }:=
 ⟨h',tk,rfl,.of_keeps k,fun z b o e=>k b o (z b o e)⟩
theorem AG.toks:AG C P F s { s with toks:=tk }:=⟨s.heap,tk,rfl,KX.refl _ _ _,fun z=>z⟩
theorem AG.sh(x:AG C P F s s'):∃ h' tk,s'={ s with heap:=h',toks:=tk }:=(by obtain ⟨h,t,e,_,_⟩:=x;exact⟨h,t,e⟩)
theorem Ah.xs{P:Pu}(x:Ah P X h):∀ b∈pa P,X b:=by
 induction P with
 | none=>intro b hb;cases hb
 | some q=>
  (have h1:=x.1;have h2:=x.2.1;clear x)
  intro b hb
  simp only [pa,List.mem_cons,List.not_mem_nil,or_false] at hb
  rcases hb with rfl | rfl<;>assumption
theorem Ah.lists{P:Pu}(x:Ah P X h):∀ b∈pa P,∃ vs,h.IsList b vs:=by
 induction P with
 | none=>intro b hb;cases hb
 | some q=>
  refine Ap fun G kk=>?_
  obtain ⟨h1,h2,h3,⟨tk,h4⟩,vs,h5,h6⟩:=x;refine kk ?_
  intro b hb
  simp only [pa,List.mem_cons,List.not_mem_nil,or_false] at hb
  rcases hb with rfl | rfl
  ·exact⟨_,h4⟩
  ·exact⟨_,h5⟩
theorem Ah.move(k:KX P F h h')(hP:∀ b∈pa Q,¬P b)(hX:∀ b,X b->X' b)(x:Ah Q X h):Ah Q X' h':=by
 induction Q with
 | none=>trivial
 | some q=>
  refine Ap fun G kk=>?_
  obtain ⟨h1,h2,h3,⟨tk,h4⟩,vs,h5,h6⟩:=x;refine kk ?_
  exact⟨hX _ h1,hX _ h2,h3,⟨tk,k.list (hP _ (List.Mem.head _)) h4⟩,vs,k.list (hP _ (by simp [pa])) h5,h6⟩
theorem F9{h:Heap}(x:h.IsList a vs)(y:h.Ns a m):False:=by
 obtain ⟨o,e,c,n,d⟩:=x
 (refine IY y ?_;rintro o' es ep e' d' _)
 (replace e':=(e)▸e');(refine sI e' ?_;clear e';intro zz;induction zz);(replace d':=(d)▸d');injection d'
theorem Dn{h:Heap}(x:h.IsList a vs)(y:h.IsCell a v):False:=by
 obtain ⟨o,e,c,n,d⟩:=x
 (refine AE y ?_;rintro o' e' d')
 (replace e':=(e)▸e');(refine sI e' ?_;clear e';intro zz;induction zz);(replace d':=(d)▸d');injection d'
theorem PU{h:Heap}(x:h.Ns a m)(y:h.IsCell a v):False:=by
 (refine IY x ?_;rintro o es ep e d _)
 (refine AE y ?_;rintro o' e' d')
 (replace e':=(e)▸e');(refine sI e' ?_;clear e';intro zz;induction zz);(replace d':=(d)▸d');injection d'
theorem B2.move{P P' Pm F:Addr->Prop}(x:B2 A P h)(k:KX Pm F h h')(hP:∀ b,Pm b->P b∨∃ o,h.get? b=some o/\∀ fs,o.data≠.fields fs)(hP':∀ b,P' b->P b∨h.get? b=none∨∃ o,h.get? b=some o/\∀ fs,o.data≠.fields fs):B2 A P' h':=by
 rcases x with x | ⟨e,o,fs,x1,x2,x3,x4,x5⟩
 ·exact .inl x
 ·have nd:∀ o',h.get? e=some o'->¬∀ fs,o'.data≠.fields fs:=fun o' e' q=>by(replace e':=(x3)▸e');(refine sI e' ?_;clear e';intro zz;induction zz);exact q _ x4
  have hm:=fun q=>(hP e q).elim x2 fun zq=>(by refine AE zq ?_;rintro o' e' q;exact nd o' e' q)
  (refine AI (k.lives hm x3) ?_;rintro sl x6)
  refine .inr ⟨e,_,fs,x1,fun q=>?_,x6,x4,x5⟩
  rcases hP' e q with z | z | ⟨o',e',z⟩
  ·exact x2 z
  ·(replace x3:=(z)▸x3);exact nS x3
  ·exact nd o' e' z
theorem KX.look(k:KX P F h h')(hL:¬P env.locals)(hc:∀ y c,env.cells.lookup y=some c->¬P c)(t:Look env h x v):Look env h' x v:=by
 rcases t with ⟨a,m,n,e⟩ | ⟨a,b,c,e,f⟩
 ·exact .inl ⟨a,m,k.ns hL n,e⟩
 ·exact .inr ⟨a,b,c,e,k.isCell (hc _ _ e) f⟩
theorem KX.lookI(k:KX P F h h'){cx:Cx}(hL:¬P cx.env.locals)(hc:∀ y c,cx.env.cells.lookup y=some c->¬P c)(t:DZ cx h i v):DZ cx h' i v:=t.imp fun _ q=>⟨q.1,k.look hL hc q.2⟩
section
variable{cx:Cx}{O O' O'':Ow}{σ σ' σ'':St}{s s' s'':Shared}
theorem R.locP(r:R cx O σ s):cx.env.locals∉pa σ.purse:=fun hb=>(by(refine AI r.ns ?_;rintro _ n);exact(by(refine AI (r.purse.lists _ hb) ?_;rintro _ l);exact F9 l n))
theorem R.cellP(r:R cx O σ s):∀ y c,cx.env.cells.lookup y=some c->c∉pa σ.purse:=fun y c hc hb=>(by(refine AM (r.cells y c hc) ?_;rintro ⟨_,n⟩ _);exact(by(refine AI (r.purse.lists _ hb) ?_;rintro _ l);exact Dn l n))
theorem R.owP(r:R cx O σ s):∀ x a,O x=some a->a∉pa σ.purse:=fun x a hx hb=>(r.oNew x a hx).1 (r.purse.xs a hb)
theorem R.exP(r:R cx O σ s):∀ b,inP σ.purse b->Ex cx O b:=fun b hb=>.inl (r.purse.xs b hb)
theorem R.exF(r:R cx O σ s):∀ b,inF cx.l b->Ex cx O b:=fun b hb=>(r.fX b hb).elim .inl fun q=>.inr (.inr (.inl q))
theorem R.exIn(r:R cx O σ s):∀ a,Ex cx O a->(∃ o,s.heap.get? a=some o):=fun a ha=>by
 rcases ha with h | ⟨x,h⟩ | rfl | ⟨x,h⟩
 ·exact(r.xIn a h).1
 ·(refine BS (r.oIn x a h) ?_;rintro _ o e _);exact⟨o,e⟩
 ·(refine VA r.ns ?_;rintro _ o _ _ e _);exact⟨o,e⟩
 ·(refine AM (r.cells x a h) ?_;rintro ⟨_,o,e,_⟩ _);exact⟨o,e⟩
theorem R.exLt(r:R cx O σ s):∀ a,Ex cx O a->a<s.heap.objs.size:=fun a ha=>(by(refine AI (r.exIn a ha) ?_;rintro _ e);exact pi e)
theorem R.exBase(r:R cx O σ s):∀ a,Ex cx O a->cx.C.base.get? a=none:=fun a ha=>by
 rcases ha with h | ⟨x,h⟩ | rfl | ⟨x,h⟩
 ·exact(r.xIn a h).2
 ·exact(r.oNew x a h).2.1
 ·exact r.nsNew.1
 ·exact(r.cells x a h).2.1
theorem R.moveG{P:Addr->Prop}(r:R cx O σ s)(m:AG cx.C P (inF cx.l) s s')(hP:∀ b,P b->inP σ.purse b∨(¬Ex cx O b/\Fa s.heap b/\cx.he.get? b=none))(hp:Ah P' cx.X s'.heap)(ha':pa P'=pa σ.purse):R cx O (σ.setP P') s':=
 have nL:=fun q=>(hP _ q).elim r.locP fun z=>z.1 (.inr (.inr (.inl rfl)))
 have nC:=fun y c hc q=>(hP _ q).elim (r.cellP y c hc) fun z=>z.1 (.inr (.inr (.inr ⟨y,hc⟩)))
 have nO:=fun x a hx q=>(hP _ q).elim (r.owP x a hx) fun z=>z.1 (.inr (.inl ⟨x,hx⟩))
 have eP:=fun b q=>(hP b q).imp (r.exP b) fun z=>z.2.1
 {stays:=m.stays r.stays
  env:=r.env
  nd:=r.nd
  ns:=(by(refine AI r.ns ?_;rintro m' n);exact⟨m',m.kx.ns nL n⟩)
  nsNew:=r.nsNew
  cells:=fun x c hc=>(by(refine AM (r.cells x c hc) ?_;rintro ⟨v,hv⟩ e);exact⟨⟨v,m.kx.isCell (nC x c hc) hv⟩,e⟩)
  fr:=fun x p hx=>(by refine AE (r.fr x p hx) ?_;rintro v l q;exact⟨v,m.kx.lookI nL nC l,AJ.move m.kx eP r.exF (fun _ z=>.inl z) _ _ q⟩)
  ow:=fun x l hx=>let ⟨a,vs,h1,h2,h3,h4,h5⟩:=r.ow x l hx
   ⟨a,vs,h1,m.kx.lookI nL nC h2,m.kx.own (nO x a h1) h3,AF.move m.kx eP r.exF (fun _ z=>.inl z) _ _ h4,h5⟩
  oinj:=r.oinj
  oNew:=r.oNew
  oIn:=fun x a h=>(by(refine AI (r.oIn x a h) ?_;rintro vs e);exact⟨vs,m.kx.list (nO x a h) e⟩)
  frames:=fun env he=>by
   obtain ⟨hk,L,o,e1,e2,e3,e4⟩:=r.frames env he
   refine⟨hk,L,?_⟩
   by_cases q:P L
   ·rcases hP _ q with z | z
    ·have z':L∈pa σ.purse:=z
     rw [←ha'] at z'
     obtain ⟨vs,o',e',c',n',d'⟩:=hp.lists L z'
     exact⟨o',e1,e2,e',fun vs q=>by(replace q:=(d')▸q);injection q⟩
    ·exact absurd (r.exF L (List.mem_filterMap.mpr ⟨env,he,e1⟩)) z.1
   ·(refine AI (m.kx.lives q e3) ?_;rintro sl e5)
    exact⟨_,e1,e2,e5,e4⟩
  fX:=r.fX
  purse:=hp
  pNew:=fun b hb=>r.pNew b (by(refine BO ha' ?_);exact hb)
  ent:=r.ent.trans_news m.kx (fun b q=>(hP b q).elim (fun z=>(r.pNew b z).2) fun z=>.inr z.2.2) fun b q=>.inl q
  xIn:=fun a ha=>by
   (refine AM (r.xIn a ha) ?_;rintro ⟨o,e⟩ e2)
   refine⟨?_,e2⟩
   by_cases q:P a
   ·rcases hP _ q with z | z
    ·have z':a∈pa σ.purse:=z
     rw [←ha'] at z'
     (refine BS (hp.lists a z') ?_;rintro vs o' e' _)
     exact⟨o',e'⟩
    ·exact absurd (.inl ha) z.1
   ·(refine AI (m.kx.lives q e) ?_;rintro sl e3)
    exact⟨_,e3⟩
  heIn:=fun b o e=>by
   (refine AI (r.heIn b o e) ?_;rintro o' e')
   by_cases q:P b
   ·rcases hP _ q with z | z
    ·have z':b∈pa σ.purse:=z
     rw [←ha'] at z'
     (refine BS (hp.lists b z') ?_;rintro vs o' e' _)
     exact⟨o',e'⟩
    ·(replace e:=(z.2.2)▸e);exact nS e
   ·(refine AI (m.kx.lives q e') ?_;rintro sl e3)
    exact⟨_,e3⟩ }
theorem R.moveP(r:R cx O σ s)(m:AG cx.C (inP σ.purse) (inF cx.l) s s')(hp:Ah P' cx.X s'.heap)(ha':pa P'=pa σ.purse):R cx O (σ.setP P') s':=
 r.moveG m (fun _ q=>.inl q) hp ha'
theorem R.move(r:R cx O σ s)(m:AG cx.C Ax (inF cx.l) s s'):R cx O σ s':=
 r.moveP (m.mono (fun _ q=>q.elim) fun _ q=>q) (r.purse.move m.kx (fun _ _ q=>q) fun _ q=>q) rfl
structure Aw(cx:Cx)(O:Ow)(σ:St)(s:Shared)(O':Ow)(σ':St)(s':Shared):Prop where
 r:R cx O' σ' s'
 sub:∀ x a,O' x=some a->O x=some a
 mv:AG cx.C (inP σ.purse) (inF cx.l) s s'
 pa:pa σ'.purse=pa σ.purse
 exP:∀ b,inP σ.purse b->Ex cx O b
 exF:∀ b,inF cx.l b->Ex cx O b
theorem Aw.refl(r:R cx O σ s):Aw cx O σ s O σ s:=⟨r,fun _ _ z=>z,AG.refl _ _ _ _,rfl,r.exP,r.exF⟩
theorem Aw.trans(x:Aw cx O σ s O' σ' s')(y:Aw cx O' σ' s' O'' σ'' s''):Aw cx O σ s O'' σ'' s'':=
 ⟨y.r,fun a b z=>x.sub a b (y.sub a b z),x.mv.trans (y.mv.mono (fun b q=>by rw [Mine.Lake.inP,x.pa] at q;exact q) fun _ q=>q),y.pa.trans x.pa,x.exP,x.exF⟩
theorem Aw.ex(x:Aw cx O σ s O' σ' s'):∀ a,Ex cx O' a->Ex cx O a:=fun a h=>h.imp id fun h=>h.imp (fun zq=>(by(refine AI zq ?_;rintro y e);exact⟨y,x.sub y a e⟩)) id
theorem Aw.rep(x:Aw cx O σ s O' σ' s')(h:AJ cx.C s.heap (Ex cx O) p v):AJ cx.C s'.heap (Ex cx O') p v:=
 AJ.move x.mv.kx (fun b q=>.inl (x.exP b q)) x.exF (fun b q=>.inl (x.ex b q)) _ _ h
theorem Aw.reps(x:Aw cx O σ s O' σ' s')(h:AF cx.C s.heap (Ex cx O) p v):AF cx.C s'.heap (Ex cx O') p v:=
 AF.move x.mv.kx (fun b q=>.inl (x.exP b q)) x.exF (fun b q=>.inl (x.ex b q)) _ _ h
theorem Aw.move(x:Aw cx O σ s O' σ' s')(m:AG cx.C Ax (inF cx.l) s' s''):Aw cx O σ s O' σ' s'':=
 ⟨x.r.move m,x.sub,x.mv.trans (m.mono (fun _ q=>q.elim) fun _ q=>q),x.pa,x.exP,x.exF⟩
noncomputable def bY(cx:Cx)(O:Ow)(σ:St)(b:Addr):Prop:=inP σ.purse b∨(∃ x,O x=some b)∨b=cx.env.locals∨∃ x,cx.oc x=true/\cx.env.cells.lookup x=some b
structure Aj(cx:Cx)(O:Ow)(σ:St)(s:Shared)(O':Ow)(σ':St)(s':Shared):Prop where
 r:R cx O' σ' s'
 kx:KX (bY cx O σ) (inF cx.l) s.heap s'.heap
 sh:∃ h tk,s'={ s with heap:=h,toks:=tk }
 pa:pa σ'.purse=pa σ.purse
 on:∀ x a,O' x=some a->O x=some a∨s.heap.get? a=none
 lv:∀ b o,s.heap.get? b=some o->∃ o',s'.heap.get? b=some o'
 exO:∀ b,bY cx O σ b->Ex cx O b
 exF:∀ b,inF cx.l b->Ex cx O b
theorem R.exO(r:R cx O σ s):∀ b,bY cx O σ b->Ex cx O b:=fun b q=>q.elim (r.exP b) fun q=>.inr (q.imp id fun q=>q.imp id fun zq=>(by refine AE zq ?_;rintro x _ e;exact⟨x,e⟩))
theorem Aj.refl(r:R cx O σ s):Aj cx O σ s O σ s:=⟨r,KX.refl _ _ _,⟨_,_,rfl⟩,rfl,fun _ _ e=>.inl e,fun _ o e=>⟨o,e⟩,r.exO,r.exF⟩
theorem Aj.trans(x:Aj cx O σ s O' σ' s')(y:Aj cx O' σ' s' O'' σ'' s''):Aj cx O σ s O'' σ'' s'' where
 r:=y.r
 kx:=x.kx.trans_news y.kx (fun b q=>by
  rcases q with q | ⟨z,q⟩ | q | q
  ·exact .inl (.inl (by rw [Mine.Lake.inP,x.pa] at q;exact q))
  ·exact(x.on z b q).imp (fun e=>.inr (.inl ⟨z,e⟩)) id
  ·exact .inl (.inr (.inr (.inl q)))
  ·exact .inl (.inr (.inr (.inr q)))) fun _ q=>.inl q
 sh:=by(refine Bm x.sh ?_;rintro h t rfl);(refine Bm y.sh ?_;rintro h' t' rfl);exact⟨h',t',rfl⟩
 pa:=y.pa.trans x.pa
 on:=fun z a e=>(y.on z a e).elim (x.on z a) fun q=>by
  cases hv:s.heap.get? a with
  | none=>exact .inr rfl
  | some o=>(refine AI (x.lv a o hv) ?_;rintro o' e');(replace q:=(e')▸q);exact sN q
 lv:=fun b o e=>(by(refine AI (x.lv b o e) ?_;rintro o' e');exact y.lv b o' e')
 exO:=x.exO
 exF:=x.exF
theorem Aw.lv(x:Aw cx O σ s O' σ' s')(b:Addr)(o:Obj)(e:s.heap.get? b=some o):∃ o',s'.heap.get? b=some o':=by
 by_cases q:inP σ.purse b
 ·rw [Mine.Lake.inP,←x.pa] at q
  (refine BS (x.r.purse.lists b q) ?_;rintro _ o' e' _)
  exact⟨o',e'⟩
 ·exact(by(refine AI (x.mv.kx.lives q e) ?_;rintro _ e2);exact⟨_,e2⟩)
theorem Aw.sp(x:Aw cx O σ s O' σ' s')(r:R cx O σ s):Aj cx O σ s O' σ' s':=
 ⟨x.r,x.mv.kx.mono (fun b q=>.inl q) fun _ q=>q,x.mv.sh,x.pa,fun z a e=>.inl (x.sub z a e),x.lv,r.exO,r.exF⟩
theorem Aj.ex(x:Aj cx O σ s O' σ' s'):∀ a,Ex cx O' a->Ex cx O a∨s.heap.get? a=none:=fun a h=>by
 rcases h with h | ⟨y,h⟩ | h
 ·exact .inl (.inl h)
 ·exact(x.on y a h).imp (fun e=>.inr (.inl ⟨y,e⟩)) id
 ·exact .inl (.inr (.inr h))
theorem Aj.rep(x:Aj cx O σ s O' σ' s')(h:AJ cx.C s.heap (Ex cx O) p v):AJ cx.C s'.heap (Ex cx O') p v:=
 AJ.move x.kx (fun b q=>.inl (x.exO b q)) x.exF x.ex _ _ h
theorem Aj.reps(x:Aj cx O σ s O' σ' s')(h:AF cx.C s.heap (Ex cx O) p v):AF cx.C s'.heap (Ex cx O') p v:=
 AF.move x.kx (fun b q=>.inl (x.exO b q)) x.exF x.ex _ _ h
theorem R5{α:Type}{l:List α}(h:l.Nodup){i j:Nat}{x:α}(a:l[i]?=some x)(b:l[j]?=some x):i=j:=by
 (refine AI (qM.mp a) ?_;rintro h1 e1)
 (refine AI (qM.mp b) ?_;rintro h2 e2)
 exact(List.getElem_inj h).mp (e1.trans e2.symm)
structure EK(env:Env)(oc:Str->Bool)(x:Str)(v:Value)(h h':Heap)(T:Addr):Prop where
 same:Heap.SameBut T h h'
 at_:T=env.locals∨∃ y,oc y=true/\env.cells.lookup y=some T
 look:Look env h' x v
 other:∀ y u,y≠x->Look env h y u->Look env h' y u
 ns:∃ m,h'.Ns env.locals m
 cell:∀ y c,env.cells.lookup y=some c->∃ v,h'.IsCell c v
theorem SameBut.kx(x:Heap.SameBut T h h'):KX (·=T) F h h':=KX.of_keepsBut fun b o hb e=>(x.2 b hb).trans e
theorem EK.some(st:EK env oc x v h h' T):∃ o',h'.get? T=some o':=by
 rcases st.at_ with rfl | ⟨y,_,hy⟩
 ·(refine VA st.ns ?_;rintro _ o _ _ e _);exact⟨o,e⟩
 ·(refine BS (st.cell y T hy) ?_;rintro _ o e _);exact⟨o,e⟩
theorem B8{x:Str}{v:Value}(r:R cx O σ s)(hk:cx.env.kindOf x=.some .local∨(cx.env.kindOf x=.some .cell/\x ≠ "__classdict__" /\ cx.oc x=true/\∃ c,cx.env.cells.lookup x=.some c))(h:∀ h' tk T,EK cx.env cx.oc x v s.heap h' T->Q () { s with heap:=h',toks:=tk }):wpAny M A (storeName cx.env x v) Q E s:=by
 have cells':∀ {h':Heap} {T:Addr},Heap.SameBut T s.heap h'->∀ y c,cx.env.cells.lookup y=.some c->c≠T->∃ v,h'.IsCell c v:=fun hs y c hc hn=>
  (by(refine AM (r.cells y c hc) ?_;rintro ⟨v,hv⟩ _);exact⟨v,hv.sameBut hs hn⟩)
 rcases hk with hl | ⟨hc,hcd,hoc,c,hcl⟩
 ·(refine AI r.ns ?_;rintro m n)
  have nocell:∀ y c,cx.env.cells.lookup y=.some c->c≠cx.env.locals:=fun y c hc q=>(by(refine AM (r.cells y c hc) ?_;rintro ⟨v,hv⟩ _);exact PU n (q▸hv))
  refine wpAny_storeName_local hl n (fun h' hn hs=>h h' _ cx.env.locals ⟨hs,.inl rfl,.inl ⟨hl,_,hn,by simp⟩,fun y u hy hlk=>?_,⟨_,hn⟩,fun y c hc=>cells' hs y c hc (nocell y c hc)⟩) (by(refine AA r.env.kind ?_);rfl)
  rcases hlk with ⟨a,m',n',e⟩ | ⟨a,b,c,e,f⟩
  ·refine .inl ⟨a,_,hn,?_⟩
   simp only [hy,if_false]
   have:m=m':=by
    (refine FZ n ?_;rintro o es ep e1 e2 _ e3)
    (refine FZ n' ?_;rintro o' es' ep' e1' e2' _ e3')
    (replace e1':=(e1)▸e1');(refine sI e1' ?_;clear e1';intro zz;induction zz);(replace e2':=(e2)▸e2');(injection e2' with z1 z2;induction z1;induction z2)
    funext z;(refine BO (e3 z) ?_;refine AA (e3' z) ?_;rfl)
   (refine AA this ?_);exact e
  ·exact .inr ⟨a,b,c,e,f.sameBut hs (nocell y c e)⟩
 ·(refine AM (r.cells x c hcl) ?_;rintro ⟨v₀,hv⟩ _)
  (refine AI r.ns ?_;rintro m n)
  have hLc:cx.env.locals≠c:=fun q=>PU n (q▸hv)
  refine wpAny_storeName_cell r.env.kind hc hcl hv fun h' hv' hs=>?_
  have:=h h' s.toks c ⟨hs,.inr ⟨x,hoc,hcl⟩,.inr ⟨.inl hc,hcd,c,hcl,hv'⟩,fun y u hy hlk=>?_,⟨m,n.sameBut hs hLc⟩,fun y c' hc'=>?_⟩
  ·exact this
  ·rcases hlk with ⟨a,m',n',e⟩ | ⟨a,b,c',e,f⟩
   ·exact .inl ⟨a,m',n'.sameBut hs hLc,e⟩
   ·exact .inr ⟨a,b,c',e,f.sameBut hs fun q=>hy (r.env.inj _ _ _ (q▸e) hcl)⟩
  ·by_cases q:c'=c
   ·(refine AA q ?_);exact⟨_,hv'⟩
   ·exact cells' hs y c' hc' q
noncomputable def del(O:Ow)(x:Nat):Ow:=fun y=>if y=x then none else O y
noncomputable def add(O:Ow)(x:Nat)(a:Addr):Ow:=fun y=>if y=x then some a else O y
theorem B4(h:del O x y=some a):y≠x/\O y=some a:=by
 delta del at h
 by_cases q:y=x
 ·(replace h:=(pO q)▸h);exact nS h
 ·(replace h:=(pH q)▸h);exact⟨q,h⟩
theorem KK(h:y≠x):del O x y=O y:=pH h
theorem Ex.del(h:Ex cx (del O x) a):Ex cx O a:=h.imp id fun h=>h.imp (fun zq=>(by(refine AI zq ?_;rintro y e);exact⟨y,(B4 e).2⟩)) id
theorem R.put{x:Nat}{T:Addr}{O₂:Ow}(r:R cx O σ s)(k:KX (·=T) Ax s.heap h')(hT:T=cx.env.locals∨(∃ y,cx.oc y=true/\cx.env.cells.lookup y=some T)∨(O x=some T/\∃ vs,h'.IsList T vs))(hTd:∃ o',h'.get? T=some o'/\∀ vs,o'.data≠.fields vs)(look:∀ y u,y≠x->DZ cx s.heap y u->DZ cx h' y u)(ns:∃ m,h'.Ns cx.env.locals m)(cell:∀ y c,cx.env.cells.lookup y=some c->∃ v,h'.IsCell c v)(hO:∀ y a,O₂ y=some a->O y=some a∨(y=x/\s.heap.get? a=none/\∃ vs,h'.IsList a vs))(hO3:∀ y,y≠x->O₂ y=O y)(hb:cx.C.base.StaysIn h')(hsl:match sl with
   | .un=>True
   | .fr p=>∃ v,DZ cx h' x v/\AJ cx.C h' (Ex cx O₂) p v
   | .ow l=>X0 cx O₂ h' x l):
  Aj cx O σ s O₂ (σ.set x sl) { s with heap:=h',toks:=tk }:=
 have own:=hT.elim (fun q=>.inr (.inr (.inl q))) fun q=>q.elim (fun q=>.inr (.inr (.inr q))) fun q=>.inr (.inl ⟨x,q.1⟩)
 have exT:=r.exO T own
 have exP:∀ b,b=T->Ex cx O b∨Fa s.heap b:=fun b q=>.inl (q▸exT)
 have exX:∀ b,Ex cx O₂ b->Ex cx O b∨s.heap.get? b=none:=fun b q=>by
  rcases q with q | ⟨y,q⟩ | q
  ·exact .inl (.inl q)
  ·exact(hO y b q).imp (fun q=>.inr (.inl ⟨y,q⟩)) fun q=>q.2.1
  ·exact .inl (.inr (.inr q))
 have nP:=fun q=>hT.elim (fun e=>r.locP (e▸q)) fun e=>e.elim (fun zq=>(by refine AE zq ?_;rintro y _ e;exact r.cellP y T e q)) fun e=>r.owP x T e.1 q
 have heT:=hT.elim (fun e=>e▸r.nsNew.2) fun e=>e.elim (fun zq=>(by refine AE zq ?_;rintro y _ e;exact(r.cells y T e).2.2)) fun e=>(r.oNew x T e.1).2.2
 have lv:=fun b o e=>by
  by_cases q:b=T
  ·(refine AE hTd ?_;rintro o' e' _)
   exact⟨o',q▸e'⟩
  ·(refine AI (k.lives q e) ?_;rintro _ e')
   exact⟨_,e'⟩
 have dead:∀ a,s.heap.get? a=none->∀ {α:Prop},(∃ o,s.heap.get? a=some o)->α:=fun a e _ zq=>(by(refine AI zq ?_;rintro o e');exact by(replace e':=(e)▸e');exact nS e')
 have R':R cx O₂ (σ.set x sl) { s with heap:=h',toks:=tk }:=
  {stays:=hb
   env:=r.env
   nd:=r.nd
   ns:=ns
   nsNew:=r.nsNew
   cells:=fun y c hc=>⟨cell y c hc,(r.cells y c hc).2⟩
   fr:=fun y p hy=>by
    rcases St.of_set hy with ⟨rfl,rfl⟩ | ⟨q,hy⟩
    ·exact hsl
    ·(refine AE (r.fr y p hy) ?_;rintro v h1 h2)
     exact⟨v,look y v q h1,AJ.move k exP (fun _ q=>q.elim) exX _ _ h2⟩
   ow:=fun y l hy=>by
    rcases St.of_set hy with ⟨rfl,rfl⟩ | ⟨q,hy⟩
    ·exact hsl
    ·obtain ⟨a,vs,h1,h2,h3,h4,h5⟩:=r.ow y l hy
     refine⟨a,vs,(hO3 y q).trans h1,look y _ q h2,k.own (fun e=>?_) h3,AF.move k exP (fun _ q=>q.elim) exX _ _ h4,h5⟩
     rcases hT with e' | ⟨z,_,e'⟩ | e'
     ·(refine AI r.ns ?_;rintro _ n)
      exact F9 h3.isList ((e.trans e')▸n)
     ·(refine AM (r.cells z T e') ?_;rintro ⟨_,n⟩ _)
      exact Dn h3.isList (e▸n)
     ·exact q (r.oinj y x a h1 (e▸e'.1))
   oinj:=fun y z a hy hz=>by
    rcases hO y a hy with e1 | ⟨e1,e2,_⟩<;>rcases hO z a hz with f1 | ⟨f1,f2,_⟩
    ·exact r.oinj y z a e1 f1
    ·exact dead a f2 (r.exIn a (.inr (.inl ⟨y,e1⟩)))
    ·exact dead a e2 (r.exIn a (.inr (.inl ⟨z,f1⟩)))
    ·(refine AA e1 ?_;refine AA f1 ?_;rfl)
   oNew:=fun y a hy=>by
    rcases hO y a hy with e1 | ⟨_,e2,_⟩
    ·exact r.oNew y a e1
    ·refine⟨fun q=>dead a e2 (r.xIn a q).1,?_,?_⟩
     ·cases hq:cx.C.base.get? a with
      | none=>rfl
      | some o=>exact dead a e2 ⟨o,r.stays a o hq⟩
     ·cases hq:cx.he.get? a with
      | none=>rfl
      | some o=>exact dead a e2 (r.heIn a o hq)
   oIn:=fun y a hy=>by
    rcases hO y a hy with e1 | ⟨_,_,e3⟩
    ·(refine AI (r.oIn y a e1) ?_;rintro vs hl)
     by_cases q:a=T
     ·rcases hT with e' | ⟨z,_,e'⟩ | e'
      ·(refine AI r.ns ?_;rintro _ n)
       exact(F9 hl ((q.trans e')▸n)).elim
      ·(refine AM (r.cells z T e') ?_;rintro ⟨_,n⟩ _)
       exact(Dn hl (q▸n)).elim
      ·(refine AA q ?_);exact e'.2
     ·exact⟨vs,k.list q hl⟩
    ·exact e3
   frames:=fun env he=>by
    obtain ⟨hk,L,o,e1,e2,e3,e4⟩:=r.frames env he
    refine⟨hk,L,?_⟩
    by_cases q:L=T
    ·(refine AE hTd ?_;rintro o' e' e'')
     exact⟨o',e1,e2,q▸e',e''⟩
    ·(refine AI (k.lives q e3) ?_;rintro sl e5)
     exact⟨_,e1,e2,e5,e4⟩
   fX:=r.fX
   purse:=r.purse.move k (fun b hb q=>nP (q▸hb)) fun _ q=>q
   pNew:=r.pNew
   ent:=r.ent.trans_news k (fun b q=>.inr (q▸heT)) fun _ q=>q.elim
   xIn:=fun a ha=>⟨(by(refine AM (r.xIn a ha) ?_;rintro ⟨o,e⟩ _);exact lv a o e),(r.xIn a ha).2⟩
   heIn:=fun b o e=>(by(refine AI (r.heIn b o e) ?_;rintro o' e');exact lv b o' e') }
 ⟨R',k.mono (fun b q=>q▸own) fun _ q=>q.elim,⟨_,_,rfl⟩,rfl,fun y a q=>(hO y a q).imp id fun q=>q.2.1,lv,r.exO,r.exF⟩
theorem EK.td(st:EK env oc x v h h' T):∃ o',h'.get? T=.some o'/\∀ vs,o'.data≠.fields vs:=by
 rcases st.at_ with rfl | ⟨y,_,hy⟩
 ·(refine Nm st.ns ?_;rintro _ o _ _ e d _);exact⟨o,e,fun vs q=>by(replace q:=(d)▸q);injection q⟩
 ·(refine BS (st.cell y T hy) ?_;rintro _ o e d);exact⟨o,e,fun vs q=>by(replace q:=(d)▸q);injection q⟩
theorem R.base_store{x:Str}(r:R cx O σ s)(hs:cx.C.base.StaysIn h)(st:EK cx.env cx.oc x v h h' T):cx.C.base.StaysIn h':=fun b o e=>by
 refine(st.same.2 b fun q=>?_).trans (hs b o e)
 have:cx.C.base.get? T=none:=st.at_.elim (fun e=>e▸r.nsNew.1) fun zq=>(by refine AE zq ?_;rintro y _ e;exact(r.cells y T e).2.1)
 (replace e:=(q)▸e;replace e:=(this)▸e);exact nS e
theorem R.others(r:R cx O σ s){x:Str}(hx:cx.nm[i]?=some x)(st:∀ y u,y≠x->Look cx.env h y u->Look cx.env h' y u):∀ j u,j≠i->DZ cx h j u->DZ cx h' j u:=fun j u hj q=>q.imp fun y q=>⟨q.1,st y u (fun e=>hj (R5 r.nd (e▸q.1) hx)) q.2⟩
theorem R.storeFr{x:Str}(hx:cx.nm[i]?=some x)(r:R cx O σ s)(st:EK cx.env cx.oc x v s.heap h' T)(hv:AJ cx.C s.heap (Ex cx O) p v):
  Aj cx O σ s (del O i) (σ.set i (.fr p)) { s with heap:=h',toks:=tk }:=
 r.put (SameBut.kx st.same) (st.at_.imp id .inl) st.td (r.others hx st.other) st.ns st.cell (fun y a q=>.inl (B4 q).2) (fun y q=>KK q) (r.base_store r.stays st)
  ⟨v,⟨x,hx,st.look⟩,AJ.move (F:=Ax) (SameBut.kx st.same) (fun b q=>.inl (q▸r.exO T (.inr (.inr st.at_)))) (fun _ q=>q.elim) (fun b q=>.inl q.del) _ _ hv⟩
theorem R.storeOw{x:Str}(hx:cx.nm[i]?=some x){vs:List Value}{T:Addr}(r:R cx O σ s)(hk:∀ b o,s.heap.get? b=some o->h₁.get? b=some o){a:Addr}(ha:s.heap.get? a=none)(hl:Ba h₁ a vs)(st:EK cx.env cx.oc x (.ref a) h₁ h' T)(hv:AF cx.C s.heap (Ex cx O) l vs)(hz:l.length<=sizeLine):
  Aj cx O σ s (add O i a) (σ.set i (.ow l)) { s with heap:=h',toks:=tk }:=by
 have hTa:a≠T:=by
  rintro rfl
  rcases st.at_ with q | ⟨y,_,q⟩
  ·(refine VA r.ns ?_;rintro _ o _ _ e _)
   (replace ha:=(q)▸ha;replace ha:=(e)▸ha);exact sN ha
  ·(refine AM (r.cells y a q) ?_;rintro ⟨_,o,e,_⟩ _)
   (replace ha:=(e)▸ha);exact sN ha
 have hl':Ba h' a vs:=(by obtain ⟨o,e,c,d,q⟩:=hl;exact⟨o,(st.same.2 a hTa).trans e,c,d,q⟩)
 have hO:∀ y b,add O i a y=some b->O y=some b∨(y=i/\s.heap.get? b=none/\∃ vs,h'.IsList b vs):=fun y b q=>by
  delta add at q
  by_cases e:y=i
  ·(replace q:=(pO e)▸q);(refine sI q ?_;clear q;intro zz;induction zz)
   exact .inr ⟨e,ha,_,hl'.isList⟩
  ·(replace q:=(pH e)▸q);exact .inl q
 refine r.put (KX.of_keepsBut fun b o hb e=>(st.same.2 b hb).trans (hk b o e)) (st.at_.imp id .inl) st.td (r.others hx fun y u hy hlk=>st.other y u hy ?_) st.ns st.cell hO (fun y q=>pH q) (r.base_store (fun b o e=>hk b o (r.stays b o e)) st)
  ⟨a,vs,pO rfl,⟨x,hx,st.look⟩,hl',AF.move (F:=Ax) (KX.of_keepsBut fun b o hb e=>(st.same.2 b hb).trans (hk b o e)) (fun b q=>.inl (q▸r.exO T (.inr (.inr st.at_)))) (fun _ q=>q.elim) (fun b q=>?_) _ _ hv,hz⟩
 ·exact KX.look (F:=Ax) (KX.of_keeps hk) (fun q=>q) (fun _ _ _ q=>q) hlk
 ·rcases q with q | ⟨y,q⟩ | q
  ·exact .inl (.inl q)
  ·exact(hO y b q).imp (fun q=>.inr (.inl ⟨y,q⟩)) fun q=>q.2.1
  ·exact .inl (.inr (.inr q))
theorem R.turnOw{vs vs':List Value}(r:R cx O σ s)(hx:σ.get x=some (.ow l))(ha:O x=some a)(hs:Heap.SameBut a s.heap h')(hl:Ba h' a vs')(hlk:DZ cx s.heap x (.ref a))(hv:AF cx.C s.heap (Ex cx O) l' vs')(hz:l'.length<=sizeLine):
  Aj cx O σ s O (σ.set x (.ow l')) { s with heap:=h',toks:=tk }:=by
 (refine AI r.ns ?_;rintro m n)
 (refine AI (r.oIn x a ha) ?_;rintro _ hl0)
 have nL:cx.env.locals≠a:=fun q=>F9 hl0 (q▸n)
 have nC:∀ y c,cx.env.cells.lookup y=some c->c≠a:=fun y c hc q=>(by(refine AM (r.cells y c hc) ?_;rintro ⟨_,f⟩ _);exact Dn hl0 (q▸f))
 have look:∀ y u,DZ cx s.heap y u->DZ cx h' y u:=fun y u q=>(SameBut.kx hs:KX (·=a) Ax s.heap h').lookI nL nC q
 refine r.put (SameBut.kx hs:KX (·=a) Ax s.heap h') (.inr (.inr ⟨ha,_,hl.isList⟩)) ?_ (fun y u _ q=>look y u q) ⟨m,(SameBut.kx hs:KX (·=a) Ax s.heap h').ns nL n⟩ (fun y c hc=>(by(refine AM (r.cells y c hc) ?_;rintro ⟨v,f⟩ _);exact⟨v,(SameBut.kx hs:KX (·=a) Ax s.heap h').isCell (nC y c hc) f⟩)) (fun y b q=>.inl q) (fun _ _=>rfl) ?_
  ⟨a,vs',ha,look x _ hlk,hl,AF.move (SameBut.kx hs:KX (·=a) Ax s.heap h') (fun b q=>.inl (q▸.inr (.inl ⟨x,ha⟩))) (fun _ q=>q.elim) (fun b q=>.inl q) _ _ hv,hz⟩
 ·obtain ⟨o,e,c,_,n,d⟩:=hl
  exact⟨o,e,fun vs q=>by(replace q:=(d)▸q);injection q⟩
 ·intro b o e
  refine(hs.2 b fun q=>?_).trans (r.stays b o e)
  (replace e:=(q)▸e;replace e:=((r.oNew x a ha).2.1)▸e);exact nS e
theorem R.freeze(r:R cx O σ s)(hx:σ.get x=some (.ow l)):R cx (del O x) (σ.set x (.fr (.lst l))) s:=
 {r with
  fr:=fun y p hy=>by
   rcases St.of_set hy with ⟨rfl,e⟩ | ⟨q,hy⟩
   ·(injection e with z1;induction z1)
    obtain ⟨a,vs,h1,h2,h3,h4,h5⟩:=r.ow y l hx
    refine⟨.ref a,h2,h5,a,vs,?_,h3.isList,AF.mono (fun _ q=>q.del) h4⟩
    rintro (h | ⟨z,e⟩ | h | ⟨z,h⟩)
    ·exact(r.oNew y a h1).1 h
    ·exact(B4 e).1 (r.oinj z y a (B4 e).2 h1)
    ·(refine AI r.ns ?_;rintro _ n)
     exact F9 h3.isList (h▸n)
    ·(refine AM (r.cells z a h) ?_;rintro ⟨_,n⟩ _)
     exact Dn h3.isList n
   ·(refine AE (r.fr y p hy) ?_;rintro v h1 h2)
    exact⟨v,h1,AJ.mono (fun _ q=>q.del) h2⟩
  ow:=fun y m hy=>by
   rcases St.of_set hy with ⟨_,e⟩ | ⟨q,hy⟩
   ·injection e
   ·obtain ⟨a,vs,h1,h2,h3,h4,h5⟩:=r.ow y m hy
    exact⟨a,vs,(KK q).trans h1,h2,h3,AF.mono (fun _ q=>q.del) h4,h5⟩
  oinj:=fun y z a h1 h2=>r.oinj y z a (B4 h1).2 (B4 h2).2
  oNew:=fun y a h=>r.oNew y a (B4 h).2
  oIn:=fun y a h=>r.oIn y a (B4 h).2 }
theorem R.post_freeze(r:R cx O σ s)(hx:σ.get x=some (.ow l)):Aw cx O σ s (del O x) (σ.set x (.fr (.lst l))) s:=
 ⟨r.freeze hx,fun y a h=>(B4 h).2,AG.refl _ _ _ _,rfl,r.exP,r.exF⟩
end
inductive Jy{α:Type}(cx:Cx)(O:Ow)(σ:St)(s:Shared)(Q:Ow->Shared->α->St->Prop)(v:α)(s':Shared):Prop where
 | mk (O':Ow) (σ':St) (p:Aw cx O σ s O' σ' s') (q:Q O' s' v σ'):Jy cx O σ s Q v s'
noncomputable def j8{α:Type}(cx:Cx)(m:Sem α)(σ:St)(Q:Ow->Shared->α->St->Prop):Prop:=
 ∀ A,EC cx A->∀ O s E,R cx O σ s->wpAny (model cx.C.prog cx.C.w) A m (Jy cx O σ s Q) E s
inductive Gf(cx:Cx)(Q:PV->St->Prop)(O':Ow)(s':Shared)(v:Value)(σ':St):Prop where
 | is (p:PV) (r:AJ cx.C s'.heap (Ex cx O') p v) (q:Q p σ'):Gf cx Q O' s' v σ'
inductive bZ(cx:Cx)(Q:List PV->St->Prop)(O':Ow)(s':Shared)(v:List Value)(σ':St):Prop where
 | is (p:List PV) (r:AF cx.C s'.heap (Ex cx O') p v) (q:Q p σ'):bZ cx Q O' s' v σ'
noncomputable abbrev mR(Q:Bool->St->Prop)(_:Ow)(_:Shared)(v:Bool)(σ':St):Prop:=Q v σ'
noncomputable abbrev Ev(cx:Cx)(m:Sem Value)(σ:St)(Q:PV->St->Prop):Prop:=j8 cx m σ (Gf cx Q)
noncomputable abbrev j9(cx:Cx)(m:Sem (List Value))(σ:St)(Q:List PV->St->Prop):Prop:=j8 cx m σ (bZ cx Q)
noncomputable abbrev R6(cx:Cx)(m:Sem Bool)(σ:St)(Q:Bool->St->Prop):Prop:=j8 cx m σ (mR Q)
set_option genCtorIdx false in
inductive U7 where
 | next | brk | cont
 | ret (p:PV)
noncomputable def U7.ctorIdx(x:U7):Nat:=match x with
 | .next ..=>0
 | .brk ..=>1
 | .cont ..=>2
 | .ret ..=>3
noncomputable def Gh(cx:Cx)(O:Ow)(s:Shared)(f:Flow):U7->Prop
 | .next=>f=.next
 | .brk=>f=.brk
 | .cont=>f=.cont
 | .ret p=>∃ v,f=.ret v/\AJ cx.C s.heap (Ex cx O) p v
inductive B1(cx:Cx)(O:Ow)(σ:St)(s:Shared)(Q:U7->St->Prop)(f:Flow)(s':Shared):Prop where
 | mk (O':Ow) (σ':St) (o:U7) (p:Aj cx O σ s O' σ' s') (i:Gh cx O' s' f o) (q:Q o σ'):B1 cx O σ s Q f s'
noncomputable def Fc(cx:Cx)(m:Sem Flow)(σ:St)(Q:U7->St->Prop):Prop:=
 ∀ A,EC cx A->∀ O s E,R cx O σ s->wpAny (model cx.C.prog cx.C.w) A m (B1 cx O σ s Q) E s
end Mine.Lake
set_option maxHeartbeats 4000000
namespace Mine.Lake.L
noncomputable abbrev B:=List Nat
noncomputable def AV(c:Nat):Bool:=c==9||c==10||c==13||c==32
noncomputable def Af(c:Nat):Nat:=if 65<=c/\c<=90 then c+32 else c
noncomputable def CT(c:Nat):Nat:=if 97<=c/\c<=122 then c - 32 else c
noncomputable def Az(c:Nat):Bool:=decide (33<=c)&&decide (c<=126)&&c != 63
noncomputable def BT:List B:=[
 [117,115,45,97,115,99,105,105],[97,115,99,105,105],[97,110,115,105,95,120,51,46,52,45,49,57,54,56],
 [105,115,111,95,54,52,54,46,105,114,118,58,49,57,57,49],[105,115,111,45,105,114,45,54],[105,115,111,54,52,54,45,117,115],
 [117,115],[99,112,51,54,55],[105,98,109,51,54,55]]
noncomputable def BU:List B:=[
 [105,115,111,45,56,56,53,57,45,49],[105,115,111,95,56,56,53,57,45,49],[105,115,111,95,56,56,53,57,45,49,58,49,57,56,55],
 [105,115,111,45,105,114,45,49,48,48],[108,97,116,105,110,49],[108,49],[99,112,56,49,57],[105,98,109,56,49,57]]
noncomputable def Bx:List B:=[[117,116,102,45,56],[117,116,102,56]]
noncomputable def As(t:B):Nat:=
 let n:=t.map Af
 if n∈BT then 1 else if n∈BU then 2 else if n∈Bx then 3 else 0
noncomputable def AZ(lead:Nat):Nat×Nat×Nat:=
 if 194<=lead/\lead<=223 then(128,191,1)
 else if 224<=lead/\lead<=239 then(if lead=224 then 160 else 128,if lead=237 then 159 else 191,2)
 else if 240<=lead/\lead<=244 then(if lead=240 then 144 else 128,if lead=244 then 143 else 191,3)
 else(0,0,0)
noncomputable def Fd:Nat->Nat->Nat->Nat->Nat->B->Option Nat×Nat
 | _,_,place,code,0,_=>(some code,place)
 | _,_,place,_,_+1,[]=>(none,place)
 | least,most,place,code,k+1,b::r=>if least<=b/\b<=most then Fd 128 191 (place+1) (code*64+b % 64) k r else(none,place)
theorem kC:Fd  u10 u20 place0 code0 0 u30=((some code0,place0)):=rfl
theorem kD:Fd  u10 u20 place0 u30 (u40+1) []=((none,place0)):=rfl
theorem R7:Fd  least0 most0 place0 code0 (k0+1) (b0::r0)=(if least0<=b0/\b0<=most0 then Fd 128 191 (place0+1) (code0*64+b0 % 64) k0 r0 else(none,place0)):=rfl
noncomputable def CF(lead:Nat)(r:B):Option Nat×Nat:=
 if lead<128 then(some lead,1) else
 let f:=AZ lead
 if f.2.2=0 then(none,1) else Fd f.1 f.2.1 1 (lead % (64 / 2 ^ f.2.2)) f.2.2 r
noncomputable def Aq(cs:Nat)(c:Nat)(r:B):Option Nat×Nat:=
 if cs=3 then CF c r else if cs=1/\127<c then(none,1) else(some c,1)
noncomputable def C2(cs:Nat):Nat->B->B
 | 0,_=>[]
 | _+1,[]=>[]
 | f+1,c::r=>(Aq cs c r).1.getD 65533::C2 cs f ((c::r).drop (Aq cs c r).2)
theorem VD:C2 cs0 0 u10=([]):=rfl
theorem VE:C2 cs0 (u10+1) []=([]):=rfl
theorem K5:C2 cs0 (f0+1) (c0::r0)=((Aq cs0 c0 r0).1.getD 65533::C2 cs0 f0 ((c0::r0).drop (Aq cs0 c0 r0).2)):=rfl
noncomputable def EL(cs:Nat)(o:B):B:=C2 cs o.length o
noncomputable def BH:Nat->B->Option B
 | 0,_=>some []
 | _+1,[]=>some []
 | f+1,c::r=>match Aq 3 c r with
  | (none,_)=>none
  | (some code,n)=>(BH f ((c::r).drop n)).map (code::·)
theorem KM:BH  0 u10=(some []):=rfl
theorem KN:BH  (u10+1) []=(some []):=rfl
theorem Ep:BH  (f0+1) (c0::r0)=(match Aq 3 c0 r0 with
  | (none,_)=>none
  | (some code,n)=>(BH f0 ((c0::r0).drop n)).map (code::·)):=rfl
noncomputable def strictText(o:B):Option B:=BH o.length o
noncomputable def BY(o:B):B:=match strictText o with | some t=>t | none=>o
noncomputable def An(c:Nat):Option Nat:=
 if 48<=c/\c<=57 then some (c - 48) else if 65<=c/\c<=70 then some (c - 55) else if 97<=c/\c<=102 then some (c - 87) else none
noncomputable def AW:B->B
 | []=>[]
 | [c]=>[c]
 | [c,d]=>[c,d]
 | c::h::l::r=>if c=61 then match An h,An l with
   | some x,some y=>(16*x+y)::AW r
   | _,_=>c::AW (h::l::r)
  else c::AW (h::l::r)
theorem DF:AW  []=([]):=rfl
theorem DG:AW  [c0]=([c0]):=rfl
theorem DH:AW  [c0,d0]=([c0,d0]):=rfl
theorem CU:AW  (c0::h0::l0::r0)=(if c0=61 then match An h0,An l0 with
   | some x,some y=>(16*x+y)::AW r0
   | _,_=>c0::AW (h0::l0::r0)
  else c0::AW (h0::l0::r0)):=rfl
noncomputable def Bh(o:B):B:=AW (o.map fun c=>if c=95 then 32 else c)
noncomputable def worth(c:Nat):Option Nat:=
 if 65<=c/\c<=90 then some (c - 65) else if 97<=c/\c<=122 then some (c - 71) else if 48<=c/\c<=57 then some (c+4)
 else if c=43 then some 62 else if c=47 then some 63 else none
noncomputable def AQ(ws:B):B:=
 let total:=ws.foldl (fun t n=>64*t+n) 0
 let count:=ws.length - 1
 let whole:=total / 2 ^ (6*ws.length - 8*count)
 ((List.range count).reverse).map fun place=>whole / 2 ^ (8*place) % 256
noncomputable def A5:B->B
 | []=>[]
 | [_]=>[]
 | [a,b]=>AQ [a,b]
 | [a,b,c]=>AQ [a,b,c]
 | a::b::c::d::r=>AQ [a,b,c,d] ++ A5 r
theorem Er:A5  []=([]):=rfl
theorem Es:A5  [u10]=([]):=rfl
theorem Et:A5  [a0,b0]=(AQ [a0,b0]):=rfl
theorem Eu:A5  [a0,b0,c0]=(AQ [a0,b0,c0]):=rfl
theorem Do:A5  (a0::b0::c0::d0::r0)=(AQ [a0,b0,c0,d0] ++ A5 r0):=rfl
noncomputable def Bi(o:B):B:=A5 ((o.takeWhile (· != 61)).filterMap worth)
noncomputable def VF(x:Nat)(o:B):Option B:=match o with | []=>none | a::r=>if a=x then some r else none
noncomputable def upTo(o:B):Option (B×B):=(VF 63 (o.dropWhile Az)).map fun r=>(o.takeWhile Az,r)
noncomputable def H7(o:B):Option (B×B×B×B):=(upTo o).bind fun a=>(upTo a.2).bind fun b=>(upTo b.2).bind fun c=>(VF 61 c.2).map fun r=>(a.1,b.1,c.1,r)
noncomputable def BN(o:B):Option (B×B×B×B):=(VF 61 o).bind fun o=>(VF 63 o).bind H7
noncomputable def apart(prev:Option Nat)(rest:B):Bool:=
 (match prev with | none=>true | some p=>AV p||p==40)&&(match rest with | []=>true | c::_=>AV c||c==41)
noncomputable def wordAt(prev:Option Nat)(o:B):Option (B×B):=match BN o with
 | none=>none
 | some (a,b,c,rest)=>
  if apart prev rest then
   let cs:=As (a.takeWhile (· != 42))
   if cs=0 then none
   else if b.map CT=[81] then some (EL cs (Bh c),rest)
   else if b.map CT=[66] then some (EL cs (Bi c),rest)
   else none
  else none
noncomputable abbrev Tok:=Nat ⊕ B
noncomputable def scan:Nat->Option Nat->B->List Tok
 | 0,_,_=>[]
 | _+1,_,[]=>[]
 | f+1,prev,c::r=>match wordAt prev (c::r) with
  | none=>.inl c::scan f (some c) r
  | some (t,rest)=>.inr t::scan f (some 61) rest
theorem R8:scan  0 u10 u20=([]):=rfl
theorem R9:scan  (u10+1) u20 []=([]):=rfl
theorem Df:scan  (f0+1) prev0 (c0::r0)=(match wordAt prev0 (c0::r0) with
  | none=>.inl c0::scan f0 (some c0) r0
  | some (t,rest)=>.inr t::scan f0 (some 61) rest):=rfl
noncomputable def Ni(behind:Bool)(run:B):List Tok->B
 | []=>BY run
 | .inl c::ts=>Ni behind (run ++ [c]) ts
 | .inr t::ts=>(if behind&&run.all AV then [] else BY run) ++ (t ++ Ni true [] ts)
theorem PW:Ni behind0 run0 []=(BY run0):=rfl
theorem PX:Ni behind0 run0 (.inl c0::ts0)=(Ni behind0 (run0 ++ [c0]) ts0):=rfl
theorem MO:Ni behind0 run0 (.inr t0::ts0)=((if behind0&&run0.all AV then [] else BY run0) ++ (t0 ++ Ni true [] ts0)):=rfl
noncomputable def A9(o:B):B:=Ni false [] (scan o.length none o)
noncomputable def Fe:B->B
 | []=>[]
 | [c]=>[c]
 | a::b::r=>if a=195/\b=169 then 233::Fe r else a::Fe (b::r)
theorem kE:Fe  []=([]):=rfl
theorem kF:Fe  [c0]=([c0]):=rfl
theorem SA:Fe  (a0::b0::r0)=(if a0=195/\b0=169 then 233::Fe r0 else a0::Fe (b0::r0)):=rfl
noncomputable def AS(o:B):B:=if 233∈o∨160∈o then o else Fe o
noncomputable def Qa:List (List B×List (B×B)):=[
 ([[117,115,45,97,115,99,105,105],[97,115,99,105,105],[105,115,111,45,105,114,45,54],[99,112,51,54,55]],
 [([97],[97]),([90],[90]),([55],[55]),([32],[32]),([95],[95]),([63],[63]),([61],[61]),([44],[44])]),
 ([[105,115,111,45,56,56,53,57,45,49],[108,97,116,105,110,49],[108,49],[105,98,109,56,49,57]],
 [([98],[98]),([89],[89]),([51],[51]),([32],[32]),([95],[95]),([34],[34]),([233],[233]),([255],[255])]),
 ([[117,116,102,45,56],[117,116,102,56],[85,116,102,45,56],[117,84,70,56]],
 [([99],[99]),([88],[88]),([32],[32]),([40],[40]),([233],[195,169]),([26085],[230,151,165]),([128236],[240,159,147,172]),([61],[61])])]
noncomputable def gapsL:List B:=[[32],[9],[32,32],[32,9,32],[13,10,32],[32,13,10,9],[13,10,32,13,10,32],[10,32],[],[44],[34],[40],[41],
 [32,40],[41,32],[41,40],[32,44,32],[44,32],[32,34],[32,11,32],[32,160,32],[32,120,32],[32,13,32]]
noncomputable def plainsL:List B:=[[120],[112,108,46],[195,169],[233],[97,61,98],[61,63],[63,61],[121,233,195,169]]
noncomputable def alnum(c:Nat):Bool:=(decide (48<=c)&&decide (c<=57))||(decide (65<=c)&&decide (c<=90))||(decide (97<=c)&&decide (c<=122))
noncomputable def FP(n:Nat):Nat:=if n<10 then 48+n else 55+n
noncomputable def FQ(n:Nat):Nat:=if n<10 then 48+n else 87+n
noncomputable def Bo(great:Bool)(blank:B)(o:B):B:=o.flatMap fun c=>
 if alnum c then [c] else if c=32 then blank else if great then [61,FP (c / 16),FP (c % 16)] else [61,FQ (c / 16),FQ (c % 16)]
noncomputable def Ac(n:Nat):Nat:=if n<26 then 65+n else if n<52 then 71+n else if n<62 then n - 4 else if n=62 then 43 else 47
noncomputable def Bd:B->B
 | []=>[]
 | [a]=>[Ac (a*65536 / 262144 % 64),Ac (a*65536 / 4096 % 64),61,61]
 | [a,b]=>[Ac ((a*65536+b*256) / 262144 % 64),Ac ((a*65536+b*256) / 4096 % 64),Ac ((a*65536+b*256) / 64 % 64),61]
 | a::b::c::r=>[Ac ((a*65536+b*256+c) / 262144 % 64),Ac ((a*65536+b*256+c) / 4096 % 64),Ac ((a*65536+b*256+c) / 64 % 64),Ac ((a*65536+b*256+c) % 64)] ++ Bd r
theorem PY:Bd  []=([]):=rfl
theorem PZ:Bd  [a0]=([Ac (a0*65536 / 262144 % 64),Ac (a0*65536 / 4096 % 64),61,61]):=rfl
theorem Pb:Bd  [a0,b0]=([Ac ((a0*65536+b0*256) / 262144 % 64),Ac ((a0*65536+b0*256) / 4096 % 64),Ac ((a0*65536+b0*256) / 64 % 64),61]):=rfl
theorem Pd:Bd  (a0::b0::c0::r0)=([Ac ((a0*65536+b0*256+c0) / 262144 % 64),Ac ((a0*65536+b0*256+c0) / 4096 % 64),Ac ((a0*65536+b0*256+c0) / 64 % 64),Ac ((a0*65536+b0*256+c0) % 64)] ++ Bd r0):=rfl
theorem SB(h:c≠61):∀ r,AW (c::r)=c::AW r
 | []=>by rfl
 | [d]=>by rfl
 | d::e::r=>pH h
theorem VG{h l x y:Nat}(r:B)(hx:An h=some x)(hy:An l=some y):AW (61::h::l::r)=(16*x+y)::AW r:=by
 ((rewrite [CU]));(refine AA hx ?_;refine AA hy ?_;trivial)
theorem SD:∀ n,n<16->An (FP n)=some n/\FP n≠95/\Az (FP n)=true/\FP n≠63/\FP n≠61:=by decide
theorem SE:∀ n,n<16->An (FQ n)=some n/\FQ n≠95/\Az (FQ n)=true/\FQ n≠63/\FQ n≠61:=by decide
theorem Ia(h:alnum c=true):c≠95/\c≠61/\c≠63/\Az c=true:=by
 simp [alnum] at h
 simp [Az]
 exact al h
noncomputable def Hp(great:Bool)(blank:B)(c:Nat):B:=
 if alnum c then [c] else if c=32 then blank else if great then [61,FP (c / 16),FP (c % 16)] else [61,FQ (c / 16),FQ (c % 16)]
theorem C3(great:Bool)(blank:B)(c:Nat)(o:B):Bo great blank (c::o)=Hp great blank c ++ Bo great blank o:=by
 rfl
noncomputable def Dz(blank:B):Prop:=blank=[95]∨blank=[61,50,48]
theorem Ff(great:Bool)(hb:Dz blank){c:Nat}(hc:c<256):
  (Hp great blank c=[c]/\alnum c=true)∨(Hp great blank c=[95]/\c=32)∨
   ∃ h l x y,Hp great blank c=[61,h,l]/\An h=some x/\An l=some y/\16*x+y=c/\h≠95/\l≠95/\Az h=true/\Az l=true/\h≠63/\l≠61:=by
 delta Hp
 by_cases ha:alnum c=true
 ·left;(refine AA ha ?_;trivial)
 ·right
  by_cases h32:c=32
  ·subst h32
   rcases hb with rfl | rfl
   ·left;exact⟨rfl,rfl⟩
   ·right;refine⟨50,48,2,0,?_⟩;trivial
  ·right
   induction great
   ·(refine Ho (SE _ (Nat.div_lt_of_lt_mul hc:c / 16<16)) ?_;rintro a1 a2 a3 a4 a5)
    (refine Ho (SE _ (Nat.mod_lt _ (by decide):c % 16<16)) ?_;rintro b1 b2 b3 b4 b5)
    exact⟨_,_,_,_,by simp [ha,h32],a1,b1,Nat.div_add_mod ..,a2,b2,a3,b3,a4,b5⟩
   ·(refine Ho (SD _ (Nat.div_lt_of_lt_mul hc:c / 16<16)) ?_;rintro a1 a2 a3 a4 a5)
    (refine Ho (SD _ (Nat.mod_lt _ (by decide):c % 16<16)) ?_;rintro b1 b2 b3 b4 b5)
    exact⟨_,_,_,_,by simp [ha,h32],a1,b1,Nat.div_add_mod ..,a2,b2,a3,b3,a4,b5⟩
theorem VH(great:Bool)(hb:Dz blank):∀ {o:B},(∀ c∈o,c<256)->Bh (Bo great blank o)=o:=by
 intro rx
 induction rx with
 | nil=>
  exact fun _=>by rfl
 | cons c o ih=>
  exact fun h=>by
   have ih:AW ((Bo great blank o).map fun c=>if c=95 then 32 else c)=o:=ih fun x hx=>h x (by simp [hx])
   delta Bh
   (refine AA (C3 ..:) ?_;refine AA qh ?_)
   rcases Ff great hb (h c (List.Mem.head _)) with ⟨e,ha⟩ | ⟨e,rfl⟩ | ⟨hh,l,x,y,e,h1,h2,h3,h4,h5,_⟩
   ·(refine Bq (Ia ha) ?_;rintro n1 n2 _)
    (refine AA e ?_);(refine AA List.map_cons ?_;refine AA List.cons_append ?_;refine AA (pH n1) ?_)
    (rewrite [SB n2];refine AA ih ?_;rfl)
   ·(refine AA e ?_);simp only [List.map_cons,List.map_nil,List.cons_append,List.nil_append,if_true]
    (rewrite [SB (by decide)];refine AA ih ?_;rfl)
   ·(refine AA e ?_);simp only [List.map_cons,List.map_nil,List.cons_append,List.nil_append,if_neg h4,if_neg h5]
    (refine AA (VG _ h1 h2) ?_;refine AA ih ?_;refine AA h3 ?_;rfl)
theorem Nq(great:Bool)(hb:Dz blank){o:B}:(∀ c∈o,c<256)->(Bo great blank o).all Az=true:=by
 induction o with
 | nil=>exact fun _=>rfl
 | cons c o ih=>
  intro h
  (refine AA (C3 ..:) ?_;refine AA List.all_append ?_;refine AA (ih fun x hx=>h x (.tail _ hx)) ?_;refine AA (Bool.and_true ..:) ?_)
  rcases Ff great hb (h c (List.Mem.head _)) with ⟨e,ha⟩ | ⟨e,rfl⟩ | ⟨hh,l,x,y,e,h1,h2,h3,h4,h5,h6,h7,_⟩
  ·(refine AA e ?_;refine AA List.all_cons ?_;refine AA (Ia ha).2.2.2 ?_);rfl
  ·(refine AA e ?_);rfl
  ·(refine AA e ?_;refine AA List.all_cons ?_;refine AA List.all_cons ?_;refine AA List.all_cons ?_;refine AA h6 ?_;refine AA h7 ?_);rfl
theorem SG:∀ n,n<64->worth (Ac n)=some n/\Ac n≠61/\Az (Ac n)=true/\Ac n≠63:=by decide
theorem Gi(n:Nat):worth (Ac (n % 64))=some (n % 64)/\Ac (n % 64)≠61/\Az (Ac (n % 64))=true/\Ac (n % 64)≠63:=SG _ (Nat.mod_lt _ (by decide))
theorem dq(n:Nat):n / 4096=n / 64 / 64/\n / 262144=n / 64 / 64 / 64:=⟨(Nat.div_div_eq_div_mul n 64 64).symm,((Nat.div_div_eq_div_mul n 64 64▸Nat.div_div_eq_div_mul n 4096 64:n / 64 / 64 / 64=_)).symm⟩
theorem t2(h:n<16777216):64*(64*0+n / 262144 % 64)+n / 4096 % 64=n / 4096:=by
 (refine AA ((dq n).1) ?_;refine AA ((dq n).2) ?_;refine AA (qC ..:) ?_;rewrite [Nat.mod_eq_of_lt])
 ·exact Nat.div_add_mod (n / 64 / 64) 64
 ·exact Nat.div_lt_of_lt_mul (Nat.div_lt_of_lt_mul (Nat.div_lt_of_lt_mul h))
theorem t3(h:n<16777216):64*(64*(64*0+n / 262144 % 64)+n / 4096 % 64)+n / 64 % 64=n / 64:=by
 (refine AA (t2 h) ?_;refine AA ((dq n).1) ?_);exact Nat.div_add_mod (n / 64) 64
theorem t4(h:n<16777216):64*(64*(64*(64*0+n / 262144 % 64)+n / 4096 % 64)+n / 64 % 64)+n % 64=n:=by
 (refine AA (t3 h) ?_);exact Nat.div_add_mod n 64
theorem oa(ha:a<256)(hk:k<65536):(a*65536+k) / 65536=a/\a*65536+k<16777216:=⟨by(refine AA (Nat.add_comm ..:) ?_;refine AA (Nat.add_mul_div_right _ _ (by decide)) ?_;refine AA (Nat.div_eq_of_lt hk) ?_;refine AA (qC ..:) ?_;rfl),j3 ha hk⟩
theorem ob{a b c:Nat}(hb:b<256)(hc:c<256):(a*65536+b*256+c) / 256=a*256+b:=by
 (refine AA ((x3 a b c).trans (Nat.add_comm _ _)) ?_;refine AA (Nat.add_mul_div_right _ _ (by decide)) ?_;refine AA (Nat.div_eq_of_lt hc) ?_;refine AA (qC ..:) ?_;rfl)
theorem md(h:y<256):(x*256+y) % 256=y:=by(refine AA (Nat.mul_add_mod_self_right ..:) ?_);exact Nat.mod_eq_of_lt h
theorem go4(w x y z:Nat):AQ [w,x,y,z]=[(64*(64*(64*(64*0+w)+x)+y)+z) / 2 ^ (6*4 - 8*3) / 2 ^ (8*2) % 256,(64*(64*(64*(64*0+w)+x)+y)+z) / 2 ^ (6*4 - 8*3) / 2 ^ (8*1) % 256,(64*(64*(64*(64*0+w)+x)+y)+z) / 2 ^ (6*4 - 8*3) / 2 ^ (8*0) % 256]:=rfl
theorem na(w x y:Nat):AQ [w,x,y]=[(64*(64*(64*0+w)+x)+y) / 2 ^ (6*3 - 8*2) / 2 ^ (8*1) % 256,(64*(64*(64*0+w)+x)+y) / 2 ^ (6*3 - 8*2) / 2 ^ (8*0) % 256]:=rfl
theorem nb(w x:Nat):AQ [w,x]=[(64*(64*0+w)+x) / 2 ^ (6*2 - 8*1) / 2 ^ (8*0) % 256]:=rfl
theorem p0:2 ^ (6*4 - 8*3)=1/\2 ^ (8*2)=65536/\2 ^ (8*1)=256/\2 ^ (8*0)=1/\2 ^ (6*3 - 8*2)=4/\2 ^ (6*2 - 8*1)=16:=by decide
theorem g4{a b c:Nat}(ha:a<256)(hb:b<256)(hc:c<256):AQ [(a*65536+b*256+c) / 262144 % 64,(a*65536+b*256+c) / 4096 % 64,(a*65536+b*256+c) / 64 % 64,(a*65536+b*256+c) % 64]=[a,b,c]:=by
 have hk:b*256+c<65536:=by exact mK ‹_› ‹_›
 (refine AM (oa ha hk) ?_;rintro o1 o2)
 rw [←Nat.add_assoc] at o1 o2
 (refine AA (go4 ..:) ?_;refine AA (t4 o2) ?_;refine AA p0.1 ?_;refine AA p0.2.1 ?_;refine AA p0.2.2.1 ?_;refine AA (Nat.div_one ..:) ?_;refine AA (Nat.div_one ..:) ?_;refine AA o1 ?_;refine AA (ob hb hc) ?_;refine AA (md hb) ?_;refine AA (Nat.mod_eq_of_lt ha) ?_;refine AA (x3 a b c) ?_;refine AA (md hc) ?_;rfl)
theorem g3(ha:a<256)(hb:b<256):AQ [(a*65536+b*256) / 262144 % 64,(a*65536+b*256) / 4096 % 64,(a*65536+b*256) / 64 % 64]=[a,b]:=by
 (refine AM (oa ha (k:=b*256) (Nat.mul_lt_mul_of_pos_right hb (by decide))) ?_;rintro o1 o2)
 have e:(a*65536+b*256) / 64 / 4=a*256+b:=by
  have e0:=ob (a:=a) (c:=0) hb (by decide)
  rw [Nat.add_zero] at e0
  (refine AA (Nat.div_div_eq_div_mul ..:) ?_;refine AA (show 64*4=256 by rfl) ?_)
  exact e0
 have e2:(a*256+b) / 256=a:=by(refine AA (Nat.add_comm ..:) ?_;refine AA (Nat.add_mul_div_right _ _ (by decide)) ?_;refine AA (Nat.div_eq_of_lt hb) ?_;refine AA (qC ..:) ?_;rfl)
 (refine AA (na ..:) ?_;refine AA (t3 o2) ?_;refine AA e ?_;refine AA e2 ?_;refine AA (Nat.div_one ..:) ?_;refine AA (md hb) ?_;refine AA (Nat.mod_eq_of_lt ha) ?_;rfl)
theorem g2(ha:a<256):AQ [a*65536 / 262144 % 64,a*65536 / 4096 % 64]=[a]:=by
 (refine AM (oa ha (k:=0) (by decide)) ?_;rintro o1 o2)
 rw [Nat.add_zero] at o1 o2
 (refine AA (nb ..:) ?_;refine AA (t2 o2) ?_;refine AA (Nat.div_one ..:) ?_;refine AA (Nat.div_div_eq_div_mul ..:) ?_;refine AA o1 ?_;refine AA (Nat.mod_eq_of_lt ha) ?_;rfl)
theorem nf:a≠61->List.takeWhile (· != 61) (a::r)=a::List.takeWhile (· != 61) r:=fun h=>by(refine AA List.takeWhile_cons ?_;refine AA (pO (by simpa using h)) ?_;rfl)
theorem ng(h:worth a=some n):List.filterMap worth (a::r)=n::List.filterMap worth r:=List.filterMap_cons_some h
theorem K6(n:Nat)(r:B):((Ac (n % 64)::r).takeWhile (· != 61)).filterMap worth=n % 64::(r.takeWhile (· != 61)).filterMap worth:=by
 (refine Bq (Gi n) ?_;rintro a1 a2 _)
 (refine AA (nf a2) ?_;refine AA (ng a1) ?_;rfl)
theorem Pe:∀ {o:B},(∀ c∈o,c<256)->Bi (Bd o)=o
 | [],_=>rfl
 | [a],h=>by
  refine(?_:A5 (((Ac (a*65536 / 262144 % 64)::Ac (a*65536 / 4096 % 64)::61::[61]).takeWhile (· != 61)).filterMap worth)=_)
  (refine AA (K6 ..:) ?_;refine AA (K6 ..:) ?_)
  exact g2 (h a (.head _))
 | [a,b],h=>by
  refine(?_:A5 (((Ac ((a*65536+b*256) / 262144 % 64)::Ac ((a*65536+b*256) / 4096 % 64)::Ac ((a*65536+b*256) / 64 % 64)::[61]).takeWhile (· != 61)).filterMap worth)=_)
  (refine AA (K6 ..:) ?_;refine AA (K6 ..:) ?_;refine AA (K6 ..:) ?_)
  exact g3 (h a (.head _)) (h b (.tail _ (.head _)))
 | a::b::c::r,h=>by
  refine(?_:A5 (((Ac ((a*65536+b*256+c) / 262144 % 64)::Ac ((a*65536+b*256+c) / 4096 % 64)::Ac ((a*65536+b*256+c) / 64 % 64)::Ac ((a*65536+b*256+c) % 64)::Bd r).takeWhile (· != 61)).filterMap worth)=_)
  (refine AA (K6 ..:) ?_;refine AA (K6 ..:) ?_;refine AA (K6 ..:) ?_;refine AA (K6 ..:) ?_;(rewrite [Do]);refine AA (g4 (h a (.head _)) (h b (.tail _ (.head _))) (h c (.tail _ (.tail _ (.head _))))) ?_)
  exact congrArg (a::b::c::·) (Pe fun x hx=>h x (.tail _ (.tail _ (.tail _ hx))))
theorem SH(o:B):(Bd o).all Az=true:=by
 have s:=fun n=>(Gi n).2.2.1
 induction o using XH with
 | nil=>rfl
 | one a=>refine(show (_&&(_&&(Az 61&&(Az 61&&true))))=true from ?_);(refine AA (s _) ?_;refine AA (s _) ?_);decide
 | two a b=>refine(show (_&&(_&&(_&&(Az 61&&true))))=true from ?_);(refine AA (s _) ?_;refine AA (s _) ?_;refine AA (s _) ?_);decide
 | more a b c r ih=>refine(show (_&&(_&&(_&&(_&&(Bd r).all Az))))=true from ?_);(refine AA (s _) ?_;refine AA (s _) ?_;refine AA (s _) ?_;refine AA (s _) ?_;refine AA ih ?_);rfl
inductive D2(k:Nat)(s:B×B):Prop where
 | mk (c:Nat) (r:B) (code:Nat) (e:s.2=c::r) (f:s.1=[code]) (b:∀ x∈s.2,x<256) (q:∀ rest,Aq k c (r ++ rest)=(some code,r.length+1)):D2 k s
theorem HQ:∀ {l:List (B×B)} {f:Nat},(∀ s∈l,D2 k s)->(l.flatMap (·.2)).length<=f->C2 k f (l.flatMap (·.2))=l.flatMap (·.1)
 | [],f,_,_=>by induction f<;>(rfl)
 | s::l,f,h,hf=>by
  obtain ⟨c,r,code,e1,e2,_,e3⟩:=h s (List.Mem.head _)
  simp only [List.flatMap_cons,e1,List.cons_append,List.length_cons,List.length_append] at hf ⊢
  induction f with
  | zero=>exact absurd hf (Nat.not_lt_zero _)
  | succ f=>
   ((rewrite [K5]);refine AA (e3 ..:) ?_;refine AA e2 ?_)
   simp only [Option.getD_some,List.drop_succ_cons,List.drop_left',List.cons_append,List.nil_append]
   (refine AA (HQ (fun s hs=>h s (by simp [hs])) (oy fun q=>nl (FO f ((List.flatMap (fun x=>x.snd) l).length) (List.length r)) ⟨false,(nP (nW Ae) (nW (nP BK Ag))),(nP Ag (nW Ae))⟩ rfl (nQ q hf))) ?_;rfl)
theorem Ib{l:List (B×B)}(h:∀ s∈l,D2 k s):EL k (l.flatMap (·.2))=l.flatMap (·.1):=HQ h (ou _)
theorem Da{l:List (B×B)}(h:∀ s∈l,D2 k s):∀ c∈l.flatMap (·.2),c<256:=by
 intro c hc
 simp only [List.mem_flatMap] at hc
 (refine AE hc ?_;rintro s hs hc)
 obtain ⟨_,_,_,_,_,h2,_⟩:=h s hs
 exact h2 c hc
theorem sg(h:D2 k s)(t:∀ x∈l,D2 k x):∀ x∈s::l,D2 k x:=List.forall_mem_cons.2 ⟨h,t⟩
theorem sz:∀ x∈([]:List (B×B)),D2 k x:=fun _ h=>by cases h
theorem VI:∀ k,k<3->∀ set,Qa[k]?=some set->∀ s∈set.2,D2 (k+1) s:=fun k hk set hs=>by
 match k,hk with
 | 0,_=>
  (refine sI hs ?_;clear hs;intro zz;induction zz)
  exact sg ⟨_,_,_,rfl,rfl,by decide,fun _=>rfl⟩ (sg ⟨_,_,_,rfl,rfl,by decide,fun _=>rfl⟩ (sg ⟨_,_,_,rfl,rfl,by decide,fun _=>rfl⟩ (sg ⟨_,_,_,rfl,rfl,by decide,fun _=>rfl⟩ (sg ⟨_,_,_,rfl,rfl,by decide,fun _=>rfl⟩ (sg ⟨_,_,_,rfl,rfl,by decide,fun _=>rfl⟩ (sg ⟨_,_,_,rfl,rfl,by decide,fun _=>rfl⟩ (sg ⟨_,_,_,rfl,rfl,by decide,fun _=>rfl⟩ sz)))))))
 | 1,_=>
  (refine sI hs ?_;clear hs;intro zz;induction zz)
  exact sg ⟨_,_,_,rfl,rfl,by decide,fun _=>rfl⟩ (sg ⟨_,_,_,rfl,rfl,by decide,fun _=>rfl⟩ (sg ⟨_,_,_,rfl,rfl,by decide,fun _=>rfl⟩ (sg ⟨_,_,_,rfl,rfl,by decide,fun _=>rfl⟩ (sg ⟨_,_,_,rfl,rfl,by decide,fun _=>rfl⟩ (sg ⟨_,_,_,rfl,rfl,by decide,fun _=>rfl⟩ (sg ⟨_,_,_,rfl,rfl,by decide,fun _=>rfl⟩ (sg ⟨_,_,_,rfl,rfl,by decide,fun _=>rfl⟩ sz)))))))
 | 2,_=>
  (refine sI hs ?_;clear hs;intro zz;induction zz)
  exact sg ⟨_,_,_,rfl,rfl,by decide,fun _=>rfl⟩ (sg ⟨_,_,_,rfl,rfl,by decide,fun _=>rfl⟩ (sg ⟨_,_,_,rfl,rfl,by decide,fun _=>rfl⟩ (sg ⟨_,_,_,rfl,rfl,by decide,fun _=>rfl⟩ (sg ⟨_,_,_,rfl,rfl,by decide,fun _=>rfl⟩ (sg ⟨_,_,_,rfl,rfl,by decide,fun _=>rfl⟩ (sg ⟨_,_,_,rfl,rfl,by decide,fun _=>rfl⟩ (sg ⟨_,_,_,rfl,rfl,by decide,fun _=>rfl⟩ sz)))))))
theorem EM(x:Nat)(r:B):VF x (x::r)=some r:=pO rfl
theorem H8{x:Nat}(h:VF x o=some r):o=x::r:=by
 cases o with
 | nil=>exact nS h
 | cons a o=>
  by_cases e:a=x
  ·rw [e];exact congrArg _ (pP ((pO e).symm.trans h))
  ·exact nS ((pH e).symm.trans h)
theorem HR(o:B):BN (61::63::o)=H7 o:=by
 delta BN
 rw [EM,Option.bind_some,EM,Option.bind_some]
theorem K7(h:a.all Az=true)(r:B):upTo (a ++ 63::r)=some (a,r):=by
 have h63:¬Az 63=true:=by decide
 have h1:∀ x∈a,Az x=true:=by simpa using h
 delta upTo
 (refine AA (List.dropWhile_append_of_pos h1) ?_;refine AA (List.takeWhile_append_of_pos h1) ?_)
 rw [List.dropWhile_cons_of_neg h63,List.takeWhile_cons_of_neg h63,EM,List.append_nil];rfl
theorem Ew(h:upTo o=some (a,r)):o=a ++ 63::r:=by
 have h:=qN.mp h
 obtain ⟨r',e,h⟩:=h
 have h1:o.takeWhile Az=a:=congrArg Prod.fst h
 have h2:r'=r:=congrArg Prod.snd h
 rw [←h1,←h2,←H8 e]
 exact List.takeWhile_append_dropWhile.symm
theorem Nr{a b c:B}(ha:a.all Az=true)(hb:b.all Az=true)(hc:c.all Az=true)(rest:B):
  BN (61::63::(a ++ 63::(b ++ 63::(c ++ 63::61::rest))))=some (a,b,c,rest):=by
 rw [HR]
 delta H7
 rw [K7 ha,Option.bind_some,K7 hb,Option.bind_some,K7 hc,Option.bind_some,EM];rfl
inductive VJ(o a b c r:B):Prop where
 | mk (o1 o2 o3:B) (e:o=61::63::o1) (e1:upTo o1=some (a,o2)) (e2:upTo o2=some (b,o3)) (e3:upTo o3=some (c,61::r))
theorem Fg(h:BN o=some (a,b,c,r)):VJ o a b c r:=by
 refine Ap fun G kk=>?_;obtain ⟨p,e,h⟩:=Option.bind_eq_some_iff.mp h
 obtain ⟨q,e',h⟩:=Option.bind_eq_some_iff.mp h
 obtain ⟨⟨a',o2⟩,e1,h⟩:=Option.bind_eq_some_iff.mp h
 obtain ⟨⟨b',o3⟩,e2,h⟩:=Option.bind_eq_some_iff.mp h
 obtain ⟨⟨c',o4⟩,e3,h⟩:=Option.bind_eq_some_iff.mp h
 obtain ⟨r',e4,h⟩:=qN.mp h;refine kk ?_
 have e2:upTo o2=some (b',o3):=e2
 have e3:upTo o3=some (c',o4):=e3
 have e4:VF 61 o4=some r':=e4
 have h1:a'=a:=congrArg (·.1) h
 have h2:b'=b:=congrArg (·.2.1) h
 have h3:c'=c:=congrArg (·.2.2.1) h
 have h4:r'=r:=congrArg (·.2.2.2) h
 rw [h1] at e1
 rw [h2] at e2
 rw [h3,H8 e4,h4] at e3
 exact .mk q o2 o3 (by rw [H8 e,H8 e']) e1 e2 e3
theorem Qb(h:BN o=some (a,b,c,rest)):∃ r r',o=61::63::r/\upTo r=some (a,r'):=by
 induction Fg h with
 | mk o1 o2 o3 e e1 e2 e3=>exact⟨o1,o2,e,e1⟩
noncomputable def U8:List B:=[[117,115],[97,115],[97,110],[105,115],[105,98],[108,97],[108,49],[117,116],[99,112]]
noncomputable def Nt(o:B):Prop:=∃ r,o=61::63::r/\(r.take 2).map Af∈U8
theorem Gj:(∀ m∈BT,m.take 2∈U8/\2<=m.length)/\(∀ m∈BU,m.take 2∈U8/\2<=m.length)/\(∀ m∈Bx,m.take 2∈U8/\2<=m.length):=by decide
theorem MP(h:As t≠0):(t.take 2).map Af∈U8/\2<=t.length:=by
 have key:∀ m:B,(m.take 2∈U8/\2<=m.length)->m=t.map Af->(t.take 2).map Af∈U8/\2<=t.length:=by
  rintro m ⟨h1,h2⟩ rfl
  (refine AA List.map_take ?_);exact⟨h1,by simpa using h2⟩
 delta As at h
 by_cases h1:t.map Af∈BT
 ·exact key _ (Gj.1 _ h1) rfl
 ·by_cases h2:t.map Af∈BU
  ·exact key _ (Gj.2.1 _ h2) rfl
  ·by_cases h3:t.map Af∈Bx
   ·exact key _ (Gj.2.2 _ h3) rfl
   ·simp [h1,h2,h3] at h
set_option tactic.hygienic true in
theorem FR{o:B}{x:B×B}(h:wordAt prev o=some x):Nt o:=by
 delta wordAt at h
 split at h
 ·exact nS h
 ·rename_i a b c rest e
  split at h
  ·dsimp only at h
   split at h
   ·exact nS h
   ·rename_i hcs
    (refine BS (Qb e) ?_;rintro r r' rfl hu)
    (refine AM (MP hcs) ?_;rintro h1 h2)
    refine⟨r,rfl,?_⟩
    (refine AA (Ew hu) ?_;refine AA ((List.takeWhile_append_dropWhile).symm:a=a.takeWhile (· != 42) ++ a.dropWhile (· != 42)) ?_;refine AA (pD ..:) ?_;refine AA (List.take_append_of_le_length h2) ?_)
    exact h1
  ·exact nS h
noncomputable def VK(r:B):Prop:=(r.take 2).map Af∉U8
noncomputable def MQ(r:B):Prop:=VK r/\∀ r',r=63::r'->VK r'
theorem Qc:∀ x∈U8,x.head?=some 117∨x.head?=some 97∨x.head?=some 105∨x.head?=some 108∨x.head?=some 99:=by decide
theorem Dp{a:Nat}(h:Af a≠117/\Af a≠97/\Af a≠105/\Af a≠108/\Af a≠99):VK (a::r):=by
 intro hm
 have:=Qc _ hm
 simp at this
 lia
theorem SJ:MQ []:=⟨by delta VK;decide,by intro r h;injection h⟩
noncomputable def Be:B->Bool
 | []=>true
 | [_]=>true
 | a::b::r=>(if a=61/\b=63 then r.head?==some 61||r.isEmpty else true)&&Be (b::r)
theorem SK:Be  []=(true):=rfl
theorem SL:Be  [u10]=(true):=rfl
theorem Ic:Be  (a0::b0::r0)=((if a0=61/\b0=63 then r0.head?==some 61||r0.isEmpty else true)&&Be (b0::r0)):=rfl
theorem GA:Be c=true->MQ rest->∀ i,i<c.length->¬Nt ((c ++ rest).drop i):=by
 induction c using two with
 | nil=>exact fun _ _ i hi=>absurd hi (Nat.not_lt_zero i)
 | one a=>
  intro _ hs i hi
  have:i=0:=Nat.lt_one_iff.mp hi
  subst this
  rintro ⟨r,e,hm⟩
  simp at e
  exact hs.2 r e.2 hm
 | more a b r ih _=>
  intro hq hs i hi
  simp only [SK,SL,Ic,Bool.and_eq_true] at hq
  cases i with
  | zero=>
   rintro ⟨r',e,hm⟩
   simp at e
   (refine Bq e ?_;clear e;rintro rfl rfl rfl)
   simp at hq
   rcases hq.1 with h1 | h1
   ·induction r with
    | nil=>trivial
    | cons x r=>
     simp at h1;subst h1
     exact Dp (by decide) hm
   ·cases h1;exact hs.1 hm
  | succ i=>exact ih hq.2 hs i (Nat.lt_of_succ_lt_succ hi)
noncomputable def GB(c:B):Prop:=∀ rest,MQ rest->MQ (c ++ rest)
noncomputable def A0:Option Nat->B->Option Nat
 | p,[]=>p
 | _,x::c=>A0 (some x) c
theorem MR:A0  pz0 []=(pz0):=rfl
theorem MS:A0  u10 (x0::c0)=(A0 (some x0) c0):=rfl
theorem Id:∀ (c:B) (f:Nat) (prev:Option Nat) (rest:B),(∀ i,i<c.length->¬Nt ((c ++ rest).drop i))->
  scan (f+c.length) prev (c ++ rest)=c.map Sum.inl ++ scan f (A0 prev c) rest:=by
 intro rx
 induction rx with
 | nil=>
  exact fun f prev rest _=>by rfl
 | cons x c ih=>
  exact fun f prev rest h=>by
   have h0:wordAt prev (x::(c ++ rest))=none:=by
    cases e:wordAt prev (x::(c ++ rest)) with
    | none=>rfl
    | some y=>exact absurd (FR e) (by simpa using h 0 (pW _))
   refine(?_:scan (f+c.length+1) prev (x::(c ++ rest))=_)
   ((rewrite [Df]);refine AA h0 ?_)
   simp only [List.map_cons,List.cons_append,MR,MS,(ih f (some x) rest fun i hi=>by simpa using h (i+1) (by simpa using hi))]
set_option genCtorIdx false in
inductive Seg where
 | plain (c:B)
 | word (w:B) (t:Option B)
noncomputable def Seg.ctorIdx(x:Seg):Nat:=match x with
 | .plain ..=>0
 | .word ..=>1
noncomputable def Seg.b:Seg->B
 | .plain c=>c
 | .word w _=>w
noncomputable def cat(l:List Seg):B:=l.flatMap Seg.b
theorem EN(x:Seg)(l:List Seg):cat (x::l)=x.b ++ cat l:=by rfl
noncomputable def Dq:Seg->Prop
 | .plain c=>Be c=true/\GB c
 | .word w t=>(∃ w',w=61::w'/\Be w'=true/\A0 (some 61) w'=some 61)/\GB w/\
   ∀ prev rest,wordAt prev (w ++ rest)=match t with | none=>none | some t=>if apart prev rest then some (t,rest) else none
theorem Dq.head(h:Dq x):GB x.b:=by
 induction x with
 | plain c=>exact h.2
 | word w t=>exact h.2.1
theorem MT:∀ {l:List Seg},(∀ x∈l,Dq x)->MQ (cat l):=by
 intro rx
 induction rx with
 | nil=>
  exact fun _=>SJ
 | cons x l ih=>
  exact fun h=>(h x (List.Mem.head _)).head _ (ih fun y hy=>h y (by simp [hy]))
noncomputable def DJ:Option Nat->List Seg->List Tok
 | _,[]=>[]
 | p,.plain c::r=>c.map .inl ++ DJ (A0 p c) r
 | p,.word w none::r=>w.map .inl ++ DJ (some 61) r
 | p,.word w (some t)::r=>if apart p (cat r) then .inr t::DJ (some 61) r else w.map .inl ++ DJ (some 61) r
theorem Pf:DJ  u10 []=([]):=rfl
theorem Pg:DJ  pz0 (.plain c0::r0)=(c0.map .inl ++ DJ (A0 pz0 c0) r0):=rfl
theorem Ph:DJ  pz0 (.word w0 none::r0)=(w0.map .inl ++ DJ (some 61) r0):=rfl
theorem Pi:DJ  pz0 (.word w0 (some t0)::r0)=(if apart pz0 (cat r0) then .inr t0::DJ (some 61) r0 else w0.map .inl ++ DJ (some 61) r0):=rfl
theorem Ey:∀ (l:List Seg) (f:Nat) (prev:Option Nat),(∀ x∈l,Dq x)->(cat l).length<=f->scan f prev (cat l)=DJ prev l
 | [],f,prev,_,_=>by induction f<;>(rfl)
 | .plain c::r,f,prev,h,hf=>by
  have hr:∀ x∈r,Dq x:=fun y hy=>h y (by simp [hy])
  (replace hf:=(o9)▸hf)
  (refine AM (h (.plain c) (List.Mem.head _)) ?_;rintro hq _)
  simp only [Seg.b] at hf
  obtain ⟨g,rfl⟩:∃ g,f=g+c.length:=⟨f - c.length,(Nat.sub_add_cancel (om (pB _ _) hf)).symm⟩
  (refine AA (Id c g prev (cat r) (GA hq (MT hr))) ?_;refine AA (Ey r g _ hr (oy fun q=>nl (FO g (List.length (cat r)) (List.length c)) ⟨false,(nP (nW Ae) (nP BK Ag)),(nP Ag (nP Ae BK))⟩ rfl (nQ q hf))) ?_;rfl)
 | .word w t::r,f,prev,h,hf=>by
  have hr:∀ x∈r,Dq x:=fun y hy=>h y (by simp [hy])
  (refine Bq (h (.word w t) (List.Mem.head _)) ?_;rintro ⟨w',rfl,hq,hl⟩ _ hw)
  (replace hf:=(o9)▸hf)
  simp only [Seg.b,List.length_cons] at hf
  have bytes:wordAt prev (61::(w' ++ cat r))=none->scan f prev (61::(w' ++ cat r))=(61::w').map Sum.inl ++ DJ (some 61) r:=fun e=>by
   obtain ⟨g,rfl⟩:∃ g,f=g+w'.length+1:=⟨f - (w'.length+1),(Nat.sub_add_cancel (om (pB _ _) hf)).symm⟩
   ((rewrite [Df]);refine AA e ?_)
   (refine AA (Id w' g (some 61) (cat r) (GA hq (MT hr))) ?_;refine AA hl ?_;refine AA (Ey r g _ hr (oy fun q=>nl (FO g (List.length (cat r)) w'.length) ⟨false,(nP (nW Ae) (nP (nW BK) Ag)),(nP Ag (nW (nP Ae BK)))⟩ rfl (nQ q hf))) ?_;rfl)
  have hw':=hw prev (cat r)
  (refine AA (EN ..:) ?_)
  simp only [Seg.b,List.cons_append]
  cases t with
  | none=>exact bytes hw'
  | some t=>
   simp only [Pf,Pg,Ph,Pi]
   simp only at hw'
   by_cases ha:apart prev (cat r)=true
   ·rw [if_pos ha] at hw' ⊢
    obtain ⟨g,rfl⟩:∃ g,f=g+1:=⟨f - 1,by lia⟩
    ((rewrite [Df]);refine AA hw' ?_)
    simp only
    (refine AA (Ey r g _ hr (oy fun q=>nl (FO g (List.length (cat r)) w'.length) ⟨false,(nP (nW Ae) (nP (nW BK) Ag)),(nP Ag (nW Ae))⟩ rfl (nQ q hf))) ?_;rfl)
   ·rw [if_neg ha] at hw' ⊢
    exact bytes hw'
noncomputable def D3(y:B):Prop:=∀ b,y.head?=some b->b<128∨191<b
noncomputable def good:B->Bool
 | []=>true
 | [a]=>decide (a<128)||a==233||a==160
 | a::b::r=>if a<128 then good (b::r) else if a=195 then b==169&&good r
   else if a=233 then(decide (b<128)||decide (191<b))&&good (b::r) else if a=160 then good (b::r) else false
theorem Nu:good  []=(true):=rfl
theorem Nv:good  [a0]=(decide (a0<128)||a0==233||a0==160):=rfl
theorem Ie:good  (a0::b0::r0)=(if a0<128 then good (b0::r0) else if a0=195 then b0==169&&good r0
   else if a0=233 then(decide (b0<128)||decide (191<b0))&&good (b0::r0) else if a0=160 then good (b0::r0) else false):=rfl
theorem EO:good x=true->good y=true->D3 y->good (x ++ y)=true:=by
 induction x using two with
 | nil=>exact fun _ h _=>h
 | one a=>
  cases y with
  | nil=>exact fun h _ _=>h
  | cons b y=>
   intro hx hy hc
   have hb:=hc b (by rfl)
   simp [Nu,Nv,Ie] at hx
   simp only [List.cons_append,List.nil_append,Nu,Nv,Ie]
   rcases hx with (h | rfl) | rfl
   ·simp [h,hy]
   ·simp [hy,hb]
   ·trivial
 | more a b r ih ih2=>
  intro hx hy hc
  simp only [List.cons_append]
  (rewrite [Ie] at hx ⊢)
  by_cases h1:a<128
  ·rw [if_pos h1] at hx ⊢
   exact ih hx hy hc
  ·rw [if_neg h1] at hx ⊢
   by_cases h2:a=195
   ·rw [if_pos h2] at hx ⊢
    simp only [Bool.and_eq_true] at hx ⊢
    exact⟨hx.1,ih2 hx.2 hy hc⟩
   ·rw [if_neg h2] at hx ⊢
    by_cases h3:a=233
    ·rw [if_pos h3] at hx ⊢
     simp only [Bool.and_eq_true] at hx ⊢
     exact⟨hx.1,ih hx.2 hy hc⟩
    ·rw [if_neg h3] at hx ⊢
     by_cases h4:a=160
     ·rw [if_pos h4] at hx ⊢
      exact ih hx hy hc
     ·(replace hx:=(pH h4)▸hx);exact fT hx
noncomputable def stepF(f:Nat)(c:Nat)(r:B)(z:Option Nat×Nat):Option B:=match z with
 | (none,_)=>none
 | (some code,n)=>(BH f ((c::r).drop n)).map (code::·)
theorem Fh(h:Aq 3 c r=(some x,n)):BH (f+1) (c::r)=(BH f ((c::r).drop n)).map (x::·):=congrArg (stepF f c r) h
theorem Ig(h:Aq 3 c r=(none,n)):BH (f+1) (c::r)=none:=congrArg (stepF f c r) h
theorem SM{p q:Prop}[Decidable p][Decidable q]{x y:B}{a:Nat}(h:q↔p)(e:y=a::x):(if p then none else some x).map (a::·)=if q then none else some y:=by
 subst e
 by_cases hp:p
 ·rw [if_pos hp,if_pos (h.mpr hp)];rfl
 ·rw [if_neg hp,if_neg fun z=>hp (h.mp z)];rfl
theorem H9(h1:233≠a)(h2:160≠a):(233∈a::l∨160∈a::l)↔(233∈l∨160∈l):=
 ⟨.imp (fun h=>(pj.mp h).resolve_left h1) fun h=>(pj.mp h).resolve_left h2,.imp (.tail _) (.tail _)⟩
theorem MU:∀ {f:Nat},good o=true->o.length<=f->BH f o=if 233∈o∨160∈o then none else some (Fe o):=by
 have n1:∀ {a:Nat},a<128->233≠a/\160≠a/\a≠195:=fun h=>⟨Nat.ne_of_gt (Nat.lt_trans h (by decide)),Nat.ne_of_gt (Nat.lt_trans h (by decide)),pX (Nat.lt_trans h (by decide))⟩
 induction o using two with
 | nil=>exact fun {f} _ _=>by cases f<;>rfl
 | one a=>
  intro f h hf
  cases f with
  | zero=>exact absurd hf (Nat.not_succ_le_zero _)
  | succ f=>
   by_cases h1:a<128
   ·exact(Fh (pO h1)).trans ((congrArg (Option.map (a::·)) (by cases f<;>rfl:BH f []=if 233∈([]:B)∨160∈([]:B) then none else some [])).trans (SM (H9 (n1 h1).1 (n1 h1).2.1) rfl))
   ·rcases (Bool.or_eq_true _ _).mp h with z | z
    ·rcases (Bool.or_eq_true _ _).mp z with z | z
     ·exact absurd (of_decide_eq_true z) h1
     ·cases beq_iff_eq.mp z;rfl
    ·cases beq_iff_eq.mp z;rfl
 | more a b r ih ih2=>
  intro f h hf
  cases f with
  | zero=>exact absurd hf (Nat.not_succ_le_zero _)
  | succ f=>
   have h:(if a<128 then good (b::r) else if a=195 then b==169&&good r else if a=233 then(decide (b<128)||decide (191<b))&&good (b::r) else if a=160 then good (b::r) else false)=true:=h
   by_cases h1:a<128
   ·rw [if_pos h1] at h
    exact(Fh (pO h1)).trans ((congrArg (Option.map (a::·)) (ih h (Nat.le_of_succ_le_succ hf))).trans (SM (H9 (n1 h1).1 (n1 h1).2.1) (pH fun q=>(n1 h1).2.2 q.1)))
   ·rw [if_neg h1] at h
    by_cases h2:a=195
    ·rw [if_pos h2] at h
     subst h2
     have hb:=Bool.and_eq_true_iff.mp h
     cases beq_iff_eq.mp hb.1
     exact(Fh (n:=2) rfl).trans ((congrArg (Option.map (233::·)) (ih2 hb.2 (Nat.le_of_succ_le_succ (Nat.le_of_succ_le hf)))).trans (SM ((H9 (by decide) (by decide)).trans (H9 (by decide) (by decide))) rfl))
    ·rw [if_neg h2] at h
     by_cases h3:a=233
     ·rw [if_pos h3] at h
      subst h3
      have hb:¬(128<=b/\b<=191):=fun q=>((Bool.or_eq_true _ _).mp (Bool.and_eq_true_iff.mp h).1).elim (fun z=>absurd q.1 (Nat.not_le_of_lt (of_decide_eq_true z))) fun z=>absurd q.2 (Nat.not_le_of_lt (of_decide_eq_true z))
      exact(Ig (c:=233) (r:=b::r) (show (if 128<=b/\b<=191 then Fd 128 191 2 (233 % (64 / 2 ^ 2)*64+b % 64) 1 r else(none,1))=(none,1) from pH hb)).trans (pO (.inl (.head _))).symm
     ·rw [if_neg h3] at h
      by_cases h4:a=160
      ·subst h4
       exact(Ig rfl).trans (pO (.inr (.head _))).symm
      ·rw [if_neg h4] at h;exact fT h
theorem GC(h:good o=true):BY o=AS o:=by
 delta BY strictText AS
 (refine AA (MU h (ou _)) ?_)
 by_cases hm:233∈o∨160∈o
 ·simp [hm]
 ·simp [hm]
noncomputable def Bs:Bool->B->Option Nat->List Seg->B
 | _,run,_,[]=>AS run
 | beh,run,p,.plain c::r=>Bs beh (run ++ c) (A0 p c) r
 | beh,run,_,.word w none::r=>Bs beh (run ++ w) (some 61) r
 | beh,run,p,.word w (some t)::r=>if apart p (cat r) then(if beh&&run.all AV then [] else AS run) ++ (t ++ Bs true [] (some 61) r)
   else Bs beh (run ++ w) (some 61) r
theorem SN:Bs  u10 run0 u20 []=(AS run0):=rfl
theorem SO:Bs  beh0 run0 pz0 (.plain c0::r0)=(Bs beh0 (run0 ++ c0) (A0 pz0 c0) r0):=rfl
theorem SP:Bs  beh0 run0 u10 (.word w0 none::r0)=(Bs beh0 (run0 ++ w0) (some 61) r0):=rfl
theorem SQ:Bs  beh0 run0 pz0 (.word w0 (some t0)::r0)=(if apart pz0 (cat r0) then(if beh0&&run0.all AV then [] else AS run0) ++ (t0 ++ Bs true [] (some 61) r0)
   else Bs beh0 (run0 ++ w0) (some 61) r0):=rfl
theorem IA(beh:Bool)(ts:List Tok):∀ (c run:B),Ni beh run (c.map Sum.inl ++ ts)=Ni beh (run ++ c) ts:=by
 intro rx
 induction rx with
 | nil=>
  exact fun run=>by simp
 | cons x c ih=>
  exact fun run=>by
   (refine AA (ih (run ++ [x])) ?_);simp
theorem GD:∀ (l:List Seg) (p:Option Nat) (beh:Bool) (run:B),(∀ x∈l,good x.b=true/\D3 x.b)->good run=true->Ni beh run (DJ p l)=Bs beh run p l
 | [],p,beh,run,_,hr=>GC hr
 | .plain c::r,p,beh,run,h,hr=>by
  (refine AM (h (.plain c) (List.Mem.head _)) ?_;rintro h1 h2)
  (refine AA (IA ..:) ?_)
  exact GD r _ _ _ (fun y hy=>h y (by simp [hy])) (EO hr h1 h2)
 | .word w none::r,p,beh,run,h,hr=>by
  (refine AM (h (.word w none) (List.Mem.head _)) ?_;rintro h1 h2)
  (refine AA (IA ..:) ?_)
  exact GD r _ _ _ (fun y hy=>h y (by simp [hy])) (EO hr h1 h2)
 | .word w (some t)::r,p,beh,run,h,hr=>by
  (refine AM (h (.word w (some t)) (List.Mem.head _)) ?_;rintro h1 h2)
  simp only [Pf,Pg,Ph,Pi,SN,SO,SP,SQ]
  by_cases ha:apart p (cat r)=true
  ·(refine AA (pO ha) ?_;refine AA (pO ha) ?_)
   simp only [PW,PX,MO]
   (refine AA (GC hr) ?_;refine AA (GD r _ _ [] (fun y hy=>h y (by simp [hy])) rfl) ?_;rfl)
  ·(refine AA (pH ha) ?_;refine AA (pH ha) ?_;refine AA (IA ..:) ?_)
   exact GD r _ _ _ (fun y hy=>h y (by simp [hy])) (EO hr h1 h2)
theorem K8(h0:Dq (.plain g))(h:∀ x∈l,Dq x)(hg:good g=true)(hl:∀ x∈l,good x.b=true/\D3 x.b):
  A9 (cat (.plain g::l))=Bs false [] none (.plain g::l):=by
 delta A9
 have hall:∀ x∈Seg.plain g::l,Dq x:=by
  intro x hx
  rcases pj.mp hx with rfl | hx
  ·exact h0
  ·exact h x hx
 (refine AA (Ey _ _ _ hall (ou _)) ?_)
 (refine AA (IA ..:) ?_)
 exact GD l _ _ _ hl (by trivial)
noncomputable def koi:B:=[107,111,105,56,45,114]
noncomputable def FS(strange:Nat)(great:Bool)(name:B):B:=if strange=0 then koi else if great then name.map CT else name
noncomputable def Fi(strange way:Nat):Nat:=if strange=1 then 88 else way
noncomputable def X1:List B:=[[],[42,101,110],[42]]
noncomputable def EP(nm tag:B)(w:Nat)(load:B):B:=61::63::((nm ++ tag) ++ 63::([w] ++ 63::(load ++ [63,61])))
inductive Word:B->Option B->Prop
 | mk (k:Nat) (set:List B×List (B×B)) (name tag:B) (great:Bool) (way strange:Nat) (l:List (B×B)) (load:B) (hk:k<3) (hs:Qa[k]?=some set) (hn:name∈set.1) (ht:tag∈X1)
   (hw:way∈[81,113,66,98]) (hl:∀ s∈l,s∈set.2)
   (hload:((way=81∨way=113)/\∃ g b,Dz b/\load=Bo g b (l.flatMap (·.2)))∨((way=66∨way=98)/\load=Bd (l.flatMap (·.2)))) :
   Word (EP (FS strange great name) tag (Fi strange way) load) (if strange<2 then none else some (l.flatMap (·.1)))
theorem Qd:∀ k,k<3->∀ n∈(Qa[k]?.getD ([],[])).1,∀ great:Bool,As (if great then n.map CT else n)=k+1/\(if great then n.map CT else n).all (fun x=>Az x&&x != 42&&x != 61)=true:=by decide
theorem SS{set:List B×List (B×B)}(hk:k<3)(hs:Qa[k]?=some set)(hn:n∈set.1)(great:Bool):
  As (if great then n.map CT else n)=k+1/\(if great then n.map CT else n).all (fun x=>Az x&&x != 42&&x != 61)=true:=
 Qd k hk n (by(refine AA hs ?_);exact hn) great
theorem X3:As koi=0/\koi.all (fun x=>Az x&&x != 42&&x != 61)=true:=by decide
theorem ST{set:List B×List (B×B)}(hk:k<3)(hs:Qa[k]?=some set)(hn:n∈set.1)(great:Bool)(strange:Nat):
  As (FS strange great n)=(if strange=0 then 0 else k+1)/\(FS strange great n).all (fun x=>Az x&&x != 42&&x != 61)=true:=by
 delta FS
 by_cases h:strange=0
 ·simp only [h,if_true];exact X3
 ·simp only [h,if_false];exact SS hk hs hn great
theorem VL:∀ t∈X1,t.all (fun x=>Az x&&x != 61)=true/\t.takeWhile (· != 42)=[]:=by decide
theorem VM:∀ w∈[81,113,66,98],∀ strange,Az (Fi strange w)=true/\Fi strange w≠61:=by
 intro w hw strange
 delta Fi
 by_cases h:strange=1
 ·simp [h];rfl
 ·simp only [h,if_false]
  revert w;decide
theorem Aa(h:a≠61):∀ r,Be (a::r)=Be r
 | []=>by rfl
 | b::r=>by((rewrite [Ic]));simp [h]
theorem Ih:∀ {p:B} (r:B),(∀ x∈p,x≠61)->Be (p ++ r)=Be r:=by
 intro rx
 induction rx with
 | nil=>
  exact fun r _=>by rfl
 | cons a p ih=>
  exact fun r h=>by(refine AA List.cons_append ?_;rewrite [Aa (h a (List.Mem.head _))];refine AA (ih r fun x hx=>h x (by simp [hx])) ?_;rfl)
theorem Jz(great:Bool)(hb:Dz blank){o:B}:(∀ c∈o,c<256)->Be (Bo great blank o ++ [63,61])=true:=by
 induction o with
 | nil=>exact fun _=>rfl
 | cons c o ih=>
  intro h
  have ih:=ih fun x hx=>h x (.tail _ hx)
  (refine AA (C3 ..:) ?_;refine AA (pD ..:) ?_)
  rcases Ff great hb (h c (List.Mem.head _)) with ⟨e,ha⟩ | ⟨e,rfl⟩ | ⟨hh,l,x,y,e,h1,h2,h3,h4,h5,h6,h7,h8,h9⟩
  ·(refine AA e ?_;exact(Aa (Ia ha).2.1 _).trans ih)
  ·(refine AA e ?_;exact(Aa (by decide) _).trans ih)
  ·have n1:hh≠61:=by rintro rfl;trivial
   (refine AA e ?_)
   simp only [List.cons_append,List.nil_append]
   ((rewrite [Ic]);rewrite [Aa n1];rewrite [Aa h9];refine AA ih ?_)
   simp [h8]
theorem MV(o:B):Be (Bd o ++ [63,61])=true:=by
 have s:=fun n=>(Gi n).2.1
 induction o using XH with
 | nil=>rfl
 | one a=>exact(Aa (s _) _).trans (Aa (s _) _)
 | two a b=>exact(Aa (s _) _).trans ((Aa (s _) _).trans (Aa (s _) _))
 | more a b c r ih=>exact(Aa (s _) _).trans ((Aa (s _) _).trans ((Aa (s _) _).trans ((Aa (s _) _).trans ih)))
theorem Dg:∀ (x y:B) (p:Option Nat),A0 p (x ++ y)=A0 (A0 p x) y:=by
 intro rx
 induction rx with
 | nil=>
  exact fun y p=>by rfl
 | cons a x ih=>
  exact fun y p=>ih y _
theorem MW(x:B)(a:Nat)(p:Option Nat):A0 p (x ++ [a])=some a:=by(refine AA (Dg ..:) ?_);rfl
theorem Ii:∀ {x:B},(∀ c∈x,c<128)->good x=true
 | [],_=>rfl
 | [a],h=>by simp [Nu,Nv,Ie,h a (List.Mem.head _)]
 | a::b::r,h=>by
  ((rewrite [Ie]);refine AA (pO (h a (List.Mem.head _))) ?_)
  exact Ii fun c hc=>h c (by simp [hc])
structure Qe(w:B)(t:Option B):Prop where
 seg:Dq (.word w t)
 range:∀ c∈w,33<=c/\c<=126
 first:w.head?=some 61
 last:∀ p,A0 p w=some 61
theorem DK(h:Az c=true):33<=c/\c<=126:=by
 simp [Az] at h;exact h.1
theorem CV{t:Option B}(h:Word w t):Qe w t:=by
 induction h with
 | mk k set name tag great way strange l load hk hs hn ht hw hl hload=>
  (refine AM (ST hk hs hn great strange) ?_;rintro n1 n2)
  (refine AM (VL tag ht) ?_;rintro t1 t2)
  (refine AM (VM way hw strange) ?_;rintro w1 w2)
  have hsign:=fun s h=>VI k hk set hs s (hl s h)
  have hlws:load.all Az=true:=by
   rcases hload with ⟨_,g,b,hb,rfl⟩ | ⟨_,rfl⟩
   ·exact Nq g hb (Da hsign)
   ·exact SH _
  have hlq:Be (load ++ [63,61])=true:=by
   rcases hload with ⟨_,g,b,hb,rfl⟩ | ⟨_,rfl⟩
   ·exact Jz g hb (Da hsign)
   ·exact MV _
  generalize hnm:FS strange great name=nm at n1 n2
  have n3:∀ x∈nm,Az x=true/\x≠42/\x≠61:=by
   intro x hx
   have:=(pr.mp n2) x hx
   simp at this
   exact⟨this.1.1,this.1.2,this.2⟩
  have t3:∀ x∈tag,Az x=true/\x≠61:=by
   intro x hx
   have:=(pr.mp t1) x hx
   simpa using this
  have l3:∀ x∈load,Az x=true:=by simpa using hlws
  have ha:(nm ++ tag).all Az=true:=by
   (refine F7 (pr:) ?_)
   intro x hx
   rcases pV.mp hx with h | h
   ·exact(n3 x h).1
   ·exact(t3 x h).1
  have hb:[Fi strange way].all Az=true:=by simp [w1]
  have htw:(nm ++ tag).takeWhile (· != 42)=nm:=by
   (refine AA (List.takeWhile_append_of_pos (fun x hx=>by simpa using (n3 x hx).2.1)) ?_;refine AA t2 ?_;refine AA (qH ..:) ?_;rfl)
  have range:∀ c∈EP nm tag (Fi strange way) load,33<=c/\c<=126:=by
   intro c hc
   simp only [EP,List.mem_cons,List.mem_append,List.not_mem_nil,or_false] at hc
   rcases hc with rfl | rfl | (h | h) | rfl | rfl | rfl | h | rfl | rfl
   ·exact⟨by decide,by decide⟩
   ·exact⟨by decide,by decide⟩
   ·exact DK (n3 c h).1
   ·exact DK (t3 c h).1
   ·exact⟨by decide,by decide⟩
   ·exact DK w1
   ·exact⟨by decide,by decide⟩
   ·exact DK (l3 c h)
   ·exact⟨by decide,by decide⟩
   ·exact⟨by decide,by decide⟩
  have hlast:∀ p,A0 p (63::((nm ++ tag) ++ 63::([Fi strange way] ++ 63::(load ++ [63,61]))))=some 61:=fun p=>by
   have e:63::((nm ++ tag) ++ 63::([Fi strange way] ++ 63::(load ++ [63,61])))=(63::((nm ++ tag) ++ 63::([Fi strange way] ++ 63::(load ++ [63])))) ++ [61]:=by simp
   (refine AA e ?_;refine AA (MW ..:) ?_;rfl)
  refine⟨⟨⟨_,rfl,?_,hlast _⟩,?_,?_⟩,range,rfl,fun p=>?_⟩
  ·(rewrite [Aa (by decide)];rewrite [Ih _ (fun x hx=>?_)];rewrite [Aa (by decide)];refine AA (Ih _ (by simpa using w2)) ?_;rewrite [Aa (by decide)];refine AA hlq ?_;rfl)
   rcases pV.mp hx with h | h
   ·exact(n3 x h).2.2
   ·exact(t3 x h).2
  ·intro rest _
   refine⟨Dp (by decide),?_⟩
   intro r' e
   simp [EP] at e
  ·intro prev rest
   have e:EP nm tag (Fi strange way) load ++ rest=61::63::((nm ++ tag) ++ 63::([Fi strange way] ++ 63::(load ++ 63::61::rest))):=by simp [EP]
   (refine AA e ?_)
   delta wordAt
   (rewrite [Nr ha hb hlws])
   simp only [htw,n1]
   by_cases hap:apart prev rest=true
   ·simp only [hap,if_true]
    by_cases h0:strange=0
    ·(refine AA h0 ?_;trivial)
    ·by_cases h1:strange=1
     ·(refine AA h1 ?_;trivial)
     ·have h2:¬strange<2:=by lia
      simp only [h0,h2,if_false,Fi,h1]
      rcases hload with ⟨hw',g,b,hb,rfl⟩ | ⟨hw',rfl⟩
      ·have:[way].map CT=[81]:=by rcases hw' with rfl | rfl<;>rfl
       (refine AA this ?_;refine AA (VH g hb (Da hsign)) ?_;refine AA (Ib hsign) ?_;trivial)
      ·have e1:[way].map CT=[66]:=by rcases hw' with rfl | rfl<;>rfl
       (refine AA e1 ?_;refine AA (Pe (Da hsign)) ?_;refine AA (Ib hsign) ?_;trivial)
   ·have hap':apart prev rest=false:=by simpa using hap
    by_cases h2:strange<2<;>simp [hap',h2]
  ·refine(?_:A0 (some 61) _=some 61)
   exact hlast _
noncomputable def bO:B->Bool
 | []=>true
 | a::r=>(Af a != 117&&Af a != 97&&Af a != 105&&Af a != 108&&Af a != 99&&a != 63)||(a::r==[97,61,98])||(a::r==[63,61])
theorem HT(h:bO c=true):GB c:=by
 intro rest hr
 cases c with
 | nil=>trivial
 | cons a r=>
  simp only [bO,Bool.or_eq_true,Bool.and_eq_true,bne_iff_ne,ne_eq,beq_iff_eq] at h
  rcases h with (h | h) | h
  ·refine⟨Dp ⟨h.1.1.1.1.1,h.1.1.1.1.2,h.1.1.1.2,h.1.1.2,h.1.2⟩,?_⟩
   intro r' e
   simp at e
   exact absurd e.1 h.2
  ·(refine AA h ?_)
   refine⟨?_,?_⟩
   ·intro hm
    have hx:∀ x∈U8,x≠[97,61]:=by decide
    exact hx _ hm rfl
   ·intro r' e;simp at e
  ·(refine AA h ?_)
   refine⟨Dp (by decide),?_⟩
   intro r' e
   simp at e
   (refine BO e ?_)
   exact Dp (by decide)
noncomputable def kG(y:B):Bool:=match y with | []=>true | b::_=>decide (b<128)||decide (191<b)
theorem Nx(h:kG y=true):D3 y:=by
 intro b hb
 induction y with
 | nil=>trivial
 | cons c r=>simp at hb;subst hb;simpa [kG] using h
structure Ny(c:B):Prop where
 seg:Dq (.plain c)
 good:good c=true
 nc:D3 c
noncomputable def Cw(c:B):Bool:=Be c&&bO c&&good c&&kG c
theorem Bt(h:Cw c=true):Ny c:=by
 simp only [Cw,Bool.and_eq_true] at h
 exact⟨⟨h.1.1.1,HT h.1.1.2⟩,h.1.2,Nx h.2⟩
theorem Ij:∀ g∈gapsL,Cw g=true:=by decide
theorem C4:∀ g∈plainsL,Cw g=true:=by decide
noncomputable def CX(data:B)(b e:Nat):Bool:=(b==0||(match data[b - 1]? with | some p=>AV p||p==40 | none=>false))&&(e==data.length||(match data[e]? with | some p=>AV p||p==41 | none=>false))
noncomputable def Bp(data:B):List (Nat×Nat×B)->B->Nat->Bool->B
 | [],found,begun,_=>found ++ AS (data.drop begun)
 | (b,e,t)::r,found,begun,beh=>if CX data b e then
   Bp data r ((if beh&&((data.take b).drop begun).all AV then found else found ++ AS ((data.take b).drop begun)) ++ t) e true
  else Bp data r found begun beh
theorem Qg:Bp data0 [] found0 begun0 u10=(found0 ++ AS (data0.drop begun0)):=rfl
theorem Qh:Bp data0 ((b0,e0,t0)::r0) found0 begun0 beh0=(if CX data0 b0 e0 then
   Bp data0 r0 ((if beh0&&((data0.take b0).drop begun0).all AV then found0 else found0 ++ AS ((data0.take b0).drop begun0)) ++ t0) e0 true
  else Bp data0 r0 found0 begun0 beh0):=rfl
noncomputable abbrev A6:=(B×Option B)×B
noncomputable def ED:B->List (Nat×Nat×B)->List A6->B×List (Nat×Nat×B)
 | data,spots,[]=>(data,spots)
 | data,spots,((o,t),g)::r=>ED (data ++ o ++ g) (match t with | none=>spots | some t=>spots ++ [(data.length,data.length+o.length,t)]) r
theorem VN:ED  data0 spots0 []=((data0,spots0)):=rfl
theorem K9:ED  data0 spots0 (((o0,t0),g0)::r0)=(ED (data0 ++ o0 ++ g0) (match t0 with | none=>spots0 | some t0=>spots0 ++ [(data0.length,data0.length+o0.length,t0)]) r0):=rfl
noncomputable def AL(g0:B)(ps:List A6):B×B:=((ED g0 [] ps).1,Bp (ED g0 [] ps).1 (ED g0 [] ps).2 [] 0 false)
noncomputable def segOf(o:B)(t:Option B):Seg:=match t with
 | none=>if o∈plainsL then .plain o else .word o none
 | some t=>.word o (some t)
theorem LA(o:B)(t:Option B):(segOf o t).b=o:=by
 delta segOf
 induction t with
 | none=>simp only;split<;>rfl
 | some t=>rfl
theorem Pj(c:B):(Seg.plain c).b=c:=rfl
noncomputable def Dh:List A6->List Seg
 | []=>[]
 | ((o,t),g)::r=>segOf o t::.plain g::Dh r
theorem EQ:Dh  []=([]):=rfl
theorem Dr:Dh  (((o0,t0),g0)::r0)=(segOf o0 t0::.plain g0::Dh r0):=rfl
noncomputable def BZ:Nat->List Seg->List (Nat×Nat×B)
 | _,[]=>[]
 | p,.plain c::r=>BZ (p+c.length) r
 | p,.word w none::r=>BZ (p+w.length) r
 | p,.word w (some t)::r=>(p,p+w.length,t)::BZ (p+w.length) r
theorem Gk:BZ  u10 []=([]):=rfl
theorem Gl:BZ  pz0 (.plain c0::r0)=(BZ (pz0+c0.length) r0):=rfl
theorem Gn:BZ  pz0 (.word w0 none::r0)=(BZ (pz0+w0.length) r0):=rfl
theorem Go:BZ  pz0 (.word w0 (some t0)::r0)=((pz0,pz0+w0.length,t0)::BZ (pz0+w0.length) r0):=rfl
theorem GE:∀ (ps:List A6) (data:B) (spots:List (Nat×Nat×B)),ED data spots ps=(data ++ cat (Dh ps),spots ++ BZ data.length (Dh ps))
 | [],data,spots=>by simp [VN,K9,EQ,Dr,cat,Gk,Gl,Gn,Go]
 | ((o,none),g)::r,data,spots=>by
  have e:BZ data.length (Dh (((o,none),g)::r))=BZ (data ++ o ++ g).length (Dh r):=by
   simp only [EQ,Dr,segOf]
   split<;>simp [Gk,Gl,Gn,Go,Nat.add_assoc]
  ((rewrite [K9]);rewrite [GE r];refine AA e ?_)
  (refine AA (EN ..:) ?_;refine AA (LA ..:) ?_;refine AA (pD ..:) ?_;refine AA (pD ..:) ?_;rfl)
 | ((o,some t),g)::r,data,spots=>by
  ((rewrite [K9]);rewrite [GE r])
  ((rewrite [Dr]);refine AA (EN ..:) ?_;refine AA (EN ..:) ?_;refine AA (LA ..:) ?_;refine AA (Pj ..:) ?_;refine AA (pD ..:) ?_;refine AA (pD ..:) ?_)
  simp [segOf,Gk,Gl,Gn,Go,Nat.add_assoc]
theorem Ik:∀ (x:B) (p:Option Nat),x≠[]->A0 p x=x[x.length - 1]?
 | [],_,h=>absurd rfl h
 | [a],p,_=>by rfl
 | a::b::x,p,_=>by
  have:=Ik (b::x) (some a) (List.cons_ne_nil _ _)
  (refine AA this ?_)
  rfl
theorem SU:CX (pre ++ (w ++ post)) pre.length (pre.length+w.length)=apart (A0 none pre) post:=by
 delta CX apart
 congr 1
 ·cases pre with
  | nil=>rfl
  | cons a x=>
   have h2:((a::x) ++ (w ++ post))[(a::x).length - 1]?=(a::x)[(a::x).length - 1]?:=by
    (refine AA (List.getElem?_append_left (ou _)) ?_;rfl)
   (refine AA (Ik _ _ (List.cons_ne_nil _ _)) ?_;refine AA h2 ?_)
   (refine AA (o8 _:(a::x)[(a::x).length - 1]?=some ((a::x)[(a::x).length - 1]'(ou _))) ?_)
   rfl
 ·cases post with
  | nil=>simp
  | cons a x=>
   have h2:(pre ++ (w ++ a::x))[pre.length+w.length]?=some a:=by
    (refine BO (pD ..:) ?_;refine AA (List.getElem?_append_right (by simp)) ?_)
    simp
   (refine AA h2 ?_)
   simp
theorem Pk{pre c found:B}(hb:begun<=pre.length)(ih:Bp ((pre ++ c) ++ cat r) (BZ (pre ++ c).length r) found begun beh=found ++ Bs beh ((pre ++ c).drop begun) (A0 none (pre ++ c)) r):
  Bp (pre ++ (c ++ cat r)) (BZ (pre.length+c.length) r) found begun beh=found ++ Bs beh (pre.drop begun ++ c) (A0 (A0 none pre) c) r:=by
 (replace ih:=pD pre c (cat r)▸ih;replace ih:=o9▸ih;replace ih:=List.drop_append_of_le_length hb▸ih;replace ih:=Dg pre c none▸ih);exact ih
theorem SV(l:List Seg):∀ (pre:B) (found:B) (begun:Nat) (beh:Bool),(∀ x∈l,Dq x)->begun<=pre.length->
  Bp (pre ++ cat l) (BZ pre.length l) found begun beh=found ++ Bs beh (pre.drop begun) (A0 none pre) l:=by
 induction l with
 | nil=>exact fun pre found begun beh _ _=>congrArg (fun z:B=>found ++ AS (z.drop begun)) (qH pre)
 | cons x r ih=>
  intro pre found begun beh h hb
  have ih:=fun c fo be bh hbe=>ih (pre ++ c) fo be bh (fun y hy=>h y (.tail _ hy)) hbe
  have le:∀ {c:B},begun<=(pre ++ c).length:=om hb (om (pB _ _) (pL o9.symm))
  cases x with
  | plain c=>exact Pk hb (ih c found begun beh le)
  | word w t=>
   obtain ⟨⟨w',rfl,_,hl⟩,_⟩:=h (.word w t) (List.Mem.head _)
   have hl:=hl
   have st:=Pk hb (ih (61::w') found begun beh le)
   (replace st:=hl▸st)
   cases t with
   | none=>exact st
   | some t=>
    refine(?_:(if CX (pre ++ (61::w' ++ cat r)) pre.length (pre.length+(61::w').length)=true then Bp _ _ ((if beh&&(((pre ++ (61::w' ++ cat r)).take pre.length).drop begun).all AV then _ else _ ++ AS (((pre ++ (61::w' ++ cat r)).take pre.length).drop begun)) ++ t) _ _ else _)=found ++ (if apart (A0 none pre) (cat r)=true then _ else _))
    (refine AA SU ?_;refine AA (List.take_left' rfl) ?_)
    by_cases ha:apart (A0 none pre) (cat r)=true
    ·(refine AA (pO ha) ?_;refine AA (pO ha) ?_)
     have:=ih (61::w') ((if beh&&(pre.drop begun).all AV then found else found ++ AS (pre.drop begun)) ++ t) (pre ++ 61::w').length true (ou _)
     (replace this:=pD pre (61::w') (cat r)▸this;replace this:=List.drop_length▸this;replace this:=Dg pre (61::w') none▸this;replace this:=hl▸this;replace this:=o9▸this)
     refine this.trans ?_
     (refine AA (pD ..:) ?_)
     cases (beh&&(pre.drop begun).all AV) with
     | true=>rfl
     | false=>exact pD ..
    ·(refine AA (pH ha) ?_;refine AA (pH ha) ?_);exact st
noncomputable def Ch(p:B×Option B):Prop:=Word p.1 p.2∨(p.1∈plainsL/\p.2=none)
structure MX(x:Seg):Prop where
 seg:Dq x
 good:good x.b=true
 nc:D3 x.b
theorem MY(h:Ch (o,t)):MX (segOf o t):=by
 rcases h with h | ⟨h,rfl⟩
 ·have hg:good o=true:=Ii fun c hc=>by have:=((CV h).range c hc).2;exact pC ‹_› (by decide)
  have hn:D3 o:=fun b hb=>by(replace hb:=((CV h).first)▸hb);(refine sI hb ?_;intro zz;induction zz);lia
  delta segOf
  induction t with
  | none=>
   simp only
   split
   ·rename_i hp
    have g:=Bt (C4 _ hp)
    exact⟨g.seg,g.good,g.nc⟩
   ·exact⟨(CV h).seg,hg,hn⟩
  | some t=>exact⟨(CV h).seg,hg,hn⟩
 ·have h':o∈plainsL:=h
  simp only [segOf,h',if_true]
  exact⟨(Bt (C4 _ h')).seg,(Bt (C4 _ h')).good,(Bt (C4 _ h')).nc⟩
theorem DL:∀ {ps:List A6},(∀ p∈ps,Ch p.1/\Cw p.2=true)->∀ x∈Dh ps,MX x
 | [],_,x,hx=>by simp [EQ,Dr] at hx
 | ((o,t),g)::r,h,x,hx=>by
  (refine AM (h ((o,t),g) (List.Mem.head _)) ?_;rintro h1 h2)
  simp only [EQ,Dr,List.mem_cons] at hx
  rcases hx with rfl | rfl | hx
  ·exact MY h1
  ·exact⟨(Bt h2).seg,(Bt h2).good,(Bt h2).nc⟩
  ·exact DL (fun p hp=>h p (by simp [hp])) x hx
theorem KO(hq:Be g0=true)(hh:bO g0=true)(hg:good g0=true)(h:∀ p∈ps,Ch p.1/\Cw p.2=true):
  A9 (AL g0 ps).1=(AL g0 ps).2:=by
 have e:=K8 (⟨hq,HT hh⟩) (fun x hx=>((DL h) x hx).seg) hg (fun x hx=>⟨((DL h) x hx).good,((DL h) x hx).nc⟩)
 delta AL
 (refine AA (GE ..:) ?_)
 (refine AA (SV _ _ _ _ _ (fun x hx=>((DL h) x hx).seg) (pQ _)) ?_)
 (refine AA e ?_)
 rfl
noncomputable def slice(d:B)(a b:Nat):B:=(d.take b).drop a
noncomputable def findIn(d:B)(a b c:Nat):Option Nat:=((slice d a b).findIdx? (·==c)).map (a+·)
noncomputable def AT(d:B)(a e:Nat):Nat×Nat:=match findIn d a e 10 with
 | none=>(e,e)
 | some s=>if a<s/\d[s - 1]?=some 13 then(s - 1,s+1) else(s,s+1)
noncomputable def Gp(o:B):Bool:=o.all (fun c=>decide (33<=c)&&decide (c<=126)&&c != 58)&&!o.isEmpty
noncomputable def Db(d:B)(a e:Nat):Option Nat:=match findIn d a e 58 with
 | none=>none
 | some s=>if Gp (slice d a s) then some s else none
noncomputable def sp(c:Nat):Bool:=c==32||c==9
noncomputable def LB(o:Option Nat):Bool:=match o with | some c=>sp c | none=>false
noncomputable def Bl(d:B)(stop:Nat):Nat->Nat->Nat->Nat×Nat
 | 0,last,later=>(last,later)
 | f+1,last,later=>if decide (later<stop)&&LB d[later]? then Bl d stop f (AT d later stop).1 (AT d later stop).2 else(last,later)
theorem ER:Bl d0 stop0 0 last0 later0=((last0,later0)):=rfl
theorem B9:Bl d0 stop0 (f0+1) last0 later0=(if decide (later0<stop0)&&LB d0[later0]? then Bl d0 stop0 f0 (AT d0 later0 stop0).1 (AT d0 later0 stop0).2 else(last0,later0)):=rfl
noncomputable def Bn(d:B)(stop:Nat):Nat->Nat->List (B×B)×Nat
 | 0,_=>([],stop)
 | f+1,here=>if here<stop then
   if (AT d here stop).1=here then([],(AT d here stop).2) else
   match Db d here (AT d here stop).1 with
   | none=>([],here)
   | some colon=>
    let ll:=Bl d stop d.length (AT d here stop).1 (AT d here stop).2
    ((slice d here colon,slice d (colon+1) ll.1)::(Bn d stop f ll.2).1,(Bn d stop f ll.2).2)
  else([],stop)
theorem ba:Bn d0 stop0 0 u10=(([],stop0)):=rfl
theorem GF:Bn d0 stop0 (f0+1) here0=(if here0<stop0 then
   if (AT d0 here0 stop0).1=here0 then([],(AT d0 here0 stop0).2) else
   match Db d0 here0 (AT d0 here0 stop0).1 with
   | none=>([],here0)
   | some colon=>
    let ll:=Bl d0 stop0 d0.length (AT d0 here0 stop0).1 (AT d0 here0 stop0).2
    ((slice d0 here0 colon,slice d0 (colon+1) ll.1)::(Bn d0 stop0 f0 ll.2).1,(Bn d0 stop0 f0 ll.2).2)
  else([],stop0)):=rfl
theorem Il(c:Nat):∀ (x y:B),c∉x->(x ++ c::y).findIdx? (·==c)=some x.length:=by
 intro rx
 induction rx with
 | nil=>
  exact fun y _=>by simp [List.findIdx?_cons]
 | cons a x ih=>
  exact fun y h=>by
   have h1:¬a=c:=fun q=>h (by simp [q])
   (refine AA (List.findIdx?_cons) ?_;refine AA (ih y fun q=>h (by simp [q])) ?_)
   simp [h1]
theorem LC(c:Nat):∀ (x:B),c∉x->x.findIdx? (·==c)=none:=by
 intro rx
 induction rx with
 | nil=>
  exact fun _=>by simp
 | cons a x ih=>
  exact fun h=>by
   have h1:¬a=c:=fun q=>h (by simp [q])
   (refine AA (List.findIdx?_cons) ?_;refine AA (ih fun q=>h (by simp [q])) ?_)
   simp [h1]
theorem Gq(d:B)(a:Nat):slice d a d.length=d.drop a:=by simp [slice]
theorem getElem_drop{d x y:B}(e:d.drop a=x ++ y)(hi:i<x.length):d[a+i]?=x[i]?:=by
 (refine BO (qf) ?_;refine AA e ?_;refine AA (List.getElem?_append_left hi) ?_;rfl)
theorem CA{d x y:B}(e:d.drop a=x ++ 10::y)(hx:10∉x):
  AT d a d.length=if x.getLast?=some 13 then(a+x.length - 1,a+x.length+1) else(a+x.length,a+x.length+1):=by
 delta AT findIn
 (refine AA (Gq ..:) ?_;refine AA e ?_;refine AA (Il 10 x y hx) ?_)
 simp only [Option.map_some]
 cases hxl:x.length with
 | zero=>
  have:x=[]:=List.length_eq_zero_iff.mp hxl
  subst this
  simp
 | succ n=>
  have h1:d[a+(n+1) - 1]?=x.getLast?:=by
   (refine AA (getElem_drop e (pL hxl.symm)) ?_;refine AA (List.getLast?_eq_getElem?) ?_;refine AA hxl ?_)
   rfl
  (refine AA h1 ?_)
  by_cases h2:x.getLast?=some 13
  ·simp [h2]
  ·simp [h2]
theorem Dc:∀ {x:B},c∈x->∃ y z,x=y ++ c::z/\c∉y
 | [],h=>by simp at h
 | a::x,h=>by
  by_cases q:c=a
  ·exact⟨[],x,by(refine AA q ?_;trivial),by simp⟩
  ·(refine BS (Dc (by simpa [q] using h)) ?_;rintro y z e hy)
   exact⟨a::y,z,by(refine AA e ?_;trivial),by simp [q,hy]⟩
noncomputable def CG:B->Bool
 | []=>true
 | [c]=>c != 10
 | a::b::r=>(a != 10||sp b)&&CG (b::r)
theorem C5:CG  []=(true):=rfl
theorem C6:CG  [c0]=(c0 != 10):=rfl
theorem C7:CG  (a0::b0::r0)=((a0 != 10||sp b0)&&CG (b0::r0)):=rfl
theorem By:∀ {x y:B},CG x=true->CG y=true->CG (x ++ y)=true
 | [],y,_,hy=>by trivial
 | [a],[],hx,_=>by trivial
 | [a],b::y,hx,hy=>by
  simp [C5,C6,C7] at hx
  simp [C5,C6,C7,hx,hy]
 | a::b::r,y,hx,hy=>by
  simp only [C5,C6,C7,Bool.and_eq_true] at hx
  have:=By hx.2 hy
  simp only [List.cons_append,C5,C6,C7,Bool.and_eq_true]
  exact⟨hx.1,this⟩
theorem Im:∀ {x:B},10∉x->CG x=true
 | [],_=>rfl
 | [a],h=>by simp [C5,C6,C7];intro q;simp [q] at h
 | a::b::r,h=>by
  have h1:a≠10:=fun q=>h (by simp [q])
  have:=Im (x:=b::r) fun q=>h (by simp at q ⊢;exact .inr q)
  simp [C5,C6,C7,h1,this]
theorem Io:∀ {x y:B},CG (x ++ 10::y)=true->∃ b r,y=b::r/\sp b=true/\CG y=true
 | [],[],h=>by trivial
 | [],b::r,h=>by simp [C5,C6,C7] at h;exact⟨b,r,rfl,h.1,h.2⟩
 | [a],y,h=>by
  simp only [List.cons_append,List.nil_append,C5,C6,C7,Bool.and_eq_true] at h
  exact Io (x:=[]) h.2
 | a::b::x,y,h=>by
  simp only [List.cons_append,C5,C6,C7,Bool.and_eq_true] at h
  exact Io (x:=b::x) h.2
theorem Nz{d t:B}:∀ (n:Nat) (x:B) (a f:Nat),x.length<=n->CG x=true->d.drop a=x ++ 13::10::88::t->x.length<=f->
  Bl d d.length f (AT d a d.length).1 (AT d a d.length).2=(a+x.length,a+x.length+2):=by
 intro n
 induction n with
 | zero=>
  intro x a f hn _ e _
  have:x=[]:=List.length_eq_zero_iff.mp (Nat.sub_eq_zero_of_le hn)
  subst this
  have hl:=CA (x:=[13]) (by trivial) (by decide)
  (refine AA hl ?_)
  have h88:d[a+2]?=some 88:=by(refine BO (qf) ?_;refine AA e ?_);rfl
  induction f with
  | zero=>rfl
  | succ f=>simp [ER,B9,h88,LB,sp]
 | succ n ih=>
  intro x a f hn hx e hf
  by_cases hm:10∈x
  ·(refine BS (Dc hm) ?_;rintro y z rfl hy)
   (refine CQ (Io hx) ?_;rintro b r rfl hb hz)
   have e':d.drop a=y ++ 10::(b::r ++ 13::10::88::t):=by(refine AA e ?_);simp
   have hl:=CA e' hy
   have hl2:(AT d a d.length).2=a+y.length+1:=by(refine AA hl ?_);split<;>rfl
   have e2:d.drop (a+y.length+1)=b::r ++ 13::10::88::t:=by
    (refine AA (show a+y.length+1=a+(y.length+1) by exact rfl) ?_;refine BO qA ?_;refine AA e' ?_)
    simp
   have hb2:d[a+y.length+1]?=some b:=by
    have:=getElem_drop e2 (pW _)
    trivial
   have hlt:a+y.length+1<d.length:=by
    rcases Nat.lt_or_ge (a+y.length+1) d.length with h | h
    ·exact h
    ·(replace hb2:=(List.getElem?_eq_none h)▸hb2);exact nS hb2
   simp only [List.length_append,List.length_cons] at hn hf
   induction f with
   | zero=>exact absurd hf (Nat.not_lt_zero _)
   | succ f=>
    ((rewrite [B9]);refine AA hl2 ?_;refine AA hb2 ?_)
    simp only [LB,hb,hlt,decide_true,Bool.and_self,if_true]
    (refine AA (ih (b::r) _ f (oy fun q=>nl (FO n r.length (List.length y)) ⟨false,(nP (nW Ae) (nP BK (nW (nW Ag)))),(nP (nW Ag) (nW Ae))⟩ rfl (nQ q hn)) hz e2 (oy fun q=>nl (FO f r.length (List.length y)) ⟨false,(nP (nW Ae) (nP BK (nW (nW Ag)))),(nP (nW Ag) (nW Ae))⟩ rfl (nQ q hf))) ?_)
    simp only [List.length_append,List.length_cons,Prod.mk.injEq]
    lia
  ·have h88:d[a+x.length+2]?=some 88:=by
    (refine AA (show a+x.length+2=a+(x.length+2) by exact rfl) ?_;refine BO (qf) ?_;refine AA e ?_;refine AA (List.getElem?_append_right (pB _ _)) ?_)
    simp
   have hl':AT d a d.length=(a+x.length,a+x.length+2):=by
    (refine AA (CA (x:=x ++ [13]) (y:=88::t) (by(refine AA e ?_);simp) (by simp [hm])) ?_);simp
    exact rfl
   (refine AA hl' ?_)
   induction f with
   | zero=>rfl
   | succ f=>simp [ER,B9,h88,LB,sp]
noncomputable def subj:B:=[83,117,98,106,101,99,116]
noncomputable def Ip:B:=[13,10,88,58,32,121,13,10,13,10,122]
theorem HU(hD:CG D=true)(hd:d=subj ++ 58::(D ++ Ip)){f:Nat}:
  Bn d d.length (f+3) 0=([(subj,D),([88],[32,121])],d.length - 1)/\d.drop (d.length - 1)=[122]:=by
 have hlen:d.length=D.length+19:=by(refine AA hd ?_);simp [subj,Ip]
 have e0:d.drop 0=(subj ++ 58::D) ++ 13::10::88::[58,32,121,13,10,13,10,122]:=by(refine AA hd ?_);rfl
 have hf0:CG (subj ++ 58::D)=true:=by
  have:subj ++ 58::D=(subj ++ [58]) ++ D:=by rfl
  (refine AA this ?_);exact By (by rfl) hD
 have hl0:8<=(AT d 0 d.length).1:=by
  by_cases hm:10∈D
  ·(refine BS (Dc hm) ?_;rintro y z rfl hy)
   have hl:=CA (x:=subj ++ 58::y) (y:=z ++ 13::10::88::[58,32,121,13,10,13,10,122]) (by(refine AA e0 ?_);simp) (by simp [subj,hy])
   (refine AA hl ?_)
   split
   ·induction y with
    | nil=>trivial
    | cons b y=>simp [subj]
   ·simp [subj]
  ·have hg:(subj ++ 58::D ++ [13]).getLast?=some 13:=List.getLast?_concat
   (refine AA (CA (x:=subj ++ 58::D ++ [13]) (y:=88::[58,32,121,13,10,13,10,122]) (by(refine AA e0 ?_);simp) (by simp [subj,hm])) ?_;refine AA (pO hg) ?_);simp [subj]
 have hc0:Db d 0 (AT d 0 d.length).1=some 7:=by
  generalize (AT d 0 d.length).1=k at hl0
  obtain ⟨j,rfl⟩:∃ j,k=j+8:=⟨k - 8,(Nat.sub_add_cancel hl0).symm⟩
  have e1:slice d 0 (j+8)=subj ++ 58::((D ++ Ip).take j):=by
   (refine AA hd ?_);rfl
  have e2:slice d 0 7=subj:=by(refine AA hd ?_);rfl
  delta Db findIn
  (refine AA e1 ?_;refine AA (Il 58 subj _ (by decide)) ?_)
  refine(?_:(if Gp (slice d 0 (0+subj.length))=true then some (0+subj.length) else none)=some 7)
  (refine AA e2 ?_)
  rfl
 have hsl:slice d (7+1) (0+(subj ++ 58::D).length)=D:=by
  (refine AA hd ?_)
  simp [slice,subj]
 have e1:d.drop (D.length+10)=[88,58,32,121,13,10,13,10,122]:=by
  (refine AA hd ?_;refine BO qA ?_)
  simp [subj,Ip]
 have hl1:AT d (D.length+10) d.length=(D.length+14,D.length+16):=by
  have:=CA (x:=[88,58,32,121,13]) (by(refine AA e1 ?_);rfl) (by decide)
  (refine AA this ?_);rfl
 have sl1:∀ n,slice d (D.length+10) (D.length+10+n)=[88,58,32,121,13,10,13,10,122].take n:=fun n=>by
  delta slice
  (refine AA List.drop_take ?_)
  congr 1
  exact qX ..
 have hc1:Db d (D.length+10) (D.length+14)=some (D.length+11):=by
  delta Db findIn
  (refine AA (sl1 4) ?_)
  refine(?_:(if Gp (slice d (D.length+10) (D.length+10+1))=true then some (D.length+10+1) else none)=_)
  (refine AA (sl1 1) ?_)
  (rfl)
 have hi1:∀ g,Bl d d.length g (D.length+14) (D.length+16)=(D.length+14,D.length+16):=fun g=>by
  cases g with
  | zero=>rfl
  | succ g=>
   have:d[D.length+16]?=some 13:=by
    (refine AA (show D.length+16=(D.length+10)+6 by exact rfl) ?_;refine BO (qf) ?_;refine AA e1 ?_);rfl
   simp [ER,B9,this,LB,sp]
 have hs1:slice d (D.length+11+1) (D.length+14)=[32,121]:=by
  have h1:d.drop (D.length+12)=[32,121,13,10,13,10,122]:=by
   (refine AA (show D.length+12=(D.length+10)+2 by exact rfl) ?_;refine BO qA ?_;refine AA e1 ?_);rfl
  delta slice
  (refine AA List.drop_take ?_;refine AA h1 ?_)
  (refine AA (show D.length+14 - (D.length+12)=2 by exact Nat.add_sub_add_left ..) ?_);rfl
 have e3:d.drop (D.length+16)=[13,10,122]:=by
  (refine AA (show D.length+16=(D.length+10)+6 by exact rfl) ?_;refine BO qA ?_;refine AA e1 ?_);rfl
 have hl3:AT d (D.length+16) d.length=(D.length+16,D.length+18):=by
  have:=CA (x:=[13]) (by(refine AA e3 ?_);rfl) (by decide)
  (refine AA this ?_);rfl
 have s3:Bn d d.length (f+1) (D.length+16)=([],D.length+18):=by
  ((rewrite [GF]);refine AA hl3 ?_;refine AA (pO (by exact pq fun q=>nl (IZ (List.length d) (List.length D)) ⟨false,(nP Ae (nP Ag (nK 19))),(nP (nP Ag (nK 16)) Ae)⟩ rfl (o7 q (pL (Eq.symm hlen))))) ?_;refine AA (pO rfl) ?_;rfl)
 have s2:Bn d d.length (f+2) (D.length+10)=([([88],[32,121])],D.length+18):=by
  ((rewrite [GF]);refine AA hl1 ?_;refine AA (pO (by exact pq fun q=>nl (IZ (List.length d) (List.length D)) ⟨false,(nP Ae (nP Ag (nK 19))),(nP (nP Ag (nK 10)) Ae)⟩ rfl (o7 q (pL (Eq.symm hlen))))) ?_;refine AA (pH (by simp)) ?_;refine AA hc1 ?_)
  simp only
  (refine AA (hi1 ..:) ?_;refine AA hs1 ?_)
  (refine AA s3 ?_;refine AA (sl1 1) ?_)
  rfl
 refine⟨?_,?_⟩
 ·((rewrite [GF]);refine AA (pO (by rw [hlen];exact(pW _))) ?_;refine AA (pH (Nat.ne_of_gt (pJ (by decide) hl0))) ?_;refine AA hc0 ?_)
  simp only
  (refine AA (Nz (subj ++ 58::D).length (subj ++ 58::D) 0 d.length (ou _) hf0 e0 (by(refine AA hlen ?_);simp [subj])) ?_)
  (refine AA hsl ?_)
  have h10:0+(subj ++ 58::D).length+2=D.length+10:=by simp [subj]
  have h7:slice d 0 7=subj:=by(refine AA hd ?_);rfl
  (refine AA h10 ?_;refine AA s2 ?_;refine AA h7 ?_)
  exact by rw [hlen];rfl
 ·(refine AA hlen ?_;refine AA (show D.length+19 - 1=(D.length+16)+2 by exact rfl) ?_;refine BO qA ?_;refine AA e3 ?_);rfl
noncomputable def AD:B->B
 | []=>[]
 | [c]=>if c=10 then [] else [c]
 | a::b::r=>if a=10 then AD (b::r) else if a=13/\b=10 then AD r else a::AD (b::r)
theorem D4:AD  []=([]):=rfl
theorem DM:AD  [c0]=(if c0=10 then [] else [c0]):=rfl
theorem BV:AD  (a0::b0::r0)=(if a0=10 then AD (b0::r0) else if a0=13/\b0=10 then AD r0 else a0::AD (b0::r0)):=rfl
theorem CH:∀ {x:B},10∉x->AD x=x
 | [],_=>rfl
 | [a],h=>by simp at h;simp [D4,DM,BV,Ne.symm h]
 | a::b::r,h=>by
  have h2:b≠10:=fun q=>h (by simp [q])
  have:=CH (x:=b::r) fun q=>h (by simp at q ⊢;exact .inr q)
  ((rewrite [BV]);refine AA (pH (fun q=>h (by simp [q]))) ?_;refine AA (pH (by simp [h2])) ?_;refine AA this ?_;rfl)
theorem B7:x.getLast?≠some 13->AD (x ++ y)=AD x ++ AD y:=by
 induction x using two with
 | nil=>exact fun _=>rfl
 | one a=>
  cases y with
  | nil=>exact fun _=>(qH _).symm
  | cons b y=>
   intro h
   simp at h
   simp only [List.cons_append,List.nil_append,D4,DM,BV]
   by_cases h1:a=10
   ·(refine AA h1 ?_;trivial)
   ·simp [h1,h]
 | more a b r ih ih2=>
  intro h
  have ih:=ih h
  simp only [List.cons_append] at ih ⊢
  ((rewrite [BV]);(rewrite [BV]))
  by_cases h1:a=10
  ·(refine AA h1 ?_;trivial)
  ·by_cases h2:a=13/\b=10
   ·simp only [h1,h2,if_false,if_true,and_self]
    cases r with
    | nil=>rfl
    | cons c r=>exact congrArg _ (ih2 h)
   ·simp only [h1,h2,if_false,ih,List.cons_append]
noncomputable def lstrip(x:B):B:=x.dropWhile sp
noncomputable def rstrip(x:B):B:=(x.reverse.dropWhile sp).reverse
noncomputable def strip(x:B):B:=rstrip (lstrip x)
theorem FT{x y:B}{a:Nat}{r:B}(e:y=a::r)(ha:sp a=false):lstrip (x ++ y)=lstrip x ++ y:=by
 subst e
 delta lstrip
 induction x with
 | nil=>simp [List.dropWhile_cons,ha]
 | cons b x ih=>
  (refine AA List.dropWhile_cons ?_;refine AA List.dropWhile_cons ?_)
  induction sp b<;>(trivial)
theorem J0(e:x=r ++ [a])(ha:sp a=false):rstrip (x ++ y)=x ++ rstrip y:=by
 delta rstrip
 (refine AA List.reverse_append ?_)
 have:x.reverse=a::r.reverse:=by(refine AA e ?_);simp
 have:=FT (x:=y.reverse) this ha
 unfold lstrip at this
 (refine AA this ?_)
 simp
noncomputable def ES(ps:List A6):B:=ps.flatMap fun p=>p.1.1 ++ p.2
theorem Iq:∀ ps:List A6,cat (Dh ps)=ES ps
 | []=>rfl
 | ((o,t),g)::r=>by simp only [EQ,Dr,EN,LA,Pj,Iq r,ES,List.flatMap_cons,List.append_assoc]
noncomputable def BW:List A6->List A6
 | []=>[]
 | [(p,g)]=>[(p,rstrip (AD g))]
 | (p,g)::q::r=>(p,AD g)::BW (q::r)
theorem GG:BW  []=([]):=rfl
theorem GH:BW  [(pz0,g0)]=([(pz0,rstrip (AD g0))]):=rfl
theorem GI:BW  ((pz0,g0)::q0::r0)=((pz0,AD g0)::BW (q0::r0)):=rfl
structure Ir(o:B):Prop where
 first:∃ a r,o=a::r/\sp a=false
 last:∃ a r,o=r ++ [a]/\sp a=false/\a≠13
 no10:10∉o
theorem HV:∀ {x:B} {p:Option Nat} {a:Nat},x≠[]->A0 p x=some a->∃ r,x=r ++ [a]
 | [],_,_,h,_=>absurd rfl h
 | [b],_,a,_,h=>by simp [MR,MS] at h;exact⟨[],by(refine AA h ?_;trivial)⟩
 | b::c::x,p,a,_,h=>by
  (refine AI (HV (x:=c::x) (p:=some b) (List.cons_ne_nil _ _) h) ?_;rintro r e)
  exact⟨b::r,by(refine AA e ?_);rfl⟩
theorem LD:∀ o∈plainsL,LB o.head?=false/\o≠[]/\LB o.getLast?=false/\o.getLast?≠some 13/\10∉o:=by decide
theorem SW(h:Ch p):Ir p.1:=by
 rcases h with h | ⟨h,_⟩
 ·have f:=CV h
  have hne:p.1≠[]:=by intro q;have:=f.first;(replace this:=(q)▸this);exact nS this
  (refine AI (HV hne (f.last none)) ?_;rintro r e)
  refine⟨?_,⟨61,r,e,by decide,by decide⟩,fun hm=>by have:=(f.range 10 hm).1;exact absurd this (Nat.not_lt_of_le (qW _ _))⟩
  cases hp:p.1 with
  | nil=>exact absurd hp hne
  | cons a x=>
   have:=f.first
   (replace this:=(hp)▸this)
   simp at this
   exact⟨a,x,rfl,by(refine AA this ?_);decide⟩
 ·(refine Ho (LD _ h) ?_;rintro h1 h2 h3 h4 h5)
  refine⟨?_,?_,h5⟩
  ·cases hp:p.1 with
   | nil=>exact absurd hp h2
   | cons a x=>(replace h1:=(hp)▸h1);exact⟨a,x,rfl,h1⟩
  ·rw [(List.getLast?_eq_some_getLast h2)] at h3 h4
   exact⟨p.1.getLast h2,p.1.dropLast,(List.dropLast_concat_getLast h2).symm,h3,fun q=>h4 (by(refine AA q ?_;rfl))⟩
noncomputable def gapB(g:B):Bool:=CG g&&g.getLast? != some 13&&Cw (AD g)&&Cw (rstrip (AD g))&&Be (lstrip (AD g))&&bO (lstrip (AD g))&&good (lstrip (AD g))
theorem KP:∀ g∈gapsL,gapB g=true:=by decide
noncomputable def X4(ps:List A6):List A6:=ps.map fun p=>(p.1,AD p.2)
structure Cq(g:B):Prop where
 fold:CG g=true
 no13:g.getLast?≠some 13
 join:Cw (AD g)=true
 right:Cw (rstrip (AD g))=true
 lq:Be (lstrip (AD g))=true
 lh:bO (lstrip (AD g))=true
 lg:good (lstrip (AD g))=true
theorem KQ(h:gapB g=true):Cq g:=by
 simp only [gapB,Bool.and_eq_true,bne_iff_ne,ne_eq] at h
 (refine AM h ?_;rintro ⟨⟨⟨⟨⟨h1,h2⟩,h3⟩,h4⟩,h5⟩,h6⟩ h7)
 exact⟨h1,h2,h3,h4,h5,h6,h7⟩
theorem KR:∀ {ps:List A6},(∀ p∈ps,Ir p.1.1/\Cq p.2)->AD (ES ps)=ES (X4 ps)
 | [],_=>by rfl
 | (p,g)::r,h=>by
  (refine AM (h (p,g) (List.Mem.head _)) ?_;rintro hs hg)
  (refine CQ hs.last ?_;rintro a x e _ h13)
  have n13:p.1.getLast?≠some 13:=by(refine AA e ?_);simpa using h13
  refine(?_:AD ((p.1 ++ g) ++ ES r)=(p.1 ++ AD g) ++ ES (X4 r))
  (refine AA (pD ..:) ?_;refine AA (B7 n13) ?_;refine AA (B7 hg.no13) ?_;refine AA (KR fun q hq=>h q (by simp [hq])) ?_;refine AA (CH hs.no10) ?_;refine AA (pD ..:) ?_;rfl)
theorem HW:∀ {ps:List A6} (x:B),ps≠[]->(∀ p∈ps,Ir p.1.1)->rstrip (x ++ ES (X4 ps))=x ++ ES (BW ps)
 | [],_,h,_=>absurd rfl h
 | [(p,g)],x,_,h=>by
  (refine CQ ((h (p,g) (List.Mem.head _)).last) ?_;rintro a y e ha _)
  have e':x ++ p.1=(x ++ y) ++ [a]:=by(refine AA e ?_);simp
  have:=J0 (y:=AD g) e' ha
  simp only [X4,List.map_cons,List.map_nil,ES,List.flatMap_cons,List.flatMap_nil,List.append_nil,GG,GH,GI]
  (refine BO (pD ..:) ?_;refine AA this ?_;refine AA (pD ..:) ?_;rfl)
 | (p,g)::q::r,x,_,h=>by
  have:=HW (x ++ (p.1 ++ AD g)) (List.cons_ne_nil _ _) fun z hz=>h z (by simp at hz ⊢;exact .inr hz)
  (refine BO (pD ..:) ?_;refine AA this ?_;refine AA (pD ..:) ?_;rfl)
theorem Qi:∀ {ps:List A6},ps≠[]->(∀ p∈ps,Ir p.1.1)->∃ a r,ES (X4 ps)=a::r/\sp a=false
 | [],h,_=>absurd rfl h
 | (p,g)::r,_,h=>by
  (refine BS ((h (p,g) (List.Mem.head _)).first) ?_;rintro a x e ha)
  have e':p.1=a::x:=e
  refine⟨a,x ++ AD g ++ ES (X4 r),?_,ha⟩
  simp [X4,ES,e']
theorem VO(hl:∀ c∈lead,sp c=true)(hg0:Cq g0)(hne:ps≠[])(h:∀ p∈ps,Ir p.1.1/\Cq p.2):
  strip (AD (lead ++ (g0 ++ ES ps)))=lstrip (AD g0) ++ ES (BW ps):=by
 have hl13:lead.getLast?≠some 13:=by
  intro q
  have:=hl 13 (List.mem_of_getLast? q)
  exact absurd this (by decide)
 have hs:=fun p hp=>(h p hp).1
 (refine BS (Qi hne hs) ?_;rintro a r e ha)
 have hlead:lstrip (lead ++ AD g0)=lstrip (AD g0):=by
  delta lstrip
  (refine AA (List.dropWhile_append_of_pos hl) ?_;rfl)
 delta strip
 (refine AA (B7 hl13) ?_;refine AA (B7 hg0.no13) ?_;refine AA (KR h) ?_;refine AA (CH (fun hm=>absurd (hl 10 hm) (by decide))) ?_;refine BO (pD ..:) ?_;refine AA (FT e ha) ?_;refine AA hlead ?_;refine AA (HW _ hne hs) ?_;rfl)
theorem Pl:∀ {ps:List A6},(∀ p∈ps,Ch p.1/\Cq p.2)->∀ p∈BW ps,Ch p.1/\Cw p.2=true
 | [],_,p,hp=>by simp [GG,GH,GI] at hp
 | [(p,g)],h,x,hx=>by
  (refine AM (h (p,g) (List.Mem.head _)) ?_;rintro h1 h2)
  simp [GG,GH,GI] at hx
  subst hx
  exact⟨h1,h2.right⟩
 | (p,g)::q::r,h,x,hx=>by
  (refine AM (h (p,g) (List.Mem.head _)) ?_;rintro h1 h2)
  simp only [GG,GH,GI,List.mem_cons] at hx
  rcases hx with rfl | hx
  ·exact⟨h1,h2.join⟩
  ·exact Pl (ps:=q::r) (fun z hz=>h z (by simp at hz ⊢;exact .inr hz)) x (by trivial)
theorem ET(g0:B)(ps:List A6):(AL g0 ps).1=g0 ++ ES ps:=by
 delta AL
 (refine AA (GE ..:) ?_)
 (refine AA (Iq ..:) ?_;rfl)
theorem KU:∀ {ps:List A6},(∀ p∈ps,Ir p.1.1/\Cq p.2)->CG (ES ps)=true
 | [],_=>rfl
 | (p,g)::r,h=>by
  (refine AM (h (p,g) (List.Mem.head _)) ?_;rintro hs hg)
  refine(?_:CG ((p.1 ++ g) ++ ES r)=true)
  exact By (By (Im hs.no10) hg.fold) (KU fun q hq=>h q (by simp [hq]))
theorem VP{lead g0 d:B}(hl:lead∈([[32],[],[9]]:List B))(hg0:g0∈gapsL)(hne:ps≠[])(h:∀ p∈ps,Ch p.1/\p.2∈gapsL)(hd:d=subj ++ 58::(lead ++ ((AL g0 ps).1 ++ Ip))):
  A9 (AL g0 ps).1=(AL g0 ps).2/\
  (∀ f,Bn d d.length (f+3) 0=([(subj,lead ++ (AL g0 ps).1),([88],[32,121])],d.length - 1))/\d.drop (d.length - 1)=[122]/\
  strip (AD (lead ++ (AL g0 ps).1))=(AL (lstrip (AD g0)) (BW ps)).1/\
  A9 (AL (lstrip (AD g0)) (BW ps)).1=(AL (lstrip (AD g0)) (BW ps)).2:=by
 have hp:=Ij _ hg0
 simp only [Cw,Bool.and_eq_true] at (hp)
 have gf:=KQ (KP _ hg0)
 have hps:∀ p∈ps,Ch p.1/\Cq p.2:=fun p hp=>⟨(h p hp).1,KQ (KP _ (h p hp).2)⟩
 have hso:∀ p∈ps,Ir p.1.1/\Cq p.2:=fun p hp=>⟨SW (hps p hp).1,(hps p hp).2⟩
 have hlsp:∀ c∈lead,sp c=true:=by
  simp at hl
  rcases hl with rfl | rfl | rfl<;>decide
 have hfold:CG (lead ++ (AL g0 ps).1)=true:=by
  (refine AA (ET ..:) ?_)
  refine By (Im fun hm=>absurd (hlsp 10 hm) (by decide)) (By gf.fold (KU hso))
 have hd':d=subj ++ 58::((lead ++ (AL g0 ps).1) ++ Ip):=by(refine AA hd ?_);simp
 refine⟨KO (hp).1.1.1 (hp).1.1.2 (hp).1.2 fun p hp=>⟨(h p hp).1,Ij _ (h p hp).2⟩,fun f=>(HU hfold hd').1,(HU (f:=0) hfold hd').2,?_,?_⟩
 ·(refine AA (ET ..:) ?_;refine AA (ET ..:) ?_)
  exact VO hlsp gf hne hso
 ·exact KO gf.lq gf.lh gf.lg (Pl hps)
end Mine.Lake.L
namespace Mine.Lake
noncomputable abbrev Qj:=Str->List PV->Pu->(PV->Pu->Prop)->Prop
noncomputable def CJ(p:PV)(K:Int->Prop):Prop:=match p with | .int i=>K i | _=>False
noncomputable def onStr(p:PV)(K:List Nat->Prop):Prop:=match p with | .str i=>K i | _=>False
noncomputable def onBytes(p:PV)(K:List Nat->Prop):Prop:=match p with | .bytes i=>K i | _=>False
noncomputable def Dd(p:PV)(K:List PV->Prop):Prop:=match p with | .lst i=>K i | _=>False
noncomputable def SX(p:PV)(K:List PV->Prop):Prop:=match p with | .tup i=>K i | _=>False
noncomputable def LE(p:PV)(K:Prop):Prop:=match p with | .none=>K | _=>False
noncomputable def GJ(p:PV)(K:List Nat->List Nat->Prop):Prop:=match p with | .field n r=>K n r | _=>False
noncomputable def ii(a b:PV)(K:Int->Int->Prop):Prop:=CJ a fun x=>CJ b fun y=>K x y
noncomputable def N4(p:PV)(K:Option Int->Prop):Prop:=match p with | .none=>K none | .int i=>K (some i) | _=>False
noncomputable def Qk(ν:Pu)(K:Addr->Addr->List Int->Int->Prop):Prop:=match ν with | some (p,c,ns,t)=>K p c ns t | none=>False
noncomputable def VQ(l:List PV)(K:Prop):Prop:=match l with | []=>K | _::_=>False
noncomputable def MG(l:List PV)(K:PV->Prop):Prop:=match l with | a::r=>VQ r (K a) | []=>False
noncomputable def VR(l:List PV)(K:PV->PV->Prop):Prop:=match l with | a::r=>MG r fun b=>K a b | []=>False
noncomputable def mS(l:List PV)(K:PV->PV->PV->Prop):Prop:=match l with | a::r=>VR r fun b c=>K a b c | []=>False
noncomputable def bP(l:List Nat)(K:Nat->Prop):Prop:=match l with | c::r=>(match r with | []=>K c | _::_=>False) | []=>False
noncomputable def pclip(n:Nat)(i:Int):Nat:=(max 0 (min (if i<0 then i+n else i) (n:Int))).toNat
noncomputable def pst(n:Nat)(o:Option Int):Nat:=match o with | none=>0 | some i=>pclip n i
noncomputable def pen(n:Nat)(o:Option Int):Nat:=match o with | none=>n | some i=>pclip n i
noncomputable def pcut{α:Type}(l:List α)(a b:Option Int):List α:=(l.drop (pst l.length a)).take (pen l.length b - pst l.length a)
noncomputable def BE:Nat:=1048576
noncomputable def small(i:Int):Prop:=-(4611686018427387904:Int)<i/\i<(4611686018427387904:Int)
noncomputable def Ci(i:Int):Prop:=-(1099511627776:Int)<i/\i<(1099511627776:Int)
noncomputable def rep{α:Type}(x:List α)(n:Int):List α:=(List.replicate n.toNat x).flatten
noncomputable def bc(op:Operator)(a b:PV)(Q:PV->Prop):Prop:=match op with
 | .Add=>(match a with
  | .int x=>CJ b fun y=>Q (.int (x+y))
  | .str x=>onStr b fun y=>x.length+y.length<=BE/\Q (.str (x ++ y))
  | .bytes x=>onBytes b fun y=>x.length+y.length<=BE/\Q (.bytes (x ++ y))
  | .lst x=>Dd b fun y=>x.length+y.length<=BE/\Q (.lst (x ++ y))
  | _=>False)
 | .Sub=>ii a b fun x y=>Q (.int (x - y))
 | .Mult=>CJ b fun y=>(match a with
  | .int x=>small x/\Q (.int (x*y))
  | .bytes x=>x.length<=16/\0<=y/\y<=64/\Q (.bytes (rep x y))
  | .lst x=>x.length<=16/\0<=y/\y<=64/\Q (.lst (rep x y))
  | _=>False)
 | .FloorDiv=>ii a b fun x y=>0<y/\y<1073741824/\Q (.int (x / y))
 | .Mod=>ii a b fun x y=>0<y/\Q (.int (x % y))
 | .Pow=>ii a b fun x y=>x=10/\y=60/\Q (.int (10 ^ 60))
 | .LShift=>ii a b fun x y=>small x/\0<=y/\y<=256/\Q (.int (x*2 ^ y.toNat))
 | .RShift=>ii a b fun x y=>0<=y/\Q (.int (x / 2 ^ y.toNat))
 | .BitAnd=>ii a b fun x y=>Q (.int (Builtin.bitAnd x y))
 | _=>False
noncomputable def bd(a:PV)(Q:PV->Prop):Prop:=CJ a fun x=>Q (.int (-x))
noncomputable def mT(a b:PV)(ν:Pu)(Q:Bool->Prop):Prop:=match a with
 | .int x=>CJ b fun y=>Q (decide (x=y))
 | .str x=>onStr b fun y=>Q (decide (x=y))
 | .bytes x=>onBytes b fun y=>Q (decide (x=y))
 | .lst x=>Dd b fun y=>VQ y (Q x.isEmpty)
 | .addr x=>Dd b fun y=>VQ y (Qk ν fun _ c ns _=>x=c/\Q ns.isEmpty)
 | _=>False
noncomputable def mU(a b:PV)(Q:Bool->Prop):Prop:=match a with
 | .int x=>CJ b fun y=>Q (!decide (x=y))
 | .str x=>onStr b fun y=>Q (!decide (x=y))
 | .bytes x=>onBytes b fun y=>Q (!decide (x=y))
 | .lst l=>Dd b fun m=>∃ x y:List (List Nat),l=x.map .str/\m=y.map .str/\x.length=y.length/\Q (!decide (x=y))
 | _=>False
noncomputable def kI(a b:PV)(Q:Bool->Prop):Prop:=match a with
 | .none=>LE b (Q true)
 | .tup _=>LE b (Q false)
 | .str _=>LE b (Q false)
 | _=>False
noncomputable def kJ(hn:Bool)(a b:PV)(Q:Bool->Prop):Prop:=match b with
 | .idict f=>CJ a fun x=>Q (f x).isSome
 | .str s=>onStr a fun x=>Q (Txt.contains (toS s) (toS x))
 | .bytes s=>(match a with
  | .int x=>0<=x/\x<256/\Q (s.any fun c=>(c:Int)==x)
  | .bytes b=>bP b fun x=>hn=true/\Q (s.any (·==x))
  | _=>False)
 | _=>False
noncomputable def VS(hn:Bool)(op:CmpOp)(a b:PV)(ν:Pu)(Q:Bool->Prop):Prop:=match op with
 | .Lt=>ii a b fun x y=>Q (decide (x<y))
 | .LtE=>ii a b fun x y=>Q (decide (x<=y))
 | .Gt=>ii a b fun x y=>Q (decide (y<x))
 | .GtE=>ii a b fun x y=>Q (decide (y<=x))
 | .Eq=>mT a b ν Q
 | .NotEq=>mU a b Q
 | .Is=>kI a b Q
 | .IsNot=>kI a b fun r=>Q (!r)
 | .In=>kJ hn a b Q
 | .NotIn=>kJ hn a b fun r=>Q (!r)
noncomputable def kK(n:Nat)(i:Int)(K:Nat->Prop):Prop:=match seqIndex? i n with | some j=>K j | none=>False
noncomputable def N5{α:Type}(l:List α)(i:Int)(K:α->Prop):Prop:=kK l.length i fun j=>(match l[j]? with | some x=>K x | none=>False)
noncomputable def SY(ν:Pu)(v i:PV)(Q:PV->Prop):Prop:=CJ i fun k=>(match v with
 | .lst l=>N5 l k Q
 | .tup l=>N5 l k Q
 | .bytes l=>N5 l k fun c=>Q (.int c)
 | .str l=>N5 l k fun c=>Q (.str [c])
 | .idict f=>(match f k with | some p=>Q (.int p) | none=>False)
 | .addr a=>Qk ν fun p c ns t=>(a=p/\(k=0/\Q (.addr c)∨k=1/\Q (.int t)))∨(a≠p/\a=c/\ns.length<=BE/\N5 ns k fun n=>Q (.int n))
 | _=>False)
noncomputable def SZ(v a b:PV)(Q:PV->Prop):Prop:=N4 a fun x=>N4 b fun y=>(match v with
 | .lst l=>Q (.lst (pcut l x y))
 | .bytes l=>Q (.bytes (pcut l x y))
 | _=>False)
noncomputable def Sa(p:PV)(Q:Bool->Prop):Prop:=match p with
 | .none=>Q false
 | .bool b=>Q b
 | .int i=>Q (decide (i≠0))
 | _=>False
inductive BI where
 | len | chr | ord | abs | max | sum | int | bytes | list
noncomputable def jm(hn:Bool)(ν:Pu)(k:BI)(l:List PV)(Q:PV->Prop):Prop:=match k with
 | .len=>MG l fun a=>(match a with
  | .bytes b=>Q (.int b.length)
  | .str b=>Q (.int b.length)
  | .lst b=>Q (.int b.length)
  | .tup b=>Q (.int b.length)
  | .addr a=>Qk ν fun _ c ns _=>a=c/\ns.length<=BE/\Q (.int ns.length)
  | _=>False)
 | .chr=>MG l fun a=>CJ a fun i=>0<=i/\i<1114112/\Q (.str [i.toNat])
 | .ord=>MG l fun a=>onStr a fun s=>bP s fun c=>Q (.int c)
 | .abs=>MG l fun a=>CJ a fun i=>Q (.int (if i<0 then -i else i))
 | .int=>MG l fun a=>CJ a fun i=>Q (.int i)
 | .max=>VR l fun a b=>ii a b fun x y=>hn=true/\Q (.int (if x<y then y else x))
 | .sum=>MG l fun a=>Dd a fun l=>∃ ns:List Int,l=ns.map .int/\hn=true/\(∀ n∈ns,Ci n)/\ns.length<=1024/\Q (.int ns.sum)
 | .bytes=>MG l fun a=>Dd a fun l=>∃ ns:List Nat,(l=ns.map fun(n:Nat)=>.int n)/\hn=true/\(∀ n∈ns,n<256)/\Q (.bytes ns)
 | .list=>MG l fun a=>onBytes a fun b=>hn=true/\Q (.lst (b.map fun(c:Nat)=>.int c))
inductive MN where
 | join | split | upper | find | strip | lstrip | rstrip | replace | isalnum | get
noncomputable def Fj(x y:List Nat):List (List Nat):=(Txt.split (toS x) (toS y)).map (·.cps.toList)
noncomputable def MH(c:Nat):Nat:=if 97<=c/\c<=122 then c - 32 else c
noncomputable def EU(d:List Nat)(c:Nat)(i j:Nat):Int:=match (List.range' i (j - i)).find? (fun k=>d[k]?==some c) with
 | some k=>k
 | none=>-1
noncomputable def Bf(set d:List Nat):List Nat:=d.dropWhile set.contains
noncomputable def BP(set d:List Nat):List Nat:=(d.reverse.dropWhile set.contains).reverse
noncomputable def KV(b:Array UInt8):List Nat:=b.toList.map UInt8.toNat
noncomputable def CK(d old new:List Nat):List Nat:=
 let places:=Builtin.Bytes.occurrences (toB d) (toB old) 0 (toB d).size
 if places.isEmpty then d else KV (Builtin.Bytes.joined (toB new) (Builtin.Bytes.between (toB d) (toB old).size places))
noncomputable def alnum(c:Nat):Bool:=(48<=c&&c<=57)||(65<=c&&c<=90)||(97<=c&&c<=122)
noncomputable def pM(m:MN)(a:PV)(l:List PV)(Q:PV->Prop):Prop:=match m with
 | .join=>MG l fun p=>Dd p fun l=>(match a with
  | .str s=>s=[]/\∃ xs:List (List Nat),l=xs.map .str/\xs.flatten.length<=BE/\Q (.str xs.flatten)
  | .bytes s=>s=[]/\∃ xs:List (List Nat),l=xs.map .bytes/\xs.flatten.length<=BE/\Q (.bytes xs.flatten)
  | _=>False)
 | .split=>onStr a fun x=>MG l fun p=>onStr p fun s=>bP s fun c=>x.length<=BE/\Q (.lst ((Fj x [c]).map .str))
 | .upper=>onStr a fun x=>VQ l (x.length<=BE/\(∀ c∈x,c<128)/\Q (.str (x.map MH)))
 | .find=>onBytes a fun d=>mS l fun p i j=>onBytes p fun s=>bP s fun c=>ii i j fun i j=>0<=i/\0<=j/\j<=d.length/\Q (.int (EU d c i.toNat j.toNat))
 | .strip=>onBytes a fun d=>MG l fun p=>onBytes p fun z=>Q (.bytes (BP z (Bf z d)))
 | .lstrip=>onBytes a fun d=>MG l fun p=>onBytes p fun z=>Q (.bytes (Bf z d))
 | .rstrip=>onBytes a fun d=>MG l fun p=>onBytes p fun z=>Q (.bytes (BP z d))
 | .replace=>onBytes a fun d=>VR l fun p q=>onBytes p fun old=>onBytes q fun new=>old≠[]/\d.length+(Builtin.Bytes.occurrences (toB d) (toB old) 0 (toB d).size).length*new.length<=BE/\(CK d old new).length<=BE/\Q (.bytes (CK d old new))
 | .isalnum=>onBytes a fun d=>VQ l (Q (.bool (!d.isEmpty&&d.all alnum)))
 | .get=>(match a with
  | .idict f=>VR l fun k v=>ii k v fun k v=>Q (.int ((f k).getD v))
  | .sdict f=>VR l fun k v=>onStr k fun k=>onStr v fun v=>Q (.str ((f k).getD v))
  | _=>False)
noncomputable def mid(m:MN)(a:PV):Option String:=match a with
 | .str _=>(match m with | .join=>some "str.join" | .split=>some "str.split" | .upper=>some "str.upper" | _=>none)
 | .bytes _=>(match m with | .join=>some "bytes.join" | .find=>some "bytes.find" | .strip=>some "bytes.strip" | .lstrip=>some "bytes.lstrip" | .rstrip=>some "bytes.rstrip" | .replace=>some "bytes.replace" | .isalnum=>some "bytes.isalnum" | _=>none)
 | .idict _=>(match m with | .get=>some "dict.get" | _=>none)
 | .sdict _=>(match m with | .get=>some "dict.get" | _=>none)
 | _=>none
inductive IK where
 | range | zip | enum
noncomputable def rangeInts(a:Int)(n:Nat)(c:Int):List Int:=(List.range n).map fun(i:Nat)=>a+(i:Int)*c
noncomputable def Iu(ns:List Int)(K:List PV->Prop):Prop:=ns.length<=BE/\K (ns.map .int)
noncomputable def X5(l:List PV):Prop:=∃ ns:List Int,l=ns.map .int/\∀ n∈ns,Ci n
set_option genCtorIdx false in
inductive CE where
 | lo (i:Nat) | kv (v:PV)
 | bin (op:Operator) (a b:CE) | neg (a:CE) | ife (t b o:CE)
 | chn (a:CE) (ops:List CmpOp) (es:List CE)
 | inI (y:Bool) (a:CE) (ns:List Int) | inS (y:Bool) (a:CE) (xs:List (List Nat))
 | bop (c:Bool) (es:List CE) | not (a:CE)
 | tup (es:List CE) | lst (es:List CE) | olst (es:List CE) | dic (k v:CE)
 | item (v i:CE) | itl (j:Nat) (i:CE) | slice (v a b:CE)
 | call (f:Str) (es:List CE) | bi (k:BI) (es:List CE) | meth (m:MN) (o:CE) (es:List CE) | word (o:CE) | raw (o:CE) | nam (o:CE)
 | itr (k:IK) (es:List CE)
 | comp (tgt it elt:CE) (ifs:List CE) (caps:List (Option Nat))
noncomputable def CE.ctorIdx(x:CE):Nat:=match x with
 | .lo ..=>0
 | .kv ..=>1
 | .bin ..=>2
 | .neg ..=>3
 | .ife ..=>4
 | .chn ..=>5
 | .inI ..=>6
 | .inS ..=>7
 | .bop ..=>8
 | .not ..=>9
 | .tup ..=>10
 | .lst ..=>11
 | .olst ..=>12
 | .dic ..=>13
 | .item ..=>14
 | .itl ..=>15
 | .slice ..=>16
 | .call ..=>17
 | .bi ..=>18
 | .meth ..=>19
 | .word ..=>20
 | .raw ..=>21
 | .nam ..=>22
 | .itr ..=>23
 | .comp ..=>24
set_option genCtorIdx false in
inductive CS where
 | asg (i:Nat) (v:CE) | app (i:Nat) (v:CE) | exp (v:CE)
 | ite (t:CE) (b o:List CS) | whl (t:CE) (b:List CS) | for_ (tgt it:CE) (b:List CS)
 | ret (v:CE) | brk | unp (t v:CE) | dsp (rev:Bool) (is:List Nat) (vs:List CE) | sp (k:Nat)
noncomputable def CS.ctorIdx(x:CS):Nat:=match x with
 | .asg ..=>0
 | .app ..=>1
 | .exp ..=>2
 | .ite ..=>3
 | .whl ..=>4
 | .for_ ..=>5
 | .ret ..=>6
 | .brk ..=>7
 | .unp ..=>8
 | .dsp ..=>9
 | .sp ..=>10
noncomputable abbrev KE:=PV->St->Prop
noncomputable abbrev KL:=List PV->St->Prop
noncomputable abbrev KT:=Bool->St->Prop
noncomputable abbrev KS:=U7->St->Prop
structure CY where
 e:CE->St->KE->Prop
 t:CE->St->KT->Prop
 s:List CS->St->KS->Prop
noncomputable def X6:List Slot->Nat->(Slot->Prop)->Prop
 | x::_,0,K=>K x
 | _::r,i+1,K=>X6 r i K
 | [],_,_=>False
noncomputable def Sb:List Slot->Nat->Slot->(List Slot->Prop)->Prop
 | _::r,0,s,K=>K (s::r)
 | x::r,i+1,s,K=>Sb r i s fun r'=>K (x::r')
 | [],_,_,_=>False
noncomputable def J1(σ:St)(i:Nat)(K:Slot->Prop):Prop:=match σ with | ⟨vs,_⟩=>X6 vs i K
noncomputable def Hq(σ:St)(i:Nat)(s:Slot)(K:St->Prop):Prop:=match σ with | ⟨vs,ν⟩=>Sb vs i s fun vs=>K ⟨vs,ν⟩
noncomputable def bf(σ:St)(ν:Pu)(K:St->Prop):Prop:=match σ with | ⟨vs,_⟩=>K ⟨vs,ν⟩
noncomputable def Hr(σ:St)(K:Pu->Prop):Prop:=match σ with | ⟨_,ν⟩=>K ν
noncomputable def N6(s:Slot)(K:List PV->Prop):Prop:=match s with | .ow l=>K l | _=>False
structure Br(b:Bool)(X Y:Prop):Prop where
 t:b=true->X
 f:b=false->Y
structure Ca(G:Qj)(f:Str)(l:List PV)(ν:Pu)(K:PV->Pu->Prop):Prop where
 h:G f l ν K
structure It(ν:Pu)(a k:PV)(K:PV->Prop):Prop where
 h:SY ν a k K
noncomputable def Sc(R:St->Prop)(Z:KS)(o:U7)(σ:St):Prop:=match o with
 | .next=>R σ
 | .cont=>R σ
 | .brk=>Z .next σ
 | .ret p=>Z (.ret p) σ
noncomputable def VT(R:St->Prop)(Z:KS)(o:U7)(σ:St):Prop:=match o with
 | .next=>R σ
 | .cont=>Z .cont σ
 | .brk=>Z .brk σ
 | .ret p=>Z (.ret p) σ
noncomputable def Pn(step:St->KS->(St->Prop)->Prop)(Z:KS):Nat->St->Prop
 | 0,_=>False
 | n+1,σ=>step σ (Sc (Pn step Z n) Z) (Z .next)
noncomputable def X7(step:PV->St->KS->Prop)(Z:KS):List PV->St->Prop
 | [],σ=>Z .next σ
 | p::r,σ=>step p σ (Sc (X7 step Z r) Z)
structure Wh(step:St->KS->(St->Prop)->Prop)(σ:St)(Z:KS):Prop where
 h:∃ n,Pn step Z n σ
structure Fo(step:PV->St->KS->Prop)(l:List PV)(σ:St)(Z:KS):Prop where
 h:X7 step Z l σ
noncomputable def HX(step:PV->Pu->(Bool->PV->Pu->Prop)->Prop)(Z:List PV->Pu->Prop):List PV->List PV->Pu->Prop
 | [],ys,ν=>Z ys ν
 | p::r,ys,ν=>step p ν fun b y ν=>match b with
   | true=>ys.length<BE/\HX step Z r (ys ++ [y]) ν
   | false=>HX step Z r ys ν
structure Co(step:PV->Pu->(Bool->PV->Pu->Prop)->Prop)(l:List PV)(ν:Pu)(Z:List PV->Pu->Prop):Prop where
 h:HX step Z l [] ν
section
variable(G:Qj)(hn:Bool)(sp:Nat->St->KS->Prop)(S:CY)
noncomputable def kP(K:KE)(σ:St)(p:PV):Prop:=K p σ
noncomputable def kT(K:KT)(σ:St)(b:Bool):Prop:=K b σ
noncomputable def kB(K:KE)(σ:St)(b:Bool):Prop:=K (.bool b) σ
noncomputable def Sd(K:KE)(σ:St)(p:PV)(ν:Pu):Prop:=bf σ ν (K p)
noncomputable def kL(X Y:St->Prop)(b:Bool)(σ:St):Prop:=Br b (X σ) (Y σ)
noncomputable def bg(op:Operator)(K:KE)(x y:PV)(σ:St):Prop:=bc op x y (kP K σ)
noncomputable def bj(op:Operator)(b:CE)(K:KE)(x:PV)(σ:St):Prop:=S.e b σ (bg op K x)
noncomputable def bk(K:KE)(x:PV)(σ:St):Prop:=bd x (kP K σ)
noncomputable def X8(K:KL)(p:PV)(ps:List PV)(σ:St):Prop:=K (p::ps) σ
noncomputable def cL:List CE->St->KL->Prop
 | [],σ,K=>K [] σ
 | e::r,σ,K=>S.e e σ fun p σ=>cL r σ (X8 K p)
noncomputable def Po(a:PV):List CmpOp->List CE->St->KT->Prop
 | op::ops,e::es,σ,K=>S.e e σ fun b σ=>Hr σ fun ν=>VS hn op a b ν fun r=>(match ops with
   | []=>K r σ
   | _::_=>Br r (Po b ops es σ K) (K false σ))
 | _,_,_,_=>False
noncomputable def Se(p:PV)(K:Bool->Prop):Prop:=match p with | .bool b=>K b | _=>False
noncomputable def X9(y b:Bool)(X:Prop)(Y:Bool->Prop):Prop:=match y with
 | true=>Br b X (Y false)
 | false=>Br b (Y true) X
noncomputable def VU(y:Bool):List CE->St->KT->Prop
 | [],σ,K=>K y σ
 | e::r,σ,K=>S.t e σ fun b σ=>X9 y b (VU y r σ K) (kT K σ)
noncomputable def VV(y:Bool):List CE->St->KE->Prop
 | [],_,_=>False
 | e::r,σ,K=>S.e e σ fun p σ=>(match r with
   | []=>K p σ
   | _::_=>Se p fun b=>X9 y b (VV y r σ K) (kB K σ))
noncomputable def mV(a b:CE)(K:KE)(c:Bool)(σ:St):Prop:=Br c (S.e a σ K) (S.e b σ K)
noncomputable def bo(ops:List CmpOp)(es:List CE)(K:KT)(a:PV)(σ:St):Prop:=Po hn S a ops es σ K
noncomputable def jn(K:KE)(b:Bool)(σ:St):Prop:=K (.bool b) σ
noncomputable def jo(y b:Bool)(K:Bool->Prop):Prop:=match y with | true=>K b | false=>K (!b)
noncomputable def bp(y:Bool)(ns:List Int)(K:KT)(a:PV)(σ:St):Prop:=CJ a fun x=>jo y (ns.any (·==x)) (kT K σ)
noncomputable def bq(y:Bool)(ns:List (List Nat))(K:KT)(a:PV)(σ:St):Prop:=onStr a fun x=>jo y (ns.any (·==x)) (kT K σ)
noncomputable def kN(K:KT)(b:Bool)(σ:St):Prop:=K (!b) σ
noncomputable def VW(K:KE)(ps:List PV)(σ:St):Prop:=ps.length<=16/\K (.tup ps) σ
noncomputable def br(K:KE)(ps:List PV)(σ:St):Prop:=ps.length<=16/\K (.lst ps) σ
noncomputable def bt(K:KE)(a b:PV)(σ:St):Prop:=ii a b fun x y=>K (.idict fun z=>if z=x then some y else none) σ
noncomputable def bv(v:CE)(K:KE)(a:PV)(σ:St):Prop:=S.e v σ (bt K a)
noncomputable def kO(K:KE)(a k:PV)(σ:St):Prop:=Hr σ fun ν=>It ν a k (kP K σ)
noncomputable def kQ(i:CE)(K:KE)(a:PV)(σ:St):Prop:=S.e i σ (kO K a)
noncomputable def kR(j:Nat)(K:KE)(k:PV)(σ:St):Prop:=J1 σ j fun s=>N6 s fun l=>It none (.lst l) k (kP K σ)
noncomputable def kS(K:KE)(v a b:PV)(σ:St):Prop:=SZ v a b (kP K σ)
noncomputable def kU(b:CE)(K:KE)(v a:PV)(σ:St):Prop:=S.e b σ (kS K v a)
noncomputable def bw(a b:CE)(K:KE)(v:PV)(σ:St):Prop:=S.e a σ (kU S b K v)
noncomputable def mW(f:Str)(K:KE)(ps:List PV)(σ:St):Prop:=Hr σ fun ν=>Ca G f ps ν (Sd K σ)
noncomputable def nh(k:BI)(K:KE)(ps:List PV)(σ:St):Prop:=Hr σ fun ν=>jm hn ν k ps (kP K σ)
noncomputable def mX(m:MN)(K:KE)(a:PV)(ps:List PV)(σ:St):Prop:=pM m a ps (kP K σ)
noncomputable def kM(m:MN)(es:List CE)(K:KE)(a:PV)(σ:St):Prop:=match mid m a with | some _=>cL S es σ (mX m K a) | none=>False
noncomputable def XK(K:KE)(a:PV)(σ:St):Prop:=GJ a fun n r=>Hr σ fun ν=>Ca G "Field.word" [.field n r] ν (Sd K σ)
noncomputable def kW(K:KE)(a:PV)(σ:St):Prop:=GJ a fun _ r=>K (.bytes r) σ
noncomputable def kX(K:KE)(a:PV)(σ:St):Prop:=GJ a fun n _=>K (.bytes n) σ
noncomputable def Ql:CE->Bool
 | .lo _=>true
 | _=>false
noncomputable def bQ(b:Bool)(K:Prop):Prop:=match b with | true=>K | false=>False
noncomputable def items(nm:Bool)(p:PV)(K:List PV->Prop):Prop:=match p with
 | .lst l=>K l
 | .tup l=>K l
 | .bytes b=>bQ nm (K (b.map fun(c:Nat)=>.int c))
 | .str b=>bQ nm (K (b.map fun(c:Nat)=>.str [c]))
 | _=>False
noncomputable def MZ(nm:Bool)(k:IK)(l:List PV)(K:List PV->Prop):Prop:=match k with
 | .range=>bQ nm (X5 l/\(match l with
  | a::r=>CJ a fun a=>(match r with
   | []=>Iu (rangeInts 0 a.toNat 1) K
   | b::r=>CJ b fun b=>(match r with
    | []=>Iu (rangeInts a (b - a).toNat 1) K
    | c::r=>CJ c fun c=>VQ r ((c=4∨c=3)/\Iu (rangeInts a ((b - a+c - 1) / c).toNat c) K∨c=-1/\Iu (rangeInts a (a - b).toNat (-1)) K)))
  | []=>False))
 | .zip=>bQ (!nm) (VR l fun a b=>Dd a fun a=>Dd b fun b=>K (List.zipWith (fun x y=>.tup [x,y]) a b))
 | .enum=>bQ (!nm) (MG l fun a=>Dd a fun a=>K (a.mapIdx fun(i:Nat) x=>.tup [.int i,x]))
noncomputable def Sf(nm:Bool)(K:KL)(p:PV)(σ:St):Prop:=items nm p fun l=>K l σ
noncomputable def kY(nm:Bool)(k:IK)(K:KL)(ps:List PV)(σ:St):Prop:=MZ nm k ps fun l=>K l σ
noncomputable def bx(nm:Bool)(it:CE)(σ:St)(K:KL):Prop:=hn=true/\(match it with
 | .itr k es=>cL S es σ (kY nm k K)
 | e=>S.e e σ (Sf nm K))
mutual
noncomputable def Mb:CE->PV->St->(St->Prop)->Prop
 | .lo i,p,σ,K=>Hq σ i (.fr p) K
 | .tup es,p,σ,K=>SX p fun ps=>N7 es ps σ K
 | _,_,_,_=>False
noncomputable def N7:List CE->List PV->St->(St->Prop)->Prop
 | [],ps,σ,K=>VQ ps (K σ)
 | e::es,ps,σ,K=>(match ps with
  | p::ps=>Mb e p σ fun σ=>N7 es ps σ K
  | []=>False)
end
noncomputable def Sg:List (Option Nat)->St->(List Slot->St->Prop)->Prop
 | [],σ,K=>K [] σ
 | none::r,σ,K=>Sg r σ fun c σ=>K (.un::c) σ
 | some i::r,σ,K=>J1 σ i fun s=>(match s with
  | .fr p=>Sg r σ fun c σ=>K (.fr p::c) σ
  | .ow l=>Hq σ i (.fr (.lst l)) fun σ=>Sg r σ fun c σ=>K (.fr (.lst l)::c) σ
  | .un=>False)
noncomputable def Sh:List CE->St->KT->Prop
 | [],σ,K=>K true σ
 | e::r,σ,K=>S.t e σ (kL (fun σ=>Sh r σ K) (K false))
noncomputable def Si(tgt elt:CE)(ifs:List CE)(cap:List Slot)(p:PV)(ν:Pu)(J:Bool->PV->Pu->Prop):Prop:=
 Mb tgt p ⟨cap,ν⟩ fun σ=>Sh S ifs σ fun b σ=>Br b (S.e elt σ fun y σ=>Hr σ (J true y)) (Hr σ (J false .none))
noncomputable def XM(tgt elt:CE)(ifs:List CE)(caps:List (Option Nat))(K:KE)(l:List PV)(σ:St):Prop:=
 Sg caps σ fun cap σ=>Hr σ fun ν=>Co (Si S tgt elt ifs cap) l ν fun ys=>Sd K σ (.lst ys)
noncomputable def cE(c:CE)(σ:St)(K:KE):Prop:=match c with
 | .lo i=>J1 σ i fun s=>(match s with
  | .fr p=>K p σ
  | .ow l=>Hq σ i (.fr (.lst l)) (K (.lst l))
  | .un=>False)
 | .kv v=>K v σ
 | .bin op a b=>S.e a σ (bj S op b K)
 | .neg a=>S.e a σ (bk K)
 | .ife t a b=>S.t t σ (mV S a b K)
 | .chn a ops es=>S.e a σ (bo hn S ops es (jn K))
 | .inI y a ns=>S.e a σ (bp y ns (jn K))
 | .inS y a ns=>S.e a σ (bq y ns (jn K))
 | .bop c es=>VV S c es σ K
 | .tup es=>cL S es σ (VW K)
 | .lst es=>cL S es σ (br K)
 | .dic k v=>S.e k σ (bv S v K)
 | .item v i=>S.e v σ (kQ S i K)
 | .itl j i=>J1 σ j fun s=>(match s with
  | .fr p=>kQ S i K p σ
  | .ow _=>S.e i σ (kR j K)
  | .un=>False)
 | .slice v a b=>S.e v σ (bw S a b K)
 | .call f es=>cL S es σ (mW G f K)
 | .bi k es=>cL S es σ (nh hn k K)
 | .meth m o es=>S.e o σ (kM S m es K)
 | .word o=>S.e o σ (XK G K)
 | .raw o=>S.e o σ (kW K)
 | .nam o=>S.e o σ (kX K)
 | .comp tgt it elt ifs caps=>bx hn S (Ql tgt) it σ (XM S tgt elt ifs caps K)
 | _=>False
noncomputable def VX(K:KT)(p:PV)(σ:St):Prop:=Sa p (kT K σ)
noncomputable def cT(c:CE)(σ:St)(K:KT):Prop:=match c with
 | .chn a ops es=>S.e a σ (bo hn S ops es K)
 | .inI y a ns=>S.e a σ (bp y ns K)
 | .inS y a ns=>S.e a σ (bq y ns K)
 | .bop c es=>VU S c es σ K
 | .not a=>S.t a σ (kN K)
 | c=>cE G hn S c σ (VX K)
noncomputable def kZ(K:Slot->St->Prop)(p:PV)(σ:St):Prop:=K (.fr p) σ
noncomputable def mY(K:Slot->St->Prop)(ps:List PV)(σ:St):Prop:=ps.length<=16/\K (.ow ps) σ
noncomputable def ka(c:CE)(σ:St)(K:Slot->St->Prop):Prop:=match c with
 | .olst es=>cL S es σ (mY K)
 | c=>S.e c σ (kZ K)
noncomputable def Sj:List CE->St->(List Slot->St->Prop)->Prop
 | [],σ,K=>K [] σ
 | e::r,σ,K=>ka S e σ fun s σ=>Sj r σ fun l σ=>K (s::l) σ
noncomputable def Me:List Nat->List Slot->St->(St->Prop)->Prop
 | i::r,l,σ,K=>(match l with
  | s::l=>Hq σ i s fun σ=>Me r l σ K
  | []=>False)
 | [],_,σ,K=>K σ
noncomputable def YA(i:Nat)(Z:St->Prop)(s:Slot)(σ:St):Prop:=Hq σ i s Z
noncomputable def bz(i:Nat)(Z:St->Prop)(p:PV)(σ:St):Prop:=J1 σ i fun s=>N6 s fun l=>l.length<BE/\Hq σ i (.ow (l ++ [p])) Z
noncomputable def b7(Z:St->Prop)(_:PV)(σ:St):Prop:=Z σ
noncomputable def YB(b o:List CS)(Z:KS)(c:Bool)(σ:St):Prop:=Br c (S.s b σ Z) (S.s o σ Z)
noncomputable def ni(b:List CS)(J:KS)(E:St->Prop)(c:Bool)(σ:St):Prop:=Br c (S.s b σ J) (E σ)
noncomputable def Sk(t:CE)(b:List CS)(σ:St)(J:KS)(E:St->Prop):Prop:=S.t t σ (ni S b J E)
noncomputable def stepF(tgt:CE)(b:List CS)(p:PV)(σ:St)(J:KS):Prop:=Mb tgt p σ fun σ=>S.s b σ J
noncomputable def kFor(tgt:CE)(b:List CS)(Z:KS)(l:List PV)(σ:St):Prop:=Fo (stepF S tgt b) l σ Z
noncomputable def YC(Z:KS)(p:PV)(σ:St):Prop:=Z (.ret p) σ
noncomputable def b8(t:CE)(Z:St->Prop)(p:PV)(σ:St):Prop:=Mb t p σ Z
noncomputable def b9(c:CS)(σ:St)(Z:KS):Prop:=match c with
 | .asg i v=>ka S v σ (YA i (Z .next))
 | .app i v=>J1 σ i fun s=>N6 s fun _=>S.e v σ (bz i (Z .next))
 | .exp v=>S.e v σ (b7 (Z .next))
 | .ite t b o=>S.t t σ (YB S b o Z)
 | .whl t b=>Wh (Sk S t b) σ Z
 | .for_ tgt it b=>bx hn S (Ql tgt) it σ (kFor S tgt b Z)
 | .ret v=>S.e v σ (YC Z)
 | .brk=>Z .brk σ
 | .unp t v=>S.e v σ (b8 t (Z .next))
 | .dsp rev is vs=>Sj S vs σ fun l σ=>Me is (match rev with | true=>l.reverse | false=>l) σ (Z .next)
 | .sp k=>sp k σ Z
noncomputable def cS:List CS->St->KS->Prop
 | [],σ,Z=>Z .next σ
 | c::r,σ,Z=>b9 hn sp S c σ (VT (fun σ=>cS r σ Z) Z)
end
noncomputable def Bj(G:Qj)(hn:Bool)(sp:Nat->St->KS->Prop):Nat->CY
 | 0=>⟨fun _ _ _=>False,fun _ _ _=>False,fun _ _ _=>False⟩
 | n+1=>⟨cE G hn (Bj G hn sp n),cT G hn (Bj G hn sp n),cS hn sp (Bj G hn sp n)⟩
end Mine.Lake
set_option maxHeartbeats 4000000
namespace Mine.Lake
theorem Cj{K:Int->Prop}{R:PV->Prop}(h:CJ p K)(k:∀ i,K i->R (.int i)):R p:=by cases p<;>first | exact k _ h | exact h.elim
theorem Ez{K:List Nat->Prop}{R:PV->Prop}(h:onStr p K)(k:∀ i,K i->R (.str i)):R p:=by cases p<;>first | exact k _ h | exact h.elim
theorem BC{K:List Nat->Prop}{R:PV->Prop}(h:onBytes p K)(k:∀ i,K i->R (.bytes i)):R p:=by cases p<;>first | exact k _ h | exact h.elim
theorem E0{K:List PV->Prop}{R:PV->Prop}(h:Dd p K)(k:∀ i,K i->R (.lst i)):R p:=by cases p<;>first | exact k _ h | exact h.elim
theorem Sl{K:Prop}{R:List PV->Prop}(h:VQ l K)(k:K->R []):R l:=by induction l<;>first | exact k h | exact h.elim
theorem HY{K:PV->Prop}{R:List PV->Prop}(h:MG l K)(k:∀ a,K a->R [a]):R l:=by
 induction l with
 | nil=>exact h.elim
 | cons a r=>exact Sl (R:=fun r=>R (a::r)) h (k a)
theorem KW{K:PV->PV->Prop}{R:List PV->Prop}(h:VR l K)(k:∀ a b,K a b->R [a,b]):R l:=by
 induction l with
 | nil=>exact h.elim
 | cons a r=>exact HY (R:=fun r=>R (a::r)) h (k a)
theorem cA{K:PV->PV->PV->Prop}{R:List PV->Prop}(h:mS l K)(k:∀ a b c,K a b c->R [a,b,c]):R l:=by
 induction l with
 | nil=>exact h.elim
 | cons a r=>exact KW (R:=fun r=>R (a::r)) h (k a)
theorem Sm{K:Nat->Prop}{R:List Nat->Prop}(h:bP l K)(k:∀ c,K c->R [c]):R l:=by
 induction l with
 | nil=>exact h.elim
 | cons c r=>induction r with
  | nil=>exact k c h
  | cons _ _=>exact h.elim
theorem CZ{K:Int->Prop}(h:CJ p K):∃ i,p=.int i/\K i:=by cases p<;>first | exact⟨_,rfl,h⟩ | exact h.elim
theorem E1{K:List Nat->Prop}(h:onStr p K):∃ i,p=.str i/\K i:=by cases p<;>first | exact⟨_,rfl,h⟩ | exact h.elim
theorem HZ{K:List Nat->Prop}(h:onBytes p K):∃ i,p=.bytes i/\K i:=by cases p<;>first | exact⟨_,rfl,h⟩ | exact h.elim
theorem E3{K:List PV->Prop}(h:Dd p K):∃ i,p=.lst i/\K i:=by cases p<;>first | exact⟨_,rfl,h⟩ | exact h.elim
theorem KY{K:List PV->Prop}(h:SX p K):∃ i,p=.tup i/\K i:=by cases p<;>first | exact⟨_,rfl,h⟩ | exact h.elim
theorem Fk{K:Prop}(h:LE p K):p=.none/\K:=by cases p<;>first | exact⟨rfl,h⟩ | exact h.elim
theorem Ha{K:List Nat->List Nat->Prop}(h:GJ p K):∃ n r,p=.field n r/\K n r:=by cases p<;>first | exact⟨_,_,rfl,h⟩ | exact h.elim
theorem Iv{K:Addr->Addr->List Int->Int->Prop}(h:Qk ν K):∃ p c ns t,ν=some (p,c,ns,t)/\K p c ns t:=by
 induction ν with
 | none=>exact h.elim
 | some x=>exact⟨_,_,_,_,rfl,h⟩
theorem IB{K:Prop}(h:VQ l K):l=[]/\K:=by
 induction l with
 | nil=>exact⟨rfl,h⟩
 | cons=>exact h.elim
theorem VY{K:PV->Prop}(h:MG l K):∃ a,l=[a]/\K a:=by
 induction l with
 | nil=>exact h.elim
 | cons a r=>exact(by(refine AM (IB h) ?_;rintro e h);exact⟨a,e▸rfl,h⟩)
theorem VZ{K:PV->PV->Prop}(h:VR l K):∃ a b,l=[a,b]/\K a b:=by
 induction l with
 | nil=>exact h.elim
 | cons a r=>exact(by refine AE (VY h) ?_;rintro b e h;exact⟨a,b,e▸rfl,h⟩)
theorem Va{K:Nat->Prop}(h:bP l K):∃ c,l=[c]/\K c:=by
 induction l with
 | nil=>exact h.elim
 | cons c r=>induction r with
  | nil=>exact⟨c,rfl,h⟩
  | cons=>exact h.elim
theorem N8{K:Int->Int->Prop}(h:ii a b K):∃ x y,a=.int x/\b=.int y/\K x y:=
 (by refine AE (CZ h) ?_;rintro x e h;exact(by refine AE (CZ h) ?_;rintro y e' h;exact⟨x,y,e,e',h⟩))
noncomputable def kb{α:Type}(C:Al)(A:Around)(m:Sem α)(s:Shared)(K:Shared->α->Prop):Prop:=
 ∀ E,wpAny (model C.prog C.w) A m (fun v s'=>AG C Ax Ax s s'/\K s' v) E s
noncomputable abbrev R0(C:Al)(A:Around)(X:Addr->Prop)(m:Sem Value)(s:Shared)(Q:PV->Prop):Prop:=kb C A m s (fun s' v=>∃ p,AJ C s'.heap X p v/\Q p)
theorem Iw(x y:List Nat):toB (x ++ y)=toB x ++ toB y:=by simp [toB]
theorem N9(x y:List Nat):toS (x ++ y)=toS x ++ toS y:=by
 refine(?_:_=Str.append _ _)
 simp [toS,Str.append]
theorem A1(x:List Nat):(toB x).size=x.length:=by simp [toB]
theorem DN(x:List Nat):(toS x).length=x.length:=by rfl
theorem OA(a:BL x)(b:BL y):BL (x ++ y):=fun z hz=>by
 rcases pV.mp hz with h | h
 ·exact a z h
 ·exact b z h
theorem Bu:BE<=sizeLine:=by decide
theorem ofNat_inj{a b:Nat}(ha:a<256)(hb:b<256)(h:UInt8.ofNat a=UInt8.ofNat b):a=b:=by
 have:=congrArg UInt8.toNat h
 exact(Nat.mod_eq_of_lt ha).symm.trans (this.trans (Nat.mod_eq_of_lt hb))
theorem Pp:∀ {x y:List Nat},BL x->BL y->x.map UInt8.ofNat=y.map UInt8.ofNat->x=y
 | [],[],_,_,_=>rfl
 | [],_::_,_,_,h=>by trivial
 | _::_,[],_,_,h=>by trivial
 | a::x,b::y,ha,hb,h=>by
  simp only [List.map_cons,List.cons.injEq] at h
  (refine AA (ofNat_inj (ha a (List.Mem.head _)) (hb b (List.Mem.head _)) h.1) ?_;refine AA (Pp (fun z hz=>ha z (by simp [hz])) (fun z hz=>hb z (by simp [hz])) h.2) ?_;rfl)
theorem Pq(ha:BL x)(hb:BL y):((toB x).toList==(toB y).toList)=decide (x=y):=by
 by_cases h:x=y
 ·subst h;simp
 ·have:¬x.map UInt8.ofNat=y.map UInt8.ofNat:=fun q=>h (Pp ha hb q)
  simp [h,this]
section
variable{C:Al}{A:Around}{s:Shared}{X:Addr->Prop}
theorem Di(hq:Q (.int i))(h:∀ (K:Value->Shared->Prop) E,(∀ t k,K (.int i t) { s with toks:=k })->wpAny (model C.prog C.w) A m K E s):R0 C A X m s Q:=fun E=>
 h _ E fun t k=>⟨AG.toks,.int i,.mk t,hq⟩
theorem Au{h:Heap}(e:h.get? a=some o'):(h.push o).get? a=some o':=pF _ e
theorem BX:AG C Ax Ax s { s with heap:=s.heap.push o,toks:=tk }:=AG.of_keeps fun _ _ e=>Au e
theorem IC:KX Ax Ax h (h.push o):=KX.of_keeps fun _ _ e=>Au e
theorem Ix(x:AJ C h X p v):AJ C (h.push o) X p v:=AJ.move IC (fun _ q=>q.elim) (fun _ q=>q.elim) (fun _ q=>.inl q) _ _ x
theorem KZ(x:AF C h X p v):AF C (h.push o) X p v:=AF.move IC (fun _ q=>q.elim) (fun _ q=>q.elim) (fun _ q=>.inl q) _ _ x
theorem Hb{h:Heap}:(h.push { cls:=.type "list",dict:=d,data:=.seq vs n,slots:=sl }).IsList h.objs.size vs:=⟨_,pE _ rfl,rfl,_,rfl⟩
theorem LF{h:Heap}:DE (h.push { cls:=.type "tuple",data:=.seq vs.toArray n }) h.objs.size vs:=⟨n,pE _ rfl⟩
theorem Cr(hX:∀ a,X a->a<h.objs.size)(x:AF C h X l vs)(hz:l.length<=sizeLine):AJ C (h.push { cls:=.type "list",dict:=d,data:=.seq vs.toArray n,slots:=sl }) X (.lst l) (.ref h.objs.size):=by
 exact⟨hz,_,vs,fun q=>Nat.lt_irrefl _ (hX _ q),Hb,KZ x⟩
theorem LG(hX:∀ a,X a->a<h.objs.size)(x:AF C h X l vs)(hz:l.length<=sizeLine):AJ C (h.push { cls:=.type "tuple",data:=.seq vs.toArray n }) X (.tup l) (.ref h.objs.size):=by
 exact⟨hz,_,vs,fun q=>Nat.lt_irrefl _ (hX _ q),LF,KZ x⟩
theorem Pr(h:small x):Builtin.Int.intBits x<=64:=by
 delta Builtin.Int.intBits
 by_cases h0:x.natAbs=0
 ·have:x=0:=Int.natAbs_eq_zero.mp h0
  subst this;decide
 ·have:x.natAbs.log2<62:=(Nat.log2_lt h0).mpr (nU h)
  split<;>(first | exact pQ _ | exact om ‹_› (by decide) | lia)
theorem AF.replicate(x:AF C h X l vs):∀ n,AF C h X (List.replicate n l).flatten (List.replicate n vs).flatten
 | 0=>rfl
 | n+1=>AF.append (AF.replicate x n) x
open Builtin BMul in
theorem J3(hf:Bytes.fitsIndex n=true):Gives («bytes.__mul__» ⟨[.bytes #[] t,.int n u],[]⟩) (.val (.bytes #[] t)):=by
 refine .of_wp fun M A E s Q hq=>?_
 refine oq (qR (args_eq hf) ?_)
 have e1:(#[]:Array UInt8).size*n.toNat=0:=by simp
 refine(?_:wpAny M A (if (#[]:Array UInt8).size*n.toNat≥2 ^ 63 then _ else _) _ E s)
 (refine AA (pH (by(refine AA e1 ?_);decide)) ?_)
 refine bm_if_true (by(refine AA e1 ?_);rfl) ?_
 refine oq (wpAny_typeOf (pY s #[] t) ?_)
 exact oq (wpAny_rule (o6 ⟨_,rfl,hq⟩))
theorem J4(hlo:0<=n)(hn:n<=64)(h:Q (.bytes #[] t) s):
  wpAny (model C.prog C.w) A (binaryOp .Mult (.bytes #[] t) (.int n u)) Q E s:=by
 have hf:Builtin.Bytes.fitsIndex n=true:=by
  simp only [Builtin.Bytes.fitsIndex,Bool.and_eq_true,decide_eq_true_eq]
  exact⟨Int.le_trans (by decide) hlo,Int.lt_of_le_of_lt hn (by decide)⟩
 exact wpAny_binaryOp_repeat (by rfl) (fun s'=>pY s' _ t) (fun s'=>typeIs_int s' n u) BMul.noFill F.fills_int_mul F.slot_int_rmul BMul.repeats F.slot_int_index.lookup
  (call_gives F.slot_int_rmul (typeIs_int s n u) F.entry_int_rmul (F.args_int_rmul_2 _ _) (BMul.int_declines n u _ t)
   ⟨rfl,call_gives BMul.slot_mul (pY s _ t) BMul.entry_mul (BMul.args_mul _ _) (J3 hf) h⟩)
variable{Q:PV->Prop}{a b:PV}
noncomputable abbrev YD(C:Al)(A:Around)(X:Addr->Prop)(s:Shared)(op:Operator)(a b:PV)(Q:PV->Prop):Prop:=∀ va vb,AJ C s.heap X a va->AJ C s.heap X b vb->R0 C A X (binaryOp op va vb) s Q
theorem D5{K:Int->Int->Prop}(h:ii a b K)(k:∀ x y t u,K x y->R0 C A X (binaryOp op (.int x t) (.int y u)) s Q):YD C A X s op a b Q:=fun va vb ha hb=>by
 (refine CQ (N8 h) ?_;rintro x y e1 e2 h)
 subst e1 e2
 induction ha with | mk t=>induction hb with | mk u=>exact k x y t u h
theorem XN(h:0<=y):Int.fdiv x y=x / y:=Int.fdiv_eq_ediv_of_nonneg _ h
theorem Vb(n:Nat):(0:Int)<=2 ^ n:=Int.le_of_lt (Int.pow_pos (by decide))
theorem Qm{y:Int}(h:y<1073741824)(h0:0<y):y.natAbs<1073741824:=pI.mp (nV h (Int.le_of_lt h0))
theorem Sn(h:x.length+y.length<=BE/\Q (.str (x ++ y))):YD C A X s .Add (.str x) (.str y) Q:=fun va vb ha hb E=>by
 have hz:=om h.1 Bu
 induction ha with | mk z1 t=>induction hb with | mk z2 u=>
 exact PyProof.Rows.add_str (fun t' tk=>⟨AG.toks,.str (x ++ y),N9 x y▸.mk (o9▸hz) t',h.2⟩) (hz)
theorem OB(h:x.length+y.length<=BE/\Q (.bytes (x ++ y))):YD C A X s .Add (.bytes x) (.bytes y) Q:=fun va vb ha hb E=>by
 have hz:=om h.1 Bu
 induction ha with | mk o1 z1 t=>induction hb with | mk o2 z2 u=>
 exact KBy.add_bytes (by(refine AA (A1 ..:) ?_;refine AA (A1 ..:) ?_);exact hz) fun t' tk=>⟨AG.toks,.bytes (x ++ y),Iw x y▸.mk (OA o1 o2) (o9▸hz) t',h.2⟩
theorem Fl{h:Heap}{a:Addr}(x:h.IsList a vs):∃ d n sl,h.get? a=some { cls:=.type "list",dict:=d,data:=.seq vs n,slots:=sl }:=by
 refine Ap fun G kk=>?_;obtain ⟨⟨c,d,t,sl⟩,e,hc,n,hd⟩:=x
 simp only at hc hd
 subst hc hd;refine kk ?_
 exact⟨d,n,sl,e⟩
theorem Vc(hX:∀ a,X a->a<s.heap.objs.size)(h:x.length+y.length<=BE/\Q (.lst (x ++ y))):YD C A X s .Add (.lst x) (.lst y) Q:=fun va vb ha hb E=>by
 induction ha with | mk z1 l vs x1 hl y1=>induction hb with | mk z2 b ws x2 hb' y2=>
 (refine IW (Fl hl) ?_;rintro dd n sl ho)
 (refine IW (Fl hb') ?_;rintro dd2 n2 sl2 ho2)
 refine concat_meets ⟨_,ho,rfl⟩ ⟨_,ho2,rfl⟩ noFill_list_add seq_list_add PySem.F.slot_list_add PySem.F.entry_list_add (PySem.F.args_list_add_2 _ _) (list_addW l b vs.toArray ws.toArray n n2 dd dd2 sl sl2 (by(refine AA ph ?_;refine AA ph ?_;refine AA y1.length ?_;refine AA y2.length ?_);exact(om h.1 Bu))) ⟨ho,ho2,?_⟩
 (refine AA (show vs.toArray ++ ws.toArray=(vs ++ ws).toArray by simp) ?_)
 exact⟨BX,_,Cr hX (y2.append y1) (o9▸(om h.1 Bu)),h.2⟩
theorem LH(x:List α)(y:Int)(h1:x.length<=16)(h2:y<=64):(rep x y).length<=1024:=by
 have e:(rep x y).length=y.toNat*x.length:=by simp [rep]
 (refine AA e ?_)
 exact om (Nat.mul_le_mul (show y.toNat<=64 from Int.toNat_le.mpr h2) h1) (by decide)
theorem Ka:1024<=sizeLine:=by decide
theorem Qn(h:x.length<=16/\0<=y/\y<=64/\Q (.bytes (rep x y))):YD C A X s .Mult (.bytes x) (.int y) Q:=fun va vb ha hb E=>by
 (have h1:=h.1;have h4:=h.2.1;have h5:=h.2.2.1;have h3:=h.2.2.2;clear h)
 induction ha with | mk o1 z1 t=>induction hb with | mk u=>
 by_cases h2:x=[]
 ·subst h2
  have e:rep ([]:List Nat) y=[]:=by simp [rep]
  (replace h3:=(e)▸h3)
  exact J4 h4 h5 ⟨AG.refl _ _ _ _,.bytes [],.mk o1 z1 t,h3⟩
 refine PySem.W.bytes_mul_any (by simpa using h2) (Int.le_trans (by decide) h4) (Int.le_trans h5 (by decide)) (by simpa using h1) (fun t' tk=>⟨AG.toks,.bytes (rep x y),?_,h3⟩)
 have e:(List.replicate y.toNat (toB x).toList).flatten.toArray=toB (rep x y):=by simp [toB,rep,List.map_flatten]
 (refine AA e ?_)
 refine .mk (fun z hz=>?_) (om (LH x y h1 h5) Ka) t'
 (refine AE (List.mem_flatten.mp hz) ?_;rintro l hl hz)
 exact o1 z (List.eq_of_mem_replicate hl▸hz)
theorem Vd{y:Int}(hX:∀ a,X a->a<s.heap.objs.size)(h:x.length<=16/\0<=y/\y<=64/\Q (.lst (rep x y))):YD C A X s .Mult (.lst x) (.int y) Q:=fun va vb ha hb E=>by
 (have h1:=h.1;have h4:=h.2.1;have h5:=h.2.2.1;have h3:=h.2.2.2;clear h)
 induction ha with | mk z1 l vs x1 hl y1=>induction hb with | mk u=>
 (refine IW (Fl hl) ?_;rintro dd k sl ho)
 have hmul:vs.toArray.size*y.toNat<=1024:=by
  have e:(rep vs y).length=y.toNat*vs.length:=by simp [rep]
  have:=LH vs y (by(refine AA y1.length ?_);exact h1) h5
  (refine AA (Nat.mul_comm ..:) ?_;refine BO e ?_);exact this
 refine wpAny_binaryOp_repeat_ref (by rfl) ⟨_,ho,rfl⟩ (fun s'=>typeIs_int s' y u) noFill_list_mul F.fills_int_mul F.slot_int_rmul repeat_list F.slot_int_index.lookup
  (call_meets F.slot_int_rmul (typeIs_int s y u) F.entry_int_rmul (F.args_int_rmul_2 _ _) (lm_int_rmul_list_any y u l vs.toArray k dd sl)
   ⟨ho,rfl,⟨_,ho,rfl⟩,call_meets F.slot_list_mul ⟨_,ho,rfl⟩ F.entry_list_mul (F.args_list_mul_2 _ _)
    (lm_list_mul_any l vs.toArray k dd sl y u (by simp [Builtin.List.listFitsIndex];(clear hmul ho y1 hl x1 z1 h3 h1 hX;lia)) (by lia) (by simp [Builtin.List.listTooLong,sizeLine];exact om ‹_› (by decide)))
    ⟨ho,?_⟩⟩)
 (refine AA (listMul_foldl_if ..:) ?_)
 exact⟨BX,_,Cr hX (y1.replicate y.toNat) (om (LH x y h1 h5) Ka),h3⟩
theorem YE(h:bc op a b Q)(hX:∀ a,X a->a<s.heap.objs.size):YD C A X s op a b Q:=by
 induction op with
 | Add=>
  cases a with
  | int x=>exact D5 (K:=fun x y=>Q (.int (x+y))) h fun x y t u h=>Di h fun K E k=>PyProof.Rows.add_int (k _ _)
  | str x=>(refine AE (E1 h) ?_;rintro y e h);exact e▸Sn h
  | bytes x=>(refine AE (HZ h) ?_;rintro y e h);exact e▸OB h
  | lst x=>(refine AE (E3 h) ?_;rintro y e h);exact e▸Vc hX h
  | _=>exact h.elim
 | Sub=>exact D5 h fun x y t u h=>Di h fun K E k=>PyProof.Rows.sub_int' (k _ _)
 | Mult=>
  (refine AE (CZ h) ?_;rintro y e h)
  subst e
  cases a with
  | int x=>exact D5 (K:=fun x y=>small x/\Q (.int (x*y))) h fun x y t u h=>Di h.2 fun K E k=>PyProof.Rows.mul_int (k _ _) (.of_left (Pr h.1))
  | bytes x=>exact Qn h
  | lst x=>exact Vd hX h
  | _=>exact h.elim
 | FloorDiv=>exact D5 h fun x y t u h=>Di h.2.2 fun K E k=>PyProof.Rows.floordiv_int (Int.ne_of_gt h.1) (XN (Int.le_of_lt h.1)▸k _ _) (Or.inl (PyProof.noPylong_small (Qm h.2.1 h.1)))
 | Mod=>exact D5 h fun x y t u h=>Di h.2 fun K E k=>PyProof.Rows.mod_int' (Int.ne_of_gt h.1) (Int.fmod_eq_emod_of_nonneg _ (Int.le_of_lt h.1)▸k _ _)
 | Pow=>exact D5 h fun x y t u zq=>(by refine Bq zq ?_;clear zq;rintro h1 h2 h;exact by subst h1 h2;exact Di h fun K E k=>PyProof.Rows.pow_int (by decide) (by decide) (k _ _))
 | LShift=>exact D5 h fun x y t u h=>Di h.2.2.2 fun K E k=>PyProof.Rows.lshift_int h.2.1 (by have:=Pr h.1;have:=h.2.2.1;clear h k;lia) (k _ _)
 | RShift=>exact D5 h fun x y t u h=>Di h.2 fun K E k=>PyProof.Rows.rshift_int h.1 (XN (Vb _)▸k _ _)
 | BitAnd=>exact D5 h fun x y t u h=>Di h fun K E k=>PyProof.Rows.and_int (k _ _)
 | _=>exact h.elim
theorem YF(h:bd a Q)(ha:AJ C s.heap X a va):R0 C A X (unaryOp .USub va) s Q:=by
 (refine AE (CZ h) ?_;rintro x e h)
 subst e
 induction ha with | mk t=>exact Di h fun K E k=>PyProof.Rows.neg_int (k _ _)
end
noncomputable abbrev Ps(C:Al)(A:Around)(m:Sem Value)(s:Shared)(Q:Bool->Prop):Prop:=kb C A m s (fun _ v=>∃ b,v=.bool b/\Q b)
noncomputable abbrev Mf(C:Al)(A:Around)(m:Sem Bool)(s:Shared)(Q:Bool->Prop):Prop:=kb C A m s (fun _ b=>Q b)
section
variable{C:Al}{A:Around}{s:Shared}{X:Addr->Prop}
theorem cB(hq:Q b)(h:∀ (K:Value->Shared->Prop) E,(∀ k,K (.bool b) { s with toks:=k })->wpAny (model C.prog C.w) A m K E s):Ps C A m s Q:=fun E=>
 h _ E fun k=>⟨AG.toks,b,rfl,hq⟩
theorem Pt(a b:Int):(a==b)=decide (a=b):=by by_cases h:a=b<;>(rfl)
theorem ID(x y:List Nat):((toS x)==(toS y))=decide (x=y):=by
 by_cases h:x=y
 ·subst h;simp
 ·have:¬toS x=toS y:=fun q=>h (by simpa [toS] using q)
  simp [h,this]
theorem Ve(x y:List Nat):((toS x) != (toS y))=!decide (x=y):=by
 (rewrite [bne];refine AA (ID ..:) ?_;rfl)
noncomputable abbrev YG(C:Al)(A:Around)(X:Addr->Prop)(s:Shared)(op:CmpOp)(a b:PV)(Q:Bool->Prop):Prop:=∀ va vb,AJ C s.heap X a va->AJ C s.heap X b vb->Ps C A (compareOp op va vb) s Q
variable{Q:Bool->Prop}{a b:PV}
theorem Gr{K:Int->Int->Prop}(h:ii a b K)(k:∀ x y t u,K x y->Ps C A (compareOp op (.int x t) (.int y u)) s Q):YG C A X s op a b Q:=fun va vb ha hb=>by
 (refine CQ (N8 h) ?_;rintro x y e1 e2 h)
 subst e1 e2
 induction ha with | mk t=>induction hb with | mk u=>exact k x y t u h
theorem So{x:List Nat}{K:List Nat->Prop}(h:onStr b K)(k:∀ y t u,K y->Ps C A (compareOp op (.str (toS x) t) (.str (toS y) u)) s Q):YG C A X s op (.str x) b Q:=fun va vb ha hb=>by
 (refine AE (E1 h) ?_;rintro y e h)
 subst e
 induction ha with | mk _ t=>induction hb with | mk _ u=>exact k y t u h
theorem Sq{x:List Nat}{K:List Nat->Prop}(h:onBytes b K)(k:∀ y t u,BL x->BL y->K y->Ps C A (compareOp op (.bytes (toB x) t) (.bytes (toB y) u)) s Q):YG C A X s op (.bytes x) b Q:=fun va vb ha hb=>by
 (refine AE (HZ h) ?_;rintro y e h)
 subst e
 induction ha with | mk o1 _ t=>induction hb with | mk o2 _ u=>exact k y t u o1 o2 h
theorem Gu{b c:Bool}(e:c=b)(hq:Q b)(h:∀ (K:Value->Shared->Prop) E,(∀ k,K (.bool c) { s with toks:=k })->wpAny (model C.prog C.w) A m K E s):Ps C A m s Q:=by subst e;exact cB hq h
theorem Sr(x y:Int):(x != y)=!decide (x=y):=congrArg Bool.not (Pt x y)
theorem Mg{l:List Value}(hl:s.heap.IsList p l.toArray)(hb:AJ C s.heap X (.lst []) vb)(hu:A.units<cLine)(ea:va=.ref p)(q:Q l.isEmpty):Ps C A (compareOp .Eq va vb) s Q:=fun E=>by
 subst ea
 induction hb with | mk _ b' ws _ hb' hw=>
 subst hw
 induction l with
 | nil=>exact PySem.SeqAt.eq_listAt (e:=fun _=>true) hl hb' rfl hu (fun j h1=>absurd h1 (Nat.not_lt_zero _)) ⟨AG.refl _ _ _ _,_,rfl,q⟩
 | cons n ns=>exact PySem.SeqAt.eq_list_lengthsAt hl hb' (by rfl) hu ⟨AG.refl _ _ _ _,_,rfl,q⟩
theorem Ss:∀ {vs:List Value} {ns:List Int},IntsAre vs ns->vs.isEmpty=ns.isEmpty
 | _,_,.nil=>rfl
 | _,_,.cons _ _ _=>rfl
theorem OC{l:List PV}(h:AF C s.heap X l vs):vs.isEmpty=l.isEmpty:=by
 induction l with
 | nil=>exact(show vs=[] from h)▸rfl
 | cons=>induction h with | mk=>rfl
theorem YH{ν:Pu}(hp:Ah ν Y s.heap)(hu:A.units<cLine)(h:mT a b ν Q):YG C A X s .Eq a b Q:=by
 cases a with
 | int x=>exact Gr (K:=fun x y=>Q (decide (x=y))) h fun x y t u h=>Gu (Pt x y) h fun K E k=>PyProof.Rows.eq_int (k _)
 | str x=>exact So h fun y t u h=>Gu (ID x y) h fun K E k=>PyProof.Rows.eq_str (k _)
 | bytes x=>exact Sq h fun y t u o1 o2 h=>Gu (Pq o1 o2) h fun K E k=>PySem.W.eq_bytes (k _)
 | lst x=>
  (refine AE (E3 h) ?_;rintro y e h)
  (refine AM (IB h) ?_;rintro e' h)
  subst e e'
  intro va vb ha hb
  induction ha with | mk _ p vs _ hl hv=>exact Mg hl hb hu rfl (OC hv▸h)
 | addr x=>
  (refine AE (E3 h) ?_;rintro y e h2)
  (refine AM (IB h2) ?_;rintro e' h3)
  (refine Nm (Iv h3) ?_;rintro P c ns t e'' h1 h4)
  subst e e' e'' h1
  intro va vb ha hb
  obtain ⟨_,_,_,_,vs,h5,h6⟩:=hp
  exact Mg h5 hb hu ha (Ss h6▸h4)
 | _=>exact h.elim
theorem LJ:∀ {x:List (List Nat)} {vs:List Value},AF C h X (x.map .str) vs->vs.length=x.length/\∀ j (h1:j<vs.length) (h2:j<x.length),∃ t,vs[j]=.str (toS x[j]) t
 | [],vs,hv=>(show vs=[] from hv)▸⟨rfl,fun j h1=>absurd h1 (Nat.not_lt_zero _)⟩
 | w::x,vs,hv=>by
  induction hv with | mk v vs a b=>
  induction a with | mk _ t=>
  (refine AM (LJ b) ?_;rintro e1 e2)
  refine⟨congrArg Nat.succ e1,fun j h1 h2=>?_⟩
  induction j with
  | zero=>exact⟨t,rfl⟩
  | succ j=>exact e2 j (Nat.lt_of_succ_lt_succ h1) (Nat.lt_of_succ_lt_succ h2)
theorem all_eq{x y:List (List Nat)}(hxy:x.length=y.length):((List.range x.length).all fun j=>match x[j]?,y[j]? with | some u,some v=>toS u==toS v | _,_=>true)=decide (x=y):=by
 (refine F7 (Bool.eq_iff_iff:) ?_;refine F7 (pr:) ?_;rewrite [decide_eq_true_iff])
 constructor
 ·intro hall
  apply List.ext_getElem hxy
  intro j j1 j2
  have:=hall j (by simpa using j1)
  (replace this:=(o8 j1)▸this;replace this:=(o8 j2)▸this)
  simpa [ID] using this
 ·rintro rfl j hj
  induction x[j]?<;>simp
theorem YI(hu:A.units<cLine)(h:mU a b Q):YG C A X s .NotEq a b Q:=by
 cases a with
 | int x=>exact Gr (K:=fun x y=>Q (!decide (x=y))) h fun x y t u h=>Gu (Sr x y) h fun K E k=>PyProof.Rows.ne_int (k _)
 | str x=>exact So h fun y t u h=>Gu (Ve x y) h fun K E k=>PyProof.Rows.ne_str (k _)
 | bytes x=>exact Sq h fun y t u o1 o2 h=>Gu (congrArg Bool.not (Pq o1 o2)) h fun K E k=>PySem.W.ne_bytes (k _)
 | lst l=>
  obtain ⟨m,e,x,y,e1,e2,hxy,q⟩:=E3 h
  subst e e1 e2
  intro va vb ha hb E
  induction ha with | mk _ p us _ hl h1=>induction hb with | mk _ p' ws _ hl' h2=>
  (refine AM (LJ h1) ?_;rintro e1 f1)
  (refine AM (LJ h2) ?_;rintro e2 f2)
  refine PySem.SeqAt.RcNeAt.lists (e:=fun j=>match x[j]?,y[j]? with | some u,some v=>toS u==toS v | _,_=>true) hl hl' (e1.trans (hxy.trans e2.symm)) hu (fun j j1 j2=>?_) _ _ E _ ?_
  ·(refine AI (f1 j j1 (e1▸j1)) ?_;rintro t ht)
   (refine AI (f2 j j2 (e2▸j2)) ?_;rintro u hu')
   simp only [List.getElem_toArray,ht,hu']
   (refine AA (o8 (e1▸j1:j<x.length)) ?_;refine AA (o8 (e2▸j2:j<y.length)) ?_)
   exact PySem.SeqAt.EqAt.str_str _ _ _ _
  ·refine⟨AG.refl _ _ _ _,_,rfl,?_⟩
   (refine AA ph ?_;refine AA e1 ?_;refine AA (all_eq hxy) ?_);exact q
 | _=>exact h.elim
theorem Su{F:Bool->Bool}(hop:∀ (v:Value) (b:Bool),(v==.none)=b->Ps C A (compareOp op v .none) s (fun r=>r=F b))(h:kI a b fun r=>Q (F r)):YG C A X s op a b Q:=fun va vb ha hb=>by
 have go:∀ r:Bool,(va==.none)=r->Q (F r)->Ps C A (compareOp op va .none) s Q:=fun r e q E=>pN (hop va r e E) (fun _ _ zq=>(by obtain ⟨m,b,e,e'⟩:=zq;exact⟨m,b,e,e'▸q⟩)) fun _ _ x=>x
 cases a with
 | none=>
  (refine AM (Fk h) ?_;rintro e h)
  subst e
  subst ha
  exact(show vb=.none from hb)▸go true (beq_self_eq_true _) h
 | tup x=>
  (refine AM (Fk h) ?_;rintro e h)
  subst e
  induction ha
  exact(show vb=.none from hb)▸go false rfl h
 | str x=>
  (refine AM (Fk h) ?_;rintro e h)
  subst e
  induction ha
  exact(show vb=.none from hb)▸go false rfl h
 | _=>exact h.elim
theorem Mf.in_(h:Mf C A (contains vb va) s Q):Ps C A (compareOp .In va vb) s Q:=fun E=>by
 exact oq (pN (h E) (fun b s' zq=>(by(have m:=zq.1;have q:=zq.2;clear zq);exact o6 ⟨m,b,rfl,q⟩)) fun _ _ x=>x)
theorem Mf.notIn(h:Mf C A (contains vb va) s fun b=>Q (!b)):Ps C A (compareOp .NotIn va vb) s Q:=fun E=>by
 exact oq (pN (h E) (fun b s' zq=>(by(have m:=zq.1;have q:=zq.2;clear zq);exact o6 ⟨m,!b,rfl,q⟩)) fun _ _ x=>x)
theorem EV:∀ {ns:List Int} {vs:List Value},AF C s.heap X (ns.map .int) vs->IntsAre vs ns
 | [],vs,h=>(show vs=[] from h)▸.nil
 | n::ns,vs,h=>by
  induction h with | mk v vs a b=>
  induction a with | mk t=>exact .cons n t (EV b)
theorem Iy:∀ {ns:List (List Nat)} {vs:List Value},AF C s.heap X (ns.map .str) vs->StrsAre vs (ns.map toS)
 | [],vs,h=>(show vs=[] from h)▸.nil
 | n::ns,vs,h=>by
  induction h with | mk v vs a b=>
  induction a with | mk _ t=>exact .cons (toS n) t (Iy b)
theorem Vf(x:List Nat):∀ ns:List (List Nat),(ns.map toS).any (·==toS x)=ns.any (·==x):=by
 intro rx
 induction rx with
 | nil=>
  exact rfl
 | cons y ns ih=>
  exact by
   (refine AA List.any_cons ?_;refine AA ih ?_)
   congr 1
   (refine AA (ID ..:) ?_)
   by_cases h:y=x<;>simp [h]
theorem Fm(b:Array UInt8)(i:Int)(t u:Tok)(h0:0<=i)(h1:i<256):Gives (Builtin.«bytes.__contains__» ⟨[.bytes b t,.int i u],[]⟩) (.val (.bool (b.contains i.toNat.toUInt8))):=by
 refine .of_wp fun M A E s Q hq=>?_
 refine(?_:wpAny M A (Builtin.Bytes.containsIn "bytes.__contains__" (.bytes b t) (.int i u) >>= fun r=>_) _ E s)
 refine oq ?_
 refine oq (wpAny_attempt (qR rfl ?_))
 refine oq (qR KBy.buffer_eq ?_)
 refine(?_:wpAny M A (if (decide (i<0)||decide (i≥256))=true then _ else _) _ E s)
 (refine AA (pH (by lia)) ?_)
 exact o6 (o6 ⟨_,rfl,hq⟩)
theorem Bz(hx:x<256):∀ {b:List Nat},BL b->(toB b).contains x.toUInt8=b.any (·==x)
 | [],_=>by simp [toB]
 | a::b,hb=>by
  have ih:=Bz hx (b:=b) fun z hz=>hb z (by simp [hz])
  simp only [toB,List.contains_toArray,List.map_cons,List.contains_cons,List.any_cons] at ih ⊢
  congr 1
  by_cases h:a=x
  ·subst h;simp [Nat.toUInt8]
  ·have:¬x.toUInt8=UInt8.ofNat a:=fun q=>h (ofNat_inj (hb a (List.Mem.head _)) hx q.symm)
   refine(?_:(x.toUInt8==UInt8.ofNat a)=(a==x))
   (refine AA (qT.mpr this) ?_;refine AA (qT.mpr h) ?_;rfl)
theorem Iz(b:List UInt8)(x:UInt8)(i:Nat):(b.toArray.extract (i+0) (i+0+#[x].size)==#[x])=true↔b[i]?=some x:=by
 have e:b.toArray.extract (i+0) (i+0+#[x].size)=((b.drop i).take 1).toArray:=by
  simp [List.extract_toArray,List.extract_eq_drop_take]
 (refine AA e ?_;rewrite [beq_iff_eq])
 constructor
 ·intro h
  have h':(b.drop i).take 1=[x]:=by simpa using congrArg Array.toList h
  have:((b.drop i).take 1)[0]?=some x:=by(refine AA h' ?_);rfl
  simpa using this
 ·intro h
  have hi:i<b.length:=by
   rcases Nat.lt_or_ge i b.length with q | q
   ·exact q
   ·(replace h:=(List.getElem?_eq_none q)▸h);exact nS h
  have:b.drop i=x::b.drop (i+1):=by
   (refine AA (qa hi) ?_)
   (replace h:=(o8 hi)▸h)
   (refine sI h ?_;clear h;intro zz;induction zz);rfl
  (refine AA this ?_);rfl
theorem XO(b:List UInt8)(x:UInt8):(Builtin.Bytes.find? b.toArray #[x] 0 b.toArray.size).isSome=b.contains x:=by
 (refine F7 (Bool.eq_iff_iff:) ?_;refine F7 (List.find?_isSome:) ?_;rewrite [List.contains_iff_mem])
 constructor
 ·rintro ⟨j,hj,he⟩
  (refine AE (qL.mp hj) ?_;rintro i hi rfl)
  exact qE ((Iz b x i).mp he)
 ·intro hm
  obtain ⟨i,hi,he⟩:=List.mem_iff_getElem.mp hm
  refine⟨i+0,qL.mpr ⟨i,?_,rfl⟩,(Iz b x i).mpr (by(refine AA (o8 hi) ?_;refine AA he ?_;rfl))⟩
  simp;assumption
theorem LK{b:List Nat}(hh:A.handled=none)(hb:BL b)(hx:x<256)(hq:Q (b.any (·==x))):
  Mf C A (contains (.bytes (toB b) u) (.bytes (toB [x]) t)) s Q:=fun E=>by
 refine wpAny_contains_slot (pY _ _ _) FB.slot_bytes_contains (qZ FB.slot_bytes_contains (pY _ _ _) FB.entry_bytes_contains ?_ (FB.args_bytes_contains_2 _ _))
 refine(?_:wpAny _ _ (Builtin.Bytes.containsIn "bytes.__contains__" (.bytes (toB b) u) (.bytes (toB [x]) t) >>= fun r=>_) _ _ s)
 refine oq ?_
 refine oq (wpAny_attempt ?_)
 refine wpAny_raiseErrorMade plainExc_TypeError hh (fun h' tk e hx'=>?_)
 refine oq (qR KBy.buffer_eq ?_)
 refine oq (qR KBy.buffer_eq ?_)
 refine oq (wpAny_rule (o6 (o6 ⟨_,rfl,qQ ⟨AG.of_keeps hx'.keeps,?_⟩⟩)))
 have:=XO (b.map UInt8.ofNat) x.toUInt8
 (refine AA this ?_;refine BO List.contains_toArray ?_;refine AA (Bz hx hb) ?_)
 exact hq
theorem YJ{ns:List Int}(ha:AJ C s.heap X (.int x) va)(hb:AJ C s.heap X (.tup (ns.map .int)) vb)(h:Q (ns.any (·==x))):Mf C A (contains vb va) s Q:=fun E=>by
 induction ha with | mk t=>induction hb with | mk _ a vs _ ht hv=>
 exact contains_tuple_ints ht.is (by simpa using EV hv) ⟨AG.refl _ _ _ _,h⟩
theorem YK{ns:List (List Nat)}(ha:AJ C s.heap X (.str x) va)(hb:AJ C s.heap X (.tup (ns.map .str)) vb)(h:Q (ns.any (·==x))):Mf C A (contains vb va) s Q:=fun E=>by
 induction ha with | mk _ t=>induction hb with | mk _ a vs _ ht hv=>
 exact contains_tuple_strs ht.is (by simpa using Iy hv) ⟨AG.refl _ _ _ _,by(refine AA (Vf ..:) ?_);exact h⟩
theorem in_dict(hm:DB C s.heap f d g)(h:Q (f x).isSome):Mf C A (contains (.ref d) (.int x t)) s Q:=fun E=>by
 delta contains
 try with_reducible refine pR ?_
 refine oq (wpAny_specialOf hm.m.typeIs slot_dict_contains.lookup ?_)
 refine oq (wpAny_callSpecialUnlessNone?_slot hm.m.typeIs slot_dict_contains
  (qZ slot_dict_contains hm.m.typeIs entry_dict_contains ?_ (args_dict_contains _ _)))
 refine(?_:wpAny _ _ (dictGet d (.int x t) >>= _) _ _ s)
 refine oq (wpAny_dictGet_of (k:=x) (by simp [intKind,Value.isInt]) hm.m ?_)
 have hgx:=hm.at_ x
 generalize g x=gx at hgx ⊢
 generalize f x=fx at hgx h
 induction hgx with
 | some i tt=>
  exact o6 ⟨_,rfl,qQ ⟨AG.toks,h⟩⟩
 | none=>
  exact oq (wpAny_pendingKey_other hm.nm (o6 ⟨_,rfl,qQ ⟨AG.toks,h⟩⟩))
theorem Vg{b:List Nat}(h0:0<=x):b.any (fun c=>(c:Int)==x)=b.any (·==x.toNat):=by
 congr 1;funext c
 (refine F7 (Bool.eq_iff_iff:) ?_;rewrite [beq_iff_eq];rewrite [beq_iff_eq]);exact cx h0 c
theorem Sv{b:List Nat}(ob:BL b)(h0:0<=x)(h1:x<256)(h:Q (b.any fun c=>(c:Int)==x)):Mf C A (contains (.bytes (toB b) u) (.int x t)) s Q:=fun E=>by
 refine wpAny_contains_slot (pY _ _ _) FB.slot_bytes_contains (call_gives FB.slot_bytes_contains (pY s _ _) FB.entry_bytes_contains (FB.args_bytes_contains_2 _ _) (Fm _ x u t h0 h1) ?_)
 refine qQ ⟨AG.refl _ _ _ _,?_⟩
 (refine AA (Bz ((Int.toNat_lt h0).mpr h1) ob) ?_;refine BO (Vg h0) ?_);exact h
theorem in_str{b x:List Nat}(h:Q (Txt.contains (toS b) (toS x))):Mf C A (contains (.str (toS b) u) (.str (toS x) t)) s Q:=fun E=>
 wpAny_contains_slot (typeIs_str _ _ _) F.slot_str_contains (call_gives F.slot_str_contains (typeIs_str s _ _) F.entry_str_contains (F.args_str_contains_2 _ _) (gives_str_contains _ _ u t) (qQ ⟨AG.refl _ _ _ _,h⟩))
theorem Sw(hh:hn=true->A.handled=none)(h:kJ hn a b Q)(ha:AJ C s.heap X a va)(hb:AJ C s.heap X b vb):Mf C A (contains vb va) s Q:=by
 cases b with
 | idict f=>
  (refine AE (CZ h) ?_;rintro x e h)
  subst e
  induction ha with | mk t=>induction hb with | mk d g _ hm=>exact in_dict hm h
 | str z=>
  (refine AE (E1 h) ?_;rintro x e h)
  subst e
  induction ha with | mk _ t=>induction hb with | mk _ u=>exact in_str h
 | bytes z=>
  induction hb with | mk ob _ u=>
  cases a with
  | int x=>induction ha with | mk t=>exact Sv ob h.1 h.2.1 h.2.2
  | bytes y=>
   (refine AE (Va h) ?_;rintro x e h)
   subst e
   induction ha with | mk ox _ t=>exact LK (hh h.1) ob (ox x (List.mem_singleton_self x)) h.2
  | _=>exact h.elim
 | _=>exact h.elim
theorem Vh{hn:Bool}(hh:hn=true->A.handled=none)(hp:Ah ν Y s.heap)(hu:A.units<cLine)(h:VS hn op a b ν Q):YG C A X s op a b Q:=by
 induction op with
 | Lt=>exact Gr h fun x y t u h=>cB h fun K E k=>PyProof.Rows.lt_int (k _)
 | LtE=>exact Gr h fun x y t u h=>cB h fun K E k=>PyProof.Rows.le_int (k _)
 | Gt=>exact Gr h fun x y t u h=>cB h fun K E k=>PyProof.Rows.gt_int (k _)
 | GtE=>exact Gr h fun x y t u h=>cB h fun K E k=>PyProof.Rows.ge_int (k _)
 | Eq=>exact YH hp hu h
 | NotEq=>exact YI hu h
 | Is=>exact Su (fun v b e E=>is_none ⟨AG.refl _ _ _ _,_,rfl,e⟩) h
 | IsNot=>exact Su (fun v b e E=>isNot_none ⟨AG.refl _ _ _ _,_,rfl,congrArg Bool.not e⟩) h
 | In=>exact fun va vb ha hb=>Mf.in_ (Sw hh h ha hb)
 | NotIn=>exact fun va vb ha hb=>Mf.notIn (Sw hh h ha hb)
end
section
variable{C:Al}{A:Around}{s:Shared}{X:Addr->Prop}{E:Value->Shared->Prop}{Q:PV->Prop}
theorem Cs{n j:Nat}(h:seqIndex? i n=some j):j<n/\-(n:Int)<=i/\i<n:=by
 delta seqIndex? at h
 dsimp only at h
 generalize hk:(if i<0 then i+(n:Int) else i)=k at h
 split at h
 ·rename_i c
  simp only [Bool.and_eq_true,decide_eq_true_eq] at c
  (refine sI h ?_;clear h;intro zz;induction zz)
  split at hk
  ·exact nN c hk
  ·subst hk;exact⟨(Int.toNat_lt c.1).mpr c.2,Int.le_trans (Int.neg_nonpos_of_nonneg (pG n)) c.1,c.2⟩
 ·exact nS h
theorem OD(h:0<n):seqIndex? (-1) n=some (n - 1):=by
 delta seqIndex?
 simp only [show ((-1:Int)<0) from by decide,if_true,(mt h),(mu n),decide_true,Bool.and_self,(ms n)]
theorem GK{l:List α}{K:α->Prop}(h:N5 l i K):∃ j x,seqIndex? i l.length=some j/\l[j]?=some x/\K x:=by
 delta N5 kK at h
 cases hj:seqIndex? i l.length with
 | none=>(replace h:=(hj)▸h);exact h.elim
 | some j=>
  (replace h:=(hj)▸h)
  dsimp only at h
  cases hx:l[j]? with
  | none=>(replace h:=(hx)▸h);exact h.elim
  | some x=>(replace h:=(hx)▸h);exact⟨j,x,rfl,hx,h⟩
structure DO(C:Al)(A:Around)(X:Addr->Prop)(s:Shared)(vv vi:Value)(Q:PV->Prop):Prop where
 op:R0 C A X (getItem vv vi) s Q
 has:∃ T id,s.TypeIs vv T/\typeLookup (.type T) "__getitem__" = pure (some (.builtin id))
theorem GL(h:n<=sizeLine)(h1:-(n:Int)<=i)(h2:i<n):-(2 ^ 63)<=i/\i<2 ^ 63:=by
 exact Xw h h1 h2
theorem IE{vs:List Value}{K:Value->Shared->Prop}(hl:s.heap.IsList a vs.toArray)(hj:seqIndex? i vs.length=some j)(hv:vs[j]?=some v)(hz:vs.length<=sizeLine)(h:K v s):wpAny (model C.prog C.w) A (getItem (.ref a) (.int i t)) K E s:=by
 (refine Bq (Cs hj) ?_;rintro k1 k2 k3)
 by_cases hn:i<0
 ·exact kde_getNeg hl hn (GL hz k2 k3).1 hj hv h
 ·have:=Int.not_lt.mp hn
  (replace hj:=(seqIndex_of this k3)▸hj)
  exact wpAny_getItem_list hl this (GL hz k2 k3).2 (by(refine AA (List.getElem?_toArray) ?_;refine BO hv ?_;refine BO (pP hj) ?_;rfl)) h
theorem Mh(h:SY ν (.lst l) k Q)(hl:s.heap.IsList a vs.toArray)(hr:AF C s.heap X l vs)(z:l.length<=sizeLine)(hi:AJ C s.heap X k vk):DO C A X s (.ref a) vk Q:=by
 (refine AE (CZ h) ?_;rintro i e h)
 subst e
 (refine CQ (GK h) ?_;rintro j p hj hp q)
 induction hi with | mk t=>
 (refine AE (hr.get j hp) ?_;rintro v hv1 hv2)
 exact⟨fun E=>IE hl (hr.length▸hj) hv1 (hr.length▸z) ⟨AG.refl _ _ _ _,p,hv2,q⟩,"list",_,hl.typeIs,list_getitem_lookup⟩
theorem Qo(h:N5 l k Q)(hv:AJ C s.heap X (.lst l) vv)(hi:AJ C s.heap X (.int k) vk):DO C A X s vv vk Q:=by
 induction hv with | mk z a vs _ hl hr=>exact Mh (ν:=none) (k:=.int k) h hl hr z hi
theorem Sx(h:N5 l k Q)(hv:AJ C s.heap X (.tup l) vv)(hi:AJ C s.heap X (.int k) vk):DO C A X s vv vk Q:=by
 (refine CQ (GK h) ?_;rintro j p hj hp q)
 induction hv with | mk z a vs _ hl hr=>induction hi with | mk t=>
 (refine AE (hr.get j hp) ?_;rintro v hv1 hv2)
 (refine Bq (Cs hj) ?_;rintro k1 k2 k3)
 exact⟨fun E=>getItem_tuple (hl.is) (GL z k2 k3).1 (GL z k2 k3).2 (by(refine AA ph ?_;refine AA hr.length ?_);exact hj) (by(refine AA (List.getElem?_toArray) ?_);exact hv1) ⟨AG.refl _ _ _ _,p,hv2,q⟩,"tuple",_,(hl.is).typeIs,slot_tuple_getitem.lookup⟩
theorem LM{p:Nat}(h:p<256):((UInt8.ofNat p).toNat:Int)=p:=Int.emod_eq_of_lt (pG p) (pI.mpr h)
theorem OE{l:List Nat}(h:N5 l k fun c=>Q (.int c))(hv:AJ C s.heap X (.bytes l) vv)(hi:AJ C s.heap X (.int k) vk):DO C A X s vv vk Q:=by
 (refine CQ (GK h) ?_;rintro j p hj hp q)
 induction hv with | mk o z t=>induction hi with | mk u=>
 (refine Bq (Cs hj) ?_;rintro k1 k2 k3)
 refine⟨fun E=>getItem_gives (pY s _ t) (by rfl) FB.slot_bytes_getitem FB.entry_bytes_getitem (FB.args_bytes_getitem_2 _ _) (gives_bytes_getitem _ k t u (UInt8.ofNat p) ?_ ?_) ⟨AG.toks,.int p,LM (o p (qE hp))▸.mk _,q⟩,"bytes",_,pY _ _ _,FB.slot_bytes_getitem.lookup⟩
 ·simp only [Builtin.Bytes.fitsIndex,Bool.and_eq_true,decide_eq_true_eq];exact Xw z k2 k3
 ·(refine AA (A1 ..:) ?_;refine AA hj ?_);simp [hp]
theorem Sy(h:N5 l k fun c=>Q (.str [c]))(hv:AJ C s.heap X (.str l) vv)(hi:AJ C s.heap X (.int k) vk):DO C A X s vv vk Q:=by
 (refine CQ (GK h) ?_;rintro j p hj hp q)
 induction hv with | mk z t=>induction hi with | mk u=>
 (refine Bq (Cs hj) ?_;rintro k1 k2 k3)
 refine⟨fun E=>PyProof.Rows.getItem_str ?_ ?_ ⟨AG.toks,.str [p],.mk (by exact pW _) _,q⟩,"str",_,typeIs_str _ _ _,PySem.F.slot_str_getitem.lookup⟩
 ·simp;exact Xw z k2 k3
 ·(refine AA hj ?_);simpa using hp
theorem Qp{f:Int->Option Int}(hf:f k=some p)(q:Q (.int p))(hv:AJ C s.heap X (.idict f) vv)(hi:AJ C s.heap X (.int k) vk):DO C A X s vv vk Q:=by
 induction hv with | mk a g _ hd=>induction hi with | mk u=>
 have hg:=hd.at_ k
 rw [hf] at hg
 generalize hgk:g k=o at hg
 cases hg with | some _ t=>
 exact⟨fun E=>wpAny_getItem_of (by simp [intKind,Value.isInt]) hd.m hgk ⟨AG.toks,.int p,.mk t,q⟩,"dict",_,hd.m.typeIs,slot_dict_getitem.lookup⟩
theorem Qq{a:Addr}(h:Qk ν fun p c ns t=>(a=p/\(k=0/\Q (.addr c)∨k=1/\Q (.int t)))∨(a≠p/\a=c/\ns.length<=BE/\N5 ns k fun n=>Q (.int n)))(hi:AJ C s.heap X (.int k) vi)(hp:Ah ν Y s.heap):DO C A X s (.ref a) vi Q:=by
 induction hi with | mk u=>
 refine Ap fun G kk=>?_;(refine VA (Iv h) ?_;rintro p c ns t e h2)
 subst e
 obtain ⟨_,_,_,⟨tk,h4⟩,vs,h5,h6⟩:=hp;refine kk ?_
 induction h2 with
 | inl h2=>
  induction h2.1
  induction h2.2 with
  | inl h3=>exact h3.1▸⟨fun E=>IE h4 rfl rfl (show 2<=sizeLine by decide) ⟨AG.refl _ _ _ _,.addr c,rfl,h3.2⟩,"list",_,h4.typeIs,list_getitem_lookup⟩
  | inr h3=>exact h3.1▸⟨fun E=>IE h4 rfl rfl (show 2<=sizeLine by decide) ⟨AG.refl _ _ _ _,.int t,.mk tk,h3.2⟩,"list",_,h4.typeIs,list_getitem_lookup⟩
 | inr h2=>
  refine Ap fun G kk=>?_;induction h2.2.1
  (refine CQ (GK h2.2.2.2) ?_;rintro j n hj hn q)
  (refine AI (h6.get j n hn) ?_;rintro tn hv1);refine kk ?_
  exact⟨fun E=>IE h5 (h6.length▸hj) hv1 (h6.length▸om h2.2.2.1 Bu) ⟨AG.refl _ _ _ _,.int n,.mk tn,q⟩,"list",_,h5.typeIs,list_getitem_lookup⟩
theorem Mi(h:SY ν v i Q)(hv:AJ C s.heap X v vv)(hi:AJ C s.heap X i vi)(hp:Ah ν Y s.heap):DO C A X s vv vi Q:=by
 revert hi
 apply Cj h
 intro k h hi
 cases v with
 | lst l=>exact Qo h hv hi
 | tup l=>exact Sx h hv hi
 | bytes l=>exact OE h hv hi
 | str l=>exact Sy h hv hi
 | idict f=>
  have h:(match f k with | some p=>Q (.int p) | none=>False):=h
  cases hf:f k with
  | none=>(replace h:=(hf)▸h);exact h.elim
  | some p=>(replace h:=(hf)▸h);exact Qp hf h hv hi
 | addr a=>exact(show vv=.ref a from hv)▸Qq h hi hp
 | _=>exact h.elim
noncomputable def EW:Expr->Bool
 | .Slice _ _ _ _=>false
 | _=>true
theorem Gv{K:Value->Shared->Prop}(hs:EW slice=true)(h:DO C A X s vv vi Q)(k:∀ v s' p,AG C Ax Ax s s'->AJ C s'.heap X p v->Q p->K v s'):wpAny (model C.prog C.w) A (subscriptTail value slice vv vi) K E s:=by
 obtain ⟨h,T,id,hT,hl⟩:=h
 refine tail_any (ops:=[vv,vi]) hT hl (pN (h E) (fun v s₁ zq=>(by obtain ⟨m,p,rp,q⟩:=zq;exact k v s₁ p m rp q)) fun _ _ x=>x) ?_
 cases slice<;>first | rfl | cases hs
theorem OF{lo hi:Option Expr}{K:Value->Shared->Prop}(h:DO C A X s vv vi Q)(k:∀ v s' p,AG C Ax Ax s s'->AJ C s'.heap X p v->Q p->K v s'):wpAny (model C.prog C.w) A (subscriptTail value (.Slice lo hi none pos) vv vi) K E s:=by
 obtain ⟨h,T,id,hT,hl⟩:=h
 exact tail_any hT hl (pN (h E) (fun v s₁ zq=>(by obtain ⟨m,p,rp,q⟩:=zq;exact k v s₁ p m rp q)) fun _ _ x=>x) rfl
end
section
variable{C:Al}{A:Around}{s:Shared}{X:Addr->Prop}{E:Value->Shared->Prop}{Q:PV->Prop}
theorem Vi(n:Nat)(i:Int):max 0 (min (if i<0 then i+n else i) (n:Int))=(pclip n i:Int):=(Int.toNat_of_nonneg (Int.le_max_left _ _)).symm
theorem Qr(n:Nat)(lo hi:Option Int):sliceBounds lo hi none n=((pst n lo:Int),(pen n hi:Int),1):=by
 induction lo<;>cases hi<;>(first | rfl | simp [sliceBounds,←Vi,pst,pen])
theorem Pv(xs:Array α)(lo hi:Option Int):
  (sliceRange (sliceBounds lo hi none xs.size).1 (sliceBounds lo hi none xs.size).2.1 (sliceBounds lo hi none xs.size).2.2).filterMap (xs[·]?)=pcut xs.toList lo hi:=by
 (refine AA (Qr ..:) ?_)
 (refine AA (sliceRange_one ..:) ?_;refine AA (pick_run ..:) ?_)
 rfl
theorem LN(vs:List Value)(lo hi:Option Int):slicePick vs.toArray lo hi none=(pcut vs lo hi).toArray:=by
 delta slicePick
 (refine AA (Pv ..:) ?_;rfl)
theorem AF.pcut(x:AF C h X l vs)(lo hi:Option Int):AF C h X (pcut l lo hi) (pcut vs lo hi):=by
 delta Mine.Lake.pcut
 (refine AA x.length ?_)
 exact(x.drop _).take _
theorem Mj(l:List α)(lo hi:Option Int):(pcut l lo hi).length<=l.length:=om (List.take_sublist _ _).length_le (List.drop_sublist _ _).length_le
theorem Mk(f:α->β)(l:List α)(lo hi:Option Int):pcut (l.map f) lo hi=(pcut l lo hi).map f:=by
 delta Mine.Lake.pcut
 simp [List.map_take,List.map_drop]
theorem Sz{l:List α}{lo hi:Option Int}{x:α}(h:x∈pcut l lo hi):x∈l:=by
 exact qD (List.mem_of_mem_take h)
theorem I0{K:Option Int->Prop}(h:N4 p K)(hv:AJ C s.heap X p v):∃ a,IsPart v a/\K a:=by
 cases p with
 | none=>exact⟨none,(show v=.none from hv)▸.none,h⟩
 | int i=>induction hv with | mk t=>exact⟨some i,.int _ _,h⟩
 | _=>exact h.elim
theorem Kb(b:List Nat)(lo hi:Option Int):KBy.picked (toB b) lo hi=toB (pcut b lo hi):=by
 delta KBy.picked Builtin.Bytes.sliced
 (refine AA (Pv ..:) ?_)
 (refine AA (Mk ..:) ?_;rfl)
theorem S0(h:SZ v a b Q)(hv:AJ C s.heap X v vv)(ha:AJ C s.heap X a va)(hb:AJ C s.heap X b vb)(hX:∀ a,X a->a<s.heap.objs.size){sl:Addr}(hs:s.heap.IsSliceOf sl va vb .none):DO C A X s vv (.ref sl) Q:=by
 (refine AE (I0 h ha) ?_;rintro lo pl h)
 (refine AE (I0 h hb) ?_;rintro hi pu h)
 cases v with
 | lst l=>
  induction hv with | mk z c vs _ hl hr=>
  refine⟨fun E=>?_,"list",_,hl.typeIs,list_getitem_lookup⟩
  refine wpAny_getItem_list_slice hl hs pl pu .none (by trivial) ?_ (by(refine AA ph ?_;refine AA hr.length ?_);exact z)
  (refine AA (LN ..:) ?_)
  exact⟨BX,_,Cr hX (hr.pcut lo hi) (om (Mj _ _ _) z),h⟩
 | bytes l=>
  induction hv with | mk o z t=>
  have hz:(pcut l lo hi).length<=sizeLine:=om (Mj _ _ _) z
  refine⟨fun E=>getItem_meets (pY _ _ _) (by rfl) FB.slot_bytes_getitem FB.entry_bytes_getitem (FB.args_bytes_getitem_2 _ _) (KBc.meets_slice2 _ t _ pl pu) ⟨hs,Kb l lo hi▸A1 _▸hz,fun t' k=>⟨AG.toks,.bytes (pcut l lo hi),Kb l lo hi▸.mk (fun x hx=>o x (Sz hx)) hz t',h⟩⟩,"bytes",_,pY _ _ _,FB.slot_bytes_getitem.lookup⟩
 | _=>exact h.elim
end
noncomputable def LO(c:CE):Bool:=match c with
 | .itr _ _=>false
 | .olst _=>false
 | _=>true
noncomputable def Pw(c:CE):Bool:=match c with
 | .chn _ _ _=>false
 | .inI _ _ _=>false
 | .inS _ _ _=>false
 | .bop _ _=>false
 | .not _=>false
 | _=>true
structure Ge where
 nm:List Str
 own:List Str
 sc:Scope
 gv:Str->Option PV
 hk:Stmt->Option Nat
noncomputable def EX(x:Str):List Str->Option Nat
 | []=>none
 | y::r=>if x=y then some 0 else(EX x r).map (·+1)
noncomputable def Bk{α:Type}(b:Bool)(o:Option α):Option α:=match b with | true=>o | false=>none
noncomputable def I5(o:Option CE):Option CE:=o.bind fun c=>Bk (Pw c) (some c)
noncomputable def S1(c:Const):Option PV:=match c with
 | .none=>some .none
 | .bool b=>some (.bool b)
 | .int i=>some (.int i)
 | .str s=>Bk (decide (s.cps.size<=4096)) (some (.str s.cps.toList))
 | .bytes b=>Bk (decide (b.length<=4096)) (some (.bytes (b.map UInt8.toNat)))
 | _=>none
noncomputable def isInt(p:PV):Option Int:=match p with | .int i=>some i | _=>none
noncomputable def isStr(p:PV):Option (List Nat):=match p with | .str i=>some i | _=>none
noncomputable def EY(sc:Scope)(x:Str):Bool:=x != "__classdict__" && (sc.names.lookup x==some .local||sc.names.lookup x==some .cell)
set_option genCtorIdx false in
inductive V:Expr->Type where
 | const (c:Const) (k:Nat) (p:Pos):V (.Constant c k p)
 | name (x:Str) (p:Pos):V (.Name x p)
 | bin (l:Expr) (op:Operator) (r:Expr) (p:Pos):V (.BinOp l op r p)
 | un (op:UnaryOp) (x:Expr) (p:Pos):V (.UnaryOp op x p)
 | ife (t b o:Expr) (p:Pos):V (.IfExp t b o p)
 | cmp (l:Expr) (ops:List CmpOp) (es:List Expr) (p:Pos):V (.Compare l ops es p)
 | bop (op:BoolOp) (es:List Expr) (p:Pos):V (.BoolOp op es p)
 | tup (es:List Expr) (k:Nat) (p:Pos):V (.Tuple es k p)
 | lst (es:List Expr) (p:Pos):V (.List es p)
 | dict (ks:List (Option Expr)) (vs:List Expr) (p:Pos):V (.Dict ks vs p)
 | sub (v i:Expr) (p:Pos):V (.Subscript v i p)
 | slice (lo hi st:Option Expr) (p:Pos):V (.Slice lo hi st p)
 | call (fn:Expr) (args:List Expr) (kws:List Keyword) (p:Pos):V (.Call fn args kws p)
 | comp (elt:Expr) (gens:List Comprehension) (sc:Scope) (p:Pos):V (.ListComp elt gens sc p)
 | attr (v:Expr) (a:Str) (p:Pos):V (.Attribute v a p)
 | star (v:Expr) (p:Pos):V (.Starred v p)
 | set (es:List Expr) (k:Nat) (p:Pos):V (.Set es k p)
 | other (e:Expr):V e
noncomputable def V.ctorIdx{e:Expr}(x:V e):Nat:=match x with
 | .const ..=>0
 | .name ..=>1
 | .bin ..=>2
 | .un ..=>3
 | .ife ..=>4
 | .cmp ..=>5
 | .bop ..=>6
 | .tup ..=>7
 | .lst ..=>8
 | .dict ..=>9
 | .sub ..=>10
 | .slice ..=>11
 | .call ..=>12
 | .comp ..=>13
 | .attr ..=>14
 | .star ..=>15
 | .set ..=>16
 | .other ..=>17
noncomputable def view(e:Expr):V e:=match e with
 | .Constant c k p=>.const c k p
 | .Name x p=>.name x p
 | .BinOp l op r p=>.bin l op r p
 | .UnaryOp op x p=>.un op x p
 | .IfExp t b o p=>.ife t b o p
 | .Compare l ops es p=>.cmp l ops es p
 | .BoolOp op es p=>.bop op es p
 | .Tuple es k p=>.tup es k p
 | .List es p=>.lst es p
 | .Dict ks vs p=>.dict ks vs p
 | .Subscript v i p=>.sub v i p
 | .Slice lo hi st p=>.slice lo hi st p
 | .Call fn args kws p=>.call fn args kws p
 | .ListComp elt gens sc p=>.comp elt gens sc p
 | .Attribute v a p=>.attr v a p
 | .Starred v p=>.star v p
 | .Set es k p=>.set es k p
 | e=>.other e
noncomputable def noStar(e:Expr):Bool:=match e,view e with
 | _,.star _ _=>false
 | _,_=>true
noncomputable def I6(e:Expr):Bool:=match e,view e with
 | _,.set _ _ _=>false
 | _,_=>true
noncomputable def asName(e:Expr):Option Str:=match e,view e with
 | _,.name x _=>some x
 | _,_=>none
noncomputable def Cb(e:Expr):Bool:=match e,view e with
 | _,.call f _ _ _=>(match asName f with | some x=>!(x == "super") | none=>true)
 | _,_=>true
noncomputable def Vj(m:MN):String:=match m with
 | .join => "join" | .split => "split" | .upper => "upper" | .find => "find" | .strip => "strip" | .lstrip => "lstrip" | .rstrip => "rstrip" | .replace => "replace" | .isalnum => "isalnum" | .get => "get"
noncomputable def XQ(n:Str):Option MN:=[MN.join,.split,.upper,.find,.strip,.lstrip,.rstrip,.replace,.isalnum,.get].find? fun m=>Str.ofString (Vj m)==n
noncomputable def Vk(k:BI):String:=match k with
 | .len => "len" | .chr => "chr" | .ord => "ord" | .abs => "abs" | .max => "max" | .sum => "sum" | .int => "int" | .bytes => "bytes" | .list => "list"
noncomputable def Vl(k:BI):Bool:=match k with
 | .int=>true | .bytes=>true | .list=>true | _=>false
noncomputable def XR:List BI:=[.len,.chr,.ord,.abs,.max,.sum,.int,.bytes,.list]
noncomputable def S2(p:PV):Option BI:=match p with
 | .bi n=>XR.find? fun k=>!Vl k&&Vk k==n
 | .ty n=>XR.find? fun k=>Vl k&&Vk k==n
 | _=>none
noncomputable def YL(k:IK):String:=match k with
 | .range => "range" | .zip => "zip" | .enum => "enumerate"
noncomputable def XS(p:PV):Option IK:=match p with
 | .ty n=>[IK.range,.zip,.enum].find? fun k=>YL k==n
 | _=>none
noncomputable def Ay{α β:Type}(f:α->Option β):List α->Option (List β)
 | []=>some []
 | a::r=>(f a).bind fun b=>(Ay f r).map (b::·)
section
variable(Γ:Ge)
noncomputable def glob(x:Str):Option PV:=Bk ((EX x Γ.nm).isNone&&Γ.sc.names.lookup x==some .globalImplicit) (Γ.gv x)
noncomputable def S3(x:Str):Option CE:=match EX x Γ.nm with
 | some i=>Bk (!(x == "__debug__")) (some (.lo i))
 | none=>(glob Γ x).map .kv
variable(f:Expr->Option CE)
noncomputable def jp(y:Bool)(a:CE)(e:Expr)(other:Option CE):Option CE:=match asName e with
 | some x=>(match glob Γ x with
  | some (.tup l)=>(match Ay isInt l with
   | some ns=>some (.inI y a ns)
   | none=>(match Ay isStr l with
    | some xs=>some (.inS y a xs)
    | none=>other))
  | _=>other)
 | none=>other
noncomputable def YM(a:CE)(ops:List CmpOp)(es:List Expr):Option CE:=
 let other:=Bk (es.all I6&&ops.length==es.length) ((Ay f es).map (.chn a ops))
 match ops with
 | op::ops=>(match ops with
  | []=>(match es with
   | e::es=>(match es with
    | []=>(match op with
     | .In=>jp Γ true a e other
     | .NotIn=>jp Γ false a e other
     | _=>other)
    | _::_=>other)
   | []=>other)
  | _::_=>other)
 | []=>none
noncomputable def Ml(o:Option Expr):Option CE:=match o with
 | none=>some (.kv .none)
 | some e=>f e
noncomputable def YN(v i:Expr):Option CE:=match i,view i with
 | _,.slice lo hi st _=>Bk st.isNone ((f v).bind fun a=>(Ml f lo).bind fun b=>(Ml f hi).map fun c=>.slice a b c)
 | i,_=>(match (asName v).bind fun x=>(EX x Γ.nm).map fun j=>(x,j) with
  | some (x,j)=>Bk (!(x == "__debug__")) ((f i).map (.itl j))
  | none=>(f v).bind fun a=>(f i).map (.item a))
noncomputable def S5(p:PV)(es:List CE):Option CE:=match p with
 | .fn n=>some (.call n es)
 | .kls n=>some (.call n es)
 | p=>(S2 p).map fun k=>.bi k es
noncomputable def XT(fn:Expr)(args:List Expr)(pos:Pos):Option CE:=Bk (args.all noStar) ((Ay f args).bind fun es=>match fn,view fn with
 | _,.name x _=>(glob Γ x).bind fun p=>S5 p es
 | _,.attr o n ap=>Bk (Cb o&&ap.endLine==pos.line&&decide (args.length<20)) ((f o).bind fun a=>
   if n = "word" then(match args with | []=>some (.word a) | _::_=>none) else(XQ n).map fun m=>.meth m a es)
 | _,_=>none)
noncomputable def I7(e:Expr):Option CE:=match e,view e with
 | _,.call fn args kws p=>(match ((asName fn).bind (glob Γ)).bind XS with
  | some k=>Bk (kws.isEmpty&&args.all noStar) ((Ay f args).map (.itr k))
  | none=>f (.Call fn args kws p))
 | _,.set _ _ _=>none
 | e,_=>f e
noncomputable def B3(scope:Scope):List (Str×NameKind):=scope.names.filter fun x=>x.2==.local||x.2==.free
noncomputable def caps(Γ:Ge)(l:List (Str×NameKind)):List (Option Nat):=l.map fun x=>match x.2==.free with | true=>EX x.1 Γ.nm | false=>none
end
noncomputable def namesOk(sc scope:Scope):Bool:=scope.kind==.function&&scope.names.all fun x=>(x.2 != .cell)&&(scope.names.lookup x.1==some x.2)&&(x.1 != "__classdict__")&&((x.2 != .free)||(sc.names.lookup x.1==some .cell))
noncomputable def I8(Γ:Ge)(scope:Scope):Ge:={ Γ with nm:=(B3 scope).map (·.1),own:=[],sc:=scope }
noncomputable def Mm(f:Ge->Expr->Option CE)(Γ:Ge)(e:Expr):Option CE:=match e,view e with
 | _,.name x _=>Bk (EY Γ.sc x&&!(x∈Γ.own)) ((EX x Γ.nm).map .lo)
 | _,.tup es _ _=>Bk (es.all noStar) ((Ay (f Γ) es).map .tup)
 | _,_=>none
noncomputable def Gw:Nat->Ge->Expr->Option CE
 | 0=>fun _ _=>none
 | n+1=>Mm (Gw n)
noncomputable def Gx:List Str->Bool
 | []=>true
 | x::r=>(EX x r).isNone&&Gx r
noncomputable def Hc(n:Nat)(Γ:Ge)(fe ft:Ge->Expr->Option CE)(elt:Expr)(gens:List Comprehension)(scope:Scope):Option CE:=match gens with
 | g::r=>(match r with
  | []=>(match g with
   | ⟨tgt,it,ifs,a⟩=>Bk (a==0&&(namesOk Γ.sc scope&&(Gx ((B3 scope).map (·.1))&&(B3 scope).all fun x=>x.2==.local||(EX x.1 Γ.nm).isSome))) ((I7 Γ (fe Γ) it).bind fun ci=>(Gw n (I8 Γ scope) tgt).bind fun ct=>(fe (I8 Γ scope) elt).bind fun ce=>
     (Ay (ft (I8 Γ scope)) ifs).map fun cs=>.comp ct ci ce cs (caps Γ (B3 scope))))
  | _::_=>none)
 | []=>none
section
variable(n:Nat)(fe ft:Ge->Expr->Option CE)(Γ:Ge)
noncomputable def cC(ks:List (Option Expr))(vs:List Expr):Option CE:=match ks with
 | k::ks=>(match ks with
  | []=>k.bind fun k=>(match vs with
   | v::vs=>(match vs with
    | []=>(fe Γ k).bind fun a=>(fe Γ v).map fun b=>.dic a b
    | _::_=>none)
   | []=>none)
  | _::_=>none)
 | []=>none
noncomputable def GM(e:Expr):Option CE:=match e,view e with
 | _,.const c _ _=>(S1 c).map .kv
 | _,.name x _=>S3 Γ x
 | _,.bin l op r _=>(fe Γ l).bind fun a=>(fe Γ r).map fun b=>.bin op a b
 | _,.un op x _=>Bk (op==.USub) ((fe Γ x).map .neg)
 | _,.ife t b o _=>(ft Γ t).bind fun t=>(fe Γ b).bind fun b=>(fe Γ o).map fun o=>.ife t b o
 | _,.cmp l ops es _=>(fe Γ l).bind fun a=>YM Γ (fe Γ) a ops es
 | _,.bop op es _=>(Ay (fe Γ) es).map (.bop (op==.And))
 | _,.tup es _ _=>(Ay (fe Γ) es).map .tup
 | _,.lst es _=>(Ay (fe Γ) es).map .lst
 | _,.dict ks vs _=>cC fe Γ ks vs
 | _,.sub v i _=>YN Γ (fe Γ) v i
 | _,.call fn args kws pos=>Bk kws.isEmpty (XT Γ (fe Γ) fn args pos)
 | _,.comp elt gens scope _=>Hc n Γ fe ft elt gens scope
 | _,.attr v a _=>Bk (Cb v&&(Γ.gv "Field").isSome) ((fe Γ v).bind fun c=>if a = "raw" then some (.raw c) else if a = "name" then some (.nam c) else none)
 | _,_=>none
noncomputable def S6(e:Expr):Option CE:=match e,view e with
 | _,.cmp l ops es _=>(fe Γ l).bind fun a=>YM Γ (fe Γ) a ops es
 | _,.bop op es _=>(Ay (ft Γ) es).map (.bop (op==.And))
 | _,.un op x _=>Bk (op==.Not) ((ft Γ x).map .not)
 | _,.name x p=>I5 (GM n fe ft Γ (.Name x p))
 | _,.const c k p=>I5 (GM n fe ft Γ (.Constant c k p))
 | _,.call g a k p=>I5 (GM n fe ft Γ (.Call g a k p))
 | _,_=>none
noncomputable def XU(e:Expr):Option CE:=(GM n fe ft Γ e).bind fun c=>Bk (noStar e&&LO c) (some c)
end
noncomputable def Bb:Nat->(Ge->Expr->Option CE)×(Ge->Expr->Option CE)
 | 0=>(fun _ _=>none,fun _ _=>none)
 | n+1=>(XU n (Bb n).1 (Bb n).2,S6 n (Bb n).1 (Bb n).2)
section
variable(n:Nat)(fe ft:Expr->Option CE)(fs:List Stmt->Option (List CS))(Γ:Ge)
noncomputable def OG(v:Expr):Option CE:=match v,view v with
 | _,.lst es _=>(Ay fe es).map .olst
 | _,_=>none
noncomputable def Vm(x:Str)(v:Expr):Option CE:=match decide (x∈Γ.own) with
 | true=>OG fe v
 | false=>fe v
noncomputable def I9(sc:Scope)(x:Str)(px:Pos)(v:Expr)(scope:Scope):Bool:=(sc.names.lookup x==some .local)&&(px.line==v.pos.line)&&!(scope.names.any fun(n,k)=>n==x&&(k==.local||k==.cell))
noncomputable def LP(x:Str)(px:Pos)(v:Expr):Bool:=match v,view v with
 | _,.comp elt gens scope p=>!(decide (x∈Γ.own))&&I9 Γ.sc x px (.ListComp elt gens scope p) scope
 | _,.other _=>false
 | _,_=>EY Γ.sc x
noncomputable def E4(sc:Scope)(line:Nat):List Expr->Option (List Str)
 | []=>some []
 | e::r=>(asName e).bind fun x=>Bk (sc.names.lookup x==some .local&&e.pos.line==line) ((E4 sc line r).map (x::·))
noncomputable def Mn(sc:Scope)(ts vs:List Expr):Option (List Str×Bool):=(E4 sc ((ts.head?.map (·.pos.line)).getD 0) ts).bind fun names=>
 Bk ((ts.length==2||ts.length==3)&&vs.length==ts.length&&vs.all noStar&&names.eraseDups.length==names.length)
  (if vs.all (foldedForSure 8) then some (names,false) else if vs.all (constantsAlone 8) then none else some (names,true))
noncomputable def vals:List Str->List Expr->Option (List CE)
 | x::xs,v::vs=>(Vm fe Γ x v).bind fun a=>(vals xs vs).map (a::·)
 | [],_=>some []
 | _::_,[]=>none
noncomputable def kc(es vs:List Expr):Option CS:=(Mn Γ.sc es vs).bind fun nr=>(vals fe Γ nr.1 vs).bind fun l=>(Ay (EX · Γ.nm) (match nr.2 with | true=>nr.1.reverse | false=>nr.1)).map fun is=>.dsp nr.2 is l
noncomputable def Fn(e:Expr):Bool:=match e,view e with
 | _,.comp _ _ _ _=>true
 | _,.other _=>true
 | _,_=>false
noncomputable def YO(t v:Expr):Option CS:=match v,view v with
 | _,.tup vs _ _=>(match t,view t with
  | _,.tup es _ _=>kc fe Γ es vs
  | _,_=>none)
 | v,_=>Bk (!Fn v) ((Gw n Γ t).bind fun c=>(fe v).map (.unp c))
noncomputable def YQ(t v:Expr):Option CS:=match t,view t with
 | _,.name x px=>Bk (LP Γ x px v) ((EX x Γ.nm).bind fun i=>(Vm fe Γ x v).map (.asg i))
 | _,.tup es k p=>YO n fe Γ (.Tuple es k p) v
 | _,_=>none
noncomputable def appendOf(e:Expr):Option (Str×Pos×Pos×Expr×Pos):=match e,view e with
 | _,.call f args kws p=>(match f,view f with
  | _,.attr o n ap=>(match o,view o with
   | _,.name x px=>(match args with
    | a::r=>Bk (n == "append" && r.isEmpty&&kws.isEmpty) (some (x,px,ap,a,p))
    | []=>none)
   | _,_=>none)
  | _,_=>none)
 | _,_=>none
noncomputable def S7(e:Expr):Option CS:=match appendOf e with
 | some (x,_,ap,a,p)=>Bk (!(x == "__debug__")&&ap.endLine==p.line) ((EX x Γ.nm).bind fun i=>(fe a).map (.app i))
 | none=>(match e,view e with
  | _,.call g a k p=>(fe (.Call g a k p)).map .exp
  | _,_=>none)
noncomputable def Fp(st:Stmt):Option CS:=match Γ.hk st with
 | some k=>some (.sp k)
 | none=>(match st with
  | .Assign ts v _=>(match ts with
   | t::ts=>(match ts with
    | []=>YQ n fe Γ t v
    | _::_=>none)
   | []=>none)
  | .Expr e _=>S7 fe Γ e
  | .If t b o _=>(ft t).bind fun t=>(fs b).bind fun b=>(fs o).map fun o=>.ite t b o
  | .While t b o _=>Bk o.isEmpty ((ft t).bind fun t=>(fs b).map fun b=>.whl t b)
  | .For tgt it b o _=>Bk o.isEmpty ((I7 Γ fe it).bind fun i=>(Gw n Γ tgt).bind fun t=>(fs b).map fun b=>.for_ t i b)
  | .Return e _=>(match e with | some e=>(fe e).map .ret | none=>some (.ret (.kv .none)))
  | .Break _=>some .brk
  | _=>none)
end
noncomputable def FU:Nat->Ge->List Stmt->Option (List CS)
 | 0,_,_=>none
 | n+1,Γ,b=>Ay (Fp n ((Bb n).1 Γ) ((Bb n).2 Γ) (FU n Γ) Γ) b
noncomputable def ke(C:Al)(f:Str):Prop:=∀ a,C.mg f=some (.ref a)->∃ o fd,C.base.get? a=some o/\o.data=.func fd
structure EE(C:Al)(gv:Str->Option PV):Prop where
 g:C.base.Ns mainGlobals C.mg
 b:C.base.Ns builtinsNs C.mb
 nolimit:C.base.NoLimit
 mods:∃ o,C.base.get? sysModules=some o
 gl:∀ x p,gv x=some p->(x==("__debug__" : Str))=false/\∃ v,(C.mg x=some v∨(C.mg x=none/\C.mb x=some v))/\AJ C C.base Ax p v
noncomputable def cF(sc:Scope)(cx:Cx):Prop:=∀ x k,sc.names.lookup x=some k->k≠.free->cx.env.kindOf x=some k/\(k=.cell->cx.oc x=true/\∃ c,cx.env.cells.lookup x=some c)
inductive YR(C:Al)(fr:List Env)(X:Addr->Prop)(ν:Pu)(K:PV->Pu->Prop)(s:Shared)(v:Value)(s':Shared):Prop where
 | mk (p:PV) (ν':Pu) (m:AG C (inP ν) (inF fr) s s') (u:Ah ν' X s'.heap) (e:pa ν'=pa ν) (r:AJ C s'.heap X p v) (q:K p ν'):YR C fr X ν K s v s'
noncomputable def AK(C:Al)(hn:Bool)(d:Nat)(f:Str)(l:List PV)(ν:Pu)(K:PV->Pu->Prop):Prop:=
 ∀ (A:Around) (fr:List Env) (X:Addr->Prop) (s:Shared) (vs:List Value) (E:Value->Shared->Prop) (a:Addr),
  A.frames=some fr->B2 A (inP ν) s.heap->(hn=true->A.handled=none)->A.depth+d<recursionLimit->A.units+10*d+10<cLine->
  C.base.StaysIn s.heap->Jx C.base fr s.heap->(∀ b,inF fr b->X b)->Ah ν X s.heap->(∀ b∈pa ν,C.base.get? b=none)->(∀ a,X a->(∃ o,s.heap.get? a=some o)/\C.base.get? a=none)->
  AF C s.heap X l vs->bX C f a->
  wpAny (model C.prog C.w) A (call (.ref a) vs) (YR C fr X ν K s) E s
structure AY(C:Al)(hn:Bool)(d:Nat)(cx:Cx):Prop where
 c:cx.C=C
 hn:cx.hn=hn
 d:cx.d=d
structure AU(gv:Str->Option PV)(Γ:Ge)(cx:Cx):Prop where
 nm:cx.nm=Γ.nm
 sc:cF Γ.sc cx
 gv:Γ.gv=gv
structure AO(C:Al)(hn:Bool)(d:Nat)(gv:Str->Option PV)(fe ft:Ge->Expr->Option CE)(S:CY):Prop where
 e:∀ cx,AY C hn d cx->∀ Γ,AU gv Γ cx->∀ e c,fe Γ e=some c->∀ σ K,S.e c σ K->Ev cx (eval e cx.env) σ K
 t:∀ cx,AY C hn d cx->∀ Γ,AU gv Γ cx->∀ e c,ft Γ e=some c->∀ σ K,S.t c σ K->R6 cx (isTrue e cx.env (eval e cx.env)) σ K
 star:∀ Γ e c,fe Γ e=some c->noStar e=true
 row:∀ Γ e c,fe Γ e=some c->LO c=true
section
variable{C:Al}{hn:Bool}{d:Nat}{gv:Str->Option PV}{fe ft:Ge->Expr->Option CE}{S:CY}{cx:Cx}{Γ:Ge}{σ:St}{A:Around}{O:Ow}{s:Shared}{E:Value->Shared->Prop}
theorem Ev.seq(h:Ev cx m σ Q)(ha:EC cx A)(r:R cx O σ s){K:Value->Shared->Prop}(k:∀ v s₁ O₁ σ1 p,Aw cx O σ s O₁ σ1 s₁->AJ cx.C s₁.heap (Ex cx O₁) p v->Q p σ1->K v s₁):wpAny (model cx.C.prog cx.C.w) A m K E s:=
 pN (h A ha O s E r) (fun v s₁ zq=>(by obtain ⟨O₁,σ1,p₁,p,rp,q⟩:=zq;exact k v s₁ O₁ σ1 p p₁ rp q)) fun _ _ x=>x
theorem j9.seq(h:j9 cx m σ Q)(ha:EC cx A)(r:R cx O σ s){K:List Value->Shared->Prop}(k:∀ v s₁ O₁ σ1 p,Aw cx O σ s O₁ σ1 s₁->AF cx.C s₁.heap (Ex cx O₁) p v->Q p σ1->K v s₁):wpAny (model cx.C.prog cx.C.w) A m K E s:=
 pN (h A ha O s E r) (fun v s₁ zq=>(by obtain ⟨O₁,σ1,p₁,p,rp,q⟩:=zq;exact k v s₁ O₁ σ1 p p₁ rp q)) fun _ _ x=>x
theorem R6.seq(h:R6 cx m σ Q)(ha:EC cx A)(r:R cx O σ s){K:Bool->Shared->Prop}(k:∀ b s₁ O₁ σ1,Aw cx O σ s O₁ σ1 s₁->Q b σ1->K b s₁):wpAny (model cx.C.prog cx.C.w) A m K E s:=
 pN (h A ha O s E r) (fun v s₁ zq=>(by obtain ⟨O₁,σ1,p₁,q⟩:=zq;exact k v s₁ O₁ σ1 p₁ q)) fun _ _ x=>x
theorem R0.seq(h:R0 C A X m s Q){K:Value->Shared->Prop}(k:∀ v s' p,AG C Ax Ax s s'->AJ C s'.heap X p v->Q p->K v s'):wpAny (model C.prog C.w) A m K E s:=
 pN (h E) (fun v s₁ zq=>(by obtain ⟨m,p,rp,q⟩:=zq;exact k v s₁ p m rp q)) fun _ _ x=>x
theorem Ps.seq(h:Ps C A m s Q){K:Value->Shared->Prop}(k:∀ s' b,AG C Ax Ax s s'->Q b->K (.bool b) s'):wpAny (model C.prog C.w) A m K E s:=
 pN (h E) (fun v s₁ zq=>(by obtain ⟨m,b,e,q⟩:=zq;exact by subst e;exact k s₁ b m q)) fun _ _ x=>x
theorem Aw.op(x:Aw cx O σ s O' σ' s')(m:AG cx.C Ax Ax s' s''):Aw cx O σ s O' σ' s'':=x.move (m.mono (fun _ q=>q) fun _ q=>q.elim)
theorem Gf.mk(x:Aw cx O σ s O' σ' s')(rp:AJ cx.C s'.heap (Ex cx O') p v)(q:Q p σ'):
  Jy cx O σ s (Gf cx Q) v s':=⟨O',σ',x,p,rp,q⟩
theorem AN{α β:Type}{o:Option α}{f:α->Option β}{b:β}(h:o.bind f=some b):∃ a,o=some a/\f a=some b:=Option.bind_eq_some_iff.mp h
theorem Ad{α β:Type}{o:Option α}{f:α->β}{b:β}(h:o.map f=some b):∃ a,o=some a/\f a=b:=qN.mp h
theorem A2{o:Option α}{a:α}(h:Bk b o=some a):b=true/\o=some a:=by
 induction b with
 | true=>exact⟨rfl,h⟩
 | false=>exact nS h
noncomputable def Hd{α:Type}(o:Option α)(P:α->Prop):Prop:=match o with | some a=>P a | none=>True
theorem Hd.of{o:Option α}{P:α->Prop}{a:α}(h:Hd o P)(e:o=some a):P a:=by subst e;exact h
theorem Kc{o:Option α}{P:α->Prop}(h:∀ a,o=some a->P a):Hd o P:=by induction o with
 | none=>trivial
 | some a=>exact h a rfl
theorem Ao{α β:Type}{o:Option α}{f:α->Option β}{P:β->Prop}(h:∀ a,o=some a->Hd (f a) P):Hd (o.bind f) P:=by induction o with
 | none=>trivial
 | some a=>exact h a rfl
theorem BF{α β:Type}{o:Option α}{f:α->β}{P:β->Prop}(h:∀ a,o=some a->P (f a)):Hd (o.map f) P:=by induction o with
 | none=>trivial
 | some a=>exact h a rfl
theorem Ds{o:Option α}{P:α->Prop}(h:b=true->Hd o P):Hd (Bk b o) P:=by induction b with
 | false=>trivial
 | true=>exact h rfl
theorem AR{e:Expr}(h:noStar e=true):starEach (e::rest) env=(false,eval e env)::starEach rest env:=by
 cases e<;>first | rfl | cases h
theorem Mo(H:AO C hn d gv fe ft S)(F:AY C hn d cx)(g:AU gv Γ cx):∀ (es:List Expr) (cs:List CE) (σ:St) (K:KL),Ay (fe Γ) es=some cs->cL S cs σ K->j9 cx (spliced (backTo pos (starEach es cx.env))) σ K:=by
 intro rx
 induction rx with
 | nil=>
  exact fun _ σ K hc h=>fun A ha O s E r=>by
   (refine sI hc ?_;clear hc;intro zz;induction zz)
   exact wpAny_items_nil ⟨O,σ,Aw.refl r,[],rfl,h⟩
 | cons e es ih=>
  exact fun _ σ K hc h=>fun A ha O s E r=>by
   (refine AE (AN hc) ?_;rintro c h1 h0)
   (refine AE (Ad h0) ?_;rintro cs h2 h3)
   induction h3
   exact qK ((H.e cx F Γ g e c h1 σ _ h).seq ha r fun v s₁ O₁ σ1 a p₁ ra q₁=>(ih cs σ1 _ h2 q₁).seq ha p₁.r fun vs s₂ O₂ σ2 b p₂ rb q₂=>
    ⟨O₂,σ2,p₁.trans p₂,a::b,⟨v,vs,p₂.rep ra,rb⟩,q₂⟩) (AR (H.star _ _ _ h1))
theorem CB(hk:env.scope.kind=.function)(hl:Look env s.heap x v)(hd:(x==("__debug__" : Str))=false)(h:Q v s):
  wpAny M A (eval (.Name x pos) env) Q E s:=by
 refine wpAny_Name ?_ hd
 rcases hl with ⟨k,m,n,e⟩ | ⟨k,nc,c,e,f⟩
 ·exact wpAny_loadName_local hk k n e h
 ·rcases k with k | k
  ·exact wpAny_loadName_cell hk k e f h
  ·exact wpAny_loadName_free hk k e f h (by simpa using nc)
theorem OH(x:Str):toS x.cps.toList=x:=by rfl
theorem Qs(x:List UInt8):toB (x.map UInt8.toNat)=x.toArray:=by
 simp [toB,Function.comp_def]
theorem S8{K:KE}(h:S1 c=some p)(q:K p σ):Ev cx (eval (.Constant c k pos) cx.env) σ K:=fun A ha O s E r=>by
 have line:4096<=sizeLine:=by decide
 induction c with
 | none=>(refine sI h ?_;intro zz;induction zz);exact wpAny_Constant_none ⟨O,σ,.refl r,.none,rfl,q⟩
 | bool b=>(refine sI h ?_;clear h;intro zz;induction zz);exact wpAny_Constant_bool ⟨O,σ,.refl r,.bool b,rfl,q⟩
 | int i=>(refine sI h ?_;clear h;intro zz;induction zz);exact wpAny_Constant_int ⟨O,σ,(Aw.refl r).op AG.toks,.int i,.mk _,q⟩
 | str x=>
  (refine AM (A2 h) ?_;rintro hz h)
  (refine sI h ?_;clear h;intro zz;induction zz)
  refine wpAny_Constant_str ⟨O,σ,(Aw.refl r).op AG.toks,.str x.cps.toList,?_,q⟩
  have m:=ML.mk (om (of_decide_eq_true hz) line)
  exact m _
 | bytes x=>
  (refine AM (A2 h) ?_;rintro hz h)
  (refine sI h ?_;clear h;intro zz;induction zz)
  refine PySem.W.Constant_bytes ⟨O,σ,(Aw.refl r).op AG.toks,.bytes (x.map UInt8.toNat),Qs x▸.mk (fun y hy=>?_) ?_ _,q⟩
  ·(refine AE (qL.mp hy) ?_;rintro z _ rfl)
   exact z.toNat_lt
  ·(refine AA (pK ..:) ?_);exact om (of_decide_eq_true hz) line
 | _=>exact nS h
theorem D6:∀ {l:List Str} {i:Nat},EX x l=some i->l[i]?=some x
 | [],_,h=>(nS h)
 | y::r,i,h=>by
  unfold EX at h
  split at h
  ·rename_i e;(refine sI h ?_;clear h;intro zz;induction zz);exact congrArg some e.symm
  ·(refine AE (Ad h) ?_;rintro j h1 h2)
   subst h2
   exact D6 (l:=r) h1
theorem Mp:∀ {vs:List Slot} {i:Nat} {K:Slot->Prop},X6 vs i K->∃ s,vs[i]?=some s/\K s
 | [],_,_,h=>h.elim
 | x::_,0,_,h=>⟨x,rfl,h⟩
 | _::r,i+1,_,h=>Mp (vs:=r) h
theorem Mq:∀ {vs:List Slot} {i:Nat} {s:Slot} {K:List Slot->Prop},Sb vs i s K->K (vs.set i s)
 | [],_,_,_,h=>h.elim
 | _::_,0,_,_,h=>h
 | _::r,i+1,s,_,h=>Mq (vs:=r) h
theorem EZ{K:Slot->Prop}(h:J1 σ i K):∃ s,σ.get i=some s/\K s:=Mp h
theorem B5{s:Slot}{K:St->Prop}(h:Hq σ i s K):K (σ.set i s):=Mq h
theorem BG(g:AU gv Γ cx)(hi:EX x Γ.nm=some i)(hk:cx.env.scope.kind=.function)(hl:DZ cx s.heap i v)(hd:(!(x==("__debug__" : Str)))=true)(h:Q v s):
  wpAny M A (eval (.Name x pos) cx.env) Q E s:=by
 refine Ap fun G kk=>?_;(refine AE hl ?_;rintro y h1 h2)
 (replace h1:=(g.nm)▸h1;replace h1:=(D6 hi)▸h1)
 (refine sI h1 ?_;clear h1;intro zz;induction zz);refine kk ?_
 exact CB hk h2 (Bool.not_eq_true' _▸hd) h
theorem IG(G:EE C gv)(F:AY C hn d cx)(g:AU gv Γ cx){K:KE}(h:glob Γ x=some p)(q:K p σ):Ev cx (eval (.Name x pos) cx.env) σ K:=fun A ha O s E r=>by
 refine Ap fun G kk=>?_;(refine AM (A2 h) ?_;rintro hb h)
 rw [Bool.and_eq_true,beq_iff_eq] at hb
 (replace h:=(g.gv)▸h)
 obtain ⟨rfl,_,_⟩:=F
 obtain ⟨hd,v,hv,rp⟩:=G.gl x p h;refine kk ?_
 have fin:Jy cx O σ s (Gf cx K) v s:=⟨O,σ,.refl r,p,AJ.base r.stays r.exBase p v rp,q⟩
 have gns:s.heap.Ns cx.env.globals cx.C.mg:=by(refine AA r.env.glob ?_);exact G.g.at' fun o e=>r.stays _ o e
 refine Calls.Name_function_global r.env.kind (g.sc x _ hb.2 (by decide)).1 ?_ hd
 rcases hv with hv | ⟨hm,hv⟩
 ·exact Calls.loadGlobal_global gns hv fin
 ·exact Calls.loadGlobal_builtin gns hm (by(refine AA r.env.bu ?_);exact G.b.at' fun o e=>r.stays _ o e) hv fin
set_option tactic.hygienic true in
theorem Vn(G:EE C gv)(F:AY C hn d cx)(g:AU gv Γ cx){K:KE}(hc:S3 Γ x=some c)(h:cE Gm hn S c σ K):Ev cx (eval (.Name x pos) cx.env) σ K:=fun A ha O s E r=>by
 delta S3 at hc
 split at hc
 ·rename_i i hi
  refine Ap fun G kk=>?_;(refine AM (A2 hc) ?_;rintro hd hc)
  (refine sI hc ?_;clear hc;intro zz;induction zz)
  (refine AE (EZ h) ?_;rintro sl e h);refine kk ?_
  induction sl with
  | un=>exact h.elim
  | fr p=>
   (refine AE (r.fr i p e) ?_;rintro v hl rp)
   exact BG g hi r.env.kind hl hd ⟨O,σ,.refl r,p,rp,h⟩
  | ow l=>
   (refine AE ((r.post_freeze e).r.fr i (.lst l) (St.set_get e)) ?_;rintro v hl rp)
   exact BG g hi r.env.kind hl hd ⟨_,_,(r.post_freeze e),_,rp,B5 h⟩
 ·(refine AE (Ad hc) ?_;rintro p h1 h2)
  induction h2
  exact IG G F g h1 h A ha O s E r
theorem S9(H:AO C hn d gv fe ft S)(F:AY C hn d cx)(g:AU gv Γ cx){K:KE}(h1:fe Γ l=some a)(h2:fe Γ r'=some b)(h:S.e a σ (bj S op b K)):Ev cx (eval (.BinOp l op r' pos) cx.env) σ K:=fun A ha O s E r=>
 wpAny_BinOp ((H.e cx F Γ g l a h1 σ _ h).seq ha r fun _ _ _ _ _ p₁ ra q₁=>(H.e cx F Γ g r' b h2 _ _ q₁).seq ha p₁.r fun _ _ _ _ _ p₂ rb q₂=>
  (YE q₂ p₂.r.exLt _ _ (p₂.rep ra) rb).seq fun _ _ _ m rp q=>Gf.mk ((p₁.trans p₂).op m) rp q)
theorem TA(H:AO C hn d gv fe ft S)(F:AY C hn d cx)(g:AU gv Γ cx){K:KE}(h1:fe Γ x=some a)(h:S.e a σ (bk K)):Ev cx (eval (.UnaryOp .USub x pos) cx.env) σ K:=fun A ha O s E r=>
 wpAny_UnaryOp ((H.e cx F Γ g x a h1 σ _ h).seq ha r fun _ _ _ _ _ p₁ ra q₁=>(YF q₁ ra).seq fun _ _ _ m rp q=>Gf.mk (p₁.op m) rp q)
theorem TB(H:AO C hn d gv fe ft S)(F:AY C hn d cx)(g:AU gv Γ cx){t b o:Expr}{K:KE}(h1:ft Γ t=some ct)(h2:fe Γ b=some cb)(h3:fe Γ o=some co)(h:S.t ct σ (mV S cb co K)):Ev cx (eval (.IfExp t b o pos) cx.env) σ K:=fun A ha O s E r=>by
 refine wpAny_IfExp ((H.t cx F Γ g t ct h1 σ _ h).seq ha r fun c s₁ O₁ σ1 p₁ q₁=>?_)
 induction c with
 | true=>exact(H.e cx F Γ g b cb h2 σ1 _ (q₁.t rfl)).seq ha p₁.r fun _ _ _ _ _ p₂ rp q=>Gf.mk (p₁.trans p₂) rp q
 | false=>exact(H.e cx F Γ g o co h3 σ1 _ (q₁.f rfl)).seq ha p₁.r fun _ _ _ _ _ p₂ rp q=>Gf.mk (p₁.trans p₂) rp q
theorem E5:16<=sizeLine:=by decide
theorem Mr(H:AO C hn d gv fe ft S)(F:AY C hn d cx)(g:AU gv Γ cx){K:KE}(h1:Ay (fe Γ) es=some cs)(h:cL S cs σ (VW K)):Ev cx (eval (.Tuple es k pos) cx.env) σ K:=fun A ha O s E r=>
 wpAny_Tuple ((Mo H F g es cs σ _ h1 h).seq ha r fun vs s₁ O₁ σ1 ps p₁ ra q₁=>
  have hz:=om q₁.1 E5
  ⟨by(refine AA ra.length ?_);exact hz,Gf.mk (p₁.op (BX)) (LG p₁.r.exLt ra hz) q₁.2⟩)
theorem Vo(H:AO C hn d gv fe ft S)(F:AY C hn d cx)(g:AU gv Γ cx){K:KE}(h1:Ay (fe Γ) es=some cs)(h:cL S cs σ (br K)):Ev cx (eval (.List es pos) cx.env) σ K:=fun A ha O s E r=>
 wpAny_List ((Mo H F g es cs σ _ h1 h).seq ha r fun vs s₁ O₁ σ1 ps p₁ ra q₁=>
  have hz:=om q₁.1 E5
  ⟨by(refine AA ra.length ?_);exact hz,Gf.mk (p₁.op (BX)) (Cr p₁.r.exLt ra hz) q₁.2⟩)
end
section
variable{C:Al}{hn:Bool}{d:Nat}{gv:Str->Option PV}{fe ft:Ge->Expr->Option CE}{S:CY}{cx:Cx}{Γ:Ge}{σ:St}{A:Around}{O:Ow}{s:Shared}{E:Value->Shared->Prop}
theorem TC{e:Expr}(h:I6 e=true):behindInMarks op e=false:=by
 cases e<;>first | rfl | cases h
theorem D7:∀ (ops:List CmpOp) (es:List Expr),es.all I6=true->lastMarks ops es=false
 | [],_,_=>rfl
 | [op],[e],h=>TC (by simpa using h)
 | [_],[],_=>rfl
 | [_],_::_::_,_=>rfl
 | _::_::_,[],_=>rfl
 | _::o::ops,_::es,h=>D7 (o::ops) es (Bool.and_eq_true _ _▸h).2
theorem AY.hd(F:AY C hn d cx)(ha:EC cx A):hn=true->A.handled=none:=fun e=>ha.hn (F.hn.trans e)
theorem EC.u(ha:EC cx A):A.units<cLine:=pC (om (pB _ _) (pB _ 10)) ha.units
theorem IH(F:AY C hn d cx)(ha:EC cx A){s₁ s₂:Shared}(p:Aw cx O₁ σ1 s₁ O₂ σ2 s₂)(ra:AJ cx.C s₁.heap (Ex cx O₁) a va)(rb:AJ cx.C s₂.heap (Ex cx O₂) b vb)(h:Hr σ2 fun ν=>VS hn op a b ν Q)(k:∀ s' c,Aw cx O₁ σ1 s₁ O₂ σ2 s'->AJ cx.C s'.heap (Ex cx O₂) b vb->Q c->Kt (.bool c) s'):wpAny (model cx.C.prog cx.C.w) A (compareOp op va vb) Kt E s₂:=
 (Vh (F.hd ha) p.r.purse ha.u (show VS hn op a b σ2.purse Q from h) va vb (p.rep ra) rb).seq fun s' c m q=>k s' c (p.op m) (AJ.move m.kx (fun _ q=>q.elim) (fun _ q=>q.elim) (fun _ q=>.inl q) _ _ rb) q
theorem TD(H:AO C hn d gv fe ft S)(F:AY C hn d cx)(g:AU gv Γ cx)(ha:EC cx A):∀ (ops:List CmpOp) (es:List Expr) (cs:List CE) (a:PV) (va:Value) (σ:St) (K:KT) (O:Ow) (s:Shared) (E:Value->Shared->Prop),
  Ay (fe Γ) es=some cs->ops.length=es.length->Po hn S a ops cs σ K->R cx O σ s->AJ cx.C s.heap (Ex cx O) a va->
  wpAny (model cx.C.prog cx.C.w) A (compareChain pos va ops (evalEach es cx.env)) (Jy cx O σ s fun _ s' v σ'=>∃ b,v=.bool b/\K b σ') E s:=by
 intro ops
 induction ops with
 | nil=>
  intro es
  induction es with
  | nil=>
   intro _ _ _ _ _ _ _ _ hc _ h
   exact h.elim
  | cons _ _=>exact fun _ _ _ _ _ _ _ _ _ hl=>(by injection hl)
 | cons op ops ih=>
  intro es
  cases es with
  | nil=>exact fun _ _ _ _ _ _ _ _ _ hl=>(by injection hl)
  | cons e es=>
   intro _ a va σ K O s E hc hl h r ra
   (refine AE (AN hc) ?_;rintro c h1 h0)
   (refine AE (Ad h0) ?_;rintro cs h2 h3)
   induction h3
   cases ops with
   | nil=>induction es with
    | nil=>exact chain_last ((H.e cx F Γ g e c h1 σ _ h).seq ha r fun v s₁ O₁ σ1 b p₁ rb q₁=>IH F ha p₁ ra rb q₁ fun s' c p₂ _ q=>⟨O₁,σ1,p₂,c,rfl,q⟩)
    | cons=>(injection hl with z1;cases z1)
   | cons op' ops=>induction es with
    | nil=>(injection hl with z1;cases z1)
    | cons e' es=>
     refine chain_link ((H.e cx F Γ g e c h1 σ _ h).seq ha r fun v s₁ O₁ σ1 b p₁ rb q₁=>IH F ha p₁ ra rb q₁ fun s' c p₂ rb' q=>qQ ?_)
     induction c with
     | false=>exact⟨O₁,σ1,p₂,false,rfl,q.f rfl⟩
     | true=>exact pN (ih (e'::es) cs b v σ1 K O₁ s' E h2 (Nat.succ.inj hl) (q.t rfl) p₂.r rb') (fun v s' zq=>(by obtain ⟨O',σ',p',q'⟩:=zq;exact⟨O',σ',p₂.trans p',q'⟩)) fun _ _ x=>x
theorem LQ(H:AO C hn d gv fe ft S)(F:AY C hn d cx)(g:AU gv Γ cx)(ha:EC cx A):∀ (ops:List CmpOp) (es:List Expr) (cs:List CE) (a:PV) (va:Value) (σ:St) (K:KT) (O:Ow) (s:Shared) (E:Value->Shared->Prop),
  Ay (fe Γ) es=some cs->ops.length=es.length->Po hn S a ops cs σ K->R cx O σ s->AJ cx.C s.heap (Ex cx O) a va->
  wpAny (model cx.C.prog cx.C.w) A (testChain pos va ops (evalEach es cx.env)) (Jy cx O σ s (mR K)) E s:=by
 intro ops
 induction ops with
 | nil=>
  intro es
  induction es with
  | nil=>
   intro _ _ _ _ _ _ _ _ hc _ h
   exact h.elim
  | cons _ _=>exact fun _ _ _ _ _ _ _ _ _ hl=>(by injection hl)
 | cons op ops ih=>
  intro es
  cases es with
  | nil=>exact fun _ _ _ _ _ _ _ _ _ hl=>(by injection hl)
  | cons e es=>
   intro _ a va σ K O s E hc hl h r ra
   (refine AE (AN hc) ?_;rintro c h1 h0)
   (refine AE (Ad h0) ?_;rintro cs h2 h3)
   induction h3
   cases ops with
   | nil=>induction es with
    | nil=>exact test_last ((H.e cx F Γ g e c h1 σ _ h).seq ha r fun v s₁ O₁ σ1 b p₁ rb q₁=>IH F ha p₁ ra rb q₁ fun s' c p₂ _ q=>qQ ⟨O₁,σ1,p₂,q⟩)
    | cons=>(injection hl with z1;cases z1)
   | cons op' ops=>induction es with
    | nil=>(injection hl with z1;cases z1)
    | cons e' es=>
     refine test_link ((H.e cx F Γ g e c h1 σ _ h).seq ha r fun v s₁ O₁ σ1 b p₁ rb q₁=>IH F ha p₁ ra rb q₁ fun s' c p₂ rb' q=>qQ ?_)
     induction c with
     | false=>exact⟨O₁,σ1,p₂,q.f rfl⟩
     | true=>exact pN (ih (e'::es) cs b v σ1 K O₁ s' E h2 (Nat.succ.inj hl) (q.t rfl) p₂.r rb') (fun v s' zq=>(by obtain ⟨O',σ',p',q'⟩:=zq;exact⟨O',σ',p₂.trans p',q'⟩)) fun _ _ x=>x
end
section
variable{C:Al}{hn:Bool}{d:Nat}{gv:Str->Option PV}{fe ft:Ge->Expr->Option CE}{S:CY}{cx:Cx}{Γ:Ge}{σ:St}{A:Around}{O:Ow}{s:Shared}{E:Value->Shared->Prop}
structure Qt(cx:Cx)(S:CY)(hn:Bool)(e:Expr)(c:CE):Prop where
 val:∀ {Gm:Qj} {σ:St} {K:KE},cE Gm hn S c σ K->Ev cx (eval e cx.env) σ K
 tst:∀ {Gm:Qj} {σ:St} {K:KT} {whole:Sem Value},cT Gm hn S c σ K->R6 cx (PySem.isTrue e cx.env whole) σ K
theorem YS(H:AO C hn d gv fe ft S)(F:AY C hn d cx)(g:AU gv Γ cx)(h1:fe Γ l=some a)(h2:Ay (fe Γ) es=some cs)(hs:es.all I6=true)(hl:ops.length=es.length):Qt cx S hn (.Compare l ops es pos) (.chn a ops cs) where
 val {_ σ K} h:=fun A ha O s E r=>by
  refine(?_:wpAny _ A (do compareChain pos (←eval l cx.env) ops (markedEach ops es (evalEach es cx.env))) _ E s)
  (refine AA (markedEach_of_false _ _ _ (D7 ops es hs)) ?_)
  exact oq ((H.e cx F Γ g l a h1 σ _ h).seq ha r fun v s₁ O₁ σ1 p p₁ ra q₁=>
   pN (TD H F g ha ops es cs p v σ1 _ O₁ s₁ E h2 hl q₁ p₁.r ra) (fun v s' zq=>(by obtain ⟨O',σ',p',b,e,q'⟩:=zq;exact⟨O',σ',p₁.trans p',.bool b,e,q'⟩)) fun _ _ x=>x)
 tst {_ σ K _} h:=fun A ha O s E r=>by
  refine(?_:wpAny _ A (do testChain pos (←eval l cx.env) ops (markedEach ops es (evalEach es cx.env))) _ E s)
  (refine AA (markedEach_of_false _ _ _ (D7 ops es hs)) ?_)
  exact oq ((H.e cx F Γ g l a h1 σ _ h).seq ha r fun v s₁ O₁ σ1 p p₁ ra q₁=>
   pN (LQ H F g ha ops es cs p v σ1 _ O₁ s₁ E h2 hl q₁ p₁.r ra) (fun v s' zq=>(by obtain ⟨O',σ',p',q'⟩:=zq;exact⟨O',σ',p₁.trans p',q'⟩)) fun _ _ x=>x)
noncomputable def Vp(y:Bool):CmpOp:=match y with | true=>.In | false=>.NotIn
theorem TE(hc:∀ Q:Bool->Prop,Q x->Mf C A (contains vb va) s Q)(h:jo y x Q):Ps C A (compareOp (Vp y) va vb) s Q:=by
 induction y with
 | true=>exact Mf.in_ (hc _ h)
 | false=>exact Mf.notIn (hc _ h)
theorem TF(G:EE C gv)(H:AO C hn d gv fe ft S)(F:AY C hn d cx)(g:AU gv Γ cx){kk:KT->KE}(h1:fe Γ l=some a)(h2:glob Γ x=some p)(hk:∀ K q σ,kk K q σ->∃ b,jo y b (kT K σ)/\∀ A X (s:Shared) va vb (Q:Bool->Prop),AJ cx.C s.heap X q va->AJ cx.C s.heap X p vb->Q b->Mf cx.C A (contains vb va) s Q)(he:∀ {Gm:Qj} {σ:St} {K:KE},cE Gm hn S c σ K->S.e a σ (kk (jn K)))(ht:∀ {Gm:Qj} {σ:St} {K:KT},cT Gm hn S c σ K->S.e a σ (kk K)):
  Qt cx S hn (.Compare l [Vp y] [.Name x px] pos) c where
 val {_ σ K} h:=fun A ha O s E r=>by
  refine oq ((H.e cx F Γ g l a h1 σ _ (he h)).seq ha r fun v s₁ O₁ σ1 q p₁ ra q₁=>?_)
  (refine AE (hk _ _ _ q₁) ?_;rintro b hy hb)
  exact chain_last ((IG G F g (K:=fun q' σ'=>q'=p/\σ'=σ1) h2 ⟨rfl,rfl⟩).seq ha p₁.r fun w s₂ O₂ σ2 q' p₂ rb zq=>by
   (have e1:=zq.1;have e2:=zq.2;clear zq)
   exact by
    subst e1 e2
    exact(TE (fun Q=>hb A _ s₂ v w Q (p₂.rep ra) rb) hy).seq fun s' c m q=>⟨O₂,_,(p₁.trans p₂).op m,.bool c,rfl,q⟩)
 tst {_ σ K _} h:=fun A ha O s E r=>by
  refine oq ((H.e cx F Γ g l a h1 σ _ (ht h)).seq ha r fun v s₁ O₁ σ1 q p₁ ra q₁=>?_)
  (refine AE (hk _ _ _ q₁) ?_;rintro b hy hb)
  exact test_last ((IG G F g (K:=fun q' σ'=>q'=p/\σ'=σ1) h2 ⟨rfl,rfl⟩).seq ha p₁.r fun w s₂ O₂ σ2 q' p₂ rb zq=>by
   (have e1:=zq.1;have e2:=zq.2;clear zq)
   exact by
    subst e1 e2
    exact(TE (fun Q=>hb A _ s₂ v w Q (p₂.rep ra) rb) hy).seq fun s' c m q=>qQ ⟨O₂,_,(p₁.trans p₂).op m,q⟩)
theorem LR{f:α->Option β}{k:β->α}(h:∀ a b,f a=some b->a=k b):∀ {l:List α} {r:List β},Ay f l=some r->l=r.map k
 | [],_,e=>by(refine sI e ?_;clear e;intro zz;induction zz);rfl
 | a::l,r,e=>by
  (refine AE (AN e) ?_;rintro b h1 h2)
  (refine AE (Ad h2) ?_;rintro r' h3 h4)
  subst h4
  (refine AA (h a b h1) ?_;refine AA List.map_cons ?_;refine BO (LR h h3) ?_;rfl)
noncomputable def Fq{α:Type}(P:α->Prop)(o:Option α):Prop:=match o with | some a=>P a | none=>True
theorem DC{P:α->Prop}{o:Option α}{a:α}(h:o=some a)(x:Fq P o):P a:=by subst h;exact x
theorem Ea{P:α->Prop}{o:Option α}(h:b=true->Fq P o):Fq P (Bk b o):=by
 induction b with
 | true=>exact h rfl
 | false=>exact True.intro
theorem JA{α β:Type}{P:β->Prop}{f:α->β}{o:Option α}(h:∀ a,P (f a)):Fq P (o.map f):=by
 induction o with
 | none=>exact True.intro
 | some a=>exact h a
theorem TG(p:PV)(i:Int)(h:isInt p=some i):p=.int i:=DC (P:=fun i=>p=.int i) h (by cases p<;>first | exact rfl | exact True.intro)
theorem TH(p:PV)(i:List Nat)(h:isStr p=some i):p=.str i:=DC (P:=fun i=>p=.str i) h (by cases p<;>first | exact rfl | exact True.intro)
theorem Cc{x:Str}(h:asName e=some x):∃ p,e=.Name x p:=DC (P:=fun x=>∃ p,e=.Name x p) h (by
 delta asName
 generalize view e=v
 induction v<;>first | exact True.intro | exact⟨_,rfl⟩)
set_option tactic.hygienic true in
theorem XV(G:EE C gv)(H:AO C hn d gv fe ft S)(F:AY C hn d cx)(g:AU gv Γ cx)(h1:fe Γ l=some a)(ho:∀ c,other=some c->Qt cx S hn (.Compare l [Vp y] [e] pos) c)(hc:jp Γ y a e other=some c):Qt cx S hn (.Compare l [Vp y] [e] pos) c:=by
 delta jp at hc
 split at hc
 ·rename_i x hx
  (refine AI (Cc hx) ?_;rintro px rfl)
  split at hc
  ·rename_i r hr
   split at hc
   ·rename_i ns hns
    (refine sI hc ?_;clear hc;intro zz;induction zz)
    refine TF G H F g h1 hr (fun K q σ h=>?_) (fun h=>h) fun h=>h
    (refine AE (CZ h) ?_;rintro i e h)
    subst e
    exact⟨_,h,fun A X s va vb Q hv hw q=>YJ hv (LR TG hns▸hw) q⟩
   ·split at hc
    ·rename_i xs hxs
     (refine sI hc ?_;clear hc;intro zz;induction zz)
     refine TF G H F g h1 hr (fun K q σ h=>?_) (fun h=>h) fun h=>h
     (refine AE (E1 h) ?_;rintro i e h)
     subst e
     exact⟨_,h,fun A X s va vb Q hv hw q=>YK hv (LR TH hxs▸hw) q⟩
    ·exact ho c hc
  ·exact ho c hc
 ·exact ho c hc
theorem TI(G:EE C gv)(H:AO C hn d gv fe ft S)(F:AY C hn d cx)(g:AU gv Γ cx){a c:CE}(h1:fe Γ l=some a)(hc:YM Γ (fe Γ) a ops es=some c):Qt cx S hn (.Compare l ops es pos) c:=by
 have ho:∀ c,Bk (es.all I6&&ops.length==es.length) ((Ay (fe Γ) es).map (.chn a ops))=some c->Qt cx S hn (.Compare l ops es pos) c:=fun c hc=>by
  (refine AM (A2 hc) ?_;rintro hb h)
  (refine AE (Ad h) ?_;rintro cs h2 h3)
  subst h3
  rw [Bool.and_eq_true,beq_iff_eq] at hb
  exact YS H F g h1 h2 hb.1 hb.2
 cases ops with
 | nil=>exact nS hc
 | cons op ops=>induction ops with
  | cons _ _=>exact ho c hc
  | nil=>cases es with
   | nil=>exact ho c hc
   | cons e es=>induction es with
    | cons _ _=>exact ho c hc
    | nil=>induction op with
     | In=>exact XV G H F g h1 ho hc
     | NotIn=>exact XV G H F g h1 ho hc
     | _=>exact ho c hc
end
section
variable{C:Al}{hn:Bool}{d:Nat}{gv:Str->Option PV}{fe ft:Ge->Expr->Option CE}{S:CY}{cx:Cx}{Γ:Ge}{σ:St}{A:Around}{O:Ow}{s:Shared}{E:Value->Shared->Prop}
theorem TJ(h:X9 y b X Y):(b=y->X)/\(b=!y->Y b):=by
 induction y with
 | true=>exact⟨h.t,fun e=>e▸h.f e⟩
 | false=>exact⟨h.f,fun e=>e▸h.t e⟩
noncomputable def Px(y:Bool):BoolOp:=match y with | true=>.And | false=>.Or
theorem Py(H:AO C hn d gv fe ft S)(F:AY C hn d cx)(g:AU gv Γ cx)(y:Bool):∀ (es:List Expr) (cs:List CE) (σ:St) (K:KT),Ay (ft Γ) es=some cs->VU S y cs σ K->R6 cx (allTrue (Px y) es cx.env) σ K:=by
 intro rx
 induction rx with
 | nil=>
  exact fun _ σ K hc h=>fun A ha O s E r=>by
   (refine sI hc ?_;clear hc;intro zz;induction zz)
   induction y<;>exact o6 ⟨O,σ,.refl r,h⟩
 | cons e es ih=>
  exact fun _ σ K hc h=>fun A ha O s E r=>by
   (refine AE (AN hc) ?_;rintro c h1 h0)
   (refine AE (Ad h0) ?_;rintro cs h2 h3)
   induction h3
   induction y with
   | true=>
    refine wpAny_allTrue_And_cons ((H.t cx F Γ g e c h1 σ _ h).seq ha r fun b s₁ O₁ σ1 p₁ q₁=>?_)
    cases b with
    | true=>exact((ih cs) σ1 K h2 (q₁.t rfl)).seq ha p₁.r fun b s₂ O₂ σ2 p₂ q=>⟨O₂,σ2,p₁.trans p₂,q⟩
    | false=>exact⟨O₁,σ1,p₁,q₁.f rfl⟩
   | false=>
    refine wpAny_allTrue_Or_cons ((H.t cx F Γ g e c h1 σ _ h).seq ha r fun b s₁ O₁ σ1 p₁ q₁=>?_)
    cases b with
    | true=>exact⟨O₁,σ1,p₁,q₁.t rfl⟩
    | false=>exact((ih cs) σ1 K h2 (q₁.f rfl)).seq ha p₁.r fun b s₂ O₂ σ2 p₂ q=>⟨O₂,σ2,p₁.trans p₂,q⟩
theorem OI{K:Bool->Prop}(h:Se p K):∃ b,p=.bool b/\K b:=by cases p<;>first | exact⟨_,rfl,h⟩ | exact h.elim
set_option backward.match.sparseCases true in
theorem Qu{z:Bool}(h:wpAny (model cx.C.prog cx.C.w) A x (fun v s=>∃ b,v=.bool b/\(b=z->wpAny (model cx.C.prog cx.C.w) A (boolOp pos (Px z) (y::xs)) Q E s)/\(b=!z->Q v s)) E s):wpAny (model cx.C.prog cx.C.w) A (boolOp pos (Px z) (x::y::xs)) Q E s:=by
 refine oq (pN h (fun v s' hx=>Cp hx fun b e k1 k2=>?_) fun _ _ x=>x)
 subst e
 refine oq (qI (oq (pR (qQ ?_))))
 induction z<;>cases b<;>first | exact o6 (k2 rfl) | exact k1 rfl
theorem LT(H:AO C hn d gv fe ft S)(F:AY C hn d cx)(g:AU gv Γ cx)(y:Bool):∀ (es:List Expr) (cs:List CE) (σ:St) (K:KE),Ay (fe Γ) es=some cs->VV S y cs σ K->Ev cx (boolOp pos (Px y) (evalEach es cx.env)) σ K
 | [],_,σ,K,hc,h=>by
  (refine sI hc ?_;clear hc;intro zz;induction zz)
  exact h.elim
 | [e],_,σ,K,hc,h=>by
  refine Ap fun G kk=>?_;(refine AE (AN hc) ?_;rintro c h1 h0)
  (refine sI h0 ?_;clear h0;intro zz;induction zz);refine kk ?_
  exact H.e cx F Γ g e c h1 σ K h
 | e::e'::es,_,σ,K,hc,h=>fun A ha O s E r=>by
  refine Ap fun G kk=>?_;(refine AE (AN hc) ?_;rintro c h1 h0)
  (refine AE (Ad h0) ?_;rintro cs h2 h3)
  subst h3;refine kk ?_
  induction cs with
  | nil=>
   (refine AE (AN h2) ?_;rintro _ _ h5)
   (refine AE (Ad h5) ?_;rintro _ _ h6)
   injection h6
  | cons c' cs'=>
   refine Qu ((H.e cx F Γ g e c h1 σ _ h).seq ha r fun v s₁ O₁ σ1 p p₁ ra q₁=>?_)
   (refine AE (OI q₁) ?_;rintro b e1 q)
   subst e1
   (refine AM (TJ q) ?_;rintro q1 q2)
   exact⟨b,ra,fun hb=>(LT H F g y (e'::es) (c'::cs') σ1 K h2 (q1 hb)).seq ha p₁.r fun _ _ _ _ _ p₂ rp q=>Gf.mk (p₁.trans p₂) rp q,fun hb=>Gf.mk p₁ ra (q2 hb)⟩
theorem Vq(H:AO C hn d gv fe ft S)(F:AY C hn d cx)(g:AU gv Γ cx){K:KE}(hs:EW i=true)(h1:fe Γ v=some a)(h2:fe Γ i=some b)(h:S.e a σ (kQ S b K)):Ev cx (eval (.Subscript v i pos) cx.env) σ K:=fun A ha O s E r=>
 Subscript_ ((H.e cx F Γ g v a h1 σ _ h).seq ha r fun vv s₁ O₁ σ1 p p₁ ra q₁=>(H.e cx F Γ g i b h2 σ1 _ q₁).seq ha p₁.r fun vi s₂ O₂ σ2 k p₂ rk q₂=>
  Gv hs (Mi (It.h q₂) (p₂.rep ra) rk p₂.r.purse) fun v s' p m rp q=>Gf.mk ((p₁.trans p₂).op m) rp q)
theorem YT(H:AO C hn d gv fe ft S)(F:AY C hn d cx)(g:AU gv Γ cx){K:KE}(hs:EW i=true)(hj:EX x Γ.nm=some j)(hd:(!(x==("__debug__" : Str)))=true)(h2:fe Γ i=some b)(h:cE Gm hn S (.itl j b) σ K):Ev cx (eval (.Subscript (.Name x px) i pos) cx.env) σ K:=fun A ha O s E r=>by
 (refine AE (EZ h) ?_;rintro sl e h)
 cases sl with
 | un=>exact h.elim
 | fr p=>
  (refine AE (r.fr j p e) ?_;rintro v hl rp)
  exact Subscript_ (BG g hj r.env.kind hl hd ((H.e cx F Γ g i b h2 σ _ h).seq ha r fun vi s₂ O₂ σ2 k p₂ rk q₂=>
   Gv hs (Mi (It.h q₂) (p₂.rep rp) rk p₂.r.purse) fun v s' p m rp q=>Gf.mk (p₂.op m) rp q))
 | ow l=>
  obtain ⟨a,vs,h1,h2',h3,h4,h5⟩:=r.ow j l e
  refine Subscript_ (BG g hj r.env.kind h2' hd ((H.e cx F Γ g i b h2 σ _ h).seq ha r fun vi s₂ O₂ σ2 k p₂ rk q₂=>?_))
  (refine AE (EZ q₂) ?_;rintro sl e' q)
  cases sl with
  | un=>exact q.elim
  | fr _=>exact q.elim
  | ow l'=>
   refine Ap fun G kk=>?_;obtain ⟨a',vs',g1,g2,g3,g4,g5⟩:=p₂.r.ow j l' e'
   have ea:=pP (h1.symm.trans (p₂.sub _ _ g1))
   subst ea;refine kk ?_
   exact Gv hs (Mh (It.h q) g3.isList g4 g5 rk) fun v s' p m rp q=>Gf.mk (p₂.op m) rp q
theorem Qv(H:AO C hn d gv fe ft S)(F:AY C hn d cx)(g:AU gv Γ cx){lo hi:Option Expr}{a b c:CE}{p pos:Pos}{K:KE}(h1:fe Γ v=some a)(h2:Ml (fe Γ) lo=some b)(h3:Ml (fe Γ) hi=some c)(hk:∀ v σ K,S.e (.kv v) σ K->K v σ)(h:S.e a σ (bw S b c K)):Ev cx (eval (.Subscript v (.Slice lo hi none p) pos) cx.env) σ K:=fun A ha O s E r=>by
 have part:∀ {e:Option Expr} {c:CE} {σ:St} {K:KE},Ml (fe Γ) e=some c->S.e c σ K->Ev cx (evalPart e cx.env) σ K:=fun {e c σ K} hc h=>by
  induction e with
  | none=>(refine sI hc ?_;clear hc;intro zz;induction zz);exact fun A ha O s E r=>o6 ⟨O,σ,.refl r,.none,rfl,hk _ _ _ h⟩
  | some e=>exact H.e cx F Γ g e c hc σ K h
 refine Subscript_ ((H.e cx F Γ g v a h1 σ _ h).seq ha r fun vv s₁ O₁ σ1 q p₁ ra q₁=>wpAny_Slice ((part h2 q₁).seq ha p₁.r fun vl s₂ O₂ σ2 l p₂ rl q₂=>(part h3 q₂).seq ha p₂.r fun vu s₃ O₃ σ₃ u p₃ ru q₃=>?_))
 refine o6 ?_
 generalize hob:({ cls:=.type "slice",data:=.fields #[vl,vu,.none] }:Obj)=ob
 have P:=((p₁.trans p₂).trans p₃).op (BX (o:=ob) (tk:=s₃.toks))
 exact OF (S0 q₃ (Ix (p₃.rep (p₂.rep ra))) (Ix (p₃.rep rl)) (Ix ru) P.r.exLt (hob▸Heap.IsSliceOf.new _ _ _ _:(s₃.heap.push ob).IsSliceOf s₃.heap.objs.size vl vu .none)) fun v s' p m rp q=>Gf.mk (P.op m) rp q
end
section
variable{C:Al}{hn:Bool}{s:Shared}{A:Around}{E:Value->Shared->Prop}{X:Addr->Prop}{Q:PV->Prop}
theorem C8{vs:List Value}(h:AF C s.heap X [p] vs):∃ v,vs=[v]/\AJ C s.heap X p v:=by
 induction h with | mk v ws a b=>exact⟨v,congrArg (v::·) b,a⟩
theorem C9{vs:List Value}(h:AF C s.heap X [p,q] vs):∃ v u,vs=[v,u]/\AJ C s.heap X p v/\AJ C s.heap X q u:=by
 induction h with | mk v ws a b=>
 (refine AE (C8 b) ?_;rintro u e b)
 exact⟨v,u,congrArg (v::·) e,a,b⟩
theorem Ck(q:Q (.int i))(h:∀ (K:Value->Shared->Prop) E,(∀ t h' tk,(∀ b o,s.heap.get? b=some o->h'.get? b=some o)->K (.int i t) { s with heap:=h',toks:=tk })->wpAny (model C.prog C.w) A m K E s):R0 C A X m s Q:=fun E=>
 h _ E fun t h' tk hk=>⟨AG.of_keeps hk,.int i,.mk t,q⟩
theorem Hs{Q:Value->Shared->Prop}(hh:A.handled=none)(b:Array UInt8)(t:Tok)(hQ:∀ h' tk acc' c',(∀ b o,s.heap.get? b=some o->h'.get? b=some o)->
   h'.get? s.heap.objs.size=some { cls:=.type "list",dict:=none,data:=.seq acc' c',slots:=#[] }->ItemsOf (fun i v=>∃ c u,b[i]?=some c/\v=.int (c.toNat:Int) u) acc' b.size->Q (.ref s.heap.objs.size) { s with heap:=h',toks:=tk })(hn:b.size<=sizeLine):
  wpAny (model C.prog C.w) A (call (.type "list") [.bytes b t]) Q E s:=by
 refine callType_codes (Q₁:=fun obj s₁=>obj=.ref s.heap.objs.size/\s₁={ s with heap:=s.heap.push { cls:=.type "list",data:=.seq #[] } }) F.called_list (F.typeCall_list_1 _) F.entry_list_init
  (code_list_new _ ⟨rfl,rfl⟩) fun obj s₁ h₁=>?_
 (refine AM h₁ ?_;clear h₁;rintro rfl rfl)
 have hS:(s.heap.push { cls:=.type "list",data:=.seq #[] }).get? s.heap.objs.size=some { cls:=.type "list",data:=.seq #[] }:=pE _ rfl
 refine⟨⟨_,hS,rfl⟩,F.args_list_init_2 _ _,?_⟩
 refine(?_:wpAny _ _ (do let old ←Builtin.List.listItems (.ref s.heap.objs.size);Builtin.List.listUpdate (.ref s.heap.objs.size) (fun _=>#[]);letGo old.toList.reverse;Builtin.List.listExtendWith (.ref s.heap.objs.size) (.bytes b t) .none) _ _ _)
 refine oq ?_
 refine oq (wpAny_seqItems hS rfl (o6 ?_))
 refine oq (wpAny_updateSeq hS rfl ?_)
 have hS₂:=qd (Obj.mapSeq (fun _=>(#[]:Array Value))) hS rfl
 have oth:∀ b o,s.heap.get? b=some o->((s.heap.push { cls:=.type "list",data:=.seq #[] }).update s.heap.objs.size (Obj.mapSeq (fun _=>(#[]:Array Value)))).get? b=some o:=
  fun b o e=>(qS _ _ (Ne.symm (pX (pi e)))).trans (pF _ e)
 generalize hS0:s.heap.objs.size=S at*
 generalize ((s.heap.push { cls:=.type "list",data:=.seq #[] }).update S (Obj.mapSeq (fun _=>(#[]:Array Value))))=h2 at*
 refine oq (wpAny_letGo ?_)
 have hSI:=pX (pi hS₂)
 refine oq (wpAny_typeOf (pY _ b t) ?_)
 have h3:(Value.type "bytes" == Value.type "list")=false:=by rfl
 refine oq (KBw.pyIter_bytes ?_)
 refine oq (pR ?_)
 refine o6 ?_
 refine o6 ⟨plainId_quiet F.plain_extend_loop _,codeAny_extend_loopS (KBw.walks (A:=A.in1.in1) hh _ b t).toS hn _ (fun hm=>hSI (pZ.mp hm)) _ b.size 0 _ _ _ rfl (pQ _) ⟨_,pE _ rfl,rfl,rfl⟩ (pF _ hS₂) (ItemsOf.nil _) fun s' acc' c' hm hS' hacc=>?_⟩
 (refine AA (Moved.eq_with hm) ?_)
 refine⟨rfl,hQ s'.heap s'.toks acc' c' (fun b' ob e=>hm.heap b' ob (fun hmem=>?_) (pF _ (oth b' ob e))) hS' hacc⟩
 rcases pj.mp hmem with e' | hmem
 ·(replace e:=(e')▸e;replace e:=Eq.symm (hS0)▸e);exact absurd (pi e) (Nat.lt_irrefl _)
 ·have:=pi (oth b' ob e)
  (replace this:=(pZ.mp hmem)▸this);exact absurd this (Nat.lt_irrefl _)
theorem AF.of_get:∀ {l:List PV} {vs:List Value},vs.length=l.length->(∀ (j:Nat) (p:PV) (v:Value),l[j]?=some p->vs[j]?=some v->AJ C h X p v)->AF C h X l vs
 | [],_,e,_=>List.length_eq_zero_iff.mp e
 | _::_,[],e,_=>(by injection e)
 | p::l,v::vs,e,k=>⟨v,vs,k 0 p v rfl rfl,AF.of_get (Nat.succ.inj e) fun j p v h1 h2=>k (j+1) p v h1 h2⟩
theorem J5(b:List Nat)(hb:BL b)(h:ItemsOf (fun i v=>∃ c u,(toB b)[i]?=some c/\v=.int (c.toNat:Int) u) acc (toB b).size)(hp:Heap):AF C hp X (b.map fun(c:Nat)=>.int c) acc.toList:=by
 (have e:=h.1;have k:=h.2;clear h)
 refine AF.of_get (by simp [e,A1]) fun j p v h1 h2=>?_
 (refine BS (k j v (by simpa using h2)) ?_;rintro c u hc rfl)
 rw [List.getElem?_map] at h1
 (refine AE (qN.mp h1) ?_;rintro x hx rfl)
 simp only [toB,List.getElem?_toArray,List.getElem?_map,hx,Option.map_some,Option.some.injEq] at hc
 induction hc
 exact LM (hb x (qE hx))▸.mk u
theorem Vr(h:n<=sizeLine):(n:Int)<2 ^ 63:=by
 exact Int.lt_trans (pI.mpr (pC h (by decide:sizeLine<16777217))) (by decide)
theorem kf(h:n<=sizeLine):n<=1099511627776:=om h (by decide)
noncomputable abbrev cG(C:Al)(A:Around)(X:Addr->Prop)(s:Shared)(f:Value)(a:PV)(Q:PV->Prop):Prop:=∀ v,AJ C s.heap X a v->R0 C A X (call f [v]) s Q
theorem YU{ν:Pu}(hp:Ah ν Y s.heap)(h:match a with
  | .bytes b=>Q (.int b.length)
  | .str b=>Q (.int b.length)
  | .lst b=>Q (.int b.length)
  | .tup b=>Q (.int b.length)
  | .addr a=>Qk ν fun _ c ns _=>a=c/\ns.length<=BE/\Q (.int ns.length)
  | _=>False):cG C A X s (.builtin "len") a Q:=fun v hv=>by
 cases a with
 | bytes b=>induction hv with | mk _ hz t=>exact Ck h fun K E k=>PySem.W.len_bytes (by(refine AA (A1 ..:) ?_);exact kf hz) (by(refine AA (A1 ..:) ?_);exact k _ _ _ fun _ _ e=>e)
 | str b=>induction hv with | mk hz t=>exact Ck h fun K E k=>P.len_str (Int.not_le.mpr (Vr hz)) (k _ _ _ fun _ _ e=>e)
 | lst b=>induction hv with | mk hz a ws _ hl hr=>exact Ck h fun K E k=>PyProof.Rows.len_list hl (by(refine AA ph ?_;refine AA hr.length ?_);exact Vr hz) (by(refine AA ph ?_;refine AA hr.length ?_);exact k _ _ _ fun _ _ e=>e)
 | tup b=>induction hv with | mk hz a ws _ ht hr=>exact Ck h fun K E k=>PyProof.Rows.len_tuple ht.is (by(refine AA ph ?_;refine AA hr.length ?_);exact Vr hz) (by(refine AA ph ?_;refine AA hr.length ?_);exact k _ _ _ fun _ _ e=>e)
 | addr a=>
  refine Ap fun G kk=>?_;(refine Nm (Iv h) ?_;rintro p c ns tt e e1 ⟨hz,q⟩)
  subst e e1
  obtain ⟨_,_,_,_,ws,hl,hi⟩:=hp
  subst hv;refine kk ?_
  exact Ck q fun K E k=>PyProof.Rows.len_list hl (by(refine AA ph ?_;refine AA hi.length ?_);exact Vr (om hz Bu)) (by(refine AA ph ?_;refine AA hi.length ?_);exact k _ _ _ fun _ _ e=>e)
 | _=>exact h.elim
theorem YV{ns:List Int}(hh:A.handled=none)(q:Q (.int ns.sum)):cG C A X s (.builtin "sum") (.lst (ns.map .int)) Q:=fun v hv=>by
 induction hv with | mk hz a ws _ hl hr=>
 have hi:=EV hr
 (refine AI hi.allInts.items ?_;rintro xs hx)
 refine Ck q fun K E k=>sum_intListG hh (show s.heap.IsList a (intItems xs) from hx▸(show s.heap.IsList a ws.toArray from hl)) fun h' tk t' hk=>?_
 have e1:ns=xs.toList.map (·.1):=by
  (refine BO (nums_intItems ..:) ?_;refine BO hx ?_)
  exact(show numsOf ws.toArray.toList=ns from hi.numsOf).symm
 (refine AA (preSum_eq ..:) ?_;refine AA (qi (by simp)) ?_;refine BO e1 ?_)
 exact k _ _ _ hk
theorem TK(hh:A.handled=none)(hb:∀ n∈ns,n<256)(q:Q (.bytes ns)):cG C A X s (.type "bytes") (.lst (ns.map fun(n:Nat)=>.int n)) Q:=fun v hv E=>by
 induction hv with | mk hz a ws _ hl hr=>
 have hz':=pK _▸hz
 have e:(ns.map fun(n:Nat)=>PV.int n)=(ns.map fun(n:Nat)=>(n:Int)).map .int:=by simp
 (replace hr:=(e)▸hr)
 refine call_bytes_ints hl (EV hr) (fun n hn=>?_) (by(refine AA hr.length ?_);simpa using hz') hh fun h' t k hk=>⟨AG.of_keeps hk,.bytes ns,?_,q⟩
 ·(refine AE (qL.mp hn) ?_;rintro m hm rfl)
  exact ub m (hb m hm)
 ·have e2:byteArr (ns.map fun(n:Nat)=>(n:Int))=toB ns:=by simp [byteArr,toB,Function.comp_def]
  (refine AA e2 ?_)
  exact .mk hb hz' t
theorem Vs(hh:A.handled=none)(hX:∀ a,X a->a<s.heap.objs.size)(q:Q (.lst (b.map fun(c:Nat)=>.int c))):cG C A X s (.type "list") (.bytes b) Q:=fun v hv E=>by
 induction hv with | mk ob hz t=>
 exact Hs hh _ t (fun h' tk acc' c' hk hS hacc=>⟨AG.of_keeps hk,.lst (b.map fun(c:Nat)=>.int c),.mk (by simpa using hz) _ acc'.toList (fun q=>Nat.lt_irrefl _ (hX _ q)) ⟨_,hS,rfl,c',rfl⟩ (J5 _ ob hacc _),q⟩) (by(refine AA (A1 ..:) ?_);exact hz)
noncomputable def Ms(k:BI):Value:=match Vl k with
 | true=>.type (Vk k)
 | false=>.builtin (Vk k)
theorem YW{ν:Pu}{Y:Addr->Prop}{k:BI}{l:List PV}{vs:List Value}(hh:hn=true->A.handled=none)(h:jm hn ν k l Q)(hl:AF C s.heap X l vs)(hp:Ah ν Y s.heap)(hX:∀ a,X a->a<s.heap.objs.size):R0 C A X (call (Ms k) vs) s Q:=by
 have one:∀ {f:Value} {K:PV->Prop},MG l K->(∀ a,K a->cG C A X s f a Q)->R0 C A X (call f vs) s Q:=fun {f K} h g=>by
  revert hl
  apply HY h
  intro a h hl
  induction hl with | mk v _ hv ht=>
  cases (show _=[] from ht)
  exact g a h v hv
 cases k with
 | len=>exact one h fun a h=>YU hp h
 | chr=>
  refine one h fun a h=>?_
  apply Cj h
  intro i h v hv E
  induction hv with | mk t=>
  exact chr_of_range h.1 (Int.le_of_lt_add_one h.2.1) ⟨AG.toks,.str [i.toNat],ML.mk (s:=[i.toNat]) (show 1<=sizeLine by decide) _,h.2.2⟩
 | ord=>
  refine one h fun a h=>?_
  apply Ez h
  intro i h
  apply Sm h
  intro c q v hv
  induction hv with | mk _ t=>exact Ck q fun K E k=>P.ord_of_char (k _ _ _ fun _ _ e=>e)
 | abs=>
  refine one h fun a h=>?_
  apply Cj h
  intro i q v hv
  induction hv with | mk t=>exact Ck q fun K E k=>PyProof.Rows.call_abs_int fun u tk=>k _ _ _ fun _ _ e=>e
 | int=>
  refine one h fun a h=>?_
  apply Cj h
  intro i q v hv
  induction hv with | mk t=>exact Ck q fun K E k=>call_int_int (k _ _ _ fun _ _ e=>e)
 | max=>
  revert hl
  apply KW h
  intro a b h
  apply Cj h
  intro x h
  apply Cj h
  intro y h hl
  (refine CQ (C9 hl) ?_;rintro v u e hv hu)
  subst e
  induction hv with | mk t=>induction hu with | mk t'=>
  refine Ck h.2 fun K E k=>max_two_ints (hh h.1) fun h' tk hk=>?_
  by_cases c:x<y
  ·have:=k t' h' tk hk
   (replace this:=(pO c)▸this)
   (refine AA (pO c) ?_);exact this
  ·have:=k t h' tk hk
   (replace this:=(pH c)▸this)
   (refine AA (pH c) ?_);exact this
 | sum=>
  refine one h fun a h=>?_
  apply E0 h
  rintro l ⟨ns,e',h⟩
  exact e'▸YV (hh h.1) h.2.2.2
 | bytes=>
  refine one h fun a h=>?_
  apply E0 h
  rintro l ⟨ns,e',h⟩
  exact e'▸TK (hh h.1) h.2.1 h.2.2
 | list=>
  refine one h fun a h=>?_
  apply BC h
  intro b h
  exact Vs (hh h.1) hX h.2
end
noncomputable def cH(C:Al)(f:Str):Prop:=∀ a,C.mg f=some (.ref a)->∃ N mN,ClsAt C.base a N mN
structure OJ(C:Al):Prop where
 cls:∃ N mN f o fd,ClsAt C.base C.fieldCls N mN/\mN "__getattribute__" = none/\mN "__getattr__" = none/\mN "name" = none/\mN "raw" = none/\mN "word" = some (.ref f)/\C.wordFn=f/\
  C.base.get? f=some o/\o.cls=.type "function" /\ o.data=.func fd
structure Jw(C:Al)(gv:Str->Option PV):Prop where
 cfg:EE C gv
 fns:∀ x n,gv x=some (.fn n)->ke C n
 kls:∀ x n,gv x=some (.kls n)->cH C n
 word:OJ C
section
variable{C:Al}{hn:Bool}{d:Nat}{gv:Str->Option PV}{fe ft:Ge->Expr->Option CE}{S:CY}{cx:Cx}{Γ:Ge}{σ:St}{A:Around}{O:Ow}{s:Shared}{E:Value->Shared->Prop}{X:Addr->Prop}
theorem Ah.reX{ν:Pu}(x:Ah ν X h)(hX:∀ b∈pa ν,X' b):Ah ν X' h:=by
 induction ν with
 | none=>trivial
 | some q=>
  obtain ⟨p,c,ns,t⟩:=q
  (have h3:=x.2.2.1;have h4:=x.2.2.2.1;have h5:=x.2.2.2.2;clear x)
  exact⟨hX p (List.Mem.head _),hX c (by simp [pa]),h3,h4,h5⟩
theorem EC.hand'(ha:EC cx A)(r:R cx O σ s):B2 A (inP σ.purse) s.heap:=
 ha.hand.move r.ent (fun _ q=>.inl q) fun b q=>(r.pNew b q).2.elim .inl fun z=>.inr (.inl z)
theorem TL{K:PV->Pu->Prop}(hc:AK cx.C cx.hn cx.d f l σ.purse K)(ha:EC cx A)(r:R cx O σ s)(ra:AF cx.C s.heap (Ex cx O) l vs)(hm:bX cx.C f a)(k:∀ v s' p ν',Aw cx O σ s O (σ.setP ν') s'->AJ cx.C s'.heap (Ex cx O) p v->K p ν'->Kt v s'):wpAny (model cx.C.prog cx.C.w) A (call (.ref a) vs) Kt E s:=by
 refine pN (hc A cx.l (Ex cx O) s vs E a ha.frames (ha.hand' r) ha.hn ha.depth ha.units r.stays r.frames r.exF (r.purse.reX fun b hb=>.inl (r.purse.xs b hb)) (fun b hb=>(r.pNew b hb).1)
  (fun a h=>⟨r.exIn a h,r.exBase a h⟩) ra hm) (fun v s' h=>?_) fun _ _ x=>x
 obtain ⟨p,ν',m,hp,e,rp,q⟩:=h
 exact k v s' p ν' ⟨r.moveP m (hp.reX fun b hb=>r.purse.xs b (e▸hb)) e,fun _ _ z=>z,m,e,r.exP,r.exF⟩ rp q
theorem BQ{xs:List (Bool×Sem Value)}(hx:xs.any (·.1)=false)(h:wpAny M A (spliced xs) (fun vs s'=>Q ⟨vs,[]⟩ s') E s):wpAny M A (evalArgs f true xs []) Q E s:=by
 induction xs with
 | nil=>
  refine oq (pN h (fun vs s' h'=>?_) fun _ _ x=>x)
  refine pR ?_
  exact oq (o6 (oq (o6 (o6 h'))))
 | cons x xs=>
  obtain ⟨b,t⟩:=x
  simp only [List.any_cons,Bool.or_eq_false_iff] at hx
  (have hb:=hx.1;clear hx)
  subst hb
  exact Calls.evalArgs_plain h
theorem Ai:∀ {args:List Expr},args.all noStar=true->(backTo pos (starEach args env)).any (·.1)=false
 | [],_=>rfl
 | e::es,h=>by
  simp only [List.all_cons,Bool.and_eq_true] at h
  (refine AA (AR h.1) ?_)
  have ih:=Ai (env:=env) (pos:=pos) h.2
  trivial
theorem DP(H:AO C hn d gv fe ft S)(F:AY C hn d cx)(g:AU gv Γ cx){K:KL}(hz:args.all noStar=true)(hc:Ay (fe Γ) args=some es)(h:cL S es σ K)(ha:EC cx A)(r:R cx O σ s)(k:∀ vs s₁ O₁ σ1 ps,Aw cx O σ s O₁ σ1 s₁->AF cx.C s₁.heap (Ex cx O₁) ps vs->K ps σ1->Kt ⟨vs,[]⟩ s₁):
  wpAny (model cx.C.prog cx.C.w) A (evalArgs f true (backTo pos (starEach args cx.env)) []) Kt E s:=
 BQ (Ai hz) ((Mo H F g args es σ K hc h).seq ha r fun vs s₁ O₁ σ1 ps p rp q=>k vs s₁ O₁ σ1 ps p rp q)
theorem LU(hst:args.any (·.1)=false)(h:wpAny (model C.prog C.w) A (evalArgs (.ref a) true args []) (fun as s₁=>∃ vs,as=⟨vs,[]⟩/\(∃ N mN,ClsAt s₁.heap a N mN)/\wpAny (model C.prog C.w) A (call (.ref a) vs) Q E s₁) E s):
  wpAny (model C.prog C.w) A (callWith pos (.ref a) [] args []) Q E s:=by
 refine oq (pR (pN h (fun as s₁ h₁=>?_) fun _ _ x=>x))
 refine Ap fun G kk=>?_;(refine Cp h₁ ?_;clear h₁;rintro vs e ⟨N,mN,X⟩ hc)
 subst e
 obtain ⟨hh,g,d,t,os⟩:=s₁
 obtain ⟨nm,q,bs,sn,sub,col,dd,k0,k1,k2,k3,k5,hC⟩:=X.obj;refine kk ?_
 have f1:=tc_lookup
 have hT:(⟨hh,g,d,t,os⟩:Shared).TypeIs (.ref a) "type" := ⟨_,hC,rfl⟩
 repeat (any_goals (wp_step))
 (refine AA (pO (by rfl)) ?_)
 simp only [hst,List.any_nil,Bool.or_false,Bool.false_eq_true,if_false]
 exact oq (pN hc (fun r s' hr=>oq (pR (wpAny_point (o6 hr)))) fun _ _ x=>x)
theorem LV(F:AY C hn d cx)(ha:EC cx A){K:KE}(p:Aw cx O₁ σ1 s₁ O₂ σ2 s₂)(rp:AF cx.C s₂.heap (Ex cx O₂) ps vs)(h:mW (AK C hn d) f K ps σ2)(hm:bX cx.C f a):
  wpAny (model cx.C.prog cx.C.w) A (call (.ref a) vs) (Jy cx O₁ σ1 s₁ (Gf cx K)) E s₂:=by
 obtain ⟨rfl,rfl,rfl⟩:=F
 exact TL (Ca.h h) ha p.r rp hm fun v s' q ν' p₃ rp' k=>Gf.mk (p.trans p₃) rp' k
theorem Eb(G:EE C gv)(F:AY C hn d cx)(g:AU gv Γ cx)(ha:EC cx A)(r:R cx O σ s){p:PV}{K:Value->Shared->Prop}(h:glob Γ x=some p)(k:∀ v s₁ O₁,Aw cx O σ s O₁ σ s₁->AJ cx.C s₁.heap (Ex cx O₁) p v->K v s₁):wpAny (model cx.C.prog cx.C.w) A (eval (.Name x pos) cx.env) K E s:=
 (IG G F g (K:=fun q' σ'=>q'=p/\σ'=σ) h ⟨rfl,rfl⟩).seq ha r fun v s₁ O₁ σ1 q p₁ rp zq=>(by(have e1:=zq.1;have e2:=zq.2;clear zq);exact by subst e1 e2;exact k v s₁ O₁ p₁ rp)
theorem Qw{p:PV}(hk:S2 p=some k)(hv:AJ C h X p v):v=Ms k:=by
 cases p with
 | bi n=>
  have:=List.find?_some hk
  rw [Bool.and_eq_true,Bool.not_eq_true',beq_iff_eq] at this
  delta Ms
  (refine AA this.1 ?_;refine AA this.2 ?_);exact hv
 | ty n=>
  have:=List.find?_some hk
  rw [Bool.and_eq_true,beq_iff_eq] at this
  delta Ms
  (refine AA this.1 ?_;refine AA this.2 ?_);exact hv
 | _=>exact nS hk
theorem J6(hst:args.any (·.1)=false)(h:wpAny M A (evalArgs (Ms k) true args []) (fun as s₁=>∃ vs,as=⟨vs,[]⟩/\wpAny M A (call (Ms k) vs) Q E s₁) E s):wpAny M A (callWith pos (Ms k) [] args []) Q E s:=by
 unfold Ms at h ⊢
 generalize Vl k=b at h ⊢
 induction b with
 | true=>exact callWith_excType hst (pN h (fun as s₁ zq=>(by refine AE zq ?_;clear zq;rintro vs e h;exact by subst e;exact h)) fun _ _ x=>x)
 | false=>exact Calls.callWith_builtin hst (pN h (fun as s₁ zq=>(by refine AE zq ?_;clear zq;rintro vs e h;exact by subst e;exact h)) fun _ _ x=>x)
theorem TM(G:Jw C gv)(H:AO C hn d gv fe ft S)(F:AY C hn d cx)(g:AU gv Γ cx){p:PV}{K:KE}(hz:args.all noStar=true)(hes:Ay (fe Γ) args=some es)(hp:glob Γ x=some p)(hc:S5 p es=some c)(h:cE (AK C hn d) hn S c σ K):Ev cx (eval (.Call (.Name x px) args [] pos) cx.env) σ K:=fun A ha O s E r=>by
 refine wpAny_Call_NameR (Eb G.cfg F g ha r hp fun fv s₁ O₁ p₁ ra=>?_)
 have hC:=F.c
 have hg:gv x=some p:=by have:=(A2 hp).2;rwa [g.gv] at this
 have bi:(S2 p).map (fun k=>CE.bi k es)=some c->wpAny (model cx.C.prog cx.C.w) A (callWith pos fv [] (backTo pos (starEach args cx.env)) []) (Jy cx O σ s (Gf cx K)) E s₁:=fun hc=>by
  (refine AE (Ad hc) ?_;rintro k hk hk2)
  subst hk2
  have ev:=Qw hk ra
  subst ev
  exact J6 (Ai hz) (DP H F g hz hes h ha p₁.r fun vs s₂ O₂ σ2 ps p₂ rp q₂=>⟨vs,rfl,
   (YW (F.hd ha) (show jm hn σ2.purse k ps _ from q₂) rp p₂.r.purse p₂.r.exLt).seq fun v s' q m rp' k=>Gf.mk ((p₁.trans p₂).op m) rp' k⟩)
 cases p with
 | fn n=>
  (refine sI hc ?_;clear hc;intro zz;cases zz)
  induction ra with | mk fa hm=>
  (refine BS (G.fns x n hg fa (hC▸hm)) ?_;rintro o fd ho hd)
  exact Calls.callWith_function (DP H F g hz hes h ha p₁.r fun vs s₂ O₂ σ2 ps p₂ rp q₂=>
   ⟨⟨p₂.r.stays _ _ (hC▸ho),hd⟩,LV F ha (p₁.trans p₂) rp q₂ (.inl hm)⟩)
 | kls n=>
  (refine sI hc ?_;clear hc;intro zz;cases zz)
  induction ra with | mk fa hm=>
  (refine Bm (G.kls x n hg fa (hC▸hm)) ?_;rintro N mN X)
  exact LU (Ai hz) (DP H F g hz hes h ha p₁.r fun vs s₂ O₂ σ2 ps p₂ rp q₂=>
   ⟨vs,rfl,⟨N,mN,X.keeps (hC▸p₂.r.stays)⟩,LV F ha (p₁.trans p₂) rp q₂ (.inl hm)⟩)
 | _=>exact bi hc
end
end Mine.Lake
set_option maxHeartbeats 4000000
namespace Mine.Lake
theorem GN:PySem.Slot "bytes" "join" "bytes.join" :=
 .of (owner := "bytes") (n := "join") (by kernel_rfl) (by rfl) (by rfl) (by rfl)
  (by exact .inr (by rfl)) (by kernel_rfl)
theorem LW:typeOf (.builtin "bytes.join")=pure (.type "method_descriptor"):=by refine(?_:builtinType _=_);(refine AA builtinType_eq_fast ?_);kernel_rfl
theorem J7:entryFor table "bytes.join" = some Builtin.«bytes.join»:=entryFor_of_tree (by kernel_rfl)
theorem LX(a b:Value):argsOk "bytes.join" ⟨[a,b],[]⟩:=by
 kernel_rfl
theorem GO:PySem.Slot "bytes" "find" "bytes.find" :=
 .of (owner := "bytes") (n := "find") (by kernel_rfl) (by rfl) (by rfl) (by rfl)
  (by exact .inr (by rfl)) (by kernel_rfl)
theorem LY:typeOf (.builtin "bytes.find")=pure (.type "method_descriptor"):=by refine(?_:builtinType _=_);(refine AA builtinType_eq_fast ?_);kernel_rfl
theorem J8:entryFor table "bytes.find" = some Builtin.«bytes.find»:=entryFor_of_tree (by kernel_rfl)
theorem LZ(a b c d:Value):argsOk "bytes.find" ⟨[a,b,c,d],[]⟩:=by
 kernel_rfl
theorem FV:PySem.Slot "bytes" "strip" "bytes.strip" :=
 .of (owner := "bytes") (n := "strip") (by kernel_rfl) (by rfl) (by rfl) (by rfl)
  (by exact .inr (by rfl)) (by kernel_rfl)
theorem J9:typeOf (.builtin "bytes.strip")=pure (.type "method_descriptor"):=by refine(?_:builtinType _=_);(refine AA builtinType_eq_fast ?_);kernel_rfl
theorem JB:entryFor table "bytes.strip" = some Builtin.«bytes.strip»:=entryFor_of_tree (by kernel_rfl)
theorem KA(a b:Value):argsOk "bytes.strip" ⟨[a,b],[]⟩:=by
 kernel_rfl
theorem Ec:PySem.Slot "bytes" "lstrip" "bytes.lstrip" :=
 .of (owner := "bytes") (n := "lstrip") (by kernel_rfl) (by rfl) (by rfl) (by rfl)
  (by exact .inr (by rfl)) (by kernel_rfl)
theorem JC:typeOf (.builtin "bytes.lstrip")=pure (.type "method_descriptor"):=by refine(?_:builtinType _=_);(refine AA builtinType_eq_fast ?_);kernel_rfl
theorem Ht:entryFor table "bytes.lstrip" = some Builtin.«bytes.lstrip»:=entryFor_of_tree (by kernel_rfl)
theorem JD(a b:Value):argsOk "bytes.lstrip" ⟨[a,b],[]⟩:=by
 kernel_rfl
theorem Ed:PySem.Slot "bytes" "rstrip" "bytes.rstrip" :=
 .of (owner := "bytes") (n := "rstrip") (by kernel_rfl) (by rfl) (by rfl) (by rfl)
  (by exact .inr (by rfl)) (by kernel_rfl)
theorem JE:typeOf (.builtin "bytes.rstrip")=pure (.type "method_descriptor"):=by refine(?_:builtinType _=_);(refine AA builtinType_eq_fast ?_);kernel_rfl
theorem Hu:entryFor table "bytes.rstrip" = some Builtin.«bytes.rstrip»:=entryFor_of_tree (by kernel_rfl)
theorem JF(a b:Value):argsOk "bytes.rstrip" ⟨[a,b],[]⟩:=by
 kernel_rfl
theorem EF:PySem.Slot "bytes" "replace" "bytes.replace" :=
 .of (owner := "bytes") (n := "replace") (by kernel_rfl) (by rfl) (by rfl) (by rfl)
  (by exact .inr (by rfl)) (by kernel_rfl)
theorem Hv:typeOf (.builtin "bytes.replace")=pure (.type "method_descriptor"):=by refine(?_:builtinType _=_);(refine AA builtinType_eq_fast ?_);kernel_rfl
theorem Gy:entryFor table "bytes.replace" = some Builtin.«bytes.replace»:=entryFor_of_tree (by kernel_rfl)
theorem Hw(a b c:Value):argsOk "bytes.replace" ⟨[a,b,c],[]⟩:=by
 kernel_rfl
theorem EG:PySem.Slot "bytes" "isalnum" "bytes.isalnum" :=
 .of (owner := "bytes") (n := "isalnum") (by kernel_rfl) (by rfl) (by rfl) (by rfl)
  (by exact .inr (by rfl)) (by kernel_rfl)
theorem Hx:typeOf (.builtin "bytes.isalnum")=pure (.type "method_descriptor"):=by refine(?_:builtinType _=_);(refine AA builtinType_eq_fast ?_);kernel_rfl
theorem Gz:entryFor table "bytes.isalnum" = some Builtin.«bytes.isalnum»:=entryFor_of_tree (by kernel_rfl)
theorem Hy(a:Value):argsOk "bytes.isalnum" ⟨[a],[]⟩:=by
 kernel_rfl
section
variable{M:Model}{A:Around}{E:Value->Shared->Prop}{s:Shared}
set_option tactic.hygienic true in
theorem TN{b sub:Array UInt8}{i j:Int}{Q:Value->Shared->Prop}(hi:0<=i)(hj:0<=j)(hjb:j<=b.size)(h:∀ tk k,Q (.int (match (if (j - i)<sub.size then none else some (i.toNat,j.toNat):Option (Nat×Nat)).bind (fun x=>Builtin.Bytes.find? b sub x.1 x.2) with | some k=>(k:Int) | none=>-1) tk) { s with toks:=k }):
  wpAny M A (Builtin.«bytes.find» ⟨[.bytes b t,.bytes sub u,.int i ti,.int j tj],[]⟩) (fun fin s'=>∃ v,fin=.done (.ret v)/\Q v s') E s:=by
 refine oq ?_
 refine(?_:wpAny M A (Builtin.Bytes.buffer? _ (.bytes sub u) >>= fun r=>_) _ E s)
 refine oq (qR KBy.buffer_eq ?_)
 refine o6 ?_
 simp only [Builtin.Bytes.window,Option.getD_some,(if_neg (Int.not_lt.mpr hi):(if i<0 then max 0 (i+(b.size:Int)) else i)=i),(if_neg (Int.not_lt.mpr hj):(if j<0 then max 0 (j+(b.size:Int)) else j)=j),(Int.min_eq_right ‹_›),if_false,Bool.false_eq_true]
 split
 ·rename_i k hk
  have h':=h
  (replace h':=(hk)▸h')
  exact oq (wpAny_mkInt (o6 ⟨_,rfl,h' _ _⟩))
 ·rename_i hk
  have h':=h
  (replace h':=(hk)▸h')
  exact oq (wpAny_rule (oq (wpAny_mkInt (o6 ⟨_,rfl,h' _ _⟩))))
theorem DQ{id:String}:Builtin.Bytes.bytesLike id (.bytes b t)=pure b:=KBd.like_eq
theorem Qx{id:String}{Q:Value->Shared->Prop}(hz:b'.size<=sizeLine)(hc:c=true->b'=b)(h:∀ tk k,Q (.bytes b' tk) { s with toks:=k }):
  wpAny M A (if c=true then(do rule id;ret (←Builtin.Bytes.Kind.same .bytes (.bytes b t))) else(do ret (←Builtin.Bytes.Kind.new .bytes b'))) (fun fin s'=>∃ v,fin=.done (.ret v)/\Q v s') E s:=by
 induction c with
 | true=>
  refine oq (wpAny_rule ?_)
  refine oq ?_
  refine o6 (o6 ⟨_,rfl,?_⟩)
  have:=h t s.toks
  (replace this:=(hc rfl)▸this)
  exact this
 | false=>
  refine oq ?_
  exact wpAny_mkBytes (o6 ⟨_,rfl,h _ _⟩) hz
theorem G0{l r:Bool}{b set:Array UInt8}{Q:Value->Shared->Prop}(hz:b.size<=sizeLine)(h:∀ tk k,Q (.bytes ((if r=true then((if l=true then b.toList.dropWhile set.contains else b.toList).reverse.dropWhile set.contains).reverse else(if l=true then b.toList.dropWhile set.contains else b.toList))).toArray tk) { s with toks:=k })(hn:(Builtin.Bytes.stripM .bytes name l r ⟨[.bytes b t,.bytes set u],[]⟩)=(do
   let set ←Builtin.Bytes.bytesLike s!"{Builtin.Bytes.Kind.name .bytes}.{name}" (.bytes set u)
   let b' ←Builtin.Bytes.payload (.bytes b t)
   let kept:=if l=true then b'.toList.dropWhile set.contains else b'.toList
   let kept:=if r=true then(kept.reverse.dropWhile set.contains).reverse else kept
   if (kept.length==b'.size)=true then(do rule s!"{s!"{Builtin.Bytes.Kind.name .bytes}.{name}"}.unchanged";ret (←Builtin.Bytes.Kind.same .bytes (.bytes b t))) else(do ret (←Builtin.Bytes.Kind.new .bytes kept.toArray)))):
  wpAny M A (Builtin.Bytes.stripM .bytes name l r ⟨[.bytes b t,.bytes set u],[]⟩) (fun fin s'=>∃ v,fin=.done (.ret v)/\Q v s') E s:=by
 (refine AA hn ?_)
 refine oq (qR DQ ?_)
 have sub2:∀ (p:UInt8->Bool) (x:List UInt8),((x.reverse.dropWhile p).reverse).Sublist x:=fun p x=>by
  have:=((fun p x=>List.dropWhile_sublist p:∀ (p:UInt8->Bool) (x:List UInt8),(x.dropWhile p).Sublist x) p x.reverse).reverse
  simpa using this
 have subl:((if r=true then((if l=true then b.toList.dropWhile set.contains else b.toList).reverse.dropWhile set.contains).reverse else(if l=true then b.toList.dropWhile set.contains else b.toList))).Sublist b.toList:=by
  induction l<;>cases r<;>simp only [if_true,if_false,Bool.false_eq_true]
  ·exact List.Sublist.refl _
  ·exact sub2 _ _
  ·exact(fun p x=>List.dropWhile_sublist p:∀ (p:UInt8->Bool) (x:List UInt8),(x.dropWhile p).Sublist x) _ _
  ·exact(sub2 _ _).trans ((fun p x=>List.dropWhile_sublist p:∀ (p:UInt8->Bool) (x:List UInt8),(x.dropWhile p).Sublist x) _ _)
 refine Qx (by simpa using om subl.length_le (by trivial)) (fun hc=>?_) h
 (refine AA (subl.eq_of_length (by simpa using hc)) ?_;rfl)
theorem Qy{b set:Array UInt8}{Q:Value->Shared->Prop}(hz:b.size<=sizeLine)(h:∀ tk k,Q (.bytes ((b.toList.dropWhile set.contains).reverse.dropWhile set.contains).reverse.toArray tk) { s with toks:=k }):
  wpAny M A (Builtin.«bytes.strip» ⟨[.bytes b t,.bytes set u],[]⟩) (fun fin s'=>∃ v,fin=.done (.ret v)/\Q v s') E s:=G0 hz h (by kernel_rfl)
theorem OK{b set:Array UInt8}{Q:Value->Shared->Prop}(hz:b.size<=sizeLine)(h:∀ tk k,Q (.bytes (b.toList.dropWhile set.contains).toArray tk) { s with toks:=k }):
  wpAny M A (Builtin.«bytes.lstrip» ⟨[.bytes b t,.bytes set u],[]⟩) (fun fin s'=>∃ v,fin=.done (.ret v)/\Q v s') E s:=G0 hz h (by kernel_rfl)
theorem OL{b set:Array UInt8}{Q:Value->Shared->Prop}(hz:b.size<=sizeLine)(h:∀ tk k,Q (.bytes (b.toList.reverse.dropWhile set.contains).reverse.toArray tk) { s with toks:=k }):
  wpAny M A (Builtin.«bytes.rstrip» ⟨[.bytes b t,.bytes set u],[]⟩) (fun fin s'=>∃ v,fin=.done (.ret v)/\Q v s') E s:=G0 hz h (by kernel_rfl)
theorem Qz{Q:Value->Shared->Prop}(h:Q (.bool (Builtin.Bytes.allOf (fun c=>Builtin.Bytes.isAlpha c||Builtin.Bytes.isDigit c) b.toList)) s):
  wpAny M A (Builtin.«bytes.isalnum» ⟨[.bytes b t],[]⟩) (fun fin s'=>∃ v,fin=.done (.ret v)/\Q v s') E s:=by
 refine(?_:wpAny M A (Builtin.Bytes.payload (.bytes b t) >>= fun r=>_) _ E s)
 exact oq (qR rfl (o6 ⟨_,rfl,h⟩))
theorem Mt{b old new:Array UInt8}{Q:Value->Shared->Prop}(ho:old.isEmpty=false)(hz:b.size+(Builtin.Bytes.occurrences b old 0 b.size).length*new.size<=sizeLine)(hz2:(Builtin.Bytes.joined new (Builtin.Bytes.between b old.size (Builtin.Bytes.occurrences b old 0 b.size))).size<=sizeLine∨(Builtin.Bytes.occurrences b old 0 b.size).isEmpty=true)(h:∀ tk k,Q (.bytes (if (Builtin.Bytes.occurrences b old 0 b.size).isEmpty=true then b else Builtin.Bytes.joined new (Builtin.Bytes.between b old.size (Builtin.Bytes.occurrences b old 0 b.size))) tk) { s with toks:=k }):
  wpAny M A (Builtin.«bytes.replace» ⟨[.bytes b t,.bytes old u,.bytes new v],[]⟩) (fun fin s'=>∃ v,fin=.done (.ret v)/\Q v s') E s:=by
 refine(?_:wpAny M A (Builtin.Bytes.bytesLike _ (.bytes old u) >>= fun r=>_) _ E s)
 refine oq (qR DQ ?_)
 refine oq (qR DQ ?_)
 refine oq (o6 ?_)
 refine oq (qR DQ ?_)
 refine oq (qR DQ ?_)
 refine oq (qR rfl ?_)
 simp only [ho,Bool.false_eq_true,if_false,Bool.false_and,Bool.or_false]
 (with_reducible_and_instances refine AA (pO (show (-1:Int)<0 by decide):) ?_)
 cases hc:(Builtin.Bytes.occurrences b old 0 b.size).isEmpty with
 | true=>
  (replace h:=(hc)▸h)
  refine oq (wpAny_rule (oq ?_))
  exact o6 (o6 ⟨_,rfl,h _ _⟩)
 | false=>
  (replace h:=(hc)▸h)
  simp only [Bool.false_eq_true,if_false] at h ⊢
  (refine AA (pH (by simp [Builtin.Bytes.tooLong];assumption)) ?_)
  refine oq ?_
  exact wpAny_mkBytes (o6 ⟨_,rfl,h _ _⟩) (hz2.elim id fun q=>by(replace q:=(hc)▸q);exact fT q)
theorem Q0(I:Nat->β->Shared->Prop){f:Nat->β->Sem (ForInStep β)}{Q:β->Shared->Prop}:∀ (n a:Nat) (b:β) (s:Shared),
  (∀ i st s,a<=i->i<a+n->I i st s->wpAny M A (f i st) (fun r s'=>∃ st',r=.yield st'/\I (i+1) st' s') E s)->I a b s->(∀ st s,I (a+n) st s->Q st s)->wpAny M A (forIn (List.range' a n) b f) Q E s:=by
 intro rx
 induction rx with
 | zero=>
  exact fun a b s _ h0 hq=>o6 (hq b s h0)
 | succ n ih=>
  exact fun a b s h h0 hq=>by
   (refine AA List.range'_succ ?_;rewrite [List.forIn_cons])
   refine oq (pN (h a b s (ou _) (by(exact pq fun q=>nl (IZ a n) ⟨false,(nP Ae (nW Ag)),Ae⟩ rfl q)) h0) (fun r s' hr=>?_) fun _ _ x=>x)
   (refine AE hr ?_;clear hr;rintro st' rfl hI)
   exact ih (a+1) st' s' (fun i st s h1 h2=>h i st s (qU h1) (by(exact pq fun q=>nl (FO a n i) ⟨false,(nP (nP Ae (nW Ag)) (nW BK)),(nP BK (nP (nW Ae) Ag))⟩ rfl (o7 q (qO h2))))) hI fun st s hI=>hq st s (by(refine AA (show a+(n+1)=a+1+n by exact(Nat.succ_add _ _).symm) ?_);exact hI)
inductive CL:List Value->List (Array UInt8)->Prop where
 | nil:CL [] []
 | cons {vs bs} (b:Array UInt8) (t:Tok):CL vs bs->CL (.bytes b t::vs) (b::bs)
theorem CL.length:∀ {vs:List Value} {bs:List (Array UInt8)},CL vs bs->vs.length=bs.length
 | _,_,.nil=>rfl
 | _,_,.cons _ _ h=>by simp [h.length]
theorem CL.get:∀ {vs:List Value} {bs:List (Array UInt8)} (i:Nat),CL vs bs->i<vs.length->∃ b t,vs[i]?=some (.bytes b t)/\bs[i]?=some b
 | _,_,i,.nil,h=>by simp at h
 | _,_,0,.cons b t r,_=>⟨b,t,rfl,rfl⟩
 | _,_,i+1,.cons b t r,h=>by
  (refine BS (r.get i (by simpa using h)) ?_;rintro b' t' h1 h2)
  exact⟨b',t',by trivial,by trivial⟩
theorem Vt{id:String}{b:Array UInt8}:Builtin.Bytes.takeBuffer? id (.bytes b t) k=pure (some (b,none)):=by
 delta Builtin.Bytes.takeBuffer?
 (refine AA KBy.own_buffer ?_)
 refine(?_:(Builtin.Bytes.buffer? id (.bytes b t) (k==Builtin.Bytes.fullReadOnly) >>= fun r=>pure (Option.map (fun x=>(x,none)) r))=_)
 have e:∀ f,Builtin.Bytes.buffer? id (.bytes b t) f=pure (some b):=fun f=>by
  kernel_rfl
 (refine AA (e ..:) ?_)
 rfl
theorem TO{id:String}(h:Q (some (b,none)) s):wpAny M A (Builtin.Bytes.takeBufferQuiet? id (.bytes b t) k) Q E s:=by
 exact oq (wpAny_attempt (qR Vt (o6 h)))
theorem Pz:∀ (l:List (Value×Option Value)) {keep:List Value} {Q:Unit->Shared->Prop},(∀ x∈l,x.2=none)->Q () s->wpAny M A (Builtin.Bytes.joinLetGo l keep) Q E s
 | [],_,_,_,h=>o6 h
 | (x,w)::r,keep,Q,hl,h=>by
  have:w=none:=hl (x,w) (List.Mem.head _)
  subst this
  exact oq (wpAny_letGo (Pz r (fun y hy=>hl y (by simp [hy])) h))
theorem TP{t:Tok}{vs:List Value}{bs:List (Array UInt8)}{Q:Value->Shared->Prop}(hl:s.heap.IsList a vs.toArray)(hb:CL vs bs)(hz:(bs.toArray.foldl (·+·.size) (sep.size*(bs.length - 1)))<=sizeLine)(hz2:(Builtin.Bytes.joined sep bs).size<=sizeLine)(h:∀ tk k,(bs.length≠1->Q (.bytes (Builtin.Bytes.joined sep bs) tk) { s with toks:=k }))(h1:∀ b tk,bs=[b]->Q (.bytes b tk) s):
  wpAny M A (Builtin.«bytes.join» ⟨[.bytes sep t,.ref a],[]⟩) (fun fin s'=>∃ v,fin=.done (.ret v)/\Q v s') E s:=by
 refine Ap fun G kk=>?_;obtain ⟨⟨cls,dd,data,sl⟩,ho,hc,n,hd⟩:=hl
 simp only at hc hd
 subst hc hd;refine kk ?_
 refine(?_:wpAny M A (Builtin.Bytes.joinItems (.ref a) >>= fun r=>_) _ E s)
 refine oq ?_
 refine oq (wpAny_typeOf ⟨_,ho,rfl⟩ ?_)
 refine o6 ?_
 refine oq (wpAny_seqItems ho rfl ?_)
 have key:∀ (hne:bs.length≠1) (f:Nat->Array (Array UInt8)×List (Value×Option Value)->Sem (ForInStep (Array (Array UInt8)×List (Value×Option Value)))) (k:Array (Array UInt8)×List (Value×Option Value)->Sem Fin),
   (∀ i st s',i<vs.length->s'=s->st.1=(bs.take i).toArray->(∀ x∈st.2,x.2=none/\x.1.onHeap=false)->∀ b t,vs[i]?=some (.bytes b t)->
    wpAny M A (f i st) (fun r s''=>s''=s/\∃ st',r=.yield st'/\st'.1=st.1.push b/\(∀ x∈st'.2,x.2=none/\x.1.onHeap=false)) E s')->
   (∀ st,st.1=bs.toArray->(∀ x∈st.2,x.2=none/\x.1.onHeap=false)->wpAny M A (k st) (fun fin s'=>∃ v,fin=.done (.ret v)/\Q v s') E s)->
   wpAny M A (forIn [:vs.toArray.size] ((#[],[]):Array (Array UInt8)×List (Value×Option Value)) f >>= k) (fun fin s'=>∃ v,fin=.done (.ret v)/\Q v s') E s:=fun hne f k hf hk=>by
  (rewrite [Std.Legacy.Range.forIn_eq_forIn_range'])
  refine oq (Q0 (fun i st s'=>s'=s/\st.1=(bs.take i).toArray/\(∀ x∈st.2,x.2=none/\x.1.onHeap=false)) _ _ _ _ ?_ ⟨rfl,by rfl,by trivial⟩ ?_)
  ·rintro i st s' _ hi ⟨h0,h2,h3⟩
   have hi':i<vs.length:=by simpa [Std.Legacy.Range.size] using hi
   (refine BS (hb.get i hi') ?_;rintro b t' e1 e2)
   refine pN (hf i st s' hi' h0 h2 h3 b t' e1) (fun r s'' hr=>?_) fun _ _ x=>x
   obtain ⟨h5,st',h4,h6,h7⟩:=hr
   refine⟨st',h4,h5,?_,h7⟩
   (refine AA h6 ?_;refine AA h2 ?_;refine AA (List.push_toArray ..:) ?_)
   (refine AA List.take_add_one ?_;refine AA e2 ?_);rfl
  ·rintro st s' ⟨h0,h2,h3⟩
   cases h0
   refine hk st ?_ h3
   (refine AA h2 ?_)
   congr 1
   refine qi ?_
   simp [Std.Legacy.Range.size];exact pL (hb.length).symm
 have fin:bs.length≠1->∀ st:Array (Array UInt8)×List (Value×Option Value),st.1=bs.toArray->(∀ x∈st.2,x.2=none/\x.1.onHeap=false)->∀ id,wpAny M A (do
   let sep ←Builtin.Bytes.payload (.bytes sep t)
   if Builtin.Bytes.tooLong (st.1.foldl (·+·.size) (sep.size*(st.1.size - 1)))=true then unsupported id
   let result ←Builtin.Bytes.Kind.new .bytes (Builtin.Bytes.joined sep st.1.toList)
   holding (result::st.2.flatMap fun(y,u)=>y::u.toList) point
   Builtin.Bytes.joinLetGo st.2 [result]
   ret result) (fun fin s'=>∃ v,fin=.done (.ret v)/\Q v s') E s:=fun hne st e1 e2 id=>by
  refine oq (qR rfl ?_)
  (refine AA e1 ?_;refine AA (pH (by delta Builtin.Bytes.tooLong;simpa using hz)) ?_)
  refine oq (wpAny_mkBytes ?_ hz2)
  refine oq (pR (wpAny_point ?_))
  exact oq (Pz _ (fun x hx=>(e2 x hx).1) (o6 ⟨_,rfl,h _ _ hne⟩))
 have step:∀ i (st:Array (Array UInt8)×List (Value×Option Value)),i<vs.length->(∀ x∈st.2,x.2=none/\x.1.onHeap=false)->∀ b t,vs[i]?=some (.bytes b t)->
   st.2.any (·.1.onHeap)=false/\vs.toArray.getD i .none=.bytes b t:=fun i st hi h3 b t hv=>by
  refine⟨List.any_eq_false.mpr fun x hx=>by(refine AA ((h3 x hx).2) ?_;trivial),?_⟩
  simp [hv]
 induction hb with
 | nil=>exact key (by simp) _ _ (fun i st s' hi=>by simp at hi) (fun st e1 e2=>fin (by simp) st e1 e2 _)
 | cons b tb r=>
  induction r with
  | nil=>
   refine oq (wpAny_typeOf (pY _ _ _) ?_)
   exact oq (wpAny_rule (o6 ⟨_,rfl,h1 _ _ rfl⟩))
  | cons b' tb' r=>
   refine key (by simp) _ _ (fun i st s' hi e0 e1 e2 bb t hv=>?_) (fun st e1 e2=>fin (by simp) st e1 e2 _)
   cases e0
   (refine AM (step i st hi e2 bb t hv) ?_;rintro f1 f2)
   refine oq (wpAny_seqItems ho rfl ?_)
   simp only [f2]
   (refine AA (pH (by(refine AA f1 ?_;trivial))) ?_)
   refine oq (pR (TO ?_))
   refine oq (wpAny_seqItems ho rfl ?_)
   simp only [bne_self_eq_false,Bool.false_eq_true,if_false]
   refine o6 ⟨rfl,_,rfl,rfl,fun x hx=>?_⟩
   rcases pV.mp hx with hx | hx
   ·exact e2 x hx
   ·simp at hx;subst hx;exact⟨rfl,rfl⟩
end
end Mine.Lake
set_option maxHeartbeats 4000000
namespace Mine.Lake
section
variable{C:Al}{A:Around}{s:Shared}{X:Addr->Prop}{E:Value->Shared->Prop}
open Builtin Builtin.Str in
theorem Q1(hy:(y.length==0)=false)(hq:∀ l n k,l.map (·.1)=Txt.split x y->Q (.ref s.heap.objs.size) { s with heap:=s.heap.push { cls:=.type "list",data:=.seq (strValues l).toArray n },toks:=k })(hsz:x.length<=sizeLine)(hsz2:(partsBetween x (occurrences x y 0 x.length (x.length+1)) y.length).length<=sizeLine):
  wpAny (model C.prog C.w) A (call (.builtin "str.split") [.str x t,.str y u]) Q E s:=by
 induction h1:(decide (x.length<y.length)||decide (strKind x<strKind y))
 ·induction hf:(occurrences x y 0 x.length (x.length+1)).isEmpty
  ·refine call_meets F.slot_str_split (typeIs_str _ _ _) F.entry_str_split (F.args_str_split_2 _ _) (meets_str_split_sep x y t u h1 hy hf hsz hsz2) ?_
   (refine AA (strsFrom_eq ..:) ?_)
   exact hq (numbered s.toks _) _ _ ((numbered_texts _ _).trans ((pH (ne_true_of_eq_false h1)).trans (pH (ne_true_of_eq_false hf))).symm)
  ·exact call_meets F.slot_str_split (typeIs_str _ _ _) F.entry_str_split (F.args_str_split_2 _ _) (meets_str_split_not_found x y t u h1 hy hf)
    (hq [(x,t)] _ s.toks ((pH (ne_true_of_eq_false h1)).trans (pO hf)).symm)
 ·exact call_meets F.slot_str_split (typeIs_str _ _ _) F.entry_str_split (F.args_str_split_2 _ _) (meets_str_split_cannot_occur x y t u h1)
   (hq [(x,t)] _ s.toks (pO h1).symm)
theorem He:∀ {l:List (Str×Tok)} {h:Heap},(∀ p∈l,p.1.cps.size<=sizeLine)->AF C h X ((l.map (·.1)).map fun x=>.str x.cps.toList) (strValues l)
 | [],h,_=>rfl
 | p::l,h,k=>by
  have m:=ML.mk (k p List.mem_cons_self) p.2
  exact⟨_,_,m,He fun q hq=>k q (List.mem_cons_of_mem _ hq)⟩
open Builtin Builtin.Str in
theorem Kd(x:Str)(cuts:List Nat)(w:Nat):(partsBetween x cuts w).length=cuts.length+1:=by
 delta partsBetween
 simp
open Builtin Builtin.Str in
theorem Q2(x:Str)(cuts:List Nat)(w:Nat):∀ p∈partsBetween x cuts w,p.cps.size<=x.cps.size:=fun p hp=>by
 (refine AE (qL.mp hp) ?_;rintro ⟨i,j⟩ _ rfl)
 simp only [strSub,Array.size_extract]
 exact om (Nat.sub_le _ _) (Nat.min_le_right _ _)
open Builtin Builtin.Str in
theorem Q3(x y:Str):∀ p∈Txt.split x y,p.cps.size<=x.cps.size:=fun p hp=>by
 delta Txt.split at hp
 split at hp
 ·simp at hp;subst hp;exact ou _
 ·split at hp
  ·simp at hp;subst hp;exact ou _
  ·exact Q2 _ _ _ p hp
open Builtin Builtin.Str in
theorem split_len(x y:Str):(Txt.split x y).length<=x.length+2:=by
 delta Txt.split
 split
 ·exact pW _
 ·split
  ·exact pW _
  ·(refine AA (Kd ..:) ?_)
   have:=StrLaws.occ_length_le x y 0 x.length (x.length+1)
   exact Nat.lt_succ_of_le this
theorem Q4:∀ (xs:List (List Nat)),(Txt.join (toS []) (xs.map toS))=toS xs.flatten:=fun xs=>by
 have key:∀ (xs:List (List Nat)) (a:Array Nat),(xs.map toS).foldl (fun acc p=>acc ++ (toS []).cps ++ p.cps) a=a ++ xs.flatten.toArray:=by
  intro xs
  induction xs with
  | nil=>intro a;rfl
  | cons x xs ih=>intro a;simp only [List.map_cons,List.foldl_cons,ih];simp
 delta Txt.join Builtin.Str.glued
 induction xs with
 | nil=>rfl
 | cons x xs=>
  simp only [List.map_cons,List.drop_succ_cons,List.drop_zero,List.headD_cons,key]
  simp
theorem JG:∀ {vs:List Value} {xs:List Str},StrsAre vs xs->∃ l:List (Str×Tok),strValues l=vs/\l.map (·.1)=xs
 | _,_,.nil=>⟨[],rfl,rfl⟩
 | _,_,.cons s t r=>by
  (refine AE (JG r) ?_;rintro l h1 h2)
  exact⟨(s,t)::l,by simp [strValues] at h1 ⊢;exact h1,by simp [h2]⟩
theorem Mu(xs:List (List Nat)):((xs.map toS).map (·.length)).sum=xs.flatten.length:=by
 induction xs with
 | nil=>rfl
 | cons x xs ih=>
  simp only [List.map_cons,List.sum_cons,ih,List.flatten_cons,List.length_append,DN]
theorem JH:∀ {bs:List (List Nat)} {vs:List Value},AF C s.heap X (bs.map .bytes) vs->CL vs (bs.map toB)/\∀ b∈bs,BL b
 | [],vs,h=>(show vs=[] from h)▸⟨.nil,fun _ q=>(by cases q)⟩
 | i::bs,vs,h=>by
  induction h with | mk v vs a b=>
  induction a with | mk o _ t=>
  (refine AM (JH b) ?_;rintro h3 h4)
  exact⟨.cons (toB i) t h3,fun b hb=>(pj.mp hb).elim (fun e=>e▸o) (h4 b)⟩
theorem JI(xs:List (List Nat)):Builtin.Bytes.joined (toB []) (xs.map toB)=toB xs.flatten:=by
 have key:∀ (xs:List (List Nat)) (k:Nat) (a:Array UInt8),((xs.map toB).zipIdx k).foldl (fun out (p,i)=>(if i > 0 then out ++ toB [] else out) ++ p) a=a ++ toB xs.flatten:=by
  intro xs
  induction xs with
  | nil=>intro k a;rfl
  | cons x xs ih=>
   intro k a
   simp only [List.map_cons,List.zipIdx_cons,List.foldl_cons,ih,List.flatten_cons,Iw]
   split<;>simp [toB]
 delta Builtin.Bytes.joined
 (refine AA (key ..:) ?_)
 simp
theorem CC(o:BL b)(hz:b.length<=sizeLine):AJ C h X (.bytes b) (.bytes (toB b) t):=.mk o hz t
theorem La(hz:b.length<=sizeLine):AJ C h X (.str b) (.str (toS b) t):=.mk hz t
theorem Vu(hz:BL z){c:Nat}(hc:c<256):(toB z).contains (UInt8.ofNat c)=z.contains c:=by
 have e:=Bz hc hz
 refine(?_:(toB z).contains c.toUInt8=_)
 (refine AA e ?_)
 induction z with
 | nil=>rfl
 | cons a z ih=>
  simp only [List.any_cons,List.contains_cons]
  (refine AA (ih (fun x hx=>hz x (by simp [hx])) (Bz hc fun x hx=>hz x (by simp [hx]))) ?_)
  by_cases h:a=c
  ·subst h;rfl
  ·(refine AA (qT.mpr h) ?_;refine AA (qT.mpr (fun q=>h q.symm)) ?_;rfl)
theorem OM:∀ {d:List Nat},(∀ c∈d,p c=q c)->d.dropWhile p=d.dropWhile q:=by
 intro rx
 induction rx with
 | nil=>
  exact fun _=>rfl
 | cons a d ih=>
  exact fun h=>by
   (refine AA List.dropWhile_cons ?_;refine AA List.dropWhile_cons ?_)
   (refine AA (h a (List.Mem.head _)) ?_;refine AA (ih fun c hc=>h c (by simp [hc])) ?_;rfl)
theorem G1(hz:BL z)(hd:BL d):(d.map UInt8.ofNat).dropWhile (toB z).contains=(Bf z d).map UInt8.ofNat:=by
 (refine AA List.dropWhile_map ?_)
 congr 1
 exact OM fun c hc=>Vu hz (hd c hc)
theorem Ke(hz:BL z)(hd:BL d):((d.map UInt8.ofNat).reverse.dropWhile (toB z).contains).reverse=(BP z d).map UInt8.ofNat:=by
 (refine BO List.map_reverse ?_)
 have:=G1 hz (d:=d.reverse) (fun c hc=>hd c (by simpa using hc))
 (refine AA this ?_;refine BO List.map_reverse ?_)
 rfl
theorem Fr(hd:BL d):BL (Bf z d):=fun c hc=>hd c ((List.dropWhile_sublist _).subset hc)
theorem JJ(hd:BL d):BL (BP z d):=fun c hc=>hd c (by
 have:=(List.dropWhile_sublist z.contains).subset (by simpa [BP] using hc)
 simpa using this)
theorem Hf(z d:List Nat):(Bf z d).length<=d.length:=(List.dropWhile_sublist _).length_le
theorem Hg(z d:List Nat):(BP z d).length<=d.length:=by
 have:=(List.dropWhile_sublist (l:=d.reverse) z.contains).length_le
 simpa [BP] using this
theorem Mv{c:Nat}(hc:c<256):(Builtin.Bytes.isAlpha (UInt8.ofNat c)||Builtin.Bytes.isDigit (UInt8.ofNat c))=alnum c:=by
 have:∀ c∈List.range 256,(Builtin.Bytes.isAlpha (UInt8.ofNat c)||Builtin.Bytes.isDigit (UInt8.ofNat c))=alnum c:=by decide +kernel
 exact this c (List.mem_range.mpr hc)
theorem Q5(hd:BL d):Builtin.Bytes.allOf (fun c=>Builtin.Bytes.isAlpha c||Builtin.Bytes.isDigit c) (d.map UInt8.ofNat)=(!d.isEmpty&&d.all alnum):=by
 delta Builtin.Bytes.allOf
 (refine AA List.all_map ?_)
 congr 1
 ·induction d<;>rfl
 ·(refine F7 (Bool.eq_iff_iff:) ?_;refine F7 (pr:) ?_;refine F7 (pr:) ?_)
  constructor
  ·intro h c hc;(refine BO (Mv (hd c hc)) ?_);exact h c hc
  ·intro h c hc;refine(?_:(Builtin.Bytes.isAlpha (UInt8.ofNat c)||Builtin.Bytes.isDigit (UInt8.ofNat c))=true);(refine AA (Mv (hd c hc)) ?_);exact h c hc
theorem find?_congr'{α:Type}{p q:α->Bool}:∀ {l:List α},(∀ x∈l,p x=q x)->l.find? p=l.find? q:=by
 intro rx
 induction rx with
 | nil=>
  exact fun _=>rfl
 | cons a l ih=>
  exact fun h=>by
   simp only [List.find?_cons]
   (refine AA (h a (List.Mem.head _)) ?_;refine AA (ih fun c hc=>h c (by simp [hc])) ?_;rfl)
theorem Vv(hd:BL d)(hc:c<256)(hj:j<=d.length):Builtin.Bytes.find? (toB d) (toB [c]) i j=(List.range' i (j - i)).find? (fun k=>d[k]?==some c):=by
 delta Builtin.Bytes.find?
 have e2:(List.range (j+1 - (i+1))).map (·+i)=List.range' i (j - i):=by
  (refine AA List.range'_eq_map_range ?_;refine AA (show j+1 - (i+1)=j - i by exact Nat.add_sub_add_right ..) ?_)
  exact List.map_congr_left fun k _=>Nat.add_comm k i
 (refine AA e2 ?_)
 refine find?_congr' fun k hk=>?_
 have:=Iz (d.map UInt8.ofNat) (UInt8.ofNat c) k
 (refine F7 (Bool.eq_iff_iff:) ?_)
 refine Iff.trans this ?_
 (refine AA (qB) ?_;rewrite [beq_iff_eq])
 constructor
 ·intro h
  (refine AE (qN.mp h) ?_;rintro x hx he)
  (refine AA hx ?_;refine AA (ofNat_inj (hd x (qE hx)) hc he) ?_;rfl)
 ·intro h;(refine AA h ?_);rfl
theorem Q6:∀ c∈List.range 128,Unicode.upperOf c=[MH c]:=by decide +kernel
theorem Mw(h:∀ c∈x,c<128):placed (toS x) (fun _ c=>Unicode.upperOf c)=(x.map MH).toArray:=by
 delta placed
 have e:(toS x).cps.mapIdx (fun(_:Nat) (c:Nat)=>(Unicode.upperOf c).toArray)=((x.map fun c=>[MH c]).map List.toArray).toArray:=by
  (refine AA List.mapIdx_toArray ?_)
  congr 1
  apply List.ext_getElem?
  intro i
  (refine AA (List.getElem?_mapIdx) ?_;refine AA (qB) ?_;refine AA (qB) ?_)
  cases hx:x[i]? with
  | none=>rfl
  | some c=>
   have:=Q6 c (List.mem_range.mpr (h c (qE hx)))
   simp [this]
 (refine AA e ?_)
 (refine AA Array.flatten_toArray_map ?_)
 congr 1
 clear e h
 induction x with
 | nil=>rfl
 | cons a x ih=>simp [ih]
noncomputable abbrev GP(C:Al)(A:Around)(X:Addr->Prop)(s:Shared)(id:String)(a:PV)(l:List PV)(Q:PV->Prop):Prop:=∀ va vs,AJ C s.heap X a va->AF C s.heap X l vs->R0 C A X (call (.builtin id) (va::vs)) s Q
variable{Q:PV->Prop}
theorem Cy(h:n<=BE):n<=sizeLine:=om h Bu
theorem Vw{xs:List (List Nat)}(h1:xs.flatten.length<=BE)(q:Q (.str xs.flatten)):GP C A X s "str.join" (.str []) [.lst (xs.map .str)] Q:=fun va vs ha hl E=>by
 induction ha with | mk _ t=>
 (refine AE (C8 hl) ?_;rintro v e hv)
 subst e
 induction hv with | mk hz d ws hx hlist hr=>
 (refine AE (JG (Iy hr)) ?_;rintro l' e1 e2)
 subst e1
 have hj:JoinOk (toS []) (xs.map toS)=true:=by
  delta JoinOk
  (refine AA (StrLaws.joinTotal ..:) ?_;refine AA (Mu ..:) ?_;refine AA (Nat.add_zero ..:) ?_)
  delta Builtin.Str.tooLong
  (refine AA (qg (by have:=Cy h1;exact Nat.not_lt_of_le this)) ?_);rfl
 refine SC.join hlist e2 hj fun t' k=>?_
 (refine AA (Q4 ..:) ?_)
 exact⟨AG.toks,_,La (Cy h1),q⟩
theorem m_split(hX:∀ a,X a->a<s.heap.objs.size)(h1:x.length<=BE)(q:Q (.lst ((Fj x [c]).map .str))):GP C A X s "str.split" (.str x) [.str [c]] Q:=fun va vs ha hl E=>by
 have line:sizeLine=16777216:=by rfl
 cases ha with | mk _ t=>
 (refine AE (C8 hl) ?_;rintro v e hv)
 subst e
 cases hv with | mk _ u=>
 have hx:=DN x
 refine Q1 (by rfl) (fun l' n k e=>⟨BX,_,Cr hX ?_ ?_,q⟩) (by assumption) ?_
 ·have:AF C s.heap X ((l'.map (·.1)).map fun x=>.str x.cps.toList) (strValues l'):=He fun p hp=>by
   have:=Q3 (toS x) (toS [c]) p.1 (e▸List.mem_map_of_mem hp)
   have e2:(toS x).cps.size=x.length:=by assumption
   exact oy fun q=>nl (jk sizeLine p.fst.cps.size ((toS x).cps.size) x.length BE) ⟨false,(nP (nW Ae) (nP BK (nP Ag (nP MK (nP (nK 16777216) FM))))),(nP Ag (nP FM (nP BK (nP (nK 1048576) (nP Ae MK)))))⟩ rfl (nQ q (o7 (pL e2) (o7 this (o7 (pL (rfl)) (o7 (pL (Eq.symm line)) h1)))))
  delta Fj
  rw [List.map_map,←e]
  exact this
 ·delta Fj
  rw [List.length_map,List.length_map]
  have:=split_len (toS x) (toS [c])
  exact oy fun q=>nl (jk sizeLine ((Txt.split (toS x) (toS [c])).length) ((toS x).length) x.length BE) ⟨false,(nP (nW Ae) (nP Ag (nP BK (nP MK (nP (nK 16777216) FM))))),(nP Ag (nP (nP BK (nK 2)) (nP FM (nP (nK 1048576) (nP Ae MK)))))⟩ rfl (nQ q (o7 this (o7 (pL hx) (o7 (pL (rfl)) (o7 (pL (Eq.symm line)) h1)))))
 ·rw [Kd]
  have:=StrLaws.occ_length_le (toS x) (toS [c]) 0 (toS x).length ((toS x).length+1)
  exact oy fun q=>nl (jk sizeLine ((Builtin.Str.occurrences (toS x) (toS [c]) 0 (toS x).length ((toS x).length+1)).length) ((toS x).length) x.length BE) ⟨false,(nP (nW Ae) (nP Ag (nP BK (nP MK (nP (nK 16777216) FM))))),(nP (nW Ag) (nP (nW BK) (nP FM (nP (nK 1048576) (nP Ae MK)))))⟩ rfl (nQ q (o7 this (o7 (pL hx) (o7 (pL (rfl)) (o7 (pL (Eq.symm line)) h1)))))
theorem m_upper(h1:x.length<=BE)(h2:∀ c∈x,c<128)(q:Q (.str (x.map MH))):GP C A X s "str.upper" (.str x) [] Q:=fun va vs ha hl E=>by
 induction ha with | mk _ t=>
 subst hl
 refine call_gives F.slot_str_upper (typeIs_str _ _ _) F.entry_str_upper (F.args_str_upper_1 _) (gives_str_upper (toS x) t (by(refine AA (Mw h2) ?_);delta Builtin.Str.tooLong;simp;exact Cy h1)) ?_
 (refine AA (Mw h2) ?_)
 exact⟨(pK (as:=x) _▸Cy h1:(x.map MH).length<=sizeLine),AG.toks,.str (x.map MH),La (pK (as:=x) _▸Cy h1:(x.map MH).length<=sizeLine),q⟩
theorem Q7:∀ (xs:List (List Nat)) n,(xs.map toB).toArray.foldl (fun x y=>x+y.size) n=n+xs.flatten.length:=by
 intro xs
 induction xs with
 | nil=>intro n;rfl
 | cons x xs ih=>intro n;simp only [List.map_cons,List.foldl_toArray'] at ih ⊢;simp only [List.foldl_cons,ih,List.flatten_cons,List.length_append,A1];exact Nat.add_assoc _ _ _
theorem Vx{xs:List (List Nat)}(h1:xs.flatten.length<=BE)(q:Q (.bytes xs.flatten)):GP C A X s "bytes.join" (.bytes []) [.lst (xs.map .bytes)] Q:=fun va vs ha hl E=>by
 induction ha with | mk _ _ t=>
 (refine AE (C8 hl) ?_;rintro v e hv)
 subst e
 induction hv with | mk hz d ws hx hlist hr=>
 (refine AM (JH hr) ?_;rintro hb ho)
 refine qZ GN (pY _ _ _) J7 (TP hlist hb ?_ ?_ (fun tk k _=>?_) (fun b tk eb=>?_)) (LX _ _)
 ·(refine AA (Q7 ..:) ?_;refine AA (Nat.zero_mul ..:) ?_;refine AA (qC ..:) ?_);exact(Cy h1)
 ·(refine AA (JI ..:) ?_;refine AA (A1 ..:) ?_);exact(Cy h1)
 ·(refine AA (JI ..:) ?_)
  exact⟨AG.toks,_,CC (fun c hc=>(by refine AE (List.mem_flatten.mp hc) ?_;rintro b hb' hc;exact ho b hb' c hc)) (Cy h1),q⟩
 ·have:b=toB xs.flatten:=by
   match xs,eb with
   | [x],eb=>simp at eb;simp [←eb]
  (refine AA this ?_)
  exact⟨AG.refl _ _ _ _,_,CC (fun c hc=>(by refine AE (List.mem_flatten.mp hc) ?_;rintro b hb' hc;exact ho b hb' c hc)) (Cy h1),q⟩
theorem Kf{vs:List Value}(h:AF C s.heap X [p,q,r] vs):∃ v u w,vs=[v,u,w]/\AJ C s.heap X p v/\AJ C s.heap X q u/\AJ C s.heap X r w:=by
 induction h with | mk v ws a b=>
 (refine CQ (C9 b) ?_;rintro u w e b c)
 exact⟨v,u,w,congrArg (v::·) e,a,b,c⟩
theorem TQ{i j:Int}(od:BL d)(hc:c<256)(h1:0<=j)(h0:0<=i)(h2:j<=d.length):(match (if (j - i)<(toB [c]).size then none else some (i.toNat,j.toNat):Option (Nat×Nat)).bind (fun x=>Builtin.Bytes.find? (toB d) (toB [c]) x.1 x.2) with | some k=>(k:Int) | none=>-1)=EU d c i.toNat j.toNat:=by
 delta EU
 by_cases hij:j - i<((1:Nat):Int)
 ·(refine AA (pO hij) ?_;refine AA (nR hij) ?_);rfl
 ·(refine AA (pH hij) ?_;refine AA (Option.bind_some ..:) ?_;refine AA (Vv od hc (Int.toNat_le.mpr h2)) ?_)<;>rfl
theorem m_find{i j:Int}(h0:0<=i)(h1:0<=j)(h2:j<=d.length)(q:Q (.int (EU d c i.toNat j.toNat))):GP C A X s "bytes.find" (.bytes d) [.bytes [c],.int i,.int j] Q:=fun va vs ha hl E=>by
 induction ha with | mk od hz t=>
 (refine FZ (Kf hl) ?_;rintro v u w e hv hu hw)
 subst e
 induction hv with | mk oc _ t1=>induction hu with | mk t2=>induction hw with | mk t3=>
 refine qZ GO (pY _ _ _) J8 (TN h0 h1 (by(refine AA (A1 ..:) ?_);exact h2) fun tk k=>?_) (LZ _ _ _ _)
 exact⟨AG.toks,.int (EU d c i.toNat j.toNat),(congrArg (fun z=>Xy (EU d c i.toNat j.toNat) (Value.int z tk)) (TQ od (oc c List.mem_cons_self) h1 h0 h2)).mpr (.mk tk),q⟩
theorem m_strip{d z:List Nat}(q:Q (.bytes (BP z (Bf z d)))):GP C A X s "bytes.strip" (.bytes d) [.bytes z] Q:=fun va vs ha hl E=>by
 induction ha with | mk od hz t=>
 (refine AE (C8 hl) ?_;rintro v e hv)
 subst e
 induction hv with | mk oz _ u=>
 refine qZ FV (pY _ _ _) JB (Qy (by(refine AA (A1 ..:) ?_);exact hz) fun tk k=>?_) (KA _ _)
 (refine AA (G1 oz od) ?_;refine AA (Ke oz (Fr od)) ?_)
 exact⟨AG.toks,_,CC (JJ (Fr od)) (om (Hg _ _) (om (Hf _ _) hz)),q⟩
theorem m_lstrip{d z:List Nat}(q:Q (.bytes (Bf z d))):GP C A X s "bytes.lstrip" (.bytes d) [.bytes z] Q:=fun va vs ha hl E=>by
 induction ha with | mk od hz t=>
 (refine AE (C8 hl) ?_;rintro v e hv)
 subst e
 induction hv with | mk oz _ u=>
 refine qZ Ec (pY _ _ _) Ht (OK (by(refine AA (A1 ..:) ?_);exact hz) fun tk k=>?_) (JD _ _)
 (refine AA (G1 oz od) ?_)
 exact⟨AG.toks,_,CC (Fr od) (om (Hf _ _) hz),q⟩
theorem m_rstrip{d z:List Nat}(q:Q (.bytes (BP z d))):GP C A X s "bytes.rstrip" (.bytes d) [.bytes z] Q:=fun va vs ha hl E=>by
 induction ha with | mk od hz t=>
 (refine AE (C8 hl) ?_;rintro v e hv)
 subst e
 induction hv with | mk oz _ u=>
 refine qZ Ed (pY _ _ _) Hu (OL (by(refine AA (A1 ..:) ?_);exact hz) fun tk k=>?_) (JF _ _)
 (refine AA (Ke oz od) ?_)
 exact⟨AG.toks,_,CC (JJ od) (om (Hg _ _) hz),q⟩
theorem G2(d old new:List Nat):CK d old new=if (Builtin.Bytes.occurrences (toB d) (toB old) 0 (toB d).size).isEmpty=true then d else KV (Builtin.Bytes.joined (toB new) (Builtin.Bytes.between (toB d) (toB old).size (Builtin.Bytes.occurrences (toB d) (toB old) 0 (toB d).size))):=rfl
theorem Q8(b:Array UInt8):toB (KV b)=b:=by simp [toB,KV,Function.comp_def]
theorem TR(b:Array UInt8):BL (KV b):=fun x hx=>by
 (refine AE (qL.mp hx) ?_;rintro y _ rfl)
 exact y.toNat_lt
theorem m_replace{d old new:List Nat}(h0:old≠[])(h1:d.length+(Builtin.Bytes.occurrences (toB d) (toB old) 0 (toB d).size).length*new.length<=BE)(h2:(CK d old new).length<=BE)(q:Q (.bytes (CK d old new))):GP C A X s "bytes.replace" (.bytes d) [.bytes old,.bytes new] Q:=fun va vs ha hl E=>by
 induction ha with | mk od hz t=>
 (refine CQ (C9 hl) ?_;rintro v u e hv hu)
 subst e
 induction hv with | mk oo _ t1=>induction hu with | mk on _ t2=>
 have eo:(toB old).isEmpty=false:=by
  induction old with
  | nil=>exact absurd rfl h0
  | cons a r=>rfl
 have od':BL (CK d old new):=by
  (refine AA (G2 ..:) ?_);split
  ·exact od
  ·exact TR _
 rw [G2] at (h2)
 have hs:(Builtin.Bytes.joined (toB new) (Builtin.Bytes.between (toB d) (toB old).size (Builtin.Bytes.occurrences (toB d) (toB old) 0 (toB d).size))).size<=sizeLine∨(Builtin.Bytes.occurrences (toB d) (toB old) 0 (toB d).size).isEmpty=true:=by
  split at (h2)
  ·exact .inr (by assumption)
  ·exact .inl (by simpa only [KV,List.length_map,Array.length_toList] using Cy (h2))
 refine qZ EF (pY _ _ _) Gy (Mt eo (by rw [A1 d,A1 new] at *;exact Cy h1) hs fun tk k=>?_) (Hw _ _ _)
 have e:(if (Builtin.Bytes.occurrences (toB d) (toB old) 0 (toB d).size).isEmpty=true then toB d else Builtin.Bytes.joined (toB new) (Builtin.Bytes.between (toB d) (toB old).size (Builtin.Bytes.occurrences (toB d) (toB old) 0 (toB d).size)))=toB (CK d old new):=by
  (refine AA (G2 ..:) ?_)
  split
  ·rfl
  ·(refine AA (Q8 ..:) ?_;rfl)
 (refine AA e ?_)
 exact⟨AG.toks,_,CC od' (Cy h2),q⟩
theorem Vy(q:Q (.bool (!d.isEmpty&&d.all alnum))):GP C A X s "bytes.isalnum" (.bytes d) [] Q:=fun va vs ha hl E=>by
 induction ha with | mk od hz t=>
 subst hl
 refine qZ EG (pY _ _ _) Gz (Qz ?_) (Hy _)
 (refine AA (Q5 od) ?_)
 exact⟨AG.refl _ _ _ _,.bool (!d.isEmpty&&d.all alnum),rfl,q⟩
theorem YX(q:Q (.int ((f k).getD v))):GP C A X s "dict.get" (.idict f) [.int k,.int v] Q:=fun va vs ha hl E=>by
 induction ha with | mk d g _ hm=>
 (refine CQ (C9 hl) ?_;rintro v1 v2 e hv1 hv2)
 subst e
 induction hv1 with | mk t1=>induction hv2 with | mk t2=>
 refine call_meetsIn F.slot_dict_get hm.m.typeIs F.entry_dict_get (F.args_dict_get_3 _ _ _) (meets_dict_get_default (intKind C.prog C.w) d (k:=k) (by simp [intKind,Value.isInt]) hm.nm _) ⟨g,hm.m,AG.toks,.int ((f k).getD v),?_,q⟩
 have:=hm.at_ k
 generalize g k=gk at this ⊢
 generalize f k=fk at this ⊢
 induction this with
 | none=>exact .mk t2
 | some i t=>exact .mk t
theorem YY(q:Q (.str ((f k).getD v))):GP C A X s "dict.get" (.sdict f) [.str k,.str v] Q:=fun va vs ha hl E=>by
 induction ha with | mk d g _ hm=>
 (refine CQ (C9 hl) ?_;rintro v1 v2 e hv1 hv2)
 subst e
 induction hv1 with | mk _ t1=>induction hv2 with | mk hz2 t2=>
 refine call_meetsIn F.slot_dict_get hm.m.typeIs F.entry_dict_get (F.args_dict_get_3 _ _ _) (meets_dict_get_default (PySem.strKind C.prog C.w) d (k:=toS k) (by simp [PySem.strKind,Value.isStrOf]) hm.nm _) ⟨g,hm.m,AG.toks,.str ((f k).getD v),?_,q⟩
 have:=hm.at_ k
 generalize g (toS k)=gk at this ⊢
 generalize f k=fk at this ⊢
 cases this with
 | none=>exact .mk hz2 t2
 | some hz t=>exact .mk hz t
end
section
variable{C:Al}{s:Shared}{A:Around}{E:Value->Shared->Prop}{X:Addr->Prop}{Q:PV->Prop}
theorem E6:∀ a,Value.str x t=.ref a->∃ o,s.heap.get? a=some o/\o.dict=none:=fun _ e=>(by injection e)
theorem Bv:∀ a,Value.bytes x t=.ref a->∃ o,s.heap.get? a=some o/\o.dict=none:=fun _ e=>(by injection e)
theorem Dt:PlainAttrs "dict" :=
 ⟨⟨"dict.__getattribute__",by kernel_rfl,by decide +kernel⟩,by kernel_rfl⟩
theorem Ee:typeOf (.builtin "dict.get")=pure (.type "method_descriptor"):=by refine(?_:builtinType _=_);(refine AA builtinType_eq_fast ?_);kernel_rfl
structure mZ(s:Shared)(va:Value)(n:Str)(id:String):Prop where
 h:∃ T,s.TypeIs va T/\PlainAttrs T/\PySem.Slot T n id
 ty:typeOf (.builtin id)=pure (.type "method_descriptor")
 nd:∀ a,va=.ref a->∃ ob,s.heap.get? a=some ob/\ob.dict=none
theorem YZ(ha:AJ C s.heap X a va):Hd (mid m a) fun id=>mZ s va (Str.ofString (Vj m)) id:=by
 cases a with
 | str x=>
  induction ha with | mk _ t=>
  induction m with
  | join=>exact⟨⟨_,typeIs_str _ _ _,PySem.F.plainAttrs_str,PySem.F.slot_str_join⟩,PySem.F.type_str_join,E6⟩
  | split=>exact⟨⟨_,typeIs_str _ _ _,PySem.F.plainAttrs_str,PySem.F.slot_str_split⟩,PySem.F.type_str_split,E6⟩
  | upper=>exact⟨⟨_,typeIs_str _ _ _,PySem.F.plainAttrs_str,PySem.F.slot_str_upper⟩,PySem.F.type_str_upper,E6⟩
  | _=>trivial
 | bytes x=>
  induction ha with | mk _ _ t=>
  induction m with
  | join=>exact⟨⟨_,pY _ _ _,FB.plainAttrs_bytes,GN⟩,LW,Bv⟩
  | find=>exact⟨⟨_,pY _ _ _,FB.plainAttrs_bytes,GO⟩,LY,Bv⟩
  | strip=>exact⟨⟨_,pY _ _ _,FB.plainAttrs_bytes,FV⟩,J9,Bv⟩
  | lstrip=>exact⟨⟨_,pY _ _ _,FB.plainAttrs_bytes,Ec⟩,JC,Bv⟩
  | rstrip=>exact⟨⟨_,pY _ _ _,FB.plainAttrs_bytes,Ed⟩,JE,Bv⟩
  | replace=>exact⟨⟨_,pY _ _ _,FB.plainAttrs_bytes,EF⟩,Hv,Bv⟩
  | isalnum=>exact⟨⟨_,pY _ _ _,FB.plainAttrs_bytes,EG⟩,Hx,Bv⟩
  | _=>trivial
 | idict f=>
  induction ha with | mk b g _ hm=>
  induction m with
  | get=>exact⟨⟨_,hm.m.typeIs,Dt,PySem.F.slot_dict_get⟩,Ee,hm.m.noDict⟩
  | _=>trivial
 | sdict f=>
  induction ha with | mk b g _ hm=>
  induction m with
  | get=>exact⟨⟨_,hm.m.typeIs,Dt,PySem.F.slot_dict_get⟩,Ee,hm.m.noDict⟩
  | _=>trivial
 | _=>trivial
theorem Yb{id:String}(h:mid m a=some id)(ha:AJ C s.heap X a va):mZ s va (Str.ofString (Vj m)) id:=(YZ ha).of h
theorem cI{a:PV}(h:pM m a l Q)(hX:∀ a,X a->a<s.heap.objs.size):Hd (mid m a) fun id=>GP C A X s id a l Q:=by
 induction m with
 | join=>
  apply HY h;intro p h1
  apply E0 h1;intro l h2
  cases a with
  | str x=>exact match h2 with | ⟨e,xs,e1,hz,q⟩=>by subst e e1;exact Vw hz q
  | bytes x=>exact match h2 with | ⟨e,xs,e1,hz,q⟩=>by subst e e1;exact Vx hz q
  | _=>trivial
 | split=>
  apply Ez h;intro x h1
  apply HY h1;intro p h2
  apply Ez h2;intro z h3
  apply Sm h3;intro c h4
  exact m_split hX h4.1 h4.2
 | upper=>
  apply Ez h;intro x h1
  apply Sl h1;intro h2
  exact m_upper h2.1 h2.2.1 h2.2.2
 | find=>
  apply BC h;intro x h1
  apply cA h1;intro p i j h2
  apply BC h2;intro z h3
  apply Sm h3;intro c h4
  apply Cj h4;intro i h5
  apply Cj h5;intro j h6
  exact m_find h6.1 h6.2.1 h6.2.2.1 h6.2.2.2
 | strip=>
  apply BC h;intro x h1
  apply HY h1;intro p h2
  apply BC h2;intro z q
  exact m_strip q
 | lstrip=>
  apply BC h;intro x h1
  apply HY h1;intro p h2
  apply BC h2;intro z q
  exact m_lstrip q
 | rstrip=>
  apply BC h;intro x h1
  apply HY h1;intro p h2
  apply BC h2;intro z q
  exact m_rstrip q
 | replace=>
  apply BC h;intro x h1
  apply KW h1;intro p q h2
  apply BC h2;intro z h3
  apply BC h3;intro z' h4
  exact m_replace h4.1 h4.2.1 h4.2.2.1 h4.2.2.2
 | isalnum=>
  apply BC h;intro x h1
  apply Sl h1;intro q
  exact Vy q
 | get=>
  cases a with
  | idict f=>
   apply KW h;intro k v h1
   apply Cj h1;intro k h2
   apply Cj h2;intro v q
   exact YX q
  | sdict f=>
   apply KW h;intro k v h1
   apply Ez h1;intro k h2
   apply Ez h2;intro v q
   exact YY q
  | _=>trivial
theorem cJ{id:String}(hm:mid m a=some id)(h:pM m a l Q)(hX:∀ a,X a->a<s.heap.objs.size):GP C A X s id a l Q:=(cI h hX).of hm
end
section
variable{C:Al}{hn:Bool}{d:Nat}{gv:Str->Option PV}{fe ft:Ge->Expr->Option CE}{S:CY}{cx:Cx}{Γ:Ge}{σ:St}{A:Around}{O:Ow}{s:Shared}{E:Value->Shared->Prop}{X:Addr->Prop}
theorem Q9{f:Expr}{args:List Expr}(h:args≠[]∨kws≠[]):attributeBase (.Call f args kws p) n env whole=whole:=by
 cases args with
 | cons a r=>cases f<;>exact Eq.refl whole
 | nil=>cases kws with
  | cons k r=>cases f<;>exact Eq.refl whole
  | nil=>exact absurd rfl (h.elim (fun h=>absurd rfl h) id)
theorem Mx{o:Expr}(h:Cb o=true):attributeBase o n env whole=whole:=by
 cases o with
 | Call f args kws p=>
  by_cases hc:args=[]/\kws=[]
  ·cases hc.1;cases hc.2
   cases f with
   | Name x q=>exact pO (by(refine AA (show (x != ("super" : Str))=true from h) ?_);rfl)
   | _=>exact Eq.refl whole
  ·exact Q9 (Decidable.not_and_iff_or_not.mp hc)
 | _=>exact Eq.refl whole
theorem DR(h:Cb o=true):attributeBase o n env (eval o env)=eval o env:=Mx h
theorem My(hz:args.all noStar=true)(hl:args.length<20):
  methodCallForm (args.length+([]:List Keyword).length) (backTo pos (starEach args env)) (backToKw pos (keywordEach [] env))=true:=by
 delta methodCallForm
 have h1:(backTo pos (starEach args env)).all (fun x=>!x.1)=true:=by
  have:=Ai (env:=env) (pos:=pos) hz
  rw [List.any_eq_false] at this
  (refine F7 (pr:) ?_)
  intro x hx
  simpa using this x hx
 have h2:backToKw pos (keywordEach [] env)=[]:=rfl
 (refine AA h1 ?_;refine AA h2 ?_)
 simp
 exact om ‹_› (by decide)
theorem E7{apos pos:Pos}(hz:args.all noStar=true)(hl:args.length<20)(hline:(apos.endLine==pos.line)=true)(hg:∀ {K:Value×List Value->Shared->Prop} {pl:Sem Bool},K (f,first) s->wpAny (model C.prog C.w) A (getMethod ov name pl) K E s)(h:wpAny (model C.prog C.w) A (callWith pos f first (backTo pos (starEach args env)) []) Q E s):
  wpAny (model C.prog C.w) A (methodCall o name apos pos env ov (args.length+([]:List Keyword).length) (backTo pos (starEach args env)) (backToKw pos (keywordEach [] env))) Q E s:=by
 have hpos:methodCallPos true o env apos pos=pure pos:=pO hline
 delta methodCall
 (refine AA (My hz hl) ?_)
 refine oq (pR (hg ?_))
 exact oq (qR hpos h)
theorem Ef{id:String}(hz:args.any (·.1)=false)(h:wpAny (model C.prog C.w) A (evalArgs (.builtin id) true args []) (fun as s₁=>∃ vs,as=⟨vs,[]⟩/\wpAny (model C.prog C.w) A (call (.builtin id) (first ++ vs)) Q E s₁) E s):
  wpAny (model C.prog C.w) A (callWith pos (.builtin id) first args []) Q E s:=
 Calls.callWith_builtin hz (pN h (fun as s₁ zq=>(by refine AE zq ?_;clear zq;rintro vs e h';exact by subst e;exact h')) fun _ _ x=>x)
theorem Vz:typeLookup (.type "object") "word" = pure none:=by kernel_rfl
theorem P0:typeLookup (.type "object") "name" = pure none:=by kernel_rfl
theorem TS:typeLookup (.type "object") "raw" = pure none:=by kernel_rfl
theorem JK{va:Value}(ha:AJ C s.heap X (.field nm raw) va):∃ a mA t1 t2,va=.ref a/\(BL nm/\nm.length<=sizeLine)/\(BL raw/\raw.length<=sizeLine)/\s.heap.Inst a C.fieldCls mA/\mA "name" = some (.bytes (toB nm) t1)/\mA "raw" = some (.bytes (toB raw) t2)/\mA "word" = none:=by
 induction ha with | mk on zn or zr a hf=>
 obtain ⟨d',mA,t1,t2,_,_,I,_,h1,h2,h3⟩:=hf
 exact⟨a,mA,t1,t2,rfl,⟨on,zn⟩,⟨or,zr⟩,I,h1,h2,h3⟩
theorem RA(W:OJ C)(hs:C.base.StaysIn s.heap)(ha:AJ C s.heap X (.field nm raw) va){K:Value×List Value->Shared->Prop}(h:K (.ref C.wordFn,[va]) s):
  wpAny (model C.prog C.w) A (getMethod va "word" pl) K E s:=by
 refine Ap fun G kk=>?_;(refine Nm (JK ha) ?_;rintro x mA t1 t2 e _ ⟨_,I,_,_,hw⟩)
 subst e
 obtain ⟨N,mN,f,o,fd,hC,h1,h2,_,_,h3,e,ho,hfc,_⟩:=W.cls
 (replace h:=(e)▸h)
 obtain ⟨nm',q,bs,sn,sub,col,dd',k0,k1,k2,k3,k5,hCo⟩:=(hC.keeps hs).obj;refine kk ?_
 exact method_of hCo (hC.keeps hs).ns h1 h2 h3 (hs _ _ ho) hfc Vz I hw h
theorem TT(W:OJ C)(hs:C.base.StaysIn s.heap)(ha:AJ C s.heap X (.field nm raw) va){K:Value->Shared->Prop}{y:Bool}(h:∀ t k,K (.bytes (toB (if y then raw else nm)) t) { s with toks:=k }):
  wpAny (model C.prog C.w) A (getAttr va (if y then "raw" else "name") e) K E s:=by
 refine Ap fun G kk=>?_;(refine Nm (JK ha) ?_;rintro x mA t1 t2 e _ ⟨_,I,hm1,hm2,_⟩)
 subst e
 obtain ⟨N,mN,f,o,fd,hC,h1,h2,h4,h5,_⟩:=W.cls
 obtain ⟨nm',q,bs,sn,sub,col,dd',k0,k1,k2,k3,k5,hCo⟩:=(hC.keeps hs).obj;refine kk ?_
 induction y with
 | true=>exact load_attr hCo (hC.keeps hs).ns h1 h5 TS I hm2 rfl (h t2 _)
 | false=>exact load_attr hCo (hC.keeps hs).ns h1 h4 P0 I hm1 rfl (h t1 _)
theorem P1(G:Jw C gv)(H:AO C hn d gv fe ft S)(F:AY C hn d cx)(g:AU gv Γ cx){y:Bool}{K:KE}(hb:Cb v=true)(h1:fe Γ v=some a)(h:S.e a σ fun p σ=>GJ p fun n r=>K (.bytes (if y then r else n)) σ):Ev cx (eval (.Attribute v (if y then "raw" else "name") pos) cx.env) σ K:=fun A ha O s E r=>by
 (refine AA (arm_eval_Attribute ..:) ?_;refine AA (DR hb) ?_)
 refine oq ((H.e cx F Γ g v a h1 σ _ h).seq ha r fun ov s₁ O₁ σ1 p p₁ rp q₁=>?_)
 (refine BS (Ha q₁) ?_;rintro nm raw e q)
 subst e
 (refine Nm (JK rp) ?_;rintro _ _ _ _ _ o1 ⟨o2,_⟩)
 refine oq (qI (oq (pR (TT (F.c▸G.word) p₁.r.stays rp fun t k=>oq (wpAny_letTemporaryGo (o6 ?_))))))
 refine Gf.mk (p₁.op AG.toks) ?_ q
 induction y with
 | true=>exact CC o2.1 o2.2
 | false=>exact CC o1.1 o1.2
theorem V0(H:AO C hn d gv fe ft S)(F:AY C hn d cx)(g:AU gv Γ cx){K:KE}(hz:args.all noStar=true)(hb:Cb o=true)(hline:(ap.endLine==pos.line)=true)(hfew:args.length<20)(hm:XQ n=some m)(h1:fe Γ o=some a)(h2:Ay (fe Γ) args=some es)(h:S.e a σ (kM S m es K)):
  Ev cx (eval (.Call (.Attribute o n ap) args [] pos) cx.env) σ K:=fun A ha O s E r=>by
 have en:Str.ofString (Vj m)=n:=by simpa using List.find?_some hm
 subst en
 (refine AA (arm_eval_Call ..:) ?_;refine AA (DR hb) ?_)
 refine oq ((H.e cx F Γ g o a h1 σ _ h).seq ha r fun ov s₁ O₁ σ1 p p₁ rp q₁=>oq (qI ?_))
 have q₁:(match mid m p with | some _=>cL S es σ1 (mX m K p) | none=>False):=q₁
 cases hid:mid m p with
 | none=>(replace q₁:=(hid)▸q₁);exact q₁.elim
 | some id=>
  (replace q₁:=(hid)▸q₁)
  obtain ⟨⟨T,k1,k2,k3⟩,k4,k5⟩:=Yb hid rp
  exact E7 hz hfew hline (fun h=>getMethod_builtin k1 k2 k3 k4 k5 h) (Ef (Ai hz) (DP H F g hz h2 q₁ ha p₁.r fun vs s₂ O₂ σ2 ps p₂ rps q₂=>⟨vs,rfl,
   (cJ hid q₂ p₂.r.exLt ov vs (p₂.rep rp) rps).seq fun v s' p m rp' q=>Gf.mk ((p₁.trans p₂).op m) rp' q⟩))
theorem V1(G:Jw C gv)(H:AO C hn d gv fe ft S)(F:AY C hn d cx)(g:AU gv Γ cx){K:KE}(hb:Cb o=true)(hline:(ap.endLine==pos.line)=true)(h1:fe Γ o=some a)(h:S.e a σ (XK (AK C hn d) K)):
  Ev cx (eval (.Call (.Attribute o "word" ap) [] [] pos) cx.env) σ K:=fun A ha O s E r=>by
 (refine AA (arm_eval_Call ..:) ?_;refine AA (DR hb) ?_)
 refine oq ((H.e cx F Γ g o a h1 σ _ h).seq ha r fun ov s₁ O₁ σ1 p p₁ rp q₁=>oq (qI ?_))
 (refine BS (Ha q₁) ?_;rintro nm raw e q)
 subst e
 obtain ⟨N,mN,f,o',fd,_,_,_,_,_,_,hf,ho,_,hfd⟩:=G.word.cls
 have hC:=F.c
 refine E7 rfl (by decide) hline (RA (hC▸G.word) p₁.r.stays rp) (Calls.callWith_function (o:=o') (fd:=fd) (BQ rfl (wpAny_items_nil ?_)))
 exact⟨⟨p₁.r.stays _ _ (by(refine AA hC ?_;refine AA hf ?_);exact ho),hfd⟩,LV F ha p₁ (AF.single rp) q (.inr ⟨rfl,hC▸rfl⟩)⟩
end
noncomputable def G3(e:Expr):Bool:=match e,view e with
 | _,.tup _ _ _=>true
 | _,_=>false
theorem Kg(h:G3 e=true):∃ els ek ep,e=.Tuple els ek ep:=by
 revert h
 delta G3
 generalize view e=w
 induction w with
 | tup els k p=>exact fun _=>⟨els,k,p,rfl⟩
 | _=>exact fun h=>(fT h)
noncomputable def DA(e:Expr):Bool:=(asName e).isSome
noncomputable def Yc(target:Expr)(C:Al)(h:Heap)(X:Addr->Prop)(p:PV)(v:Value):Prop:=
 AJ C h X p v∨(G3 target=true/\∃ ps T vs,p=.tup ps/\v=.ref T/\h.IsTuple T vs.toArray/\AF C h X ps vs)
structure Du(C:Al)(A:Around)(target:Expr)(X:Addr->Prop)(h1 h2:Heap)(l:List PV)(I:Addr)(fp wr nw:List Addr)(P Md:Nat->Value->Heap->Prop)(St:Nat->Heap->Prop)(Src:Heap->(Addr->Prop)->Prop):Prop where
 turns:KTurns C.prog C.w A target I fp wr l.length P Md St
 st0:St 0 h2
 self:∀ i (s:Shared) (Q:Value->Shared->Prop) (E:Value->Shared->Prop),St i s.heap->Q (.ref I) s->wpAny (model C.prog C.w) A (pyIter (.ref I)) Q E s
 wrn:∀ b∈wr,b∈nw
 nwn:∀ b∈nw,h1.get? b=none/\∃ o,h2.get? b=some o
 fpo:∀ b∈fp,b∈nw∨(¬X b/\∃ o,h1.get? b=some o)
 exS:∀ i h,St i h->∀ b∈wr,∃ o,h.get? b=some o
 exM:∀ i v h,Md i v h->∀ b∈wr,∃ o,h.get? b=some o
 src0:Src h2 (fun b=>X b∨b∈nw)
 srcM:∀ h h' X X' P F,Src h X->KX P F h h'->(∀ b,P b->X b)->(∀ b,F b->X b)->(∀ b,X' b->X b∨h.get? b=none)->Src h' X'
 rep:∀ i v h X p,l[i]?=some p->Src h X->P i v h->Yc target C h X p v
inductive CM(C:Al)(A:Around)(target:Expr)(X:Addr->Prop)(h1 h2:Heap)(l:List PV)(it:Value):Prop where
 | mk (k:∀ b o,h1.get? b=some o->h2.get? b=some o) (I:Addr) (fp wr nw:List Addr) (P Md:Nat->Value->Heap->Prop) (St:Nat->Heap->Prop) (Src:Heap->(Addr->Prop)->Prop) (e:it=.ref I) (s:Du C A target X h1 h2 l I fp wr nw P Md St Src):CM C A target X h1 h2 l it
theorem DD{fp wr nw:List Addr}{St:Nat->Heap->Prop}(k:∀ b o,h1.get? b=some o->h2.get? b=some o)(S:Du C A target X h1 h2 l I fp wr nw P Md St Src):CM C A target X h1 h2 l (.ref I):=⟨k,I,fp,wr,nw,P,Md,St,Src,rfl,S⟩
section
variable{C:Al}{A:Around}{s:Shared}{X:Addr->Prop}{E:Value->Shared->Prop}{target:Expr}
theorem Eg:∀ h h' X X' P F,AF C h X l vs->KX P F h h'->(∀ b,P b->X b)->(∀ b,F b->X b)->(∀ b,X' b->X b∨h.get? b=none)->AF C h' X' l vs:=
 fun _ _ _ _ _ _ x k hP hF hX=>AF.move k (fun b q=>.inl (hP b q)) hF hX _ _ x
theorem AH{h:Heap}(hb:h.objs.size<=b):h.get? b=none:=by
 cases e:h.get? b with
 | none=>rfl
 | some o=>exact absurd (pi e) (Nat.not_lt.mpr hb)
theorem GQ{i:Nat}{v:Value}{p:PV}(hp:l[i]?=some p)(x:AF C h X l vs)(hv:vs.toArray[i]?=some v):AJ C h X p v:=by
 (refine AE (x.get i hp) ?_;rintro u hu ru)
 (replace hv:=(List.getElem?_toArray)▸hv;replace hv:=(hu)▸hv)
 (refine sI hv ?_;clear hv;intro zz;induction zz);exact ru
theorem RB(hh:A.handled=none)(hv:AJ C s.heap X (.lst l) v)(hX:∀ a,X a->a<s.heap.objs.size)(h:∀ h' it,CM C A target X s.heap h' l it->Q it { s with heap:=h' }):wpAny (model C.prog C.w) A (pyIter v) Q E s:=by
 induction hv with | mk hz a vs ha hl hr=>
 have hlt:a<s.heap.objs.size:=(by refine AE hl ?_;rintro _ e _;exact pi e)
 have W:=Walks.list (prog:=C.prog) (w:=C.w) hh s.heap.objs.size a (pX hlt) vs.toArray
 (replace W:=(show vs.toArray.size=l.length by(refine AA ph ?_;refine AA hr.length ?_;rfl))▸W)
 exact wpAny_pyIter_list hl (h _ _ <| DD (fun _ _ e=>Au e) {
  turns:=KTurns.ofWalks W fun i v s Q E st q=>letGo_listiter st.1 q
  st0:=⟨⟨_,pE _ rfl,rfl,rfl⟩,hl.push _⟩
  self:=W.self
  wrn:=fun b hb=>hb
  nwn:=fun b hb=>by simp at hb;subst hb;exact⟨AH (ou _),_,pE _ rfl⟩
  fpo:=fun b hb=>by
   simp at hb
   rcases hb with rfl | rfl
   ·exact .inl (List.Mem.head _)
   ·exact .inr ⟨ha,(by refine AE hl ?_;rintro o e _;exact⟨o,e⟩)⟩
  exS:=fun i h st b hb=>by simp at hb;subst hb;exact(by refine AE st.1 ?_;rintro o e _;exact⟨o,e⟩)
  exM:=fun i v h st b hb=>by simp at hb;subst hb;exact(by refine AE st.2.1 ?_;rintro o e _;exact⟨o,e⟩)
  src0:=AF.move (IC) (fun _ q=>q.elim) (fun _ q=>q.elim) (fun b q=>q.imp id fun q=>by simp at q;subst q;exact AH (ou _)) _ _ hr
  srcM:=Eg
  rep:=fun i v h X p hp x hv=>.inl (GQ hp x hv) })
theorem iter_tuple{l:List PV}{v:Value}(hh:A.handled=none)(hv:AJ C s.heap X (.tup l) v)(hX:∀ a,X a->a<s.heap.objs.size)(h:∀ h' it,CM C A target X s.heap h' l it->Q it { s with heap:=h' }):wpAny (model C.prog C.w) A (pyIter v) Q E s:=by
 induction hv with | mk hz a vs ha ht hr=>
 have hl:=ht.is
 have hlt:a<s.heap.objs.size:=(by refine AE hl ?_;rintro _ e _;exact pi e)
 have W:=Walks.tuple (prog:=C.prog) (w:=C.w) hh s.heap.objs.size a (pX hlt) vs.toArray
 (replace W:=(show vs.toArray.size=l.length by(refine AA ph ?_;refine AA hr.length ?_;rfl))▸W)
 exact wpAny_pyIter_tuple hl (h _ _ <| DD (fun _ _ e=>Au e) {
  turns:=KTurns.ofWalks W fun i v s Q E st q=>letGo_tupleiter st.1 q
  st0:=⟨⟨_,pE _ rfl,rfl,rfl⟩,hl.push _⟩
  self:=W.self
  wrn:=fun b hb=>hb
  nwn:=fun b hb=>by simp at hb;subst hb;exact⟨AH (ou _),_,pE _ rfl⟩
  fpo:=fun b hb=>by
   simp at hb
   rcases hb with rfl | rfl
   ·exact .inl (List.Mem.head _)
   ·exact .inr ⟨ha,(by refine AE hl ?_;rintro o e _;exact⟨o,e⟩)⟩
  exS:=fun i h st b hb=>by simp at hb;subst hb;exact(by refine AE st.1 ?_;rintro o e _;exact⟨o,e⟩)
  exM:=fun i v h st b hb=>by simp at hb;subst hb;exact(by refine AE st.2.1 ?_;rintro o e _;exact⟨o,e⟩)
  src0:=AF.move (IC) (fun _ q=>q.elim) (fun _ q=>q.elim) (fun b q=>q.imp id fun q=>by simp at q;subst q;exact AH (ou _)) _ _ hr
  srcM:=Eg
  rep:=fun i v h X p hp x hv=>.inl (GQ hp x hv) })
theorem P2(ht:DA target=true)(h:Q () s):wpAny (model C.prog C.w) A (letOwnedTupleGo target (.ref I) v) Q E s:=by
 delta DA at ht
 cases he:asName target with
 | none=>(replace ht:=(he)▸ht);exact fT ht
 | some x=>
  (refine AI (Cc he) ?_;rintro p e)
  subst e
  exact o6 h
theorem Fs{I:Addr}{P:Nat->Value->Prop}{St:Nat->Heap->Prop}(ht:DA target=true)(W:Walks C.prog C.w A I [I] [I] l.length P St)(k:∀ b o,s.heap.get? b=some o->h2.get? b=some o)(hn:s.heap.get? I=none)(hi:∃ o,h2.get? I=some o)(st:St 0 h2)(ex:∀ i h,St i h->∃ o,h.get? I=some o)(rep:∀ i v h X p,l[i]?=some p->P i v->AJ C h X p v):CM C A target X s.heap h2 l (.ref I):=
 DD k {
  turns:=KTurns.ofWalks W fun i v s Q E st q=>P2 ht q
  st0:=st
  self:=W.self
  wrn:=fun b hb=>hb
  nwn:=fun b hb=>by simp at hb;subst hb;exact⟨hn,hi⟩
  fpo:=fun b hb=>.inl hb
  exS:=fun i h st b hb=>by simp at hb;subst hb;exact ex i h st
  exM:=fun i v h st b hb=>by simp at hb;subst hb;exact ex _ h st.2
  src0:=trivial
  srcM:=fun _ _ _ _ _ _ _ _ _ _ _=>trivial
  rep:=fun i v h X p hp x hv=>.inl (rep i v h X p hp hv) }
theorem ON(ht:DA target=true)(hh:A.handled=none)(hv:AJ C s.heap X (.bytes b) v)(h:∀ h' it,CM C A target X s.heap h' (b.map fun(c:Nat)=>.int c) it->Q it { s with heap:=h' }):wpAny (model C.prog C.w) A (pyIter v) Q E s:=by
 induction hv with | mk hb hz t=>
 have W:=KBw.walks (prog:=C.prog) (w:=C.w) hh s.heap.objs.size (toB b) t
 (rewrite [A1] at W;replace W:=Eq.symm (pK (f:=fun(c:Nat)=>PV.int c))▸W)
 refine KBw.pyIter_bytes (h _ _ (Fs ht W (fun _ _ e=>Au e) (AH (ou _)) ⟨_,pE _ rfl⟩ ⟨_,pE _ rfl,rfl,rfl⟩ (fun i h st=>(by refine AE st ?_;rintro o e _;exact⟨o,e⟩)) ?_))
 rintro i v h X p hp ⟨c,u,hc,e⟩
 subst e
 rw [List.getElem?_map] at hp
 (refine AE (qN.mp hp) ?_;rintro x hx rfl)
 simp only [toB,List.getElem?_toArray,List.getElem?_map,hx,Option.map_some,Option.some.injEq] at hc
 subst hc
 exact LM (hb x (qE hx))▸.mk u
theorem TU(ht:DA target=true)(hh:A.handled=none)(hv:AJ C s.heap X (.str b) v)(h:∀ h' it,CM C A target X s.heap h' (b.map fun(c:Nat)=>.str [c]) it->Q it { s with heap:=h' }):wpAny (model C.prog C.w) A (pyIter v) Q E s:=by
 induction hv with | mk hz t=>
 have rep:∀ (i:Nat) (v:Value) (h:Heap) (X:Addr->Prop) (p:PV),(b.map fun(c:Nat)=>PV.str [c])[i]?=some p->SignAt (toS b) i v->AJ C h X p v:=by
  rintro i v h X p hp ⟨c,u,hc,e⟩
  subst e
  rw [List.getElem?_map] at hp
  (refine AE (qN.mp hp) ?_;rintro x hx rfl)
  simp only [List.getElem?_toArray,hx,Option.some.injEq] at hc
  subst hc
  exact La (show 1<=sizeLine by decide)
 have e0:(toS b).cps.size=(b.map fun(c:Nat)=>PV.str [c]).length:=by simp
 induction ha:(toS b).cps.all (·<128)
 ·have W:=Walks.strWide (prog:=C.prog) (w:=C.w) hh s.heap.objs.size (toS b) t
  (replace W:=(e0)▸W)
  exact wpAny_pyIter_wide ha (h _ _ (Fs ht W (fun _ _ e=>Au e) (AH (ou _)) ⟨_,pE _ rfl⟩ ⟨_,pE _ rfl,rfl,rfl⟩ (fun i h st=>(by refine AE st ?_;rintro o e _;exact⟨o,e⟩)) rep))
 ·have W:=Walks.strAscii (prog:=C.prog) (w:=C.w) hh s.heap.objs.size (toS b) t
  (replace W:=(e0)▸W)
  exact wpAny_pyIter_ascii ha (h _ _ (Fs ht W (fun _ _ e=>Au e) (AH (ou _)) ⟨_,pE _ rfl⟩ ⟨_,pE _ rfl,rfl,rfl⟩ (fun i h st=>(by refine AE st ?_;rintro o e _;exact⟨o,e⟩)) rep))
theorem OO{n:Nat}(ht:DA target=true)(hh:A.handled=none)(hr:IsRange s.heap r a b c t u v)(hsmall:Builtin.Range.small a b c=true)(hsz:Builtin.Range.rangeSize a b c=n)(k:∀ b o,h0.get? b=some o->s.heap.get? b=some o)(hn:h0.objs.size<=s.heap.objs.size)(h:∀ h' it,CM C A target X h0 h' ((rangeInts a n c).map .int) it->(∀ b o,s.heap.get? b=some o->h'.get? b=some o)->Q it { s with heap:=h' }):wpAny (model C.prog C.w) A (pyIter (.ref r)) Q E s:=by
 have e0:n=((rangeInts a n c).map PV.int).length:=by simp [rangeInts]
 refine wpAny_pyIter_range hr hsmall ?_
 (refine AA hsz ?_)
 refine h _ _ (DD (fun _ _ e=>Au (k _ _ e)) {
  turns:=e0▸KTurns.ofWalks (Walks.range hh s.heap.objs.size a c n) fun i v s Q E st q=>P2 ht q
  st0:=by
   have e1:a+((0:Nat):Int)*c=a:=by simp
   have e2:(n:Int) - ((0:Nat):Int)=n:=by rfl
   (refine AA e1 ?_;refine BO e0 ?_;refine AA e2 ?_)
   exact pE _ rfl
  self:=e0▸(Walks.range hh s.heap.objs.size a c n).self
  wrn:=fun b hb=>hb
  nwn:=fun b hb=>by simp at hb;subst hb;exact⟨AH hn,_,pE _ rfl⟩
  fpo:=fun b hb=>.inl hb
  exS:=fun i h st b hb=>by simp at hb;subst hb;exact⟨_,st⟩
  exM:=fun i v h st b hb=>by simp at hb;subst hb;exact⟨_,st.2⟩
  src0:=trivial
  srcM:=fun _ _ _ _ _ _ _ _ _ _ _=>trivial
  rep:=fun i v h X p hp x hv=>.inl (by
   (refine AI hv ?_;clear hv;rintro t rfl)
   simp only [rangeInts,List.map_map,List.getElem?_map] at hp
   (refine AE (qN.mp hp) ?_;rintro j hj rfl)
   have hj':j=i:=by
    rw [List.getElem?_eq_some_iff] at hj
    (refine AI hj ?_;rintro _ hj)
    simpa using hj.symm
   subst hj'
   exact .mk t) }) fun _ _ e=>Au e
theorem all_cons{P:Addr->Prop}(h:P a)(t:∀ b∈l,P b):∀ b∈a::l,P b:=List.forall_mem_cons.mpr ⟨h,t⟩
theorem all_nil{P:Addr->Prop}:∀ b∈([]:List Addr),P b:=fun _ h=>(by cases h)
theorem TV{a b:Value}(hh:A.handled=none)(ha:AJ C s.heap X (.lst la) a)(hb:AJ C s.heap X (.lst lb) b)(ht:G3 target=true)(h:∀ h' it,CM C A target X s.heap h' (List.zipWith (fun x y=>.tup [x,y]) la lb) it->(∀ {Q':Value->Shared->Prop} {E tk},Q' it { s with heap:=h',toks:=tk }->wpAny (model C.prog C.w) A (pyIter it) Q' E { s with heap:=h',toks:=tk })->Q it { s with heap:=h' }):
  wpAny (model C.prog C.w) A (call (.type "zip") [a,b]) Q E s:=by
 induction ha with | mk hz1 a1 va hxa hla hra=>
 induction hb with | mk hz2 a2 vb hxb hlb hrb=>
 have l1:a1<s.heap.objs.size:=(by refine AE hla ?_;rintro _ e _;exact pi e)
 have l2:a2<s.heap.objs.size:=(by refine AE hlb ?_;rintro _ e _;exact pi e)
 (refine IW (Kg ht) ?_;rintro els ek ep rfl)
 refine call_zip_2 hla hlb fun h' k1 k2 k3 k4 k5 k6 k7=>?_
 have W:=(WalksT.zip2 (prog:=C.prog) (w:=C.w) hh _ _ _ _ _ a1 a2 (ktu_apart s.heap.objs.size a1 a2 l1 l2) va.toArray vb.toArray).toU
 (replace W:=(show min va.toArray.size vb.toArray.size=(List.zipWith (fun x y=>PV.tup [x,y]) la lb).length by simp [hra.length,hrb.length])▸W)
 refine h h' _ (DD (nw:=[s.heap.objs.size+4,s.heap.objs.size+2,s.heap.objs.size+3,s.heap.objs.size,s.heap.objs.size+1]) (Src:=fun h X=>AF C h X la va/\AF C h X lb vb) k7 {
  turns:=KTurns.ofWalksU W
  self:=W.self
  st0:=⟨k1,k2,⟨_,_,k3⟩,k4,k5,hla.at fun o e=>k7 _ o e,hlb.at fun o e=>k7 _ o e⟩
  wrn:=all_cons (by repeat (exact List.Mem.head _)) (all_cons (by repeat (first | exact List.Mem.head _ | apply List.Mem.tail)) (all_cons (by repeat (first | exact List.Mem.head _ | apply List.Mem.tail)) (all_cons (by repeat (first | exact List.Mem.head _ | apply List.Mem.tail)) all_nil)))
  nwn:=all_cons ⟨AH (pB _ _),_,k1⟩ (all_cons ⟨AH (pB _ _),_,k2⟩ (all_cons ⟨AH (pB _ _),_,k3⟩ (all_cons ⟨AH (ou _),(by refine AE k4 ?_;rintro o e _;exact⟨o,e⟩)⟩ (all_cons ⟨AH (pB _ _),(by refine AE k5 ?_;rintro o e _;exact⟨o,e⟩)⟩ all_nil))))
  fpo:=all_cons (.inl (by repeat (exact List.Mem.head _))) (all_cons (.inl (by repeat (first | exact List.Mem.head _ | apply List.Mem.tail))) (all_cons (.inl (by repeat (first | exact List.Mem.head _ | apply List.Mem.tail))) (all_cons (.inl (by repeat (first | exact List.Mem.head _ | apply List.Mem.tail))) (all_cons (.inl (by repeat (first | exact List.Mem.head _ | apply List.Mem.tail))) (all_cons (.inr ⟨hxa,(by refine AE hla ?_;rintro o e _;exact⟨o,e⟩)⟩) (all_cons (.inr ⟨hxb,(by refine AE hlb ?_;rintro o e _;exact⟨o,e⟩)⟩) all_nil))))))
  exS:=fun i h st=>all_cons ⟨_,st.1⟩ (all_cons ((by refine Bm st.2.2.1 ?_;rintro _ _ z3;exact⟨_,z3⟩)) (all_cons ((by refine AE st.2.2.2.1 ?_;rintro o z _;exact⟨o,z⟩)) (all_cons ((by refine AE st.2.2.2.2.1 ?_;rintro o z _;exact⟨o,z⟩)) all_nil)))
  exM:=fun i v h st=>by
   (refine bU st ?_;rintro _ _ _ _ _ z ⟨_,⟨_,_,z3⟩,⟨o4,z4,_⟩,⟨o5,z5,_⟩,_⟩)
   exact all_cons ⟨_,z⟩ (all_cons ⟨_,z3⟩ (all_cons ⟨_,z4⟩ (all_cons ⟨_,z5⟩ all_nil)))
  src0:=by
   have hn:∀ b,(X b∨b∈[s.heap.objs.size+4,s.heap.objs.size+2,s.heap.objs.size+3,s.heap.objs.size,s.heap.objs.size+1])->X b∨s.heap.get? b=none:=fun b q=>q.imp id
    (all_cons (P:=fun b=>s.heap.get? b=none) (AH (pB _ _)) (all_cons (AH (pB _ _)) (all_cons (AH (pB _ _)) (all_cons (AH (ou _)) (all_cons (AH (pB _ _)) all_nil)))) b)
   exact⟨AF.move (KX.of_keeps (P:=Ax) (F:=Ax) k7) (fun _ q=>q.elim) (fun _ q=>q.elim) hn _ _ hra,AF.move (KX.of_keeps (P:=Ax) (F:=Ax) k7) (fun _ q=>q.elim) (fun _ q=>q.elim) hn _ _ hrb⟩
  srcM:=fun h h' X X' P F x k hP hF hX=>⟨Eg _ _ _ _ _ _ x.1 k hP hF hX,Eg _ _ _ _ _ _ x.2 k hP hF hX⟩
  rep:=fun i v h X p hp x hv=>.inr (by
   (refine CQ hv ?_;clear hv;rintro T vals rfl ⟨x1,y1,hx1,hy1,rfl⟩ hT)
   rw [List.getElem?_zipWith] at hp
   refine⟨rfl,?_⟩
   cases hpa:la[i]? with
   | none=>rw [hpa] at hp;trivial
   | some pa=>
    cases hpb:lb[i]? with
    | none=>(replace hp:=(hpa)▸hp;replace hp:=(hpb)▸hp);trivial
    | some pb=>
     (replace hp:=(hpa)▸hp;replace hp:=(hpb)▸hp)
     simp only [Option.some.injEq] at hp
     subst hp
     refine⟨[pa,pb],T,[x1,y1],rfl,rfl,hT,?_⟩
     exact⟨_,_,GQ hpa x.1 hx1,_,_,GQ hpb x.2 hy1,rfl⟩) }) fun q=>wpAny_pyIter_zip k1 q
theorem RC(hh:A.handled=none)(ha:AJ C s.heap X (.lst la) a)(ht:G3 target=true)(h:∀ h' it,CM C A target X s.heap h' (la.mapIdx fun(i:Nat) x=>.tup [.int i,x]) it->(∀ {Q':Value->Shared->Prop} {E tk},Q' it { s with heap:=h',toks:=tk }->wpAny (model C.prog C.w) A (pyIter it) Q' E { s with heap:=h',toks:=tk })->Q it { s with heap:=h' }):
  wpAny (model C.prog C.w) A (call (.type "enumerate") [a]) Q E s:=by
 induction ha with | mk hz1 a1 va hxa hla hra=>
 have l1:a1<s.heap.objs.size:=(by refine AE hla ?_;rintro _ e _;exact pi e)
 (refine IW (Kg ht) ?_;rintro els ek ep rfl)
 refine call_enumerate_list hla fun h' k1 k2 _ k7=>?_
 have W:=(WalksT.enumerate (prog:=C.prog) (w:=C.w) hh (s.heap.objs.size+1) s.heap.objs.size a1 (by simp [Addr]<;>lia) (pX (Nat.lt_succ_of_lt l1)) (pX l1) va.toArray).toU
 (replace W:=(show va.toArray.size=(la.mapIdx fun(i:Nat) x=>PV.tup [.int i,x]).length by simp [hra.length])▸W)
 refine h h' _ (DD (nw:=[s.heap.objs.size+1,s.heap.objs.size]) k7 {
  turns:=KTurns.ofWalksU W
  self:=W.self
  st0:=⟨⟨_,k1⟩,k2,hla.at fun o e=>k7 _ o e⟩
  wrn:=all_cons (by repeat (exact List.Mem.head _)) (all_cons (by repeat (first | exact List.Mem.head _ | apply List.Mem.tail)) all_nil)
  nwn:=all_cons ⟨AH (pB _ _),_,k1⟩ (all_cons ⟨AH (ou _),(by refine AE k2 ?_;rintro o e _;exact⟨o,e⟩)⟩ all_nil)
  fpo:=all_cons (.inl (by repeat (exact List.Mem.head _))) (all_cons (.inl (by repeat (first | exact List.Mem.head _ | apply List.Mem.tail))) (all_cons (.inr ⟨hxa,(by refine AE hla ?_;rintro o e _;exact⟨o,e⟩)⟩) all_nil))
  exS:=fun i h st=>all_cons ((by(refine AI st.1 ?_;rintro _ z);exact⟨_,z⟩)) (all_cons ((by refine AE st.2.1 ?_;rintro o z _;exact⟨o,z⟩)) all_nil)
  exM:=fun i v h st=>by
   (refine bU st ?_;rintro _ _ _ _ _ ⟨_,z⟩ ⟨⟨o4,z4,_⟩,_⟩)
   exact all_cons ⟨_,z⟩ (all_cons ⟨_,z4⟩ all_nil)
  src0:=by
   have hn:∀ b,(X b∨b∈[s.heap.objs.size+1,s.heap.objs.size])->X b∨s.heap.get? b=none:=fun b q=>q.imp id
    (all_cons (P:=fun b=>s.heap.get? b=none) (AH (pB _ _)) (all_cons (AH (ou _)) all_nil) b)
   exact AF.move (KX.of_keeps (P:=Ax) (F:=Ax) k7) (fun _ q=>q.elim) (fun _ q=>q.elim) hn _ _ hra
  srcM:=Eg
  rep:=fun i v h X p hp x hv=>.inr (by
   (refine CQ hv ?_;clear hv;rintro T vals rfl ⟨t1,x1,hx1,rfl⟩ hT)
   rw [List.getElem?_mapIdx] at hp
   refine⟨rfl,?_⟩
   cases hpa:la[i]? with
   | none=>rw [hpa] at hp;trivial
   | some pa=>
    (replace hp:=(hpa)▸hp)
    simp only [Option.map_some,Option.some.injEq] at hp
    subst hp
    refine⟨[.int i,pa],T,[.int i t1,x1],rfl,rfl,hT,?_⟩
    exact⟨_,_,.mk _,_,_,GQ hpa x hx1,rfl⟩) }) fun q=>wpAny_pyIter_enum k1 q
end
end Mine.Lake
set_option maxHeartbeats 4000000
namespace Mine.Lake
section
variable{C:Al}{A:Around}{s:Shared}{E:Value->Shared->Prop}{X:Addr->Prop}
theorem Kh(h:-9000000000000<i/\i<9000000000000):Builtin.Range.rangeFitsLong i=true:=by
 (refine AA (Bool.and_eq_true ..:) ?_;refine AA decide_eq_true_eq ?_;refine AA decide_eq_true_eq ?_)
 exact nJ h
theorem TW(ha:Ci a)(hb:Ci b)(hc:c=1∨c=4∨c=3∨c=-1):-9000000000000<Builtin.Range.rangeSize a b c/\Builtin.Range.rangeSize a b c<9000000000000:=by
 delta Builtin.Range.rangeSize
 rcases hc with rfl | rfl | rfl | rfl
 ·simp only [show (1:Int) > 0 by decide,if_true];split<;>(first | exact⟨by decide,by decide⟩ | exact jl (by decide) ha hb ‹_›)
 ·simp only [show (4:Int) > 0 by decide,if_true];split<;>(first | exact⟨by decide,by decide⟩ | exact jl (by decide) ha hb ‹_›)
 ·simp only [show (3:Int) > 0 by decide,if_true];split<;>(first | exact⟨by decide,by decide⟩ | exact jl (by decide) ha hb ‹_›)
 ·simp only [show ¬(-1:Int) > 0 by decide,if_false,Int.neg_neg];split<;>(first | exact⟨by decide,by decide⟩ | exact jl (by decide) hb ha ‹_›)
theorem TX(ha:Ci a)(hb:Ci b)(hc:c=1∨c=4∨c=3∨c=-1):Builtin.Range.small a b c=true:=by
 delta Builtin.Range.small
 (refine AA (Kh (TW ha hb hc)) ?_)
 (refine AA (Kh (wd ha)) ?_;refine AA (Kh (wd hb)) ?_;refine AA (Kh ⟨qJ (by decide) (bM hc).1,Int.lt_of_le_of_lt (bM hc).2 (by decide)⟩) ?_;refine AA (Kh (mI hb (Int.sub_le_sub_right (bM hc).1 1) (Int.le_trans (Int.sub_le_sub_right (bM hc).2 1) (by decide)))) ?_;refine AA (Kh (mI hb (Int.le_trans (by decide) (Int.add_le_add_right (bM hc).1 1)) (Int.add_le_add_right (bM hc).2 1))) ?_)
 simp
theorem Mz:Builtin.Range.rangeSize a b 1=((b - a).toNat:Int):=by
 (refine AA (rangeSize_one ..:) ?_);split<;>first | exact mD ‹_› | exact mE ‹_›
theorem Yd(hc:c=4∨c=3):Builtin.Range.rangeSize a b c=(((b - a+c - 1) / c).toNat:Int):=by
 delta Builtin.Range.rangeSize
 rcases hc with rfl | rfl<;>simp only [show (4:Int) > 0 by decide,show (3:Int) > 0 by decide,if_true]<;>split<;>first | exact m5 (by decide) ‹_› | exact jz (by decide) ‹_›
theorem RD:Builtin.Range.rangeSize a b (-1)=((a - b).toNat:Int):=by
 delta Builtin.Range.rangeSize
 simp only [show ¬(-1:Int) > 0 by decide,if_false,Int.neg_neg,Int.ediv_one]
 split
 ·exact(Int.sub_add_cancel ..).trans (mD ‹_›)
 ·exact mE ‹_›
theorem Ye:Ci 0:=⟨by decide,by decide⟩
theorem TY{K:List PV->Prop}(ht:DA target=true)(hh:A.handled=none)(q:MZ true .range ps K)(hv:AF C s.heap X ps vs)(h:∀ l h' it tk,K l->CM C A target X s.heap h' l it->Q it { s with heap:=h',toks:=tk }):
  wpAny (model C.prog C.w) A (call (.type "range") vs) (fun xv s₁=>wpAny (model C.prog C.w) A (pyIter xv) Q E s₁) E s:=by
 (refine AM q ?_;clear q;rintro ⟨ns,e,hs⟩ q)
 subst e
 have go:∀ {a b c:Int} {n:Nat} {t u v:Tok} {o:Obj} {tk:Nat},IsRange (s.heap.push o) s.heap.objs.size a b c t u v->Ci a->Ci b->(c=1∨c=4∨c=3∨c=-1)->Builtin.Range.rangeSize a b c=n->Iu (rangeInts a n c) K->
   wpAny (model C.prog C.w) A (pyIter (.ref s.heap.objs.size)) Q E { s with heap:=s.heap.push o,toks:=tk }:=fun hr ha hb hc hn q=>
  OO (h0:=s.heap) ht hh hr (TX ha hb hc) hn (fun _ _ e=>Au e) (by(with_reducible_and_instances refine AA (Heap.size_push ..:) ?_);exact pB _ _) fun h' it hi _=>h _ h' it _ q.2 hi
 cases ns with
 | nil=>exact q.elim
 | cons a ns=>cases ns with
  | nil=>
   (refine AE (C8 hv) ?_;rintro v e hb)
   subst e
   induction hb with | mk t=>
   exact call_range_1 (go (pE _ rfl) Ye (hs a (List.Mem.head _)) (.inl rfl) (by(refine AA Mz ?_;refine AA (Int.sub_zero ..:) ?_;rfl)) q)
  | cons b ns=>cases ns with
   | nil=>
    (refine CQ (C9 hv) ?_;rintro v u e h1 h2)
    subst e
    induction h1 with | mk t=>induction h2 with | mk t'=>
    exact call_range_2 (go (pE _ rfl) (hs a (List.Mem.head _)) (hs b (by simp)) (.inl rfl) Mz q)
   | cons c ns=>cases ns with
    | cons _ _=>exact q.elim
    | nil=>
     (refine FZ (Kf hv) ?_;rintro v u w e h1 h2 h3)
     subst e
     induction h1 with | mk t=>induction h2 with | mk t'=>induction h3 with | mk t''=>
     rcases (q) with ⟨hc,q⟩ | ⟨hc,q4⟩
     ·exact call_range_3 (fun q=>absurd (q▸hc) (by decide)) (go (pE _ rfl) (hs a (List.Mem.head _)) (hs b (by simp)) (.inr (hc.elim .inl fun h=>.inr (.inl h))) (Yd hc) q) (Or.inl (PyProof.noPylong_small (by rcases hc with rfl | rfl<;>decide)))
     ·subst hc
      exact call_range_3 (by decide) (go (pE _ rfl) (hs a (List.Mem.head _)) (hs b (by simp)) (.inr (.inr (.inr rfl))) RD q4) (Or.inl (PyProof.noPylong_small (qW _ _)))
end
section
variable{C:Al}{hn:Bool}{d:Nat}{gv:Str->Option PV}{fe ft:Ge->Expr->Option CE}{S:CY}{cx:Cx}{Γ:Ge}{σ:St}{A:Around}{O:Ow}{s:Shared}{E:Value->Shared->Prop}{X:Addr->Prop}
theorem RE{p:PV}(hk:XS p=some k)(hv:AJ C h X p v):v=.type (YL k):=by
 cases p with
 | ty n=>
  have:=List.find?_some hk
  rw [beq_iff_eq] at this
  (refine AA this ?_);exact hv
 | _=>exact nS hk
noncomputable def P5(nm:Bool)(tgt:Expr):Prop:=match nm with | true=>DA tgt=true | false=>G3 tgt=true
theorem P6{K:Prop}(h:bQ b K):b=true/\K:=by
 induction b with
 | true=>exact⟨rfl,h⟩
 | false=>exact h.elim
theorem V2{K:List PV->Prop}(ht:P5 nm tgt)(hh:A.handled=none)(q:MZ nm k ps K)(hv:AF C s.heap X ps vs)(h:∀ l h' it tk,K l->CM C A tgt X s.heap h' l it->Q it { s with heap:=h',toks:=tk }):
  wpAny (model C.prog C.w) A (call (.type (YL k)) vs) (fun xv s₁=>wpAny (model C.prog C.w) A (pyIter xv) Q E s₁) E s:=by
 induction k with
 | range=>
  induction nm with
  | true=>exact TY ht hh q hv h
  | false=>exact q.elim
 | zip=>
  induction nm with
  | true=>exact q.elim
  | false=>
   revert hv
   apply KW q
   intro a b q
   apply E0 q
   intro la q
   apply E0 q
   intro lb q hv
   (refine CQ (C9 hv) ?_;rintro v u e rv ru)
   exact e▸TV hh rv ru ht fun h' it hi hit=>hit (h _ h' it _ q hi)
 | enum=>
  cases nm with
  | true=>exact q.elim
  | false=>
   revert hv
   apply HY q
   intro a q
   apply E0 q
   intro la q hv
   (refine AE (C8 hv) ?_;rintro v e rv)
   exact e▸RC hh rv ht fun h' it hi hit=>hit (h _ h' it _ q hi)
theorem TZ{K:List PV->Prop}(ht:nm=true->DA tgt=true)(hh:A.handled=none)(q:items nm p K)(hv:AJ C s.heap X p v)(hX:∀ a,X a->a<s.heap.objs.size)(h:∀ l h' it,K l->CM C A tgt X s.heap h' l it->Q it { s with heap:=h' }):wpAny (model C.prog C.w) A (pyIter v) Q E s:=by
 cases p with
 | lst l=>exact RB hh hv hX fun h' it hi=>h _ h' it q hi
 | tup l=>exact iter_tuple hh hv hX fun h' it hi=>h _ h' it q hi
 | bytes b=>
  (refine AM (P6 q) ?_;rintro e q)
  exact ON (ht e) hh hv fun h' it hi=>h _ h' it q hi
 | str b=>
  (refine AM (P6 q) ?_;rintro e q)
  exact TU (ht e) hh hv fun h' it hi=>h _ h' it q hi
 | _=>exact q.elim
set_option tactic.hygienic true in
theorem Ki{e:Expr}(h:I6 e=true):∀ x,foldedSetIterable e env x=pure x:=fun x=>by
 cases e<;>first | rfl | cases h
set_option tactic.hygienic true in
theorem Ta(G:Jw C gv)(H:AO C hn d gv fe ft S)(F:AY C hn d cx)(g:AU gv Γ cx){K:KL}(ht:P5 nm tgt)(hc:I7 Γ (fe Γ) e=some c)(h:bx hn S nm c σ K)(ha:EC cx A)(r:R cx O σ s)(k:∀ it s₂ O₁ σ1 l sA,Aw cx O σ s O₁ σ1 sA->(∃ h' tk,s₂={ sA with heap:=h',toks:=tk })->CM cx.C A tgt (Ex cx O₁) sA.heap s₂.heap l it->K l σ1->Kt it s₂):
  wpAny (model cx.C.prog cx.C.w) A (eval e cx.env) (fun xv s₁=>wpAny (model cx.C.prog cx.C.w) A (pyIter xv) Kt E s₁) E s:=by
 (have h0:=h.1;have h:=h.2)
 have hh:=F.hd ha h0
 have plain:∀ e,fe Γ e=some c->wpAny (model cx.C.prog cx.C.w) A (eval e cx.env) (fun xv s₁=>wpAny (model cx.C.prog cx.C.w) A (pyIter xv) Kt E s₁) E s:=fun e hc=>by
  have h:S.e c σ (Sf nm K):=by
   cases c with
   | itr _ _=>exact fT (H.row _ _ _ hc)
   | _=>exact h
  exact(H.e cx F Γ g e c hc σ _ h).seq ha r fun xv s₁ O₁ σ1 p p₁ rp q₁=>TZ (fun e=>by subst e;exact ht) hh q₁ rp p₁.r.exLt fun l h' it q hi=>k it _ O₁ σ1 l s₁ p₁ ⟨h',s₁.toks,rfl⟩ hi q
 delta I7 at hc
 generalize view e=v at hc
 induction v with
 | call fn args kws p=>
  dsimp only at hc
  split at hc
  ·rename_i ik hik
   (refine AE (AN hik) ?_;rintro v hv0 hk2)
   (refine AE (AN hv0) ?_;rintro x hx hv)
   (refine AI (Cc hx) ?_;rintro px e)
   subst e
   (refine AM (A2 hc) ?_;rintro hb hc)
   (refine AE (Ad hc) ?_;rintro es hes e)
   induction e
   rw [Bool.and_eq_true,List.isEmpty_iff] at hb
   (have e:=hb.1;have hz:=hb.2;clear hb)
   subst e
   refine wpAny_Call_NameR (Eb G.cfg F g ha r hv fun fv s₁ O₁ p₁ ra=>?_)
   (refine AA (RE hk2 ra) ?_)
   exact callWith_excType (Ai hz) (DP H F g hz hes h ha p₁.r fun vs s₂ O₂ σ2 ps p₂ rp q₂=>V2 ht hh q₂ rp fun l h' it tk q hi=>k it _ O₂ σ2 l s₂ (p₁.trans p₂) ⟨h',tk,rfl⟩ hi q)
  ·exact plain _ hc
 | set _ _ _=>exact nS hc
 | _=>exact plain _ hc
end
end Mine.Lake
set_option maxHeartbeats 4000000
namespace Mine.Lake
theorem KB:entryFor table "proto.unchain" = some Builtin.«proto.unchain»:=entryFor_of_tree (by kernel_rfl)
section
variable{C:Al}{A:Around}{s:Shared}{E:Value->Shared->Prop}
theorem RF{a:Addr}{o:Obj}{fs:Array Value}{Q:α->Shared->Prop}(hh:B2 A P s.heap)(hne:∀ e,A.handled=some (.ref e)->e≠a)(ho:s.heap.get? a=some o)(hd:o.data=.fields fs)(hf:2<fs.size)(h:∀ h',Heap.SameBut a s.heap h'->(∃ o',h'.get? a=some o'/\o'.cls=o.cls/\o'.dict=o.dict)->E (.ref a) { s with heap:=h' }):wpAny (model C.prog C.w) A (raiseNew (.ref a):Sem α) Q E s:=by
 refine oq (wpAny_handled ?_)
 rcases hh with hh | ⟨e,oe,fe,he,_,ge,de,ce⟩
 ·(refine AA hh ?_)
  exact oq (o6 (wpAny_throw (h s.heap (.refl ..) ⟨o,ho,rfl,rfl⟩)))
 ·(refine AA he ?_)
  have hne':(Value.ref e != Value.ref a)=true:=by
   have:=hne e he
   simpa using this
  refine(?_:wpAny _ A (if (Value.ref e != Value.ref a)=true then _ else _) _ _ s)
  (refine AA (pO hne') ?_)
  refine oq (pR (wpAny_runValue (codeAny_builtin KB ?_)))
  refine oq (wpAny_field ge de (by trivial) ?_)
  refine oq (o6 (o6 ?_))
  refine oq ?_
  refine wpAny_setField ho hd hf (wpAny_throw (h _ (Heap.SameBut.update ..) ⟨_,qd _ ho (Obj.isFreed_of_fields (Obj.data_mapFields hd _)),Obj.cls_mapFields ..,?_⟩))
  obtain ⟨cl,di,da,sl⟩:=o
  induction da<;>rfl
theorem Kj{it t:Addr}{items:Array Value}(hh:B2 A P s.heap)(hnew:∀ e,A.handled=some (.ref e)->e≠it)(hit:s.heap.IsTupleIter it t i)(ht:s.heap.IsTuple t items)(hx:items[i]?=none)(hQ:∀ h',Heap.ExtBut it s.heap h'->Q none { s with heap:=h' }):wpAny (model C.prog C.w) A (pyNext (.ref it)) Q E s:=by
 refine Ap fun G kk=>?_;(refine Cp (id hit) ?_;rintro o ho hc hd)
 obtain ⟨ol,hol,_,nl,hdl⟩:=ht;refine kk ?_
 refine oq (wpAny_attempt (wpAny_callSpecial?_slot hit.typeIs PySem.F.slot_tuple_iterator_next
  (qZ PySem.F.slot_tuple_iterator_next hit.typeIs PySem.F.entry_tuple_iterator_next ?_ (PySem.F.args_tuple_iterator_next_1 _))))
 refine(?_:wpAny _ _ (field (.ref it) 0 >>= _) _ _ s)
 refine oq (wpAny_field ho hd (x:=.ref t) rfl ?_)
 refine oq (wpAny_field ho hd (x:=.int i 0) rfl ?_)
 refine oq (wpAny_seqItems hol hdl ?_)
 simp only [Int.toNat_natCast,hx]
 refine oq (wpAny_rule (oq (wpAny_setField ho hd (pW _) ?_)))
 refine oq ?_
 refine oq (m:=firstArgMember _ _) (qR (a:=Value.none) (by rfl) ?_)
 refine wpAny_newObj_type ?_ (by size_fits)
 generalize hH:(s.heap.update it _).push _=H1
 refine RF (P:=fun _=>False) (a:=H1.objs.size) ?_ ?_ (pE _ rfl) rfl (qW _ _) fun h' hs' hc'=>?_
 ·rcases hh with hh | ⟨e,oe,fe,he,h1,ge,de,ce⟩
  ·exact .inl hh
  ·exact .inr ⟨e,oe,fe,he,fun q=>q,(fun ob b o hb e=>pF _ (hH▸pF _ ((qS _ _ (Ne.symm hb)).trans e)):∀ (ob:Obj) b o,b≠it->s.heap.get? b=some o->(H1.push ob).get? b=some o) _ _ _ (hnew e he) ge,de,ce⟩
 ·intro e he heq
  rcases hh with hh | ⟨e',oe,fe,he',h1,ge,de,ce⟩
  ·have:A.handled=some (.ref e):=he
   (replace this:=(hh)▸this);exact nS this
  ·have:A.handled=some (.ref e):=he
   (replace this:=(he')▸this)
   (refine sI this ?_;clear this;intro zz;cases zz)
   have h2:H1.objs.size=s.heap.objs.size+1:=by(refine BO hH ?_;refine AA (Heap.size_push ..:) ?_;refine AA (Heap.size_update ..:) ?_;rfl)
   have h3:=pi ge
   rw [heq,h2] at h3
   exact absurd h3 (Nat.not_lt.mpr (Nat.le_succ _))
 ·(refine Cp hc' ?_;rintro o' e1 e2 _)
  refine oq (wpAny_isInstance ⟨_,e1,e2⟩ isSubtype_stop ?_)
  refine o6 (hQ _ fun b o hb e=>(hs'.2 b ?_).trans ((fun ob b o hb e=>pF _ (hH▸pF _ ((qS _ _ (Ne.symm hb)).trans e)):∀ (ob:Obj) b o,b≠it->s.heap.get? b=some o->(H1.push ob).get? b=some o) _ b o hb e))
  have h3:=pi e
  have h2:H1.objs.size=s.heap.objs.size+1:=by(refine BO hH ?_;refine AA (Heap.size_push ..:) ?_;refine AA (Heap.size_update ..:) ?_;rfl)
  intro q
  (replace h3:=(q)▸h3;rewrite [h2] at h3)
  exact absurd h3 (Nat.not_lt.mpr (Nat.le_succ _))
theorem B2.keeps(hh:B2 A P h)(k:∀ b o,h.get? b=some o->h'.get? b=some o):B2 A P h':=by
 rcases hh with hh | ⟨e,oe,fe,he,h1,ge,r⟩
 ·exact .inl hh
 ·exact .inr ⟨e,oe,fe,he,h1,k _ _ ge,r⟩
theorem B2.lt(hh:B2 A P h){e:Addr}(he:A.handled=some (.ref e)):e<h.objs.size:=by
 rcases hh with hh | ⟨e',oe,fe,he',h1,ge,r⟩
 ·(replace he:=(hh)▸he);exact nS he
 ·(replace he:=(he')▸he);(refine sI he ?_;clear he;intro zz;cases zz);exact pi ge
theorem Ft{items:Array Value}(hh:B2 A P s.heap)(ht:s.heap.IsTuple t items)(hn:targets.length=items.size)(hstar:targets.findIdx? (·.1)=none)(h:∀ h',(∀ b o,s.heap.get? b=some o->h'.get? b=some o)->wpAny (model C.prog C.w) A (assignInOrder (targets.map (·.2)) items.toList) Q E { s with heap:=h' }):
  wpAny (model C.prog C.w) A (unpack (.ref t) targets) Q E s:=by
 have hlt:t≠s.heap.objs.size:=by(refine AE ht ?_;rintro o ho _);exact pX (pi ho)
 delta unpack
 (refine AA hn ?_;refine AA hstar ?_)
 refine oq (pR ?_)
 refine oq ?_
 refine oq (wpAny_specialOf ht.typeIs PySem.F.slot_tuple_iter.lookup ?_)
 refine o6 ?_
 refine oq (pR (wpAny_pyIter_tuple ht ?_))
 refine oq (pR (wpAny_draw_tuple hlt items.size 0 _ _ ⟨_,pE _ rfl,rfl,rfl⟩ (ht.push _) (oy fun q=>nl (mr items.size) ⟨false,(nW Ae),(nP (nK 0) Ae)⟩ rfl (qO q)) fun h₁ hit1 hs₁=>?_))
 have hall:List.take items.size (List.drop 0 items.toList)=items.toList:=by
  exact qi (ou _)
 (refine AA hall ?_)
 (refine AA (pH (by simp)) ?_)
 have k1:∀ b o,s.heap.get? b=some o->h₁.get? b=some o:=fun b o e=>(hs₁.2 b (pX (pi e))).trans (pF _ e)
 refine oq (pR (Kj (hh.keeps k1) (fun e he q=>?_) hit1 (ht.at fun o e=>k1 _ o e) (by simp) fun h' hk=>?_))
 ·have:=hh.lt he
  rw [q] at this
  exact Nat.lt_irrefl _ this
 ·refine o6 (h h' fun b o e=>hk b o (pX (pi e)) (k1 b o e))
end
section
variable{C:Al}{hn:Bool}{d:Nat}{gv:Str->Option PV}{fe ft:Ge->Expr->Option CE}{S:CY}{cx:Cx}{Γ:Ge}{σ:St}{A:Around}{O:Ow}{s:Shared}{E:Value->Shared->Prop}{X:Addr->Prop}
theorem JL(g:AU gv Γ cx)(h:EY Γ.sc x=true):cx.env.kindOf x=some .local∨(cx.env.kindOf x=some .cell/\x ≠ "__classdict__" /\ cx.oc x=true/\∃ c,cx.env.cells.lookup x=some c):=by
 delta EY at h
 rw [Bool.and_eq_true,Bool.or_eq_true,beq_iff_eq,beq_iff_eq,bne_iff_ne] at h
 (refine AM h ?_;rintro h1 (h2 | h2))
 ·exact .inl (g.sc x _ h2 (by decide)).1
 ·exact .inr ⟨(g.sc x _ h2 (by decide)).1,h1,(g.sc x _ h2 (by decide)).2 rfl⟩
theorem Kk{e:Expr}(h:noStar e=true):assignEach (e::es) env=(false,assign e env)::assignEach es env:=by
 cases e<;>first | rfl | cases h
theorem Fu:∀ {es:List Expr},es.all noStar=true->(assignEach es env).findIdx? (·.1)=none/\(assignEach es env).length=es.length
 | [],_=>⟨rfl,rfl⟩
 | e::es,h=>by
  (replace h:=(List.all_cons)▸h;rewrite [Bool.and_eq_true] at h)
  (refine AM (Fu (env:=env) h.2) ?_;rintro h1 h2)
  (refine AA (Kk h.1) ?_)
  exact⟨by(refine AA (List.findIdx?_cons) ?_;refine AA h1 ?_);rfl,congrArg Nat.succ h2⟩
noncomputable abbrev P7(cx:Cx)(O:Ow)(σ:St)(s:Shared)(K:St->Prop)(_:Unit)(s':Shared):Prop:=∃ O' σ',Aj cx O σ s O' σ' s'/\K σ'
noncomputable def cK(cx:Cx)(Γ:Ge)(n:Nat):Prop:=∀ (tgt:Expr) (c:CE) (p:PV) (σ:St) (K:St->Prop),Gw n Γ tgt=some c->Mb c p σ K->(∃ σ',K σ')/\∀ (v:Value) (A:Around) (O:Ow) (s:Shared) (E:Value->Shared->Prop),EC cx A->R cx O σ s->Yc tgt cx.C s.heap (Ex cx O) p v->
  wpAny (model cx.C.prog cx.C.w) A (assign tgt cx.env v) (P7 cx O σ s K) E s
theorem JM(ih:cK cx Γ n):∀ (es:List Expr) (cs:List CE) (ps:List PV) (σ:St) (K:St->Prop),Ay (Gw n Γ) es=some cs->es.all noStar=true->N7 cs ps σ K->(ps.length=es.length/\∃ σ',K σ')/\∀ (vs:List Value) (A:Around) (O:Ow) (s:Shared) (E:Value->Shared->Prop),EC cx A->R cx O σ s->AF cx.C s.heap (Ex cx O) ps vs->
  wpAny (model cx.C.prog cx.C.w) A (assignInOrder ((assignEach es cx.env).map (·.2)) vs) (P7 cx O σ s K) E s
 | [],_,_,σ,K,hc,_,h=>by
  refine Ap fun G kk=>?_;(refine sI hc ?_;clear hc;intro zz;induction zz)
  (refine AM (IB h) ?_;rintro e h)
  subst e;refine kk ?_
  exact⟨⟨rfl,σ,h⟩,fun vs A O s E ha r hr=>by
   exact o6 ⟨O,σ,Aj.refl r,h⟩⟩
 | e::es,_,ps,σ,K,hc,hz,h=>by
  (refine AE (AN hc) ?_;rintro c h1 h0)
  (refine AE (Ad h0) ?_;rintro cs h2 h3)
  induction h3
  (replace hz:=(List.all_cons)▸hz;rewrite [Bool.and_eq_true] at hz)
  induction ps with
  | nil=>exact h.elim
  | cons p ps=>
   refine Ap fun G kk=>?_;(refine AM (ih e c p σ _ h1 h) ?_;rintro ⟨σ1,q⟩ w)
   (refine AM (JM ih es cs ps σ1 K h2 hz.2 q) ?_;rintro ⟨l,x⟩ _);refine kk ?_
   refine⟨⟨congrArg Nat.succ l,x⟩,fun vs A O s E ha r hr=>?_⟩
   induction hr with | mk v vs rv rvs=>
   (refine AA (Kk hz.1) ?_)
   refine(?_:wpAny _ A (do holding vs (assign e cx.env v);assignInOrder ((assignEach es cx.env).map (·.2)) vs) _ E s)
   refine oq (pR (pN (w v A O s E ha r (.inl rv)) (fun _ s₁ hx=>BS hx fun O₁ σ1 p₁ q₁=>?_) fun _ _ x=>x))
   exact pN ((JM ih es cs ps σ1 K h2 hz.2 q₁).2 vs A O₁ s₁ E ha p₁.r (p₁.reps rvs)) (fun _ s₂ zq=>(by refine BS zq ?_;rintro O₂ σ2 p₂ q₂;exact⟨O₂,σ2,p₁.trans p₂,q₂⟩)) fun _ _ x=>x
theorem Tb{v:Value}(hv:Yc tgt C h X (.tup ps) v):∃ T vs,v=.ref T/\h.IsTuple T vs.toArray/\AF C h X ps vs:=by
 rcases hv with hv | ⟨_,ps',T,vs,e,e2,ht,hr⟩
 ·induction hv with | mk hz T vs _ ht hr=>
  exact⟨T,vs,rfl,ht.is,hr⟩
 ·(injection e with z1;induction z1)
  exact⟨T,vs,e2,ht,hr⟩
theorem II(g:AU gv Γ cx):∀ n,cK cx Γ n
 | 0=>fun _ _ _ _ _ h=>(nS h)
 | n+1=>fun tgt c p σ K hc h=>by
  have hc:Mm (Gw n) Γ tgt=some c:=hc
  delta Mm at hc
  generalize view tgt=w at hc
  induction w with
  | name x pos=>
   refine Ap fun G kk=>?_;(refine AM (A2 hc) ?_;rintro hb hc)
   (refine AE (Ad hc) ?_;rintro i hi e)
   subst e;refine kk ?_
   rw [Bool.and_eq_true] at hb
   have q:=B5 h
   refine⟨⟨_,q⟩,fun v A O s E ha r hv=>?_⟩
   rcases hv with hv | ⟨ht,_⟩
   ·exact wpAny_assign_Name (B8 r (JL g hb.1) fun h' tk T st=>⟨_,_,r.storeFr (g.nm▸D6 hi) st hv,q⟩)
   ·exact fT ht
  | tup es k pos=>
   refine Ap fun G kk=>?_;(refine AM (A2 hc) ?_;rintro hz hc)
   (refine AE (Ad hc) ?_;rintro cs hcs e)
   subst e
   (refine AE (KY h) ?_;rintro ps e h)
   subst e
   (refine AM (JM (II g n) es cs ps σ K hcs hz h) ?_;rintro ⟨l,x⟩ w);refine kk ?_
   refine⟨x,fun v A O s E ha r hv=>?_⟩
   (refine CQ (Tb hv) ?_;rintro T vs e ht hr)
   subst e
   (refine AM (Fu (env:=cx.env) hz) ?_;rintro b1 b2)
   refine oq (qI (Ft (ha.hand' r) ht ?_ b1 fun h' k=>?_))
   ·(refine AA b2 ?_;refine BO l ?_;refine AA ph ?_;refine AA hr.length ?_;rfl)
   ·exact pN (w vs A O _ E ha ((Aw.refl r).op (AG.of_keeps k)).r (((Aw.refl r).op (AG.of_keeps k)).reps hr)) (fun _ s' zq=>(by refine BS zq ?_;rintro O' σ' p' q;exact⟨O',σ',(((Aw.refl r).op (AG.of_keeps k)).sp r).trans p',q⟩)) fun _ _ x=>x
  | _=>exact nS hc
end
structure Eh(C:Al)(hn:Bool)(d:Nat)(gv:Str->Option PV)(Γ:Ge)(fe ft:Ge->Expr->Option CE)(fs:List Stmt->Option (List CS))(S:CY):Prop where
 c:AO C hn d gv fe ft S
 s:∀ cx,AY C hn d cx->AU gv Γ cx->∀ b cs,fs b=some cs->∀ σ K,S.s cs σ K->Fc cx (execs b cx.env) σ K
 ca:∀ cx,AY C hn d cx->AU gv Γ cx->∀ x px i elt gens scope p pos c,I9 Γ.sc x px (.ListComp elt gens scope p) scope=true->EX x Γ.nm=some i->fe Γ (.ListComp elt gens scope p)=some c->∀ σ Q,S.e c σ (kZ (YA i (Q .next)))->Fc cx (exec (.Assign [.Name x px] (.ListComp elt gens scope p) pos) cx.env) σ Q
section
variable{C:Al}{hn:Bool}{d:Nat}{gv:Str->Option PV}{fe ft:Ge->Expr->Option CE}{fs:List Stmt->Option (List CS)}{S:CY}{cx:Cx}{Γ:Ge}{σ:St}{A:Around}{O:Ow}{s:Shared}{E:Value->Shared->Prop}{X:Addr->Prop}
theorem B1.next{Q:KS}(p:Aj cx O σ s O' σ' s')(q:Q .next σ'):B1 cx O σ s Q .next s':=⟨O',σ',.next,p,rfl,q⟩
theorem B1.trans{Q:KS}(p:Aj cx O σ s O' σ' s')(g:B1 cx O' σ' s' Q f s''):B1 cx O σ s Q f s'':=
 (by obtain ⟨O₂,σ2,o,p₂,h,q⟩:=g;exact⟨O₂,σ2,o,p.trans p₂,h,q⟩)
theorem Fc.seq{Q:KS}(h:Fc cx m σ Q)(ha:EC cx A)(r:R cx O σ s){K:Flow->Shared->Prop}(k:∀ f s',B1 cx O σ s Q f s'->K f s'):wpAny (model cx.C.prog cx.C.w) A m K E s:=
 pN (h A ha O s E r) k fun _ _ x=>x
theorem Ev.seqS{K:KE}(h:Ev cx m σ K)(ha:EC cx A)(r:R cx O σ s)(k:∀ v s₁ O₁ σ1 p,Aj cx O σ s O₁ σ1 s₁->R cx O₁ σ1 s₁->AJ cx.C s₁.heap (Ex cx O₁) p v->K p σ1->Kt v s₁):wpAny (model cx.C.prog cx.C.w) A m Kt E s:=
 h.seq ha r fun v s₁ O₁ σ1 p p₁ rp q=>k v s₁ O₁ σ1 p (p₁.sp r) p₁.r rp q
theorem JN(h:env.scope.kind=.function):interactive env=false:=by delta interactive;(refine AA h ?_);rfl
theorem Ct{v:Expr}(h:Fn v=false):swapsWith v t n env=pure false:=by
 cases v<;>first | rfl | cases h
theorem G4:PlainAttrs "list" :=
 ⟨⟨"list.__getattribute__",by kernel_rfl,by decide +kernel⟩,by kernel_rfl⟩
theorem GR:typeOf (.builtin "list.append")=pure (.type "method_descriptor"):=by refine(?_:builtinType _=_);(refine AA builtinType_eq_fast ?_);kernel_rfl
theorem JO{items:List Value}(hl:Ba s.heap l items)(hQ:∀ h',Ba h' l (items ++ [x])->Heap.SameBut l s.heap h'->Q .none { s with heap:=h' })(hsz:items.length<=sizeLine):
  wpAny (model C.prog C.w) A (call (.builtin "list.append") [.ref l,x]) Q E s:=by
 refine Ap fun G kk=>?_;obtain ⟨o,ho,hc,hdi,n,hd⟩:=id hl
 (refine AI (Obj.data_mapSeq hd (·.push x)) ?_;rintro n' hd');refine kk ?_
 refine qZ slot_list_append hl.isList.typeIs entry_list_append ?_ (args_list_append _ _)
 refine(?_:wpAny _ _ (updateSeq l (·.push x) >>= fun _=>ret .none) _ _ s)
 refine oq ?_
 refine wpAny_updateSeq ho hd (o6 ⟨.none,rfl,hQ _ ?_ (Heap.SameBut.update ..)⟩) (hsz)
 refine⟨_,qd _ ho (Obj.isFreed_of_seq hd'),(Obj.cls_mapSeq ..).trans hc,?_,n',by(refine AA hd' ?_;refine AA (List.push_toArray ..:) ?_;rfl)⟩
 obtain ⟨cl,di,da,sl⟩:=o
 induction da<;>exact hdi
theorem Tc{K:List PV->Prop}(h:N6 sl K):∃ l,sl=.ow l/\K l:=by
 induction sl<;>first | exact⟨_,rfl,h⟩ | exact h.elim
theorem G5{K:List PV->Prop}(h:J1 σ i fun s=>N6 s K):∃ l,σ.get i=some (.ow l)/\K l:=by
 (refine AE (EZ h) ?_;rintro sl e h)
 (refine AE (Tc h) ?_;rintro l e2 h)
 exact⟨l,e2▸e,h⟩
theorem Td(h:n<BE):n+1<=sizeLine:=om h Bu
theorem Yg(H:AO C hn d gv fe ft S)(F:AY C hn d cx)(g:AU gv Γ cx){Q:KS}(hd:(!(x==("__debug__" : Str)))=true)(hline:(ap.endLine==p.line)=true)(hi:EX x Γ.nm=some i)(h1:fe Γ a=some c)(h:J1 σ i fun s=>N6 s fun _=>S.e c σ (bz i (Q .next))):Fc cx (exec (.Expr (.Call (.Attribute (.Name x px) "append" ap) [a] [] p) pos) cx.env) σ Q:=fun A ha O s E r=>by
 (refine AE (G5 h) ?_;rintro l e h)
 obtain ⟨ad,vs,g1,g2,g3,g4,g5⟩:=r.ow i l e
 have hz:[a].all noStar=true:=by(refine AA List.all_cons ?_;refine AA (H.star _ _ _ h1) ?_);rfl
 refine wpAny_Expr_any ?_ (JN r.env.kind) rfl
 refine oq (BG g hi r.env.kind g2 hd (oq (qI ?_)))
 refine E7 hz (show 1<20 by decide) hline (fun {K pl} k=>getMethod_builtin g3.isList.typeIs G4 slot_list_append GR (fun b e=>?_) k) ?_
 ·(injection e with z1;induction z1)
  obtain ⟨o,ho,_,hdi,_⟩:=g3
  exact⟨o,ho,hdi⟩
 ·refine Ef (Ai hz) (BQ (Ai hz) ?_)
  refine qK ((H.e cx F Γ g a c h1 σ _ h).seq ha r fun v s₁ O₁ σ1 p p₁ rv q₁=>wpAny_items_nil ⟨[v],rfl,?_⟩) (AR (H.star _ _ _ h1))
  (refine Cp (G5 q₁) ?_;rintro l' e' hz q)
  obtain ⟨ad',vs',k1,k2,k3,k4,k5⟩:=p₁.r.ow i l' e'
  induction pP ((p₁.sub _ _ k1).symm.trans g1)
  exact JO k3 (fun h' hl2 hs'=>B1.next ((p₁.sp r).trans (p₁.r.turnOw (vs:=vs') e' k1 hs' hl2 k2 (AF.append (AF.single rv) k4) (by(refine AA o9 ?_);exact Td hz))) (B5 q)) (by(refine AA k4.length ?_);exact k5)
theorem Yh(H:Eh C hn d gv Γ fe ft fs S)(F:AY C hn d cx)(g:AU gv Γ cx){b o:List Stmt}(h1:ft Γ t=some ct)(h2:fs b=some cb)(h3:fs o=some co)(h:S.t ct σ (YB S cb co Q)):Fc cx (exec (.If t b o pos) cx.env) σ Q:=fun A ha O s E r=>by
 refine wpAny_If ((H.c.t cx F Γ g t ct h1 σ _ h).seq ha r fun c s₁ O₁ σ1 p₁ q₁=>?_)
 induction c with
 | true=>exact(H.s cx F g b cb h2 σ1 Q (q₁.t rfl)).seq ha p₁.r fun f s' g=>g.trans (p₁.sp r)
 | false=>exact(H.s cx F g o co h3 σ1 Q (q₁.f rfl)).seq ha p₁.r fun f s' g=>g.trans (p₁.sp r)
theorem Te(h:Ev cx (eval e cx.env) σ (YC Q)):Fc cx (exec (.Return (some e) pos) cx.env) σ Q:=fun A ha O s E r=>
 wpAny_Return_some (h.seqS ha r fun v s₁ O₁ σ1 p p₁ _ rp q=>⟨O₁,σ1,.ret p,p₁,⟨v,rfl,rp⟩,q⟩)
theorem V3{Q:KS}(h:Q (.ret .none) σ):Fc cx (exec (.Return none pos) cx.env) σ Q:=fun A ha O s E r=>wpAny_Return_none ⟨O,σ,.ret .none,Aj.refl r,⟨.none,rfl,rfl⟩,h⟩
theorem Yi{Q:KS}(h:Q .brk σ):Fc cx (exec (.Break pos) cx.env) σ Q:=fun A ha O s E r=>wpAny_Break ⟨O,σ,.brk,Aj.refl r,rfl,h⟩
theorem Yj{Q:KS}(h:Ev cx (eval (.Call f a k p) cx.env) σ (b7 (Q .next))):Fc cx (exec (.Expr (.Call f a k p) pos) cx.env) σ Q:=fun A ha O s E r=>
 wpAny_Expr_any (h.seqS ha r fun v s₁ O₁ σ1 p p₁ _ rp q=>B1.next p₁ q) (JN r.env.kind) rfl
theorem M0{K:Flow->Shared->Prop}(q:Sc N Q o σ')(hf:Gh cx O' s' f o)(go:N σ'->I)(out:∀ f o,Gh cx O' s' f o->Q o σ'->K f s'):match (motive:=Flow->Prop) f with | .next=>I | .cont=>I | .brk=>K .next s' | .ret v=>K (.ret v) s':=by
 induction o with
 | next=>cases (show f=.next from hf);exact go q
 | cont=>cases (show f=.cont from hf);exact go q
 | brk=>cases (show f=.brk from hf);exact out .next .next rfl q
 | ret p=>
  (refine AE hf ?_;clear hf;rintro v e rv)
  subst e
  exact out (.ret v) (.ret p) ⟨v,rfl,rv⟩ q
theorem Yk(H:Eh C hn d gv Γ fe ft fs S)(F:AY C hn d cx)(g:AU gv Γ cx)(h1:ft Γ t=some ct)(h2:fs b=some cb)(h:Wh (Sk S ct cb) σ Q):Fc cx (exec (.While t b [] pos) cx.env) σ Q:=fun A ha O s E r=>by
 (refine AI h.h ?_;rintro n h)
 refine wpAny_While (codeAny_whileLoop (fun n s'=>∃ O' σ',Aj cx O σ s O' σ' s'/\Pn (Sk S ct cb) Q n σ') (fun n s' hI=>?_) n ⟨O,σ,Aj.refl r,h⟩)
 (refine BS hI ?_;clear hI;rintro O' σ' p hl)
 induction n with
 | zero=>exact hl.elim
 | succ n=>
  refine(H.c.t cx F Γ g t ct h1 σ' _ hl).seq ha p.r fun c s₁ O₁ σ1 p₁ q₁=>?_
  have p₂:=p.trans (p₁.sp p.r)
  induction c with
  | false=>exact wpAny_execs_nil (B1.next p₂ (q₁.f rfl))
  | true=>exact(H.s cx F g b cb h2 σ1 _ (q₁.t rfl)).seq ha p₁.r fun f s₂ zq=>(by obtain ⟨O₂,σ2,o,p₃,hf,q⟩:=zq;exact M0 q hf (fun q=>⟨n,qF n,O₂,σ2,p₂.trans p₃,q⟩) fun f o hf q=>⟨O₂,σ2,o,p₂.trans p₃,hf,q⟩)
end
theorem Tf{n:Nat}{Γ:Ge}{tgt:Expr}(h:Gw n Γ tgt=some c):P5 (Ql c) tgt:=by
 cases n with
 | zero=>exact nS h
 | succ n=>
  refine DC (P:=fun c=>P5 (Ql c) tgt) (show Mm (Gw n) Γ tgt=some c from h) ?_
  delta Mm
  generalize view tgt=v
  induction v with
  | name x p=>exact Ea fun _=>JA fun i=>rfl
  | tup es k p=>exact Ea fun _=>JA fun cs=>rfl
  | _=>exact True.intro
theorem JP{it:Expr}(h:I7 Γ f it=some c):I6 it=true:=by
 cases it<;>first | rfl | cases h
noncomputable abbrev Cx.ext(cx:Cx)(nw:List Addr):Cx:={ cx with X:=fun b=>cx.X b∨b∈nw }
structure Nw(cx:Cx)(pu nw:List Addr):Prop where
 base:∀ b∈nw,cx.C.base.get? b=none
 he:∀ b∈nw,cx.he.get? b=none
 loc:∀ b∈nw,b≠cx.env.locals
 cell:∀ b∈nw,∀ y,cx.env.cells.lookup y≠some b
 fr:∀ b∈nw,¬inF cx.l b
 pu:∀ b∈nw,b∉pu
section
variable{cx:Cx}{σ σ1 σ' σ'':St}{A:Around}{O O₁ O' O'':Ow}{s s₁ s' s'':Shared}{E:Value->Shared->Prop}{nw:List Addr}
theorem R.isNw(r:R cx O σ s)(h:∀ b∈nw,s.heap.get? b=none):Nw cx (pa σ.purse) nw where
 base:=fun b hb=>by
  cases e:cx.C.base.get? b with
  | none=>rfl
  | some o=>have:=r.stays b o e;(replace this:=(h b hb)▸this);exact nS this
 he:=fun b hb=>by
  cases e:cx.he.get? b with
  | none=>rfl
  | some o=>(refine AI (r.heIn b o e) ?_;rintro o' e');(replace e':=(h b hb)▸e');exact nS e'
 loc:=fun b hb q=>by
  (refine AI (r.exIn _ (.inr (.inr (.inl rfl)))) ?_;rintro o e)
  (replace e:=Eq.symm (q)▸e;replace e:=(h b hb)▸e);exact nS e
 cell:=fun b hb y q=>by
  (refine AI (r.exIn b (.inr (.inr (.inr ⟨y,q⟩)))) ?_;rintro o e)
  (replace e:=(h b hb)▸e);exact nS e
 fr:=fun b hb q=>by
  (refine AI (r.exIn b (r.exF b q)) ?_;rintro o e)
  (replace e:=(h b hb)▸e);exact nS e
 pu:=fun b hb q=>by
  (refine AI (r.exIn b (r.exP b q)) ?_;rintro o e)
  (replace e:=(h b hb)▸e);exact nS e
theorem R.addX(r:R cx O σ s)(k:∀ b o,s.heap.get? b=some o->h'.get? b=some o)(hn:∀ b∈nw,s.heap.get? b=none/\∃ o,h'.get? b=some o):R (cx.ext nw) O σ { s with heap:=h',toks:=tk }:=
 have r':=r.move (AG.of_keeps k)
 have N:=r.isNw fun b hb=>(hn b hb).1
 have hX:=fun b q=>by
  rcases q with (q | q) | q
  ·exact .inl (.inl q)
  ·exact .inr (hn b q).1
  ·exact .inl (.inr q)
 {r' with
  fr:=fun x p hx=>by
   (refine AE (r.fr x p hx) ?_;rintro v h1 h2)
   exact⟨v,KX.lookI (P:=Ax) (F:=Ax) (KX.of_keeps k) (fun q=>q) (fun _ _ _ q=>q) h1,AJ.move (KX.of_keeps (P:=Ax) (F:=Ax) k) (fun _ q=>q.elim) (fun _ q=>q.elim) hX _ _ h2⟩
  ow:=fun x l hx=>by
   obtain ⟨a,vs,h1,h2,h3,h4,h5⟩:=r.ow x l hx
   exact⟨a,vs,h1,(KX.of_keeps k:KX Ax Ax s.heap h').lookI (fun q=>q) (fun _ _ _ q=>q) h2,(KX.of_keeps k:KX Ax Ax s.heap h').own (fun q=>q) h3,AF.move (KX.of_keeps k:KX Ax Ax s.heap h') (fun _ q=>q.elim) (fun _ q=>q.elim) hX _ _ h4,h5⟩
  oNew:=fun x a hx=>by
   refine⟨fun q=>q.elim (r.oNew x a hx).1 fun q=>?_,(r.oNew x a hx).2⟩
   (refine BS (r.oIn x a hx) ?_;rintro _ o e _)
   (replace e:=((hn a q).1)▸e);exact nS e
  fX:=fun b hb=>(r.fX b hb).imp .inl id
  purse:=r'.purse.reX fun b hb=>.inl (r'.purse.xs b hb)
  xIn:=fun a ha=>ha.elim (r'.xIn a) fun q=>⟨(hn a q).2,N.base a q⟩ }
theorem R.shift{wr:List Addr}(r:R (cx.ext nw) O σ s)(hcx:∃ X2,cx2={ cx with X:=X2 })(hX:∀ b,cx2.X b->cx.X b∨b∈nw)(hp:∀ b,cx.X b->cx2.X b)(N:Nw cx (pa σ.purse) nw)(hw:∀ b∈wr,b∈nw){h':Heap}{tk:Nat}(k:∀ b o,b∉wr->s.heap.get? b=some o->h'.get? b=some o)(ex:∀ b∈wr,cx2.X b->∃ o,h'.get? b=some o)(hpX:∀ b∈pa σ.purse,cx2.X b)(hfX:∀ b,inF cx.l b->cx2.X b∨b=cx.env.locals):R cx2 O σ { s with heap:=h',toks:=tk }:=by
 (refine AI hcx ?_;clear hcx;rintro X2 rfl)
 have kk:KX (·∈wr) Ax s.heap h':=KX.of_keepsBut k
 have nL:=fun q=>N.loc _ (hw _ q) rfl
 have nC:∀ y c,cx.env.cells.lookup y=some c->c∉wr:=fun y c hc q=>N.cell _ (hw _ q) y hc
 have nO:=fun x a hx q=>(r.oNew x a hx).1 (.inr (hw _ q))
 have hE:∀ b,Ex { cx with X:=X2 } O b->Ex (cx.ext nw) O b∨s.heap.get? b=none:=fun b q=>.inl (q.imp (hX b) id)
 have hP:∀ b,b∈wr->Ex (cx.ext nw) O b∨Fa s.heap b:=fun b q=>.inl (.inl (.inr (hw b q)))
 exact {
  stays:=fun b o e=>k b o (fun q=>by(replace e:=(N.base b (hw b q))▸e);exact nS e) (r.stays b o e)
  env:=r.env
  nd:=r.nd
  ns:=(by(refine AI r.ns ?_;rintro m n);exact⟨m,kk.ns nL n⟩)
  nsNew:=r.nsNew
  cells:=fun x c hc=>(by(refine AM (r.cells x c hc) ?_;rintro ⟨v,hv⟩ e);exact⟨⟨v,kk.isCell (nC x c hc) hv⟩,e⟩)
  fr:=fun x p hx=>(by refine AE (r.fr x p hx) ?_;rintro v l q;exact⟨v,kk.lookI nL nC l,AJ.move kk hP (fun _ q=>q.elim) hE _ _ q⟩)
  ow:=fun x l hx=>let ⟨a,vs,h1,h2,h3,h4,h5⟩:=r.ow x l hx
   ⟨a,vs,h1,kk.lookI nL nC h2,kk.own (nO x a h1) h3,AF.move kk hP (fun _ q=>q.elim) hE _ _ h4,h5⟩
  oinj:=r.oinj
  oNew:=fun x a hx=>⟨fun q=>(r.oNew x a hx).1 (hX a q),(r.oNew x a hx).2⟩
  oIn:=fun x a h=>(by(refine AI (r.oIn x a h) ?_;rintro vs e);exact⟨vs,kk.list (nO x a h) e⟩)
  frames:=fun env he=>by
   obtain ⟨hk,L,o,e1,e2,e3,e4⟩:=r.frames env he
   (refine AI (kk.lives (fun q=>N.fr L (hw L q) (List.mem_filterMap.mpr ⟨env,he,e1⟩)) e3) ?_;rintro sl e5)
   exact⟨hk,L,_,e1,e2,e5,e4⟩
  fX:=hfX
  purse:=(r.purse.move kk (fun b hb q=>N.pu b (hw b q) hb) fun _ q=>q).reX hpX
  pNew:=r.pNew
  ent:=r.ent.trans_news kk (fun b q=>.inr (N.he b (hw b q))) fun _ q=>q.elim
  xIn:=fun a ha=>by
   refine⟨?_,(r.xIn a (hX a ha)).2⟩
   (refine AM (r.xIn a (hX a ha)) ?_;rintro ⟨o,e⟩ _)
   by_cases q:a∈wr
   ·exact ex a q ha
   ·exact⟨o,k a o q e⟩
  heIn:=fun b o e=>by
   (refine AI (r.heIn b o e) ?_;rintro o' e')
   exact⟨o',k b o' (fun q=>by(replace e:=(N.he b (hw b q))▸e);exact nS e) e'⟩ }
structure LS(cx:Cx)(O:Ow)(σ:St)(s:Shared)(O':Ow)(σ':St)(s':Shared):Prop where
 kx:KX (bY cx O σ) (inF cx.l) s.heap s'.heap
 sh:∃ h tk,s'={ s with heap:=h,toks:=tk }
 pa:pa σ'.purse=pa σ.purse
 on:∀ x a,O' x=some a->O x=some a∨s.heap.get? a=none
 lv:∀ b o,s.heap.get? b=some o->∃ o',s'.heap.get? b=some o'
theorem LS.refl:LS cx O σ s O σ s:=⟨KX.refl _ _ _,⟨_,_,rfl⟩,rfl,fun _ _ e=>.inl e,fun _ o e=>⟨o,e⟩⟩
theorem LS.keep{h':Heap}(k:∀ b o,s.heap.get? b=some o->h'.get? b=some o):LS cx O σ s O σ { s with heap:=h',toks:=tk }:=⟨KX.of_keeps k,⟨_,_,rfl⟩,rfl,fun _ _ e=>.inl e,fun _ o e=>⟨o,k _ o e⟩⟩
theorem LS.post(x:LS cx O σ s O' σ' s')(y:Aj (cx.ext nw) O' σ' s' O'' σ'' s''):LS cx O σ s O'' σ'' s'' where
 kx:=x.kx.trans_news y.kx (fun b q=>by
  rcases q with q | ⟨z,q⟩ | q | q
  ·exact .inl (.inl (by rw [Mine.Lake.inP,x.pa] at q;exact q))
  ·exact(x.on z b q).imp (fun e=>.inr (.inl ⟨z,e⟩)) id
  ·exact .inl (.inr (.inr (.inl q)))
  ·exact .inl (.inr (.inr (.inr q)))) fun _ q=>.inl q
 sh:=by(refine Bm x.sh ?_;rintro h t rfl);(refine Bm y.sh ?_;rintro h' t' rfl);exact⟨h',t',rfl⟩
 pa:=y.pa.trans x.pa
 on:=fun z a e=>(y.on z a e).elim (x.on z a) fun q=>by
  cases hv:s.heap.get? a with
  | none=>exact .inr rfl
  | some o=>(refine AI (x.lv a o hv) ?_;rintro o' e');(replace q:=(e')▸q);exact sN q
 lv:=fun b o e=>(by(refine AI (x.lv b o e) ?_;rintro o' e');exact y.lv b o' e')
theorem LS.wr{wr:List Addr}{h':Heap}{tk:Nat}(x:LS cx O σ s O' σ' s')(hn:∀ b∈wr,s.heap.get? b=none)(k:∀ b o,b∉wr->s'.heap.get? b=some o->h'.get? b=some o):LS cx O σ s O' σ' { s' with heap:=h',toks:=tk } where
 kx:=x.kx.trans_news (KX.of_keepsBut (P:=(·∈wr)) (F:=Ax) k) (fun b q=>.inr (hn b q)) fun _ q=>q.elim
 sh:=by(refine Bm x.sh ?_;rintro h t rfl);exact⟨h',tk,rfl⟩
 pa:=x.pa
 on:=x.on
 lv:=fun b o e=>(by(refine AI (x.lv b o e) ?_;rintro o' e');exact⟨o',k b o' (fun q=>by(replace e:=(hn b q)▸e);exact nS e) e'⟩)
theorem LS.sp(x:LS cx O σ s O' σ' s')(r:R cx O σ s)(r':R cx O' σ' s'):Aj cx O σ s O' σ' s':=⟨r',x.kx,x.sh,x.pa,x.on,x.lv,r.exO,r.exF⟩
end
section
variable{C:Al}{hn:Bool}{d:Nat}{gv:Str->Option PV}{fe ft:Ge->Expr->Option CE}{fs:List Stmt->Option (List CS)}{S:CY}{cx:Cx}{Γ:Ge}{σ σ1:St}{A:Around}{O O₁:Ow}{s sA:Shared}{E:Value->Shared->Prop}{nw:List Addr}
theorem EC.ext(ha:EC cx A):EC (cx.ext nw) A:=⟨ha.frames,ha.hand,ha.hn,ha.depth,ha.units⟩
theorem AY.ext(F:AY C hn d cx):AY C hn d (cx.ext nw):=⟨F.c,F.hn,F.d⟩
theorem AU.ext(g:AU gv Γ cx):AU gv Γ (cx.ext nw):=⟨g.nm,g.sc,g.gv⟩
structure LI(cx:Cx)(nw:List Addr)(O₁:Ow)(σ1:St)(sA:Shared)(Src:Heap->(Addr->Prop)->Prop)(O':Ow)(σ':St)(s':Shared):Prop where
 r:R (cx.ext nw) O' σ' s'
 ls:LS cx O₁ σ1 sA O' σ' s'
 src:Src s'.heap (Ex (cx.ext nw) O')
section
variable{O':Ow}{σ':St}{s':Shared}{tgt:Expr}{I:Addr}{fp wr:List Addr}{P Md:Nat->Value->Heap->Prop}{St:Nat->Heap->Prop}{Src:Heap->(Addr->Prop)->Prop}{l:List PV}{h2:Heap}
theorem LI.nws(r₁:R cx O₁ σ1 sA)(h0:∀ b∈nw,sA.heap.get? b=none)(L:LI cx nw O₁ σ1 sA Src O' σ' s'):Nw cx (pa σ'.purse) nw:=by(refine AA L.ls.pa ?_);exact r₁.isNw h0
theorem LI.pu(r₁:R cx O₁ σ1 sA)(L:LI cx nw O₁ σ1 sA Src O' σ' s'):∀ b∈pa σ'.purse,cx.X b:=fun b hb=>r₁.purse.xs b (by(refine BO L.ls.pa ?_);exact hb)
theorem LI.it(r₁:R cx O₁ σ1 sA)(W:Du cx.C A tgt (Ex cx O₁) sA.heap h2 l I fp wr nw P Md St Src)(L:LI cx nw O₁ σ1 sA Src O' σ' s')(k:∀ b o,b∉wr->s'.heap.get? b=some o->h'.get? b=some o)(ex:∀ b∈wr,∃ o,h'.get? b=some o):LI cx nw O₁ σ1 sA Src O' σ' { s' with heap:=h',toks:=tk } where
 r:=L.r.shift ⟨_,rfl⟩ (fun _ q=>q) (fun _ q=>.inl q) (L.nws r₁ fun b hb=>(W.nwn b hb).1) W.wrn k (fun b hb _=>ex b hb) (fun b hb=>.inl (L.pu r₁ b hb)) fun b hb=>(r₁.fX b hb).imp .inl id
 ls:=L.ls.wr (fun b hb=>(W.nwn b (W.wrn b hb)).1) k
 src:=W.srcM _ _ _ _ _ _ L.src (KX.of_keepsBut (P:=(·∈wr)) (F:=Ax) k) (fun b q=>.inl (.inr (W.wrn b q))) (fun _ q=>q.elim) fun _ q=>.inl q
theorem LI.turn(W:Du cx.C A tgt (Ex cx O₁) sA.heap h2 l I fp wr nw P Md St Src)(L:LI cx nw O₁ σ1 sA Src O' σ' s')(p:Aj (cx.ext nw) O' σ' s' O₄ σ₄ s₄):LI cx nw O₁ σ1 sA Src O₄ σ₄ s₄:=
 ⟨p.r,L.ls.post p,W.srcM _ _ _ _ _ _ L.src p.kx p.exO p.exF p.ex⟩
theorem LI.state(r₁:R cx O₁ σ1 sA)(W:Du cx.C A tgt (Ex cx O₁) sA.heap h2 l I fp wr nw P Md St Src)(L:LI cx nw O₁ σ1 sA Src O' σ' s')(p:Aj (cx.ext nw) O' σ' s' O₄ σ₄ s₄)(st:St i s'.heap):St i s₄.heap:=by
 have N:=L.nws r₁ fun b hb=>(W.nwn b hb).1
 refine W.turns.frame i _ _ st fun x hx o ho=>(p.kx x o (fun q=>?_) ho).1 fun q=>?_
 ·rcases W.fpo x hx with hx | ⟨hx,o,ho⟩
  ·rcases q with q | ⟨z,q⟩ | q | ⟨z,_,q⟩
   ·exact N.pu x hx q
   ·exact(L.r.oNew z x q).1 (.inr hx)
   ·exact N.loc x hx q
   ·exact N.cell x hx z q
  ·refine hx ?_
   rcases q with q | ⟨z,q⟩ | q | ⟨z,_,q⟩
   ·exact .inl ((L.pu r₁) x q)
   ·exact(L.ls.on z x q).elim (fun e=>.inr (.inl ⟨z,e⟩)) fun e=>by(replace e:=(ho)▸e);exact sN e
   ·exact .inr (.inr (.inl q))
   ·exact .inr (.inr (.inr ⟨z,q⟩))
 ·exact(W.fpo x hx).elim (fun hx=>N.fr x hx q) fun hx=>hx.1 (r₁.exF x q)
theorem LI.out(r₁:R cx O₁ σ1 sA)(h0:∀ b∈nw,sA.heap.get? b=none)(L:LI cx nw O₁ σ1 sA Src O' σ' s'):Aj cx O₁ σ1 sA O' σ' s':=
 L.ls.sp r₁ (L.r.shift (wr:=[]) ⟨cx.X,rfl⟩ (fun _ q=>.inl q) (fun _ q=>q) (L.nws r₁ h0) (fun _ q=>(by cases q)) (fun _ _ _ e=>e) (fun _ q=>(by cases q)) (L.pu r₁) r₁.fX)
theorem LI.fin(r₁:R cx O₁ σ1 sA)(W:Du cx.C A tgt (Ex cx O₁) sA.heap h2 l I fp wr nw P Md St Src)(L:LI cx nw O₁ σ1 sA Src O' σ' s'){tk:Nat}(k:∀ b o,b∉wr->s'.heap.get? b=some o->h'.get? b=some o):Aj cx O₁ σ1 sA O' σ' { s' with heap:=h',toks:=tk }:=
 (L.ls.wr (fun b hb=>(W.nwn b (W.wrn b hb)).1) k).sp r₁ (L.r.shift ⟨cx.X,rfl⟩ (fun _ q=>.inl q) (fun _ q=>q) (L.nws r₁ fun b hb=>(W.nwn b hb).1) W.wrn k (fun b hb q=>by
  (refine AM (r₁.xIn b q) ?_;rintro ⟨o,e⟩ _)
  (replace e:=((W.nwn b (W.wrn b hb)).1)▸e);exact nS e) (L.pu r₁) r₁.fX)
theorem Gh.ext(h:Gh (cx.ext nw) O' s' f o):Gh cx O' s' f o:=by
 induction o with
 | ret p=>exact h.imp fun v x=>⟨x.1,AJ.mono (fun b q=>q.imp .inl id) x.2⟩
 | _=>exact h
end
theorem Yl(G:Jw C gv)(H:Eh C hn d gv Γ fe ft fs S)(F:AY C hn d cx)(g:AU gv Γ cx){n:Nat}(h1:I7 Γ (fe Γ) it=some ci)(h2:Gw n Γ tgt=some ct)(h3:fs b=some cb)(h:bx hn S (Ql ct) ci σ (kFor S ct cb Q)):Fc cx (exec (.For tgt it b [] pos) cx.env) σ Q:=fun A ha O s E r=>by
 refine wpAny_For (Ta G H.c F g (Tf h2) h1 h ha r fun itv s₂ O₁ σ1 l sA p₁ hsh hI q₁=>?_) (Ki (JP h1))
 (refine Bm hsh ?_;clear hsh;rintro h' tk e)
 subst e
 obtain ⟨kA,I,fp,wr,nw,PP,Md,St,Src,e,W⟩:=hI
 subst e
 have r₁:=p₁.r
 have h0:=fun b hb=>(W.nwn b hb).1
 refine codeAny_forLoop_any (fun n s'=>∃ i O' σ',i<=l.length/\n=l.length - i/\LI cx nw O₁ σ1 sA Src O' σ' s'/\St i s'.heap/\X7 (stepF S ct cb) Q (l.drop i) σ') ?_ l.length
  ⟨0,O₁,σ1,pQ _,rfl,⟨r₁.addX kA W.nwn,LS.keep kA,?_⟩,W.st0,q₁.h⟩
 ·rintro n s' ⟨i,O',σ',hi,e,L,hst,hf⟩
  subst e
  by_cases hlt:i<l.length
  ·rw [List.drop_eq_getElem_cons hlt] at hf
   refine W.turns.item i _ _ _ hlt hst fun v h₁ tk₁ hMd hk₁=>?_
   have L₁:=L.it (tk:=tk₁) r₁ W hk₁ (W.exM i v h₁ hMd)
   refine W.turns.go i v _ _ _ hMd fun h₂ hP hst2 hk₂=>?_
   have L₂:=L₁.it (tk:=tk₁) r₁ W hk₂ (W.exS (i+1) h₂ hst2)
   refine pN ((II g.ext n tgt ct l[i] σ' _ h2 hf).2 v A O' _ _ ha.ext L₂.r (W.rep i v h₂ _ l[i] (o8 hlt) L₂.src hP)) (fun _ s₃ hx=>BS hx fun O₃ σ₃ p₃ q₃=>?_) fun _ _ x=>x
   refine(H.s (cx.ext nw) F.ext g.ext b cb h3 σ₃ _ q₃).seq ha.ext p₃.r fun f s₄ hx=>hx.rec fun O₄ σ₄ o p₄ hfl q₄=>?_
   have L₄:=L₂.turn W (p₃.trans p₄)
   exact M0 q₄ hfl (fun q=>⟨l.length - (i+1),pz hlt (qF i),i+1,O₄,σ₄,hlt,rfl,L₄,L₂.state r₁ W (p₃.trans p₄) hst2,q⟩) fun f o hf q=>(fun L hf q=>⟨_,_,_,(p₁.sp r).trans (L.out r₁ h0),hf.ext,q⟩) L₄ hf q
  ·cases (Nat.le_antisymm hi (oy hlt):i=l.length)
   (replace hf:=(List.drop_length)▸hf)
   exact W.turns.done _ _ _ hst fun h₁ tk₁ hk₁=>wpAny_execs_nil (B1.next ((p₁.sp r).trans (L.fin r₁ W hk₁)) hf)
 ·refine W.srcM _ _ _ _ Ax Ax W.src0 (KX.refl _ _ _) (fun _ q=>q.elim) (fun _ q=>q.elim) fun b q=>.inl ?_
  rcases q with (q | q) | q
  ·exact .inl (.inl q)
  ·exact .inr q
  ·exact .inl (.inr q)
end
theorem Ei:∀ (names:List (Str×NameKind)) (acc:List (Str×Addr)),(∀ x∈names,x.2=.free->∃ c,env.cells.lookup x.1=some c)->
  ∃ cl,(forIn names acc (fun x cs=>do
    let (name,kind):=x
    if kind==NameKind.free then do
     let a ←cellOf env name
     pure (ForInStep.yield ((name,a)::cs))
    else pure (ForInStep.yield cs)):Sem (List (Str×Addr)))=pure cl/\
   (∀ n c,cl.lookup n=some c->acc.lookup n=some c∨env.cells.lookup n=some c)/\(∀ x∈names,x.2=.free->∃ c,cl.lookup x.1=some c)/\∀ n c,acc.lookup n=some c->∃ c',cl.lookup n=some c'
 | [],acc,_=>⟨acc,rfl,fun _ _ h=>.inl h,(fun x h=>absurd h (by simp)),fun n c h=>⟨c,h⟩⟩
 | (n,k)::names,acc,h=>by
  by_cases hk:k=.free
  ·subst hk
   (refine AI (h (n,.free) (List.Mem.head _) rfl) ?_;rintro c hc)
   (refine FY (Ei names ((n,c)::acc) fun x hx=>h x (by simp [hx])) ?_;rintro cl e h1 h2 h3)
   refine⟨cl,?_,fun m c' hm=>?_,fun x hx hf=>?_,fun m c' hm=>?_⟩
   ·(rewrite [List.forIn_cons])
    have e1:cellOf env n=pure c:=by delta cellOf;(refine AA hc ?_;rfl)
    simp only [e1,beq_self_eq_true,if_true,pure_bind]
    exact e
   ·rcases h1 m c' hm with q | q
    ·simp only [List.lookup_cons] at q
     split at q
     ·rename_i e;(refine sI q ?_;clear q;intro zz;induction zz)
      have:m=n:=by simpa using e
      exact .inr (this▸hc)
     ·exact .inl q
    ·exact .inr q
   ·rcases pj.mp hx with rfl | hx
    ·exact h3 n c (by simp [List.lookup_cons])
    ·exact h2 x hx hf
   ·by_cases q:m=n
    ·subst q;exact h3 m c (by simp [List.lookup_cons])
    ·exact h3 m c' (by simp only [List.lookup_cons];(refine AA (show (m==n)=false by simpa using q) ?_);exact hm)
  ·(refine FY (Ei names acc fun x hx=>h x (by simp [hx])) ?_;rintro cl e h1 h2 h3)
   refine⟨cl,?_,h1,fun x hx hf=>?_,h3⟩
   ·(rewrite [List.forIn_cons])
    have:(k==NameKind.free)=false:=by simpa using hk
    simp only [this,Bool.false_eq_true,if_false,pure_bind]
    exact e
   ·rcases pj.mp hx with rfl | hx
    ·exact absurd hf hk
    ·exact h2 x hx hf
theorem OP(h:∀ x∈scope.names,x.2=.free->∃ c,env.cells.lookup x.1=some c):
  ∃ cl,closureFor scope env=pure cl/\(∀ n c,cl.lookup n=some c->env.cells.lookup n=some c)/\∀ x∈scope.names,x.2=.free->∃ c,cl.lookup x.1=some c:=by
 (refine FY (Ei scope.names [] h) ?_;rintro cl e h1 h2 _)
 refine⟨cl,?_,fun n c hc=>(h1 n c hc).resolve_left (by simp),h2⟩
 show (forIn scope.names [] _ >>= fun cs=>pure cs)=_
 (refine AA (show (forIn scope.names ([]:List (Str×Addr)) _:Sem (List (Str×Addr)))=pure cl from e) ?_)
 rfl
theorem CN{env:Env}:∀ {names:List (Str×NameKind)} {x:Str} {k:NameKind},names.lookup x=some k->
  ∃ k',(names.map fun(n,k)=>if (k==NameKind.free&&env.scope.kind==.function&&env.kindOf n==some .cell) then(n,NameKind.cell) else(n,k)).lookup x=some k'/\(k≠.free->k'=k)/\(k=.free->k'=.free∨k'=.cell)
 | [],_,_,h=>by trivial
 | (n,k₀)::r,x,k,h=>by
  have ih:=@CN env r x k
  cases hx:x==n with
  | true=>
   simp only [List.lookup_cons,hx] at h
   (refine sI h ?_;intro zz;induction zz)
   simp only [List.map_cons]
   by_cases hc:(k₀==NameKind.free&&env.scope.kind==.function&&env.kindOf n==some .cell)=true
   ·refine⟨.cell,by(refine AA (pO hc) ?_);(refine AA List.lookup_cons ?_;refine AA hx ?_;rfl),fun q=>?_,fun _=>.inr rfl⟩
    simp only [Bool.and_eq_true,beq_iff_eq] at hc
    exact absurd hc.1.1 q
   ·exact⟨k₀,by(refine AA (pH hc) ?_);(refine AA List.lookup_cons ?_;refine AA hx ?_;rfl),fun _=>rfl,fun q=>.inl q⟩
  | false=>
   simp only [List.lookup_cons,hx] at h
   (refine Cp (ih h) ?_;rintro k' e h1 h2)
   refine⟨k',?_,h1,h2⟩
   simp only [List.map_cons]
   by_cases hc:(k₀==NameKind.free&&env.scope.kind==.function&&env.kindOf n==some .cell)=true
   ·(refine AA (pO hc) ?_);simp only [List.lookup_cons,hx];exact e
   ·(refine AA (pH hc) ?_);simp only [List.lookup_cons,hx];exact e
section
variable{cx:Cx}{σ σ':St}{O:Ow}{s s':Shared}{nw:List Addr}
noncomputable def FW(cs:List (Option Nat))(cap:List Slot)(σ:St):Prop:=∀ (i:Nat) (sl:Slot),cap[i]?=some sl->sl=.un∨∃ j p,cs[i]?=some (some j)/\sl=.fr p/\σ.get j=some (.fr p)
theorem FW.no(h:FW cs cap σ):FW (none::cs) (.un::cap) σ:=fun i sl e=>by
 induction i with
 | zero=>(refine sI e ?_;clear e;intro zz;induction zz);exact .inl rfl
 | succ i=>exact h i sl e
theorem FW.at_(h:FW cs cap σ)(hj:σ.get j=some (.fr p)):FW (some j::cs) (.fr p::cap) σ:=fun i sl e=>by
 induction i with
 | zero=>(refine sI e ?_;clear e;intro zz;induction zz);exact .inr ⟨j,p,rfl,rfl,hj⟩
 | succ i=>exact h i sl e
theorem IJ:∀ (cs:List (Option Nat)) (σ:St) (K:List Slot->St->Prop) (O:Ow),Sg cs σ K->R cx O σ s->∃ O' σ' cap,Aw cx O σ s O' σ' s/\σ'.purse=σ.purse/\(∀ j p,σ.get j=some (.fr p)->σ'.get j=some (.fr p))/\FW cs cap σ'/\K cap σ'
 | [],σ,K,O,h,r=>⟨O,σ,[],Aw.refl r,rfl,fun _ _ e=>e,(fun i sl e=>(nS e):FW [] [] σ),h⟩
 | none::cs,σ,K,O,h,r=>by
  (refine FZ (IJ cs σ (fun c σ=>K (.un::c) σ) O h r) ?_;rintro O' σ' cap p e k ⟨c,q⟩)
  exact⟨O',σ',.un::cap,p,e,k,c.no,q⟩
 | some i::cs,σ,K,O,h,r=>by
  (refine AE (EZ h) ?_;rintro sl hi h)
  induction sl with
  | un=>exact h.elim
  | fr v=>
   (refine FZ (IJ cs σ (fun c σ=>K (.fr v::c) σ) O h r) ?_;rintro O' σ' cap p e k ⟨c,q⟩)
   exact⟨O',σ',.fr v::cap,p,e,k,c.at_ (k i v hi),q⟩
  | ow l=>
   (refine FZ (IJ cs _ (fun c σ=>K (.fr (.lst l)::c) σ) _ (B5 h) (r.post_freeze hi).r) ?_;rintro O' σ' cap p e k ⟨c,q⟩)
   refine⟨O',σ',.fr (.lst l)::cap,(r.post_freeze hi).trans p,e,fun j v ej=>k j v ?_,c.at_ (k i _ (St.set_get hi)),q⟩
   refine(List.getElem?_set_ne fun e=>?_).trans ej
   subst e
   (replace ej:=(hi)▸ej)
   (refine sI ej ?_;intro zz;cases zz)
theorem R.moveX(r:R cx O σ s)(m:AG cx.C (inP σ.purse) (inF cx.l) s s')(hp:Ah P' cx.X s'.heap)(ha':pa P'=pa σ.purse)(hn:∀ b∈nw,s.heap.get? b=none/\∃ o,s'.heap.get? b=some o):R (cx.ext nw) O (σ.setP P') s':=
 have r':=r.moveP m hp ha'
 have N:=r.isNw fun b hb=>(hn b hb).1
 have hX:=fun b q=>by
  rcases q with (q | q) | q
  ·exact .inl (.inl q)
  ·exact .inr (hn b q).1
  ·exact .inl (.inr q)
 have nL:=r.locP
 have nC:=r.cellP
 have nO:=r.owP
 {r' with
  fr:=fun x p hx=>by
   (refine AE (r.fr x p hx) ?_;rintro v h1 h2)
   exact⟨v,m.kx.lookI nL nC h1,AJ.move m.kx (fun b q=>.inl (r.exP b q)) r.exF hX _ _ h2⟩
  ow:=fun x l hx=>by
   obtain ⟨a,vs,h1,h2,h3,h4,h5⟩:=r.ow x l hx
   exact⟨a,vs,h1,m.kx.lookI nL nC h2,m.kx.own (nO x a h1) h3,AF.move m.kx (fun b q=>.inl (r.exP b q)) r.exF hX _ _ h4,h5⟩
  oNew:=fun x a hx=>by
   refine⟨fun q=>q.elim (r.oNew x a hx).1 fun q=>?_,(r.oNew x a hx).2⟩
   (refine BS (r.oIn x a hx) ?_;rintro _ o e _)
   (replace e:=((hn a q).1)▸e);exact nS e
  fX:=fun b hb=>(r.fX b hb).imp .inl id
  purse:=r'.purse.reX fun b hb=>.inl (r'.purse.xs b hb)
  xIn:=fun a ha=>ha.elim (r'.xIn a) fun q=>⟨(hn a q).2,N.base a q⟩ }
theorem R.back{O5:Ow}{cap:List Slot}{ν:Pu}{σ5:St}{s0 s5:Shared}(r0:R cx (fun _=>none) ⟨cap,ν⟩ s0)(r5:R cx O5 σ5 s5)(k:KX P F s0.heap s5.heap)(hP:∀ b,P b->Ex cx (fun _=>none) b)(hF:∀ b,F b->Ex cx (fun _=>none) b)(hC:∀ y c,cx.env.cells.lookup y=some c->¬P c)(hc:∀ (i:Nat) (sl:Slot),cap[i]?=some sl->sl=.un∨(∃ p,sl=.fr p)/\∀ x,cx.nm[i]?=some x->cx.env.kindOf x≠some .local):R cx (fun _=>none) ⟨cap,σ5.purse⟩ s5:=
 {r5 with
  fr:=fun x p hx=>by
   (refine AE (r0.fr x p hx) ?_;rintro v ⟨n,hn,h1⟩ h2)
   refine⟨v,⟨n,hn,?_⟩,AJ.move k (fun b q=>.inl (hP b q)) hF (fun b q=>.inl q) _ _ h2⟩
   rcases h1 with ⟨kk,_⟩ | ⟨a,b,c,e,f⟩
   ·rcases hc x _ hx with e | ⟨_,e⟩
    ·injection e
    ·exact absurd kk (e n hn)
   ·exact .inr ⟨a,b,c,e,k.isCell (hC _ _ e) f⟩
  ow:=fun x l hx=>by
   rcases hc x _ hx with e | ⟨⟨p,e⟩,_⟩<;>cases e
  oinj:=fun x y a h=>(nS h)
  oNew:=fun x a h=>(nS h)
  oIn:=fun x a h=>(nS h) }
end
section
variable{prog:Program}{w:World}{A:Around}{E:Value->Shared->Prop}{R:Result->Shared->Prop}{s:Shared}
theorem Lc(I:Nat->Shared->Prop)(turn:∀ n s,I n s->wpAny (model prog w) A (pyNext it) (fun r s₁=>match r with
   | none=>R (.ok .next) s₁
   | some v=>wpAny (model prog w) A (letOwnedTupleGo target it v) (fun _ s1'=>wpAny (model prog w) A (assign target env v) (fun _ s₂=>
     wpAny (model prog w) A (forIn ifs true fun c r=>if r=true then do let ok ←isTrue c env (eval c env);pure (ForInStep.yield ok) else pure (ForInStep.yield r)) (fun ok s₃=>
      if ok=true then wpAny (model prog w) A (eval elt env) (fun x s₄=>
       wpAny (model prog w) A (call (.builtin "list.append") [acc,x]) (fun _ s₅=>∃ m,m<n/\I m s₅) (notedBy (model prog w) A env fun e s'=>R (.error e) s') s₄) (notedBy (model prog w) A env fun e s'=>R (.error e) s') s₃
      else ∃ m,m<n/\I m s₃) (notedBy (model prog w) A env fun e s'=>R (.error e) s') s₂) (notedBy (model prog w) A env fun e s'=>R (.error e) s') s1') (notedBy (model prog w) A env fun e s'=>R (.error e) s') s₁) (notedBy (model prog w) A env fun e s'=>R (.error e) s') s)(n:Nat)(h:I n s):codeAny (model prog w) A (.compLoop (.ListComp elt [⟨target,iter,ifs,0⟩] scope pos) 0 it acc env) R s:=by
 refine codeAny_loop rfl I (fun n s hI=>?_) n h
 refine(?_:wpAny _ A ((compTurn (.ListComp elt [⟨target,iter,ifs,0⟩] scope pos) 0 it acc env).onRaise (fun x=>do noteFrame x env;theTreesLotGoes x)) _ _ s)
 refine wpAny_noted ?_
 (refine AA (compTurn_list ..:) ?_)
 refine oq (qI (oq (pN (turn n s hI) (fun r s₁ h₁=>?_) fun _ _ h'=>h')))
 induction r with
 | none=>exact o6 h₁
 | some v=>
  refine oq (pN h₁ (fun _ s1' h1'=>?_) fun _ _ h'=>h')
  refine oq (pN h1' (fun _ s₂ h₂=>oq (pN h₂ (fun ok s₃ h₃=>?_) fun _ _ h'=>h')) fun _ _ h'=>h')
  induction ok with
  | false=>exact o6 ⟨rfl,h₃⟩
  | true=>
   exact oq (oq (pN h₃ (fun x s₄ h₄=>oq (pN h₄ (fun _ s₅ h₅=>o6 (o6 ⟨rfl,h₅⟩)) fun _ _ h'=>h')) fun _ _ h'=>h'))
end
section
variable{C:Al}{hn:Bool}{d:Nat}{gv:Str->Option PV}{fe ft:Ge->Expr->Option CE}{S:CY}{cx:Cx}{Γ:Ge}
noncomputable abbrev Ym(ifs:List Expr)(env:Env)(b:Bool):Sem Bool:=forIn ifs b fun c r=>if r=true then do let ok ←isTrue c env (eval c env);pure (ForInStep.yield ok) else pure (ForInStep.yield r)
theorem Kl:∀ ifs:List Expr,Ym ifs env false=pure false
 | []=>rfl
 | a::r=>by
  show forIn (a::r) false _=_
  (rewrite [List.forIn_cons])
  exact Kl r
theorem Tg(H:AO C hn d gv fe ft S)(F:AY C hn d cx)(g:AU gv Γ cx):∀ (ifs:List Expr) (cs:List CE) (σ:St) (Q:KT),Ay (ft Γ) ifs=some cs->Sh S cs σ Q->R6 cx (Ym ifs cx.env true) σ Q:=by
 intro rx
 induction rx with
 | nil=>
  exact fun _ σ Q hc h=>fun A ha O s E r=>by
   (refine sI hc ?_;clear hc;intro zz;induction zz)
   exact o6 ⟨O,σ,Aw.refl r,h⟩
 | cons e ifs ih=>
  exact fun _ σ Q hc h=>fun A ha O s E r=>by
   (refine AE (AN hc) ?_;rintro c h1 h0)
   (refine AE (Ad h0) ?_;rintro cs h2 h3)
   subst h3
   refine(?_:wpAny _ A (forIn (e::ifs) true _) _ E s)
   (rewrite [List.forIn_cons])
   refine oq (oq ((H.t cx F Γ g e c h1 σ _ h).seq ha r fun b s₁ O₁ σ1 p₁ q₁=>o6 ?_))
   induction b with
   | true=>exact(ih cs σ1 Q h2 (q₁.t rfl)).seq ha p₁.r fun b s₂ O₂ σ2 p₂ q=>⟨O₂,σ2,p₁.trans p₂,q⟩
   | false=>
    refine(?_:wpAny _ A (Ym ifs cx.env false) _ E s₁)
    (refine AA (Kl ..:) ?_)
    exact o6 ⟨O₁,σ1,p₁,q₁.f rfl⟩
end
theorem mem_lookup{α:Type}:∀ {names:List (Str×α)} {x:Str} {k:α},names.lookup x=some k->(x,k)∈names
 | [],_,_,h=>(nS h)
 | (n,k₀)::r,x,k,h=>by
  rw [List.lookup_cons] at h
  cases e:x==n with
  | true=>
   (replace h:=(e)▸h)
   (refine sI h ?_;clear h;intro zz;induction zz)
   induction (beq_iff_eq.mp e:x=n)
   exact .head _
  | false=>(replace h:=(e)▸h);exact .tail _ (mem_lookup h)
theorem AG.but{wr:List Addr}(k:∀ b o,b∉wr->s.heap.get? b=some o->h'.get? b=some o)(hb:∀ b∈wr,C.base.get? b=none):AG C (·∈wr) Ax s { s with heap:=h',toks:=tk }:=
 ⟨h',tk,rfl,KX.of_keepsBut k,fun z b o e=>k b o (fun q=>by(replace e:=(hb b q)▸e);exact nS e) (z b o e)⟩
theorem Th:∀ {l:List Str},EX x l=none->x∉l:=by
 intro rx
 induction rx with
 | nil=>
  exact fun _ h=>(by cases h)
 | cons y r ih=>
  exact fun e h=>by
   unfold EX at e
   split at e
   ·exact sN e
   ·rename_i hn
    cases h with
    | head=>exact hn rfl
    | tail _ h=>exact ih (Option.map_eq_none_iff.mp e) h
theorem G6:∀ {l:List Str},Gx l=true->l.Nodup:=by
 intro rx
 induction rx with
 | nil=>
  exact fun _=>.nil
 | cons x r ih=>
  exact fun h=>by
   have h:((EX x r).isNone&&Gx r)=true:=h
   rw [Bool.and_eq_true] at h
   exact List.nodup_cons.mpr ⟨Th (qm.mp h.1),ih h.2⟩
structure V4(sc scope:Scope)(Γ:Ge):Prop where
 kind:scope.kind=.function
 nocell:∀ x∈scope.names,x.2≠.cell
 look:∀ x∈scope.names,scope.names.lookup x.1=some x.2
 free:∀ x∈scope.names,x.2=.free->sc.names.lookup x.1=some .cell
 nd:((B3 scope).map (·.1)).Nodup
theorem kg(h:(namesOk Γ.sc scope&&(Gx ((B3 scope).map (·.1))&&b))=true):V4 Γ.sc scope Γ:=by
 rw [Bool.and_eq_true,Bool.and_eq_true] at h
 (refine Bq h ?_;rintro h hn _)
 unfold namesOk at h
 rw [Bool.and_eq_true,List.all_eq_true,beq_iff_eq] at h
 have h2:∀ x∈scope.names,x.2≠.cell/\scope.names.lookup x.1=some x.2/\(x.2=.free->Γ.sc.names.lookup x.1=some .cell):=fun x hx=>by
  have:=h.2 x hx
  rw [Bool.and_eq_true,Bool.and_eq_true,Bool.and_eq_true,Bool.or_eq_true,bne_iff_ne,bne_iff_ne,beq_iff_eq,beq_iff_eq] at this
  exact⟨this.1.1.1,this.1.1.2,fun e=>this.2.resolve_left fun q=>by(replace q:=(e)▸q);exact fT q⟩
 exact⟨h.1,fun x hx=>(h2 x hx).1,fun x hx=>(h2 x hx).2.1,fun x hx=>(h2 x hx).2.2,G6 hn⟩
section
variable{cx cxI:Cx}{σ:St}{O:Ow}{s sA:Shared}{X:Addr->Prop}{nw:List Addr}
structure CI(cx cxI:Cx)(cap:List Slot)(pu:Pu)(sA:Shared)(Src:Heap->(Addr->Prop)->Prop)(D:Addr)(s':Shared)(ν:Pu)(ys:List PV)(vs:List Value):Prop where
 r:R cxI (fun _=>none) ⟨cap,ν⟩ s'
 mv:AG cx.C (inP pu) (inF cx.l) sA s'
 pa:pa ν=pa pu
 src:Src s'.heap (Ex cxI (fun _=>none))
 d:Ba s'.heap D vs
 ys:AF cx.C s'.heap (Ex cxI (fun _=>none)) ys vs
noncomputable abbrev Km(cx:Cx)(O₁:Ow)(scope:Scope)(cl:List (Str×Addr))(Cd:Addr):Cx:={ cx with env:=compEnvC scope cl Cd cx.env,X:=Ex cx O₁,oc:=fun _=>false,nm:=(B3 scope).map (·.1) }
structure CW(cx:Cx)(O₁:Ow)(σf:St)(sA:Shared)(scope:Scope)(cl:List (Str×Addr))(D Cd:Addr)(nw:List Addr)(cap:List Slot):Prop where
 rA:R cx O₁ σf sA
 cl1:∀ n c,cl.lookup n=some c->cx.env.cells.lookup n=some c
 ne:D≠Cd
 nC:sA.heap.get? Cd=none
 nD:sA.heap.get? D=none
 nwn:∀ b∈nw,sA.heap.get? b=none
 cw:Cd∉nw
 dw:D∉nw
 cap:∀ (i:Nat) (sl:Slot),cap[i]?=some sl->sl=.un∨(∃ p,sl=.fr p)/\∀ x,((B3 scope).map (·.1))[i]?=some x->(compEnvC scope cl Cd cx.env).kindOf x≠some .local
section
variable{O₁:Ow}{σf:St}{scope:Scope}{cl:List (Str×Addr)}{D Cd:Addr}{cap:List Slot}{Src:Heap->(Addr->Prop)->Prop}{A:Around}{tgt:Expr}{I:Addr}{fp wr:List Addr}{P Md:Nat->Value->Heap->Prop}{St:Nat->Heap->Prop}{l:List PV}{h2:Heap}{s' s'':Shared}{ν:Pu}{ys:List PV}{vs:List Value}
theorem CW.N3(w:CW cx O₁ σf sA scope cl D Cd nw cap):Nw cx (pa σf.purse) (Cd::D::nw):=w.rA.isNw fun b hb=>by
 cases hb with
 | head=>exact w.nC
 | tail _ hb=>cases hb with
  | head=>exact w.nD
  | tail _ hb=>exact w.nwn b hb
theorem CW.new(w:CW cx O₁ σf sA scope cl D Cd nw cap):∀ b∈D::nw,sA.heap.get? b=none:=fun b hb=>by
 cases hb with
 | head=>exact w.nD
 | tail _ hb=>exact w.nwn b hb
theorem CW.NJ(w:CW cx O₁ σf sA scope cl D Cd nw cap)(e:pa ν=pa σf.purse):Nw (Km cx O₁ scope cl Cd) (pa ν) (D::nw):=by
 (refine AA e ?_)
 exact⟨fun b hb=>(w.N3).base b (.tail _ hb),fun b hb=>(w.N3).he b (.tail _ hb),fun b hb q=>by
  subst (q:b=Cd)
  cases hb with
  | head=>exact w.ne rfl
  | tail _ hb=>exact w.cw hb,fun b hb y q=>(w.N3).cell b (.tail _ hb) y (w.cl1 y b q),fun b hb=>(w.N3).fr b (.tail _ hb),fun b hb=>(w.N3).pu b (.tail _ hb)⟩
theorem CW.puX(w:CW cx O₁ σf sA scope cl D Cd nw cap)(e:pa ν=pa σf.purse):∀ b∈pa ν,Ex cx O₁ b:=fun b hb=>w.rA.exP b (by(rewrite [Mine.Lake.inP];refine BO e ?_);exact hb)
theorem Fv{a b:Addr}(h:a∈[b]):a=b:=pZ.mp h
theorem CW.wri(w:CW cx O₁ σf sA scope cl D Cd nw cap)(W:Du cx.C A tgt (Ex cx O₁) sA.heap h2 l I fp wr nw P Md St Src)(c:CI cx ((Km cx O₁ scope cl Cd).ext (D::nw)) cap σf.purse sA Src D s' ν ys vs){wr':List Addr}(hw:∀ b∈wr',b∈D::nw)(kk:∀ b o,b∉wr'->s'.heap.get? b=some o->hh.get? b=some o)(ex:∀ b∈wr',∃ o,hh.get? b=some o)(d:Ba hh D vs')(y:AF cx.C s'.heap (Ex ((Km cx O₁ scope cl Cd).ext (D::nw)) (fun _=>none)) ys' vs'):CI cx ((Km cx O₁ scope cl Cd).ext (D::nw)) cap σf.purse sA Src D { s' with heap:=hh,toks:=tt } ν ys' vs':=
 have kx:KX (·∈wr') Ax s'.heap hh:=KX.of_keepsBut kk
 have exM:=fun b q=>.inl (.inr (hw b q))
 {r:=c.r.shift ⟨_,rfl⟩ (fun _ q=>q) (fun _ q=>.inl q) (w.NJ c.pa) hw kk (fun b hb _=>ex b hb) (fun b hb=>.inl (w.puX c.pa b hb)) (fun b hb=>.inl (.inl (w.rA.exF b hb)))
  mv:=c.mv.trans_news (AG.but kk fun b hb=>(w.NJ c.pa).base b (hw b hb)) (fun b q=>.inr (w.new b (hw b q))) fun _ q=>q.elim
  pa:=c.pa
  src:=W.srcM _ _ _ _ _ _ c.src kx exM (fun _ q=>q.elim) fun b q=>.inl q
  d:=d
  ys:=AF.move kx (fun b q=>.inl (exM b q)) (fun _ q=>q.elim) (fun b q=>.inl q) _ _ y }
theorem CW.it(w:CW cx O₁ σf sA scope cl D Cd nw cap)(W:Du cx.C A tgt (Ex cx O₁) sA.heap h2 l I fp wr nw P Md St Src)(c:CI cx ((Km cx O₁ scope cl Cd).ext (D::nw)) cap σf.purse sA Src D s' ν ys vs)(kk:∀ b o,b∉wr->s'.heap.get? b=some o->hh.get? b=some o)(ex:∀ b∈wr,∃ o,hh.get? b=some o):
  CI cx ((Km cx O₁ scope cl Cd).ext (D::nw)) cap σf.purse sA Src D { s' with heap:=hh,toks:=tt } ν ys vs:=
 w.wri W c (fun b hb=>.tail _ (W.wrn b hb)) kk ex ((by obtain ⟨o,e,q,q2,q3⟩:=c.d;exact⟨o,kk _ _ (fun q=>w.dw (W.wrn D q)) e,q,q2,q3⟩)) c.ys
theorem CW.own(w:CW cx O₁ σf sA scope cl D Cd nw cap)(e:pa ν=pa σf.purse):∀ b,bY ((Km cx O₁ scope cl Cd).ext (D::nw)) (fun _=>none) ⟨cap,ν⟩ b->inP σf.purse b∨b=Cd:=fun b q=>by
 rcases q with q | ⟨_,q⟩ | q | ⟨_,q,_⟩
 ·exact .inl (by(rewrite [Mine.Lake.inP];refine BO e ?_);exact q)
 ·exact nS q
 ·exact .inr q
 ·exact fT q
theorem CW.body(w:CW cx O₁ σf sA scope cl D Cd nw cap)(W:Du cx.C A tgt (Ex cx O₁) sA.heap h2 l I fp wr nw P Md St Src)(c:CI cx ((Km cx O₁ scope cl Cd).ext (D::nw)) cap σf.purse sA Src D s' ν ys vs)(p:Aj ((Km cx O₁ scope cl Cd).ext (D::nw)) (fun _=>none) ⟨cap,ν⟩ s' O5 σ5 s''):
  CI cx ((Km cx O₁ scope cl Cd).ext (D::nw)) cap σf.purse sA Src D s'' σ5.purse ys vs:=
 have kx:KX (fun b=>inP σf.purse b∨b=Cd) (inF cx.l) s'.heap s''.heap:=p.kx.mono (fun b q=>w.own c.pa b q) fun _ q=>q
 have hP:=fun b q=>q.elim (fun q=>.inl (.inl (w.rA.exP b q))) fun q=>.inr (.inr (.inl q))
 have hF:=fun b q=>.inl (.inl (w.rA.exF b q))
 {r:=R.back c.r p.r kx hP hF (fun y cc hc q=>q.elim (fun q=>w.rA.cellP y cc (w.cl1 y cc hc) q) fun q=>w.N3.cell Cd (.head _) y (q▸w.cl1 y cc hc)) w.cap
  mv:=by
   (refine Bm p.sh ?_;rintro h5 t5 e5)
   subst e5
   exact c.mv.trans_news ⟨h5,t5,rfl,kx,fun _=>p.r.stays⟩ (fun b q=>q.imp id fun(q:b=Cd)=>by(refine AA q ?_);exact w.nC) fun _ q=>.inl q
  pa:=p.pa.trans c.pa
  src:=W.srcM _ _ _ _ _ _ c.src kx hP hF fun b q=>.inl q
  d:=kx.own (fun q=>q.elim (fun q=>w.N3.pu D (.tail _ (.head _)) q) w.ne) c.d
  ys:=AF.move kx (fun b q=>.inl (hP b q)) hF (fun b q=>.inl q) _ _ c.ys }
theorem CW.state(w:CW cx O₁ σf sA scope cl D Cd nw cap)(W:Du cx.C A tgt (Ex cx O₁) sA.heap h2 l I fp wr nw P Md St Src)(c:CI cx ((Km cx O₁ scope cl Cd).ext (D::nw)) cap σf.purse sA Src D s' ν ys vs)(p:Aj ((Km cx O₁ scope cl Cd).ext (D::nw)) (fun _=>none) ⟨cap,ν⟩ s' O5 σ5 s'')(st:St i s'.heap):St i s''.heap:=by
 refine W.turns.frame i _ _ st fun x hx o ho=>(p.kx x o (fun q=>?_) ho).1 fun q=>?_
 ·rcases w.own c.pa x q with q | q
  ·exact(W.fpo x hx).elim (fun hx=>w.N3.pu x (.tail _ (.tail _ hx)) q) fun hx=>hx.1 (w.rA.exP x q)
  ·subst q
   rcases W.fpo x hx with hx | ⟨_,o',ho'⟩
   ·exact w.cw hx
   ·(replace ho':=(w.nC)▸ho');exact nS ho'
 ·exact(W.fpo x hx).elim (fun hx=>w.N3.fr x (.tail _ (.tail _ hx)) q) fun hx=>hx.1 (w.rA.exF x q)
theorem cM{a b c:Addr}(h:a∈[b,c]):a=b∨a=c:=by
 cases h with
 | head=>exact .inl rfl
 | tail _ h=>exact .inr (Fv h)
structure Dj(cx:Cx)(O₁:Ow)(σf σ':Mine.Lake.St)(sA s':Shared)(D Cd:Addr)(ys:List PV)(vs:List Value):Prop where
 mv:AG cx.C (inP σf.purse) (inF cx.l) sA s'
 r:R (cx.ext [D,Cd]) O₁ σ' s'
 nw:∀ b∈[D,Cd],sA.heap.get? b=none/\∃ o,s'.heap.get? b=some o
 pa:pa σ'.purse=pa σf.purse
 ne:D≠Cd
 ns:∃ m,s'.heap.Ns Cd m
 d:Ba s'.heap D vs
 ys:AF cx.C s'.heap (Ex (cx.ext [D,Cd]) O₁) ys vs
theorem CW.fin(w:CW cx O₁ σf sA scope cl D Cd nw cap)(W:Du cx.C A tgt (Ex cx O₁) sA.heap h2 l I fp wr nw P Md St Src)(c:CI cx ((Km cx O₁ scope cl Cd).ext (D::nw)) cap σf.purse sA Src D s' ν ys vs)(kk:∀ b o,b∉wr->s'.heap.get? b=some o->hh.get? b=some o):
  Dj cx O₁ σf (σf.setP ν) sA { s' with heap:=hh,toks:=tt } D Cd ys vs:=by
 have kx:KX (·∈wr) Ax s'.heap hh:=KX.of_keepsBut kk
 have wrD:∀ b∈wr,b∈D::nw:=fun b hb=>.tail _ (W.wrn b hb)
 have mvE:AG cx.C (inP σf.purse) (inF cx.l) sA { s' with heap:=hh,toks:=tt }:=c.mv.trans_news (AG.but kk fun b hb=>(w.NJ c.pa).base b (wrD b hb)) (fun b q=>.inr (w.new b (wrD b q))) fun _ q=>q.elim
 have dE:=kx.own (fun q=>w.dw (W.wrn D q)) c.d
 (refine AI c.r.ns ?_;rintro m nsC)
 have nsE:=kx.ns (fun q=>w.cw (W.wrn Cd q)) nsC
 have newE:∀ b∈[D,Cd],sA.heap.get? b=none/\∃ o,hh.get? b=some o:=fun b hb=>(cM hb).elim (fun e=>e▸⟨w.nD,(by obtain ⟨o,e,_,_,_⟩:=dE;exact⟨o,e⟩)⟩) fun e=>e▸⟨w.nC,(by refine IX nsE ?_;rintro o _ _ e _;exact⟨o,e⟩)⟩
 refine⟨mvE,w.rA.moveX mvE ((c.r.purse.move kx (fun b hb q=>(w.NJ c.pa).pu b (wrD b q) hb) fun _ q=>q).reX fun b hb=>w.rA.purse.xs b (by(refine BO c.pa ?_);exact hb)) c.pa newE,newE,c.pa,w.ne,⟨m,nsE⟩,dE,AF.move kx (fun b q=>.inl (.inl (.inr (wrD b q)))) (fun _ q=>q.elim) (fun b q=>.inl ?_) _ _ c.ys⟩
 rcases q with (q | q) | ⟨x,q⟩ | q | q
 ·exact .inl (.inl (.inl q))
 ·exact(cM q).elim (fun e=>e▸.inl (.inr (.head _))) fun e=>.inr (.inr (.inl e))
 ·exact .inl (.inl (.inr (.inl ⟨x,q⟩)))
 ·exact .inl (.inl (.inr (.inr (.inl q))))
 ·exact .inl (.inl (.inr (.inr (.inr q))))
end
end
structure Ti(n:Nat)(Γ:Ge)(fe ft:Ge->Expr->Option CE)(elt tgt it:Expr)(ifs:List Expr)(scope:Scope)(ce ct ci:CE)(cs:List CE):Prop where
 sc:V4 Γ.sc scope Γ
 i:I7 Γ (fe Γ) it=some ci
 t:Gw n (I8 Γ scope) tgt=some ct
 e:fe (I8 Γ scope) elt=some ce
 f:Ay (ft (I8 Γ scope)) ifs=some cs
theorem Dv{n:Nat}{fe ft:Ge->Expr->Option CE}{c:CE}(h:Hc n Γ fe ft elt gens scope=some c):
  ∃ tgt it ifs ce ct ci cs,gens=[⟨tgt,it,ifs,0⟩]/\Ti n Γ fe ft elt tgt it ifs scope ce ct ci cs/\c=.comp ct ci ce cs (caps Γ (B3 scope)):=by
 cases gens with
 | nil=>exact nS h
 | cons gn r=>induction r with
  | cons _ _=>exact nS h
  | nil=>
   refine Ap fun G kk=>?_;obtain ⟨tgt,it,ifs,a⟩:=gn
   obtain ⟨hb,h⟩:=A2 h
   (refine AE (AN h) ?_;rintro ci h1 h)
   (refine AE (AN h) ?_;rintro ct h2 h)
   (refine AE (AN h) ?_;rintro ce h3 h)
   (refine AE (Ad h) ?_;rintro cs h4 h5)
   rw [Bool.and_eq_true,beq_iff_eq] at hb
   obtain ⟨e,hb⟩:=hb
   subst e;refine kk ?_
   exact⟨tgt,it,ifs,ce,ct,ci,cs,rfl,⟨kg hb,h1,h2,h3,h4⟩,h5.symm⟩
section
variable{C:Al}{hn:Bool}{d:Nat}{gv:Str->Option PV}{fe ft:Ge->Expr->Option CE}{S:CY}{cx:Cx}{Γ:Ge}{σ σf:St}{A:Around}{O O₁:Ow}{s sA:Shared}{E:Value->Shared->Prop}{nw:List Addr}{scope:Scope}{cl:List (Str×Addr)}{D Cd:Addr}{cap:List Slot}
theorem OQ{i:Nat}(h:FW (caps Γ (B3 scope)) cap σf)(e:cap[i]?=some sl):sl=.un∨∃ j p x,sl=.fr p/\σf.get j=some (.fr p)/\EX x Γ.nm=some j/\(B3 scope)[i]?=some (x,.free):=by
 refine(h i sl e).imp id fun hx=>CQ hx fun j p h1 h2 h3=>?_
 (replace h1:=(qB)▸h1)
 (refine AE (Ad h1) ?_;rintro ⟨x,k⟩ h4 h5)
 refine⟨j,p,x,h2,h3,?_⟩
 dsimp only at h5
 cases e:k==.free with
 | true=>
  cases (beq_iff_eq.mp e:k=.free)
  exact⟨h5,h4⟩
 | false=>(replace h5:=(e)▸h5);exact nS h5
theorem E8{i:Nat}(h:(B3 scope)[i]?=some x):x∈scope.names:=(List.mem_filter.mp (qE h)).1
theorem M1{i:Nat}(h:(B3 scope)[i]?=some x):((B3 scope).map (·.1))[i]?=some x.1:=by(refine AA (qB) ?_;refine AA h ?_);rfl
theorem CW.start(w:CW cx O₁ σf sA scope cl D Cd nw cap)(g:AU gv Γ cx)(hsc:V4 Γ.sc scope Γ)(hcl2:∀ x∈scope.names,x.2=.free->∃ c,cl.lookup x.1=some c)(hcap:FW (caps Γ (B3 scope)) cap σf)(k:∀ b o,sA.heap.get? b=some o->h₁.get? b=some o)(ex:∀ b∈D::nw,∃ o,h₁.get? b=some o)(hns:h₁.Ns Cd m):R ((Km cx O₁ scope cl Cd).ext (D::nw)) (fun _=>none) ⟨cap,σf.purse⟩ { sA with heap:=h₁,toks:=tk }:=
 have r:=w.rA
 have N:=w.N3
 {stays:=fun b o e=>k b o (r.stays b o e)
  env:=⟨hsc.kind,r.env.glob,r.env.bu,fun x y c h1 h2=>r.env.inj x y c (w.cl1 x c h1) (w.cl1 y c h2)⟩
  nd:=hsc.nd
  ns:=⟨_,hns⟩
  nsNew:=⟨N.base Cd (.head _),N.he Cd (.head _)⟩
  cells:=fun x c hc=>(by obtain ⟨⟨v,hv⟩,e⟩:=r.cells x c (w.cl1 x c hc);exact⟨⟨v,KX.isCell (P:=Ax) (F:=Ax) (KX.of_keeps k) (fun q=>q) hv⟩,e⟩)
  fr:=fun i p hx=>by
   rcases OQ hcap hx with e | ⟨j,p',x,e,h3,hj,hi⟩
   ·injection e
   ·(injection e with z1;induction z1)
    refine Ap fun G kk=>?_;(refine AE (r.fr j p h3) ?_;rintro v ⟨y,hy,hl⟩ rv)
    (replace hy:=(g.nm)▸hy;replace hy:=(D6 hj)▸hy)
    (refine sI hy ?_;clear hy;intro zz;induction zz);refine kk ?_
    refine⟨v,⟨x,M1 hi,?_⟩,AJ.move (KX.of_keeps (P:=Ax) (F:=Ax) k) (fun _ q=>q.elim) (fun _ q=>q.elim) (fun b q=>?_) _ _ rv⟩
    ·obtain ⟨c,hc⟩:=hcl2 _ (E8 hi) rfl
     have hk:=(g.sc x .cell (hsc.free _ (E8 hi) rfl) (by decide)).1
     rcases hl with ⟨kk,_⟩ | ⟨_,ncd,c',hc',f⟩
     ·(replace kk:=(hk)▸kk);(refine sI kk ?_;intro zz;cases zz)
     ·refine Ap fun G kk=>?_;induction pP ((w.cl1 x c hc).symm.trans hc')
      (refine Cp (CN (env:=cx.env) (hsc.look _ (E8 hi))) ?_;rintro k' e1 _ e3);refine kk ?_
      exact .inr ⟨(e3 rfl).elim (fun q=>.inr (q▸e1)) fun q=>.inl (q▸e1),ncd,c,hc,KX.isCell (P:=Ax) (F:=Ax) (KX.of_keeps k) (fun q=>q) f⟩
    ·rcases q with (q | q) | ⟨_,q⟩ | q | ⟨y,q⟩
     ·exact .inl q
     ·exact .inr (w.new b q)
     ·exact nS q
     ·exact .inr (q▸w.nC)
     ·exact .inl (.inr (.inr (.inr ⟨y,w.cl1 y b q⟩)))
  ow:=fun i l hx=>by
   rcases OQ hcap hx with e | ⟨j,p',x,e,_⟩<;>cases e
  oinj:=fun x y a h=>(nS h)
  oNew:=fun x a h=>(nS h)
  oIn:=fun x a h=>(nS h)
  frames:=fun env he=>(by obtain ⟨hk,L,o,e1,e2,e3,e4⟩:=r.frames env he;exact⟨hk,L,o,e1,e2,k _ _ e3,e4⟩)
  fX:=fun b hb=>.inl (.inl (r.exF b hb))
  purse:=(r.purse.move (KX.of_keeps (F:=Ax) k) (fun _ _ q=>q) fun _ q=>q).reX fun b hb=>.inl (r.exP b hb)
  pNew:=r.pNew
  ent:=r.ent.trans (KX.of_keeps k)
  xIn:=fun a ha=>ha.elim (fun q=>⟨(by obtain ⟨o,e⟩:=r.exIn a q;exact⟨o,k a o e⟩),r.exBase a q⟩) fun q=>⟨ex a q,N.base a (.tail _ q)⟩
  heIn:=fun b o e=>(by obtain ⟨o',e'⟩:=r.heIn b o e;exact⟨o',k b o' e'⟩) }
theorem nj(hsc:V4 Γ.sc scope Γ)(g:AU gv Γ cx):AU gv (I8 Γ scope) ((Km cx O₁ scope cl Cd).ext (D::nw)) where
 nm:=rfl
 sc:=fun x kk hx hf=>by
  (refine Cp (CN (env:=cx.env) hx) ?_;rintro k' e1 e2 _)
  exact⟨(e2 hf)▸e1,fun q=>absurd q (hsc.nocell _ (mem_lookup hx))⟩
 gv:=g.gv
theorem RG(H:AO C hn d gv fe ft S)(F:AY C hn d cx)(g:AU gv Γ cx){n:Nat}{elt tgt it:Expr}{ifs:List Expr}{ce ct ci:CE}(c:Ti n Γ fe ft elt tgt it ifs scope ce ct ci cs){l:List PV}{Z:List PV->Pu->Prop}{fp wr:List Addr}{P Md:Nat->Value->Heap->Prop}{St:Nat->Heap->Prop}{Src:Heap->(Addr->Prop)->Prop}{h2:Heap}(ha:EC cx A)(w:CW cx O₁ σf sA scope cl D Cd nw cap)(W:Du cx.C A tgt (Ex cx O₁) sA.heap h2 l I fp wr nw P Md St Src)(hk:∀ s' vs ys ν,Dj cx O₁ σf (σf.setP ν) sA s' D Cd ys vs->ys.length<=BE->Z ys ν->Rr (.ok .next) s')(ci0:CI cx ((Km cx O₁ scope cl Cd).ext (D::nw)) cap σf.purse sA Src D s σf.purse [] [])(st0:St 0 s.heap)(q:HX (Si S ct ce cs cap) Z l [] σf.purse):
  codeAny (model cx.C.prog cx.C.w) A (.compLoop (.ListComp elt [⟨tgt,it,ifs,0⟩] scope pos) 0 (.ref I) (.ref D) (compEnvC scope cl Cd cx.env)) Rr s:=by
 refine Lc (fun n s'=>∃ i ν ys vs,i<=l.length/\n=l.length - i/\CI cx ((Km cx O₁ scope cl Cd).ext (D::nw)) cap σf.purse sA Src D s' ν ys vs/\St i s'.heap/\ys.length<=BE/\HX (Si S ct ce cs cap) Z (l.drop i) ys ν) ?_ l.length
  ⟨0,σf.purse,[],[],pQ _,rfl,ci0,st0,pQ _,q⟩
 rintro n s' ⟨i,ν,ys,vs,hi,e,k,hst,hlen,hf⟩
 subst e
 have gI:=nj (O₁:=O₁) (cl:=cl) (D:=D) (Cd:=Cd) (nw:=nw) c.sc g
 have fI:AY C hn d ((Km cx O₁ scope cl Cd).ext (D::nw)):=⟨F.c,F.hn,F.d⟩
 have aI:EC ((Km cx O₁ scope cl Cd).ext (D::nw)) A:=⟨ha.frames,ha.hand,ha.hn,ha.depth,ha.units⟩
 by_cases hlt:i<l.length
 ·(replace hf:=(qa hlt)▸hf)
  refine W.turns.item i _ _ _ hlt hst fun v hh1 tt1 hMd hk₁=>?_
  have k₁:=w.it (tt:=tt1) W k hk₁ (W.exM i v hh1 hMd)
  refine W.turns.go i v _ _ _ hMd fun hh₂ hP hst2 hk₂=>?_
  have k₂:=w.it (tt:=tt1) W k₁ hk₂ (W.exS (i+1) hh₂ hst2)
  have nx:=pz hlt (qF i)
  refine pN ((II gI _ tgt ct l[i] ⟨cap,ν⟩ _ c.t hf).2 v A _ _ _ aI k₂.r (W.rep i v hh₂ _ l[i] (o8 hlt) k₂.src hP)) (fun _ s₃ hx=>BS hx fun O₃ σ₃ p₃ q₃=>?_) fun _ _ x=>x
  refine(Tg H fI gI ifs cs σ₃ _ c.f q₃).seq aI p₃.r fun b s₄ O₄ σ₄ p₄ q₄=>?_
  cases b with
  | false=>exact⟨l.length - (i+1),nx,i+1,σ₄.purse,ys,vs,hlt,rfl,w.body W k₂ (p₃.trans (p₄.sp p₃.r)),w.state W k₂ (p₃.trans (p₄.sp p₃.r)) hst2,hlen,q₄.f rfl⟩
  | true=>
   refine(H.e _ fI _ gI elt ce c.e σ₄ _ (q₄.t rfl)).seq aI p₄.r fun y s₅ O₅ σ₅ py p₅ ry q5=>?_
   have p35:=(p₃.trans (p₄.sp p₃.r)).trans (p₅.sp p₄.r)
   have k₅:=w.body W k₂ p35
   refine JO k₅.d (fun h₆ hD6 hs6=>?_) (by(refine AA k₅.ys.length ?_);exact qU (Td (q5.1)))
   have kk:∀ b o,b∉[D]->s₅.heap.get? b=some o->h₆.get? b=some o:=fun b o hb e=>(hs6.2 b (fun q=>hb (q▸.head _))).trans e
   refine⟨l.length - (i+1),nx,i+1,σ₅.purse,ys ++ [py],vs ++ [y],hlt,rfl,?_,?_,by(refine AA o9 ?_);exact(q5.1),q5.2⟩
   ·exact w.wri W k₅ (fun b hb=>Fv hb▸.head _) kk (fun b hb=>Fv hb▸(by obtain ⟨o,e,_⟩:=hD6;exact⟨o,e⟩)) hD6 (AF.append (AF.single (AJ.mono (fun b q=>q.imp id fun q=>q.elim (fun zq=>(by obtain ⟨_,q⟩:=zq;exact(nS q))) .inr) ry)) k₅.ys)
   ·refine W.turns.frame _ _ _ (w.state W k₂ p35 hst2) fun x hx o ho=>kk x o (fun q=>?_) ho
    cases Fv q
    rcases W.fpo _ hx with hx | ⟨_,o',ho'⟩
    ·exact w.dw hx
    ·(replace ho':=(w.nD)▸ho');exact nS ho'
 ·cases (Nat.le_antisymm hi (oy hlt):i=l.length)
  (replace hf:=(List.drop_length)▸hf)
  exact W.turns.done _ _ _ hst fun hh1 tt1 hk₁=>hk _ vs ys ν (w.fin W k hk₁) hlen hf
end
section
variable{C:Al}{hn:Bool}{d:Nat}{gv:Str->Option PV}{fe ft:Ge->Expr->Option CE}{S:CY}{cx:Cx}{Γ:Ge}{σ σ1 σ':St}{A:Around}{O O₁:Ow}{s sA s':Shared}{E:Value->Shared->Prop}{nw:List Addr}{scope:Scope}{D Cd:Addr}
theorem V5{h' H:Heap}(e:h'.push o=H):H.objs.size=h'.objs.size+1:=by(refine BO e ?_;refine AA (Heap.size_push ..:) ?_;rfl)
theorem dead{h h':Heap}{b:Addr}(k:∀ b o,h.get? b=some o->h'.get? b=some o)(e:h'.get? b=none):h.get? b=none:=by
 cases q:h.get? b with
 | none=>rfl
 | some o=>(replace e:=(k b o q)▸e);exact sN e
theorem Dw(G:Jw C gv)(H:AO C hn d gv fe ft S)(F:AY C hn d cx)(g:AU gv Γ cx){K:KE}(c:Ti n Γ fe ft elt tgt it ifs scope ce ct ci cs)(h:bx hn S (Ql ct) ci σ (XM S ct ce cs (caps Γ (B3 scope)) K))(ha:EC cx A)(r:R cx O σ s)(k:∀ s' O₁ σ1 σ' sA D Cd vs ys,Aw cx O σ s O₁ σ1 sA->Dj cx O₁ σ1 σ' sA s' D Cd ys vs->ys.length<=BE->K (.lst ys) σ'->compPost (model cx.C.prog cx.C.w) A E use Kt (.ref D) Cd (.ok .next) s'):
  wpAny (model cx.C.prog cx.C.w) A (comprehension (.ListComp elt [⟨tgt,it,ifs,0⟩] scope pos) scope cx.env (firstIterPos [⟨tgt,it,ifs,0⟩] pos) (newList []) false (eval it cx.env) use) Kt E s:=by
 (refine Cp (OP fun x hx hf=>((g.sc x.1 .cell (c.sc.free x hx hf) (by decide)).2 rfl).2) ?_;rintro cl hclos hcl1 hcl2)
 refine wpAny_comprehension_free rfl (Ki (JP c.i)) hclos c.sc.kind (fun x hx hl=>hl▸c.sc.look x hx) (Ta G H F g (Tf c.t) c.i h ha r fun itv s₂ O₀ σ0 l sA p₀ hsh hI q₀=>?_)
 (refine Bm hsh ?_;clear hsh;rintro h' tk e)
 subst e
 (refine FZ (IJ _ _ _ _ q₀ p₀.r) ?_;rintro O₁ σf cap p₁ hpu _ ⟨hcap,q₀⟩)
 obtain ⟨kA,I,fp,wr,nw,PP,Md,St,Src,e,W⟩:=hI
 subst e
 have rA:=(p₀.trans p₁).r
 refine wpAny_newObj_type (wpAny_newFunctionEnv c.sc.nocell (fun y hy=>(by cases hy)) (fun h₁ hns1 hsb1=>?_) c.sc.kind)
 dsimp only at hns1 hsb1 ⊢
 generalize hH2:h'.push { cls:=.type "list",dict:=none,data:=.seq ([]:List Value).toArray }=H2 at hns1 hsb1 ⊢
 have hC:=V5 hH2
 have k12:∀ b o,h'.get? b=some o->h₁.get? b=some o:=fun b o e=>
  (hsb1.2 b (by(refine AA hC ?_);exact pX (Nat.lt_succ_of_lt (pi e)))).trans (pF _ (hH2▸pF _ e))
 have gD:=(hsb1.2 _ (by(refine AA hC ?_);exact pX (qF _))).trans (pF _ (hH2▸pE _ rfl))
 have hh2:h'.get? H2.objs.size=none:=AH (by(refine AA hC ?_);exact Nat.le_succ _)
 have inW:∀ b∈nw,∃ o,h'.get? b=some o:=fun b hb=>(W.nwn b hb).2
 have w:CW cx O₁ σf sA scope cl h'.objs.size H2.objs.size nw cap:={
  rA:=rA
  cl1:=hcl1
  ne:=by(refine AA hC ?_);exact pX (qF _)
  nC:=dead kA hh2
  nD:=dead kA (AH (ou _))
  nwn:=fun b hb=>(W.nwn b hb).1
  cw:=fun q=>(by(refine AI (inW _ q) ?_;rintro _ e);exact by(replace e:=(hh2)▸e);exact nS e)
  dw:=fun q=>(by(refine AI (inW _ q) ?_;rintro _ e);exact by(replace e:=((AH (ou _)))▸e);exact nS e)
  cap:=fun i sl e=>(OQ hcap e).imp id fun zq=>by
   refine FZ zq ?_;rintro j p x e1 _ _ e4
   exact⟨⟨p,e1⟩,fun y hy=>by
    (replace hy:=(M1 e4)▸hy)
    (refine sI hy ?_;clear hy;intro zz;induction zz)
    (refine Cp (CN (env:=cx.env) (c.sc.look _ (E8 e4))) ?_;rintro k' e1 _ e3)
    intro e
    cases (e1.symm.trans e:some k'=some NameKind.local)
    exact(e3 rfl).elim (fun q=>(by injection q)) fun q=>(by injection q)⟩ }
 have W':Du cx.C A tgt (Ex cx O₁) sA.heap h' l I fp wr nw PP Md St Src:={ W with
  fpo:=fun b hb=>(W.fpo b hb).imp id fun q=>⟨fun x=>q.1 (p₁.ex b x),q.2⟩
  src0:=W.srcM _ _ _ _ Ax Ax W.src0 (KX.refl _ _ _) (fun _ q=>q.elim) (fun _ q=>q.elim) fun b q=>.inl (q.imp (p₁.ex b) id) }
 have ex:∀ b∈h'.objs.size::nw,∃ o,h₁.get? b=some o:=fun b hb=>by
  cases hb with
  | head=>exact⟨_,gD⟩
  | tail _ hb=>exact(by(refine AI (inW b hb) ?_;rintro o e);exact⟨o,k12 b o e⟩)
 have st0:=W.turns.frame 0 _ _ W.st0 fun b _ o e=>k12 b o e
 have ci0:CI cx ((Km cx O₁ scope cl H2.objs.size).ext (h'.objs.size::nw)) cap σf.purse sA Src h'.objs.size { sA with heap:=h₁,toks:=tk+([]:List (Str×Value)).length } σf.purse [] []:={
  r:=w.start g c.sc hcl2 hcap (fun b o e=>k12 b o (kA b o e)) ex hns1
  mv:=AG.of_keeps (fun b o e=>k12 b o (kA b o e))
  pa:=rfl
  src:=W'.srcM _ _ _ _ Ax Ax W'.src0 (KX.of_keeps k12) (fun _ q=>q.elim) (fun _ q=>q.elim) fun b q=>by
   rcases q with (q | q) | ⟨_,q⟩ | q | ⟨y,q⟩
   ·exact .inl (.inl q)
   ·cases q with
    | head=>exact .inr (AH (ou _))
    | tail _ q=>exact .inl (.inr q)
   ·exact nS q
   ·exact .inr ((show b=H2.objs.size from q)▸hh2)
   ·exact .inl (.inl (.inr (.inr (.inr ⟨y,hcl1 y b q⟩))))
  d:=⟨_,gD,rfl,rfl,_,rfl⟩
  ys:=rfl }
 have loop:codeAny (model cx.C.prog cx.C.w) A (.compLoop (.ListComp elt [⟨tgt,it,ifs,0⟩] scope pos) 0 (.ref I) (.ref h'.objs.size) (compEnvC scope cl H2.objs.size cx.env)) (compPost (model cx.C.prog cx.C.w) A E use Kt (.ref h'.objs.size) H2.objs.size) { sA with heap:=h₁,toks:=tk+([]:List (Str×Value)).length }:=
  RG H F g c ha w W' (fun s' vs ys ν e hz q=>k s' O₁ σf (σf.setP ν) sA _ _ vs ys (p₀.trans p₁) e hz q) ci0 st0 (show Co _ l σf.purse _ from q₀).h
 exact codeAny_compStart_list loop (W.self 0 _ _ _ st0 loop)
theorem Nw.notEx(N:Nw cx (pa σ.purse) nw)(r:R (cx.ext nw) O σ' s')(hx:∀ b,cx.X b->∃ o,s.heap.get? b=some o)(hn:∀ b∈nw,s.heap.get? b=none):∀ b∈nw,¬Ex cx O b:=fun b hb q=>by
 rcases q with q | ⟨x,q⟩ | q | ⟨y,q⟩
 ·(refine AI (hx b q) ?_;rintro o e);(replace e:=(hn b hb)▸e);exact nS e
 ·exact(r.oNew x b q).1 (.inr hb)
 ·exact N.loc b hb q
 ·exact N.cell b hb y q
section
variable{ys:List PV}{vs:List Value}
theorem Dj.nws(e:Dj cx O₁ σ1 σ' sA s' D Cd ys vs)(pA:Aw cx O σ s O₁ σ1 sA):Nw cx (Mine.Lake.pa σ1.purse) [D,Cd]:=pA.r.isNw fun b hb=>(e.nw b hb).1
theorem Dj.no(e:Dj cx O₁ σ1 σ' sA s' D Cd ys vs)(pA:Aw cx O σ s O₁ σ1 sA):∀ b∈[D,Cd],¬Ex cx O₁ b:=(e.nws pA).notEx e.r (fun b q=>(pA.r.xIn b q).1) fun b hb=>(e.nw b hb).1
theorem Dj.but{h'':Heap}(hs:Heap.SameBut Cd h' h''):∀ b o,b∉[Cd]->h'.get? b=some o->h''.get? b=some o:=fun b _ hb e=>(hs.2 b fun q=>hb (q▸.head _)).trans e
theorem IL(h:b∈[Cd]):b∈[D,Cd]:=.tail _ h
theorem Dj.lst(e:Dj cx O₁ σ1 σ' sA s' D Cd ys vs)(pA:Aw cx O σ s O₁ σ1 sA)(hz:ys.length<=BE)(hs:Heap.SameBut Cd s'.heap h'):AJ cx.C h' (Ex cx O₁) (.lst ys) (.ref D):=by
 exact⟨om hz Bu,D,vs,e.no pA D (.head _),((KX.of_keepsBut (Dj.but hs):KX (·∈[Cd]) Ax s'.heap h').own (fun q=>e.ne (Fv q)) e.d).isList,AF.move (KX.of_keepsBut (Dj.but hs):KX (·∈[Cd]) Ax s'.heap h') (fun b q=>.inl (.inl (.inr (IL q)))) (fun _ q=>q.elim) (fun b q=>.inl (q.imp .inl id)) _ _ e.ys⟩
end
theorem V6(G:Jw C gv)(H:AO C hn d gv fe ft S)(F:AY C hn d cx)(g:AU gv Γ cx){c:CE}{K:KE}(hc:Hc n Γ fe ft elt gens scope=some c)(h:cE Gm hn S c σ K):Ev cx (eval (.ListComp elt gens scope pos) cx.env) σ K:=fun A ha O s E r=>by
 obtain ⟨tgt,it,ifs,ce,ct,ci,cs,e,cc,e2⟩:=Dv hc
 subst e e2
 refine Dw G H F g cc h ha r fun s' O₁ σ1 σ' sA D Cd vs ys pA e hz q=>?_
 (refine AI e.ns ?_;rintro m hC)
 refine⟨m,hC,fun h' hs'=>?_⟩
 have r':R cx O₁ σ' { s' with heap:=h' }:=e.r.shift (cx2:=cx) ⟨cx.X,rfl⟩ (fun _ q=>.inl q) (fun _ q=>q) (by(refine AA e.pa ?_);exact(e.nws pA)) (fun _=>IL) (Dj.but hs') (fun b hb q=>absurd (.inl q) (e.no pA b (IL hb))) (fun b hb=>pA.r.purse.xs b (by(refine BO e.pa ?_);exact hb)) pA.r.fX
 have mv':AG cx.C (inP σ1.purse) (inF cx.l) sA { s' with heap:=h' }:=e.mv.trans_news (AG.but (Dj.but hs') fun b hb=>(e.nws pA).base b (IL hb)) (fun b q=>.inr (e.nw b (IL q)).1) fun _ q=>q.elim
 exact Gf.mk (pA.trans ⟨r',fun _ _ z=>z,mv',e.pa,pA.r.exP,pA.r.exF⟩) (e.lst pA hz hs') q
theorem JQ(hk:env.scope.kind=.function)(hx:env.kindOf x=some .local)(h1:(px.line==pos.line)=true)(h2:(scope.names.any fun(n,k)=>n==x&&(k==.local||k==.cell))=false):
  swapsWith (.ListComp elt gens scope pos) (some (.Name x px)) n env=pure true:=by
 have e:env.blockKind=.function:=by delta Env.blockKind;(refine AA hk ?_);rfl
 refine(?_:(pure (env.blockKind==.function&&env.kindOf x==some .local&&px.line==pos.line&&!(scope.names.any fun(n,k)=>n==x&&(k==.local||k==.cell))):Sem Bool)=_)
 (refine AA e ?_;refine AA hx ?_;refine AA h1 ?_;refine AA h2 ?_);rfl
theorem KC(G:Jw C gv)(H:AO C hn d gv fe ft S)(F:AY C hn d cx)(g:AU gv Γ cx){Q:KS}(hsw:I9 Γ.sc x px (.ListComp elt gens scope pos) scope=true)(hi:EX x Γ.nm=some i)(hc:Hc n Γ fe ft elt gens scope=some c)(h:cE Gm hn S c σ fun p σ1=>Hq σ1 i (.fr p) (Q .next)):Fc cx (exec (.Assign [.Name x px] (.ListComp elt gens scope pos) spos) cx.env) σ Q:=fun A ha O s E r=>by
 delta I9 at hsw
 rw [Bool.and_eq_true,Bool.and_eq_true,Bool.not_eq_true',beq_iff_eq] at hsw
 (refine AM hsw ?_;clear hsw;rintro ⟨h1,h2⟩ h3)
 have hk:=(g.sc x _ h1 (by decide)).1
 obtain ⟨tgt,it,ifs,ce,ct,ci,cs,e,cc,e2⟩:=Dv hc
 subst e e2
 (refine AA (exec_Assign_Name_used _ _ _ _ (JQ r.env.kind hk (show (px.line==pos.line)=true from h2) h3)) ?_)
 refine oq (qI (oq ?_))
 refine(?_:wpAny _ A (do let _ ←comprehension (.ListComp elt [⟨tgt,it,ifs,0⟩] scope pos) scope cx.env _ (newList []) false (eval it cx.env) (some (assign (.Name x px) cx.env))) _ _ s)
 refine oq (pN (Dw G H F g cc h ha r fun s' O₁ σ1 σ' sA D Cd vs ys pA e hz q=>?_) (fun _ s' hq=>o6 (o6 hq)) fun _ _ e=>e)
 (refine AI e.ns ?_;rintro m hC)
 have N1:Nw cx (pa σ'.purse) [Cd]:=by(refine AA e.pa ?_);exact pA.r.isNw fun b hb=>(e.nw b (IL hb)).1
 have r1:R (cx.ext [Cd]) O₁ σ' s':=e.r.shift (wr:=[]) (cx2:=cx.ext [Cd]) ⟨_,rfl⟩ (fun b q=>q.imp id IL) (fun _ q=>.inl q) (by(refine AA e.pa ?_);exact(e.nws pA)) (fun _ q=>(by cases q)) (fun _ _ _ e=>e) (fun _ q=>(by cases q)) (fun b hb=>.inl (pA.r.purse.xs b (by(refine BO e.pa ?_);exact hb))) fun b hb=>(pA.r.fX b hb).imp .inl id
 have rv:AJ cx.C s'.heap (Ex (cx.ext [Cd]) O₁) (.lst ys) (.ref D):=by
  refine⟨om hz Bu,D,vs,?_,e.d.isList,AF.mono (fun b q=>q.imp (fun q=>q.imp id IL) id) e.ys⟩
  rintro ((q | q) | q)
  ·exact e.no pA D (.head _) (.inl q)
  ·exact e.ne (Fv q)
  ·exact e.no pA D (.head _) (.inr q)
 refine wpAny_assign_Name (B8 (cx:=cx.ext [Cd]) r1 (.inl hk) fun h' tk T st=>?_)
 have sp:=r1.storeFr (tk:=tk) (g.nm▸D6 hi) st rv
 have hT:T≠Cd:=by
  intro q
  rcases st.at_ with e | ⟨y,_,e⟩
  ·exact N1.loc Cd (.head _) (q▸e)
  ·exact N1.cell Cd (.head _) y (q▸e)
 refine⟨m,hC.sameBut st.same (Ne.symm hT),fun h'' hs'=>?_⟩
 have kk:=Dj.but hs'
 have lv:∀ b o,sA.heap.get? b=some o->∃ o',s'.heap.get? b=some o':=fun b o q=>by
  by_cases q2:b∈pa σ1.purse
  ·(refine BS (e.r.purse.lists b (by(refine AA e.pa ?_);exact q2)) ?_;rintro _ o' e' _)
   exact⟨o',e'⟩
  ·exact(by(refine AI (e.mv.kx.lives q2 q) ?_;rintro _ e2);exact⟨_,e2⟩)
 have L0:LS cx O₁ σ1 sA O₁ σ' s':=⟨e.mv.kx.mono (fun _ q=>.inl q) fun _ q=>q,e.mv.sh,e.pa,fun _ _ e=>.inl e,lv⟩
 exact B1.next ((pA.sp r).trans (((L0.post sp).wr (fun b hb=>(e.nw b (IL hb)).1) kk).sp pA.r (sp.r.shift (cx2:=cx) ⟨cx.X,rfl⟩ (fun _ q=>.inl q) (fun _ q=>q) N1 (fun _ q=>q) kk (fun b hb q=>absurd (.inl q) (e.no pA b (IL hb))) (fun b hb=>pA.r.purse.xs b (by(refine BO e.pa ?_);exact hb)) pA.r.fX))) (B5 q)
end
section
variable{C:Al}{cx:Cx}{σ σ0 σ':St}{A:Around}{O O₀ O':Ow}{s s₀ s':Shared}{X:Addr->Prop}{nw:List Addr}
theorem St.set_set(σ:St)(x:Nat)(a b:Slot):(σ.set x a).set x b=σ.set x b:=by
 delta St.set
 (refine AA (List.set_set ..:) ?_;rfl)
theorem De{a b:Addr}(h:add O x a y=some b):(y=x/\b=a)∨(y≠x/\O y=some b):=by
 delta add at h
 by_cases e:y=x
 ·(replace h:=(pO e)▸h);(refine sI h ?_;clear h;intro zz;induction zz);exact .inl ⟨e,rfl⟩
 ·(replace h:=(pH e)▸h);exact .inr ⟨e,h⟩
theorem R.thaw{x:Nat}{a:Addr}(r:R (cx.ext nw) O σ s)(hx:σ.get x=some (.fr (.addr a)))(ha:a∈nw)(N:Nw cx (pa σ.purse) nw)(hX:∀ b∈nw,¬cx.X b)(hl:Ba s.heap a vs)(hv:AF cx.C s.heap (Ex (cx.ext nw) O) l vs)(hz:l.length<=sizeLine)(hn:∀ b∈nw',b∈nw/\b≠a):R (cx.ext nw') (add O x a) (σ.set x (.ow l)) s:=
 have hE:∀ b,Ex (cx.ext nw') (add O x a) b->Ex (cx.ext nw) O b:=fun b q=>by
  rcases q with (q | q) | ⟨y,q⟩ | q
  ·exact .inl (.inl q)
  ·exact .inl (.inr (hn b q).1)
  ·rcases De q with ⟨_,e⟩ | ⟨_,e⟩
   ·exact .inl (.inr (e▸ha))
   ·exact .inr (.inl ⟨y,e⟩)
  ·exact .inr (.inr q)
 {r with
  fr:=fun y p hy=>by
   rcases St.of_set hy with ⟨_,e⟩ | ⟨_,hy⟩
   ·injection e
   ·exact(r.fr y p hy).imp fun v q=>⟨q.1,AJ.mono hE q.2⟩
  ow:=fun y m hy=>by
   rcases St.of_set hy with ⟨rfl,e⟩ | ⟨e,hy⟩
   ·(injection e with z1;induction z1)
    refine Ap fun G kk=>?_;(refine AE (r.fr y _ hx) ?_;rintro v h1 h2)
    cases (show v=.ref a from h2);refine kk ?_
    exact⟨a,vs,pO rfl,h1,hl,AF.mono hE hv,hz⟩
   ·obtain ⟨b,us,h1,h2,h3,h4,h5⟩:=r.ow y m hy
    exact⟨b,us,(pH e).trans h1,h2,h3,AF.mono hE h4,h5⟩
  oinj:=fun y z b hy hz=>by
   rcases De hy with ⟨e1,e2⟩ | ⟨e1,e2⟩<;>rcases De hz with ⟨f1,f2⟩ | ⟨f1,f2⟩
   ·(refine AA e1 ?_;refine AA f1 ?_;rfl)
   ·exact absurd (.inr (e2▸ha)) (r.oNew z b f2).1
   ·exact absurd (.inr (f2▸ha)) (r.oNew y b e2).1
   ·exact r.oinj y z b e2 f2
  oNew:=fun y b hy=>by
   rcases De hy with ⟨_,rfl⟩ | ⟨_,e2⟩
   ·exact⟨fun q=>q.elim (hX b ha) fun q=>(hn b q).2 rfl,N.base b ha,N.he b ha⟩
   ·exact⟨fun q=>(r.oNew y b e2).1 (q.imp id fun q=>(hn b q).1),(r.oNew y b e2).2⟩
  oIn:=fun y b hy=>by
   rcases De hy with ⟨_,rfl⟩ | ⟨_,e2⟩
   ·exact⟨_,hl.isList⟩
   ·exact r.oIn y b e2
  fX:=fun b hb=>(r.fX b hb).imp (fun q=>q.imp id fun q=>absurd hb (N.fr b q)) id
  purse:=r.purse.reX fun b hb=>(r.purse.xs b hb).imp id fun q=>absurd hb (N.pu b q)
  xIn:=fun b hb=>r.xIn b (hb.imp id fun q=>(hn b q).1) }
theorem Hz{items:Array Value}(hh:B2 A P s.heap)(ht:s.heap.IsTuple t items)(hn:n=items.size)(h:∀ h',(∀ b o,s.heap.get? b=some o->h'.get? b=some o)->Q items.toList { s with heap:=h' }):
  wpAny (model C.prog C.w) A (unpackItems (.ref t) n none) Q E s:=by
 subst hn
 have hlt:t≠s.heap.objs.size:=by(refine AE ht ?_;rintro o ho _);exact pX (pi ho)
 refine oq ?_
 refine oq (wpAny_specialOf ht.typeIs PySem.F.slot_tuple_iter.lookup ?_)
 refine o6 ?_
 refine oq (pR (wpAny_pyIter_tuple ht ?_))
 refine oq (pR (wpAny_draw_tuple hlt items.size 0 _ _ ⟨_,pE _ rfl,rfl,rfl⟩ (ht.push _) (by(refine AA (qC ..:) ?_);exact ou _) fun h₁ hit1 hs₁=>?_))
 have hall:List.take items.size (List.drop 0 items.toList)=items.toList:=by
  exact qi (ou _)
 (refine AA hall ?_;refine AA (pH (show ¬items.toList.length<items.size from Nat.lt_irrefl items.size)) ?_)
 have k1:∀ b o,s.heap.get? b=some o->h₁.get? b=some o:=fun b o e=>(hs₁.2 b (pX (pi e))).trans (pF _ e)
 exact oq (pR (Kj (hh.keeps k1) (fun e he q=>Nat.lt_irrefl _ (q▸hh.lt he)) hit1 (ht.at fun o e=>k1 _ o e) (by(refine AA (qC ..:) ?_);exact Array.getElem?_eq_none (ou _)) fun h' hk=>o6 (h h' fun b o e=>hk b o (pX (pi e)) (k1 b o e))))
inductive SR(C:Al)(h:Heap)(X:Addr->Prop):List Slot->List Value->List Addr->Prop where
 | nil:SR C h X [] [] []
 | fr {p v sl us as} (r:AJ C h X p v) (t:SR C h X sl us as):SR C h X (.fr p::sl) (v::us) as
 | ow {a l ws sl us as} (o:Ba h a ws) (r:AF C h X l ws) (z:l.length<=16) (t:SR C h X sl us as):SR C h X (.ow l::sl) (.ref a::us) (a::as)
theorem SR.move{h h':Heap}(k:KX P F h h')(hP:∀ b,P b->X b)(hF:∀ b,F b->X b)(hX:∀ b,X' b->X b∨h.get? b=none){as:List Addr}(x:SR C h X sl us as):(∀ a∈as,¬P a)->SR C h' X' sl us as:=by
 induction x with
 | nil=>exact fun _=>.nil
 | fr r _ ih=>exact fun n=>.fr (AJ.move k (fun b q=>.inl (hP b q)) hF hX _ _ r) (ih n)
 | ow o r z _ ih=>exact fun n=>.ow (k.own (n _ (.head _)) o) (AF.move k (fun b q=>.inl (hP b q)) hF hX _ _ r) z (ih fun b hb=>n b (.tail _ hb))
theorem SR.append{us us':List Value}{as as':List Addr}(x:SR C h X sl us as)(y:SR C h X sl' us' as'):SR C h X (sl ++ sl') (us ++ us') (as ++ as'):=by
 induction x with
 | nil=>exact y
 | fr r _ ih=>exact .fr r ih
 | ow o r z _ ih=>exact .ow o r z ih
theorem SR.reverse{us:List Value}{as:List Addr}(x:SR C h X sl us as):SR C h X sl.reverse us.reverse as.reverse:=by
 induction x with
 | nil=>exact .nil
 | fr r _ ih=>
  (refine AA List.reverse_cons ?_;refine AA List.reverse_cons ?_)
  have:=ih.append (.fr r .nil)
  rw [List.append_nil] at this
  exact this
 | ow o r z _ ih=>
  (refine AA List.reverse_cons ?_;refine AA List.reverse_cons ?_;refine AA List.reverse_cons ?_)
  exact ih.append (.ow o r z .nil)
structure DS(cx:Cx)(O₀:Ow)(σ0:St)(s₀:Shared)(nw:List Addr)(O:Ow)(σ:St)(s:Shared):Prop where
 r:R (cx.ext nw) O σ s
 new:∀ b∈nw,s₀.heap.get? b=none
 ls:LS cx O₀ σ0 s₀ O σ s
theorem DS.nws(r₀:R cx O₀ σ0 s₀)(D:DS cx O₀ σ0 s₀ nw O σ s):Nw cx (pa σ.purse) nw:=by(refine AA D.ls.pa ?_);exact r₀.isNw D.new
theorem DS.noX(r₀:R cx O₀ σ0 s₀)(D:DS cx O₀ σ0 s₀ nw O σ s):∀ b∈nw,¬cx.X b:=fun b hb q=>by
 (refine AM (r₀.xIn b q) ?_;rintro ⟨o,e⟩ _)
 (replace e:=(D.new b hb)▸e);exact nS e
theorem DS.post(D:DS cx O₀ σ0 s₀ nw O σ s)(p:Aj (cx.ext nw) O σ s O' σ' s'):DS cx O₀ σ0 s₀ nw O' σ' s':=⟨p.r,D.new,D.ls.post p⟩
theorem DS.push(r₀:R cx O₀ σ0 s₀)(D:DS cx O₀ σ0 s₀ nw O σ s)(hf:(s.heap.push o).get? s.heap.objs.size=some o):DS cx O₀ σ0 s₀ (s.heap.objs.size::nw) O σ { s with heap:=s.heap.push o,toks:=tk }:=by
 have k:∀ b o',s.heap.get? b=some o'->(s.heap.push o).get? b=some o':=fun _ _ e=>Au e
 have hn:∀ b∈[s.heap.objs.size],s.heap.get? b=none/\∃ o',(s.heap.push o).get? b=some o':=fun b hb=>Fv hb▸⟨(AH (ou _)),o,hf⟩
 refine⟨R.shift (nw:=[s.heap.objs.size]) (wr:=[]) (cx2:=cx.ext (s.heap.objs.size::nw)) (D.r.addX (tk:=tk) k hn) ⟨_,rfl⟩ (fun b q=>?_) (fun b q=>q.imp id fun q=>.tail _ q) ⟨(D.r.isNw (nw:=[s.heap.objs.size]) fun b hb=>(hn b hb).1).base,(D.r.isNw (nw:=[s.heap.objs.size]) fun b hb=>(hn b hb).1).he,(D.r.isNw (nw:=[s.heap.objs.size]) fun b hb=>(hn b hb).1).loc,(D.r.isNw (nw:=[s.heap.objs.size]) fun b hb=>(hn b hb).1).cell,(D.r.isNw (nw:=[s.heap.objs.size]) fun b hb=>(hn b hb).1).fr,(D.r.isNw (nw:=[s.heap.objs.size]) fun b hb=>(hn b hb).1).pu⟩ (fun _ q=>(by cases q)) (fun _ _ _ e=>e) (fun _ q=>(by cases q)) (fun b hb=>(D.r.purse.xs b hb).imp id fun q=>.tail _ q) fun b hb=>(D.r.fX b hb).imp (fun q=>q.imp id fun q=>.tail _ q) id,fun b hb=>?_,D.ls.wr (wr:=[]) (fun _ q=>(by cases q)) fun b o' _ e=>k b o' e⟩
 ·rcases q with q | q
  ·exact .inl (.inl q)
  ·cases q with
   | head=>exact .inr (.head _)
   | tail _ q=>exact .inl (.inr q)
 ·cases hb with
  | head=>
   cases e:s₀.heap.get? s.heap.objs.size with
   | none=>rfl
   | some o=>(refine AI (D.ls.lv _ o e) ?_;rintro o' e');(replace e':=((AH (ou _)))▸e');exact nS e'
  | tail _ hb=>exact D.new b hb
theorem DS.out(r₀:R cx O₀ σ0 s₀)(D:DS cx O₀ σ0 s₀ nw O σ s):Aj cx O₀ σ0 s₀ O σ s:=
 D.ls.sp r₀ (D.r.shift (wr:=[]) (cx2:=cx) ⟨cx.X,rfl⟩ (fun _ q=>.inl q) (fun _ q=>q) (D.nws r₀) (fun _ q=>(by cases q)) (fun _ _ _ e=>e) (fun _ q=>(by cases q)) (fun b hb=>r₀.purse.xs b (by(refine BO D.ls.pa ?_);exact hb)) r₀.fX)
inductive RH(M:Model)(A:Around)(env:Env):List (Value->Sem Unit)->List Str->Prop where
 | nil:RH M A env [] []
 | cons {f fs n ns}:(∀ v (Q:Unit->Shared->Prop) E s,wpAny M A (storeName env n v) Q E s->wpAny M A (f v) Q E s)->RH M A env fs ns->RH M A env (f::fs) (n::ns)
theorem RH.bind:∀ ns:List Str,RH M A env (ns.map fun n=>bindName env n) ns
 | []=>.nil
 | n::ns=>.cons (fun _ _ _ _ h=>wpAny_bindName h) (RH.bind ns)
theorem Ld:∀ {vs:List Slot} {i:Nat} {s:Slot} {K:List Slot->Prop},Sb vs i s K->i<vs.length
 | [],_,_,_,h=>h.elim
 | _::_,0,_,_,_=>pW _
 | _::r,i+1,_,_,h=>Nat.succ_lt_succ (Ld h)
theorem JR{K:St->Prop}(h:Me (i::is) (sl::r) σ K):i<σ.vars.length/\Me is r (σ.set i sl) K:=
 have h:Hq σ i sl fun σ=>Me is r σ K:=h
 ⟨Ld h,B5 h⟩
set_option tactic.hygienic true in
theorem RI(g:AU gv Γ cx)(r₀:R cx O₀ σ0 s₀){K:St->Prop}{fs:List (Value->Sem Unit)}{ns:List Str}(x:RH (model cx.C.prog cx.C.w) A cx.env fs ns):
  ∀ (is:List Nat) (sl:List Slot) (us:List Value) (as nw:List Addr) (O:Ow) (σ:St) (s:Shared),(∀ n∈ns,cx.env.kindOf n=some .local)->Ay (EX · Γ.nm) ns=some is->DS cx O₀ σ0 s₀ nw O σ s->SR cx.C s.heap (Ex (cx.ext nw) O) sl us as->as.Nodup->(∀ a∈as,a∈nw)->us.length=ns.length->Me is sl σ K->
  wpAny (model cx.C.prog cx.C.w) A (assignInOrder fs us) (P7 cx O₀ σ0 s₀ K) E s:=by
 induction x with
 | nil=>
  intro is sl us as nw O σ s _ hi D x _ _ hl h
  (refine sI hi ?_;clear hi;intro zz;induction zz)
  induction x with
  | nil=>exact o6 ⟨O,σ,D.out r₀,h⟩
  | fr _ _=>injection hl
  | ow _ _ _ _=>injection hl
 | cons hf _ ih=>
  intro is sl us as nw O σ s hk hi D x nd ha hl h
  rename_i f fs n ns _
  (refine AE (AN hi) ?_;rintro i hi1 hi2)
  (refine AE (Ad hi2) ?_;rintro is hi3 e)
  subst e
  have hx:(cx.ext nw).nm[i]?=some n:=g.nm▸D6 hi1
  have N:=D.nws r₀
  cases x with
  | nil=>injection hl
  | fr rv x=>
   refine oq (pR (hf _ _ _ _ (B8 (cx:=cx.ext nw) D.r (.inl (hk n (.head _))) fun h' tk T st=>?_)))
   have sp:=D.r.storeFr (tk:=tk) hx st rv
   have hT:∀ a∈as,a≠T:=fun a haa q=>by
    rcases st.at_ with e | ⟨y,_,e⟩
    ·exact N.loc a (ha a haa) (q.trans e)
    ·exact N.cell a (ha a haa) y (q▸e)
   have exT:∀ b,b=T->Ex (cx.ext nw) O b:=fun b q=>by induction q;exact D.r.exO _ (.inr (.inr st.at_))
   exact ih is _ _ as nw _ _ _ (fun m hm=>hk m (.tail _ hm)) hi3 (D.post sp) (x.move (SameBut.kx (F:=Ax) st.same) exT (fun _ q=>q.elim) (fun b q=>.inl q.del) hT) nd ha (Nat.succ.inj hl) (JR h).2
  | ow hD hws hz x=>
   rename_i a l ws sl us as
   refine oq (pR (hf _ _ _ _ (B8 (cx:=cx.ext nw) D.r (.inl (hk n (.head _))) fun h' tk T st=>?_)))
   have sp:=D.r.storeFr (p:=.addr a) (tk:=tk) hx st rfl
   have hT:∀ b∈a::as,b≠T:=fun b haa q=>by
    rcases st.at_ with e | ⟨y,_,e⟩
    ·exact N.loc b (ha b haa) (q.trans e)
    ·exact N.cell b (ha b haa) y (q▸e)
   have exT:∀ b,b=T->Ex (cx.ext nw) O b:=fun b q=>by induction q;exact D.r.exO _ (.inr (.inr st.at_))
   have hnw:∀ b∈nw.filter (·≠a),b∈nw/\b≠a:=fun b hb=>by
    (refine AM (List.mem_filter.mp hb) ?_;rintro h1 h2)
    exact⟨h1,of_decide_eq_true h2⟩
   have rT:=R.thaw sp.r (List.getElem?_set_self (JR h).1) (ha a (.head _)) N (D.noX r₀) ((SameBut.kx st.same:KX (·=T) Ax s.heap h').own (hT a (.head _)) hD) (AF.move (SameBut.kx st.same:KX (·=T) Ax s.heap h') (fun b q=>.inl (exT b q)) (fun _ q=>q.elim) (fun b q=>.inl q.del) _ _ hws) (om hz E5) hnw
   rw [St.set_set] at rT
   have nd':=List.nodup_cons.mp nd
   refine ih is _ _ as (nw.filter (·≠a)) _ _ _ (fun m hm=>hk m (.tail _ hm)) hi3 ⟨rT,fun b hb=>D.new b (hnw b hb).1,{ (D.post sp).ls with pa:=(D.post sp).ls.pa,on:=fun y b q=>(De q).elim (fun e=>.inr (e.2▸D.new a (ha a (.head _)))) fun e=>(D.post sp).ls.on y b e.2 }⟩ (x.move (SameBut.kx st.same:KX (·=T) Ax s.heap h') exT (fun _ q=>q.elim) (fun b q=>.inl ?_) fun b hb=>hT b (.tail _ hb)) nd'.2 (fun b hb=>List.mem_filter.mpr ⟨ha b (.tail _ hb),qe fun q:b=a=>nd'.1 (q▸hb)⟩) (Nat.succ.inj hl) (JR h).2
   rcases q with (q | q) | ⟨y,q⟩ | q
   ·exact .inl (.inl q)
   ·exact .inl (.inr (hnw b q).1)
   ·rcases De q with ⟨_,e⟩ | ⟨_,e⟩
    ·exact .inl (.inr (e▸ha a (.head _)))
    ·exact .inr (.inl ⟨y,(B4 e).2⟩)
   ·exact .inr (.inr q)
end
section
variable{C:Al}{hn:Bool}{d:Nat}{gv:Str->Option PV}{fe ft:Ge->Expr->Option CE}{fs:List Stmt->Option (List CS)}{S:CY}{cx:Cx}{Γ:Ge}{σ σ0:St}{A:Around}{O O₀:Ow}{s s₀:Shared}{E:Value->Shared->Prop}{nw:List Addr}
theorem OR{c:CE}(h:OG f v=some c):∃ es p cs,v=.List es p/\Ay f es=some cs/\c=.olst cs:=by
 refine DC (P:=fun c=>∃ es p cs,v=.List es p/\Ay f es=some cs/\c=.olst cs) h ?_
 delta OG
 generalize view v=w
 induction w with
 | lst es p=>
  refine(?_:Fq _ ((Ay f es).map CE.olst))
  cases hm:Ay f es with
  | none=>exact True.intro
  | some cs=>exact⟨es,p,cs,rfl,hm,rfl⟩
 | _=>exact True.intro
theorem JS(h:Vm f Γ x v=some c):(∃ es p cs,v=.List es p/\Ay f es=some cs/\c=.olst cs)∨(x∉Γ.own/\f v=some c):=by
 delta Vm at h
 cases e:decide (x∈Γ.own) with
 | true=>(replace h:=(e)▸h);exact .inl (OR h)
 | false=>(replace h:=(e)▸h);exact .inr ⟨of_decide_eq_false e,h⟩
theorem OS{K:Slot->St->Prop}(hr:LO c=true)(h:ka S c σ K):S.e c σ (kZ K):=by
 cases c<;>first | exact h | cases hr
theorem M2:noStar (.List es p)=true:=rfl
inductive OT(cx:Cx)(O₀:Ow)(σ0:St)(s₀:Shared)(sl:List Slot)(us:List Value)(n:Nat)(K:List Slot->St->Prop)(us':List Value)(s':Shared):Prop where
 | mk (nw':List Addr) (O':Ow) (σ':St) (sl':List Slot) (as':List Addr) (e1:DS cx O₀ σ0 s₀ nw' O' σ' s') (e2:SR cx.C s'.heap (Ex (cx.ext nw') O') (sl ++ sl') (us ++ us') as') (e3:as'.Nodup) (e4:∀ a∈as',a∈nw') (e5:us'.length=n) (e6:K sl' σ'):OT cx O₀ σ0 s₀ sl us n K us' s'
theorem V7(H:AO C hn d gv fe ft S)(F:AY C hn d cx)(g:AU gv Γ cx)(r₀:R cx O₀ σ0 s₀)(ha:EC cx A):∀ (ns:List Str) (vs:List Expr) (cs:List CE) (σ:St) (K:List Slot->St->Prop) (nw:List Addr) (O:Ow) (s:Shared) (sl:List Slot) (us:List Value) (as:List Addr),
  vals (fe Γ) Γ ns vs=some cs->ns.length=vs.length->Sj S cs σ K->DS cx O₀ σ0 s₀ nw O σ s->SR cx.C s.heap (Ex (cx.ext nw) O) sl us as->as.Nodup->(∀ a∈as,a∈nw)->
  wpAny (model cx.C.prog cx.C.w) A (spliced (backTo pos (starEach vs cx.env))) (OT cx O₀ σ0 s₀ sl us ns.length K) E s:=by
 intro ns
 induction ns with
 | nil=>
  intro vs
  induction vs with
  | nil=>
   intro _ σ K nw O s sl us as hc _ h D x nd ha
   (refine sI hc ?_;clear hc;intro zz;induction zz)
   exact wpAny_items_nil ⟨nw,O,σ,[],as,D,by(refine AA (qH ..:) ?_;refine AA (qH ..:) ?_);exact x,nd,ha,rfl,h⟩
  | cons _ _=>exact fun _ _ _ _ _ _ _ _ _ _ hl=>(by injection hl)
 | cons n ns ih=>
  intro vs
  cases vs with
  | nil=>exact fun _ _ _ _ _ _ _ _ _ _ hl=>(by injection hl)
  | cons v vs=>
   intro _ σ K nw O s sl us as hc hl h D x nd hw
   (refine AE (AN hc) ?_;rintro c h1 h0)
   (refine AE (Ad h0) ?_;rintro cs h2 h3)
   subst h3
   have fin:∀ {nw1:List Addr} {O₁:Ow} {σ1:St} {s₁:Shared} {sl₀:Slot} {as1:List Addr} {u:Value},DS cx O₀ σ0 s₀ nw1 O₁ σ1 s₁->SR cx.C s₁.heap (Ex (cx.ext nw1) O₁) (sl ++ [sl₀]) (us ++ [u]) as1->as1.Nodup->(∀ a∈as1,a∈nw1)->Sj S cs σ1 (fun l σ=>K (sl₀::l) σ)->
     wpAny (model cx.C.prog cx.C.w) A (spliced (backTo pos (starEach vs cx.env))) (fun us' s'=>OT cx O₀ σ0 s₀ sl us (ns.length+1) K (u::us') s') E s₁:=
    fun {nw1 O₁ σ1 s₁ sl₀ as1 u} D₁ x₁ nd1 hw₁ q=>pN (ih vs cs σ1 _ nw1 O₁ s₁ _ _ _ h2 (Nat.succ.inj hl) q D₁ x₁ nd1 hw₁) (fun us' s' h=>by
    induction h with | mk nw' O' σ' sl' as' e1 e2 e3 e4 e5 e6=>exact⟨nw',O',σ',sl₀::sl',as',e1,by(refine AA (List.append_cons ..:) ?_;rewrite [List.append_cons us]);exact e2,e3,e4,congrArg Nat.succ e5,e6⟩) fun _ _ x=>x
   have nP:=fun a h q=>(D.nws r₀).pu a (hw a h) q
   rcases JS h1 with ⟨es,p,cs',e1,e2,e3⟩ | ⟨_,hf⟩
   ·subst e1 e3
    refine qK (wpAny_List ((Mo H F.ext g.ext es cs' σ _ e2 h).seq ha.ext D.r fun ws s₁ O₁ σ1 ps p₁ ra q₁=>?_)) (AR M2)
    refine⟨by(refine AA ra.length ?_);exact om q₁.1 E5,?_⟩
    have hE:∀ b,Ex (cx.ext (s₁.heap.objs.size::nw)) O₁ b->Ex (cx.ext nw) O₁ b∨s₁.heap.get? b=none:=fun b q=>by
     rcases q with (q | q) | q
     ·exact .inl (.inl (.inl q))
     ·cases q with
      | head=>exact .inr (AH (ou _))
      | tail _ q=>exact .inl (.inl (.inr q))
     ·exact .inl (.inr q)
    have kp:∀ b o,s₁.heap.get? b=some o->(s₁.heap.push { cls:=.type "list",data:=.seq ws.toArray }).get? b=some o:=fun _ _ e=>Au e
    refine fin ((D.post (p₁.sp D.r)).push r₀ (pE _ rfl)) (((x.move p₁.mv.kx p₁.exP p₁.exF (fun b q=>.inl (p₁.ex b q)) nP).move (KX.of_keeps (P:=Ax) (F:=Ax) kp) (fun _ q=>q.elim) (fun _ q=>q.elim) hE fun _ _ q=>q).append (.ow ⟨_,pE _ rfl,rfl,rfl,_,rfl⟩ (AF.move (KX.of_keeps (P:=Ax) (F:=Ax) kp) (fun _ q=>q.elim) (fun _ q=>q.elim) hE _ _ ra) q₁.1 .nil)) (List.nodup_append.mpr ⟨nd,List.nodup_cons.mpr ⟨(fun q=>(by cases q)),.nil⟩,fun a ha b hb e=>?_⟩) (fun a q=>(pV.mp q).elim (fun q=>.tail _ (hw a q)) fun q=>Fv q▸.head _) q₁.2
    subst e
    cases Fv hb
    (refine AM (p₁.r.xIn _ (.inr (hw _ ha))) ?_;rintro ⟨o,e⟩ _)
    (replace e:=((AH (ou _)))▸e);exact nS e
   ·exact qK ((H.e (cx.ext nw) F.ext Γ g.ext v c hf σ _ (OS (H.row _ _ _ hf) h)).seq ha.ext D.r fun u s₁ O₁ σ1 p p₁ ru q₁=>
     fin (sl₀:=.fr p) (D.post (p₁.sp D.r)) (by have:=(x.move p₁.mv.kx p₁.exP p₁.exF (fun b q=>.inl (p₁.ex b q)) nP).append (.fr ru .nil);rw [List.append_nil] at this;exact this) nd hw q₁) (AR (H.star _ _ _ hf))
theorem RH.assign:∀ {ts:List Expr} {ns:List Str},Ay asName ts=some ns->RH M A env (ts.map fun t=>PySem.assign t env) ns
 | [],_,h=>by(refine sI h ?_;clear h;intro zz;induction zz);exact .nil
 | t::ts,_,h=>by
  (refine AE (AN h) ?_;rintro n h1 h0)
  (refine AE (Ad h0) ?_;rintro ns h2 h3)
  subst h3
  (refine AI (Cc h1) ?_;rintro p e)
  subst e
  exact .cons (fun _ _ _ _ h=>wpAny_assign_Name h) (RH.assign h2)
set_option backward.match.sparseCases true in
theorem Fw(g:AU gv Γ cx):∀ {ts:List Expr} {names:List Str},E4 Γ.sc line ts=some names->
  (ts.filterMap fun | .Name id pos=>if cx.env.kindOf id==some .local&&pos.line==line then some id else none | _=>none)=names/\names.length=ts.length/\(∀ n∈names,cx.env.kindOf n=some .local)/\(assignEach ts cx.env).map (·.2)=ts.map (fun t=>assign t cx.env)/\ts.all noStar=true/\Ay asName ts=some names
 | [],names,h=>by
  (refine sI h ?_;clear h;intro zz;induction zz)
  exact⟨rfl,rfl,(fun _ h=>(by cases h)),rfl,rfl,rfl⟩
 | t::ts,names,h=>by
  refine Ap fun G kk=>?_;(refine AE (AN h) ?_;rintro x h1 h)
  (refine AM (A2 h) ?_;rintro hc h)
  (refine AE (Ad h) ?_;rintro m hm e)
  subst e
  (refine AI (Cc h1) ?_;rintro p e)
  subst e
  rw [Bool.and_eq_true,beq_iff_eq] at hc
  (refine MI (Fw g hm) ?_;rintro e1 e2 e3 e4 e5 e6);refine kk ?_
  have hk:=(g.sc x _ hc.1 (by decide)).1
  refine⟨?_,congrArg Nat.succ e2,fun n hn=>?_,?_,e5,?_⟩
  ·(refine AA List.filterMap_cons ?_)
   dsimp only
   (refine AA (pO (by(refine AA hk ?_;refine AA (Bool.true_and ..:) ?_);exact hc.2)) ?_)
   exact congrArg (x::·) e1
  ·cases hn with
   | head=>exact hk
   | tail _ hn=>exact e3 n hn
  ·exact congrArg (assign (.Name x p) cx.env::·) e4
  ·refine(?_:((asName (.Name x p)).bind fun b=>(Ay asName ts).map (b::·))=_)
   (refine AA e6 ?_);rfl
structure kh(sc:Scope)(ts vs:List Expr)(names:List Str)(rev:Bool):Prop where
 dn:E4 sc ((ts.head?.map (·.pos.line)).getD 0) ts=some names
 ln:(ts.length==2||ts.length==3)=true
 vl:(vs.length==ts.length)=true
 ns:vs.all noStar=true
 dd:(names.eraseDups.length==names.length)=true
 fd:vs.all (foldedForSure 8)=!rev
 ca:rev=true->vs.all (constantsAlone 8)=false
theorem nk{names:List Str}(h:Mn sc ts vs=some (names,rev)):kh sc ts vs names rev:=by
 (refine AE (AN h) ?_;rintro ns h1 h)
 (refine AM (A2 h) ?_;rintro hb h)
 rw [Bool.and_eq_true,Bool.and_eq_true,Bool.and_eq_true] at hb
 (refine AM hb ?_;clear hb;rintro ⟨⟨b1,b2⟩,b3⟩ b4)
 cases hf:vs.all (foldedForSure 8) with
 | true=>
  (replace h:=(hf)▸h;replace h:=(pO rfl)▸h)
  (refine sI h ?_;intro zz;cases zz)
  exact⟨h1,b1,b2,b3,b4,hf,fun e=>(fT e)⟩
 | false=>
  (replace h:=(hf)▸h;rewrite [if_neg (by decide)] at h)
  cases hc:vs.all (constantsAlone 8) with
  | true=>(replace h:=(hc)▸h;replace h:=(pO rfl)▸h);exact nS h
  | false=>
   (replace h:=(hc)▸h;rewrite [if_neg (by decide)] at h)
   (refine sI h ?_;clear h;intro zz;cases zz)
   exact⟨h1,b1,b2,b3,b4,hf,fun _=>hc⟩
set_option backward.match.sparseCases true in
theorem Tj:∀ {vs:List Expr},vs.all noStar=true->(vs.any fun | .Starred ..=>true | _=>false)=false:=by
 intro rx
 induction rx with
 | nil=>
  exact fun _=>rfl
 | cons v vs ih=>
  exact fun h=>by
   (replace h:=(List.all_cons)▸h;rewrite [Bool.and_eq_true] at h)
   (refine AA List.any_cons ?_;refine AA (ih h.2) ?_;refine AA (Bool.or_false ..:) ?_)
   have:=h.1
   cases v<;>first | rfl | cases this
set_option backward.match.sparseCases true in
theorem OU(g:AU gv Γ cx)(hk:cx.env.scope.kind=.function){names:List Str}(h:kh Γ.sc ts vs names rev):
  swappedStores [.Tuple ts k p] (.Tuple vs k' p') cx.env=pure (match rev with | true=>some names | false=>none):=by
 (refine Bq (Fw g h.dn) ?_;rintro h1 h2 _)
 have eb:cx.env.blockKind=.function:=by delta Env.blockKind;(refine AA hk ?_);rfl
 have key:∀ (F:Expr->Option Str) (Z:Sem (Option (List Str))),ts.filterMap F=names->(vs.all (constantsAlone 8)=false->Z=pure (some (ts.filterMap F)))->((if (!(ts.length==2||ts.length==3)||vs.length != ts.length||cx.env.blockKind != .function)=true then pure none else
   if (vs.any fun | .Starred ..=>true | _=>false)=true then pure none else
   if ((ts.filterMap F).length != ts.length||(ts.filterMap F).eraseDups.length != (ts.filterMap F).length)=true then pure none else
   if vs.all (foldedForSure 8)=true then pure none else Z:Sem (Option (List Str))))=pure (match rev with | true=>some names | false=>none):=fun F Z hF hZ=>by
  rw [hF] at hZ ⊢
  have d1:(!(ts.length==2||ts.length==3)||vs.length != ts.length||cx.env.blockKind != .function)=false:=by(refine AA h.ln ?_;refine AA eb ?_;rewrite [bne];refine AA h.vl ?_);rfl
  have d2:(names.length != ts.length||names.eraseDups.length != names.length)=false:=by(rewrite [bne];rewrite [bne];refine AA h.dd ?_;refine AA h2 ?_;rewrite [beq_self_eq_true]);rfl
  (refine AA d1 ?_;refine AA (Tj h.ns) ?_;refine AA d2 ?_;refine AA h.fd ?_;refine AA (pH (by decide)) ?_;refine AA (pH (by decide)) ?_;refine AA (pH (by decide)) ?_)
  induction rev with
  | false=>exact pO rfl
  | true=>exact(pH (by decide)).trans (hZ (h.ca rfl))
 exact key _ _ h1 fun hc=>by(refine AA hc ?_);rfl
noncomputable def XW{α:Type}(b:Bool)(l:List α):List α:=match b with | true=>l.reverse | false=>l
theorem Yn(H:AO C hn d gv fe ft S)(F:AY C hn d cx)(g:AU gv Γ cx){es vs:List Expr}{k k':Nat}{names:List Str}{Q:KS}(hc:vals (fe Γ) Γ names vs=some cs)(hi:Ay (EX · Γ.nm) (XW rev names)=some is)(h:Sj S cs σ fun l σ=>Me is (XW rev l) σ (Q .next))(hsw:kh Γ.sc es vs names rev):Fc cx (exec (.Assign [.Tuple es k p] (.Tuple vs k' p') pos) cx.env) σ Q:=fun A ha O s E r=>by
 (refine MI (Fw g hsw.dn) ?_;rintro _ hlen hloc heach hns hnm)
 refine oq (qI ?_)
 refine oq (o6 ?_)
 refine oq (wpAny_Tuple (pN (V7 H F g r ha names vs cs σ _ [] O s [] [] [] hc (hlen.trans (beq_iff_eq.mp hsw.vl).symm) h ⟨(r.addX (fun _ _ e=>e) (fun _ q=>(by cases q))),(fun _ q=>(by cases q)),LS.refl⟩ .nil .nil fun _ q=>(by cases q)) (fun us s' hP=>?_) fun _ _ x=>x))
 induction hP with | mk nw' O' σ' sl as D x nd hw hul q=>
 have hle:es.length<=3:=by
  have:=hsw.ln
  rw [Bool.or_eq_true,beq_iff_eq,beq_iff_eq] at this
  lia
 refine⟨om (by(refine AA hul ?_;refine AA hlen ?_);exact hle) (om (by decide:3<=16) E5),?_⟩
 (refine AA (OU g r.env.kind hsw) ?_)
 refine oq (o6 ?_)
 have kP:∀ b o,s'.heap.get? b=some o->(s'.heap.push { cls:=.type "tuple",data:=.seq us.toArray }).get? b=some o:=fun _ _ e=>Au e
 have gT:(s'.heap.push { cls:=.type "tuple",data:=.seq us.toArray }).IsTuple s'.heap.objs.size us.toArray:=⟨_,pE _ rfl,rfl,_,rfl⟩
 have hand:=(EC.hand' ha.ext D.r).keeps kP
 have fin:∀ {fs:List (Value->Sem Unit)} {ns:List Str} {sl₂:List Slot} {us₂:List Value} {as2:List Addr} {h':Heap} {Qf:Unit->Shared->Prop},RH (model cx.C.prog cx.C.w) A cx.env fs ns->(∀ n∈ns,cx.env.kindOf n=some .local)->Ay (EX · Γ.nm) ns=some is->SR cx.C s'.heap (Ex (cx.ext nw') O') sl₂ us₂ as2->as2.Nodup->(∀ a∈as2,a∈nw')->us₂.length=ns.length->Me is sl₂ σ' (Q .next)->
   (∀ b o,(s'.heap.push { cls:=.type "tuple",data:=.seq us.toArray }).get? b=some o->h'.get? b=some o)->(∀ s'',B1 cx O σ s Q .next s''->Qf () s'')->wpAny (model cx.C.prog cx.C.w) A (assignInOrder fs us₂) Qf E { s' with heap:=h' }:=
  fun {fs ns sl₂ us₂ as2 h' Qf} f1 f2 f3 f4 f5 f6 f7 f8 kH hQ=>by
   have kk:=fun b o e=>kH b o (kP b o e)
   exact pN (RI g r f1 is sl₂ us₂ as2 nw' O' σ' _ f2 f3 (D.post (((Aw.refl D.r).op (AG.of_keeps kk)).sp D.r)) (f4.move (KX.of_keeps (P:=Ax) (F:=Ax) kk) (fun _ q=>q.elim) (fun _ q=>q.elim) (fun b q=>.inl q) fun _ _ q=>q) f5 f6 f7 f8) (fun _ s'' zq=>(by refine BS zq ?_;rintro O'' σ'' e1 e2;exact hQ s'' (B1.next e1 e2))) fun _ _ x=>x
 induction rev with
 | true=>
  exact oq (wpAny_rule (oq (Hz hand gT (by(refine AA ph ?_;refine AA hul ?_;rfl)) fun h' kH=>
   oq (fin (RH.bind names.reverse) (fun n hn=>hloc n (List.mem_reverse.mp hn)) hi x.reverse ((List.Perm.nodup_iff (List.reverse_perm _)).mpr nd) (fun a haa=>hw a (List.mem_reverse.mp haa)) (by(refine AA List.length_reverse ?_;refine AA List.length_reverse ?_);exact hul) q kH fun s'' q=>o6 q))))
 | false=>
  refine oq ?_
  (refine AM (Fu (env:=cx.env) hns) ?_;rintro e1 e2)
  refine oq (qI (Ft hand gT ?_ e1 fun h' kH=>?_))
  ·(refine AA e2 ?_;refine AA ph ?_;refine AA hul ?_;refine AA hlen ?_;rfl)
  ·(refine AA heach ?_)
   exact fin (RH.assign hnm) hloc hi x nd hw hul q kH fun s'' q=>o6 q
end
section
variable{C:Al}{hn:Bool}{d:Nat}{gv:Str->Option PV}{fe ft:Ge->Expr->Option CE}{S:CY}{cx:Cx}{Γ:Ge}{σ:St}{A:Around}{O:Ow}{s:Shared}{E:Value->Shared->Prop}
theorem V8{t1 t2:Tok}(hm:(D==sysModules)=false)(hd:h.DictOf (intKind C.prog C.w) D (merged [] [(x,.int y t2)])):DB C h (fun z=>if z=x then some y else none) D (valueAt (merged [] [(x,.int y t2)])) where
 nm:=hm
 m:=hd.mapOf
 at_:=fun z=>by
  by_cases hz:z=x
  ·(refine AA (pO hz) ?_)
   have:valueAt (merged [] [(x,Value.int y t2)]) z=some (.int y t2):=by subst hz;simp [merged,stored,valueAt]
   (refine AA this ?_)
   exact .some y t2
  ·(refine AA (pH hz) ?_)
   have:valueAt (merged [] [(x,Value.int y t2)]) z=none:=by simp [merged,stored,valueAt,Ne.symm hz]
   (refine AA this ?_)
   exact .none
theorem V9(G:EE C gv)(H:AO C hn d gv fe ft S)(F:AY C hn d cx)(g:AU gv Γ cx){K:KE}(h1:fe Γ k=some a)(h2:fe Γ v=some b)(h:S.e a σ (bv S b K)):Ev cx (eval (.Dict [some k] [v] pos) cx.env) σ K:=fun A ha O s E r=>by
 obtain ⟨rfl,rfl,rfl⟩:=F
 refine wpAny_Dict_pairs (knd:=intKind cx.C.prog cx.C.w) (pairs:=[(eval k cx.env,do let x ←eval v cx.env;standAt pos;pure x)]) rfl (List.cons_ne_nil _ _) (pW _) ?_
 have D0:DS cx O σ s (s.heap.objs.size::[]) O σ { s with heap:=s.heap.push { cls:=.type "dict",data:=.dict #[] },toks:=s.toks }:=
  DS.push r ⟨r.addX (fun _ _ e=>e) (fun _ q=>(by cases q)),(fun _ q=>(by cases q)),LS.refl⟩ (pE _ rfl)
 have hD0:(s.heap.push { cls:=.type "dict",data:=.dict #[] }).DictOf (intKind cx.C.prog cx.C.w) s.heap.objs.size []:=Heap.DictOf.new s.heap
 generalize s.heap.objs.size=D at*
 refine evalPairs_cons ((H.e (cx.ext [D]) (⟨rfl,rfl,rfl⟩:AY cx.C cx.hn cx.d cx).ext Γ g.ext k a h1 σ _ h).seq ha.ext D0.r fun kv s₁ O₁ σ1 p p₁ ra q₁=>oq ((H.e (cx.ext [D]) (⟨rfl,rfl,rfl⟩:AY cx.C cx.hn cx.d cx).ext Γ g.ext v b h2 σ1 _ q₁).seq ha.ext p₁.r fun vv s₂ O₂ σ2 p' p₂ rb q₂=>oq (qI (o6 (evalPairs_nil ?_)))))
 (refine CQ (N8 q₂) ?_;rintro x y e1 e2 q)
 subst e1 e2
 induction ra with | mk t1=>induction rb with | mk t2=>
 have p:=p₁.trans p₂
 have N:=D0.nws r
 have hD2:s₂.heap.DictOf (intKind cx.C.prog cx.C.w) D []:=by
  (refine IX hD0 ?_;rintro o es ep e1 r1)
  exact⟨o,es,ep,(p.mv.kx D o (N.pu D (.head _)) e1).1 (N.fr D (.head _)),r1⟩
 refine⟨[(x,.int y t2)],⟨by simp [intKind,Value.isInt],rfl,trivial⟩,hD2,fun h' hd' hs'=>?_⟩
 have kk:∀ b o,b∉[D]->s₂.heap.get? b=some o->h'.get? b=some o:=fun b o hb e=>(hs'.2 b fun q=>hb (q▸.head _)).trans e
 (refine AI (Fb hd'.mapOf) ?_;rintro oD eD)
 have N2:Nw cx (pa σ2.purse) [D]:=by(refine AA p.pa ?_);exact N
 have r':R cx O₂ σ2 { s₂ with heap:=h',toks:=s₂.toks+[(Value.int x t1,Value.int y t2)].length }:=p.r.shift (cx2:=cx) ⟨cx.X,rfl⟩ (fun _ q=>.inl q) (fun _ q=>q) N2 (fun _ q=>q) kk (fun b hb _=>Fv hb▸⟨_,eD⟩) (fun b hb=>r.purse.xs b (by(refine BO p.pa ?_);exact hb)) r.fX
 have mv1:AG cx.C (inP σ.purse) (inF cx.l) s s₂:=(AG.of_keeps fun _ _ e=>Au e).trans p.mv
 refine Gf.mk (p:=.idict fun z=>if z=x then some y else none) ⟨r',p.sub,(mv1.trans_news (AG.but kk fun b hb=>N.base b hb) (fun b q=>.inr (D0.new b q)) fun _ q=>q.elim),p.pa,r.exP,r.exF⟩ ⟨D,_,(N2.notEx p.r (fun b q=>(r.xIn b q).1) D0.new D (.head _)),V8 (t1:=t1) ?_ hd'⟩ q
 (refine AI G.mods ?_;rintro o e)
 have:D≠sysModules:=fun q=>by have:=N.base D (.head _);(replace this:=(q)▸this;replace this:=(e)▸this);exact sN this
 exact qT.mpr this
theorem Tk(i:Expr):(∃ lo hi st p,i=.Slice lo hi st p)∨EW i=true:=by
 cases i<;>first | exact .inr rfl | exact .inl ⟨_,_,_,_,rfl⟩
theorem RJ{v i:Expr}(h:EW i=true):YN Γ f v i=(match (asName v).bind fun x=>(EX x Γ.nm).map fun j=>(x,j) with
  | some (x,j)=>Bk (!(x == "__debug__")) ((f i).map (.itl j))
  | none=>(f v).bind fun a=>(f i).map (.item a)):=by
 cases i<;>first | rfl | cases h
theorem Yo(H:AO C hn d gv fe ft S)(F:AY C hn d cx)(g:AU gv Γ cx){v i:Expr}(hk:∀ v σ K,S.e (.kv v) σ K->K v σ):Hd (YN Γ (fe Γ) v i) fun c=>∀ K:KE,cE Gm hn S c σ K->Ev cx (eval (.Subscript v i pos) cx.env) σ K:=by
 rcases Tk i with ⟨lo,hi,st,p,e⟩ | hs
 ·subst e
  exact Ds fun hb=>Ao fun a h1=>Ao fun b h2=>BF fun e h3 K h=>by
   cases qm.mp hb
   exact Qv H F g h1 h2 h3 hk h
 ·(refine AA (RJ hs) ?_)
  cases hx:(asName v).bind fun x=>(EX x Γ.nm).map fun j=>(x,j) with
  | some xj=>
   (refine AE (AN hx) ?_;rintro x h1 h2)
   (refine AE (Ad h2) ?_;rintro j h3 h4)
   induction h4
   (refine AI (Cc h1) ?_;rintro px e)
   subst e
   exact Ds fun hd=>BF fun b h4 K h=>YT H F g hs h3 hd h4 h
  | none=>exact Ao fun a h1=>BF fun b h2 K h=>Vq H F g hs h1 h2 h
theorem WA(G:Jw C gv)(H:AO C hn d gv fe ft S)(F:AY C hn d cx)(g:AU gv Γ cx){fn:Expr}{args:List Expr}:Hd (XT Γ (fe Γ) fn args pos) fun c=>∀ K:KE,cE (AK C hn d) hn S c σ K->Ev cx (eval (.Call fn args [] pos) cx.env) σ K:=by
 refine Ds fun hz=>Ao fun es hes=>?_
 generalize view fn=w
 induction w with
 | name x px=>exact Ao fun p hp=>Kc fun c hc K h=>TM G H F g hz hes hp hc h
 | attr o n ap=>
  refine Ds fun hb=>Ao fun a h1=>?_
  rw [Bool.and_eq_true,Bool.and_eq_true] at hb
  by_cases hw:n = "word"
  ·subst hw
   induction args with
   | nil=>exact fun K h=>V1 G H F g hb.1.1 hb.1.2 h1 h
   | cons _ _=>trivial
  ·(refine AA (pH hw) ?_)
   exact BF fun m h2 K h=>V0 H F g hz hb.1.1 hb.1.2 (of_decide_eq_true hb.2) h2 h1 hes h
 | _=>trivial
theorem Yp(H:AO C hn d gv fe ft S)(F:AY C hn d cx)(g:AU gv Γ cx){K:KE}(hc:Ay (fe Γ) es=some cs)(h:VV S (op==.And) cs σ K):Ev cx (eval (.BoolOp op es pos) cx.env) σ K:=by
 induction op with
 | And=>exact LT H F g true es cs σ K hc h
 | Or=>exact LT H F g false es cs σ K hc h
theorem WB(H:AO C hn d gv fe ft S)(F:AY C hn d cx)(g:AU gv Γ cx){K:KT}(hc:Ay (ft Γ) es=some cs)(h:VU S (op==.And) cs σ K):R6 cx (isTrue (.BoolOp op es pos) cx.env whole) σ K:=fun A ha O s E r=>by
 induction op with
 | And=>exact wpAny_isTrue_BoolOp (Py H F g true es cs σ K hc h A ha O s E r)
 | Or=>exact wpAny_isTrue_BoolOp (Py H F g false es cs σ K hc h A ha O s E r)
theorem WC(G:Jw C gv)(H:AO C hn d gv fe ft S)(hk:∀ v σ K,S.e (.kv v) σ K->K v σ)(F:AY C hn d cx)(g:AU gv Γ cx):Hd (GM n fe ft Γ e) fun c=>∀ K:KE,cE (AK C hn d) hn S c σ K->Ev cx (eval e cx.env) σ K:=by
 delta GM
 generalize view e=w
 induction w with
 | const k u p=>exact BF fun v h1 K h=>S8 h1 h
 | name x p=>exact Kc fun c hc K h=>Vn G.cfg F g hc h
 | bin l op r p=>exact Ao fun a h1=>BF fun b h2 K h=>S9 H F g h1 h2 h
 | un op x p=>
  refine Ds fun hb=>BF fun a h1 K h=>?_
  induction op with
  | USub=>exact TA H F g h1 h
  | _=>exact fT hb
 | ife t b o p=>exact Ao fun a h1=>Ao fun b h2=>BF fun o h3 K h=>TB H F g h1 h2 h3 h
 | cmp l ops es p=>exact Ao fun a h1=>Kc fun c hc K h=>(TI G.cfg H F g h1 hc).val h
 | bop op es p=>exact BF fun cs h1 K h=>Yp H F g h1 h
 | tup es u p=>exact BF fun cs h1 K h=>Mr H F g h1 h
 | lst es p=>exact BF fun cs h1 K h=>Vo H F g h1 h
 | dict ks vs p=>
  cases ks with
  | nil=>trivial
  | cons k ks=>induction ks with
   | cons _ _=>trivial
   | nil=>
    refine Ao fun k e=>?_
    subst e
    cases vs with
    | nil=>trivial
    | cons v vs=>induction vs with
     | cons _ _=>trivial
     | nil=>exact Ao fun a h1=>BF fun b h2 K h=>V9 G.cfg H F g h1 h2 h
 | sub v i p=>exact Yo H F g hk
 | call fn args kws p=>
  refine Ds fun hb=>?_
  cases List.isEmpty_iff.mp hb
  exact WA G H F g
 | comp elt gens sc p=>exact Kc fun c hc K h=>V6 G H F g hc h
 | attr v a p=>
  refine Ds fun hb=>Ao fun o h1=>?_
  rw [Bool.and_eq_true] at hb
  by_cases ha:a = "raw"
  ·(refine AA (pO ha) ?_)
   subst ha
   exact fun K h=>P1 (y:=true) G H F g hb.1 h1 h
  ·(refine AA (pH ha) ?_)
   by_cases ha:a = "name"
   ·subst ha
    exact fun K h=>P1 (y:=false) G H F g hb.1 h1 h
   ·(refine AA (pH ha) ?_);trivial
 | _=>trivial
theorem P9(G:Jw C gv)(H:AO C hn d gv fe ft S)(hk:∀ v σ K,S.e (.kv v) σ K->K v σ)(F:AY C hn d cx)(g:AU gv Γ cx){K:KE}(hc:GM n fe ft Γ e=some c)(h:cE (AK C hn d) hn S c σ K):Ev cx (eval e cx.env) σ K:=(WC G H hk F g).of hc K h
theorem Tl{K:Bool->Prop}(h:Sa p K)(hv:AJ C s.heap X p v)(k:∀ b,K b->Q b s):wpAny (model C.prog C.w) A (truthy v) Q E s:=by
 cases p with
 | none=>cases (show v=.none from hv);exact PyProof.Rows.truthy_none (k _ h)
 | bool b=>cases (show v=.bool b from hv);exact qQ (k _ h)
 | int i=>
  induction hv with | mk t=>
  refine PyProof.Rows.truthy_int ?_
  have:(i != 0)=decide (i≠0):=by by_cases hi:i=0<;>(first | (refine AA hi ?_;trivial) | simp [hi])
  (refine AA this ?_)
  exact k _ h
 | _=>exact h.elim
theorem RK{K:KT}(h:Ev cx (eval e cx.env) σ (VX K))(he:PySem.isTrue e cx.env (eval e cx.env)=(do let v ←eval e cx.env;standAt e.pos;holding [v] (truthy v))):
  R6 cx (PySem.isTrue e cx.env (eval e cx.env)) σ K:=fun A ha O s E r=>
 wpAny_isTrue_value (h.seq ha r fun v s₁ O₁ σ1 p p₁ rp q₁=>Tl q₁ rp fun b q=>⟨O₁,σ1,p₁,q⟩) he
theorem WD{K:KT}:Pw c=true->cT Gm hn S c σ K=cE Gm hn S c σ (VX K):=by
 cases c<;>first | exact fun _=>rfl | exact fun h=>(by cases h)
theorem RL{c:CE}{K:KT}(hc:I5 o=some c)(h:cT Gm hn S c σ K):o=some c/\cE Gm hn S c σ (VX K):=by
 (refine AE (AN hc) ?_;rintro c' h1 hc)
 (refine AM (A2 hc) ?_;rintro hb hc)
 (refine sI hc ?_;clear hc;intro zz;induction zz)
 exact⟨h1,WD hb▸h⟩
theorem WE(G:Jw C gv)(H:AO C hn d gv fe ft S)(hk:∀ v σ K,S.e (.kv v) σ K->K v σ)(F:AY C hn d cx)(g:AU gv Γ cx){n:Nat}{K:KT}(hc:S6 n fe ft Γ e=some c)(h:cT (AK C hn d) hn S c σ K):R6 cx (isTrue e cx.env (eval e cx.env)) σ K:=by
 refine Hd.of (P:=fun c=>cT (AK C hn d) hn S c σ K->R6 cx (isTrue e cx.env (eval e cx.env)) σ K) ?_ hc h
 clear hc h
 delta S6
 generalize view e=w
 have pl:∀ {e:Expr},PySem.isTrue e cx.env (eval e cx.env)=(do let v ←eval e cx.env;standAt e.pos;holding [v] (truthy v))->Hd (I5 (GM n fe ft Γ e)) fun c=>cT (AK C hn d) hn S c σ K->R6 cx (PySem.isTrue e cx.env (eval e cx.env)) σ K:=fun he=>Kc fun c hc h=>
  have hp:=RL hc h
  RK (P9 G H hk F g hp.1 hp.2) he
 induction w with
 | cmp l ops es p=>exact Ao fun a h1=>Kc fun c hc h=>(TI G.cfg H F g h1 hc).tst h
 | bop op es p=>exact BF fun cs h1 h=>WB H F g h1 h
 | un op x p=>
  refine Ds fun hb=>BF fun a h1 h=>?_
  induction op with
  | Not=>exact fun A ha O s E r=>wpAny_isTrue_Not ((H.t cx F Γ g x a h1 σ _ h).seq ha r fun b s₁ O₁ σ1 p q=>⟨O₁,σ1,p,q⟩)
  | _=>exact fT hb
 | name x p=>exact pl rfl
 | const k u p=>exact pl rfl
 | call fn args kws p=>exact pl rfl
 | _=>trivial
end
noncomputable def WG(C:Al)(hn:Bool)(d:Nat)(gv:Str->Option PV)(Γ:Ge)(sp:Nat->St->KS->Prop):Prop:=
 ∀ st k,Γ.hk st=some k->∀ cx,AY C hn d cx->AU gv Γ cx->∀ σ Q,sp k σ Q->Fc cx (exec st cx.env) σ Q
section
variable{C:Al}{hn:Bool}{d:Nat}{gv:Str->Option PV}{fe ft:Ge->Expr->Option CE}{fs:List Stmt->Option (List CS)}{S:CY}{cx:Cx}{Γ:Ge}{σ:St}{A:Around}{O:Ow}{s:Shared}{E:Value->Shared->Prop}{sp:Nat->St->KS->Prop}
theorem M3{v:Expr}(h:LP Γ x px v=true):(∃ elt gens scope p,v=.ListComp elt gens scope p/\I9 Γ.sc x px (.ListComp elt gens scope p) scope=true)∨(Fn v=false/\EY Γ.sc x=true):=by
 delta LP at h
 generalize view v=w at h ⊢
 induction w with
 | comp elt gens scope p=>
  rw [Bool.and_eq_true] at h
  exact .inl ⟨_,_,_,_,rfl,h.2⟩
 | other e=>exact fT h
 | _=>exact .inr ⟨rfl,h⟩
theorem Tm(H:AO C hn d gv fe ft S)(F:AY C hn d cx)(g:AU gv Γ cx){Q:KS}(hl:EY Γ.sc x=true)(hi:EX x Γ.nm=some i)(hc:Ay (fe Γ) es=some cs)(h:cL S cs σ (mY (YA i (Q .next)))):Fc cx (exec (.Assign [.Name x px] (.List es lp) pos) cx.env) σ Q:=fun A ha O s E r=>by
 refine wpAny_Assign_Name (wpAny_List ((Mo H F g es cs σ _ hc h).seq ha r fun vs s₁ O₁ σ1 ps p₁ ra q₁=>?_)) rfl
 have hz:=om q₁.1 E5
 refine⟨by(refine AA ra.length ?_);exact hz,?_⟩
 exact B8 (p₁.op (BX)).r (JL g hl) fun h' tk T st=>B1.next ((p₁.sp r).trans (p₁.r.storeOw (g.nm▸D6 hi) (fun _ _ e=>Au e) (AH (ou _)) ⟨_,pE _ rfl,rfl,rfl,_,rfl⟩ st ra hz)) (B5 q₁.2)
theorem Yq(H:AO C hn d gv fe ft S)(F:AY C hn d cx)(g:AU gv Γ cx){Q:KS}(hs:Fn v=false)(hw:swappedStores [.Tuple es k p] v cx.env=pure none)(h1:Gw n Γ (.Tuple es k p)=some ct)(h2:fe Γ v=some c)(h:S.e c σ (b8 ct (Q .next))):Fc cx (exec (.Assign [.Tuple es k p] v pos) cx.env) σ Q:=fun A ha O s E r=>by
 refine wpAny_Assign_stores ((H.e cx F Γ g v c h2 σ _ h).seq ha r fun vv s₁ O₁ σ1 a p₁ ra q₁=>?_) (Ct (t:=some (.Tuple es k p)) (n:=pos.line) (env:=cx.env) hs) hw
 refine(?_:wpAny _ A (assign (.Tuple es k p) cx.env vv) _ E s₁)
 exact pN ((II g n _ ct a σ1 _ h1 q₁).2 vv A O₁ s₁ E ha p₁.r (.inl ra)) (fun _ s₂ zq=>(by refine BS zq ?_;rintro O₂ σ2 p₂ q₂;exact B1.next ((p₁.sp r).trans p₂) q₂)) fun _ _ x=>x
noncomputable def cN(fe:Ge->Expr->Option CE)(Γ:Ge)(v:Expr):Prop:=(∀ n t,YO n (fe Γ) Γ t v=Bk (!Fn v) ((Gw n Γ t).bind fun c=>(fe Γ v).map (CS.unp c)))/\∀ es k p env,swappedStores [.Tuple es k p] v env=pure none
theorem Yr(v:Expr):(∃ vs k p,v=.Tuple vs k p)∨cN fe Γ v:=by
 cases v<;>first | exact .inl ⟨_,_,_,rfl⟩ | exact .inr ⟨fun _ _=>rfl,fun _ _ _ _=>rfl⟩
theorem Ys(H:Eh C hn d gv Γ fe ft fs S)(F:AY C hn d cx)(g:AU gv Γ cx){t v:Expr}:Hd (YQ n (fe Γ) Γ t v) fun c=>∀ Q:KS,b9 hn sp S c σ Q->Fc cx (exec (.Assign [t] v pos) cx.env) σ Q:=by
 delta YQ
 generalize view t=w
 induction w with
 | name x px=>
  refine Ds fun hb=>Ao fun i hi=>BF fun cv hv Q h=>?_
  rcases M3 hb with ⟨elt,gens,scope,p,e,hsw⟩ | ⟨hs,hl⟩
  ·subst e
   rcases JS hv with ⟨_,_,_,e,_⟩ | ⟨_,hf⟩
   ·injection e
   ·exact H.ca cx F g x px i elt gens scope p pos cv hsw hi hf σ Q (OS (H.c.row _ _ _ hf) h)
  ·rcases JS hv with ⟨es,lp,cs,e1,e2,e3⟩ | ⟨_,hf⟩
   ·subst e1 e3
    exact Tm H.c F g hl hi e2 h
   ·exact fun A ha O s E r=>wpAny_Assign_Name ((H.c.e cx F Γ g v cv hf σ _ (OS (H.c.row _ _ _ hf) h)).seq ha r fun vv s₁ O₁ σ1 a p₁ ra q₁=>B8 p₁.r (JL g hl) fun h' tk T st=>B1.next ((p₁.sp r).trans (p₁.r.storeFr (g.nm▸D6 hi) st ra)) (B5 q₁)) (Ct hs)
 | tup es k p=>
  rcases Yr (Γ:=Γ) v with ⟨vs,k',p',e⟩ | hu
  ·subst e
   exact Ao fun nr h1=>Ao fun l h2=>BF fun is h3 Q h=>Yn H.c F g h2 h3 h (nk h1)
  ·refine(?_:Hd (YO n (fe Γ) Γ (.Tuple es k p) v) _)
   (refine AA (hu.1 ..:) ?_)
   exact Ds fun hs=>Ao fun a h1=>BF fun b h2 Q h=>Yq H.c F g (Bool.not_eq_true' _▸hs) (hu.2 _ _ _ _) h1 h2 h
 | _=>trivial
theorem Le{e:Expr}{x:Str}{px ap p:Pos}{a:Expr}(h:appendOf e=some (x,px,ap,a,p)):e=.Call (.Attribute (.Name x px) "append" ap) [a] [] p:=by
 refine DC (P:=fun r=>e=.Call (.Attribute (.Name r.1 r.2.1) "append" r.2.2.1) [r.2.2.2.1] [] r.2.2.2.2) h ?_
 delta appendOf
 generalize view e=w
 induction w with
 | call f args kws p=>
  refine(?_:Fq _ (match f,view f with
   | _,.attr o n ap=>(match o,view o with
    | _,.name x px=>(match args with
     | a::r=>Bk (n == "append" && r.isEmpty&&kws.isEmpty) (some (x,px,ap,a,p))
     | []=>none)
    | _,_=>none)
   | _,_=>none))
  generalize view f=w
  induction w with
  | attr o n ap=>
   refine(?_:Fq _ (match o,view o with
    | _,.name x px=>(match args with
     | a::r=>Bk (n == "append" && r.isEmpty&&kws.isEmpty) (some (x,px,ap,a,p))
     | []=>none)
    | _,_=>none))
   generalize view o=w
   induction w with
   | name x px=>
    cases args with
    | nil=>exact True.intro
    | cons a r=>
     refine Ea fun hb=>?_
     rw [Bool.and_eq_true,Bool.and_eq_true,beq_iff_eq,List.isEmpty_iff,List.isEmpty_iff] at hb
     (refine AM hb ?_;clear hb;rintro ⟨e1,e2⟩ e3)
     subst e1 e2 e3
     rfl
   | _=>exact True.intro
  | _=>exact True.intro
 | _=>exact True.intro
theorem WH(H:Eh C hn d gv Γ fe ft fs S)(F:AY C hn d cx)(g:AU gv Γ cx){e:Expr}:Hd (S7 (fe Γ) Γ e) fun c=>∀ Q:KS,b9 hn sp S c σ Q->Fc cx (exec (.Expr e pos) cx.env) σ Q:=by
 delta S7
 cases ha:appendOf e with
 | some r=>
  cases Le (px:=r.2.1) (ap:=r.2.2.1) (a:=r.2.2.2.1) (p:=r.2.2.2.2) ha
  exact Ds fun hb=>Ao fun i hi=>BF fun c' h1 Q h=>have hb:=Bool.and_eq_true_iff.mp hb;Yg H.c F g hb.1 hb.2 hi h1 h
 | none=>
  dsimp only
  generalize view e=w
  induction w with
  | call f args kws p=>exact BF fun c' h1 Q h=>Yj (H.c.e cx F Γ g _ c' h1 σ _ h)
  | _=>trivial
noncomputable def Lf(C:Al)(hn:Bool)(d:Nat)(gv:Str->Option PV)(Γ:Ge)(sp:Nat->St->KS->Prop)(st:Stmt):Prop:=
 ∀ k,Γ.hk st=some k->∀ cx,AY C hn d cx->AU gv Γ cx->∀ σ Q,sp k σ Q->Fc cx (exec st cx.env) σ Q
theorem M4(G:Jw C gv){st:Stmt}(Sp:Lf C hn d gv Γ sp st)(H:Eh C hn d gv Γ fe ft fs S)(hk:∀ v σ K,S.e (.kv v) σ K->K v σ)(F:AY C hn d cx)(g:AU gv Γ cx):Hd (Fp n (fe Γ) (ft Γ) fs Γ st) fun c=>∀ Q:KS,b9 hn sp S c σ Q->Fc cx (exec st cx.env) σ Q:=by
 delta Fp
 cases hq:Γ.hk st with
 | some k=>exact fun Q h=>Sp k hq cx F g σ Q h
 | none=>
  cases st with
  | Assign ts v p=>
   cases ts with
   | nil=>trivial
   | cons t ts=>induction ts with
    | nil=>exact Ys H F g
    | cons _ _=>trivial
  | Expr e p=>exact WH H F g
  | If t b o p=>exact Ao fun t' h1=>Ao fun b' h2=>BF fun o' h3 Q h=>Yh H F g h1 h2 h3 h
  | While t b o p=>
   refine Ds fun hb=>?_
   cases List.isEmpty_iff.mp hb
   exact Ao fun t' h1=>BF fun b' h2 Q h=>Yk H F g h1 h2 h
  | For tgt it b o p=>
   refine Ds fun hb=>?_
   cases List.isEmpty_iff.mp hb
   exact Ao fun i' h1=>Ao fun t' h2=>BF fun b' h3 Q h=>Yl G H F g h1 h2 h3 h
  | Return e p=>
   induction e with
   | none=>exact fun Q h=>V3 (hk _ _ _ h)
   | some e=>exact BF fun e' h1 Q h=>Te (H.c.e cx F Γ g e e' h1 σ _ h)
  | Break p=>exact fun Q h=>Yi h
  | _=>trivial
theorem M5(G:Jw C gv)(H:Eh C hn d gv Γ fe ft fs S)(hk:∀ v σ K,S.e (.kv v) σ K->K v σ)(F:AY C hn d cx)(g:AU gv Γ cx):∀ (b:List Stmt) (cs:List CS) (σ:St) (Q:KS),(∀ st∈b,Lf C hn d gv Γ sp st)->Ay (Fp n (fe Γ) (ft Γ) fs Γ) b=some cs->cS hn sp S cs σ Q->Fc cx (execs b cx.env) σ Q:=by
 intro rx
 induction rx with
 | nil=>
  exact fun _ σ Q _ hc h=>fun A ha O s E r=>by
   (refine sI hc ?_;clear hc;intro zz;induction zz)
   exact wpAny_execs_nil ⟨O,σ,.next,Aj.refl r,rfl,h⟩
 | cons st b ih=>
  exact fun _ σ Q Sp hc h=>fun A ha O s E r=>by
   (refine AE (AN hc) ?_;rintro c h1 h0)
   (refine AE (Ad h0) ?_;rintro cs h2 h3)
   induction h3
   refine pT (((M4 G (Sp st (.head _)) H hk F g).of h1 _ h).seq ha r fun f s₁ hx=>hx.rec fun O₁ σ1 o p₁ hf q₁=>?_)
   induction o with
   | next=>
    cases (show f=.next from hf)
    exact(ih cs σ1 Q (fun st hs=>Sp st (.tail _ hs)) h2 q₁).seq ha p₁.r fun f s' g=>g.trans p₁
   | brk=>
    cases (show f=.brk from hf)
    exact⟨O₁,σ1,.brk,p₁,rfl,q₁⟩
   | cont=>
    cases (show f=.cont from hf)
    exact⟨O₁,σ1,.cont,p₁,rfl,q₁⟩
   | ret p=>
    (refine AE hf ?_;clear hf;rintro v e rv)
    subst e
    exact⟨O₁,σ1,.ret p,p₁,⟨v,rfl,rv⟩,q₁⟩
theorem GS{c:CE}(h:XU n fe ft Γ e=some c):GM n fe ft Γ e=some c/\noStar e=true/\LO c=true:=by
 (refine AE (AN h) ?_;rintro c' h1 h)
 (refine AM (A2 h) ?_;rintro hb h)
 (refine sI h ?_;clear h;intro zz;induction zz)
 rw [Bool.and_eq_true] at hb
 exact⟨h1,hb⟩
theorem To:∀ n v σ K,(Bj G hn sp n).e (.kv v) σ K->K v σ
 | 0,_,_,_,h=>h.elim
 | _+1,_,_,_,h=>h
theorem E9(G:Jw C gv)(Sp:WG C hn d gv Γ sp):∀ n,Eh C hn d gv Γ (Bb n).1 (Bb n).2 (FU n Γ) (Bj (AK C hn d) hn sp n)
 | 0=>⟨⟨(fun _ _ _ _ _ _ h=>(nS h)),(fun _ _ _ _ _ _ h=>(nS h)),(fun _ _ _ h=>(nS h)),fun _ _ _ h=>(nS h)⟩,(fun _ _ _ _ _ h=>(nS h)),fun _ _ _ _ _ _ _ _ _ _ _ _ _ _ h=>(nS h)⟩
 | n+1=>
  have H:=E9 G Sp n
  have hk:=To n
  {c:=⟨(fun cx F Γ g e c hc σ K h=>P9 G H.c hk F g (GS hc).1 h),(fun cx F Γ g e c hc σ K h=>WE G H.c hk F g hc h),(fun Γ e c hc=>(GS hc).2.1),(fun Γ e c hc=>(GS hc).2.2)⟩
   s:=fun cx F g b cs hc σ K h=>M5 G H hk F g b cs σ K (fun st _=>Sp st) hc h
   ca:=fun cx F g x px i elt gens scope p pos c hsw hi hc σ Q h=>KC G H.c F g hsw hi (GS hc).1 h }
end
noncomputable abbrev pw:=PySem.Challenge.pw_pq0943_01
noncomputable def AP(i:Nat):Stmt:=pw.main.body.getD i (.Pass default)
noncomputable def A8:Stmt->List Stmt
 | .FunctionDef _ _ body ..=>body
 | _=>[]
noncomputable def BA:Stmt->Scope
 | .FunctionDef _ _ _ _ _ _ sc ..=>sc
 | _=>default
noncomputable abbrev AB(s:String):Str:=Str.ofString s
noncomputable def BR:Stmt->Arguments
 | .FunctionDef _ p ..=>p
 | _=>⟨[],[],none,[],[],none,[]⟩
theorem Fy{n:Str}{v:Value}:∀ {names:List Str} {vals:List Value},names.Nodup->(n,v)∈names.zip vals->(names.zip vals).lookup n=some v
 | [],_,_,h=>by simp at h
 | _::_,[],_,h=>by simp at h
 | m::names,u::vals,nd,h=>by
  simp only [List.nodup_cons] at nd
  simp only [List.zip_cons_cons,List.mem_cons,Prod.mk.injEq] at h
  rcases h with ⟨rfl,rfl⟩ | h
  ·simp [List.lookup_cons]
  ·have:n≠m:=fun e=>nd.1 (e▸(List.of_mem_zip h).1)
   have e':(n==m)=false:=by simpa using this
   simp only [List.zip_cons_cons,List.lookup_cons,e']
   exact Fy nd.2 h
theorem Tp(f:Str->Option Value):∀ (names:List Str) (vals:List Value),names.length=vals.length->(∀ x∈names.zip vals,f x.1=some x.2)->(names.filterMap fun n=>(f n).map (n,·))=names.zip vals
 | [],_,_,_=>by simp
 | n::names,[],h,_=>by simp at h
 | n::names,v::vals,h,hf=>by
  have h1:=hf (n,v) (by exact List.Mem.head _)
  simp only at h1
  (refine AA List.filterMap_cons ?_;refine AA h1 ?_)
  simp only [Option.map_some,List.zip_cons_cons]
  (refine AA (Tp f names vals (by simpa using h) fun x hx=>hf x (by simp [hx])) ?_;rfl)
theorem M6{n:Str}:∀ {names:List Str} {vals:List Value},names.length=vals.length->n∈names->∃ v,(n,v)∈names.zip vals
 | [],_,_,h=>by simp at h
 | m::names,[],h,_=>by simp at h
 | m::names,v::vals,h,hn=>by
  rcases pj.mp hn with rfl | hn
  ·exact⟨v,by exact List.Mem.head _⟩
  ·(refine AI (M6 (vals:=vals) (by simpa using h) hn) ?_;rintro u hu)
   exact⟨u,by simp [hu]⟩
noncomputable def pv_law_sets:PV:=.tup [.tup [.str [117,115,45,97,115,99,105,105,32,97,115,99,105,105,32,105,115,111,45,105,114,45,54,32,99,112,51,54,55],.tup [.tup [.str [97],.bytes [97]],.tup [.str [90],.bytes [90]],.tup [.str [55],.bytes [55]],.tup [.str [32],.bytes [32]],.tup [.str [95],.bytes [95]],.tup [.str [63],.bytes [63]],.tup [.str [61],.bytes [61]],.tup [.str [44],.bytes [44]]]],.tup [.str [105,115,111,45,56,56,53,57,45,49,32,108,97,116,105,110,49,32,108,49,32,105,98,109,56,49,57],.tup [.tup [.str [98],.bytes [98]],.tup [.str [89],.bytes [89]],.tup [.str [51],.bytes [51]],.tup [.str [32],.bytes [32]],.tup [.str [95],.bytes [95]],.tup [.str [34],.bytes [34]],.tup [.str [233],.bytes [233]],.tup [.str [255],.bytes [255]]]],.tup [.str [117,116,102,45,56,32,117,116,102,56,32,85,116,102,45,56,32,117,84,70,56],.tup [.tup [.str [99],.bytes [99]],.tup [.str [88],.bytes [88]],.tup [.str [32],.bytes [32]],.tup [.str [40],.bytes [40]],.tup [.str [233],.bytes [195,169]],.tup [.str [26085],.bytes [230,151,165]],.tup [.str [128236],.bytes [240,159,147,172]],.tup [.str [61],.bytes [61]]]]]
noncomputable def gvl:List (Str×PV):=[(AB "worth_table",.fn (AB "worth_table")),
 (AB "group_octets",.fn (AB "group_octets")),
 (AB "decoded",.fn (AB "decoded")),
 (AB "lower_code",.fn (AB "lower_code")),
 (AB "lower_text",.fn (AB "lower_text")),
 (AB "charset_names",.fn (AB "charset_names")),
 (AB "charset_name",.fn (AB "charset_name")),
 (AB "need_charset",.fn (AB "need_charset")),
 (AB "follower_span",.fn (AB "follower_span")),
 (AB "utf8_sign",.fn (AB "utf8_sign")),
 (AB "sign_at",.fn (AB "sign_at")),
 (AB "text_in",.fn (AB "text_in")),
 (AB "strict_text",.fn (AB "strict_text")),
 (AB "guessed_text",.fn (AB "guessed_text")),
 (AB "hex_worth",.fn (AB "hex_worth")),
 (AB "quoted_at",.fn (AB "quoted_at")),
 (AB "unquoted",.fn (AB "unquoted")),
 (AB "word_q_decoded",.fn (AB "word_q_decoded")),
 (AB "is_word_sign",.fn (AB "is_word_sign")),
 (AB "part_end",.fn (AB "part_end")),
 (AB "word_parts",.fn (AB "word_parts")),
 (AB "is_apart",.fn (AB "is_apart")),
 (AB "plain_text",.fn (AB "plain_text")),
 (AB "word_at",.fn (AB "word_at")),
 (AB "pieces_of",.fn (AB "pieces_of")),
 (AB "all_white",.fn (AB "all_white")),
 (AB "decoded_words",.fn (AB "decoded_words")),
 (AB "line_at",.fn (AB "line_at")),
 (AB "is_name",.fn (AB "is_name")),
 (AB "colon_in",.fn (AB "colon_in")),
 (AB "read_spans",.fn (AB "read_spans")),
 (AB "read_fields",.fn (AB "read_fields")),
 (AB "rows_of",.fn (AB "rows_of")),
 (AB "unfolded",.fn (AB "unfolded")),
 (AB "first_body",.fn (AB "first_body")),
 (AB "_law_purse",.fn (AB "_law_purse")),
 (AB "_law_coin",.fn (AB "_law_coin")),
 (AB "_law_sixes",.fn (AB "_law_sixes")),
 (AB "_law_figured",.fn (AB "_law_figured")),
 (AB "_law_word",.fn (AB "_law_word")),
 (AB "_law_guessed",.fn (AB "_law_guessed")),
 (AB "_law_joined",.fn (AB "_law_joined")),
 (AB "law",.fn (AB "law")),
 (AB "SIGNS",.bytes [65,66,67,68,69,70,71,72,73,74,75,76,77,78,79,80,81,82,83,84,85,86,87,88,89,90,97,98,99,100,101,102,103,104,105,106,107,108,109,110,111,112,113,114,115,116,117,118,119,120,121,122,48,49,50,51,52,53,54,55,56,57,43,47]),
 (AB "PAD",.int 61),
 (AB "ASCII",.str [117,115,45,97,115,99,105,105]),
 (AB "LATIN",.str [105,115,111,45,56,56,53,57,45,49]),
 (AB "UTF8",.str [117,116,102,45,56]),
 (AB "CHARSETS",.tup [.str [117,115,45,97,115,99,105,105],.str [105,115,111,45,56,56,53,57,45,49],.str [117,116,102,45,56]]),
 (AB "UNKNOWN_SIGN",.str [65533]),
 (AB "EQUALS",.int 61),
 (AB "BLANK",.int 32),
 (AB "UNDERLINE",.int 95),
 (AB "WHITE_words",.tup [.int 9,.int 10,.int 13,.int 32]),
 (AB "OPENING",.int 40),
 (AB "CLOSING",.int 41),
 (AB "WAYS",.tup [.str [81],.str [66]]),
 (AB "WHITE_headers",.tup [.int 32,.int 9]),
 (AB "_law_sets",pv_law_sets),
 (AB "_law_gaps",.tup [.bytes [32],.bytes [9],.bytes [32,32],.bytes [32,9,32],.bytes [13,10,32],.bytes [32,13,10,9],.bytes [13,10,32,13,10,32],.bytes [10,32],.bytes [],.bytes [44],.bytes [34],.bytes [40],.bytes [41],.bytes [32,40],.bytes [41,32],.bytes [41,40],.bytes [32,44,32],.bytes [44,32],.bytes [32,34],.bytes [32,11,32],.bytes [32,160,32],.bytes [32,120,32],.bytes [32,13,32]]),
 (AB "_law_plains",.tup [.bytes [120],.bytes [112,108,46],.bytes [195,169],.bytes [233],.bytes [97,61,98],.bytes [61,63],.bytes [63,61],.bytes [121,233,195,169]]),
 (AB "_law_sixty",.bytes [65,66,67,68,69,70,71,72,73,74,75,76,77,78,79,80,81,82,83,84,85,86,87,88,89,90,97,98,99,100,101,102,103,104,105,106,107,108,109,110,111,112,113,114,115,116,117,118,119,120,121,122,48,49,50,51,52,53,54,55,56,57,43,47]),
 (AB "_law_white",.bytes [32,9,13,10]),
 (AB "Field",.kls (AB "Field")),
 (AB "chr",.bi "chr"),
 (AB "ord",.bi "ord"),
 (AB "len",.bi "len"),
 (AB "abs",.bi "abs"),
 (AB "max",.bi "max"),
 (AB "sum",.bi "sum"),
 (AB "int",.ty "int"),
 (AB "bytes",.ty "bytes"),
 (AB "list",.ty "list"),
 (AB "range",.ty "range"),
 (AB "zip",.ty "zip"),
 (AB "enumerate",.ty "enumerate"),
 (AB "dict",.ty "dict")]
noncomputable def gv(x:Str):Option PV:=gvl.lookup x
noncomputable def Tq(sc:Scope):List Str:=(sc.names.filter fun x=>x.2==.local||x.2==.cell).map (·.1)
noncomputable def OV:Stmt->List Str
 | .FunctionDef _ args ..=>args.args.map (·.arg)
 | _=>[]
noncomputable def namesOf(st:Stmt):List Str:=OV st ++ (Tq (BA st)).filter fun x=>!(OV st).contains x
noncomputable def Ej(own:List Str)(hk:Stmt->Option Nat)(st:Stmt):Ge:=⟨namesOf st,own,BA st,gv,hk⟩
noncomputable def codeOf(own:List Str)(hk:Stmt->Option Nat)(st:Stmt):Option (List CS):=FU 30 (Ej own hk st) (A8 st)
end Mine.Lake
set_option backward.match.sparseCases true
set_option maxHeartbeats 4000000
namespace Mine.Lake
structure QA(C:Al)(a:Addr)(fd:FuncData)(body:List Stmt):Prop where
 obj:∃ o,C.base.get? a=some o/\o.data=.func fd
 code:C.base.CodeRec fd.code fd.qualname
 body:fd.body=.stmts body
 clo:fd.closure=[]
 gl:fd.globals=mainGlobals
 bu:fd.builtins=builtinsNs
 kind:fd.scope.kind=.function
 co:fd.scope.isCoroutine=false
 ge:fd.scope.isGenerator=false
section
theorem Kn{x:Str}:∀ (bs:List (Str×Value)) (m:Str->Option Value),(∀ b∈bs,b.1≠x)->bindL k bs m x=m x
 | [],m,_=>rfl
 | (n,v)::bs,m,h=>by
  (refine AA (Kn bs _ fun b hb=>h b (by simp [hb])) ?_)
  have:x≠n:=fun e=>h (n,v) (List.Mem.head _) e.symm
  split<;>(first | exact pH this | rfl | rfl)
theorem Ko:∀ (bs:List (Str×Value)) (m:Str->Option Value),(∀ b∈bs,b.1≠x)->bindC k bs m x=m x
 | [],m,_=>rfl
 | (n,v)::bs,m,h=>by
  (refine AA (Ko bs _ fun b hb=>h b (by simp [hb])) ?_)
  have:x≠n:=fun e=>h (n,v) (List.Mem.head _) e.symm
  split<;>(first | rfl | exact pH this | rfl)
theorem QB{x:Str}{v:Value}:∀ (bs:List (Str×Value)) (m c:Str->Option Value),(bs.map (·.1)).Nodup->bs.lookup x=some v->(k x=some .local->bindL k bs m x=some v)/\(k x≠some .local->bindC k bs c x=some v)
 | [],_,_,_,h=>by trivial
 | (n,u)::bs,m,c,nd,h=>by
  simp only [List.map_cons,List.nodup_cons,List.mem_map,not_exists,not_and] at nd
  simp only [List.lookup_cons] at h
  split at h
  ·rename_i e
   (refine sI h ?_;clear h;intro zz;induction zz)
   have:x=n:=by simpa using e
   subst this
   have hn:=fun b hb=>nd.1 b hb
   exact⟨fun hk=>by(refine AA (Kn bs _ hn) ?_;rewrite [if_pos hk]);simp,fun hk=>by(refine AA (Ko bs _ hn) ?_;rewrite [if_neg hk]);simp⟩
  ·exact QB bs _ _ nd.2 h
theorem Kp{α:Type}:∀ {names:List Str} {vs:List α},names.length=vs.length->(names.zip vs).map (·.1)=names
 | [],_,_=>by rfl
 | n::names,[],h=>by trivial
 | n::names,v::vs,h=>by simp [Kp (by simpa using h)]
theorem FA:∀ (names:List (Str×NameKind)) (n:Nat) (acc:List (Str×Addr)),(names.lookup x=some .cell∨∃ c,acc.lookup x=some c)->∃ c,(cellsFrom n names acc).lookup x=some c
 | [],_,acc,h=>by
  rcases h with h | h
  ·trivial
  ·exact h
 | (y,k)::names,n,acc,h=>by
  unfold cellsFrom
  split
  ·refine FA names (n+1) _ ?_
   by_cases e:x=y
   ·subst e;exact .inr ⟨n,by simp [List.lookup_cons]⟩
   ·have e':(x==y)=false:=by simpa using e
    rcases h with h | ⟨c,h⟩
    ·simp only [List.lookup_cons,e'] at h;exact .inl h
    ·exact .inr ⟨c,by simp only [List.lookup_cons,e'];exact h⟩
  ·refine FA names n acc ?_
   rcases h with h | h
   ·simp only [List.lookup_cons] at h
    split at h
    ·(refine sI h ?_;clear h;intro zz;subst zz);trivial
    ·exact .inl h
   ·exact .inr h
end
noncomputable def M7(names:List Str)(vals dfl:List Value):Option (List (Str×Value)):=
 Bk (!decide (vals.length > names.length)&&((names.take (names.length - (dfl.drop (dfl.length - names.length)).length)).filter fun n=>((names.zip vals).lookup n).isNone).isEmpty)
  (some (names.filterMap fun n=>((((names.drop (names.length - (dfl.drop (dfl.length - names.length)).length)).zip (dfl.drop (dfl.length - names.length))).foldl (fun sl x=>if (sl.lookup x.1).isNone then sl ++ [x] else sl) (names.zip vals)).lookup n).map (n,·)))
theorem Tr:∀ (l:List (Str×Value)) (sl:List (Str×Value)),(forIn l sl fun x s=>if (s.lookup x.1).isNone=true then pure (ForInStep.yield (s ++ [(x.1,x.2)])) else pure (ForInStep.yield s):Sem (List (Str×Value)))=pure (l.foldl (fun sl x=>if (sl.lookup x.1).isNone then sl ++ [x] else sl) sl):=by
 intro rx
 induction rx with
 | nil=>
  exact fun _=>rfl
 | cons x l ih=>
  exact fun sl=>by
   (rewrite [List.forIn_cons];refine AA List.foldl_cons ?_)
   by_cases h:(sl.lookup x.1).isNone=true
   ·(refine AA (pO h) ?_;refine AA (pO h) ?_;rewrite [pure_bind])
    exact ih _
   ·(refine AA (pH h) ?_;refine AA (pH h) ?_;rewrite [pure_bind])
    exact ih _
theorem JT{names:List Str}{vals dfl:List Value}(hp:fd.params=⟨[],as,none,[],[],none,dd⟩)(hn:as.map (·.arg)=names)(hd:∀ (M:Model) (A:Around) (Q:Option (Array Value)->Shared->Prop) E,(∀ o,(o.getD #[]).toList=dfl->Q o s)->wpAny M A (seqItems? fd.defaults) Q E s)(h:M7 names vals dfl=some bs):BindsTo s fd ⟨vals,[]⟩ bs:=fun M A E Q hq=>by
 (refine AM (A2 h) ?_;rintro hb e)
 (refine sI e ?_;clear e;intro zz;induction zz)
 rw [Bool.and_eq_true,Bool.not_eq_true'] at hb
 (have h1:=hb.1;have h2:=hb.2;clear hb)
 delta bindArgs
 (refine AA hp ?_)
 dsimp only
 (refine AA hn ?_;refine AA List.forIn_nil ?_)
 refine oq (o6 (oq (hd _ _ _ _ fun o ho=>?_)))
 (refine AA ho ?_;refine AA h1 ?_;refine AA (pH (by decide)) ?_;refine AA h2 ?_;refine AA (pH (by decide)) ?_)
 (refine AA (Tr ..:) ?_)
 (refine AA (qH ..:) ?_)
 exact o6 hq
theorem Kq{vals dfl:List Value}(nd:names.Nodup)(hl:vals.length=names.length):M7 names vals dfl=some (names.zip vals):=by
 have h1:∀ n∈names,∃ v,(names.zip vals).lookup n=some v:=fun n hn=>(by(refine AI (M6 hl.symm hn) ?_;rintro v hv);exact⟨v,Fy nd hv⟩)
 have h2:∀ k,((names.take k).filter fun n=>((names.zip vals).lookup n).isNone)=[]:=fun k=>List.filter_eq_nil_iff.mpr fun n hn=>by
  (refine AI (h1 n (List.mem_of_mem_take hn)) ?_;rintro v e)
  (refine AA e ?_);exact Bool.false_ne_true
 have h3:∀ l:List (Str×Value),(∀ x∈l,x.1∈names)->l.foldl (fun sl x=>if (sl.lookup x.1).isNone then sl ++ [x] else sl) (names.zip vals)=names.zip vals:=fun l=>by
  induction l with
  | nil=>exact fun _=>rfl
  | cons x l ih=>
   intro h
   (refine AI (h1 x.1 (h x (.head _))) ?_;rintro v e)
   (refine AA List.foldl_cons ?_;refine AA e ?_)
   exact ih fun y hy=>h y (.tail _ hy)
 delta M7
 (refine AA (h2 ..:) ?_;refine AA (h3 _ fun x hx=>qD (List.of_mem_zip hx).1) ?_;refine AA hl ?_;refine AA (qg (Nat.lt_irrefl _)) ?_)
 exact congrArg some (Tp _ _ _ hl.symm fun x hx=>Fy nd hx)
section
variable{prog:Program}{w:World}{A:Around}{s:Shared}
theorem cO{R:Result->Shared->Prop}{vals:List Value}(hroom:A.depth<recursionLimit)(ho:s.heap.get? a=some o)(hdata:o.data=.func fd)(hlim:s.heap.NoLimit)(hcd:s.heap.CodeRec fd.code fd.qualname)(hbody:fd.body=.stmts body)(hbind:BindsTo s fd ⟨vals,[]⟩ binds)(hclo:fd.closure=[])(hkind:∀ x∈binds,fd.scope.names.lookup x.1=some .local∨(fd.scope.names.lookup x.1=some .cell/\((cellsFrom (s.heap.objs.size+1) fd.scope.names []).lookup x.1).isSome=true))(h:∀ s₁,InCallC s (callEnvC fd s.heap.objs.size a).locals (bindL (callEnvC fd s.heap.objs.size a).kindOf binds fun _=>none) (callEnvC fd s.heap.objs.size a).cells
    (bindC (callEnvC fd s.heap.objs.size a).kindOf binds fun _=>none) s₁->
   wpAny (model prog w) (A.deeper (callEnvC fd s.heap.objs.size a)) (execs body (callEnvC fd s.heap.objs.size a)) (fun f s'=>R (.ok (.ret (match f with | .ret v=>v | _=>.none))) s')
    (fun e s'=>wpAny (model prog w) (A.deeper (callEnvC fd s.heap.objs.size a)) (leaving (callEnvC fd s.heap.objs.size a) e) (fun _ s''=>R (.error e) s'') (fun e' s''=>R (.error e') s'') s') s₁)(hco:fd.scope.isCoroutine=false)(hgen:fd.scope.isGenerator=false)(hk:fd.scope.kind=.function):
  codeAny (model prog w) A (.call (.ref a) ⟨vals,[]⟩) R s:=by
 refine codeAny_call_function hroom ho hdata hco hgen hbody hcd (hbind _ _ _ _ ?_)
 (refine AA hclo ?_)
 refine wpAny_newFunctionEnv_cells hk hkind fun env he s' x=>?_
 subst he
 exact⟨hlim.keeps x.toInCall.keep,codeAny_func (h s' x)⟩
end
section
variable{C:Al}{hn:Bool}{d:Nat}{A:Around}{s:Shared}{E:Value->Shared->Prop}{X:Addr->Prop}
theorem QC{l:List PV}{n i:Nat}(h:(l.map Slot.fr ++ List.replicate n .un)[i]?=some sl):sl=.un∨∃ p,sl=.fr p/\l[i]?=some p:=by
 by_cases q:i<l.length
 ·(rewrite [List.getElem?_append_left (by(refine AA (List.length_map ..:) ?_);exact q)] at h;replace h:=(qB)▸h)
  (refine AE (Ad h) ?_;rintro p h1 h2)
  exact .inr ⟨p,h2.symm,h1⟩
 ·rw [List.getElem?_append_right (by(refine AA (List.length_map ..:) ?_);exact Nat.le_of_not_lt q)] at h
  exact .inl (List.eq_of_mem_replicate (qE h))
theorem Ts:∀ {names:List Str} {vs:List Value} {i:Nat},names.Nodup->names[i]?=some x->vs[i]?=some v->(names.zip vs).lookup x=some v
 | [],_,_,_,h,_=>(nS h)
 | _::_,[],_,_,_,h=>(nS h)
 | n::names,u::vs,0,_,h1,h2=>by
  (refine sI h1 ?_;clear h1;intro zz;induction zz);(refine sI h2 ?_;clear h2;intro zz;induction zz)
  (refine AA List.lookup_cons ?_;rewrite [beq_self_eq_true];rfl)
 | n::names,u::vs,i+1,nd,h1,h2=>by
  (refine AA List.lookup_cons ?_;refine AA (qT.mpr fun e:x=n=>(List.nodup_cons.mp nd).1 (e▸qE h1)) ?_)
  exact Ts (List.nodup_cons.mp nd).2 h1 h2
noncomputable abbrev Dk(C:Al)(env:Env)(X:Addr->Prop)(fr:List Env)(hn:Bool)(d:Nat)(h:Heap)(ν:Pu)(nm:List Str):Cx:=⟨C,env,X,env::fr,hn,d,h,inP ν,fun _=>true,nm⟩
structure Hh(C:Al)(A:Around)(X:Addr->Prop)(fr:List Env)(hn:Bool)(d:Nat)(s:Shared)(ν:Pu)(sc:Scope)(nm:List Str)(vars:List Slot)(env:Env)(s₁:Shared):Prop where
 r:R (Dk C env X fr hn d s.heap ν nm) (fun _=>none) ⟨vars,ν⟩ s₁
 ha:EC (Dk C env X fr hn d s.heap ν nm) (A.deeper env)
 sc:cF sc (Dk C env X fr hn d s.heap ν nm)
 fr:env.frame=some env.locals
 loc:s.heap.get? env.locals=none
 cells:∀ n c,env.cells.lookup n=some c->s.heap.get? c=none
 sh:∃ h tk,s₁={ s with heap:=h,toks:=tk }
 keep:∀ b o,s.heap.get? b=some o->s₁.heap.get? b=some o
structure Cz(C:Al)(A:Around)(hn:Bool)(d:Nat)(fr:List Env)(X:Addr->Prop)(ν:Pu)(s:Shared):Prop where
 a1:A.frames=some fr
 a2:B2 A (inP ν) s.heap
 a3:hn=true->A.handled=none
 a4:A.depth+d<recursionLimit
 a5:A.units+10*d+10<cLine
 a6:C.base.StaysIn s.heap
 a7:Jx C.base fr s.heap
 a8:∀ b,inF fr b->X b
 a9:Ah ν X s.heap
 a10:∀ b∈pa ν,C.base.get? b=none
 a11:∀ a,X a->(∃ o,s.heap.get? a=some o)/\C.base.get? a=none
theorem Ek{env:Env}(hf:env.frame=some env.locals)(h:inF (env::fr) b):inF fr b∨b=env.locals:=by
 (rewrite [inF] at h;rewrite [List.filterMap_cons] at h;replace h:=(hf)▸h)
 cases h with
 | head=>exact .inr rfl
 | tail _ h=>exact .inl h
theorem begun{names:List Str}{nm:List Str}{env:Env}(I:Cz C A hn (d+1) fr X ν s)(hv:AF C s.heap X l vs)(henv:XJ env)(hnd:nm.Nodup)(hnm:∀ (i:Nat) (x:Str),i<l.length->names[i]?=some x->nm[i]?=some x)(hlen:l.length=names.length)(hfrm:env.frame=some env.locals)(hsc:sc=env.scope)(x:InCallC s env.locals m env.cells cm s₁)(hL:∀ n c,env.cells.lookup n=some c->s.heap.get? c=none)(hL0:s.heap.get? env.locals=none)(hcl:∀ n,env.scope.names.lookup n=some .cell->∃ c,env.cells.lookup n=some c)(hm:∀ (i:Nat) (n:Str) (v:Value),names[i]?=some n->vs[i]?=some v->n ≠ "__classdict__" /\ ((env.kindOf n=some .local/\m n=some v)∨(env.kindOf n=some .cell/\cm n=some v))):
  Hh C A X fr hn d s ν sc nm (l.map .fr ++ List.replicate n .un) env s₁:=by
 have bnone:∀ b,s.heap.get? b=none->C.base.get? b=none:=fun b e=>dead I.a6 e
 (refine Bm x.toInCall.same ?_;rintro h₁ tk₁ e)
 subst e
 have kk:=x.toInCall.keep
 refine⟨?_,?_,fun n k hk _=>?_,hfrm,hL0,hL,⟨h₁,tk₁,rfl⟩,kk⟩
 ·exact {
  stays:=fun b o e=>kk b o (I.a6 b o e)
  env:=henv
  nd:=hnd
  ns:=⟨_,x.toInCall.ns⟩
  nsNew:=⟨bnone _ hL0,hL0⟩
  cells:=fun n c hc=>⟨⟨_,x.cell n c hc⟩,bnone _ (hL n c hc),hL n c hc⟩
  fr:=fun i p hp=>by
   rcases QC hp with e | ⟨p',e,hi⟩
   ·injection e
   ·(injection e with z1;induction z1)
    (refine AE (hv.get i hi) ?_;rintro v hv1 rv)
    have hlt:=(qM.mp hi).1
    obtain ⟨y,hy⟩:∃ y,names[i]?=some y:=⟨_,o8 (hlen▸hlt)⟩
    refine⟨v,⟨y,hnm i y hlt hy,?_⟩,AJ.move (KX.of_keeps kk:KX Ax Ax s.heap h₁) (fun _ q=>q.elim) (fun _ q=>q.elim) (fun b q=>?_) _ _ rv⟩
    ·(refine AM (hm i y v hy hv1) ?_;rintro nc (⟨k1,k2⟩ | ⟨k1,k2⟩))
     ·exact .inl ⟨k1,_,x.toInCall.ns,k2⟩
     ·(refine AI (hcl y k1) ?_;rintro c hc)
      exact .inr ⟨.inl k1,nc,c,hc,k2▸x.cell y c hc⟩
    ·rcases q with q | ⟨_,q⟩ | q | ⟨y,q⟩
     ·exact .inl q
     ·exact nS q
     ·exact .inr (q▸hL0)
     ·exact .inr (hL y b q)
  ow:=fun i l' hp=>by
   rcases QC hp with e | ⟨p',e,hi⟩<;>cases e
  oinj:=fun _ _ _ h=>(nS h)
  oNew:=fun _ _ h=>(nS h)
  oIn:=fun _ _ h=>(nS h)
  frames:=fun e he=>by
   cases he with
   | head=>
    (refine IY x.toInCall.ns ?_;rintro o es ep e1 e2 _)
    exact⟨by(refine AA henv.kind ?_);decide,_,o,hfrm,bnone _ hL0,e1,fun vs q=>by(replace q:=(e2)▸q);injection q⟩
   | tail _ he=>
    obtain ⟨hk,L,o,e1,e2,e3,e4⟩:=I.a7 e he
    exact⟨hk,L,o,e1,e2,kk _ _ e3,e4⟩
  fX:=fun b hb=>(Ek hfrm hb).imp (I.a8 b) id
  purse:=I.a9.move (KX.of_keeps kk:KX Ax Ax s.heap h₁) (fun _ _ q=>q) fun _ q=>q
  pNew:=fun b hb=>⟨I.a10 b hb,.inl hb⟩
  ent:=KX.of_keeps kk
  xIn:=fun a ha=>⟨(by(refine AI ((I.a11 a ha).1) ?_;rintro o e);exact⟨o,kk a o e⟩),(I.a11 a ha).2⟩
  heIn:=fun b o e=>⟨o,kk b o e⟩ }
 ·exact {
  frames:=by refine(?_:A.frames.map (env::·)=_);(refine AA I.a1 ?_);rfl
  hand:=I.a2
  hn:=I.a3
  depth:=by have:=I.a4;refine(?_:A.depth+1+d<_);exact pq fun q=>nl (FO recursionLimit A.depth d) ⟨false,(nP Ae (nW (nP Ag (nW BK)))),(nP (nP (nW Ag) BK) Ae)⟩ rfl (o7 q (qO this))
  units:=by have:=I.a5;refine(?_:A.units+3+10*d+10<_);exact pq fun q=>nl (FO cLine A.units d) ⟨false,(nP Ae (nW (nP (nP Ag (nM 10 (nW BK))) (nK 10)))),(nP (nP (nP (nP Ag (nK 3)) (nM 10 BK)) (nK 10)) Ae)⟩ rfl (o7 q (qO this)) }
 ·(replace hk:=(hsc)▸hk)
  exact⟨hk,fun e=>⟨rfl,hcl n (e▸hk)⟩⟩
theorem Hh.leave{ν:Pu}{fr:List Env}{sc:Scope}{nm:List Str}{vars:List Slot}(B:Hh C A X fr hn d s ν sc nm vars env s₁)(p:Aj (Dk C env X fr hn d s.heap ν nm) (fun _=>none) ⟨vars,ν⟩ s₁ O' σ' s'):
  AG C (inP ν) (inF fr) s s'/\Ah σ'.purse X s'.heap/\pa σ'.purse=pa ν:=by
 (refine Bm B.sh ?_;rintro h1 t1 e1)
 (refine Bm p.sh ?_;rintro h' t' e')
 have kx2:KX (inP ν) (inF fr) s.heap s'.heap:=(KX.of_keeps B.keep).trans_news p.kx (fun b q=>by
  rcases q with q | ⟨_,q⟩ | q | ⟨y,_,q⟩
  ·exact .inl q
  ·exact nS q
  ·exact .inr (by(refine AA (show b=env.locals from q) ?_);exact B.loc)
  ·exact .inr (B.cells y b q)) fun b hb=>(Ek B.fr hb).imp id fun q=>by(refine AA q ?_);exact B.loc
 subst e1
 subst e'
 exact⟨⟨h',t',rfl,kx2,fun _=>p.r.stays⟩,p.r.purse,p.pa⟩
noncomputable def JU(p:Arguments):Bool:=p.posonlyargs.isEmpty&&(p.vararg.isNone&&(p.kwonlyargs.isEmpty&&(p.kw_defaults.isEmpty&&p.kwarg.isNone)))
theorem G7(h:JU p=true):p=⟨[],p.args,none,[],[],none,p.defaults⟩:=by
 delta JU at h
 rw [Bool.and_eq_true,Bool.and_eq_true,Bool.and_eq_true,Bool.and_eq_true,List.isEmpty_iff,List.isEmpty_iff,List.isEmpty_iff,Option.isNone_iff_eq_none,Option.isNone_iff_eq_none] at h
 (refine Ho h ?_;clear h;rintro a b c d e)
 cases p
 subst a;subst b;subst c;subst d;subst e
 rfl
noncomputable def Am(st:Stmt):List Str:=(BR st).args.map (·.arg)
noncomputable def Tt(st:Stmt):Bool:=JU (BR st)&&(Gx (namesOf st)&&((Am st==OV st)&&(Am st).all fun n=>EY (BA st) n))
structure Tu(C:Al)(a:Addr)(st:Stmt)(l l':List PV)(fd:FuncData):Prop where
 at_:QA C a fd (A8 st)
 sc:fd.scope=BA st
 bind:∀ (s:Shared) (X:Addr->Prop) (vs:List Value),C.base.StaysIn s.heap->AF C s.heap X l vs->∃ vs',AF C s.heap X l' vs'/\BindsTo s fd ⟨vs,[]⟩ ((Am st).zip vs')
theorem Yt{l r:List Str}{i:Nat}(h:l[i]?=some x):(l ++ r)[i]?=some x:=by
 (refine AA (List.getElem?_append_left (qM.mp h).1) ?_);exact h
theorem B6{gv:Str->Option PV}(G:EE C gv){st:Stmt}{K:Value->Shared->Prop}(D:Tu C a st l l' fd)(hq:Tt st=true)(hlen:l'.length=(Am st).length)(I:Cz C A hn (d+1) fr X ν s)(hv:AF C s.heap X l vs)(h:∀ env s₁,Hh C A X fr hn d s ν (BA st) (namesOf st) (l'.map .fr ++ List.replicate n .un) env s₁->wpAny (model C.prog C.w) (A.deeper env) (execs (A8 st) env) (fun f s'=>K (match f with | .ret v=>v | _=>.none) s')
   (fun e s'=>wpAny (model C.prog C.w) (A.deeper env) (leaving env e) (fun _ s''=>E e s'') (fun e' s''=>E e' s'') s') s₁):
  wpAny (model C.prog C.w) A (call (.ref a) vs) K E s:=by
 delta Tt at hq
 rw [Bool.and_eq_true,Bool.and_eq_true,Bool.and_eq_true,beq_iff_eq,List.all_eq_true] at hq
 (have hnd:=hq.2.1;have ha:=hq.2.2.1;have hloc:=hq.2.2.2;clear hq)
 have hnd:=G6 hnd
 obtain ⟨r,hnm⟩:∃ r,namesOf st=Am st ++ r:=⟨_,by(refine AA ha ?_);rfl⟩
 have hand:(Am st).Nodup:=by rw [hnm] at hnd;exact(List.nodup_append.mp hnd).1
 have hkind:∀ x∈Am st,x ≠ "__classdict__" /\ (fd.scope.names.lookup x=some .local∨fd.scope.names.lookup x=some .cell):=fun x hx=>by
  have:=hloc x hx
  unfold EY at this
  rw [Bool.and_eq_true,Bool.or_eq_true,beq_iff_eq,beq_iff_eq,bne_iff_ne] at this
  (refine AA D.sc ?_)
  exact this
 (refine AE D.at_.obj ?_;rintro o ho hda)
 (refine AE (D.bind s X vs I.a6 hv) ?_;rintro vs' hv' hb)
 refine wpAny_call (cO (Nat.lt_of_add_right_lt (I.a4)) (I.a6 a o ho) hda (G.nolimit.keeps I.a6) (D.at_.code.keeps I.a6) D.at_.body hb D.at_.clo (fun x hx=>(hkind x.1 (List.of_mem_zip hx).1).2.imp id fun e=>⟨e,?_⟩) (fun s₁ x=>?_) D.at_.co D.at_.ge D.at_.kind)
 ·(refine AI (FA fd.scope.names (s.heap.objs.size+1) [] (.inl e)) ?_;rintro c hc)
  (refine AA hc ?_);rfl
 ·refine h (callEnvC fd s.heap.objs.size a) s₁ (begun I hv' ⟨D.at_.kind,D.at_.gl,D.at_.bu,fun y z c h1 h2=>name_of_addr x.apart (mem_lookup h1) (mem_lookup h2)⟩ hnd (fun i y _ hy=>by(refine AA hnm ?_);exact Yt hy) hlen rfl D.sc.symm x (fun n c hc=>AH (qU (x.above n c (mem_lookup hc)))) (AH (ou _)) (fun n hn=>FA _ _ _ (.inl hn)) fun i n v hn hz=>?_)
  (refine AM (hkind n (qE hn)) ?_;rintro nc hk)
  have hnd':(((Am st).zip vs').map (·.1)).Nodup:=by(refine AA (Kp (by(refine AA (hv'.length) ?_;refine AA hlen ?_;rfl))) ?_);exact hand
  (refine AM (QB (k:=(callEnvC fd s.heap.objs.size a).kindOf) ((Am st).zip vs') (fun _=>none) (fun _=>none) hnd' (Ts hand hn hz)) ?_;rintro b1 b2)
  exact⟨nc,hk.imp (fun hk=>⟨hk,b1 hk⟩) fun hk=>⟨hk,b2 (by(refine AA (show (callEnvC fd s.heap.objs.size a).kindOf n=some .cell from hk) ?_);decide)⟩⟩
noncomputable def FN(K:PV->Pu->Prop)(o:U7)(σ':St):Prop:=match o with | .ret p=>Hr σ' (K p) | .next=>Hr σ' (K .none) | _=>False
theorem DT{st:Stmt}(B:Hh C A X fr hn d s ν (BA st) (namesOf st) vars env s₁):AU gv (Ej own hk st) (Dk C env X fr hn d s.heap ν (namesOf st)):=⟨rfl,B.sc,rfl⟩
theorem Hh.run{fr:List Env}{st:Stmt}{K:PV->Pu->Prop}(B:Hh C A X fr hn d s ν (BA st) (namesOf st) vars env s₁)(h:Fc (Dk C env X fr hn d s.heap ν (namesOf st)) m ⟨vars,ν⟩ (FN K)):
  wpAny (model C.prog C.w) (A.deeper env) m (fun f s'=>YR C fr X ν K s (match f with | .ret v=>v | _=>.none) s') E' s₁:=
 h.seq B.ha B.r fun f s' zq=>by
  obtain ⟨O',σ',o,p,hf,q⟩:=zq
  exact by
   (refine Bq (B.leave p) ?_;rintro mv pu e)
   induction o with
   | ret pv=>
    (refine AE hf ?_;clear hf;rintro v e2 rv)
    subst e2
    exact⟨pv,σ'.purse,mv,pu,e,AJ.mono (fun b q=>.inl q) rv,q⟩
   | next=>
    cases (show f=.next from hf)
    exact⟨.none,σ'.purse,mv,pu,e,rfl,q⟩
   | brk=>exact q.elim
   | cont=>exact q.elim
theorem JV(G:Jw C gv){st:Stmt}{code:List CS}{K:PV->Pu->Prop}(hD:∀ a,bX C f a->∃ fd,Tu C a st l l' fd)(hc:codeOf own hk st=some code)(hq:Tt st=true)(hlen:l'.length=(Am st).length)(Sp:WG C hn d gv (Ej own hk st) sp)(h:(Bj (AK C hn d) hn sp 30).s code ⟨l'.map .fr ++ List.replicate n .un,ν⟩ (FN K)):AK C hn (d+1) f l ν K:=by
 intro A fr X s vs E a h1 h2 h2' h3 h4 h5 h6 h6' h7 h8 h9 h10 h11
 (refine AI (hD a h11) ?_;rintro fd D)
 exact B6 G.cfg D hq hlen ⟨h1,h2,h2',h3,h4,h5,h6,h6',h7,h8,h9⟩ h10 fun env s₁ B=>B.run ((E9 G Sp 30).s _ ⟨rfl,rfl,rfl⟩ (DT B) _ code hc _ _ h)
end
end Mine.Lake
set_option backward.match.sparseCases false
namespace Mine.Lake
noncomputable def defsL:List (Str×Nat):=[(AB "worth_table",3),(AB "group_octets",4),(AB "decoded",5),(AB "lower_code",10),(AB "lower_text",11),(AB "charset_names",18),(AB "charset_name",19),(AB "need_charset",20),(AB "follower_span",21),(AB "utf8_sign",22),(AB "sign_at",23),(AB "text_in",24),(AB "strict_text",25),(AB "guessed_text",26),(AB "hex_worth",31),(AB "quoted_at",32),(AB "unquoted",33),(AB "word_q_decoded",34),(AB "is_word_sign",40),(AB "part_end",41),(AB "word_parts",42),(AB "is_apart",43),(AB "plain_text",44),(AB "word_at",45),(AB "pieces_of",46),(AB "all_white",47),(AB "decoded_words",48),(AB "line_at",52),(AB "is_name",53),(AB "colon_in",54),(AB "read_spans",55),(AB "read_fields",56),(AB "rows_of",57),(AB "unfolded",58),(AB "first_body",59),(AB "_law_purse",66),(AB "_law_coin",67),(AB "_law_sixes",68),(AB "_law_figured",69),(AB "_law_word",70),(AB "_law_guessed",71),(AB "_law_joined",72),(AB "law",73)]
noncomputable def Kr(f:Str):Option Nat:=defsL.lookup f
noncomputable def QD:Stmt->List Stmt
 | .ClassDef _ _ _ b ..=>b
 | _=>[]
noncomputable def Ar(i j:Nat):Stmt:=(QD (AP i)).getD j (.Pass default)
noncomputable def cP(C:Al)(fd:FuncData):Prop:=match fd.params.defaults with
 | []=>fd.defaults=.none
 | _::_=>∃ T o n x y,fd.defaults=.ref T/\C.base.get? T=some o/\o.data=.seq #[.int 0 x,.int (-1) y] n
noncomputable def M8(C:Al)(a:Addr)(st:Stmt):Prop:=∃ fd,QA C a fd (A8 st)/\fd.scope=BA st/\fd.params=BR st/\cP C fd
structure AX(C:Al):Prop where
 ok:Jw C gv
 defs:∀ f i,Kr f=some i->∀ a,C.mg f=some (.ref a)->M8 C a (AP i)
 word:M8 C C.wordFn (Ar 51 1)
section
variable{C:Al}{a:Addr}{st:Stmt}
theorem QE{fd:FuncData}(h:∃ T o n x y,fd.defaults=.ref T/\C.base.get? T=some o/\o.data=.seq #[.int 0 x,.int (-1) y] n)(hs:C.base.StaysIn s.heap):∃ x y,∀ (M:Model) (A:Around) (Q:Option (Array Value)->Shared->Prop) E,(∀ o,(o.getD #[]).toList=[.int 0 x,.int (-1) y]->Q o s)->wpAny M A (seqItems? fd.defaults) Q E s:=by
 obtain ⟨T,o,n,x,y,h,ho,hd⟩:=h
 exact⟨x,y,fun M A Q E hQ=>by(refine AA h ?_);exact wpAny_seqItems (hs _ _ ho) hd (hQ _ rfl)⟩
theorem Tv(h:cP C fd)(hs:C.base.StaysIn s.heap):∃ dfl,∀ (M:Model) (A:Around) (Q:Option (Array Value)->Shared->Prop) E,(∀ o,(o.getD #[]).toList=dfl->Q o s)->wpAny M A (seqItems? fd.defaults) Q E s:=by
 delta cP at h
 cases e:fd.params.defaults with
 | nil=>
  rw [e] at h
  exact⟨[],fun M A Q E hQ=>by(refine AA (show fd.defaults=.none from h) ?_);exact o6 (hQ _ rfl)⟩
 | cons _ _=>
  (replace h:=(e)▸h)
  (refine Bm (QE h hs) ?_;rintro _ _ h)
  exact⟨_,h⟩
theorem M8.all(D:M8 C a st)(hq:Tt st=true)(hl:l.length=(Am st).length):∃ fd,Tu C a st l l fd:=by
 (refine FY D ?_;rintro fd D1 e1 e2 e3)
 delta Tt at hq
 rw [Bool.and_eq_true,Bool.and_eq_true,Bool.and_eq_true,beq_iff_eq] at hq
 (refine QX hq ?_;rintro hp hnd ha _)
 have hnd:=G6 hnd
 have hand:(Am st).Nodup:=by
  (replace hnd:=(show namesOf st=Am st ++ _ by(refine AA ha ?_);rfl)▸hnd)
  exact(List.nodup_append.mp hnd).1
 exact⟨fd,D1,e1,fun s X vs hs hv=>(by(refine AI (Tv e3 hs) ?_;rintro dfl hd);exact⟨vs,hv,JT (e2.trans (G7 hp)) rfl hd (Kq hand (hv.length.trans hl))⟩)⟩
theorem M8.two(D:M8 C a st)(hq:Tt st=true)(hd:(BR st).defaults.isEmpty=false)(hb:∀ v x y,M7 (Am st) [v] [.int 0 x,.int (-1) y]=some ((Am st).zip [v,.int 0 x,.int (-1) y])):∃ fd,Tu C a st [p] [p,.int 0,.int (-1)] fd:=by
 (refine FY D ?_;rintro fd D1 e1 e2 e3)
 delta Tt at hq
 rw [Bool.and_eq_true] at hq
 delta cP at e3
 (replace e3:=(e2)▸e3)
 refine⟨fd,D1,e1,fun s X vs hs hv=>?_⟩
 cases e:(BR st).defaults with
 | nil=>rw [e] at hd;exact tF hd
 | cons _ _=>
  (replace e3:=(e)▸e3)
  (refine Bm (QE e3 hs) ?_;rintro x y h)
  induction hv with | mk v us a b=>
  cases (show us=[] from b)
  exact⟨[v,.int 0 x,.int (-1) y],.mk v _ a (.mk _ _ (.mk x) (.mk _ _ (.mk y) rfl)),JT (e2.trans (G7 hq.1)) rfl h (hb v x y)⟩
end
noncomputable def Tw(e:Expr):List Expr:=match e,view e with
 | _,.ife t b o _=>[t,b,o]
 | _,.bop _ es _=>es
 | _,.cmp l _ es _=>l::es
 | _,.call f as _ _=>f::as
 | _,.attr v _ _=>[v]
 | _,.sub v i _=>[v,i]
 | _,.tup es _ _=>es
 | _,.lst es _=>es
 | _,_=>[]
noncomputable def A3(st:Stmt):Option Nat:=match st with
 | .Raise _ _ _=>some 0
 | .Assign ts _ _=>(match ts with
  | t::_=>if t.ctorIdx=21 then(if asName ((Tw t).headD t)=some "purse" then some 1 else some 2) else if t.ctorIdx=25 then(match Tw t with
    | e::_=>if e.ctorIdx=21 then some 3 else none
    | []=>none) else none
  | []=>none)
 | _=>none
noncomputable def Bg:Nat->St->KS->Prop:=fun _ _ _=>False
theorem OW{gv:Str->Option PV}{st:Stmt}:WG C hn d gv (Ej own A3 st) Bg:=fun _ _ _ _ _ _ _ _ h=>h.elim
noncomputable def W(C:Al)(hn:Bool)(d:Nat)(c:List CS)(vs:List Slot)(ν:Pu)(K:PV->Pu->Prop):Prop:=∀ G:Qj,(∀ {f l ν K},AK C hn d f l ν K->G f l ν K)->(Bj G hn Bg 30).s c ⟨vs,ν⟩ (FN K)
theorem FD{f:Str}(hi:Kr f=some i)(h:bX C f a):C.mg f=some (.ref a):=by
 rcases h with h | ⟨e,_⟩
 ·exact h
 ·subst e
  cases (show Kr "Field.word" = none from by kernel_rfl).symm.trans hi
theorem A4(Fx:AX C){code:List CS}{K:PV->Pu->Prop}(i:Nat)(own:List Str)(n:Nat)(hi:Kr f=some i)(hc:codeOf own A3 (AP i)=some code)(hq:Tt (AP i)=true)(hl:l.length=(Am (AP i)).length)(h:W C hn d code (l.map .fr ++ List.replicate n .un) ν K):AK C hn (d+1) f l ν K:=
 JV Fx.ok (fun a ha=>(Fx.defs f i hi a (FD hi ha)).all hq hl) hc hq hl OW (h _ fun h=>h)
theorem cQ(Fx:AX C){code:List CS}{K:PV->Pu->Prop}(i:Nat)(own:List Str)(n:Nat)(hi:Kr f=some i)(hc:codeOf own A3 (AP i)=some code)(hq:Tt (AP i)=true)(hd:(BR (AP i)).defaults.isEmpty=false)(hb:∀ v x y,M7 (Am (AP i)) [v] [.int 0 x,.int (-1) y]=some ((Am (AP i)).zip [v,.int 0 x,.int (-1) y]))(hl:(Am (AP i)).length=3)(h:W C hn d code ([p,.int 0,.int (-1)].map .fr ++ List.replicate n .un) ν K):AK C hn (d+1) f [p] ν K:=
 JV Fx.ok (fun a ha=>(Fx.defs f i hi a (FD hi ha)).two hq hd hb) hc hq hl.symm OW (h _ fun h=>h)
end Mine.Lake
set_option maxHeartbeats 4000000
namespace Mine.Lake
theorem Ab(h:X):Br true X Y:=⟨fun _=>h,fun q=>(tF q)⟩
theorem Av(h:Y):Br false X Y:=⟨(fun q=>(fT q)),fun _=>h⟩
theorem BD{p:Prop}[Decidable p]{X Y:Prop}(h1:p->X)(h2:¬p->Y):Br (decide p) X Y:=⟨fun h=>h1 (of_decide_eq_true h),fun h=>h2 (of_decide_eq_false h)⟩
theorem OX{p:Prop}[Decidable p]{X Y:Prop}(h1:¬p->X)(h2:p->Y):Br (!decide p) X Y:=⟨fun h=>h1 (of_decide_eq_false (Bool.not_eq_true' _▸h)),fun h=>h2 (of_decide_eq_true (Bool.not_eq_false' _▸h))⟩
section
variable{ν:Pu}{K:PV->Prop}
theorem OY{α:Type}{l:List α}{c:α}{K:α->Prop}(hk:seqIndex? i l.length=some k)(h:l[k]?=some c)(q:K c):N5 l i K:=by
 delta N5 kK
 (refine AA hk ?_)
 refine(?_:(match l[k]? with | some x=>K x | none=>False))
 (refine AA h ?_);exact q
theorem Fz{l:List α}{i:Int}{k:Nat}{c:α}{K:α->Prop}(hi:i=k)(h:l[k]?=some c)(q:K c):N5 l i K:=by
 refine OY ?_ h q
 subst hi
 delta seqIndex?
 simp only [(Int.not_lt.mpr (Int.natCast_nonneg k)),if_false]
 simp [((List.getElem?_eq_some_iff.mp h).1)]
theorem CR{l:List Nat}{i:Int}(k:Nat)(hi:i=k)(h:l[k]?=some c)(q:K (.int c)):It ν (.bytes l) (.int i) K:=⟨Fz hi h q⟩
theorem Dl{i:Int}(k:Nat)(hi:i=k)(h:l[k]?=some c)(q:K c):It ν (.tup l) (.int i) K:=⟨Fz hi h q⟩
theorem H0{i:Int}(k:Nat)(hi:i=k)(h:l[k]?=some c)(q:K c):It ν (.lst l) (.int i) K:=⟨Fz hi h q⟩
end
structure T where
 a:Nat:=0
 b:Nat:=0
 c:Nat:=0
 e:Nat:=0
 f:Nat:=0
 l:List Nat:=[]
 m:List Nat:=[]
 bs:List (List Nat):=[]
 qs:List (Bool×List Nat):=[]
 ps:List PV:=[]
 rs:List ((List Nat×List Nat)×Nat×Nat):=[]
 p:Bool:=false
 x:Slot:=.un
 y:Slot:=.un
 z:Slot:=.un
 w:Slot:=.un
theorem M9{τ:Type}{step:St->KS->(St->Prop)->Prop}(S:τ->St)(P:τ->Prop)(m:τ->Nat)(t₀:τ)(h0:P t₀)(h:∀ t,P t->∀ (J:KS) (E:St->Prop),(∀ t',P t'->m t'<m t->J .next (S t'))->(∀ p σ,Z (.ret p) σ->J (.ret p) σ)->(∀ σ,Z .next σ->J .brk σ)->(∀ σ,Z .next σ->E σ)->step (S t) J E):Wh step (S t₀) Z:=by
 have key:∀ N t,m t<N->P t->Pn step Z N (S t):=by
  intro N
  induction N with
  | zero=>exact fun _ h=>(by cases h)
  | succ N ih=>exact fun t hn hi=>h t hi _ _ (fun t' hi' hm=>ih t' (pJ hm (Nat.le_of_lt_succ hn)) hi') (fun _ _ h=>h) (fun _ h=>h) fun _ h=>h
 exact⟨m t₀+1,key _ t₀ (qF _) h0⟩
theorem NA{τ α:Type}{step:PV->St->KS->Prop}(g:α->PV)(S:τ->St)(P:τ->List α->Prop)(t₀:τ)(xs:List α)(h0:P t₀ xs)(hz:∀ t,P t []->Z .next (S t))(h:∀ t x r,P t (x::r)->∀ J:KS,(∀ t',P t' r->J .next (S t'))->(∀ p σ,Z (.ret p) σ->J (.ret p) σ)->(∀ σ,Z .next σ->J .brk σ)->step (g x) (S t) J):Fo step (xs.map g) (S t₀) Z:=by
 refine⟨?_⟩
 induction xs generalizing t₀ with
 | nil=>exact hz t₀ h0
 | cons x r ih=>exact h t₀ x r h0 _ (fun t' h'=>ih t' h') (fun _ _ h=>h) fun _ h=>h
theorem ki{τ α:Type}{step:PV->St->KS->Prop}(g:α->PV)(S:τ->St)(P:τ->List α->Prop)(Q:τ->Prop)(t₀:τ)(xs:List α)(h0:P t₀ xs)(hn:∀ t,P t []->Q t)(h:∀ t x r,P t (x::r)->∀ J:KS,(∀ t',P t' r->J .next (S t'))->(∀ p σ,Z (.ret p) σ->J (.ret p) σ)->(∀ t',Q t'->J .brk (S t'))->step (g x) (S t) J)(hz:∀ t,Q t->Z .next (S t)):Fo step (xs.map g) (S t₀) Z:=
 NA g S P t₀ xs h0 (fun t h=>hz t (hn t h)) fun t x r hp J hJ hr hb=>h t x r hp J hJ hr fun t' hq=>hb _ (hz t' hq)
theorem NB{τ:Type}{step:PV->St->KS->Prop}(g:Nat->PV)(a n:Nat)(S:τ->St)(P:τ->Nat->Prop)(t₀:τ)(h0:P t₀ a)(hz:∀ t,P t (a+n)->Z .next (S t))(h:∀ t i,P t i->a<=i->i<a+n->∀ J:KS,(∀ t',P t' (i+1)->J .next (S t'))->(∀ p σ,Z (.ret p) σ->J (.ret p) σ)->(∀ σ,Z .next σ->J .brk σ)->step (g i) (S t) J):Fo step ((List.range' a n).map g) (S t₀) Z:=by
 refine NA g S (fun t r=>∃ i,P t i/\a<=i/\i<=a+n/\r=List.range' i (a+n - i)) t₀ (List.range' a n) ⟨a,h0,ou _,pB _ _,by(refine AA (qX ..:) ?_;rfl)⟩ (fun t hx=>FY hx fun i hp h1 h2 e=>?_) fun t x r hx J hJ hr hb=>FY hx fun i hp h1 h2 e=>?_
 ·have:i=a+n:=by
   cases hk:a+n - i with
   | zero=>exact Nat.le_antisymm h2 (Nat.le_of_sub_eq_zero hk)
   | succ k=>(replace e:=(hk)▸e);injection e
  exact hz t (this▸hp)
 ·have hlt:i<a+n:=by
   refine pq fun q=>?_
   (replace e:=(Nat.sub_eq_zero_of_le q)▸e);injection e
  (replace e:=(show a+n - i=(a+n - (i+1))+1 by(exact bW hlt))▸e;rewrite [List.range'_succ] at e)
  (injection e with z1 z2;induction z1;subst z2)
  exact h t x hp h1 hlt J (fun t' h'=>hJ t' ⟨x+1,h',qP h1,hlt,rfl⟩) hr hb
theorem Cu{R:St->Prop}(h:R σ):(Bj G hn sp (n+1)).s [] σ (VT R Z):=h
theorem CD{l:List PV}(h:Nat.ble l.length 16=true):l.length<=16:=Nat.le_of_ble_eq_true h
theorem Bw{α:Type}{step:PV->Pu->(Bool->PV->Pu->Prop)->Prop}{g:α->PV}(f:α->PV)(xs:List α)(hz:xs.length<=BE)(h:∀ x∈xs,∀ J:Bool->PV->Pu->Prop,J true (f x) ν->step (g x) ν J)(q:Z (xs.map f) ν):Co step (xs.map g) ν Z:=by
 have key:∀ (xs:List α) (ys:List PV),ys.length+xs.length<=BE->(∀ x∈xs,∀ J:Bool->PV->Pu->Prop,J true (f x) ν->step (g x) ν J)->Z (ys ++ xs.map f) ν->HX step Z (xs.map g) ys ν:=by
  intro xs
  induction xs with
  | nil=>exact fun ys _ _ q=>qH ys▸q
  | cons x r ih=>
   intro ys hz h q
   refine h x (.head _) _ ⟨Nat.lt_of_add_right_lt hz,ih (ys ++ [f x]) (by(refine AA o9 ?_);exact(show ys.length+1+r.length<=BE by exact oy fun q=>nl (FO BE ys.length r.length) ⟨false,(nP (nW Ae) (nP Ag (nW BK))),(nP (nP (nW Ag) BK) Ae)⟩ rfl (nQ q hz))) (fun y hy=>h y (.tail _ hy)) ?_⟩
   (refine AA (pD ..:) ?_);exact q
 exact⟨key xs [] (by(refine AA (qC ..:) ?_);exact hz) h q⟩
theorem RM{α:Type}{step:PV->Pu->(Bool->PV->Pu->Prop)->Prop}{g:α->PV}(p:α->Bool)(f:α->PV)(xs:List α)(hz:xs.length<=BE)(h:∀ x∈xs,∀ J:Bool->PV->Pu->Prop,(p x=true->J true (f x) ν)->(p x=false->J false .none ν)->step (g x) ν J)(q:Z ((xs.filter p).map f) ν):Co step (xs.map g) ν Z:=by
 have key:∀ (xs:List α) (ys:List PV),ys.length+xs.length<=BE->(∀ x∈xs,∀ J:Bool->PV->Pu->Prop,(p x=true->J true (f x) ν)->(p x=false->J false .none ν)->step (g x) ν J)->Z (ys ++ (xs.filter p).map f) ν->HX step Z (xs.map g) ys ν:=by
  intro xs
  induction xs with
  | nil=>exact fun ys _ _ q=>qH ys▸q
  | cons x r ih=>
   intro ys hz h q
   refine h x (.head _) _ (fun e=>⟨Nat.lt_of_add_right_lt hz,ih (ys ++ [f x]) (by(refine AA o9 ?_);exact om (pL (Nat.succ_add_eq_add_succ ys.length r.length)) hz) (fun y hy=>h y (.tail _ hy)) ?_⟩) (fun e=>ih ys (qU hz) (fun y hy=>h y (.tail _ hy)) ?_)
   ·(refine AA (pD ..:) ?_)
    (replace q:=(List.filter_cons_of_pos e)▸q);exact q
   ·rw [List.filter_cons_of_neg (by(refine AA e ?_);exact Bool.false_ne_true)] at q;exact q
 exact⟨key xs [] (by(refine AA (qC ..:) ?_);exact hz) h q⟩
section
variable{ν:Pu}{K:PV->Pu->Prop}
theorem JW(h:K p ν)(e:p'=p):K p' ν:=e▸h
theorem Yu{J:Bool->PV->Pu->Prop}(h:J true p ν)(e:p'=p):J true p' ν:=e▸h
theorem IM(h:K (.int j) ν)(e:i=j):K (.int i) ν:=e▸h
end
noncomputable def oi(o:Option Nat):Int:=match o with | some x=>x | none=>-1
noncomputable abbrev il(l:List Nat):List PV:=l.map fun(c:Nat)=>.int (c:Int)
theorem Lg(l:List Nat)(c:Nat):il l ++ [PV.int (c:Int)]=il (l ++ [c]):=by(rewrite [il];rewrite [il];refine AA qh ?_);rfl
theorem JX(l:List Nat)(f:Nat->Nat):(l.map fun c=>[f c]).flatten=l.map f:=by induction l with
 | nil=>rfl
 | cons a l ih=>(refine AA List.flatten_cons ?_;refine AA ih ?_);rfl
theorem IN(l:List Nat):(l.map fun c=>[c]).flatten=l:=(JX l id).trans (List.map_id l)
theorem Lh{α:Type}(l:List α)(f:α->List Nat):l.map (fun c=>PV.str (f c))=(l.map f).map .str:=by(refine AA qV ?_);rfl
noncomputable def Nj:Stmt:=.Pass default
theorem OZ{b:List Stmt}{P:Stmt->Prop}{hk:Stmt->Option Nat}(is:List Nat)(hb:((List.range b.length).all fun i=>(hk (b.getD i Nj)).isNone||is.contains i)=true)(h0:∀ st,hk st=none->P st)(h:∀ i∈is,P (b.getD i Nj)):∀ st∈b,P st:=fun st hs=>by
 (refine AI (List.mem_iff_getElem?.mp hs) ?_;rintro i hi)
 have hst:b.getD i Nj=st:=by(refine AA (List.getD_eq_getElem?_getD) ?_;refine AA hi ?_);rfl
 have:=pr.mp hb i (List.mem_range.mpr ((qM.mp hi).1))
 (rewrite [Bool.or_eq_true] at this;replace this:=(hst)▸this)
 rcases this with q | q
 ·exact h0 st (qm.mp q)
 ·exact hst▸h i (List.contains_iff_mem.mp q)
theorem Li{gv:Str->Option PV}{st:Stmt}(h:Γ.hk st=none):Lf C hn d gv Γ sp st:=fun k e=>by(replace e:=(h)▸e);exact nS e
theorem IO{gv:Str->Option PV}{sp:Nat->St->KS->Prop}{st:Stmt}{k:Nat}(h:Γ.hk st=some k)(q:∀ cx,AY C hn d cx->AU gv Γ cx->∀ σ Q,sp k σ Q->Fc cx (exec st cx.env) σ Q):Lf C hn d gv Γ sp st:=fun k' e=>by
 (replace e:=(h)▸e);(refine sI e ?_;clear e;intro zz;induction zz);exact q
theorem IP{gv:Str->Option PV}:WG C hn d gv Γ Bg:=fun _ _ _ _ _ _ _ _ h=>h.elim
section
variable{C:Al}{hn:Bool}{d:Nat}
noncomputable abbrev kj(C:Al)(hn:Bool)(d:Nat):CY:=Bj (AK C hn d) hn Bg 29
theorem G8(G:Jw C gv)(n:Nat):AO C hn d gv (Bb n).1 (Bb n).2 (Bj (AK C hn d) hn Bg n):=(E9 (Γ:=Ej [] A3 Nj) G IP n).c
theorem Oa(G:Jw C gv){code:List CS}{cx:Cx}(F:AY C hn d cx)(g:AU gv Γ cx)(hc:FU 30 Γ b=some code)(Sp:∀ st∈b,Lf C hn d gv Γ sp st)(h:cS hn sp (kj C hn d) code σ Q):Fc cx (execs b cx.env) σ Q:=
 M5 G (E9 G IP 29) (To 29) F g b code σ Q Sp hc h
theorem QF(Fx:AX C){code:List CS}{K:PV->Pu->Prop}(sp:Qj->Nat->St->KS->Prop)(i:Nat)(own:List Str)(n:Nat)(hi:Kr f=some i)(hc:codeOf own hk (AP i)=some code)(hq:Tt (AP i)=true)(hl:l.length=(Am (AP i)).length)(Sp:∀ st∈A8 (AP i),Lf C hn d gv (Ej own hk (AP i)) (sp (AK C hn d)) st)(h:∀ G:Qj,(∀ {f l ν K},AK C hn d f l ν K->G f l ν K)->cS hn (sp G) (Bj G hn Bg 29) code ⟨l.map .fr ++ List.replicate n .un,ν⟩ (FN K)):AK C hn (d+1) f l ν K:=by
 intro A fr X s vs E a h1 h2 h2' h3 h4 h5 h6 h6' h7 h8 h9 h10 h11
 (refine AI ((Fx.defs f i hi a (FD hi h11)).all hq hl) ?_;rintro fd D)
 exact B6 Fx.ok.cfg D hq hl ⟨h1,h2,h2',h3,h4,h5,h6,h6',h7,h8,h9⟩ h10 fun env s₁ B=>B.run (Oa Fx.ok ⟨rfl,rfl,rfl⟩ (DT B) hc Sp (h _ fun h=>h))
end
noncomputable def DU:Stmt->Expr
 | .Assign (t::_) _ _=>t
 | _=>.Constant .none 0 default
noncomputable def BB:Stmt->Expr
 | .Assign _ v _=>v
 | .Return (some v) _=>v
 | _=>.Constant .none 0 default
noncomputable def Cv(e:Expr)(i:Nat):Expr:=(Tw e).getD i (.Constant .none 0 default)
noncomputable def cR(e:Expr):Const×Nat:=match e,view e with
 | _,.const c k _=>(c,k)
 | _,_=>(.none,0)
section
variable{C:Al}{hn:Bool}{d:Nat}{gv:Str->Option PV}{fe ft:Ge->Expr->Option CE}{S:CY}{cx:Cx}{Γ:Ge}{σ:St}{A:Around}{O:Ow}{s:Shared}{E:Value->Shared->Prop}
theorem ints_set{vs:List Value}(k:Nat)(i:Int)(t:Tok)(h:IntsAre vs ns):IntsAre (vs.set k (.int i t)) (ns.set k i):=by
 induction h generalizing k with
 | nil=>exact .nil
 | cons n u h ih=>induction k with
  | zero=>exact .cons i t h
  | succ k=>exact .cons n u (ih k)
inductive Ob(a k p:PV)(F:Pu->Prop):Pu->Prop where
 | turn {P c ns t i} (e1:a=.addr P) (e2:k=.int 1) (e3:p=.int i) (q:F (some (P,c,ns,i))):Ob a k p F (some (P,c,ns,t))
 | cell {P c ns t} {j:Nat} {i:Int} (e1:a=.addr c) (e2:k=.int j) (e3:p=.int i) (hj:j<ns.length) (hl:ns.length<=BE) (q:F (some (P,c,ns.set j i,t))):Ob a k p F (some (P,c,ns,t))
noncomputable def WI(S:CY)(v o i:CE)(σ:St)(Q:KS):Prop:=S.e v σ fun p σ=>S.e o σ fun a σ=>S.e i σ fun k σ=>Hr σ fun ν=>Ob a k p (fun ν'=>bf σ ν' (Q .next)) ν
theorem NC{Q:KS}(P:Aj cx O σ s O' σ' s'){T:Addr}(hT:T∈pa σ'.purse)(hs':Heap.SameBut T s'.heap h')(hp':Ah ν' cx.X h')(hpa:pa ν'=pa σ'.purse)(q:Q .next (σ'.setP ν')):B1 cx O σ s Q .next { s' with heap:=h' }:=by
 have m:AG cx.C (inP σ'.purse) (inF cx.l) s' { s' with heap:=h' }:=⟨h',s'.toks,rfl,(SameBut.kx hs').mono (fun b q=>q▸hT) fun _ q=>q,fun hb b o e=>(hs'.2 b fun q=>by
  (replace e:=(q)▸e;replace e:=((P.r.pNew T hT).1)▸e);exact nS e).trans (hb b o e)⟩
 have P4:Aw cx O' σ' s' O' (σ'.setP ν') { s' with heap:=h' }:=⟨P.r.moveP m hp' hpa,fun _ _ z=>z,m,hpa,P.r.exP,P.r.exF⟩
 exact B1.next (P.trans (P4.sp P.r)) q
theorem Yv(H:AO C hn d gv fe ft S)(F:AY C hn d cx)(g:AU gv Γ cx)(hc:Fn v=false)(h1:fe Γ v=some cv)(h2:fe Γ o=some co)(h3:fe Γ i=some ci)(h:WI S cv co ci σ Q):Fc cx (exec (.Assign [.Subscript o i ip] v pos) cx.env) σ Q:=fun A ha O s E r=>by
 refine wpAny_Assign_Subscript ((H.e cx F Γ g v cv h1 σ _ h).seq ha r fun vv s₁ O₁ σ1 p p₁ rp q₁=>(H.e cx F Γ g o co h2 σ1 _ q₁).seq ha p₁.r fun va s₂ O₂ σ2 a p₂ ra q₂=>(H.e cx F Γ g i ci h3 σ2 _ q₂).seq ha p₂.r fun vk s₃ O₃ σ₃ k p₃ rk q₃=>?_) (Ct hc)
 have P3:=((p₁.trans p₂).trans p₃).sp r
 have hpu:=p₃.r.purse
 clear h1 h2 h3 h q₁ q₂ p₁ p₂ p₃ H g
 obtain ⟨vars,ν⟩:=σ₃
 cases q₃ with
 | @turn P c ns t i e1 e2 e3 q=>
  refine Ap fun G kk=>?_;subst e1 e2 e3
  obtain ⟨h1,h2,h3,⟨tk,h4⟩,vs,h5,h6⟩:=hpu
  cases (show va=.ref P from ra);refine kk ?_
  induction rk with | mk u=>
  induction rp with | mk u'=>
  refine wpAny_setItem_list h4 (by decide) (by decide) (pI.mpr (qF 1)) fun h' hl' hs'=>NC P3 (.head _) hs' (ν':=some (P,c,ns,i)) ⟨h1,h2,h3,⟨u',hl'⟩,vs,?_,h6⟩ rfl q
  obtain ⟨o,e,cc,n,dd⟩:=h5
  exact⟨o,(hs'.2 c (fun q=>h3 q.symm)).trans e,cc,n,dd⟩
 | @cell P c ns t j i e1 e2 e3 hj hl q=>
  subst e1 e2 e3
  obtain ⟨h1,h2,h3,⟨tk,h4⟩,vs,h5,h6⟩:=hpu
  cases (show va=.ref c from ra)
  induction rk with | mk u=>
  induction rp with | mk u'=>
  have len:=h6.length
  refine wpAny_setItem_list h5 (pG j) (qJ (pI.mpr (pJ hj hl)) (by decide)) (by(refine AA ph ?_;refine AA len ?_);exact pI.mpr hj) fun h' hl' hs'=>NC P3 (.tail _ (.head _)) hs' (ν':=some (P,c,ns.set j i,t)) ⟨h1,h2,h3,⟨tk,?_⟩,vs.set j (.int i u'),?_,ints_set _ _ _ h6⟩ rfl q
  ·obtain ⟨o,e,cc,n,dd⟩:=h4
   exact⟨o,(hs'.2 P h3).trans e,cc,n,dd⟩
  ·simpa using hl'
end
section
variable{C:Al}{hn:Bool}{d:Nat}{ν:Pu}{K:PV->Pu->Prop}
end
noncomputable def Yw(v:Value):Option Addr:=match v with | .ref a=>some a | _=>none
noncomputable def vInt(v:Value):Option Int:=match v with | .int i _=>some i | _=>none
noncomputable def vStr(v:Value):Option Str:=match v with | .str s _=>some s | _=>none
noncomputable def cU(v:Value):Option (Array UInt8):=match v with | .bytes b _=>some b | _=>none
noncomputable def Yx(d:Data):Option (Array Value):=match d with | .seq vs _=>some vs | _=>none
noncomputable def ma(d:Data):Option FuncData:=match d with | .func f=>some f | _=>none
noncomputable def cV(d:Data):Option ClassData:=match d with | .cls c=>some c | _=>none
noncomputable def cW(d:Data):Option (Array Value):=match d with | .fields vs=>some vs | _=>none
noncomputable def Ks{α:Type}(h:Heap)(D:Data->Option α)(v:Value):Option (Addr×Obj×α):=(Yw v).bind fun a=>(h.get? a).bind fun o=>(D o.data).map fun x=>(a,o,x)
noncomputable def ND(o:Obj)(i:Nat):Option Value:=o.slots.getD i none
section
variable(h:Heap)
noncomputable def gm:Str->Option Value:=h.nsMap mainGlobals
noncomputable def gb:Str->Option Value:=h.nsMap builtinsNs
noncomputable def Yy(v:Option Value):Option (Addr×FuncData):=v.bind fun v=>(Ks h ma v).bind fun y=>Bk (y.2.1.cls==.type "function") (some (y.1,y.2.2))
noncomputable def clD(v:Option Value):Option (Addr×ClassData):=v.bind fun v=>(Ks h cV v).bind fun y=>Bk (y.2.1.cls==.type "type" && (y.2.2.hasDict&&(!y.2.2.hasDel&&h.isNs y.2.2.ns))) (some (y.1,y.2.2))
noncomputable def cX(a:Addr)(newId:String):Bool:=(h.get? a).any fun o=>o.slots==#[ND o 0,ND o 1,ND o 2,ND o 3,some (.builtin newId),ND o 5]
noncomputable def clB(v:Option Value)(bm:List Value)(newId:String):Bool:=(clD h v).any fun y=>y.2.mro==.ref y.1::bm&&cX h y.1 newId
noncomputable def Dx(v:Option Value)(x:Str):Option Value:=(clD h v).bind fun y=>h.nsMap y.2.ns x
noncomputable def WJ(v:Option Value):Addr:=(v.bind Yw).getD 0
mutual
noncomputable def vB(p:PV)(v:Value):Bool:=match p with
 | .int i=>vInt v==some i
 | .str s=>(vStr v).any fun x=>x.cps.toList==s&&Nat.ble s.length 4096
 | .bytes b=>(cU v).any fun x=>x==toB b&&(b.all (fun c=>Nat.ble c 255)&&Nat.ble b.length 4096)
 | .tup l=>(Ks h Yx v).any fun y=>y.2.1.cls==.type "tuple" && (y.2.1.dict.isNone&&(y.2.1.slots.isEmpty&&(Nat.ble l.length 4096&&jq l y.2.2.toList)))
 | .fn n=>gm h n==some v&&(Yy h (some v)).isSome
 | .kls n=>gm h n==some v&&clB h (some v) [.type "object"] "object.__new__"
 | .bi n=>v==.builtin n
 | .ty n=>v==.type n
 | _=>false
noncomputable def jq(ps:List PV)(vs:List Value):Bool:=match ps with
 | []=>vs.isEmpty
 | p::ps=>vs.head?.any fun v=>vB p v&&jq ps vs.tail
end
noncomputable def glB(gl:List (Str×PV)):Bool:=gl.all fun x=>!(x.1==("__debug__" : Str))&&((gm h x.1).or (gb h x.1)).any fun v=>vB h x.2 v
noncomputable def fieldV:Option Value:=gm h (AB "Field")
noncomputable def FX:Option Value:=gm h (AB "MimeFault")
noncomputable def DV:Option Value:=gm h (AB "PostError")
noncomputable def specs(dl:List (Str×Nat)):List (Option Value):=(dl.map fun x=>gm h x.1) ++ [Dx h (fieldV h) "word",Dx h (fieldV h) "__init__",Dx h (DV h) "__init__"]
noncomputable def WK(v:Value)(l:List Int):Bool:=(Ks h Yx v).any fun y=>y.2.2.toList.map vInt==l.map some
noncomputable def Yz(fd:FuncData):Bool:=(Ks h cW fd.code).any fun y=>(y.2.2[1]?).bind vStr==some fd.qualname
noncomputable def WL(fd:FuncData):Bool:=match fd.params.defaults with
 | []=>fd.defaults==.none
 | [_]=>WK h fd.defaults [-1]
 | _=>WK h fd.defaults [0,-1]
noncomputable def Tx(fd:FuncData):Bool:=fd.closure.isEmpty&&(fd.globals==mainGlobals&&(fd.builtins==builtinsNs&&(Yz h fd&&WL h fd)))
noncomputable def WM(gl:List (Str×PV))(dl:List (Str×Nat)):Bool:=h.isNs mainGlobals&&(h.isNs builtinsNs&&(h.isNs cStatics&&((h.nsMap cStatics "sys.recursionlimit").isNone&&((h.get? sysModules).isSome&&(glB h gl&&((specs h dl).all fun v=>(Yy h v).any fun y=>Tx h y.2))))))
noncomputable def WN:Bool:=clB h (fieldV h) [.type "object"] "object.__new__" && (((clD h (fieldV h)).any fun y=>!y.2.abstract)&&((Dx h (fieldV h) "name").isNone&&((Dx h (fieldV h) "raw").isNone&&((Dx h (fieldV h) "__setattr__").isNone&&((Dx h (fieldV h) "__getattribute__").isNone&&((Dx h (fieldV h) "__getattr__").isNone&&((gm h "Field.word").isNone&&
 (clB h (FX h) [.ref (WJ (DV h)),.type "Exception",.type "BaseException",.type "object"] "Exception.__new__" && (clB h (DV h) [.type "Exception",.type "BaseException",.type "object"] "Exception.__new__" && ((Dx h (FX h) "__init__").isNone&&((Dx h (FX h) "__setattr__").isNone&&((Dx h (FX h) "what").isNone&&((Dx h (FX h) "at").isNone&&
 ((Dx h (DV h) "__setattr__").isNone&&((Dx h (DV h) "what").isNone&&((Dx h (DV h) "at").isNone&&((gm h "Exception").isNone&&gb h "Exception" == some (.type "Exception"))))))))))))))))))
noncomputable def JY(v:Option Value):Option (FuncBody×Scope×Arguments):=(Yy h v).map fun y=>(y.2.body,y.2.scope,y.2.params)
end
noncomputable def QG(st:Stmt):Option (FuncBody×Scope×Arguments):=some (.stmts (A8 st),BA st,BR st)
noncomputable def me(p:Program)(i:Nat):Stmt:=p.main.body.getD i (.Pass default)
noncomputable def methP(p:Program)(i j:Nat):Stmt:=(QD (me p i)).getD j (.Pass default)
noncomputable def Ty(dl:List (Str×Nat))(p:Program):List Stmt:=(dl.map fun x=>me p x.2) ++ [methP p 51 1,methP p 51 0,methP p 7 0]
noncomputable def Y0(gl:List (Str×PV))(dl:List (Str×Nat))(s:Shared):Bool×List (Option (FuncBody×Scope×Arguments)):=(WM s.heap gl dl&&WN s.heap,(specs s.heap dl).map (JY s.heap))
noncomputable def Y1(dl:List (Str×Nat))(p:Program)(_:World):Bool×List (Option (FuncBody×Scope×Arguments)):=(true,(Ty dl p).map QG)
section
end
noncomputable def Oc:PV:=.tup [(.bytes [32]),(.bytes [9]),(.bytes [32,32]),(.bytes [32,9,32]),(.bytes [13,10,32]),(.bytes [32,13,10,9]),(.bytes [13,10,32,13,10,32]),(.bytes [10,32]),(.bytes []),(.bytes [44]),(.bytes [34]),(.bytes [40]),(.bytes [41]),(.bytes [32,40]),(.bytes [41,32]),(.bytes [41,40]),(.bytes [32,44,32]),(.bytes [44,32]),(.bytes [32,34]),(.bytes [32,11,32]),(.bytes [32,160,32]),(.bytes [32,120,32]),(.bytes [32,13,32])]
noncomputable def NE:PV:=.tup [(.bytes [120]),(.bytes [112,108,46]),(.bytes [195,169]),(.bytes [233]),(.bytes [97,61,98]),(.bytes [61,63]),(.bytes [63,61]),(.bytes [121,233,195,169])]
noncomputable def pvSixty:PV:=.bytes [65,66,67,68,69,70,71,72,73,74,75,76,77,78,79,80,81,82,83,84,85,86,87,88,89,90,97,98,99,100,101,102,103,104,105,106,107,108,109,110,111,112,113,114,115,116,117,118,119,120,121,122,48,49,50,51,52,53,54,55,56,57,43,47]
noncomputable def kl:CS:=.asg 1 (.kv (.int 0))
noncomputable def kn:CS:=.asg 1 (.bin .Add (.bin .Mult (.kv (.int 64)) (.lo 1)) (.lo 2))
noncomputable def ko:List CS:=[kn]
noncomputable def kq:CS:=.for_ (.lo 2) (.lo 0) ko
noncomputable def kr:CS:=.asg 3 (.bin .Sub (.bi .len [(.lo 0)]) (.kv (.int 1)))
noncomputable def ku:CS:=.asg 4 (.bin .Sub (.bin .Mult (.kv (.int 6)) (.bi .len [(.lo 0)])) (.bin .Mult (.kv (.int 8)) (.lo 3)))
noncomputable def kw:CS:=.asg 5 (.bin .RShift (.lo 1) (.lo 4))
noncomputable def ky:CS:=.ret (.tup [(.bi .bytes [(.comp (.lo 1) (.itr .range [(.bin .Sub (.lo 3) (.kv (.int 1))),(.neg (.kv (.int 1))),(.neg (.kv (.int 1)))]) (.bin .BitAnd (.bin .RShift (.lo 2) (.bin .Mult (.kv (.int 8)) (.lo 1))) (.kv (.int 255))) [] [none,none,(some 5)])]),(.bin .BitAnd (.lo 1) (.bin .Sub (.bin .LShift (.kv (.int 1)) (.lo 4)) (.kv (.int 1))))])
noncomputable def c4:List CS:=[kl,kq,kr,ku,kw,ky]
theorem cY:codeOf [] A3 (AP 4)=some c4:=by kernel_rfl
noncomputable def kz:CS:=.asg 1 (.call (AB "worth_table") [(.kv pvSixty)])
noncomputable def k9:CS:=.asg 2 (.olst [])
noncomputable def lA:CS:=.ite (.chn (.lo 3) [.Eq] [(.kv (.int 61))]) [.brk] []
noncomputable def lB:CS:=.app 2 (.itl 1 (.lo 3))
noncomputable def lC:List CS:=[lB]
noncomputable def lD:CS:=.ite (.chn (.lo 3) [.In] [(.lo 1)]) lC []
noncomputable def lE:List CS:=[lA,lD]
noncomputable def lF:CS:=.for_ (.lo 3) (.lo 0) lE
noncomputable def lG:CS:=.asg 4 (.olst [])
noncomputable def cZ:CS:=.app 4 (.item (.call (AB "group_octets") [(.slice (.lo 2) (.lo 5) (.bin .Add (.lo 5) (.kv (.int 4))))]) (.kv (.int 0)))
noncomputable def cf:List CS:=[cZ]
noncomputable def cg:CS:=.ite (.chn (.bin .Sub (.bi .len [(.lo 2)]) (.lo 5)) [.Gt] [(.kv (.int 1))]) cf []
noncomputable def ch:List CS:=[cg]
noncomputable def cj:CS:=.for_ (.lo 5) (.itr .range [(.kv (.int 0)),(.bi .len [(.lo 2)]),(.kv (.int 4))]) ch
noncomputable def cr:CS:=.ret (.meth .join (.kv (.bytes [])) [(.lo 4)])
noncomputable def c5:List CS:=[kz,k9,lF,lG,cj,cr]
theorem cu:codeOf [AB "worth_row",AB "found"] A3 (AP 5)=some c5:=by kernel_rfl
noncomputable def cy:CS:=.ret (.ife (.chn (.kv (.int 65)) [.LtE,.LtE] [(.lo 0),(.kv (.int 90))]) (.bin .Add (.lo 0) (.kv (.int 32))) (.lo 0))
noncomputable def c10:List CS:=[cy]
theorem Y2:codeOf [] A3 (AP 10)=some c10:=by kernel_rfl
noncomputable def cz:CS:=.ret (.meth .join (.kv (.str [])) [(.comp (.lo 1) (.lo 0) (.bi .chr [(.call (AB "lower_code") [(.bi .ord [(.lo 1)])])]) [] [none,none])])
noncomputable def c11:List CS:=[cz]
theorem Y3:codeOf [] A3 (AP 11)=some c11:=by kernel_rfl
noncomputable def dA:CS:=.ret (.meth .get (.call (AB "charset_names") []) [(.call (AB "lower_text") [(.lo 0)]),(.kv (.str []))])
noncomputable def nq:List CS:=[dA]
theorem Y4:codeOf [] A3 (AP 19)=some nq:=by kernel_rfl
noncomputable def dB:CS:=.sp 0
noncomputable def dC:List CS:=[dB]
noncomputable def dF:CS:=.ite (.inS false (.lo 0) [[117,115,45,97,115,99,105,105],[105,115,111,45,56,56,53,57,45,49],[117,116,102,45,56]]) dC []
noncomputable def nt:List CS:=[dF]
theorem Y5:codeOf [] A3 (AP 20)=some nt:=by kernel_rfl
noncomputable def dG:CS:=.ret (.tup [(.kv (.int 128)),(.kv (.int 191)),(.kv (.int 1))])
noncomputable def dH:List CS:=[dG]
noncomputable def dI:CS:=.ite (.chn (.kv (.int 194)) [.LtE,.LtE] [(.lo 0),(.kv (.int 223))]) dH []
noncomputable def dJ:CS:=.ret (.tup [(.meth .get (.dic (.kv (.int 224)) (.kv (.int 160))) [(.lo 0),(.kv (.int 128))]),(.meth .get (.dic (.kv (.int 237)) (.kv (.int 159))) [(.lo 0),(.kv (.int 191))]),(.kv (.int 2))])
noncomputable def dK:List CS:=[dJ]
noncomputable def dL:CS:=.ite (.chn (.kv (.int 224)) [.LtE,.LtE] [(.lo 0),(.kv (.int 239))]) dK []
noncomputable def dM:CS:=.ret (.tup [(.meth .get (.dic (.kv (.int 240)) (.kv (.int 144))) [(.lo 0),(.kv (.int 128))]),(.meth .get (.dic (.kv (.int 244)) (.kv (.int 143))) [(.lo 0),(.kv (.int 191))]),(.kv (.int 3))])
noncomputable def dN:List CS:=[dM]
noncomputable def dO:CS:=.ite (.chn (.kv (.int 240)) [.LtE,.LtE] [(.lo 0),(.kv (.int 244))]) dN []
noncomputable def Y6:CS:=.ret (.tup [(.kv (.int 0)),(.kv (.int 0)),(.kv (.int 0))])
noncomputable def nu:List CS:=[dI,dL,dO,Y6]
theorem Y7:codeOf [] A3 (AP 21)=some nu:=by kernel_rfl
noncomputable def dP:CS:=.asg 2 (.itl 0 (.lo 1))
noncomputable def dQ:CS:=.ret (.tup [(.lo 2),(.kv (.int 1))])
noncomputable def dR:List CS:=[dQ]
noncomputable def dS:CS:=.ite (.chn (.lo 2) [.Lt] [(.kv (.int 128))]) dR []
noncomputable def dT:CS:=.unp (.tup [(.lo 3),(.lo 4),(.lo 5)]) (.call (AB "follower_span") [(.lo 2)])
noncomputable def dU:CS:=.ret (.tup [(.neg (.kv (.int 1))),(.kv (.int 1))])
noncomputable def dW:List CS:=[dU]
noncomputable def dX:CS:=.ite (.chn (.lo 5) [.Eq] [(.kv (.int 0))]) dW []
noncomputable def dY:CS:=.asg 6 (.bin .Mod (.lo 2) (.bin .RShift (.kv (.int 64)) (.lo 5)))
noncomputable def Y8:CS:=.ret (.tup [(.neg (.kv (.int 1))),(.lo 7)])
noncomputable def Y9:List CS:=[Y8]
noncomputable def ZA:CS:=.ite (.bop false [(.chn (.bin .Add (.lo 1) (.lo 7)) [.GtE] [(.bi .len [(.lo 0)])]),(.not (.chn (.lo 3) [.LtE,.LtE] [(.itl 0 (.bin .Add (.lo 1) (.lo 7))),(.lo 4)]))]) Y9 []
noncomputable def ZB:CS:=.asg 6 (.bin .Add (.bin .Mult (.lo 6) (.kv (.int 64))) (.bin .Mod (.itl 0 (.bin .Add (.lo 1) (.lo 7))) (.kv (.int 64))))
noncomputable def ZC:CS:=.dsp false [3,4] [(.kv (.int 128)),(.kv (.int 191))]
noncomputable def ZD:List CS:=[ZA,ZB,ZC]
noncomputable def ZE:CS:=.for_ (.lo 7) (.itr .range [(.kv (.int 1)),(.bin .Add (.lo 5) (.kv (.int 1)))]) ZD
noncomputable def ZF:CS:=.ret (.tup [(.lo 6),(.bin .Add (.lo 5) (.kv (.int 1)))])
noncomputable def nv:List CS:=[dP,dS,dT,dX,dY,ZE,ZF]
theorem ZG:codeOf [] A3 (AP 22)=some nv:=by kernel_rfl
noncomputable def dZ:CS:=.ret (.call (AB "utf8_sign") [(.lo 1),(.lo 2)])
noncomputable def db:List CS:=[dZ]
noncomputable def dc:CS:=.ite (.chn (.lo 0) [.Eq] [(.kv (.str [117,116,102,45,56]))]) db []
noncomputable def df:CS:=.ret (.tup [(.neg (.kv (.int 1))),(.kv (.int 1))])
noncomputable def dg:List CS:=[df]
noncomputable def dh:CS:=.ite (.bop true [(.chn (.lo 0) [.Eq] [(.kv (.str [117,115,45,97,115,99,105,105]))]),(.chn (.itl 1 (.lo 2)) [.Gt] [(.kv (.int 127))])]) dg []
noncomputable def dj:CS:=.ret (.tup [(.itl 1 (.lo 2)),(.kv (.int 1))])
noncomputable def ny:List CS:=[dc,dh,dj]
theorem ZH:codeOf [] A3 (AP 23)=some ny:=by kernel_rfl
noncomputable def dk:CS:=.exp (.call (AB "need_charset") [(.lo 0)])
noncomputable def dm:CS:=.asg 2 (.olst [])
noncomputable def dp:CS:=.asg 3 (.kv (.int 0))
noncomputable def ds:CS:=.unp (.tup [(.lo 4),(.lo 5)]) (.call (AB "sign_at") [(.lo 0),(.lo 1),(.lo 3)])
noncomputable def dt:CS:=.app 2 (.ife (.chn (.lo 4) [.GtE] [(.kv (.int 0))]) (.bi .chr [(.lo 4)]) (.kv (.str [65533])))
noncomputable def du:CS:=.asg 3 (.bin .Add (.lo 3) (.lo 5))
noncomputable def dv:List CS:=[ds,dt,du]
noncomputable def dz:CS:=.whl (.chn (.lo 3) [.Lt] [(.bi .len [(.lo 1)])]) dv
noncomputable def d7:CS:=.ret (.meth .join (.kv (.str [])) [(.lo 2)])
noncomputable def nz:List CS:=[dk,dm,dp,dz,d7]
theorem ZI:codeOf [AB "signs"] A3 (AP 24)=some nz:=by kernel_rfl
noncomputable def XX:CS:=.exp (.call (AB "need_charset") [(.lo 0)])
noncomputable def XY:CS:=.asg 2 (.olst [])
noncomputable def XZ:CS:=.asg 3 (.kv (.int 0))
noncomputable def Xa:CS:=.unp (.tup [(.lo 4),(.lo 5)]) (.call (AB "sign_at") [(.lo 0),(.lo 1),(.lo 3)])
noncomputable def d8:CS:=.sp 0
noncomputable def d9:List CS:=[d8]
noncomputable def eA:CS:=.ite (.chn (.lo 4) [.Lt] [(.kv (.int 0))]) d9 []
noncomputable def eB:CS:=.app 2 (.bi .chr [(.lo 4)])
noncomputable def eE:CS:=.asg 3 (.bin .Add (.lo 3) (.lo 5))
noncomputable def Od:List CS:=[Xa,eA,eB,eE]
noncomputable def ZJ:CS:=.whl (.chn (.lo 3) [.Lt] [(.bi .len [(.lo 1)])]) Od
noncomputable def ZK:CS:=.ret (.meth .join (.kv (.str [])) [(.lo 2)])
noncomputable def n0:List CS:=[XX,XY,XZ,ZJ,ZK]
theorem ZL:codeOf [AB "signs"] A3 (AP 25)=some n0:=by kernel_rfl
noncomputable def eF:CS:=.ret (.bin .Sub (.lo 0) (.kv (.int 48)))
noncomputable def eG:List CS:=[eF]
noncomputable def eH:CS:=.ite (.chn (.kv (.int 48)) [.LtE,.LtE] [(.lo 0),(.kv (.int 57))]) eG []
noncomputable def eI:CS:=.ret (.bin .Sub (.lo 0) (.kv (.int 55)))
noncomputable def eJ:List CS:=[eI]
noncomputable def eK:CS:=.ite (.chn (.kv (.int 65)) [.LtE,.LtE] [(.lo 0),(.kv (.int 70))]) eJ []
noncomputable def eL:CS:=.ret (.bin .Sub (.lo 0) (.kv (.int 87)))
noncomputable def eM:List CS:=[eL]
noncomputable def eN:CS:=.ite (.chn (.kv (.int 97)) [.LtE,.LtE] [(.lo 0),(.kv (.int 102))]) eM []
noncomputable def ZM:CS:=.ret (.neg (.kv (.int 1)))
noncomputable def n5:List CS:=[eH,eK,eN,ZM]
theorem ZN:codeOf [] A3 (AP 31)=some n5:=by kernel_rfl
noncomputable def eO:CS:=.ret (.neg (.kv (.int 1)))
noncomputable def eQ:List CS:=[eO]
noncomputable def eR:CS:=.ite (.chn (.bin .Add (.lo 1) (.kv (.int 2))) [.GtE] [(.bi .len [(.lo 0)])]) eQ []
noncomputable def eS:CS:=.asg 2 (.call (AB "hex_worth") [(.itl 0 (.bin .Add (.lo 1) (.kv (.int 1))))])
noncomputable def eT:CS:=.asg 3 (.call (AB "hex_worth") [(.itl 0 (.bin .Add (.lo 1) (.kv (.int 2))))])
noncomputable def eU:CS:=.ret (.ife (.bop true [(.chn (.lo 2) [.GtE] [(.kv (.int 0))]),(.chn (.lo 3) [.GtE] [(.kv (.int 0))])]) (.bin .Add (.bin .Mult (.kv (.int 16)) (.lo 2)) (.lo 3)) (.neg (.kv (.int 1))))
noncomputable def n6:List CS:=[eR,eS,eT,eU]
theorem ZO:codeOf [] A3 (AP 32)=some n6:=by kernel_rfl
noncomputable def eV:CS:=.asg 1 (.olst [])
noncomputable def eW:CS:=.asg 2 (.kv (.int 0))
noncomputable def eX:CS:=.asg 3 (.ife (.chn (.itl 0 (.lo 2)) [.Eq] [(.kv (.int 61))]) (.call (AB "quoted_at") [(.lo 0),(.lo 2)]) (.neg (.kv (.int 1))))
noncomputable def eY:CS:=.app 1 (.lo 3)
noncomputable def eZ:CS:=.asg 2 (.bin .Add (.lo 2) (.kv (.int 3)))
noncomputable def eh:List CS:=[eY,eZ]
noncomputable def em:CS:=.app 1 (.itl 0 (.lo 2))
noncomputable def et:CS:=.asg 2 (.bin .Add (.lo 2) (.kv (.int 1)))
noncomputable def ew:List CS:=[em,et]
noncomputable def ZP:CS:=.ite (.chn (.lo 3) [.GtE] [(.kv (.int 0))]) eh ew
noncomputable def ZQ:List CS:=[eX,ZP]
noncomputable def ZR:CS:=.whl (.chn (.lo 2) [.Lt] [(.bi .len [(.lo 0)])]) ZQ
noncomputable def ZS:CS:=.ret (.bi .bytes [(.lo 1)])
noncomputable def n7:List CS:=[eV,eW,ZR,ZS]
theorem ZT:codeOf [AB "codes"] A3 (AP 33)=some n7:=by kernel_rfl
noncomputable def ey:CS:=.ret (.call (AB "unquoted") [(.bi .bytes [(.comp (.lo 1) (.lo 0) (.ife (.chn (.lo 1) [.Eq] [(.kv (.int 95))]) (.kv (.int 32)) (.lo 1)) [] [none,none])])])
noncomputable def n8:List CS:=[ey]
theorem ZU:codeOf [] A3 (AP 34)=some n8:=by kernel_rfl
noncomputable def ez:CS:=.ret (.bop true [(.chn (.kv (.int 33)) [.LtE,.LtE] [(.lo 0),(.kv (.int 126))]),(.chn (.lo 0) [.NotEq] [(.kv (.int 63))])])
noncomputable def n9:List CS:=[ez]
theorem ZV:codeOf [] A3 (AP 40)=some n9:=by kernel_rfl
noncomputable def e9:CS:=.asg 2 (.lo 1)
noncomputable def fA:CS:=.asg 2 (.bin .Add (.lo 2) (.kv (.int 1)))
noncomputable def fB:List CS:=[fA]
noncomputable def fC:CS:=.whl (.bop true [(.chn (.lo 2) [.Lt] [(.bi .len [(.lo 0)])]),(.call (AB "is_word_sign") [(.itl 0 (.lo 2))])]) fB
noncomputable def fD:CS:=.ret (.ife (.bop true [(.chn (.lo 2) [.Lt] [(.bi .len [(.lo 0)])]),(.chn (.itl 0 (.lo 2)) [.Eq] [(.kv (.int 63))])]) (.lo 2) (.neg (.kv (.int 1))))
noncomputable def oA:List CS:=[e9,fC,fD]
theorem ZW:codeOf [] A3 (AP 41)=some oA:=by kernel_rfl
noncomputable def fE:CS:=.ret (.kv .none)
noncomputable def fF:List CS:=[fE]
noncomputable def fG:CS:=.ite (.chn (.slice (.lo 0) (.lo 1) (.bin .Add (.lo 1) (.kv (.int 2)))) [.NotEq] [(.kv (.bytes [61,63]))]) fF []
noncomputable def fH:CS:=.asg 2 (.olst [(.bin .Add (.lo 1) (.kv (.int 1)))])
noncomputable def fJ:CS:=.app 2 (.call (AB "part_end") [(.lo 0),(.bin .Add (.itl 2 (.neg (.kv (.int 1)))) (.kv (.int 1)))])
noncomputable def fK:CS:=.ret (.kv .none)
noncomputable def fL:List CS:=[fK]
noncomputable def fM:CS:=.ite (.chn (.itl 2 (.neg (.kv (.int 1)))) [.Lt] [(.kv (.int 0))]) fL []
noncomputable def fN:List CS:=[fJ,fM]
noncomputable def ZX:CS:=.for_ (.lo 3) (.itr .range [(.kv (.int 3))]) fN
noncomputable def ZY:CS:=.asg 4 (.bin .Add (.itl 2 (.kv (.int 3))) (.kv (.int 2)))
noncomputable def ZZ:CS:=.ret (.kv .none)
noncomputable def Za:List CS:=[ZZ]
noncomputable def Zb:CS:=.ite (.chn (.slice (.lo 0) (.itl 2 (.kv (.int 3))) (.lo 4)) [.NotEq] [(.kv (.bytes [63,61]))]) Za []
noncomputable def Zc:CS:=.asg 5 (.comp (.lo 1) (.itr .range [(.kv (.int 3))]) (.slice (.lo 3) (.bin .Add (.itl 2 (.lo 1)) (.kv (.int 1))) (.itl 2 (.bin .Add (.lo 1) (.kv (.int 1))))) [] [none,none,(some 2),(some 0)])
noncomputable def Zd:CS:=.ret (.tup [(.itl 5 (.kv (.int 0))),(.itl 5 (.kv (.int 1))),(.itl 5 (.kv (.int 2))),(.lo 4)])
noncomputable def oB:List CS:=[fG,fH,ZX,ZY,Zb,Zc,Zd]
theorem Ze:codeOf [AB "marks"] A3 (AP 42)=some oB:=by kernel_rfl
noncomputable def fO:CS:=.ret (.kv (.bool false))
noncomputable def fP:List CS:=[fO]
noncomputable def fQ:CS:=.ite (.bop true [(.chn (.lo 1) [.Gt] [(.kv (.int 0))]),(.inI false (.itl 0 (.bin .Sub (.lo 1) (.kv (.int 1)))) [9,10,13,32]),(.chn (.itl 0 (.bin .Sub (.lo 1) (.kv (.int 1)))) [.NotEq] [(.kv (.int 40))])]) fP []
noncomputable def Xb:CS:=.ret (.bop false [(.chn (.lo 2) [.Eq] [(.bi .len [(.lo 0)])]),(.inI true (.itl 0 (.lo 2)) [9,10,13,32]),(.chn (.itl 0 (.lo 2)) [.Eq] [(.kv (.int 41))])])
noncomputable def oC:List CS:=[fQ,Xb]
theorem Zf:codeOf [] A3 (AP 43)=some oC:=by kernel_rfl
noncomputable def fR:CS:=.ret (.meth .join (.kv (.str [])) [(.comp (.lo 1) (.lo 0) (.bi .chr [(.lo 1)]) [] [none,none])])
noncomputable def oE:List CS:=[fR]
theorem Zg:codeOf [] A3 (AP 44)=some oE:=by kernel_rfl
noncomputable def fS:CS:=.asg 2 (.call (AB "word_parts") [(.lo 0),(.lo 1)])
noncomputable def fU:CS:=.ret (.kv .none)
noncomputable def fV:List CS:=[fU]
noncomputable def fW:CS:=.ite (.bop false [(.chn (.lo 2) [.Is] [(.kv .none)]),(.not (.call (AB "is_apart") [(.lo 0),(.lo 1),(.itl 2 (.kv (.int 3)))]))]) fV []
noncomputable def fY:CS:=.asg 3 (.call (AB "charset_name") [(.item (.meth .split (.call (AB "plain_text") [(.itl 2 (.kv (.int 0)))]) [(.kv (.str [42]))]) (.kv (.int 0)))])
noncomputable def fZ:CS:=.asg 4 (.meth .upper (.call (AB "plain_text") [(.itl 2 (.kv (.int 1)))]) [])
noncomputable def ff:CS:=.ret (.kv .none)
noncomputable def fg:List CS:=[ff]
noncomputable def fh:CS:=.ite (.bop false [(.chn (.lo 3) [.Eq] [(.kv (.str []))]),(.inS false (.lo 4) [[81],[66]])]) fg []
noncomputable def Zh:CS:=.asg 5 (.ife (.chn (.lo 4) [.Eq] [(.kv (.str [81]))]) (.call (AB "word_q_decoded") [(.itl 2 (.kv (.int 2)))]) (.call (AB "decoded") [(.itl 2 (.kv (.int 2)))]))
noncomputable def Zi:CS:=.ret (.tup [(.call (AB "text_in") [(.lo 3),(.lo 5)]),(.itl 2 (.kv (.int 3)))])
noncomputable def oF:List CS:=[fS,fW,fY,fZ,fh,Zh,Zi]
theorem Zj:codeOf [] A3 (AP 45)=some oF:=by kernel_rfl
noncomputable def fi:CS:=.asg 1 (.olst [])
noncomputable def fj:CS:=.asg 2 (.kv (.int 0))
noncomputable def fm:CS:=.asg 3 (.kv (.int 0))
noncomputable def fq:CS:=.asg 4 (.ife (.chn (.itl 0 (.lo 3)) [.Eq] [(.kv (.int 61))]) (.call (AB "word_at") [(.lo 0),(.lo 3)]) (.kv .none))
noncomputable def fu:CS:=.asg 3 (.bin .Add (.lo 3) (.kv (.int 1)))
noncomputable def fw:List CS:=[fu]
noncomputable def fy:CS:=.app 1 (.tup [(.kv (.bool false)),(.slice (.lo 0) (.lo 2) (.lo 3))])
noncomputable def fz:CS:=.app 1 (.tup [(.kv (.bool true)),(.itl 4 (.kv (.int 0)))])
noncomputable def gA:CS:=.asg 3 (.itl 4 (.kv (.int 1)))
noncomputable def Zk:CS:=.asg 2 (.lo 3)
noncomputable def Zl:List CS:=[fy,fz,gA,Zk]
noncomputable def Zm:CS:=.ite (.chn (.lo 4) [.Is] [(.kv .none)]) fw Zl
noncomputable def Zn:List CS:=[fq,Zm]
noncomputable def Zo:CS:=.whl (.chn (.lo 3) [.Lt] [(.bi .len [(.lo 0)])]) Zn
noncomputable def Zp:CS:=.ret (.bin .Add (.lo 1) (.lst [(.tup [(.kv (.bool false)),(.slice (.lo 0) (.lo 2) (.kv .none))])]))
noncomputable def oG:List CS:=[fi,fj,fm,Zo,Zp]
theorem Zq:codeOf [AB "pieces"] A3 (AP 46)=some oG:=by kernel_rfl
noncomputable def gB:CS:=.ret (.chn (.comp (.lo 1) (.lo 0) (.lo 1) [(.inI false (.lo 1) [9,10,13,32])] [none,none]) [.Eq] [(.lst [])])
noncomputable def oH:List CS:=[gB]
theorem Zr:codeOf [] A3 (AP 47)=some oH:=by kernel_rfl
noncomputable def gC:CS:=.asg 1 (.call (AB "pieces_of") [(.lo 0)])
noncomputable def gE:CS:=.asg 2 (.olst [])
noncomputable def gF:CS:=.unp (.tup [(.lo 4),(.lo 5)]) (.itl 1 (.lo 3))
noncomputable def gG:CS:=.app 2 (.lo 5)
noncomputable def gH:List CS:=[gG]
noncomputable def gJ:CS:=.app 2 (.call (AB "guessed_text") [(.lo 5)])
noncomputable def Xc:List CS:=[gJ]
noncomputable def gK:CS:=.ite (.not (.bop true [(.chn (.kv (.int 0)) [.Lt,.Lt] [(.lo 3),(.bin .Sub (.bi .len [(.lo 1)]) (.kv (.int 1)))]),(.call (AB "all_white") [(.lo 5)])])) Xc []
noncomputable def gL:List CS:=[gK]
noncomputable def Zs:CS:=.ite (.lo 4) gH gL
noncomputable def Zt:List CS:=[gF,Zs]
noncomputable def Zu:CS:=.for_ (.lo 3) (.itr .range [(.bi .len [(.lo 1)])]) Zt
noncomputable def Zv:CS:=.ret (.meth .join (.kv (.str [])) [(.lo 2)])
noncomputable def oJ:List CS:=[gC,gE,Zu,Zv]
theorem Zw:codeOf [AB "found"] A3 (AP 48)=some oJ:=by kernel_rfl
noncomputable def gM:CS:=.asg 3 (.meth .find (.lo 0) [(.kv (.bytes [10])),(.lo 1),(.lo 2)])
noncomputable def gN:CS:=.ret (.tup [(.lo 2),(.lo 2)])
noncomputable def gO:List CS:=[gN]
noncomputable def gP:CS:=.ite (.chn (.lo 3) [.Lt] [(.kv (.int 0))]) gO []
noncomputable def gQ:CS:=.ret (.tup [(.bin .Sub (.lo 3) (.kv (.int 1))),(.bin .Add (.lo 3) (.kv (.int 1)))])
noncomputable def gR:List CS:=[gQ]
noncomputable def gS:CS:=.ite (.bop true [(.chn (.lo 3) [.Gt] [(.lo 1)]),(.chn (.itl 0 (.bin .Sub (.lo 3) (.kv (.int 1)))) [.Eq] [(.kv (.int 13))])]) gR []
noncomputable def gU:CS:=.ret (.tup [(.lo 3),(.bin .Add (.lo 3) (.kv (.int 1)))])
noncomputable def oK:List CS:=[gM,gP,gS,gU]
theorem Zx:codeOf [] A3 (AP 52)=some oK:=by kernel_rfl
noncomputable def gV:CS:=.ret (.kv (.bool false))
noncomputable def gW:List CS:=[gV]
noncomputable def gX:CS:=.ite (.bop false [(.chn (.lo 1) [.Lt] [(.kv (.int 33))]),(.chn (.lo 1) [.Gt] [(.kv (.int 126))]),(.chn (.lo 1) [.Eq] [(.kv (.int 58))])]) gW []
noncomputable def gY:List CS:=[gX]
noncomputable def gZ:CS:=.for_ (.lo 1) (.lo 0) gY
noncomputable def ga:CS:=.ret (.chn (.bi .len [(.lo 0)]) [.Gt] [(.kv (.int 0))])
noncomputable def oL:List CS:=[gZ,ga]
theorem Zy:codeOf [] A3 (AP 53)=some oL:=by kernel_rfl
noncomputable def gc:CS:=.asg 3 (.meth .find (.lo 0) [(.kv (.bytes [58])),(.lo 1),(.lo 2)])
noncomputable def gd:CS:=.ret (.ife (.bop true [(.chn (.lo 3) [.GtE] [(.kv (.int 0))]),(.call (AB "is_name") [(.slice (.lo 0) (.lo 1) (.lo 3))])]) (.lo 3) (.neg (.kv (.int 1))))
noncomputable def oM:List CS:=[gc,gd]
theorem Zz:codeOf [] A3 (AP 54)=some oM:=by kernel_rfl
noncomputable def gg:CS:=.asg 3 (.ife (.chn (.lo 2) [.Lt] [(.kv (.int 0))]) (.bi .len [(.lo 0)]) (.lo 2))
noncomputable def gh:CS:=.asg 4 (.olst [])
noncomputable def gi:CS:=.asg 5 (.lo 1)
noncomputable def gj:CS:=.unp (.tup [(.lo 6),(.lo 7)]) (.call (AB "line_at") [(.lo 0),(.lo 5),(.lo 3)])
noncomputable def gp:CS:=.ret (.tup [(.lo 4),(.lo 7)])
noncomputable def gq:List CS:=[gp]
noncomputable def gr:CS:=.ite (.chn (.lo 6) [.Eq] [(.lo 5)]) gq []
noncomputable def gs:CS:=.asg 8 (.call (AB "colon_in") [(.lo 0),(.lo 5),(.lo 6)])
noncomputable def gt:CS:=.ret (.tup [(.lo 4),(.lo 5)])
noncomputable def Z0:List CS:=[gt]
noncomputable def Z1:CS:=.ite (.chn (.lo 8) [.Lt] [(.kv (.int 0))]) Z0 []
noncomputable def Z4:CS:=.unp (.tup [(.lo 6),(.lo 7)]) (.call (AB "line_at") [(.lo 0),(.lo 7),(.lo 3)])
noncomputable def Z5:List CS:=[Z4]
noncomputable def Z6:CS:=.whl (.bop true [(.chn (.lo 7) [.Lt] [(.lo 3)]),(.inI true (.itl 0 (.lo 7)) [32,9])]) Z5
noncomputable def Z7:CS:=.app 4 (.tup [(.call (AB "Field") [(.slice (.lo 0) (.lo 5) (.lo 8)),(.slice (.lo 0) (.bin .Add (.lo 8) (.kv (.int 1))) (.lo 6))]),(.lo 5),(.lo 7)])
noncomputable def Z8:CS:=.asg 5 (.lo 7)
noncomputable def Z9:List CS:=[gj,gr,gs,Z1,Z6,Z7,Z8]
noncomputable def aA:CS:=.whl (.chn (.lo 5) [.Lt] [(.lo 3)]) Z9
noncomputable def aB:CS:=.ret (.tup [(.lo 4),(.lo 3)])
noncomputable def oN:List CS:=[gg,gh,gi,aA,aB]
theorem aC:codeOf [AB "rows"] A3 (AP 55)=some oN:=by kernel_rfl
noncomputable def gu:CS:=.unp (.tup [(.lo 3),(.lo 4)]) (.call (AB "read_spans") [(.lo 0),(.lo 1),(.lo 2)])
noncomputable def gw:CS:=.ret (.tup [(.comp (.lo 1) (.lo 3) (.itl 1 (.kv (.int 0))) [] [none,none]),(.lo 4)])
noncomputable def oO:List CS:=[gu,gw]
theorem aD:codeOf [] A3 (AP 56)=some oO:=by kernel_rfl
noncomputable def gy:CS:=.asg 1 (.olst [])
noncomputable def g6:CS:=.asg 2 (.kv (.int 0))
noncomputable def g7:CS:=.unp (.tup [(.lo 3),(.lo 4)]) (.call (AB "line_at") [(.lo 0),(.lo 2),(.bi .len [(.lo 0)])])
noncomputable def g8:CS:=.app 1 (.slice (.lo 0) (.lo 2) (.lo 3))
noncomputable def g9:CS:=.ret (.lo 1)
noncomputable def hU:List CS:=[g9]
noncomputable def hY:CS:=.ite (.chn (.lo 3) [.Eq] [(.bi .len [(.lo 0)])]) hU []
noncomputable def iA:CS:=.asg 2 (.lo 4)
noncomputable def iB:List CS:=[g7,g8,hY,iA]
noncomputable def aF:CS:=.whl (.kv (.bool true)) iB
noncomputable def oP:List CS:=[gy,g6,aF]
theorem aG:codeOf [AB "rows"] A3 (AP 57)=some oP:=by kernel_rfl
noncomputable def iC:CS:=.ret (.meth .strip (.meth .join (.kv (.bytes [])) [(.call (AB "rows_of") [(.lo 0)])]) [(.kv (.bytes [32,9]))])
noncomputable def oQ:List CS:=[iC]
theorem aH:codeOf [] A3 (AP 58)=some oQ:=by kernel_rfl
noncomputable def iD:CS:=.asg 2 (.call (AB "lower_text") [(.lo 1)])
noncomputable def iE:CS:=.ret (.call (AB "unfolded") [(.raw (.lo 3))])
noncomputable def iF:List CS:=[iE]
noncomputable def iG:CS:=.ite (.chn (.word (.lo 3)) [.Eq] [(.lo 2)]) iF []
noncomputable def iH:List CS:=[iG]
noncomputable def iI:CS:=.for_ (.lo 3) (.lo 0) iH
noncomputable def iJ:CS:=.ret (.kv .none)
noncomputable def oR:List CS:=[iD,iI,iJ]
theorem aJ:codeOf [] A3 (AP 59)=some oR:=by kernel_rfl
noncomputable def mf:CS:=.ret (.lst [(.comp (.lo 1) (.slice (.lo 0) (.kv .none) (.kv (.int 40))) (.bin .Mod (.bi .abs [(.bi .int [(.lo 1)])]) (.bin .Pow (.kv (.int 10)) (.kv (.int 60)))) [] [none,none]),(.kv (.int 0))])
noncomputable def iK:CS:=.dsp true [3,2] [(.itl 0 (.kv (.int 0))),(.itl 0 (.kv (.int 1)))]
noncomputable def iL:CS:=.sp 1
noncomputable def iM:CS:=.asg 4 (.bin .Mod (.lo 3) (.bi .max [(.kv (.int 1)),(.bi .len [(.lo 2)])]))
noncomputable def iN:CS:=.ret (.bin .Mod (.bin .Add (.bin .FloorDiv (.bin .Mult (.lo 3) (.bin .Add (.lo 3) (.kv (.int 3)))) (.kv (.int 2))) (.bi .len [(.lo 2)])) (.lo 1))
noncomputable def Xd:List CS:=[iN]
noncomputable def iO:CS:=.ite (.bop false [(.chn (.lo 2) [.Eq] [(.lst [])]),(.bop true [(.chn (.lo 3) [.GtE] [(.bi .len [(.lo 2)])]),(.chn (.itl 2 (.lo 4)) [.Eq] [(.kv (.int 0))])])]) Xd []
noncomputable def Xe:CS:=.asg 5 (.bin .Mod (.itl 2 (.lo 4)) (.lo 1))
noncomputable def Xf:CS:=.sp 2
noncomputable def Xg:CS:=.ret (.lo 5)
noncomputable def oS:List CS:=[iK,iL,iM,iO,Xe,Xf,Xg]
theorem aK:codeOf [] A3 (AP 67)=some oS:=by kernel_rfl
noncomputable def iP:CS:=.asg 1 (.kv (.bytes []))
noncomputable def iQ:CS:=.asg 3 (.bi .list [(.slice (.lo 0) (.lo 2) (.bin .Add (.lo 2) (.kv (.int 3))))])
noncomputable def iR:CS:=.asg 4 (.bi .sum [(.comp (.tup [(.lo 1),(.lo 2)]) (.itr .enum [(.lo 3)]) (.bin .LShift (.lo 2) (.bin .Sub (.kv (.int 16)) (.bin .Mult (.kv (.int 8)) (.lo 1)))) [] [none,none,none])])
noncomputable def iS:CS:=.asg 5 (.comp (.lo 1) (.itr .range [(.bin .Add (.bi .len [(.lo 3)]) (.kv (.int 1)))]) (.item (.kv pvSixty) (.bin .BitAnd (.bin .RShift (.lo 2) (.bin .Sub (.kv (.int 18)) (.bin .Mult (.kv (.int 6)) (.lo 1)))) (.kv (.int 63)))) [] [none,none,(some 4)])
noncomputable def iT:CS:=.asg 1 (.bin .Add (.bin .Add (.lo 1) (.bi .bytes [(.lo 5)])) (.bin .Mult (.kv (.bytes [61])) (.bin .Sub (.kv (.int 3)) (.bi .len [(.lo 3)]))))
noncomputable def iU:List CS:=[iQ,iR,iS,iT]
noncomputable def iV:CS:=.for_ (.lo 2) (.itr .range [(.kv (.int 0)),(.bi .len [(.lo 0)]),(.kv (.int 3))]) iU
noncomputable def iW:CS:=.ret (.lo 1)
noncomputable def oU:List CS:=[iP,iV,iW]
theorem aL:codeOf [] A3 (AP 68)=some oU:=by kernel_rfl
noncomputable def iX:CS:=.asg 3 (.kv (.bytes []))
noncomputable def iY:CS:=.asg 3 (.bin .Add (.lo 3) (.bi .bytes [(.lst [(.lo 4)])]))
noncomputable def iZ:List CS:=[iY]
noncomputable def ib:CS:=.asg 3 (.bin .Add (.lo 3) (.ife (.chn (.lo 4) [.Eq] [(.kv (.int 32))]) (.lo 2) (.bin .Add (.kv (.bytes [61])) (.bi .bytes [(.lst [(.itl 1 (.bin .FloorDiv (.lo 4) (.kv (.int 16)))),(.itl 1 (.bin .Mod (.lo 4) (.kv (.int 16))))])]))))
noncomputable def ic:List CS:=[ib]
noncomputable def ie:CS:=.ite (.meth .isalnum (.bi .bytes [(.lst [(.lo 4)])]) []) iZ ic
noncomputable def ig:List CS:=[ie]
noncomputable def ij:CS:=.for_ (.lo 4) (.lo 0) ig
noncomputable def im:CS:=.ret (.lo 3)
noncomputable def oV:List CS:=[iX,ij,im]
theorem aM:codeOf [] A3 (AP 69)=some oV:=by kernel_rfl
noncomputable def iq:CS:=.unp (.tup [(.lo 1),(.lo 2)]) (.item (.kv pv_law_sets) (.call (AB "_law_coin") [(.lo 0),(.kv (.int 3))]))
noncomputable def ir:CS:=.dsp true [4,3] [(.item (.meth .split (.lo 1) [(.kv (.str [32]))]) (.call (AB "_law_coin") [(.lo 0),(.kv (.int 4))])),(.chn (.call (AB "_law_coin") [(.lo 0),(.kv (.int 2))]) [.Eq] [(.kv (.int 1))])]
noncomputable def iu:CS:=.dsp true [7,6,5] [(.item (.kv (.str [81,113,66,98])) (.call (AB "_law_coin") [(.lo 0),(.kv (.int 4))])),(.item (.tup [(.kv (.str [])),(.kv (.str [42,101,110])),(.kv (.str [42]))]) (.call (AB "_law_coin") [(.lo 0),(.kv (.int 3))])),(.call (AB "_law_coin") [(.lo 0),(.kv (.int 6))])]
noncomputable def iv:CS:=.asg 8 (.comp (.lo 1) (.itr .range [(.call (AB "_law_coin") [(.lo 0),(.kv (.int 4))])]) (.itl 3 (.call (AB "_law_coin") [(.lo 2),(.kv (.int 8))])) [] [none,none,(some 0),(some 2)])
noncomputable def iw:CS:=.asg 9 (.meth .join (.kv (.bytes [])) [(.comp (.lo 1) (.lo 8) (.itl 1 (.kv (.int 1))) [] [none,none])])
noncomputable def ix:CS:=.dsp true [9,8] [(.bin .Mult (.lo 8) (.bin .FloorDiv (.kv (.int 28)) (.bi .max [(.kv (.int 1)),(.bi .len [(.lo 9)])]))),(.bin .Mult (.lo 9) (.bin .FloorDiv (.kv (.int 28)) (.bi .max [(.kv (.int 1)),(.bi .len [(.lo 9)])])))]
noncomputable def iy:List CS:=[ix]
noncomputable def iz:CS:=.ite (.chn (.call (AB "_law_coin") [(.lo 0),(.kv (.int 6))]) [.Eq] [(.kv (.int 5))]) iy []
noncomputable def i0:CS:=.asg 10 (.item (.tup [(.kv (.bytes [48,49,50,51,52,53,54,55,56,57,65,66,67,68,69,70])),(.kv (.bytes [48,49,50,51,52,53,54,55,56,57,97,98,99,100,101,102]))]) (.call (AB "_law_coin") [(.lo 0),(.kv (.int 2))]))
noncomputable def aO:CS:=.asg 11 (.call (AB "_law_figured") [(.lo 9),(.lo 10),(.item (.tup [(.kv (.bytes [95])),(.kv (.bytes [61,50,48]))]) (.call (AB "_law_coin") [(.lo 0),(.kv (.int 2))]))])
noncomputable def aP:List CS:=[i0,aO]
noncomputable def aQ:CS:=.asg 11 (.call (AB "_law_sixes") [(.lo 9)])
noncomputable def aR:List CS:=[aQ]
noncomputable def Tz:CS:=.ite (.chn (.lo 5) [.In] [(.kv (.str [81,113]))]) aP aR
noncomputable def Lj:CS:=.asg 3 (.ife (.chn (.lo 7) [.Eq] [(.kv (.int 0))]) (.kv (.str [107,111,105,56,45,114])) (.ife (.lo 4) (.meth .upper (.lo 3) []) (.lo 3)))
noncomputable def Lk:CS:=.asg 12 (.bin .Add (.bin .Add (.bin .Add (.bin .Add (.bin .Add (.kv (.str [61,63])) (.lo 3)) (.lo 6)) (.kv (.str [63]))) (.ife (.chn (.lo 7) [.Eq] [(.kv (.int 1))]) (.kv (.str [88])) (.lo 5))) (.kv (.str [63])))
noncomputable def JZ:CS:=.ret (.tup [(.bin .Add (.bin .Add (.bi .bytes [(.comp (.lo 1) (.lo 12) (.bi .ord [(.lo 1)]) [] [none,none])]) (.lo 11)) (.kv (.bytes [63,61]))),(.ife (.chn (.lo 7) [.Lt] [(.kv (.int 2))]) (.kv .none) (.meth .join (.kv (.str [])) [(.comp (.lo 1) (.lo 8) (.itl 1 (.kv (.int 0))) [] [none,none])]))])
noncomputable def oW:List CS:=[iq,ir,iu,iv,iw,iz,Tz,Lj,Lk,JZ]
theorem aS:codeOf [] A3 (AP 70)=some oW:=by kernel_rfl
noncomputable def i3:CS:=.asg 1 (.meth .join (.kv (.str [])) [(.comp (.lo 1) (.lo 0) (.bi .chr [(.lo 1)]) [] [none,none])])
noncomputable def mh:CS:=.ret (.ife (.bop false [(.chn (.kv (.bytes [233])) [.In] [(.lo 0)]),(.chn (.kv (.bytes [160])) [.In] [(.lo 0)])]) (.lo 1) (.meth .replace (.lo 1) [(.kv (.str [195,169])),(.kv (.str [233]))]))
noncomputable def i4:CS:=.dsp true [3,2] [(.itl 1 (.kv (.int 0))),(.olst [])]
noncomputable def i5:CS:=.app 3 (.tup [(.bi .len [(.lo 2)]),(.bin .Add (.bi .len [(.lo 2)]) (.bi .len [(.lo 4)])),(.lo 5)])
noncomputable def i6:List CS:=[i5]
noncomputable def i7:CS:=.ite (.chn (.lo 5) [.IsNot] [(.kv .none)]) i6 []
noncomputable def i8:CS:=.asg 2 (.bin .Add (.bin .Add (.lo 2) (.lo 4)) (.lo 6))
noncomputable def i9:List CS:=[i7,i8]
noncomputable def jA:CS:=.for_ (.tup [(.tup [(.lo 4),(.lo 5)]),(.lo 6)]) (.itr .zip [(.lo 0),(.slice (.lo 1) (.kv (.int 1)) (.kv .none))]) i9
noncomputable def jB:CS:=.dsp false [7,8,9] [(.kv (.str [])),(.kv (.int 0)),(.kv (.bool false))]
noncomputable def jC:CS:=.asg 12 (.slice (.lo 2) (.lo 8) (.lo 10))
noncomputable def aT:CS:=.asg 7 (.bin .Add (.lo 7) (.call (AB "_law_guessed") [(.lo 12)]))
noncomputable def aU:List CS:=[aT]
noncomputable def aV:CS:=.ite (.bop false [(.not (.lo 9)),(.chn (.meth .strip (.lo 12) [(.kv (.bytes [32,9,13,10]))]) [.NotEq] [(.kv (.bytes []))])]) aU []
noncomputable def aW:CS:=.dsp true [9,8,7] [(.bin .Add (.lo 7) (.lo 5)),(.lo 11),(.kv (.bool true))]
noncomputable def Oe:List CS:=[jC,aV,aW]
noncomputable def aX:CS:=.ite (.bop true [(.bop false [(.chn (.lo 10) [.Eq] [(.kv (.int 0))]),(.chn (.itl 2 (.bin .Sub (.lo 10) (.kv (.int 1)))) [.In] [(.bin .Add (.kv (.bytes [32,9,13,10])) (.kv (.bytes [40])))])]),(.bop false [(.chn (.lo 11) [.Eq] [(.bi .len [(.lo 2)])]),(.chn (.itl 2 (.lo 11)) [.In] [(.bin .Add (.kv (.bytes [32,9,13,10])) (.kv (.bytes [41])))])])]) Oe []
noncomputable def aY:List CS:=[aX]
noncomputable def aZ:CS:=.for_ (.tup [(.lo 10),(.lo 11),(.lo 5)]) (.lo 3) aY
noncomputable def aa:CS:=.ret (.tup [(.lo 2),(.bin .Add (.lo 7) (.call (AB "_law_guessed") [(.slice (.lo 2) (.lo 8) (.kv .none))]))])
noncomputable def oX:List CS:=[i4,jA,jB,aZ,aa]
theorem ac:codeOf [AB "spots"] A3 (AP 72)=some oX:=by kernel_rfl
noncomputable def mi:CS:=.asg 1 (.call (AB "_law_purse") [(.lo 0)])
noncomputable def Xh:CS:=.dsp true [4,3,2] [(.item (.tup [(.kv (.bytes [32])),(.kv (.bytes [])),(.kv (.bytes [9]))]) (.call (AB "_law_coin") [(.lo 1),(.kv (.int 3))])),(.olst []),(.olst [(.item (.kv Oc) (.call (AB "_law_coin") [(.lo 1),(.kv (.int 23))]))])]
noncomputable def jD:CS:=.app 3 (.ife (.chn (.call (AB "_law_coin") [(.lo 1),(.kv (.int 3))]) [.Lt] [(.kv (.int 2))]) (.call (AB "_law_word") [(.lo 1)]) (.tup [(.item (.kv NE) (.call (AB "_law_coin") [(.lo 1),(.kv (.int 8))])),(.kv .none)]))
noncomputable def Xi:CS:=.app 4 (.item (.kv Oc) (.call (AB "_law_coin") [(.lo 1),(.kv (.int 23))]))
noncomputable def jE:List CS:=[jD,Xi]
noncomputable def T0:CS:=.for_ (.lo 5) (.itr .range [(.bin .Add (.kv (.int 1)) (.call (AB "_law_coin") [(.lo 1),(.kv (.int 3))]))]) jE
noncomputable def QH:CS:=.unp (.tup [(.lo 6),(.lo 7)]) (.call (AB "_law_joined") [(.lo 3),(.lo 4)])
noncomputable def jF:CS:=.ret (.kv (.bool false))
noncomputable def jG:List CS:=[jF]
noncomputable def Ll:CS:=.ite (.chn (.call (AB "decoded_words") [(.lo 6)]) [.NotEq] [(.lo 7)]) jG []
noncomputable def Lm:CS:=.asg 8 (.bin .Add (.bin .Add (.bin .Add (.kv (.bytes [83,117,98,106,101,99,116,58])) (.lo 2)) (.lo 6)) (.kv (.bytes [13,10,88,58,32,121,13,10,13,10,122])))
noncomputable def Ln:CS:=.unp (.tup [(.lo 9),(.lo 10)]) (.call (AB "read_fields") [(.lo 8)])
noncomputable def ae:CS:=.ret (.kv (.bool false))
noncomputable def af:List CS:=[ae]
noncomputable def Lo:CS:=.ite (.bop false [(.chn (.comp (.lo 1) (.lo 9) (.word (.lo 1)) [] [none,none]) [.NotEq] [(.lst [(.kv (.str [115,117,98,106,101,99,116])),(.kv (.str [120]))])]),(.chn (.slice (.lo 8) (.lo 10) (.kv .none)) [.NotEq] [(.kv (.bytes [122]))])]) af []
noncomputable def lH:CS:=.asg 11 (.comp (.lo 1) (.lo 4) (.meth .replace (.meth .replace (.lo 1) [(.kv (.bytes [13,10])),(.kv (.bytes []))]) [(.kv (.bytes [10])),(.kv (.bytes []))]) [] [none,none])
noncomputable def lI:CS:=.sp 3
noncomputable def G9:CS:=.unp (.tup [(.lo 12),(.lo 13)]) (.call (AB "_law_joined") [(.lo 3),(.lo 11)])
noncomputable def HA:CS:=.ret (.bop true [(.chn (.call (AB "first_body") [(.lo 9),(.kv (.str [115,117,98,106,101,99,116]))]) [.Eq] [(.lo 12)]),(.chn (.call (AB "decoded_words") [(.lo 12)]) [.Eq] [(.lo 13)])])
end Mine.Lake
set_option maxHeartbeats 4000000
namespace Mine.Lake
section
variable{C:Al}{hn:Bool}{d:Nat}{ν:Pu}{K:PV->Pu->Prop}
theorem jr{a c:Nat}(h:((a:Nat):Int)<=c):a<=c:=Int.ofNat_le.mp h
theorem js{a c:Nat}(h:¬((a:Nat):Int)<=c):¬a<=c:=fun q=>h (Int.ofNat_le.mpr q)
theorem F0(a b:Nat){c:Nat}(h1:a<=c/\c<=b->X)(h2:¬(a<=c/\c<=b)->Y):Br (decide ((a:Int)<=c)) (Br (decide ((c:Int)<=b)) X Y) (Br false X Y):=
 BD (fun p=>BD (fun q=>h1 ⟨jr p,jr q⟩) fun q=>h2 fun x=>js q x.2) fun p=>Av (h2 fun x=>js p x.1)
theorem D8(a:Nat)(h1:c=a->X)(h2:¬c=a->Y):Br (decide ((c:Int)=a)) X Y:=BD (fun p=>h1 (qY p)) fun p=>h2 fun q=>p (congrArg _ q)
theorem ag(a:Nat)(h1:¬c=a->X)(h2:c=a->Y):Br (!decide ((c:Int)=a)) X Y:=OX (fun p=>h1 fun q=>p (congrArg _ q)) fun p=>h2 (qY p)
theorem T1{a c:Nat}(h:a<=c):(c:Int) - (a:Nat)=((c - a:Nat):Int):=(Int.ofNat_sub h).symm
theorem Lp(Fx:AX C)(q:K (.int (L.Af c)) ν):AK C hn (d+1) (AB "lower_code") [.int c] ν K:=by
 delta L.Af at q
 refine A4 Fx 10 [] 0 (by kernel_rfl) Y2 (by kernel_rfl) rfl fun G hG=>?_
 refine F0 65 90 (fun h=>?_) fun h=>?_
 ·rw [if_pos h] at q;exact q
 ·rw [if_neg h] at q;exact q
theorem Hi(Fx:AX C)(q:K (.int (oi (L.An c))) ν):AK C hn (d+1) (AB "hex_worth") [.int c] ν K:=by
 delta L.An at q
 refine A4 Fx 31 [] 0 (by kernel_rfl) ZN (by kernel_rfl) rfl fun G hG=>?_
 refine F0 48 57 (fun h=>?_) fun h=>F0 65 70 (fun h'=>?_) fun h'=>F0 97 102 (fun h''=>?_) fun h''=>?_
 ·rw [if_pos h] at q;exact IM q (T1 h.1)
 ·rw [if_neg h,if_pos h'] at q;exact IM q (T1 (om (by decide) h'.1))
 ·rw [if_neg h,if_neg h',if_pos h''] at q;exact IM q (T1 (om (by decide) h''.1))
 ·rw [if_neg h,if_neg h',if_neg h''] at q;exact q
theorem ah(c:Nat):L.Az c=(decide (33<=c/\c<=126)&&!decide (c=63)):=by
 delta L.Az
 by_cases h:c=63<;>(first | (refine AA h ?_;trivial) | simp [h])
theorem Ja(Fx:AX C){c:Nat}(q:K (.bool (L.Az c)) ν):AK C hn (d+1) (AB "is_word_sign") [.int c] ν K:=by
 rw [ah] at q
 refine A4 Fx 40 [] 0 (by kernel_rfl) ZV (by kernel_rfl) rfl fun G hG=>?_
 refine BD (fun p=>BD (fun p'=>?_) fun p'=>?_) fun p=>Av ?_
 ·rw [decide_eq_true (show 33<=c/\c<=126 from⟨jr p,jr p'⟩)] at q
  refine JW q (congrArg PV.bool (congrArg Bool.not ?_))
  by_cases h:c=63
  ·subst h;rfl
  ·(refine AA (qg h) ?_);exact qg fun e=>h (qY e)
 ·rw [decide_eq_false fun x:33<=c/\c<=126=>js p' x.2] at q;exact q
 ·rw [decide_eq_false fun x:33<=c/\c<=126=>js p x.1] at q;exact q
theorem IQ(a b:Nat)(c:Nat)(x:Int):(if (c:Int)=(a:Nat) then some (b:Int) else none).getD x=if c=a then(b:Int) else x:=by
 by_cases h:c=a
 ·(refine AA (pO h) ?_;refine AA (pO (congrArg _ h)) ?_);rfl
 ·(refine AA (pH h) ?_;refine AA (pH (show ¬(c:Int)=(a:Nat) from fun e=>h (qY e))) ?_);rfl
theorem GT(p:Prop)[Decidable p](a b:Nat):(if p then(a:Int) else(b:Nat))=((if p then a else b:Nat):Int):=by split<;>rfl
theorem H4(Fx:AX C)(q:K (.tup [.int (L.AZ c).1,.int (L.AZ c).2.1,.int (L.AZ c).2.2]) ν):AK C hn (d+1) (AB "follower_span") [.int c] ν K:=by
 delta L.AZ at q
 refine A4 Fx 21 [] 0 (by kernel_rfl) Y7 (by kernel_rfl) rfl fun G hG=>?_
 refine F0 194 223 (fun h=>?_) fun h=>F0 224 239 (fun h'=>?_) fun h'=>F0 240 244 (fun h''=>?_) fun h''=>?_
 ·rw [if_pos h] at q;exact⟨CD rfl,q⟩
 ·rw [if_neg h,if_pos h'] at q
  refine⟨CD rfl,?_⟩
  have e1:=(IQ 224 160 c 128).trans (GT _ 160 128)
  have e2:=(IQ 237 159 c 191).trans (GT _ 159 191)
  exact JW q (by(refine BO e1 ?_;refine BO e2 ?_);rfl)
 ·rw [if_neg h,if_neg h',if_pos h''] at q
  refine⟨CD rfl,?_⟩
  exact JW q (by(refine BO ((IQ 240 144 c 128).trans (GT _ 144 128)) ?_;refine BO ((IQ 244 143 c 191).trans (GT _ 143 191)) ?_);rfl)
 ·rw [if_neg h,if_neg h',if_neg h''] at q;exact⟨CD rfl,q⟩
theorem ai(h:c<1000000):L.Af c<1000032:=by delta L.Af;split<;>(first | exact Nat.add_lt_add_right h _ | exact om ‹_› (by decide) | lia)
theorem ck{c n:Nat}(h:c<n)(hn:n<=1114112:=by decide):(0:Int)<=c/\(c:Int)<1114112:=⟨pG c,pI.mpr (pJ h hn)⟩
theorem D9(Fx:AX C){t:List Nat}(hz:t.length<=BE)(ha:∀ c∈t,c<1000000)(q:K (.str (t.map L.Af)) ν):AK C true (d+2) (AB "lower_text") [.str t] ν K:=by
 refine A4 Fx 11 [] 0 (by kernel_rfl) Y3 (by kernel_rfl) rfl fun G hG=>?_
 refine⟨rfl,Bw (fun c=>.str [L.Af c]) t hz (fun c hc J hJ=>Ab ⟨hG (Lp Fx ?_)⟩) ⟨rfl,t.map fun c=>[L.Af c],Lh t _,?_,?_⟩⟩
 ·have:=ck (ai (ha c hc))
  exact⟨this.1,this.2,hJ⟩
 ·(refine AA (JX ..:) ?_;refine AA (pK ..:) ?_);exact hz
 ·(refine AA (JX ..:) ?_);exact q
theorem GU(Fx:AX C){t:List Nat}(hz:t.length<=BE)(ha:∀ c∈t,c<1000000)(q:K (.str t) ν):AK C true (d+1) (AB "plain_text") [.bytes t] ν K:=by
 refine A4 Fx 44 [] 0 (by kernel_rfl) Zg (by kernel_rfl) rfl fun G hG=>?_
 refine⟨rfl,Bw (fun c=>.str [c]) t hz (fun c hc J hJ=>Ab ⟨(ck (ha c hc)).1,(ck (ha c hc)).2,hJ⟩) ⟨rfl,t.map fun c=>[c],Lh t _,?_,?_⟩⟩
 ·(refine AA (IN ..:) ?_);exact hz
 ·(refine AA (IN ..:) ?_);exact q
noncomputable def DW(l:List Nat)(a:Nat):Option Nat:=match l.drop a with
 | _::h::l::_=>(match L.An h,L.An l with
  | some x,some y=>some (16*x+y)
  | _,_=>none)
 | _=>none
theorem T2(h:L.An c=some x):x<16:=by
 delta L.An at h
 repeat' split at h
 all_goals first | (cases h;rename_i g;exact mG g.2 (by decide)) | cases h
theorem jH{l:List Nat}(h:a+2<l.length):∃ x y z,l.drop a=x::y::z::l.drop (a+3)/\l[a]?=some x/\l[a+1]?=some y/\l[a+2]?=some z:=
 ⟨l[a],l[a+1],l[a+2],by(refine AA (qa (by exact pq fun q=>nl (IZ l.length a) ⟨false,(nP Ae (nW (nP Ag (nK 2)))),(nP Ag Ae)⟩ rfl (o7 q (qO h)))) ?_;refine AA (qa (by exact pq fun q=>nl (IZ l.length a) ⟨false,(nP Ae (nW (nP Ag (nK 2)))),(nP (nW Ag) Ae)⟩ rfl (o7 q (qO h)))) ?_;refine AA (qa (by assumption)) ?_;rfl),o8 _,o8 _,o8 _⟩
theorem T3{a b:Nat}(h1:b<=a->X)(h2:a<b->Y):Br (decide ((b:Int)<=(a:Nat))) X Y:=BD (fun p=>h1 (Int.ofNat_le.mp p)) fun p=>h2 (pq fun q=>p (Int.ofNat_le.mpr q))
theorem QI{o:Option Nat}(h1:∀ x,o=some x->X)(h2:o=none->Y):Br (decide (0<=oi o)) X Y:=by
 induction o with
 | some x=>exact BD (fun _=>h1 x rfl) fun h=>absurd (pG x) h
 | none=>exact BD (fun h=>absurd h (by decide)) fun _=>h2 rfl
theorem T4(h:l.length<=a+2):DW l a=none:=by
 delta DW
 have hl:(l.drop a).length<=2:=by(refine AA qj ?_);exact Nat.sub_le_iff_le_add'.mpr h
 match l.drop a,hl with
 | [],_=>rfl
 | [_],_=>rfl
 | [_,_],_=>rfl
theorem NF(Fx:AX C){a:Nat}{i:Int}(hi:i=a)(q:K (.int (oi (DW l a))) ν):AK C hn (d+2) (AB "quoted_at") [.bytes l,.int i] ν K:=by
 subst hi
 refine A4 Fx 32 [] 2 (by kernel_rfl) ZO (by kernel_rfl) rfl fun G hG=>?_
 refine T3 (fun h=>?_) fun h=>?_
 ·rw [T4 h] at q;exact q
 ·(refine FZ (jH h) ?_;rintro x y z e0 e1 e2 e3)
  refine CR (a+1) rfl e2 ⟨hG (Hi Fx (CR (a+2) rfl e3 ⟨hG (Hi Fx ?_)⟩))⟩
  have hq:DW l a=(match L.An y,L.An z with | some x,some y=>some (16*x+y) | _,_=>none):=by delta DW;(refine AA e0 ?_;rfl)
  (replace q:=(hq)▸q)
  refine QI (fun u hu=>QI (fun w hw=>Ab ?_) fun hw=>Av ?_) fun hu=>Av ?_
  ·refine⟨⟨by decide,by decide⟩,IM q ?_⟩
   (refine AA hu ?_;refine AA hw ?_);rfl
  ·(replace q:=(hu)▸q;replace q:=(hw)▸q);exact q
  ·(replace q:=(hu)▸q);exact q
theorem T6{a c:Nat}{r:List Nat}(e:l.drop a=c::r):L.AW (l.drop a)=match (if c=61 then DW l a else none) with
  | some x=>x::L.AW (l.drop (a+3))
  | none=>c::L.AW (l.drop (a+1)):=by
 have e1:l.drop (a+1)=r:=by(refine BO qA ?_;refine AA e ?_);rfl
 have e3:l.drop (a+3)=r.drop 2:=by(refine BO qA ?_;refine AA e ?_);rfl
 delta DW
 (refine AA e ?_;refine AA e1 ?_;refine AA e3 ?_)
 match r with
 | []=>simp [L.DF,L.DG,L.DH,L.CU]
 | [x]=>simp [L.DF,L.DG,L.DH,L.CU]
 | x::y::r=>
  simp only [L.DF,L.DG,L.DH,L.CU,List.drop_succ_cons,List.drop_zero]
  split
  ·induction L.An x<;>cases L.An y<;>rfl
  ·rfl
set_option tactic.hygienic true in
theorem Jb:∀ (l:List Nat),BL l->BL (L.AW l)
 | [],h=>by assumption
 | [c],h=>by trivial
 | [c,d],h=>by trivial
 | c::x::y::r,h=>by
  have h1:=fun z hz=>h z (List.mem_cons_of_mem _ hz)
  have h2:=fun z hz=>h z (List.mem_cons_of_mem _ (List.mem_cons_of_mem _ (List.mem_cons_of_mem _ hz)))
  have hc:=h c (List.Mem.head _)
  simp only [L.DF,L.DG,L.DH,L.CU]
  split
  ·split
   ·rename_i u v e1 e2
    intro z hz
    rcases pj.mp hz with rfl | hz
    ·exact nX (T2 e1) (T2 e2)
    ·exact(Jb _ h2) z hz
   ·intro z hz
    rcases pj.mp hz with rfl | hz
    ·exact hc
    ·exact(Jb _ h1) z hz
  ·intro z hz
   rcases pj.mp hz with rfl | hz
   ·exact hc
   ·exact(Jb _ h1) z hz
theorem Lq:∀ (l:List Nat),(L.AW l).length<=l.length
 | []=>pQ _
 | [c]=>pW _
 | [c,d]=>ou _
 | c::x::y::r=>by
  have i1:=Lq (x::y::r)
  simp only [L.DF,L.DG,L.DH,L.CU]
  split
  ·split
   ·simp;exact Nat.le_add_right_of_le (Lq r)
   ·simp at i1 ⊢;assumption
  ·simp at i1 ⊢;assumption
theorem El{l r:List Nat}(e:l.drop a=c::r):l[a]?=some c:=by
 have:=qf (xs:=l) (i:=a) (j:=0)
 (replace this:=(e)▸this);exact this.symm
theorem Ce:(il l).length=l.length:=pK _
theorem Of(Fx:AX C){l:List Nat}(ho:BL l)(hz:l.length<BE)(q:K (.bytes (L.AW l)) ν):AK C true (d+3) (AB "unquoted") [.bytes l] ν K:=by
 refine A4 Fx 33 [AB "codes"] 3 (by kernel_rfl) ZT (by kernel_rfl) rfl fun G hG=>?_
 refine⟨CD rfl,M9 (fun t:T=>⟨[.fr (.bytes l),.ow (il t.l),.fr (.int (t.a:Nat)),t.x],ν⟩) (fun t=>t.l.length<=t.a/\L.AW l=t.l ++ L.AW (l.drop t.a)) (fun t=>l.length - t.a) {} ⟨pQ _,rfl⟩ fun t h J E hJ hr hb hE=>?_⟩
 have hol:=h.1
 have hq:=h.2
 refine BD (fun h=>?_) fun h=>?_
 ·have hal:=pI.mp h
  have e:=qa hal
  have es:=T6 e
  generalize l[t.a]=c at e es
  have ec:=El e
  have hoz:(il t.l).length<BE:=by(refine AA Ce ?_);exact pC hol (Nat.lt_trans hal hz)
  have nx:∀ (j:Nat) (y:Nat) (z:PV),1<=j->L.AW (l.drop t.a)=y::L.AW (l.drop (t.a+j))->J .next ⟨[.fr (.bytes l),.ow (il t.l ++ [.int (y:Nat)]),.fr (.int ((t.a:Int)+(j:Nat))),.fr z],ν⟩:=fun j y z hj he=>by
   (refine AA (Lg ..:) ?_)
   exact hJ { a:=t.a+j,l:=t.l ++ [y],x:=.fr z } ⟨by(refine AA o9 ?_);exact o7 hol hj,by(refine AA hq ?_;refine AA he ?_;refine AA (pD ..:) ?_);rfl⟩ (pz hal (qc hj))
  refine CR t.a rfl ec (D8 61 (fun h61=>⟨hG (NF Fx rfl ?_)⟩) fun h61=>?_)
  ·(replace es:=(pO h61)▸es)
   refine QI (fun x hx=>?_) fun hx=>?_
   ·rw [hx] at es ⊢
    exact⟨hoz,nx 3 x _ (by decide) es⟩
   ·(replace es:=(hx)▸es)
    exact CR t.a rfl ec ⟨hoz,nx 1 c _ (by decide) es⟩
  ·(replace es:=(pH h61)▸es)
   refine BD (fun h=>absurd h (by decide)) fun _=>CR t.a rfl ec ?_
   exact⟨hoz,nx 1 c _ (by decide) es⟩
 ·(replace hq:=((pU (oy fun x=>h (pI.mpr x))))▸hq;replace hq:=(show L.AW []=[] from rfl)▸hq;rewrite [List.append_nil] at hq)
  rw [hq] at q
  exact hE _ ⟨_,rfl,rfl,hq▸Jb _ ho,q⟩
noncomputable def qmap(c:Nat):Nat:=if c=95 then 32 else c
theorem T7(Fx:AX C)(ho:BL l)(hz:l.length<BE)(q:K (.bytes (L.Bh l)) ν):AK C true (d+4) (AB "word_q_decoded") [.bytes l] ν K:=by
 have hq:BL (l.map qmap):=fun y hy=>by
  (refine AE (qL.mp hy) ?_;rintro c hc rfl)
  have:=ho c hc
  delta qmap;split<;>(first | exact qW _ _ | assumption | lia)
 refine A4 Fx 34 [] 0 (by kernel_rfl) ZU (by kernel_rfl) rfl fun G hG=>?_
 refine⟨rfl,Bw (fun c=>.int (qmap c:Nat)) l (qU hz) (fun c hc J hJ=>Ab (D8 95 (fun h=>?_) fun h=>?_)) ⟨l.map qmap,by(refine AA qV ?_);rfl,rfl,hq,⟨hG (Of Fx hq (by(refine AA (pK ..:) ?_);exact hz) q)⟩⟩⟩
 ·unfold qmap at hJ;(replace hJ:=(pO h)▸hJ);exact hJ
 ·unfold qmap at hJ;(replace hJ:=(pH h)▸hJ);exact hJ
end
end Mine.Lake
set_option maxHeartbeats 4000000
namespace Mine.Lake
section
variable{C:Al}{hn:Bool}{d:Nat}{ν:Pu}{K:PV->Pu->Prop}
noncomputable def Ak:Nat->List Nat
 | 1=>[117,115,45,97,115,99,105,105]
 | 2=>[105,115,111,45,56,56,53,57,45,49]
 | 3=>[117,116,102,45,56]
 | _=>[]
theorem DX(Fx:AX C)(hc:cs=1∨cs=2∨cs=3)(q:K .none ν):AK C hn (d+1) (AB "need_charset") [.str (Ak cs)] ν K:=by
 refine A4 Fx 20 [] 0 (by kernel_rfl) Y5 (by kernel_rfl) rfl fun G hG=>?_
 rcases hc with rfl | rfl | rfl<;>exact Av q
theorem HB(a n:Nat):rangeInts (a:Int) n 1=(List.range' a n).map fun(c:Nat)=>(c:Int):=by
 delta rangeInts
 apply List.ext_getElem
 ·simp
 ·intro n h1 h2;simp
theorem Lr{n:Nat}(h:n<=1000000):Ci n:=⟨qJ (by decide) (pG n),Int.lt_of_le_of_lt (Int.ofNat_le.mpr h) (by decide)⟩
theorem WO{i j:Int}{a b:Nat}(hi:i=a)(hj:j=b)(ha:a<=1000000)(hb:b<=1000000)(h:G (il (List.range' a (b - a)))):MZ true .range [.int i,.int j] G:=by
 subst hi hj
 refine⟨⟨[(a:Int),(b:Int)],rfl,fun n hn=>?_⟩,?_⟩
 ·cases hn with
  | head=>exact Lr ha
  | tail _ hn=>cases hn with
   | head=>exact Lr hb
   | tail _ hn=>cases hn
 ·have e:rangeInts (a:Int) ((b:Int) - a).toNat 1=(List.range' a (b - a)).map fun(c:Nat)=>(c:Int):=by(refine AA (HB ..:) ?_;refine AA (show ((b:Int) - a).toNat=b - a by exact Int.toNat_sub _ _) ?_;rfl)
  refine⟨?_,?_⟩
  ·(refine AA e ?_;refine AA (pK ..:) ?_;refine AA List.length_range' ?_);exact su (om hb (by decide))
  ·(refine AA e ?_;refine AA qV ?_);exact h
theorem FE{j:Int}{b:Nat}(hj:j=b)(hb:b<=1000000)(h:G (il (List.range' 0 b))):MZ true .range [.int j] G:=by
 subst hj
 refine⟨⟨[(b:Int)],rfl,fun n hn=>?_⟩,?_⟩
 ·cases hn with
  | head=>exact Lr hb
  | tail _ hn=>cases hn
 ·refine⟨?_,?_⟩
  ·(refine AA (HB 0 b) ?_;refine AA (pK ..:) ?_;refine AA List.length_range' ?_);exact om ‹_› (by decide)
  ·(refine AA (HB 0 b) ?_;refine AA qV ?_);exact h
theorem T8(c:Nat):(L.AZ c).2.2<=3:=by
 delta L.AZ
 repeat' split
 all_goals (decide)
theorem RN(c:Nat):∃ lo hi k,L.AZ c=(lo,hi,k)/\(k=0∨k=1∨k=2∨k=3):=
 ⟨(L.AZ c).1,(L.AZ c).2.1,(L.AZ c).2.2,rfl,j6 _ (T8 c)⟩
theorem Cl{l:List Nat}(e:l.drop a=c::r):l[a]?=some c/\a<l.length/\l.drop (a+1)=r:=
 ⟨El e,(qM.mp (El e)).1,by(refine BO qA ?_;refine AA e ?_);rfl⟩
theorem Cm{l:List Nat}{a:Nat}(h:a<l.length):∃ c r,l.drop a=c::r:=⟨_,_,qa h⟩
theorem Em{a b:Nat}(h1:a<b->X)(h2:b<=a->Y):Br (decide ((a:Int)<(b:Nat))) X Y:=BD (fun p=>h1 (pI.mp p)) fun p=>h2 (oy fun q=>p (pI.mpr q))
theorem jI{a b:Nat}(h1:a<=b->X)(h2:b<a->Y):Br (decide ((a:Int)<=(b:Nat))) X Y:=T3 h1 h2
theorem RO(pl:Nat)(h1:1<=pl)(h3:pl<=3)(h:x<64 ^ pl):x<262144:=pJ h (Nat.pow_le_pow_right (by decide) h3)
theorem aj{x n:Nat}(h:x<n)(hn:n<=1000000000:=by decide):small x:=⟨qJ (by decide) (pG x),Int.lt_trans (pI.mpr (pJ h hn)) (by decide)⟩
theorem jJ(h:c<64 ^ i)(x:Nat):c*64+x % 64<64 ^ (i+1):=by
 exact j0 (Nat.mod_lt x (by decide)) h
theorem NG(Fx:AX C){a c:Nat}{r:List Nat}{i:Int}(hi:i=a)(ho:BL l)(hz:l.length<=BE)(e:l.drop a=c::r)(q:K (.tup [.int (oi (L.CF c r).1),.int (L.CF c r).2]) ν):AK C true (d+2) (AB "utf8_sign") [.bytes l,.int i] ν K:=by
 subst hi
 (refine Bq (Cl e) ?_;rintro ec hal er)
 refine A4 Fx 22 [] 6 (by kernel_rfl) ZG (by kernel_rfl) rfl fun G hG=>?_
 refine CR a rfl ec (Em (fun h=>?_) fun h128=>⟨hG (H4 Fx ?_)⟩)
 ·refine⟨CD rfl,JW q ?_⟩
  delta L.CF;(refine AA (pO h) ?_);rfl
 ·have eu:L.CF c r=(if (L.AZ c).2.2=0 then(none,1) else L.Fd (L.AZ c).1 (L.AZ c).2.1 1 (c % (64 / 2 ^ (L.AZ c).2.2)) (L.AZ c).2.2 r):=by
   delta L.CF;(refine AA (pH (Nat.not_lt.mpr h128)) ?_;rfl)
  (refine IX (RN c) ?_;rintro lo hi k ef hk)
  rw [ef] at eu ⊢
  dsimp only at eu ⊢
  refine D8 0 (fun h0=>?_) fun h0=>?_
  ·(replace q:=(eu)▸q;replace q:=(pO h0)▸q);exact⟨CD rfl,q⟩
  ·(replace eu:=(pH h0)▸eu)
   have hk:=hk.resolve_left h0
   have h64:((64:Int) / 2 ^ ((k:Int)).toNat)=((64 / 2 ^ k:Nat):Int):=by rfl
   have hm:1<=64 / 2 ^ k/\64 / 2 ^ k<=32/\1<=k/\k<=3:=by
    rcases hk with rfl | rfl | rfl<;>decide
   (have hm1:=hm.1;have hm3:=hm.2.1;have hk3:=hm.2.2.2;clear hm)
   refine⟨pG k,?_⟩
   (refine AA h64 ?_)
   generalize 64 / 2 ^ k=m at eu hm1 hm3 ⊢
   have hm2:c % m<64 ^ 1:=pJ (Nat.mod_lt c hm1) (om hm3 (by decide))
   refine⟨pI.mpr hm1,rfl,WO rfl rfl (by decide) (pC ‹_› (by decide)) ?_⟩
   refine NB (fun(c:Nat)=>.int (c:Int)) 1 k (fun t:T=>⟨[.fr (.bytes l),.fr (.int a),.fr (.int c),.fr (.int t.a),.fr (.int t.b),.fr (.int k),.fr (.int (t.c:Nat)),t.x],ν⟩) (fun t i=>t.c<64 ^ i/\i<=k+1/\L.CF c r=L.Fd t.a t.b i t.c (k+1 - i) (l.drop (a+i))) { a:=lo,b:=hi,c:=c % m } ⟨hm2,qW _ _,by(refine AA er ?_);exact eu⟩ (fun t h=>?_) fun t i h hi1 hik J hJ hr hb=>?_
   ·(replace q:=(h.2.2)▸q;replace q:=(Nat.add_comm 1 k)▸q;rewrite [Nat.sub_self] at q)
    exact⟨CD rfl,q⟩
   ·have hu:=h.2.2
    have hcb:=RO i hi1 (by lia) h.1
    (replace hu:=(show k+1 - i=(k+1 - (i+1))+1 by(exact bW (pJ hik (by lia))))▸hu)
    refine T3 (fun h=>Ab ⟨CD rfl,hr _ _ ?_⟩) fun hl=>?_
    ·(replace q:=(hu)▸q;replace q:=(pU h)▸q);exact q
    ·refine Ap fun G kk=>?_;(refine Bm (Cm hl) ?_;rintro x rr ex)
     (refine Bq (Cl ex) ?_;rintro ex1 _ ex2);refine kk ?_
     (replace hu:=(ex)▸hu)
     have bad:¬(t.a<=x/\x<=t.b)->K (.tup [.int (-1),.int i]) ν:=fun h=>by
      (replace q:=(hu)▸q;replace q:=(show L.Fd t.a t.b i t.c (k+1 - (i+1)+1) (x::rr)=(none,i) from pH h)▸q)
      exact q
     refine CR (a+i) rfl ex1 (jI (fun h1=>OX (fun h2=>Ab ⟨CD rfl,hr _ _ (bad fun y=>h2 (Int.ofNat_le.mpr y.2))⟩) fun h2=>Av ?_) fun h1=>Ab (Ab ⟨CD rfl,hr _ _ (bad fun y=>Nat.not_le.mpr h1 y.1)⟩))
     rw [show L.Fd t.a t.b i t.c (k+1 - (i+1)+1) (x::rr)=L.Fd 128 191 (i+1) (t.c*64+x % 64) (k+1 - (i+1)) rr from if_pos ⟨h1,Int.ofNat_le.mp h2⟩] at hu
     exact⟨aj hcb (by decide),CR (a+i) rfl ex1 ⟨by decide,hJ { a:=128,b:=191,c:=t.c*64+x % 64,x:=.fr (.int i) } ⟨jJ h.1 x,Nat.add_comm 1 k▸hik,by(refine AA hu ?_;refine BO ex2 ?_);rfl⟩⟩⟩
theorem FG(Fx:AX C){cs:Nat}(hc:cs=1∨cs=2∨cs=3)(hh:hn=true∨cs=2){a c:Nat}{i:Int}(hi:i=a)(ho:BL l)(hz:l.length<=BE)(e:l.drop a=c::r)(q:K (.tup [.int (oi (L.Aq cs c r).1),.int (L.Aq cs c r).2]) ν):AK C hn (d+3) (AB "sign_at") [.str (Ak cs),.bytes l,.int i] ν K:=by
 subst hi
 (refine Bq (Cl e) ?_;rintro ec hal er)
 refine A4 Fx 23 [] 0 (by kernel_rfl) ZH (by kernel_rfl) rfl fun G hG=>?_
 rcases hc with rfl | rfl | rfl
 ·refine Av (Ab (CR a rfl ec (Em (fun h=>Ab ?_) fun h=>Av ?_)))
  ·rw [show L.Aq 1 c r=(none,1) from(if_neg (by decide)).trans (if_pos ⟨rfl,h⟩)] at q
   exact⟨CD rfl,q⟩
  ·rw [show L.Aq 1 c r=(some c,1) from(if_neg (by decide)).trans (if_neg fun x=>Nat.not_lt.mpr h x.2)] at q
   exact CR a rfl ec ⟨CD rfl,q⟩
 ·refine Av (Av (Av (CR a rfl ec ?_)))
  exact⟨CD rfl,q⟩
 ·cases hh.resolve_right (by decide)
  exact Ab ⟨hG (NG Fx rfl ho hz e q)⟩
theorem Jc:∀ (k lo hi pl code:Nat) (r:List Nat),pl<=(L.Fd lo hi pl code k r).2/\(L.Fd lo hi pl code k r).2<=pl+k/\(∀ x,(L.Fd lo hi pl code k r).1=some x->x<(code+1)*64 ^ k)
 | 0,lo,hi,pl,code,r=>⟨ou _,ou _,fun x h=>by(refine sI h ?_;clear h;intro zz;induction zz);(refine AA (Nat.mul_one ..:) ?_);exact qF _⟩
 | k+1,lo,hi,pl,code,[]=>⟨ou _,pB _ _,fun x h=>(nS h)⟩
 | k+1,lo,hi,pl,code,b::r=>by
  ((rewrite [L.R7]))
  split
  ·(refine Bq (Jc k 128 191 (pl+1) (code*64+b % 64) r) ?_;rintro h1 h2 h3)
   refine⟨Nat.le_of_succ_le h1,om h2 (by(refine AA (Nat.add_assoc ..:) ?_;refine AA (Nat.add_comm 1 k) ?_);exact ou _),fun x hx=>pJ (h3 x hx) ?_⟩
   rw [Nat.pow_succ,Nat.mul_comm (64 ^ k) 64,←Nat.mul_assoc]
   exact Nat.mul_le_mul_right _ (Nat.succ_mul code 64▸qo (Nat.mod_lt b (by decide)) _)
  ·exact⟨ou _,pB _ _,fun x h=>(by cases h)⟩
theorem GV(cs c:Nat)(r:List Nat):1<=(L.Aq cs c r).2/\(L.Aq cs c r).2<=4:=by
 delta L.Aq
 split
 ·delta L.CF
  split
  ·exact⟨ou 1,(by decide:1<=4)⟩
  ·dsimp only
   split
   ·exact⟨ou 1,(by decide:1<=4)⟩
   ·(refine Bq (Jc (L.AZ c).2.2 (L.AZ c).1 (L.AZ c).2.1 1 (c % (64 / 2 ^ (L.AZ c).2.2)) r) ?_;rintro h1 h2 _)
    exact⟨h1,om h2 (qo (T8 c) 1)⟩
 ·split<;>exact⟨ou 1,(by decide:1<=4)⟩
theorem WP:∀ c<256,(L.AZ c).2.2≠0->∀ b<256,(L.AZ c).1<=b/\b<=(L.AZ c).2.1->(c % (64 / 2 ^ (L.AZ c).2.2)*64+b % 64+1)*64 ^ ((L.AZ c).2.2 - 1)<=1114112:=by decide +kernel
theorem Og{cs c:Nat}(hc:c<256)(ho:BL r){x:Nat}(h:(L.Aq cs c r).1=some x):x<1114112:=by
 delta L.Aq at h
 split at h
 ·delta L.CF at h
  split at h
  ·cases h;exact(Nat.lt_trans hc (by decide))
  ·dsimp only at h
   split at h
   ·cases h
   ·rename_i hk
    have f1:=WP c hc hk
    revert h f1 hk
    generalize L.AZ c=fc
    obtain ⟨lo,hi,k⟩:=fc
    dsimp only
    intro hk h f1
    cases k with
    | zero=>exact absurd rfl hk
    | succ k=>induction r with
     | nil=>cases h
     | cons y r=>
      (rewrite [L.R7] at h)
      split at h
      ·rename_i hy
       exact pJ ((Jc k 128 191 (1+1) _ r).2.2 x h) (f1 y (ho y (.head _)) hy)
      ·cases h
 ·split at h
  ·cases h
  ·cases h;exact(Nat.lt_trans hc (by decide))
noncomputable abbrev sl(l:List Nat):List PV:=l.map fun c=>.str [c]
theorem Ls(l:List Nat)(c:Nat):sl l ++ [PV.str [c]]=sl (l ++ [c]):=by rw [sl,sl,List.map_append];rfl
theorem Oh:(sl l).length=l.length:=pK _
theorem Oi{r l:List Nat}(e:l.drop a=c::r):L.C2 cs (f+1) (l.drop a)=(L.Aq cs c r).1.getD 65533::L.C2 cs f (l.drop (a+(L.Aq cs c r).2)):=by
 (rewrite [e];(rewrite [L.K5]);rw [←e,List.drop_drop])
theorem IR(hz:l.length<=BE)(q:G (.str l)):pM .join (.str []) [.lst (sl l)] G:=⟨rfl,l.map fun c=>[c],Lh l _,by rw [IN];exact hz,by rw [IN];exact q⟩
theorem HC(Fx:AX C)(hc:cs=1∨cs=2∨cs=3)(hh:hn=true∨cs=2)(ho:BL l)(hz:l.length+4<=BE)(q:K (.str (L.EL cs l)) ν):AK C hn (d+4) (AB "text_in") [.str (Ak cs),.bytes l] ν K:=by
 refine A4 Fx 24 [AB "signs"] 4 (by kernel_rfl) ZI (by kernel_rfl) rfl fun G hG=>?_
 refine⟨hG (DX Fx hc ⟨CD rfl,M9 (fun t:T=>⟨[.fr (.str (Ak cs)),.fr (.bytes l),.ow (sl t.l),.fr (.int (t.a:Nat)),t.x,t.y],ν⟩) (fun t=>t.l.length<=t.a/\t.a<=l.length+3/\l.length<=t.a+t.f/\L.EL cs l=t.l ++ L.C2 cs t.f (l.drop t.a)) (fun t=>l.length - t.a) { f:=l.length } ⟨pQ _,pQ _,by rw [Nat.zero_add];exact ou _,rfl⟩ fun t h J E hJ hr hb hE=>?_⟩)⟩
 have hq:=h.2.2.2
 refine Em (fun hal=>?_) fun hal=>?_
 ·(refine Bm (Cm hal) ?_;rintro c r e)
  have hs:=GV cs c r
  have hlt:=fun x h=>Og (cs:=cs) (ho c (qD (by rw [e];exact .head _:c∈l.drop t.a))) (fun y hy=>ho y (qD (by rw [e];exact .tail _ hy:y∈l.drop t.a))) (x:=x) h
  obtain ⟨f,hf⟩:∃ f',t.f=f'+1:=⟨t.f - 1,fp h.2.2.1 hal⟩
  (replace hq:=(hf)▸hq;replace hq:=(Oi e)▸hq)
  refine⟨hG (FG Fx hc hh rfl ho (om (pB _ 4) hz) e ?_)⟩
  have hoz:(sl t.l).length<BE:=by rw [Oh];exact pC h.1 (pJ hal (om (pB _ 4) hz))
  generalize L.Aq cs c r=sg at hq hs hlt
  obtain ⟨s,n⟩:=sg
  have key:∀ (x:Nat) (y z),s.getD 65533=x->J .next ⟨[.fr (.str (Ak cs)),.fr (.bytes l),.ow (sl t.l ++ [PV.str [x]]),.fr (.int ((t.a:Int)+(n:Nat))),.fr y,.fr z],ν⟩:=fun x y z hx=>by
   rw [Ls]
   refine hJ { a:=t.a+n,l:=t.l ++ [x],f:=f,x:=.fr y,y:=.fr z } ⟨?_,?_,?_,?_⟩ (pz hal (qc hs.1))
   ·rw [List.length_append];exact o7 h.1 hs.1
   ·exact j4 hal hs.2
   ·exact fs (hf▸h.2.2.1) hs.1
   ·rw [hq,hx,List.append_assoc];rfl
  cases s with
  | none=>exact BD (fun h=>absurd (show (0:Int)<=-1 from h) (by decide)) fun _=>⟨hoz,key 65533 _ _ rfl⟩
  | some x=>
   exact BD (fun _=>⟨(ck (hlt x rfl) (by decide)).1,(ck (hlt x rfl) (by decide)).2,hoz,key x _ _ rfl⟩) fun h=>absurd (pG x) h
 ·(replace hq:=(pU hal)▸hq;replace hq:=(show L.C2 cs t.f []=[] by induction t.f<;>rfl)▸hq;rewrite [List.append_nil] at hq)
  rw [hq] at q
  exact hE _ (IR (om (om h.1 h.2.1) (om (Nat.le_succ _) hz)) q)
end
end Mine.Lake
set_option maxHeartbeats 4000000
namespace Mine.Lake
section
variable{C:Al}{hn:Bool}{d:Nat}{ν:Pu}{K:PV->Pu->Prop}
theorem B0(l:List α){a b:Nat}{i j:Int}(hi:i=a)(hj:j=b):pcut l (some i) (some j)=(l.drop a).take (b - a):=by
 subst hi hj
 refine(?_:(l.drop (pclip l.length a)).take (pclip l.length b - pclip l.length a)=_)
 have e:∀ x:Nat,pclip l.length x=min x l.length:=fun x=>by
  exact jy _ _
 (refine AA (e ..:) ?_;refine AA (e ..:) ?_)
 apply List.ext_getElem?
 intro n
 (refine AA (List.getElem?_take) ?_;refine AA (List.getElem?_take) ?_;refine AA (qf) ?_;refine AA (qf) ?_)
 by_cases h:a<=l.length
 ·(refine AA (Nat.min_eq_left h) ?_)
  by_cases h2:n<b - a
  ·(refine AA (pO h2) ?_)
   by_cases h3:n<min b l.length - a
   ·(refine AA (pO h3) ?_;rfl)
   ·(refine AA (pH h3) ?_;refine AA (List.getElem?_eq_none (m6 h2 h3)) ?_;rfl)
  ·(refine AA (pH h2) ?_;refine AA (pH (m9 h2)) ?_;rfl)
 ·(refine AA (List.getElem?_eq_none (nA h)) ?_;refine AA (List.getElem?_eq_none (Nat.le_add_right_of_le (Nat.le_of_not_le h))) ?_;refine AA (ite_self ..:) ?_;refine AA (ite_self ..:) ?_;rfl)
theorem NH{x y:Int}(hx:0<=x)(k:Nat)(hk:n=x.toNat % 2 ^ k)(hy:y=2 ^ k - 1):Builtin.bitAnd x y=n:=by
 subst hk
 have h2:(0:Int)<=2 ^ k - 1:=by
  have:(1:Int)<=2 ^ k:=by exact_mod_cast Nat.one_le_two_pow
  exact Int.sub_nonneg_of_le this
 subst hy
 delta Builtin.bitAnd
 (refine AA (qe hx) ?_;refine AA (qe h2) ?_)
 refine(?_:((x.toNat &&& ((2:Int) ^ k - 1).toNat:Nat):Int)=_)
 have e:((2:Int) ^ k - 1).toNat=2 ^ k - 1:=by
  exact Int.toNat_sub _ _
 (refine AA e ?_;refine AA (Nat.and_two_pow_sub_one_eq_mod ..:) ?_;rfl)
theorem Oj{m:Nat}(hi:i=(m:Int) - 1)(hm:m<=1000000)(h:G (il (List.range m).reverse)):MZ true .range [.int i,.int (-1),.int (-1)] G:=by
 subst hi
 have e:rangeInts ((m:Int) - 1) ((m:Int) - 1 - (-1)).toNat (-1)=(List.range m).reverse.map fun(c:Nat)=>(c:Int):=by
  (refine AA (nB m) ?_)
  delta rangeInts
  apply List.ext_getElem
  ·(refine AA (pK ..:) ?_;refine AA (pK ..:) ?_;refine AA List.length_reverse ?_;rfl)
  ·intro n h1 h2
   rw [List.length_map,List.length_range] at h1
   simp
   exact nE h1
 refine⟨⟨[(m:Int) - 1,-1,-1],rfl,fun n hn=>?_⟩,.inr ⟨rfl,?_,?_⟩⟩
 ·cases hn with
  | head=>exact nF hm
  | tail _ hn=>cases hn with
   | head=>exact⟨by decide,by decide⟩
   | tail _ hn=>cases hn with
    | head=>exact⟨by decide,by decide⟩
    | tail _ hn=>cases hn
 ·(refine AA e ?_;refine AA (pK ..:) ?_;refine AA List.length_reverse ?_;refine AA List.length_range ?_);exact om hm (by decide)
 ·(refine AA e ?_;refine AA qV ?_);exact h
theorem NI(a b:Nat):(a:Int) / 2 ^ b=((a / 2 ^ b:Nat):Int):=by
 exact congrArg ((a:Int) / ·) (Int.natCast_pow 2 b).symm
theorem RP{r:List Nat}(hl:r.length+1<=4)(hw:w<64)(ht:t<64 ^ (4 - (r.length+1))):64*t+w<64 ^ (4 - r.length):=by
 (refine AA (show 4 - r.length=(4 - (r.length+1))+1 by exact bW hl) ?_;refine AA (Nat.pow_succ ..:) ?_);exact mF hw ht
theorem lJ(hm:ws.length=m+1)(hl:m<=3):(6*((il ws).length:Int) - 8*(((il ws).length:Int) - 1)).toNat=6*ws.length - 8*(ws.length - 1)/\0<=6*((il ws).length:Int) - 8*(((il ws).length:Int) - 1)/\6*((il ws).length:Int) - 8*(((il ws).length:Int) - 1)<=256:=by
 (refine AA Ce ?_;refine AA hm ?_);exact go4 m hl
theorem Jd(Fx:AX C){ws:List Nat}(hw:∀ w∈ws,w<64)(h2:2<=ws.length)(h4:ws.length<=4)(q:∀ x,K (.tup [.bytes (L.AQ ws),.int x]) ν):AK C true (d+1) (AB "group_octets") [.lst (il ws)] ν K:=by
 refine Ap fun G kk=>?_;obtain ⟨m,hm⟩:∃ m,ws.length=m+1:=⟨ws.length - 1,(Nat.sub_add_cancel (Nat.le_of_succ_le h2)).symm⟩
 have hm3:=Nat.le_of_succ_le_succ (show m+1<=4 from hm▸h4)
 (refine Bq (lJ hm hm3) ?_;rintro g1 g2 g3);refine kk ?_
 refine A4 Fx 4 [] 5 (by kernel_rfl) cY (by kernel_rfl) rfl fun G hG=>?_
 refine⟨rfl,NA (fun(c:Nat)=>.int (c:Int)) (fun t:T=>⟨[.fr (.lst (il ws)),.fr (.int (t.a:Nat)),t.x,.un,.un,.un],ν⟩) (fun t r=>r.length<=4/\(∀ w∈r,w<64)/\t.a<64 ^ (4 - r.length)/\r.foldl (fun t n=>64*t+n) t.a=ws.foldl (fun t n=>64*t+n) 0) {} ws ⟨h4,hw,Nat.pow_pos (by decide),rfl⟩ (fun t h=>?_) fun t w r h J hJ hr hb=>?_⟩
 ·have hgo:L.AQ ws=(List.range m).reverse.map fun place=>(t.a / 2 ^ (6*ws.length - 8*(ws.length - 1))) / 2 ^ (8*place) % 256:=by
   delta L.AQ
   (refine BO h.2.2.2 ?_;refine AA (show ws.length - 1=m by(refine AA hm ?_);rfl) ?_);rfl
  refine⟨⟨by decide,by decide⟩,⟨by decide,by decide⟩,g2,rfl,Oj (by(refine AA Ce ?_;refine AA hm ?_;refine AA (Int.natCast_add ..:) ?_);lia) (om hm3 (by decide)) ?_⟩
  (refine AA g1 ?_;refine AA (NI ..:) ?_)
  (replace q:=(hgo)▸q)
  generalize t.a / 2 ^ (6*ws.length - 8*(ws.length - 1))=w at q ⊢
  refine Bw (fun c=>.int ((w / 2 ^ (8*c) % 256:Nat))) (List.range m).reverse (by(refine AA List.length_reverse ?_;refine AA List.length_range ?_);exact om hm3 (by decide)) (fun c hc J hJ=>Ab ⟨⟨by decide,by decide⟩,Int.mul_nonneg (by decide) (pG c),?_⟩) ?_
  ·exact Yu hJ (congrArg PV.int (NH (pG _) 8 (by(rfl)) rfl))
  ·exact⟨(List.range m).reverse.map fun place=>w / 2 ^ (8*place) % 256,by(refine AA qV ?_);rfl,rfl,fun x hx=>by
    (refine AE (qL.mp hx) ?_;rintro c _ rfl)
    exact Nat.mod_lt _ (by decide),⟨by decide,by decide⟩,g2,g3,CD rfl,q _⟩
 ·refine⟨⟨by decide,by decide⟩,hJ { a:=64*t.a+w,x:=.fr (.int w) } ⟨Nat.le_of_succ_le h.1,fun x hx=>h.2.1 x (.tail _ hx),RP h.1 (h.2.1 w (.head _)) h.2.2.1,h.2.2.2⟩⟩
noncomputable def C0(z:Int):Option Int:=if 0<=z then(L.worth z.toNat).map fun(x:Nat)=>(x:Int) else none
noncomputable def HD(C:Al):Prop:=∀ (d:Nat) (ν:Pu) (K:PV->Pu->Prop),K (.idict C0) ν->AK C true (d+1) (AB "worth_table") [pvSixty] ν K
theorem Je(c:Nat):C0 (c:Int)=(L.worth c).map fun(x:Nat)=>(x:Int):=by
 (rfl)
theorem Jf(h:L.worth c=some x):x<64:=by
 delta L.worth at h
 repeat' split at h
 all_goals first | (cases h;first | (rename_i g;exact mG g.2 (by decide)) | (rename_i g;exact pC (pg g.2 4) (by decide)) | decide) | cases h
theorem NK:∀ (t:List Nat),L.A5 t=(if 1<t.length then L.AQ (t.take 4) else []) ++ L.A5 (t.drop 4)
 | []=>by rfl
 | [a]=>by rfl
 | [a,b]=>by rfl
 | [a,b,c]=>by rfl
 | a::b::c::d::r=>by rfl
theorem HE(ws:List Nat):(L.AQ ws).length=ws.length - 1:=by simp [L.AQ]
theorem am(l:List Nat)(a b:Option Int):pcut (il l) a b=il (pcut l a b):=Mk _ _ _ _
theorem WQ{j:Int}{b:Nat}(hj:j=b)(hb:b<=1000000)(h:G (((List.range' 0 ((b+3) / 4))).map fun(c:Nat)=>.int ((4*c:Nat):Int))):MZ true .range [.int 0,.int j,.int 4] G:=by
 subst hj
 have e:rangeInts 0 (((b:Int) - 0+4 - 1) / 4).toNat 4=(List.range' 0 ((b+3) / 4)).map fun(c:Nat)=>((4*c:Nat):Int):=by
  (refine AA (show (((b:Int) - 0+4 - 1) / 4).toNat=(b+3) / 4 from rg b 3) ?_)
  delta rangeInts
  apply List.ext_getElem
  ·simp
  ·intro n h1 h2
   simp
   exact Int.mul_comm ..
 refine⟨⟨[0,(b:Int),4],rfl,fun n hn=>?_⟩,.inl ⟨.inl rfl,?_,?_⟩⟩
 ·cases hn with
  | head=>exact Lr (by decide)
  | tail _ hn=>cases hn with
   | head=>exact Lr hb
   | tail _ hn=>cases hn with
    | head=>exact Lr (by decide)
    | tail _ hn=>cases hn
 ·(refine AA e ?_;refine AA (pK ..:) ?_;refine AA List.length_range' ?_);exact j7 (om (pg hb 3) (by decide)) 4
 ·(refine AA e ?_;refine AA qV ?_);exact h
noncomputable abbrev bl(l:List (List Nat)):List PV:=l.map .bytes
theorem QJ(l:List (List Nat))(c:List Nat):bl l ++ [PV.bytes c]=bl (l ++ [c]):=by(rewrite [bl];rewrite [bl];refine AA qh ?_);rfl
theorem T9:(bl l).length=l.length:=pK _
theorem QK(hz:l.flatten.length<=BE)(q:G (.bytes l.flatten)):pM .join (.bytes []) [.lst (bl l)] G:=⟨rfl,l,rfl,hz,q⟩
theorem lK{k x:Int}(h:f k=some x)(q:G (.int x)):It ν (.idict f) (.int k) G:=by
 refine⟨?_⟩
 refine(?_:(match f k with | some p=>G (.int p) | none=>False))
 (refine AA h ?_);exact q
theorem WR(h:¬c=61)(r:List Nat):(c::r).takeWhile (· != 61)=c::r.takeWhile (· != 61):=by(refine AA List.takeWhile_cons ?_;refine AA (pO (bne_iff_ne.mpr h)) ?_;rfl)
theorem RQ(Fx:AX C)(hW:HD C){l:List Nat}(hz:l.length<=1000000)(q:K (.bytes (L.Bi l)) ν):AK C true (d+2) (AB "decoded") [.bytes l] ν K:=by
 generalize hws:(l.takeWhile (· != 61)).filterMap L.worth=ws
 have hb:L.Bi l=L.A5 ws:=by(refine BO hws ?_);rfl
 (replace q:=(hb)▸q)
 have hwl:ws.length<=l.length:=by
  (refine BO hws ?_)
  exact om (List.length_filterMap_le _ _) ((List.takeWhile_sublist _).length_le)
 have hw64:∀ w∈ws,w<64:=fun w hw=>by
  rw [←hws] at hw
  (refine AE (List.mem_filterMap.mp hw) ?_;rintro c _ hc)
  exact Jf hc
 refine A4 Fx 5 [AB "worth_row",AB "found"] 5 (by kernel_rfl) cu (by kernel_rfl) rfl fun G hG=>?_
 refine⟨hG (hW _ _ _ ⟨CD rfl,rfl,ki (fun(c:Nat)=>.int (c:Int)) (fun t:T=>⟨[.fr (.bytes l),.fr (.idict C0),.ow (il t.l),t.x,.un,.un],ν⟩) (fun t r=>t.l.length+r.length<=l.length/\ws=t.l ++ (r.takeWhile (· != 61)).filterMap L.worth) (fun t=>t.l=ws) {} l ⟨by(refine AA (qC ..:) ?_);exact ou _,hws.symm⟩ (fun t h=>(by(refine AA h.2 ?_);exact(qH _).symm)) (fun t c r h J hJ hr hb=>?_) fun t h=>?_⟩)⟩
 ·have hl:=h.1
  have hd:=h.2
  have hlz:(il t.l).length<BE:=by(refine AA Ce ?_);exact pC (om (om (pB ..) h.1) hz) (by decide)
  refine D8 61 (fun hc=>?_) fun hc=>?_
  ·subst hc
   (replace hd:=(List.filterMap_nil)▸hd;rewrite [List.append_nil] at hd)
   exact hb { t with x:=.fr (.int (61:Nat)) } hd.symm
  ·(rewrite [WR hc] at hd;replace hd:=(List.filterMap_cons)▸hd)
   have hwc:=Je c
   cases hx:L.worth c with
   | none=>
    rw [hx] at hd hwc
    refine(show Br (C0 c).isSome _ _ from ?_)
    (refine AA hwc ?_)
    exact Av (hJ { t with x:=.fr (.int c) } ⟨qU hl,hd⟩)
   | some x=>
    rw [hx] at hd hwc
    refine(show Br (C0 c).isSome _ _ from ?_)
    (refine AA (show (C0 (c:Int)).isSome=true by(refine AA hwc ?_);rfl) ?_)
    refine Ab (lK hwc ⟨hlz,?_⟩)
    (refine AA (Lg ..:) ?_)
    exact hJ { l:=t.l ++ [x],x:=.fr (.int c) } ⟨by(refine AA o9 ?_);exact oy fun q=>nl (FO l.length t.l.length r.length) ⟨false,(nP (nW Ae) (nP Ag (nW BK))),(nP (nP (nW Ag) BK) Ae)⟩ rfl (nQ q hl),by(refine AA hd ?_;refine AA (pD ..:) ?_);rfl⟩
 ·(refine AA h ?_)
  have hwz:=om hwl hz
  refine⟨CD rfl,rfl,WQ (congrArg _ Ce) hwz (NB (fun(c:Nat)=>.int ((4*c:Nat):Int)) 0 ((ws.length+3) / 4) (fun u:T=>⟨[.fr (.bytes l),.fr (.idict C0),.fr (.lst (il ws)),t.x,.ow (bl u.bs),u.x],ν⟩) (fun u i=>L.A5 ws=u.bs.flatten ++ L.A5 (ws.drop (4*i))/\u.bs.flatten.length<=4*i/\u.bs.length<=i) {} ⟨rfl,ou _,ou _⟩ (fun u h=>?_) fun u i h h0 hi J hJ hr hb=>?_)⟩
  ·have hch:=h.1
   (rewrite [List.drop_eq_nil_of_le mB] at hch;replace hch:=(show L.A5 []=[] from rfl)▸hch;rewrite [List.append_nil] at hch)
   (replace q:=(hch)▸q)
   exact QK (om (om h.2.1 (qC _▸Nat.mul_div_le (ws.length+3) 4)) (om (pg hwz 3) (by decide))) q
  ·have hlz:(bl u.bs).length<BE:=by(refine AA T9 ?_);exact pC h.2.2 (pJ hi (qC _▸j7 (om (pg hwz 3) (by decide)) 4))
   have hch:=h.1
   (replace hch:=(NK (ws.drop (4*i)))▸hch;replace hch:=(qA)▸hch;replace hch:=(qj)▸hch)
   refine BD (fun hg=>?_) fun hg=>?_
   ·have hg:1<ws.length - 4*i:=by(replace hg:=(Ce)▸hg);exact nG hg
    (replace hch:=(pO hg)▸hch)
    refine⟨?_⟩
    (refine AA (am ..:) ?_;refine AA (B0 (b:=4*i+4) ws rfl rfl) ?_;refine AA (qX ..:) ?_)
    have hl:((ws.drop (4*i)).take 4).length=min 4 (ws.length - 4*i):=by(refine AA List.length_take ?_;refine AA qj ?_;rfl)
    refine hG (Jd Fx (fun w hw=>hw64 w (qD (List.mem_of_mem_take hw))) (by(refine AA hl ?_);(exact Nat.le_min.mpr ⟨by decide,hg⟩)) (by(refine AA hl ?_);exact Nat.min_le_left _ _) fun x=>Dl 0 rfl rfl ⟨hlz,?_⟩)
    (refine AA (QJ ..:) ?_)
    refine hJ { bs:=u.bs ++ [L.AQ ((ws.drop (4*i)).take 4)],x:=.fr (.int ((4*i:Nat):Int)) } ⟨?_,?_,?_⟩
    ·(refine AA hch ?_;refine AA List.flatten_append ?_;refine AA (pD ..:) ?_;refine AA List.flatten_singleton ?_;rfl)
    ·(refine AA List.flatten_append ?_;refine AA o9 ?_;refine AA List.flatten_singleton ?_;refine AA (HE ..:) ?_;refine AA hl ?_)
     exact o7 h.2.1 (om (Nat.sub_le _ _) (Nat.min_le_left _ _))
    ·(refine AA o9 ?_);exact qb h.2.2
   ·have hg:¬1<ws.length - 4*i:=by(replace hg:=(Ce)▸hg);exact nH hg
    (replace hch:=(pH hg)▸hch)
    exact hJ { u with x:=.fr (.int ((4*i:Nat):Int)) } ⟨hch,om h.2.1 (pB _ _),qP h.2.2⟩
end
end Mine.Lake
set_option maxHeartbeats 4000000
namespace Mine.Lake
section
variable{C:Al}{hn:Bool}{d:Nat}{ν:Pu}{K:PV->Pu->Prop}
noncomputable def Ku(t:List Nat):Option (List Nat):=if t∈L.BT then some (Ak 1) else if t∈L.BU then some (Ak 2) else if t∈L.Bx then some (Ak 3) else none
noncomputable def HF(C:Al):Prop:=∀ (d:Nat) (ν:Pu) (K:PV->Pu->Prop),K (.sdict Ku) ν->AK C true (d+1) (AB "charset_names") [] ν K
theorem WS(t:List Nat):(Ku (t.map L.Af)).getD []=Ak (L.As t):=by
 delta Ku L.As
 by_cases h1:t.map L.Af∈L.BT
 ·(refine AA (pO h1) ?_;refine AA (pO h1) ?_);rfl
 ·(refine AA (pH h1) ?_;refine AA (pH h1) ?_)
  by_cases h2:t.map L.Af∈L.BU
  ·(refine AA (pO h2) ?_;refine AA (pO h2) ?_);rfl
  ·(refine AA (pH h2) ?_;refine AA (pH h2) ?_)
   by_cases h3:t.map L.Af∈L.Bx
   ·(refine AA (pO h3) ?_;refine AA (pO h3) ?_);rfl
   ·(refine AA (pH h3) ?_;refine AA (pH h3) ?_);rfl
theorem Jg(Fx:AX C)(hN:HF C)(hz:t.length<=BE)(ha:∀ c∈t,c<1000000)(q:K (.str (Ak (L.As t))) ν):AK C true (d+3) (AB "charset_name") [.str t] ν K:=by
 refine A4 Fx 19 [] 0 (by kernel_rfl) Y4 (by kernel_rfl) rfl fun G hG=>?_
 refine⟨hG (hN _ _ _ ⟨hG (D9 Fx hz ha ?_)⟩)⟩
 rw [←WS] at q
 exact q
noncomputable def F1(l:List Nat)(a:Nat):Option Nat:=if l[a+((l.drop a).takeWhile L.Az).length]?=some 63 then some (a+((l.drop a).takeWhile L.Az).length) else none
theorem Ok(Fx:AX C){a:Nat}{i:Int}(hi:i=a)(q:K (.int (oi (F1 l a))) ν):AK C true (d+2) (AB "part_end") [.bytes l,.int i] ν K:=by
 subst hi
 delta F1 at q
 refine A4 Fx 41 [] 1 (by kernel_rfl) ZW (by kernel_rfl) rfl fun G hG=>?_
 generalize hn:a+((l.drop a).takeWhile L.Az).length=e at q
 refine M9 (fun t:T=>⟨[.fr (.bytes l),.fr (.int a),.fr (.int (t.a:Nat))],ν⟩) (fun t=>t.a+((l.drop t.a).takeWhile L.Az).length=e) (fun t=>l.length - t.a) { a:=a } hn fun t he J E hJ hr hb hE=>?_
 by_cases hl:t.a<l.length
 ·(refine Bm (Cm hl) ?_;rintro c r ex)
  (refine Bq (Cl ex) ?_;rintro ex1 _ ex2)
  (replace he:=(ex)▸he)
  refine BD (fun _=>CR t.a rfl ex1 ⟨hG (Ja Fx ?_)⟩) fun h=>absurd (pI.mpr hl) h
  cases hw:L.Az c with
  | true=>
   (replace he:=(List.takeWhile_cons)▸he;replace he:=(pO hw)▸he;replace he:=(qG)▸he;rewrite [Nat.add_comm _ 1] at he;rewrite [←Nat.add_assoc] at he)
   exact Ab (Ab (hJ { a:=t.a+1 } (by(refine AA ex2 ?_);exact he) (pz hl (qF _))))
  | false=>
   (replace he:=(List.takeWhile_cons)▸he;rewrite [if_neg (by(refine AA hw ?_);exact Bool.false_ne_true)] at he;replace he:=(List.length_nil)▸he;rewrite [Nat.add_zero] at he)
   subst he
   (replace q:=(ex1)▸q)
   refine Av (Av (hE _ (BD (fun _=>CR t.a rfl ex1 (D8 63 (fun h=>Ab ?_) fun h=>Av ?_)) fun h=>absurd (pI.mpr hl) h)))
   ·(replace q:=(pO (congrArg some h))▸q);exact q
   ·(replace q:=(pH fun hh=>h (pP hh))▸q);exact q
 ·have e0:=pU (oy hl)
  rw [e0,List.takeWhile_nil,List.length_nil,Nat.add_zero] at he
  subst he
  (replace q:=(List.getElem?_eq_none (oy hl))▸q;rewrite [if_neg (fun h=>(nS h))] at q)
  refine BD (fun h=>absurd (pI.mp h) hl) fun _=>Av (hE _ (BD (fun h=>absurd (pI.mp h) hl) fun _=>Av q))
theorem WT(l:List Nat)(a:Nat):(l.drop a).dropWhile L.Az=l.drop (a+((l.drop a).takeWhile L.Az).length):=by
 have h:=List.takeWhile_append_dropWhile (p:=L.Az) (l:=l.drop a)
 (refine BO qA ?_)
 generalize hx:l.drop a=x at*
 have h2:=List.drop_left' (l₁:=x.takeWhile L.Az) (l₂:=x.dropWhile L.Az) rfl
 (replace h2:=(h)▸h2)
 exact h2.symm
set_option tactic.hygienic true in
theorem HG(l:List Nat)(a:Nat):L.upTo (l.drop a)=(F1 l a).map fun e=>((l.drop a).take (e - a),l.drop (e+1)):=by
 delta L.upTo F1
 (refine AA (WT ..:) ?_)
 generalize hn:((l.drop a).takeWhile L.Az).length=n
 have htw:(l.drop a).takeWhile L.Az=(l.drop a).take n:=by
  (refine BO hn ?_)
  exact(List.prefix_iff_eq_take.mp (List.takeWhile_prefix _))
 by_cases h:a+n<l.length
 ·refine Ap fun G kk=>?_;(refine Bm (Cm h) ?_;rintro c r ex)
  (refine Bq (Cl ex) ?_;rintro ex1 _ ex2);refine kk ?_
  (refine AA ex ?_;refine AA ex1 ?_;refine AA htw ?_)
  by_cases hc:c=63
  ·subst hc
   (refine AA (pO rfl) ?_)
   simp only [Option.map_some]
   (refine AA ex2 ?_;refine AA (show a+n - a=n by exact qX ..) ?_;rfl)
  ·(refine AA (pH (by simpa using hc)) ?_)
   show Option.map _ (if c=63 then some r else none)=_
   rw [if_neg hc];rfl
 ·rw [List.drop_eq_nil_of_le (Nat.le_of_not_lt h),List.getElem?_eq_none (Nat.le_of_not_lt h)]
  rfl
theorem WU(h:F1 l a=some e):a<=e/\e<l.length/\l[e]?=some 63:=by
 delta F1 at h
 split at h
 ·rename_i h63
  (refine sI h ?_;clear h;intro zz;induction zz)
  exact⟨pB _ _,(qM.mp h63).1,h63⟩
 ·exact nS h
noncomputable def ends(l:List Nat):Nat->Nat->Option (List Nat)
 | 0,_=>some []
 | j+1,m=>(F1 l (m+1)).bind fun e=>(ends l j e).map (e::·)
theorem lL:ends l 0 u1=(some []):=rfl
theorem an:ends l (j+1) m=((F1 l (m+1)).bind fun e=>(ends l j e).map (e::·)):=rfl
noncomputable def wpAt(l:List Nat)(a:Nat):Option (List Nat×List Nat×List Nat×Nat):=(L.BN (l.drop a)).map fun x=>(x.1,x.2.1,x.2.2.1,l.length - x.2.2.2.length)
noncomputable def jt(l:List Nat)(a:Nat)(e:List Nat):Option (List Nat×List Nat×List Nat×Nat):=match e with
 | [e1,e2,e3]=>if (l.drop e3).take 2=[63,61] then some ((l.drop (a+2)).take (e1 - (a+2)),(l.drop (e1+1)).take (e2 - (e1+1)),(l.drop (e2+1)).take (e3 - (e2+1)),e3+2) else none
 | _=>none
theorem jK(l:List Nat)(a:Nat):wpAt l a=if (l.drop a).take 2=[61,63] then(ends l 3 (a+1)).bind (jt l a) else none:=by
 delta wpAt
 by_cases h:(l.drop a).take 2=[61,63]
 ·have e2:l.drop a=61::63::l.drop (a+2):=by
   (refine BO (List.take_append_drop 2 (l.drop a)) ?_;refine AA h ?_;refine AA qA ?_);rfl
  rw [if_pos h,e2,L.HR]
  delta L.H7
  rw [HG]
  show _=((F1 l (a+2)).bind fun e=>(ends l 2 e).map (e::·)).bind (jt l a)
  cases h1:F1 l (a+2) with
  | none=>rfl
  | some e1=>
   show Option.map _ ((L.upTo (l.drop (e1+1))).bind _)=(((F1 l (e1+1)).bind fun e=>(ends l 1 e).map (e::·)).map (e1::·)).bind (jt l a)
   rw [HG]
   cases h2:F1 l (e1+1) with
   | none=>rfl
   | some e2=>
    show Option.map _ ((L.upTo (l.drop (e2+1))).bind _)=((((F1 l (e2+1)).bind fun e=>(ends l 0 e).map (e::·)).map (e2::·)).map (e1::·)).bind (jt l a)
    rw [HG]
    cases h3:F1 l (e2+1) with
    | none=>rfl
    | some e3=>
     refine Ap fun G kk=>?_;(refine Bq (WU h3) ?_;rintro p1 p2 p3)
     (refine Bm (Cm p2) ?_;rintro c r ex)
     (refine Bq (Cl ex) ?_;rintro ex1 _ ex2);refine kk ?_
     (replace ex1:=(p3)▸ex1)
     rw [←(Option.some.inj ex1)] at ex
     show Option.map _ (Option.map _ (L.VF 61 (l.drop (e3+1))))=if (l.drop e3).take 2=[63,61] then _ else none
     rw [ex,ex2]
     cases r with
     | nil=>rfl
     | cons x r=>
      by_cases hx:x=61
      ·rw [hx] at ex ⊢
       rw [L.EM,if_pos (show List.take 2 (63::61::r)=[63,61] from rfl)]
       have el:l.length - r.length=e3+2:=by
        have:=congrArg List.length ex
        rw [List.length_drop,List.length_cons,List.length_cons] at this
        exact nI this
       show some (_,_,_,l.length - r.length)=_
       rw [el]
      ·have n1:L.VF 61 (x::r)=none:=pH hx
       rw [n1,if_neg fun q=>hx (by injection q with _ q;injection q)];rfl
 ·have:L.BN (l.drop a)=none:=by
   cases z:L.BN (l.drop a) with
   | none=>rfl
   | some v=>
    induction L.Fg z with
    | mk o1 o2 o3 e e1 e2 e3=>exact absurd (by rw [e];rfl) h
  (refine AA this ?_;refine AA (pH h) ?_);rfl
theorem Kv(c:Nat):([9,10,13,32]:List Int).any (·==(c:Int))=L.AV c:=by
 have e:=fun n=>by
  exact j5 n c
 refine(?_:((9:Int)==c||((10:Int)==c||((13:Int)==c||((32:Int)==c||false))))=(c==9||c==10||c==13||c==32))
 (refine AA (show ((9:Int)==c)=(c==9) from(e 9)) ?_;refine AA (show ((10:Int)==c)=(c==10) from(e 10)) ?_;refine AA (show ((13:Int)==c)=(c==13) from(e 13)) ?_;refine AA (show ((32:Int)==c)=(c==32) from(e 32)) ?_;refine AA (Bool.or_false ..:) ?_;refine AA (Bool.or_assoc ..:) ?_;refine AA (Bool.or_assoc ..:) ?_;rfl)
theorem lM(h1:L.AV c=true->X)(h2:L.AV c=false->Y):Br (([9,10,13,32]:List Int).any (·==(c:Int))) X Y:=by
 (refine AA (Kv ..:) ?_);exact⟨h1,h2⟩
theorem Xj(h1:L.AV c=false->X)(h2:L.AV c=true->Y):Br (!(([9,10,13,32]:List Int).any (·==(c:Int)))) X Y:=by
 (refine AA (Kv ..:) ?_)
 cases h:L.AV c with
 | true=>exact Av (h2 h)
 | false=>exact Ab (h1 h)
noncomputable def Cf(l:List Nat)(a:Nat):Option Nat:=if a=0 then none else l[a - 1]?
noncomputable def Ol(r:List Nat):Bool:=match r with | []=>true | c::_=>L.AV c||c==41
theorem oY(c a:Nat):decide ((c:Int)=a)=(c==a):=by
 exact nY c a
theorem Om(Fx:AX C){a e:Nat}{i j:Int}(hi:i=a)(hj:j=e)(ha:a<=l.length)(he:e<=l.length)(q:K (.bool (L.apart (Cf l a) (l.drop e))) ν):AK C hn (d+1) (AB "is_apart") [.bytes l,.int i,.int j] ν K:=by
 subst hi hj
 refine A4 Fx 43 [] 0 (by kernel_rfl) Zf (by kernel_rfl) rfl fun G hG=>?_
 have fin:K (.bool (Ol (l.drop e))) ν->cS hn Bg (Bj G hn Bg 29) [Xb] ⟨[.fr (.bytes l),.fr (.int (a:Nat)),.fr (.int (e:Nat))],ν⟩ (FN K):=fun q=>by
  by_cases h:e<l.length
  ·(refine Bm (Cm h) ?_;rintro c r ex)
   (refine Bq (Cl ex) ?_;rintro ex1 _ _)
   (replace q:=(ex)▸q;replace q:=(show Ol (c::r)=(L.AV c||c==41) from rfl)▸q)
   refine BD (fun h'=>absurd (qY h') (pX h)) fun _=>CR e rfl ex1 (lM (fun hw=>?_) fun hw=>CR e rfl ex1 ?_)
   ·(replace q:=(hw)▸q;rewrite [Bool.true_or] at q);exact q
   ·(replace q:=(hw)▸q;rewrite [←oY] at q);exact q
  ·(replace q:=(pU (oy h))▸q)
   exact BD (fun _=>q) fun h'=>absurd (congrArg Int.ofNat (Nat.le_antisymm he (oy h))) h'
 unfold Cf at q
 by_cases h:a=0
 ·rw [if_pos h] at q
  exact BD (fun h'=>absurd (pI.mp h') (by(refine AA h ?_);exact Nat.lt_irrefl 0)) fun _=>Av (Cu (fin q))
 ·have hp:=Nat.pos_of_ne_zero h
  have hlt:a - 1<l.length:=pJ (Nat.sub_lt hp (by decide)) ha
  have hc:=o8 hlt
  (rewrite [if_neg h] at q;replace q:=(hc)▸q)
  generalize l[a - 1]=c at hc q
  have q:K (.bool ((L.AV c||c==40)&&Ol (l.drop e))) ν:=q
  have hi:=(Int.ofNat_sub hp).symm
  refine BD (fun _=>CR (a - 1) hi hc (Xj (fun hw=>CR (a - 1) hi hc (ag 40 (fun h'=>Ab ?_) fun h'=>Av (Cu (fin ?_)))) fun hw=>Av (Cu (fin ?_)))) fun h'=>absurd (pI.mpr hp) h'
  ·(replace q:=(hw)▸q;rewrite [Bool.false_or] at q;replace q:=(qT.mpr h')▸q;rewrite [Bool.false_and] at q);exact q
  ·(replace q:=(h')▸q;replace q:=(show (L.AV 40||40==40)=true from rfl)▸q;rewrite [Bool.true_and] at q);exact q
  ·(replace q:=(hw)▸q;rewrite [Bool.true_or] at q;rewrite [Bool.true_and] at q);exact q
end
end Mine.Lake
set_option maxHeartbeats 4000000
namespace Mine.Lake
section
variable{C:Al}{hn:Bool}{d:Nat}{ν:Pu}{K:PV->Pu->Prop}
theorem QL(h:l.getLast?=some x)(q:G x):It ν (.lst l) (.int (-1)) G:=by
 have hp:0<l.length:=List.length_pos_iff.mpr (fun e=>by subst e;exact nS h)
 have h2:l[l.length - 1]?=some x:=by(refine BO (List.getLast?_eq_getElem?) ?_);exact h
 exact⟨OY (OD hp) h2 q⟩
theorem WV(h:l.getLast?=some m):(il l).getLast?=some (.int (m:Nat)):=by
 (refine AA (List.getLast?_map) ?_;refine AA h ?_);rfl
theorem lN{l:List Nat}(h:l.length=3):∃ x y z,l=[x,y,z]:=by
 match l,h with
 | [x,y,z],_=>exact⟨x,y,z,rfl⟩
theorem Lu(Fx:AX C){a:Nat}{i:Int}(hi:i=a)(ha:a<=l.length)(q:K (match wpAt l a with | none=>.none | some (x,y,z,e)=>.tup [.bytes x,.bytes y,.bytes z,.int e]) ν):AK C true (d+3) (AB "word_parts") [.bytes l,.int i] ν K:=by
 subst hi
 rw [jK] at q
 have cut:∀ {i j:Int} (x y:Nat),i=x->j=y->pcut l (some i) (some j)=(l.drop x).take (y - x):=fun x y h1 h2=>B0 l h1 h2
 have cut2:∀ x:Nat,pcut l (some (x:Int)) (some ((x:Int)+2))=(l.drop x).take 2:=fun x=>(cut x (x+2) rfl rfl).trans (by(refine AA (qX ..:) ?_;rfl))
 refine A4 Fx 42 [AB "marks"] 4 (by kernel_rfl) Ze (by kernel_rfl) rfl fun G hG=>?_
 refine OX (fun h1=>?_) fun h1=>?_
 ·rw [cut2] at h1
  rw [if_neg h1] at q;exact q
 ·rw [cut2] at h1
  rw [if_pos h1] at q
  generalize hen:ends l 3 (a+1)=en at q
  refine⟨CD rfl,rfl,FE (b:=3) rfl (by decide) (NB (fun(c:Nat)=>.int (c:Int)) 0 3 (fun t:T=>⟨[.fr (.bytes l),.fr (.int (a:Nat)),.ow (il ((a+1)::t.l)),t.x,.un,.un],ν⟩) (fun t i=>t.l.length=i/\((a+1)::t.l).getLast?=some t.a/\en=(ends l (3 - i) t.a).map (t.l ++ ·)) { a:=a+1 } ⟨rfl,rfl,by(refine BO hen ?_);exact Option.map_id'.symm⟩ (fun t h=>?_) fun t i h h0 hi J hJ hr hb=>?_)⟩
  ·(refine IW (lN h.1) ?_;rintro e1 e2 e3 hl)
   have he:=h.2.2
   rw [hl] at he ⊢
   (replace q:=(he)▸q)
   refine H0 3 rfl rfl (H0 3 rfl rfl ?_)
   have q:K (if (l.drop e3).take 2=[63,61] then .tup [.bytes ((l.drop (a+2)).take (e1 - (a+2))),.bytes ((l.drop (e1+1)).take (e2 - (e1+1))),.bytes ((l.drop (e2+1)).take (e3 - (e2+1))),.int (e3+2:Nat)] else .none) ν:=by
    have q:K (match (if (l.drop e3).take 2=[63,61] then some ((l.drop (a+2)).take (e1 - (a+2)),(l.drop (e1+1)).take (e2 - (e1+1)),(l.drop (e2+1)).take (e3 - (e2+1)),e3+2) else none) with | none=>.none | some (x,y,z,e)=>.tup [.bytes x,.bytes y,.bytes z,.int e]) ν:=q
    split<;>rename_i h
    ·(replace q:=(pO h)▸q);exact q
    ·(replace q:=(pH h)▸q);exact q
   refine OX (fun h1=>?_) fun h1=>?_
   ·rw [cut2] at h1
    (replace q:=(pH h1)▸q);exact q
   ·rw [cut2] at h1
    (replace q:=(pO h1)▸q)
    refine⟨rfl,FE (b:=3) rfl (by decide) (Bw (fun c:Nat=>.bytes (pcut l (some (([a+1,e1,e2,e3].getD c 0:Nat)+1:Int)) (some ([a+1,e1,e2,e3].getD (c+1) 0:Nat)))) (List.range' 0 3) (by decide) (fun c hc J hJ=>?_) (H0 0 rfl rfl (H0 1 rfl rfl (H0 2 rfl rfl ⟨CD rfl,?_⟩))))⟩
    ·have hc3:c<3:=by have:=(List.mem_range'_1.mp hc).2;exact this
     have hg:∀ x,x<4->(il [a+1,e1,e2,e3])[x]?=some (.int ([a+1,e1,e2,e3].getD x 0:Nat)):=fun x hx=>by
      match x,hx with
      | 0,_=>rfl
      | 1,_=>rfl
      | 2,_=>rfl
      | 3,_=>rfl
     exact Ab (H0 c rfl (hg c (Nat.lt_succ_of_lt hc3)) (H0 (c+1) rfl (hg (c+1) (Nat.succ_lt_succ hc3)) hJ))
    ·refine JW q ?_
     refine(?_:PV.tup [.bytes (pcut l (some (((a+1:Nat):Int)+1)) (some ((e1:Nat):Int))),.bytes (pcut l (some (((e1:Nat):Int)+1)) (some ((e2:Nat):Int))),.bytes (pcut l (some (((e2:Nat):Int)+1)) (some ((e3:Nat):Int))),.int ((e3:Int)+2)]=_)
     (refine AA (cut (a+2) e1 rfl rfl) ?_;refine AA (cut (e1+1) e2 rfl rfl) ?_;refine AA (cut (e2+1) e3 rfl rfl) ?_)
     rfl
  ·have hlz:(il ((a+1)::t.l)).length<BE:=by(refine AA Ce ?_;refine AA qG ?_;refine AA h.1 ?_);exact pC ‹_› (by decide)
   have he:=h.2.2
   refine QL (WV h.2.1) ⟨hG (Ok Fx rfl ⟨hlz,QL List.getLast?_concat ?_⟩)⟩
   (replace he:=(show 3 - i=(3 - (i+1))+1 by exact bW hi)▸he;(rewrite [an] at he))
   cases hp:F1 l (t.a+1) with
   | none=>
    (replace he:=(hp)▸he)
    rw [he] at q
    exact BD (fun _=>hr _ _ q) fun h=>absurd (show ((-1:Int)<0) by decide) h
   | some e=>
    (replace he:=(hp)▸he)
    refine BD (fun h=>absurd h (Int.not_lt.mpr (pG e))) fun _=>?_
    refine(?_:J .next ⟨[.fr (.bytes l),.fr (.int (a:Nat)),.ow (il ((a+1)::t.l) ++ [.int (e:Nat)]),.fr (.int (i:Nat)),.un,.un],ν⟩)
    (refine AA (Lg ..:) ?_)
    refine hJ { a:=e,l:=t.l ++ [e],x:=.fr (.int i) } ⟨by(refine AA o9 ?_;refine AA h.1 ?_);rfl,List.getLast?_concat (l:=(a+1)::t.l),?_⟩
    (refine AA he ?_;refine AA (Option.map_map ..:) ?_)
    refine congrArg (Option.map · _) (funext fun x=>?_)
    refine(?_:t.l ++ e::x=(t.l ++ [e]) ++ x)
    (refine AA (pD ..:) ?_);rfl
end
end Mine.Lake
set_option maxHeartbeats 4000000
namespace Mine.Lake
section
variable{C:Al}{hn:Bool}{d:Nat}{ν:Pu}{K:PV->Pu->Prop}
theorem Lv(x:List Nat)(c:Nat):∃ r,Fj x [c]=(x.takeWhile (· != c))::r:=by
 delta Fj
 have hp:=PyProof.Rows.split_pos (toS x) ⟨#[c]⟩
 have hj:=PySem.StrLaws.join_split (toS x) ⟨#[c]⟩
 have hf:=PySem.StrLaws.split_free (toS x) c
 generalize Txt.split (toS x) ⟨#[c]⟩=ps at*
 cases ps with
 | nil=>trivial
 | cons p r=>
  refine⟨r.map (·.cps.toList),?_⟩
  simp only [List.map_cons,List.cons.injEq,and_true]
  have hx:x=p.cps.toList∨∃ t,x=p.cps.toList ++ c::t:=by
   have:=congrArg (·.cps.toList) hj
   simp only [toS] at this
   induction r with
   | nil=>
    left
    simpa [Str.join] using this.symm
   | cons q r=>
    right
    refine⟨(Str.join ⟨#[c]⟩ (q::r)).cps.toList,?_⟩
    have h2:=this.symm
    (refine AA h2 ?_)
    refine(?_:((p.cps ++ #[c]) ++ (Str.join ⟨#[c]⟩ (q::r)).cps).toList=_)
    simp
  have hp2:∀ y∈p.cps.toList,(y != c)=true:=fun y hy=>by
   (rewrite [bne_iff_ne]);rintro rfl;exact(hf p (List.Mem.head _)) hy
  rcases hx with h | ⟨t,h⟩
  ·(refine AA h ?_)
   have:=List.takeWhile_append_of_pos (l₂:=[]) hp2
   simpa using this.symm
  ·(refine AA h ?_;refine AA (List.takeWhile_append_of_pos hp2) ?_)
   simp
theorem WW(h:L.upTo o=some (a,r)):∀ x∈a,L.Az x=true:=by
 obtain ⟨r',e,h⟩:=Ad h
 have h1:o.takeWhile L.Az=a:=congrArg Prod.fst h
 rw [←h1]
 exact fun x hx=>pr.mp (List.all_takeWhile) x hx
theorem Jh(h:L.BN o=some (a,b,c,r)):o=61::63::(a ++ 63::(b ++ 63::(c ++ 63::61::r)))/\(∀ x∈b,L.Az x=true):=by
 induction L.Fg h with
 | mk o1 o2 o3 e e1 e2 e3=>exact⟨by rw [e,L.Ew e1,L.Ew e2,L.Ew e3],WW e2⟩
theorem NM{l:List Nat}{x y z r:List Nat}(h:L.BN (l.drop a)=some (x,y,z,r)):
  l.drop (l.length - r.length)=r/\a+2<=l.length - r.length/\l[l.length - r.length - 1]?=some 61/\(∀ c∈x,c∈l)/\(∀ c∈y,c<128/\c∈l)/\(∀ c∈z,c∈l)/\x.length<=l.length/\y.length<=l.length/\z.length<=l.length:=by
 (refine AM (Jh h) ?_;rintro e hw)
 have hl:l=l.take a ++ (61::63::(x ++ 63::(y ++ 63::(z ++ 63::61::r)))):=by(refine BO e ?_;refine AA (List.take_append_drop ..:) ?_;rfl)
 have ht:(l.take a).length=a:=by
  (refine AA List.length_take ?_)
  have:=congrArg List.length e
  rw [List.length_drop] at this
  exact Nat.min_eq_left (qU (Nat.lt_of_sub_pos (this▸pW _)))
 generalize l.take a=u at hl ht
 have hl2:l=(u ++ (61::63::(x ++ 63::(y ++ 63::(z ++ [63]))))) ++ 61::r:=by(refine AA hl ?_);simp
 have hl3:l=(u ++ (61::63::(x ++ 63::(y ++ 63::(z ++ [63,61]))))) ++ r:=by(refine AA hl ?_);simp
 have n:=congrArg List.length hl
 simp only [List.length_append,List.length_cons] at n
 have hm:∀ c,c∈x∨c∈y∨c∈z->c∈l:=fun c hc=>by
  (refine AA hl ?_)
  (refine F7 (pV:) ?_;refine F7 (pj:) ?_;refine F7 (pj:) ?_;refine F7 (pV:) ?_;refine F7 (pj:) ?_;refine F7 (pV:) ?_;refine F7 (pj:) ?_;refine F7 (pV:) ?_;refine F7 (pj:) ?_;refine F7 (pj:) ?_)
  rcases hc with h | h | h<;>simp [h]
 refine⟨?_,by(refine AA (Nat.sub_eq_of_eq_add ((congrArg List.length hl3).trans o9)) ?_;refine AA o9 ?_;refine AA ht ?_);exact qo (qW 2 _) a,?_,fun c hc=>hm c (.inl hc),fun c hc=>⟨?_,hm c (.inr (.inl hc))⟩,fun c hc=>hm c (.inr (.inr hc)),oy fun q=>nl (bV l.length x.length u.length y.length z.length r.length) ⟨false,(nP (nW Ae) (nP BK (nW (nW (nP Ag (nW (nP FM (nW (nP MK (nW (nW VB))))))))))),(nP Ag Ae)⟩ rfl (nQ q (pL (Eq.symm n))),oy fun q=>nl (bV l.length y.length u.length x.length z.length r.length) ⟨false,(nP (nW Ae) (nP BK (nW (nW (nP FM (nW (nP Ag (nW (nP MK (nW (nW VB))))))))))),(nP Ag Ae)⟩ rfl (nQ q (pL (Eq.symm n))),oy fun q=>nl (bV l.length z.length u.length x.length y.length r.length) ⟨false,(nP (nW Ae) (nP BK (nW (nW (nP FM (nW (nP MK (nW (nP Ag (nW (nW VB))))))))))),(nP Ag Ae)⟩ rfl (nQ q (pL (Eq.symm n)))⟩
 ·conv=>lhs;arg 2;rw [hl3]
  (rewrite [List.drop_left'];rfl)
  exact(Nat.sub_eq_of_eq_add ((congrArg List.length hl3).trans o9)).symm
 ·conv=>lhs;arg 1;rw [hl2]
  (refine AA (List.getElem?_append_right (pL (Nat.sub_eq_of_eq_add (Nat.sub_eq_of_eq_add ((congrArg List.length hl2).trans (o9.trans (Nat.add_right_comm _ _ 1))))).symm)) ?_;refine AA (Nat.sub_eq_of_eq_add (Nat.sub_eq_of_eq_add ((congrArg List.length hl2).trans (o9.trans (Nat.add_right_comm _ _ 1))))) ?_;refine AA (Nat.sub_self _) ?_);rfl
 ·exact pC (L.DK (hw c hc)).2 (by decide)
noncomputable def wAt(l:List Nat)(a:Nat):Option (List Nat×Nat):=(L.wordAt (Cf l a) (l.drop a)).map fun x=>(x.1,l.length - x.2.length)
theorem Ji:∀ (t:List Nat),(L.A5 t).length<=t.length
 | []=>pQ _
 | [a]=>pQ _
 | [a,b]=>pW _
 | [a,b,c]=>by simp [L.Er,L.Es,L.Et,L.Eu,L.Do,HE]
 | a::b::c::d::r=>by
  have:=Ji r
  simp [L.Er,L.Es,L.Et,L.Eu,L.Do,HE];exact oy fun q=>nl (IZ r.length (List.length (L.A5 r))) ⟨false,(nP (nW (nW (nW (nW (nW Ae))))) Ag),(nP (nP (nK 3) Ag) Ae)⟩ rfl (nQ q this)
theorem Jj(ws:List Nat):BL (L.AQ ws):=fun x hx=>by
 (refine AE (qL.mp hx) ?_;rintro c _ rfl)
 exact Nat.mod_lt _ (by decide)
theorem Kw:∀ (t:List Nat),BL (L.A5 t)
 | []=>fun x hx=>by simp [L.Er,L.Es,L.Et,L.Eu,L.Do] at hx
 | [a]=>fun x hx=>by simp [L.Er,L.Es,L.Et,L.Eu,L.Do] at hx
 | [a,b]=>Jj _
 | [a,b,c]=>Jj _
 | a::b::c::d::r=>fun x hx=>by
  rcases pV.mp hx with h | h
  ·exact Jj _ x h
  ·exact Kw r x h
theorem lO(o:List Nat):BL (L.Bi o):=Kw _
theorem Xk(o:List Nat):(L.Bi o).length<=o.length:=om (Ji _) (om (List.length_filterMap_le _ _) (List.takeWhile_sublist _).length_le)
theorem lP(h:BL o):BL (L.Bh o):=Jb _ fun x hx=>by
 (refine AE (qL.mp hx) ?_;rintro c hc rfl)
 have:=h c hc
 split<;>(first | exact qW _ _ | assumption | lia)
theorem Xl(o:List Nat):(L.Bh o).length<=o.length:=om (Lq _) (by simp)
theorem KD(t:List Nat):L.As t=0∨(L.As t=1∨L.As t=2∨L.As t=3):=by
 delta L.As
 dsimp only
 repeat' split
 all_goals (trivial)
theorem jL:([[81],[66]]:List (List Nat)).any (·==w)=(decide (w=[81])||decide (w=[66])):=by
 (refine F7 (Bool.eq_iff_iff:) ?_)
 simp
 constructor
 ·rintro (h | h)
  ·exact .inl h.symm
  ·exact .inr h.symm
 ·rintro (h | h)
  ·exact .inl h.symm
  ·exact .inr h.symm
theorem Kx(Fx:AX C)(hN:HF C)(hW:HD C){l:List Nat}{a:Nat}{i:Int}(hi:i=a)(ho:BL l)(hz:l.length<=1000000)(ha:a<=l.length)(q:K (match wAt l a with | none=>.none | some (t,e)=>.tup [.str t,.int (e:Nat)]) ν):AK C true (d+5) (AB "word_at") [.bytes l,.int i] ν K:=by
 subst hi
 delta wAt L.wordAt at q
 refine A4 Fx 45 [] 4 (by kernel_rfl) Zj (by kernel_rfl) rfl fun G hG=>?_
 refine⟨hG (Lu Fx rfl ha ?_)⟩
 delta wpAt
 cases hp:L.BN (l.drop a) with
 | none=>
  rw [hp] at q
  exact Ab (Ab q)
 | some v=>
  obtain ⟨x,y,z,r⟩:=v
  (refine bS (NM hp) ?_;rintro f1 f2 f3 f4 f5 f6 ⟨f7,f8,f9⟩)
  (replace q:=(hp)▸q)
  have q:K (match Option.map (fun x=>(x.1,l.length - x.2.length)) (if L.apart (Cf l a) r=true then(if L.As (x.takeWhile (· != 42))=0 then none else if y.map L.CT=[81] then some (L.EL (L.As (x.takeWhile (· != 42))) (L.Bh z),r) else if y.map L.CT=[66] then some (L.EL (L.As (x.takeWhile (· != 42))) (L.Bi z),r) else none) else none) with | none=>.none | some (t,e)=>.tup [.str t,.int (e:Nat)]) ν:=q
  refine Av (Dl 3 rfl rfl ⟨hG (Om Fx rfl rfl ha (Nat.sub_le _ _) ?_)⟩)
  (refine AA f1 ?_)
  cases hap:L.apart (Cf l a) r with
  | false=>
   (replace q:=(hap)▸q)
   exact Ab (Ab q)
  | true=>
   (replace q:=(hap)▸q;replace q:=(pO rfl)▸q)
   have hl:l.length+4<=BE:=om (pg hz 4) (by decide)
   refine Av (Av (Dl 0 rfl rfl ⟨hG (GU Fx (om f7 (Nat.le_of_add_right_le hl)) (fun c hc=>Nat.lt_trans (ho c (f4 c hc)) (by decide)) ⟨om f7 (Nat.le_of_add_right_le hl),?_⟩)⟩))
   (refine AI (Lv x 42) ?_;rintro ps hps)
   (refine AA hps ?_)
   have htl:=(List.takeWhile_sublist (· != 42) (l:=x)).length_le
   refine H0 0 rfl rfl ⟨hG (Jg Fx hN (om htl (om f7 (Nat.le_of_add_right_le hl))) (fun c hc=>(fun c hc=>Nat.lt_trans (ho c (f4 c hc)) (by decide)) c ((List.takeWhile_sublist _).mem hc)) (Dl 1 rfl rfl ⟨hG (GU Fx (om f8 (Nat.le_of_add_right_le hl)) (fun c hc=>Nat.lt_trans (f5 c hc).1 (by decide)) ⟨om f8 (Nat.le_of_add_right_le hl),fun c hc=>(f5 c hc).1,?_⟩)⟩))⟩
   have hcc:=KD (x.takeWhile (· != 42))
   (refine AA (show y.map MH=y.map L.CT from rfl) ?_)
   generalize L.As (x.takeWhile (· != 42))=cs at q hcc ⊢
   generalize y.map L.CT=w at q ⊢
   rcases hcc with hc0 | hcc
   ·subst hc0
    exact Ab (Ab q)
   ·have hcn:¬Ak cs=[]:=by rcases hcc with h | h | h<;>subst h<;>decide
    rw [if_neg (by rcases hcc with h | h | h<;>subst h<;>decide)] at q
    refine BD (fun h=>absurd h hcn) fun _=>?_
    refine(show Br (!(([[81],[66]]:List (List Nat)).any (·==w))) _ _ from ?_)
    (refine AA jL ?_)
    by_cases hw1:w=[81]
    ·subst hw1
     exact Av (Av (Ab (Dl 2 rfl rfl ⟨hG (T7 Fx (fun c hc=>ho c (f6 c hc):BL z) (pC f9 (pJ (qc (by decide)) hl)) ⟨hG (HC Fx hcc (.inl rfl) (lP (fun c hc=>ho c (f6 c hc):BL z)) (om (pg (om (Xl z) f9) 4) hl) (Dl 3 rfl rfl ⟨CD rfl,q⟩))⟩)⟩)))
    ·(replace q:=(pH hw1)▸q)
     by_cases hw2:w=[66]
     ·subst hw2
      exact Av (Av (Av (Dl 2 rfl rfl ⟨hG (RQ Fx hW (om f9 hz) ⟨hG (HC Fx hcc (.inl rfl) (lO z) (om (pg (om (Xk z) f9) 4) hl) (Dl 3 rfl rfl ⟨CD rfl,q⟩))⟩)⟩)))
     ·(replace q:=(pH hw2)▸q)
      (refine AA (qg hw1) ?_;refine AA (qg hw2) ?_)
      exact Ab (Ab q)
end
end Mine.Lake
set_option maxHeartbeats 4000000
namespace Mine.Lake
section
variable{C:Al}{hn:Bool}{d:Nat}{ν:Pu}{K:PV->Pu->Prop}
noncomputable def CO:List Nat->List L.Tok->List (Bool×List Nat)
 | run,[]=>[(false,run)]
 | run,.inl c::ts=>CO (run ++ [c]) ts
 | run,.inr t::ts=>(false,run)::(true,t)::CO [] ts
theorem IS:CO  rn0 []=([(false,rn0)]):=rfl
theorem IT:CO  rn0 (.inl c0::ts0)=(CO (rn0 ++ [c0]) ts0):=rfl
theorem FH:CO  rn0 (.inr t0::ts0)=((false,rn0)::(true,t0)::CO [] ts0):=rfl
noncomputable def UA(x:Bool×List Nat):PV:=.tup [.bool x.1,if x.1 then .str x.2 else .bytes x.2]
noncomputable abbrev pl(l:List (Bool×List Nat)):List PV:=l.map UA
noncomputable def KF:Bool->List (Bool×List Nat)->List Nat
 | _,[]=>[]
 | first,(b,w)::r=>(if b then w else if !first&&!r.isEmpty&&w.all L.AV then [] else L.BY w) ++ KF false r
theorem On:KF  u10 []=([]):=rfl
theorem Oo:KF  first0 ((b0,w0)::r0)=((if b0 then w0 else if !first0&&!r0.isEmpty&&w0.all L.AV then [] else L.BY w0) ++ KF false r0):=rfl
theorem F2:∀ (ts:List L.Tok) (run:List Nat) (behind:Bool),KF (!behind) (CO run ts)=L.Ni behind run ts
 | [],run,behind=>by simp [IS,IT,FH,On,Oo,L.PW,L.PX,L.MO]
 | .inl c::ts,run,behind=>F2 ts _ _
 | .inr t::ts,run,behind=>by
  ((rewrite [FH]);(rewrite [L.MO]);refine BO (F2 ts [] true) ?_)
  simp [On,Oo]
theorem HH(cs:Nat):∀ (f:Nat) (o:List Nat),(L.C2 cs f o).length<=o.length
 | 0,o=>pQ _
 | f+1,[]=>pQ _
 | f+1,c::r=>by
  have ih:=HH cs f ((c::r).drop (L.Aq cs c r).2)
  simp only [L.VD,L.VE,L.K5,List.length_cons,List.length_drop] at ih ⊢
  exact mQ ih (GV cs c r).1
theorem Hj:∀ (f:Nat) (o t:List Nat),L.BH f o=some t->t.length<=o.length
 | 0,o,t,h=>by simp [L.KM,L.KN,L.Ep] at h;subst h;exact pQ _
 | f+1,[],t,h=>by simp [L.KM,L.KN,L.Ep] at h;subst h;exact ou _
 | f+1,c::r,t,h=>by
  have hs:=GV 3 c r
  (rewrite [L.Ep] at h)
  generalize L.Aq 3 c r=sg at h hs
  obtain ⟨s,n⟩:=sg
  induction s with
  | none=>trivial
  | some x=>
   simp only [Option.map_eq_some_iff] at h
   (refine AE h ?_;clear h;rintro t' h1 h2)
   have ih:=Hj f _ t' h1
   subst h2
   simp only [List.length_cons,List.length_drop] at ih ⊢
   dsimp only at hs
   exact mQ ih hs.1
set_option tactic.hygienic true in
theorem Hk(o:List Nat):(L.BY o).length<=o.length:=by
 delta L.BY
 split
 ·rename_i t h;exact Hj _ _ _ h
 ·exact ou _
set_option tactic.hygienic true in
theorem Lw{l:List Nat}(h:L.wordAt (Cf l a) (l.drop a)=some (t,r)):
  l.drop (l.length - r.length)=r/\a+2<=l.length - r.length/\l[l.length - r.length - 1]?=some 61:=by
 delta L.wordAt at h
 split at h
 ·exact nS h
 ·rename_i x y z rest e
  (refine QX (NM e) ?_;rintro f1 f2 f3 _)
  split at h
  ·dsimp only at h
   split at h
   ·exact nS h
   ·split at h
    ·simp only [Option.some.injEq,Prod.mk.injEq] at h
     (refine AM h ?_;clear h;rintro _ rfl)
     exact⟨f1,f2,f3⟩
    ·split at h
     ·simp only [Option.some.injEq,Prod.mk.injEq] at h
      (refine AM h ?_;clear h;rintro _ rfl)
      exact⟨f1,f2,f3⟩
     ·exact nS h
  ·exact nS h
set_option tactic.hygienic true in
theorem Op(h:L.wordAt p o=some (t,r)):t.length+r.length<=o.length:=by
 delta L.wordAt at h
 split at h
 ·exact nS h
 ·rename_i x y z rest e
  have hl:=congrArg List.length (Jh e).1
  simp only [List.length_append,List.length_cons] at hl
  split at h
  ·dsimp only at h
   split at h
   ·exact nS h
   ·split at h
    ·simp only [Option.some.injEq,Prod.mk.injEq] at h
     (refine AM h ?_;clear h;rintro rfl rfl)
     have h1:=HH (L.As (x.takeWhile (· != 42))) (L.Bh z).length (L.Bh z)
     have h2:=Xl z
     exact oy fun q=>nl (l9 o.length (List.length (L.C2 (L.As (List.takeWhile (fun x=>x != 42) x)) (List.length (L.Bh z)) (L.Bh z))) (List.length rest) (List.length (L.Bh z)) (List.length z) (List.length x) (List.length y)) ⟨false,(nP (nW Ae) (nP FM (nP Ag (nW (nW (nP VB (nW (nP l8 (nW (nP MK (nW (nW BK)))))))))))),(nP (nP Ag BK) (nP MK (nP FM Ae)))⟩ rfl (nQ q (o7 h2 (o7 h1 (pL (Eq.symm hl)))))
    ·split at h
     ·simp only [Option.some.injEq,Prod.mk.injEq] at h
      (refine AM h ?_;clear h;rintro rfl rfl)
      have h1:=HH (L.As (x.takeWhile (· != 42))) (L.Bi z).length (L.Bi z)
      exact oy fun q=>nl (l9 o.length (List.length (L.C2 (L.As (List.takeWhile (fun x=>x != 42) x)) (List.length (L.Bi z)) (L.Bi z))) (List.length rest) (List.length (L.Bi z)) (List.length z) (List.length x) (List.length y)) ⟨false,(nP (nW Ae) (nP FM (nP Ag (nW (nW (nP VB (nW (nP l8 (nW (nP MK (nW (nW BK)))))))))))),(nP (nP Ag BK) (nP MK (nP FM Ae)))⟩ rfl (nQ q (o7 (Xk z) (o7 h1 (pL (Eq.symm hl)))))
     ·exact nS h
  ·exact nS h
noncomputable def NN:List L.Tok->Nat
 | []=>0
 | .inl _::ts=>1+NN ts
 | .inr t::ts=>t.length+NN ts
theorem UB:NN  []=(0):=rfl
theorem UC:NN  (.inl u10::ts0)=(1+NN ts0):=rfl
theorem UD:NN  (.inr t0::ts0)=(t0.length+NN ts0):=rfl
set_option tactic.hygienic true in
theorem GW:∀ (f:Nat) (p:Option Nat) (o:List Nat),NN (L.scan f p o)<=o.length
 | 0,p,o=>pQ _
 | f+1,p,[]=>pQ _
 | f+1,p,c::r=>by
  ((rewrite [L.Df]))
  split
  ·have:=GW f (some c) r
   exact oy fun q=>nl (IZ r.length (NN (L.scan f (some c) r))) ⟨false,(nP (nW (nW Ae)) Ag),(nP (nP (nK 1) Ag) Ae)⟩ rfl (nQ q this)
  ·rename_i t rest e
   have:=GW f (some 61) rest
   exact oy fun q=>nl (XI ((c::r).length) (List.length t) (NN (L.scan f (some 61) rest)) (List.length rest)) ⟨false,(nP (nW Ae) (nP BK (nP Ag FM))),(nP (nP Ag BK) (nP FM Ae))⟩ rfl (nQ q (o7 this (Op e)))
theorem Lx:∀ (ts:List L.Tok) (run:List Nat) (b:Bool),(L.Ni b run ts).length<=run.length+NN ts
 | [],run,b=>Hk run
 | .inl c::ts,run,b=>by
  have:=Lx ts (run ++ [c]) b
  simp only [L.PW,L.PX,L.MO,UB,UC,UD,List.length_append,List.length_singleton] at this ⊢
  lia
 | .inr t::ts,run,b=>by
  have:=Lx ts [] true
  simp only [L.PW,L.PX,L.MO,UB,UC,UD,List.length_append,List.length_nil] at this ⊢
  split
  ·simp;exact oy fun q=>nl (XI run.length (List.length t) (NN ts) (List.length (L.Ni true [] ts))) ⟨false,(nP (nW (nP Ae (nP Ag BK))) FM),(nP (nP Ag FM) (nP (nK 0) BK))⟩ rfl (nQ q this)
  ·exact oy fun q=>nl (jk run.length (List.length t) (NN ts) (List.length (L.BY run)) (List.length (L.Ni true [] ts))) ⟨false,(nP (nW (nP Ae (nP Ag BK))) (nP FM MK)),(nP (nP FM (nP Ag MK)) (nP Ae (nP (nK 0) BK)))⟩ rfl (nQ q (o7 (Hk run) this))
theorem HI(o:List Nat):(L.A9 o).length<=o.length:=by
 have h1:=Lx (L.scan o.length none o) [] false
 exact oy fun q=>nl (FO o.length (List.length (L.Ni false [] (L.scan o.length none o))) (NN (L.scan o.length none o))) ⟨false,(nP (nW Ae) (nP BK Ag)),(nP Ag (nP Ae (nP (nK 0) BK)))⟩ rfl (nQ q (o7 (GW o.length none o) h1))
theorem Cg(d:List Nat)(a s:Nat):(d.drop a).take (s - a)=L.slice d a s:=by delta L.slice;(refine AA List.drop_take ?_;rfl)
theorem FI(l:List α){a:Nat}{i:Int}(hi:i=a):pcut l (some i) none=l.drop a:=by
 subst hi
 refine(?_:(l.drop (pclip l.length a)).take (l.length - pclip l.length a)=_)
 have e:pclip l.length (a:Int)=min a l.length:=by
  exact jy _ _
 (refine AA e ?_)
 by_cases h:a<=l.length
 ·(refine AA (Nat.min_eq_left h) ?_)
  exact qi (by(refine AA qj ?_);exact ou _)
 ·(refine AA (Nat.min_eq_right (Nat.le_of_not_le h)) ?_;refine AA (pU (ou _)) ?_;refine AA (pU (Nat.le_of_not_le h)) ?_;refine AA List.take_nil ?_;rfl)
theorem Oq(hb:b<=a)(e:l.drop a=c::r):L.slice l b (a+1)=L.slice l b a ++ [c]:=by
 (refine Bq (Cl e) ?_;rintro h1 h2 _)
 delta L.slice
 (refine AA List.take_add_one ?_;refine AA h1 ?_;refine AA (List.drop_append_of_le_length (by(refine AA List.length_take ?_);exact Nat.le_min.mpr ⟨hb,qU (pC hb h2)⟩)) ?_)
 rfl
theorem Os(l:List Nat)(a:Nat):L.slice l a a=[]:=by
 exact pU (by(refine AA List.length_take ?_);exact Nat.min_le_left _ _)
theorem ao(l:List (Bool×List Nat))(w t:List Nat):(pl l ++ [PV.tup [.bool false,.bytes w]]) ++ [PV.tup [.bool true,.str t]]=pl (l ++ [(false,w),(true,t)]):=by
 (rewrite [pl];rewrite [pl];refine AA qh ?_;refine AA (pD ..:) ?_);rfl
theorem HJ:(pl l).length=l.length:=pK _
theorem NO(Fx:AX C)(hN:HF C)(hW:HD C){l:List Nat}(ho:BL l)(hz:l.length<=400000)(q:K (.lst (pl (CO [] (L.scan l.length none l)))) ν):AK C true (d+6) (AB "pieces_of") [.bytes l] ν K:=by
 refine A4 Fx 46 [AB "pieces"] 4 (by kernel_rfl) Zq (by kernel_rfl) rfl fun G hG=>?_
 refine⟨CD rfl,M9 (fun t:T=>⟨[.fr (.bytes l),.ow (pl t.qs),.fr (.int (t.b:Nat)),.fr (.int (t.a:Nat)),t.x],ν⟩) (fun t=>t.b<=t.a/\t.a<=l.length/\l.length<=t.a+t.f/\t.qs.length<=2*t.a/\CO [] (L.scan l.length none l)=t.qs ++ CO (L.slice l t.b t.a) (L.scan t.f (Cf l t.a) (l.drop t.a))) (fun t=>l.length - t.a) { f:=l.length } ⟨ou _,pQ _,by(refine AA (qC ..:) ?_);exact ou _,ou _,by rfl⟩ fun t h J E hJ hr hb hE=>?_⟩
 have ha:=h.2.1
 have hg:=h.2.2.2.2
 refine Em (fun hal=>?_) fun hal=>?_
 ·refine Ap fun G kk=>?_;(refine Bm (Cm hal) ?_;rintro c r e)
  (refine Bq (Cl e) ?_;rintro ec _ er)
  obtain ⟨f,hf⟩:∃ f',t.f=f'+1:=⟨t.f - 1,fp h.2.2.1 hal⟩;refine kk ?_
  (replace hg:=(hf)▸hg)
  cases hw:L.wordAt (Cf l t.a) (l.drop t.a) with
  | none=>
   have hpv:Cf l (t.a+1)=some c:=(pH (Nat.succ_ne_zero _)).trans ec
   have hs:L.scan (f+1) (Cf l t.a) (l.drop t.a)=.inl c::L.scan f (some c) r:=by
    rw [e] at hw ⊢
    ((rewrite [L.Df]);refine AA hw ?_;rfl)
   have hwa:wAt l t.a=none:=by delta wAt;(refine AA hw ?_);rfl
   (replace hg:=(hs)▸hg;(rewrite [IT] at hg);replace hg:=Eq.symm (Oq h.1 e)▸hg;replace hg:=Eq.symm (hpv)▸hg;replace hg:=Eq.symm (er)▸hg)
   refine CR t.a rfl ec (D8 61 (fun _=>⟨hG (Kx Fx hN hW rfl ho (om hz (by decide)) ha ?_)⟩) fun _=>Ab (hJ { a:=t.a+1,b:=t.b,f:=f,qs:=t.qs,x:=.fr .none } ⟨qP h.1,hal,fs (hf▸h.2.2.1) (ou 1),om h.2.2.2.1 (pS 2 (Nat.le_succ _)),hg⟩ (pz hal (qF _))))
   (refine AA hwa ?_)
   exact Ab (hJ { a:=t.a+1,b:=t.b,f:=f,qs:=t.qs,x:=.fr .none } ⟨qP h.1,hal,fs (hf▸h.2.2.1) (ou 1),om h.2.2.2.1 (pS 2 (Nat.le_succ _)),hg⟩ (pz hal (qF _)))
  | some v=>
   refine Ap fun G kk=>?_;obtain ⟨u,rest⟩:=v
   have hs:L.scan (f+1) (Cf l t.a) (l.drop t.a)=.inr u::L.scan f (some 61) rest:=by
    rw [e] at hw ⊢
    ((rewrite [L.Df]);refine AA hw ?_;rfl)
   have hwa:wAt l t.a=some (u,l.length - rest.length):=by delta wAt;(refine AA hw ?_);rfl
   (refine Bq (Lw hw) ?_;rintro f1 f2 f3);refine kk ?_
   have hc:c=61:=by
    (refine AE (L.FR hw) ?_;rintro _ e' _)
    (replace e':=(e)▸e')
    exact(List.cons.inj e').1
   have hen:l.length - rest.length<=l.length:=Nat.sub_le _ _
   generalize l.length - rest.length=en at hwa f1 f2 f3 hen
   have hpe:Cf l en=some 61:=(pH (Nat.ne_of_gt (pJ (pW _) f2))).trans f3
   (replace hg:=(hs)▸hg;replace hg:=Eq.symm (f1)▸hg;replace hg:=Eq.symm (hpe)▸hg)
   refine CR t.a rfl ec (D8 61 (fun _=>⟨hG (Kx Fx hN hW rfl ho (om hz (by decide)) ha ?_)⟩) fun h'=>absurd hc h')
   (refine AA hwa ?_)
   refine Av ⟨CD rfl,by(refine AA HJ ?_);exact pC (om h.2.2.2.1 (om (pS 2 (om ha hz)) (by decide)):t.qs.length<=800000) (by decide),Dl 0 rfl rfl ⟨CD rfl,by(refine AA o9 ?_;refine AA HJ ?_);exact pC (pg (om h.2.2.2.1 (om (pS 2 (om ha hz)) (by decide)):t.qs.length<=800000) 1) (by decide),Dl 1 rfl rfl ?_⟩⟩
   (refine AA (B0 l rfl rfl) ?_;refine AA (Cg ..:) ?_)
   (refine AA (ao ..:) ?_)
   refine hJ { a:=en,b:=en,f:=f,qs:=t.qs ++ [(false,L.slice l t.b t.a),(true,u)],x:=.fr (.tup [.str u,.int (en:Nat)]) } ⟨ou _,hen,om (fs (hf▸h.2.2.1) (ou 1)) (pg (Nat.le_of_succ_le f2) f),?_,by(refine AA hg ?_;refine AA (Os ..:) ?_;refine AA (pD ..:) ?_);rfl⟩ (pz hal (pJ (qc (by decide)) f2))
   (refine AA o9 ?_)
   exact om (pg h.2.2.2.1 2) (oy fun q=>nl (IZ en t.a) ⟨false,(nP (nW (nM 2 Ae)) (nM 2 (nP Ag (nK 2)))),(nP (nP (nM 2 Ag) (nK 2)) (nM 2 Ae))⟩ rfl (nQ q (pS 2 f2)))
 ·have hs:L.scan t.f (Cf l t.a) []=[]:=by induction t.f<;>rfl
  (replace hg:=(pU hal)▸hg;replace hg:=(hs)▸hg;(rewrite [IS] at hg))
  have hsl:L.slice l t.b t.a=l.drop t.b:=by delta L.slice;(refine AA (qi hal) ?_;rfl)
  rw [hg,hsl] at q
  refine hE _ ⟨CD rfl,CD rfl,by(refine AA HJ ?_);exact om (pg (om h.2.2.2.1 (om (pS 2 (om ha hz)) (by decide)):t.qs.length<=800000) 1) (by decide),?_⟩
  (refine AA (FI l rfl) ?_)
  refine JW q (congrArg PV.lst ?_)
  (rewrite [pl];rewrite [pl];refine AA qh ?_);rfl
theorem Ot(l:List Nat):((l.filter fun c=>!L.AV c).map fun(c:Nat)=>PV.int (c:Int)).isEmpty=l.all L.AV:=by
 induction l with
 | nil=>rfl
 | cons a l ih=>
  (refine AA List.filter_cons ?_;refine AA List.all_cons ?_)
  induction h:L.AV a
  ·rfl
  ·exact ih
theorem NP(Fx:AX C)(hz:l.length<=BE)(q:K (.bool (l.all L.AV)) ν):AK C true (d+1) (AB "all_white") [.bytes l] ν K:=by
 rw [←Ot] at q
 refine A4 Fx 47 [] 0 (by kernel_rfl) Zr (by kernel_rfl) rfl fun G hG=>?_
 exact⟨rfl,RM (fun c=>!L.AV c) (fun c:Nat=>.int c) l hz (fun c hc J h1 h2=>Xj (fun h=>Ab (h1 (by(refine AA h ?_);rfl))) fun h=>Av (h2 (by(refine AA h ?_);rfl))) ⟨CD rfl,q⟩⟩
end
end Mine.Lake
set_option maxHeartbeats 4000000
namespace Mine.Lake
section
variable{C:Al}{hn:Bool}{d:Nat}{ν:Pu}{K:PV->Pu->Prop}
theorem RR(d:List Nat)(c:Nat):∀ (n a:Nat),a+n<=d.length->EU d c a (a+n)=oi (L.findIn d a (a+n) c):=by
 intro rx
 induction rx with
 | zero=>
  exact fun a h=>by
   delta EU L.findIn L.slice
   (refine AA (show a+0 - a=0 by exact Nat.sub_self _) ?_;refine AA (pU (by simp;exact Nat.min_le_left _ _)) ?_)
   rfl
 | succ n ih=>
  exact fun a h=>by
   have ih:=ih (a+1) (oy fun q=>nl (FO d.length a n) ⟨false,(nP (nW Ae) (nP Ag (nW BK))),(nP (nP (nW Ag) BK) Ae)⟩ rfl (nQ q h))
   (replace ih:=(show a+1+n=a+(n+1) by exact Nat.add_right_comm _ _ _)▸ih)
   (refine Bm (Cm (Nat.lt_of_add_right_lt h)) ?_;rintro x r ex)
   (refine Bq (Cl ex) ?_;rintro ex1 _ ex2)
   unfold EU at ih ⊢
   (refine AA (show a+(n+1) - a=n+1 by exact qX ..) ?_;refine AA List.range'_succ ?_)
   (replace ih:=(show a+(n+1) - (a+1)=n by exact Nat.add_sub_add_left ..)▸ih)
   have e2:L.slice d a (a+(n+1))=x::L.slice d (a+1) (a+(n+1)):=by
    delta L.slice
    (refine AA List.drop_take ?_;refine AA List.drop_take ?_;refine AA ex ?_;refine AA ex2 ?_;refine AA (show a+(n+1) - a=n+1 by exact qX ..) ?_;refine AA (show a+(n+1) - (a+1)=n by exact Nat.add_sub_add_left ..) ?_)
    rfl
   unfold L.findIn at ih ⊢
   (refine AA e2 ?_;refine AA (List.findIdx?_cons) ?_;refine AA (List.find?_cons) ?_;refine AA ex1 ?_)
   by_cases hx:x=c
   ·subst hx;simp [oi]
   ·have:(some x==some c)=false:=by simpa using hx
    (refine AA this ?_;refine AA ih ?_)
    induction (L.slice d (a+1) (a+(n+1))).findIdx? (·==c) with
    | none=>rfl
    | some k=>simp [oi];lia
theorem UE(d:List Nat)(c:Nat)(h:e<=d.length):EU d c a e=oi (L.findIn d a e c):=by
 by_cases ha:a<=e
 ·have:=RR d c (e - a) a (om (pL (Nat.add_sub_cancel' ha)) h)
  rwa [show a+(e - a)=e by exact Nat.add_sub_cancel' ha] at this
 ·delta EU L.findIn L.slice
  (refine AA (Nat.sub_eq_zero_of_le (Nat.le_of_not_le ha)) ?_;refine AA (pU (om (List.length_take_le ..) (Nat.le_of_not_le ha))) ?_)
  rfl
theorem Kz{d:List Nat}{a e c s:Nat}(h:L.findIn d a e c=some s):a<=s/\s<e/\s<d.length/\d[s]?=some c:=by
 delta L.findIn at h
 cases hf:(L.slice d a e).findIdx? (·==c) with
 | none=>(replace h:=(hf)▸h);exact nS h
 | some k=>
  (replace h:=(hf)▸h)
  simp only [Option.map_some,Option.some.injEq] at h
  subst h
  (refine AE (List.findIdx?_eq_some_iff_getElem.mp hf) ?_;rintro h1 h2 _)
  have h3:(L.slice d a e).length<=min e d.length - a:=by delta L.slice;simp
  have h4:d[a+k]?=(L.slice d a e)[k]?:=by
   (refine AA (qf) ?_;refine AA (List.getElem?_take) ?_;refine AA (pO (sl1 h1 h3).1) ?_;rfl)
  refine⟨pB _ _,(sl1 h1 h3).1,(sl1 h1 h3).2,?_⟩
  (refine AA h4 ?_;refine AA (o8 h1) ?_)
  simpa using h2
theorem QM{d:List Nat}(he:e<=d.length)(h:F (.int (oi (L.findIn d a e c)))):pM .find (.bytes d) [.bytes [c],.int (a:Nat),.int (e:Nat)] F:=by
 refine⟨pG a,pG e,Int.ofNat_le.mpr he,?_⟩
 (refine AA (UE d c he) ?_)
 exact h
set_option tactic.hygienic true in
theorem HL{d:List Nat}(ha:a<=e):a<=(L.AT d a e).1/\(L.AT d a e).1<=e/\(L.AT d a e).2<=e/\a<=(L.AT d a e).2/\(a<e->a<(L.AT d a e).2)/\(L.AT d a e).1<=(L.AT d a e).2:=by
 delta L.AT
 split
 ·simp;assumption
 ·rename_i s hs
  (refine QX (Kz hs) ?_;rintro h1 h2 h3 h4)
  split
  ·rename_i h;exact mx h.1 h2
  ·exact my h1 h2
theorem Xm{o:Option Nat}(h1:o=none->X)(h2:∀ x,o=some x->Y):Br (decide (oi o<0)) X Y:=by
 induction o with
 | some x=>exact BD (fun h=>absurd h (Int.not_lt.mpr (pG x))) fun _=>h2 x rfl
 | none=>exact BD (fun _=>h1 rfl) fun h=>absurd (by decide) h
theorem HM(Fx:AX C){a e:Nat}{i j:Int}(hi:i=a)(hj:j=e)(he:e<=l.length)(q:K (.tup [.int (L.AT l a e).1,.int (L.AT l a e).2]) ν):AK C hn (d+1) (AB "line_at") [.bytes l,.int i,.int j] ν K:=by
 subst hi hj
 delta L.AT at q
 refine A4 Fx 52 [] 1 (by kernel_rfl) Zx (by kernel_rfl) rfl fun G hG=>?_
 refine QM he ?_
 generalize hf:L.findIn l a e 10=o at q
 refine Xm (fun ho=>?_) fun s ho=>?_
 ·(replace q:=(ho)▸q)
  exact⟨CD rfl,q⟩
 ·rw [ho] at q hf ⊢
  have hs:=(Kz hf).2.2.1
  refine Em (fun h=>?_) fun h=>Av ?_
  ·have h0:=pC (pQ _) h
   have ec:=o8 (pC (Nat.sub_le s 1) hs)
   dsimp only at q
   (replace q:=(ec)▸q)
   refine CR (s - 1) ((Int.ofNat_sub h0).symm) ec (D8 13 (fun hc=>Ab ⟨CD rfl,?_⟩) fun hc=>Av ⟨CD rfl,?_⟩)
   ·rw [if_pos ⟨h,congrArg some hc⟩] at q
    exact JW q (congrArg (fun x=>PV.tup [.int x,.int ((s:Int)+1)]) ((Int.ofNat_sub h0).symm))
   ·rw [if_neg fun x=>hc (Option.some.inj x.2)] at q;exact q
  ·dsimp only at q
   rw [if_neg fun x=>Nat.not_lt.mpr h x.1] at q
   exact⟨CD rfl,q⟩
theorem jM{a b:Nat}(h1:b<a->X)(h2:a<=b->Y):Br (decide ((b:Int)<(a:Nat))) X Y:=Em h1 h2
theorem RS(Fx:AX C){l:List Nat}(q:K (.bool (L.Gp l)) ν):AK C true (d+1) (AB "is_name") [.bytes l] ν K:=by
 delta L.Gp at q
 refine A4 Fx 53 [] 1 (by kernel_rfl) Zy (by kernel_rfl) rfl fun G hG=>?_
 refine⟨rfl,NA (fun(c:Nat)=>.int (c:Int)) (fun t:T=>⟨[.fr (.bytes l),t.x],ν⟩) (fun t r=>l.all (fun c=>decide (33<=c)&&decide (c<=126)&&c != 58)=r.all (fun c=>decide (33<=c)&&decide (c<=126)&&c != 58)) {} l rfl (fun t h=>?_) fun t c r h J hJ hr hb=>?_⟩
 ·rw [h] at q
  refine JW q (congrArg PV.bool ?_)
  induction l with
  | nil=>rfl
  | cons x r=>exact qe (pI.mpr (pW _))
 ·rw [List.all_cons] at h
  have no:(decide (33<=c)&&decide (c<=126)&&c != 58)=false->J (.ret (.bool false)) ⟨[.fr (.bytes l),.fr (.int (c:Nat))],ν⟩:=fun hc=>by
   rw [hc,Bool.false_and] at h
   rw [h,Bool.false_and] at q
   exact hr _ _ q
  refine Em (b:=33) (fun h1=>Ab (no ?_)) fun h1=>jM (b:=126) (fun h2=>Ab (no ?_)) fun h2=>D8 58 (fun h3=>Ab (no ?_)) fun h3=>Av (hJ { x:=.fr (.int (c:Nat)) } ?_)
  ·(refine AA (qg (Nat.not_le.mpr h1)) ?_;with_reducible_and_instances refine AA (Bool.false_and ..:) ?_;refine AA (Bool.false_and ..:) ?_;rfl)
  ·(refine AA (qg (Nat.not_le.mpr h2)) ?_;refine AA (Bool.and_false ..:) ?_;rfl)
  ·(refine AA h3 ?_);rfl
  ·(replace h:=(qe h1)▸h;replace h:=(qe h2)▸h;replace h:=(show (c != 58)=true from bne_iff_ne.mpr h3)▸h);exact h
theorem Ou(Fx:AX C){a e:Nat}{i j:Int}(hi:i=a)(hj:j=e)(he:e<=l.length)(q:K (.int (oi (L.Db l a e))) ν):AK C true (d+2) (AB "colon_in") [.bytes l,.int i,.int j] ν K:=by
 subst hi hj
 delta L.Db at q
 refine A4 Fx 54 [] 1 (by kernel_rfl) Zz (by kernel_rfl) rfl fun G hG=>?_
 refine QM he ?_
 refine QI (fun s ho=>⟨?_⟩) fun ho=>Av ?_
 ·rw [ho] at q ⊢
  (refine AA (B0 l rfl rfl) ?_;refine AA (Cg ..:) ?_)
  refine hG (RS Fx ?_)
  dsimp only at q
  cases hn:L.Gp (L.slice l a s) with
  | true=>
   (replace q:=(hn)▸q)
   exact Ab (Ab q)
  | false=>
   (replace q:=(hn)▸q)
   exact Av (Av q)
 ·(replace q:=(ho)▸q);exact q
theorem UF:∀ (y r:List Nat),10∉y->L.AD (y ++ 13::10::r)=y ++ L.AD r
 | [],r,_=>by rfl
 | [a],r,h=>by
  have h1:¬a=10:=fun e=>h (by(refine AA e ?_;trivial))
  simp [L.D4,L.DM,L.BV,h1]
 | a::b::y,r,h=>by
  have h2:¬b=10:=fun e=>h (by simp [e])
  have ih:=UF (b::y) r fun q=>h (by simp at q ⊢;exact .inr q)
  simp only [List.cons_append] at ih ⊢
  ((rewrite [L.BV]);refine AA (pH (fun e=>h (by simp [e]))) ?_;refine AA (pH (by simp [h2])) ?_;refine AA ih ?_;rfl)
theorem UG:∀ (y r:List Nat),10∉y->y.getLast?≠some 13->L.AD (y ++ 10::r)=y ++ L.AD r
 | [],r,_,_=>by induction r<;>(rfl)
 | [a],r,h,h13=>by
  have h1:¬a=10:=fun e=>h (by(refine AA e ?_;trivial))
  have h2:¬a=13:=fun e=>h13 (by(refine AA e ?_;trivial))
  induction r<;>simp [L.D4,L.DM,L.BV,h1,h2]
 | a::b::y,r,h,h13=>by
  have h1:¬a=10:=fun e=>h (by simp [e])
  have h2:¬b=10:=fun e=>h (by simp [e])
  have ih:=UG (b::y) r (fun q=>h (by simp at q ⊢;exact .inr q)) (by trivial)
  simp only [List.cons_append] at ih ⊢
  ((rewrite [L.BV]);refine AA (pH h1) ?_;refine AA (pH (by simp [h2])) ?_;refine AA ih ?_;rfl)
theorem RT(ha:a<=l.length):L.AD (l.drop a)=L.slice l a (L.AT l a l.length).1 ++ (if (L.AT l a l.length).1=l.length then [] else L.AD (l.drop (L.AT l a l.length).2)):=by
 by_cases h10:10∈l.drop a
 ·(refine BS (L.Dc h10) ?_;rintro y z e hy)
  have hl:=L.CA e hy
  have hlen:=congrArg List.length e
  simp only [List.length_drop,List.length_append,List.length_cons] at hlen
  have hz:l.drop (a+y.length+1)=z:=by
   (refine AA (show a+y.length+1=a+(y.length+1) by exact rfl) ?_;refine BO qA ?_;refine AA e ?_)
   simp
  have hsl:∀ n,n<=y.length->L.slice l a (a+n)=y.take n:=fun n hn=>by
   (refine BO (Cg ..:) ?_;refine AA e ?_;refine AA (show a+n - a=n by exact qX ..) ?_;refine AA (List.take_append_of_le_length hn) ?_;rfl)
  by_cases h13:y.getLast?=some 13
  ·(replace hl:=(pO h13)▸hl)
   (refine AA hl ?_)
   have hne:y≠[]:=fun q=>by(replace h13:=(q)▸h13);exact nS h13
   have hy2:y=y.dropLast ++ [13]:=by
    (replace h13:=(List.getLast?_eq_some_getLast hne)▸h13)
    have:=List.dropLast_concat_getLast hne
    (replace this:=(pP h13)▸this)
    exact this.symm
   (refine AA (pH (pX (pC (Nat.sub_le _ _) (mJ hlen)))) ?_;refine AA hz ?_;refine AA (Nat.add_sub_assoc (List.length_pos_iff.mpr hne) a) ?_;refine AA (hsl _ (Nat.sub_le _ _)) ?_;refine AA e ?_;refine BO List.dropLast_eq_take ?_)
   have:=UF y.dropLast z (fun q=>hy (by(refine AA hy2 ?_);simp [q]))
   (refine BO this ?_)
   conv=>lhs;rw [hy2]
   simp
  ·(replace hl:=(pH h13)▸hl)
   (refine AA hl ?_)
   (refine AA (pH (pX (mJ hlen))) ?_;refine AA hz ?_;refine AA (hsl _ (ou _)) ?_;refine AA e ?_;refine AA List.take_length ?_)
   exact UG y z hy h13
 ·have hf:L.findIn l a l.length 10=none:=by
   delta L.findIn
   (refine AA (L.Gq ..:) ?_;refine AA (L.LC 10 _ h10) ?_);rfl
  have hl:L.AT l a l.length=(l.length,l.length):=by
   delta L.AT;(refine AA hf ?_;rfl)
  (refine AA hl ?_)
  (refine AA (pO rfl) ?_;refine AA (L.Gq ..:) ?_;refine AA (qH ..:) ?_)
  exact L.CH h10
theorem RU(Fx:AX C)(hz:l.length<=1000000)(q:∀ rs:List (List Nat),rs.flatten=L.AD l->K (.lst (bl rs)) ν):AK C true (d+2) (AB "rows_of") [.bytes l] ν K:=by
 refine A4 Fx 57 [AB "rows"] 4 (by kernel_rfl) aG (by kernel_rfl) rfl fun G hG=>?_
 refine⟨CD rfl,M9 (fun t:T=>⟨[.fr (.bytes l),.ow (bl t.bs),.fr (.int (t.a:Nat)),t.x,t.y],ν⟩) (fun t=>t.a<=l.length/\t.bs.length<=t.a/\L.AD l=t.bs.flatten ++ L.AD (l.drop t.a)) (fun t=>l.length - t.a) {} ⟨pQ _,ou _,rfl⟩ fun t h J E hJ hr hb hE=>?_⟩
 have hlz:(bl t.bs).length<BE:=by(refine AA T9 ?_);exact pC (om h.2.1 (om h.1 hz)) (by decide)
 have hj:=h.2.2
 rw [RT h.1] at hj
 (refine MI (HL (d:=l) h.1) ?_;rintro b1 b2 b3 b4 b5 b6)
 refine Ab ⟨hG (HM Fx rfl rfl (ou _) ?_)⟩
 generalize L.AT l t.a l.length=la at hj b1 b2 b3 b4 b5 b6 ⊢
 obtain ⟨last,later⟩:=la
 refine⟨hlz,?_⟩
 (refine AA (B0 l rfl rfl) ?_;refine AA (Cg ..:) ?_;refine AA (QJ ..:) ?_)
 refine BD (fun h'=>?_) fun h'=>?_
 ·refine hr _ _ (q _ ?_)
  (refine AA hj ?_;refine AA (pO (qY h')) ?_;refine AA List.flatten_append ?_;refine AA List.flatten_singleton ?_;refine AA (qH ..:) ?_;rfl)
 ·(replace hj:=(pH fun e=>h' (congrArg Int.ofNat e))▸hj)
  exact hJ { a:=later,bs:=t.bs ++ [L.slice l t.a last],x:=.fr (.int last),y:=.fr (.int later) } ⟨b3,by(refine AA o9 ?_);exact om (qb h.2.1) (b5 (pC b1 (Nat.lt_of_le_of_ne b2 fun e=>h' (congrArg Int.ofNat e)))),by(refine AA hj ?_;refine AA List.flatten_append ?_;refine AA List.flatten_singleton ?_;refine AA (pD ..:) ?_;rfl)⟩ (pz (pC b1 (Nat.lt_of_le_of_ne b2 fun e=>h' (congrArg Int.ofNat e))) (b5 (pC b1 (Nat.lt_of_le_of_ne b2 fun e=>h' (congrArg Int.ofNat e)))))
theorem UH(x:List Nat):BP [32,9] (Bf [32,9] x)=L.strip x:=by
 have e:([32,9]:List Nat).contains=L.sp:=by
  funext c
  (refine AA List.contains_cons ?_;refine AA List.contains_cons ?_;refine AA (Bool.or_false ..:) ?_;rfl)
 delta BP Bf L.strip L.rstrip L.lstrip
 (refine AA e ?_;rfl)
theorem EA:∀ (x:List Nat),(L.AD x).length<=x.length
 | []=>pQ _
 | [c]=>by((rewrite [L.DM]));split<;>(first | exact pQ _ | exact pW _ | rfl)
 | a::b::r=>by
  have h1:=EA (b::r)
  ((rewrite [L.BV]))
  split
  ·exact qP h1
  ·split
   ·exact qU (pC (EA r) (Nat.le_succ _))
   ·exact Nat.lt_succ_of_le h1
theorem Ov(Fx:AX C){l:List Nat}(hz:l.length<=1000000)(q:K (.bytes (L.strip (L.AD l))) ν):AK C true (d+3) (AB "unfolded") [.bytes l] ν K:=by
 rw [←UH] at q
 refine A4 Fx 58 [] 0 (by kernel_rfl) aH (by kernel_rfl) rfl fun G hG=>?_
 refine⟨hG (RU Fx hz fun rs hrs=>QK ?_ ?_)⟩
 ·(refine AA hrs ?_);exact om (EA l) (om hz (by decide))
 ·(replace q:=Eq.symm (hrs)▸q);exact q
noncomputable def UI(C:Al):Prop:=∀ (d:Nat) (ν:Pu) (K:PV->Pu->Prop) (nm raw:List Nat),BL nm->nm.length<=BE->K (.str (nm.map L.Af)) ν->AK C true (d+3) "Field.word" [.field nm raw] ν K
noncomputable def Ly(C:Al):Prop:=∀ (d:Nat) (ν:Pu) (K:PV->Pu->Prop) (nm raw:List Nat),K (.field nm raw) ν->AK C true (d+2) (AB "Field") [.bytes nm,.bytes raw] ν K
theorem Lz(Fx:AX C)(hO:UI C){fs:List PV}(ho:BL nm)(hn:nm.length<=BE)(hw:w.length<=BE)(hwa:∀ c∈w,c<1000000)(he:nm.map L.Af=w.map L.Af)(hz:raw.length<=1000000)(q:K (.bytes (L.strip (L.AD raw))) ν):AK C true (d+4) (AB "first_body") [.lst (.field nm raw::fs),.str w] ν K:=by
 refine A4 Fx 59 [] 2 (by kernel_rfl) aJ (by kernel_rfl) rfl fun G hG=>?_
 refine⟨hG (D9 Fx hw hwa ⟨rfl,⟨⟨hG (hO _ _ _ _ _ ho hn ?_)⟩⟩⟩)⟩
 (refine AA he ?_)
 exact BD (fun _=>⟨hG (Ov Fx hz q)⟩) fun h=>absurd rfl h
end
end Mine.Lake
set_option maxHeartbeats 4000000
namespace Mine.Lake
section
variable{C:Al}{hn:Bool}{d:Nat}{ν:Pu}{K:PV->Pu->Prop}
theorem jN(h:a≠b):¬Str.ofString a=Str.ofString b:=fun e=>h (by
 rw [Str.ofString_eq_toList,Str.ofString_eq_toList] at e
 have e1:a.toList.map Char.toNat=b.toList.map Char.toNat:=by simpa using e
 have e2:a.toList=b.toList:=by
  refine List.map_inj_right (fun x y h=>?_) |>.mp e1
  exact Char.ext (UInt32.toNat_inj.mp h)
 exact String.toList_inj.mp e2)
structure L2(C:Al):Prop where
 cls:∃ nm q N bs sn sub col dd k0 k1 k2 k3 k5 mN fI o,C.base.get? C.fieldCls=some (excClassObj nm q C.fieldCls N bs [.type "object"] true sn sub false col dd k0 k1 k2 k3 k5 "object.__new__")/\C.base.Ns N mN/\
  mN "__init__" = some (.ref fI)/\mN "name" = none/\mN "raw" = none/\mN "__setattr__" = none/\C.base.get? fI=some o/\o.cls=.type "function" /\ M8 C fI (Ar 51 0)
 mg:C.mg "Field" = some (.ref C.fieldCls)
 nofw:C.mg "Field.word" = none
noncomputable def lQ:List CS:=[.ret (.call (AB "lower_text") [.meth .join (.kv (.str [])) [.comp (.lo 1) (.nam (.lo 0)) (.bi .chr [.lo 1]) [] [none,none]]])]
theorem aq(Fx:AX C)(W:L2 C):UI C:=by
 intro d ν K nm raw ho hz q
 refine JV (st:=Ar 51 1) (n:=0) (own:=[]) (code:=lQ) (l':=[.field nm raw]) Fx.ok (fun a ha=>?_) (by kernel_rfl) (by kernel_rfl) rfl OW ?_
 ·rcases ha with e | ⟨_,e⟩
  ·exact nomatch W.nofw.symm.trans e
  ·subst e;exact Fx.word.all (by kernel_rfl) rfl
 ·refine⟨rfl,Bw (fun c=>.str [c]) nm hz (fun c hc J hJ=>Ab ⟨pG c,pI.mpr (Nat.lt_trans (ho c hc) (by decide)),hJ⟩) (IR hz ⟨D9 Fx hz (fun c hc=>Nat.lt_trans (ho c hc) (by decide)) q⟩)⟩
section
variable{A:Around}{s:Shared}{E:Value->Shared->Prop}{X:Addr->Prop}{env:Env}{M:Model}
theorem FJ{n m a:Str}(hk:env.scope.kind=.function)(h1:Look env s.heap n v)(h2:Look env s.heap m u)(d1:(n==("__debug__" : Str))=false)(d2:(m==("__debug__" : Str))=false)(h:wpAny M A (setAttr u a v) (fun _=>Q .next) E s):wpAny M A (exec (.Assign [.Attribute (.Name m p1) a p2] (.Name n p3) pos) env) Q E s:=
 plainObj_wpAny_Assign_Attribute (CB hk h1 d1 (CB hk h2 d2 h)) (Ct rfl)
theorem EB{cx:Cx}{h:Heap}{i:Nat}(e:DZ cx h i v)(hx:cx.nm[i]?=some x):Look cx.env h x v:=by
 (refine AE e ?_;rintro y h1 h2)
 (replace h1:=(hx)▸h1);(refine sI h1 ?_;clear h1;intro zz;induction zz);exact h2
theorem WX(Fx:AX C)(W:L2 C):Ly C:=by
 intro d ν K nm raw q A fr X s vs E a h1 h2 h2' h3 h4 h5 h6 h6' h7 h8 h9 h10 h11
 refine Ap fun G kk=>?_;obtain ⟨n',q',N,bs,sn,sub,col,dd,k0,k1,k2,k3,k5,mN,fI,oI,hC,hN,hi,hna,hra,hsa,hfI,hfc,DI⟩:=W.cls
 have ea:a=C.fieldCls:=by
  rcases h11 with e | ⟨e,_⟩
  ·have e:=W.mg.symm.trans e;(refine sI e ?_;clear e;intro zz;cases zz);rfl
  ·exact absurd e (jN (by decide))
 subst ea
 (refine CQ (C9 h10) ?_;rintro v1 v2 rfl rv1 rv2);refine kk ?_
 induction rv1 with | mk o1 z1 t1=>
 induction rv2 with | mk o2 z2 t2=>
 obtain ⟨h,g,dr,tk,os⟩:=s
 refine wpAny_call_obj_init F.objNew (h5 _ _ hC) (hN.keeps h5) hi (h5 _ _ hfI) hfc fun h' x dx mo=>?_
 have I:Cz C (A.under (.builtin "type.__call__" ⟨[.ref C.fieldCls,.bytes (toB nm) t1,.bytes (toB raw) t2],[]⟩)) true (d+1) fr X ν ⟨h',g,dr,tk,os⟩:={
  a1:=h1
  a2:=h2.keeps mo.keeps
  a3:=h2'
  a4:=pq fun q=>nl (FO recursionLimit A.depth d) ⟨false,(nP Ae (nW (nP Ag (nP BK (nK 2))))),(nP (nP (nW Ag) (nW BK)) Ae)⟩ rfl (o7 q (qO h3))
  a5:=pq fun q=>nl (FO cLine A.units d) ⟨false,(nP Ae (nW (nP (nP Ag (nM 10 (nP BK (nK 2)))) (nK 10)))),(nP (nP (nP (nW Ag) (nM 10 (nW BK))) (nK 10)) Ae)⟩ rfl (o7 q (qO h4))
  a6:=fun b o e=>mo.keeps b o (h5 b o e)
  a7:=fun e he=>(by obtain ⟨hk,L,o,e1,e2,e3,e4⟩:=h6 e he;exact⟨hk,L,o,e1,e2,mo.keeps _ _ e3,e4⟩)
  a8:=h6'
  a9:=h7.move (KX.of_keeps (P:=Ax) (F:=Ax) mo.keeps) (fun _ _ q=>q) fun _ q=>q
  a10:=h8
  a11:=fun a ha=>⟨(by(refine AI ((h9 a ha).1) ?_;rintro o e);exact⟨o,mo.keeps a o e⟩),(h9 a ha).2⟩ }
 have hxn:C.base.get? x=none:=by
  cases z:C.base.get? x with
  | none=>rfl
  | some o=>have:=h5 _ _ z;(replace this:=(mo.newX)▸this);exact nS this
 have hxC:x≠C.fieldCls:=fun z=>by(replace hxn:=(z)▸hxn;replace hxn:=(hC)▸hxn);exact sN hxn
 (refine AI (DI.all (l:=[.addr x,.bytes nm,.bytes raw]) (by kernel_rfl) rfl) ?_;rintro fd D)
 refine B6 Fx.ok.cfg (n:=0) D (by kernel_rfl) rfl I (.mk _ _ rfl (.mk _ _ (.mk o1 z1 t1) (.mk _ _ (.mk o2 z2 t2) rfl))) fun env s₁ B=>?_
 (refine AE (B.r.fr 0 (.addr x) rfl) ?_;rintro us ls ru)
 (refine AE (B.r.fr 1 (.bytes nm) rfl) ?_;rintro un ln rn)
 (refine AE (B.r.fr 2 (.bytes raw) rfl) ?_;rintro ur lr rr)
 cases (show us=.ref x from ru)
 induction rn with | mk _ _ tn=>
 induction rr with | mk _ _ tr=>
 have hk:=B.r.env.kind
 (refine Bm B.sh ?_;rintro hs1 tk1 rfl)
 have k1:=B.keep
 have sx:∃ o,h'.get? x=some o/\o.dict=some dx:=(by refine AE mo.inst ?_;rintro o e _;exact⟨o,e,mo.dict o e⟩)
 (refine AE sx ?_;rintro ox ex dxx)
 have sd:∃ o,h'.get? dx=some o:=by
  (refine FY mo.inst ?_;rintro o e _ _ z)
  (replace e:=(ex)▸e);(refine sI e ?_;clear e;intro zz;induction zz)
  rcases z with ⟨z,_⟩ | ⟨d',z,_,oo,es,ep,eo,_⟩
  ·(replace z:=(dxx)▸z);exact sN z
  ·(replace z:=(dxx)▸z);(refine sI z ?_;clear z;intro zz;induction zz);exact⟨oo,eo⟩
 (refine AI sd ?_;rintro od ed)
 have nL:∀ {P:Addr->Prop},(∀ b,P b->b=x∨b=dx)->¬P env.locals:=fun hP q=>by
  have:=B.loc
  rcases hP _ q with z | z<;>rw [z] at this
  ·(replace this:=(ex)▸this);exact sN this
  ·(replace this:=(ed)▸this);exact sN this
 have nC:∀ {P:Addr->Prop},(∀ b,P b->b=x∨b=dx)->∀ y c,env.cells.lookup y=some c->¬P c:=fun hP y c hc q=>by
  have:=B.cells y c hc
  rcases hP _ q with z | z<;>rw [z] at this
  ·(replace this:=(ex)▸this);exact sN this
  ·(replace this:=(ed)▸this);exact sN this
 have I1:hs1.Inst x C.fieldCls (fun _=>none):=by
  (refine FY mo.inst ?_;rintro o e e2 e3 z)
  refine⟨o,k1 _ _ e,e2,e3,z.imp id fun zq=>(by obtain ⟨d',z1,z2,oo,es,ep,eo,z3⟩:=zq;exact⟨d',z1,z2,oo,es,ep,k1 _ _ eo,z3⟩)⟩
 have base:∀ {b:Addr} {o:Obj} {g':Heap},(∀ b o,b≠x->(∀ o₀ dx',hs1.get? x=some o₀->o₀.dict=some dx'->b≠dx')->hs1.get? b=some o->g'.get? b=some o)->h.get? b=some o->g'.get? b=some o:=fun {b o g'} hf e=>by
  refine hf b o (fun z=>?_) (fun o₀ dx' e1 e2 z=>?_) (k1 b o (mo.keeps b o e))
  ·(replace e:=(z)▸e;replace e:=(mo.newX)▸e);exact nS e
  ·(replace e1:=(k1 _ _ ex)▸e1);(refine sI e1 ?_;clear e1;intro zz;induction zz)
   (replace e2:=(dxx)▸e2);(refine sI e2 ?_;clear e2;intro zz;induction zz)
   (replace e:=(z)▸e;replace e:=(mo.newD)▸e);exact nS e
 refine pT (FJ hk (EB ln (show (namesOf (Ar 51 0))[1]?=some (AB "name") from by kernel_rfl)) (EB ls (show (namesOf (Ar 51 0))[0]?=some (AB "self") from by kernel_rfl)) (by kernel_rfl) (by kernel_rfl) (store_attr F.store_object ((fun b o e=>k1 b o (mo.keeps b o (h5 b o e))) _ _ hC) (hN.keeps (fun b o e=>k1 b o (mo.keeps b o (h5 b o e)))) hsa hna P0 hxC I1 (fun h2 tk2 I2 f2 g2=>?_)))
 have x2:KX (fun b=>b=x∨b=dx) Ax hs1 h2:=KX.of_keepsBut fun b o hb e=>f2 b o (fun z=>hb (.inl z)) (fun o₀ dx' e1 e2 z=>hb (.inr (by(replace e1:=(k1 _ _ ex)▸e1);(refine sI e1 ?_;clear e1;intro zz;induction zz);(replace e2:=(dxx)▸e2);(refine sI e2 ?_;clear e2;intro zz;induction zz);exact z))) e
 (refine MJ (g2 ox (k1 _ _ ex)) ?_;rintro ox2 ex2 _ _ _ gd2)
 have dx2:=gd2 dx dxx
 refine pT (FJ hk (x2.look (nL (fun _ q=>q)) (nC (fun _ q=>q)) (EB lr (show (namesOf (Ar 51 0))[2]?=some (AB "raw") from by kernel_rfl))) (x2.look (nL (fun _ q=>q)) (nC (fun _ q=>q)) (EB ls (show (namesOf (Ar 51 0))[0]?=some (AB "self") from by kernel_rfl))) (by kernel_rfl) (by kernel_rfl) (store_attr F.store_object ((fun b o e=>base f2 (h5 b o e)) _ _ hC) (hN.keeps (fun b o e=>base f2 (h5 b o e))) hsa hra TS hxC I2 (fun h3 tk3 I3 f3 g3=>?_)))
 (refine MJ (g3 ox2 ex2) ?_;rintro ox3 ex3 _ _ _ gd3)
 have kk:=fun b o e=>by
  refine f3 b o (fun z=>?_) (fun o₀ dx' e1 e3 z=>?_) (base f2 e)
  ·(replace e:=(z)▸e;replace e:=(mo.newX)▸e);exact nS e
  ·(replace e1:=(ex2)▸e1);(refine sI e1 ?_;clear e1;intro zz;induction zz)
   (replace e3:=(dx2)▸e3);(refine sI e3 ?_;clear e3;intro zz;induction zz)
   (replace e:=(z)▸e;replace e:=(mo.newD)▸e);exact nS e
 refine wpAny_execs_nil ⟨rfl,.field nm raw,ν,⟨h3,tk3,rfl,KX.of_keeps kk,fun _ b o e=>kk b o (h5 b o e)⟩,h7.move (KX.of_keeps (P:=Ax) (F:=Ax) kk) (fun _ _ q=>q) fun _ q=>q,rfl,.mk o1 z1 o2 z2 x ⟨dx,_,tn,tr,fun z=>?_,fun z=>?_,I3,fun o e=>?_,?_,?_,?_⟩,q⟩
 ·(refine AI ((h9 _ z).1) ?_;rintro o e)
  exact nomatch e.symm.trans mo.newX
 ·(refine AI ((h9 _ z).1) ?_;rintro o e)
  exact nomatch e.symm.trans mo.newD
 ·(replace e:=(ex3)▸e);(refine sI e ?_;clear e;intro zz;induction zz);exact gd3 dx dx2
 ·(rfl)
 ·(rfl)
 ·(rfl)
end
end
noncomputable abbrev H5:List Value:=[.type "Exception",.type "BaseException",.type "object"]
inductive L3(h:Heap)(C:Addr)(bm:List Value)(mN:Str->Option Value):Prop where
 | mk (nm q N bs sn sub ab col dd k0 k1 k2 k3 k5) (e:h.get? C=some (excClassObj nm q C N bs bm true sn sub ab col dd k0 k1 k2 k3 k5 "Exception.__new__")) (n:h.Ns N mN):L3 h C bm mN
theorem L3.keeps{C:Addr}{bm:List Value}{mN:Str->Option Value}(x:L3 h C bm mN)(k:∀ b o,h.get? b=some o->h'.get? b=some o):L3 h' C bm mN:=
 match x with | .mk _ _ _ _ _ _ _ _ _ _ _ _ _ _ e n=>⟨_,_,_,_,_,_,_,_,_,_,_,_,_,_,k _ _ e,n.keeps k⟩
section
variable{prog:Program}{w:World}{M:Model}{A:Around}{E:Value->Shared->Prop}{h:Heap}{g:Array GenState}{d:Drawn}{t:Nat}{os:OsState}
variable{C P:Addr}{mC mP:Str->Option Value}
theorem L4(hC:L3 h C (.ref P::H5) mC)(hP:L3 h P H5 mP)(hB:typeLookup (.type "Exception") name=pure y)(hq:Q (match mC name with | some v=>some v | none=>match mP name with | some v=>some v | none=>y) ⟨h,g,d,t,os⟩):wpAny M A (typeLookup (.ref C) name) Q E ⟨h,g,d,t,os⟩:=by
 refine Ap fun G kk=>?_;obtain ⟨nm,q,N,bs,sn,sub,ab,col,dd,k0,k1,k2,k3,k5,e,n⟩:=hC
 obtain ⟨nm',q',N',bs',sn',sub',ab',col',dd',k0',k1',k2',k3',k5',e',n'⟩:=hP;refine kk ?_
 have hrest:lookupAlong H5 name=pure y:=hB
 (refine AA (typeLookup_eq ..:) ?_)
 refine oq (wpAny_mroOf_exc e ?_)
 (refine AA (lookupAlong_cons ..:) ?_)
 refine oq (wpAny_classOwn_exc e n ?_)
 cases hv:mC name with
 | some v=>(replace hq:=(hv)▸hq);exact o6 hq
 | none=>
  (replace hq:=(hv)▸hq)
  refine(?_:wpAny M A (lookupAlong _ _) _ _ _)
  (refine AA (lookupAlong_cons ..:) ?_)
  refine oq (wpAny_classOwn_exc e' n' ?_)
  cases hv':mP name with
  | some v=>(replace hq:=(hv')▸hq);exact o6 hq
  | none=>(replace hq:=(hv')▸hq);refine(?_:wpAny M A (lookupAlong _ _) _ _ _);(refine AA hrest ?_);exact o6 hq
theorem sub2(hC:L3 h C (.ref P::H5) mC)(hq:Q ((Value.ref C::.ref P::H5).contains b) ⟨h,g,d,t,os⟩):wpAny M A (isSubtype (.ref C) b) Q E ⟨h,g,d,t,os⟩:=by
 obtain ⟨nm,q,N,bs,sn,sub,ab,col,dd,k0,k1,k2,k3,k5,e,n⟩:=hC
 exact wpAny_isSubtype_exc e hq
end
section
variable{prog:Program}{w:World}{A:Around}{E:Value->Shared->Prop}{h:Heap}{g:Array GenState}{d:Drawn}{t:Nat}{os:OsState}
variable{C P:Addr}{mC mP:Str->Option Value}
theorem Ox{Q:Unit->Shared->Prop}(hC:L3 h C (.ref P::H5) mC)(hq:Q () ⟨h,g,d,t,os⟩):wpAny M A (checkBuiltinCall "Exception.__new__" ⟨.ref C::rest,[]⟩) Q E ⟨h,g,d,t,os⟩:=by
 obtain ⟨nm,q,N,bs,sn,sub,ab,col,dd,k0,k1,k2,k3,k5,e,n⟩:=hC
 have F:=F.excBase_Exception
 have hcont:(Value.ref C::.ref P::H5).contains (.type "Exception")=true:=by rfl
 simp only [checkBuiltinCall,F.newKind,F.newSplit,F.newRow]
 repeat (first | refine wpAny_loadPart_at e ?_ | (refine wpAny_isSubtype_exc e ?_;rw [hcont]) | refine wpAny_staticBase_exc e ?_ | refine wpAny_madeBy_exc e ?_ | rfl | wp_step)
 exact hq
theorem UJ{R:Result->Shared->Prop}{rest:List Value}(hC:L3 h C (.ref P::H5) mC)(hq:R (.ok (.ret (.ref (h.objs.size+1)))) ⟨(h.push { cls:=.type "tuple",data:=.seq rest.toArray }).push
   { cls:=.ref C,data:=.fields #[.ref h.objs.size,.none,.none,.none,.bool false,.none] },g,d,t,os⟩)(hrest:rest.length<=sizeLine):
  codeAny (model prog w) A (.builtin "Exception.__new__" ⟨.ref C::rest,[]⟩) R ⟨h,g,d,t,os⟩:=by
 obtain ⟨nm,q,N,bs,sn,sub,ab,col,dd,k0,k1,k2,k3,k5,e,n⟩:=hC
 have F:=F.excBase_Exception
 have hends:=F.ends
 have hcB:(Value.ref C::.ref P::H5).contains (.type "Exception")=true:=by rfl
 have hcA:(Value.ref C::.ref P::H5).contains (.type "AttributeError")=false:=by rfl
 have hcN:(Value.ref C::.ref P::H5).contains (.type "NameError")=false:=by rfl
 refine codeAny_builtinAt F.entry ?_
 refine PySem.wpAt_bind ?_
 refine PySem.wpAt_bind (PySem.wpAt_stack fun p below=>PySem.wpAt_of_wpAny ?_)
 wp_walk
 refine PySem.wpAt_of_wpAny ?_
 (refine AA F.owner ?_)
 repeat (first | with_reducible refine wpAny_madeHere_exc F.canon e ?_ | with_reducible refine wpAny_loadPart_at e ?_ | (with_reducible refine wpAny_isSubtype_exc e ?_;first | rw [hcB] | rw [hcA] | rw [hcN]) | wp_step)
 refine(?_:R _ _)
 (refine AA (Heap.size_push ..:) ?_)
 exact hq
theorem RV{rest:List Value}{fI:Addr}{oI:Obj}(hC:L3 h C (.ref P::H5) mC)(hP:L3 h P H5 mP)(hi:mC "__init__" = none)(hi':mP "__init__" = some (.ref fI))(hfI:h.get? fI=some oI)(hfc:oI.cls=.type "function")(hq:∀ h' e,Heap.MadeExcOf h h' e (.ref C) rest->
   wpAny (model prog w) (A.under (.builtin "type.__call__" ⟨.ref C::rest,[]⟩)) (call (.ref fI) (.ref e::rest)) (fun r s'=>r=.none/\Q (.ref e) s') E ⟨h',g,d,t,os⟩)(hrest:rest.length<=sizeLine):
  wpAny (model prog w) A (call (.ref C) rest) Q E ⟨h,g,d,t,os⟩:=by
 obtain ⟨nm,q,N,bs,sn,sub,ab,col,dd,k0,k1,k2,k3,k5,e,n⟩:=id hC
 have f1:=tc_lookup
 have f2:=tc_bind (.ref C)
 have hT:(⟨h,g,d,t,os⟩:Shared).TypeIs (.ref C) "type" := ⟨_,e,rfl⟩
 refine wpAny_call (codeAny_of_tree ?_)
 refine(?_:wpAny _ _ (callAny (.ref C) _) _ _ _)
 repeat (any_goals (wp_step))
 refine⟨rfl,?_⟩
 refine codeAny_call_builtin_at (Code.quiet_builtin _ (by decide +kernel)) entry_typeCall (wpAny_check_type_call_sub e ?_)
 repeat (first | with_reducible refine wpAny_loadPart_at e ?_ | with_reducible refine wpAny_madeBy_exc e ?_ | wp_step)
 refine codeAny_call_builtin_code (Code.quiet_builtin _ (F.excBase_Exception).quiet) (Ox hC ?_)
 refine UJ hC ?_ hrest
 have kk:∀ b o,h.get? b=some o->((h.push { cls:=.type "tuple",data:=.seq rest.toArray }).push { cls:=.ref C,data:=.fields #[.ref h.objs.size,.none,.none,.none,.bool false,.none] }).get? b=some o:=fun b o z=>pF _ (pF _ z)
 have hget:((h.push { cls:=.type "tuple",data:=.seq rest.toArray }).push
   { cls:=.ref C,data:=.fields #[.ref h.objs.size,.none,.none,.none,.bool false,.none] }).get? (h.objs.size+1)=some
   { cls:=.ref C,data:=.fields #[.ref h.objs.size,.none,.none,.none,.bool false,.none] }:=by heap_get
 have hcC:(Value.ref C::.ref P::H5).contains (.ref C)=true:=by simp
 repeat (wp_step)
 refine sub2 (hC.keeps kk) ?_
 (refine AA hcC ?_)
 repeat wp_step
 refine L4 (hC.keeps kk) (hP.keeps kk) (F.excBase_Exception).init.lookup ?_
 (refine AA hi ?_;refine AA hi' ?_)
 refine pR (oq ?_)
 refine oq (wpAny_typeOf ⟨_,kk _ _ hfI,hfc⟩ ?_)
 refine o6 (oq (pN (hq _ (h.objs.size+1) ⟨kk,qn (Nat.le_succ _),h.objs.size,hget,qn (ou _),?_⟩) (fun r s' hr=>?_) fun _ _ x=>x))
 ·exact pF _ (Heap.get?_push_at rfl rfl)
 ·(refine AM hr ?_;clear hr;rintro rfl hQ)
  wp_walk
  exact hQ
end
section
variable{prog:Program}{w:World}{A:Around}{E:Value->Shared->Prop}{h:Heap}{g:Array GenState}{d:Drawn}{t:Nat}{os:OsState}
variable{C P x:Addr}{mC mP mA:Str->Option Value}
theorem Oy(hC:L3 h C (.ref P::H5) mC)(hx:h.get? x=some o)(hc:o.cls=.ref C)(hq:Q () ⟨h,g,d,t,os⟩):
  wpAny M A (checkBuiltinCall "object.__setattr__" ⟨[.ref x,nameV,v],[]⟩) Q E ⟨h,g,d,t,os⟩:=by
 have SF:=F.store_Exception
 have hcB:(Value.ref C::.ref P::H5).contains (.type "object")=true:=by(refine AA List.contains_cons ?_;refine AA List.contains_cons ?_;refine AA SF.hasOwner ?_);rfl
 have ha:=SF.args (.ref x) nameV v
 simp only [checkBuiltinCall,SF.kind,SF.split]
 refine oq ?_
 delta isInstance
 repeat (first | (with_reducible refine wpAny_loadPart_at hx ?_;rw [hc]) | (refine sub2 hC ?_;rw [hcB]) | wp_step)
 exact hq
theorem jO(hC:L3 h C (.ref P::H5) mC)(hP:L3 h P H5 mP)(q1:mC name=none)(q2:mP name=none)(q3:mC "__setattr__" = none)(q4:mP "__setattr__" = none)(hB:typeLookup (.type "Exception") name=pure none)(I:h.Inst x C mA)(hw:Within mA ns)(hz:ns.length<=10)(hq:∀ h' tk',h'.Inst x C (fun y=>if y=name then some v else mA y)->
   (∀ b o,b≠x->(∀ o₀ dx,h.get? x=some o₀->o₀.dict=some dx->b≠dx)->h.get? b=some o->h'.get? b=some o)->
   (∀ o₀,h.get? x=some o₀->∃ o₁,h'.get? x=some o₁/\o₁.cls=o₀.cls/\o₁.data=o₀.data/\o₁.slots=o₀.slots/\∀ dx,o₁.dict=some dx->o₀.dict=some dx∨h.get? dx=none)->Q () ⟨h',g,d,tk',os⟩):
  wpAny (model prog w) A (setAttr (.ref x) name v) Q E ⟨h,g,d,t,os⟩:=by
 (refine FY (id I) ?_;rintro o hx hc hnc hd)
 have SF:=F.store_Exception
 have f3:=SF.slot.bind (.ref x)
 obtain ⟨nm,q,N,bs,sn,sub,ab,col,dd,k0,k1,k2,k3,k5,e,n⟩:=id hC
 delta setAttr callSpecial? specialOf
 repeat (any_goals (first | assumption | (with_reducible refine wpAny_loadPart_at hx ?_;rw [hc]) | (with_reducible refine L4 hC hP SF.slot.lookup ?_;rw [q3,q4]) | wp_step))
 refine codeAny_call_builtin SF.slot.plain SF.entry (Oy hC hx hc ?_)
 have hpass:=SF.passes (.ref x)
 delta Builtin.«object.__setattr__»
 repeat (first | rw [refuse_eq] | (rw [refuseLoop_ref,refuseLoop_ref,hpass]) | (with_reducible refine wpAny_loadPart_at hx ?_;rw [hc]) | with_reducible refine wpAny_mroOf_exc e ?_ | (with_reducible refine L4 hC hP hB ?_;rw [q1,q2]) | wp_step)
 rcases hd with ⟨hdn,hmA⟩ | ⟨dx,hdx,hne,hns⟩
 ·(refine AA hdn ?_;refine AA (pH (by exact Bool.false_ne_true)) ?_)
  split
  ·rename_i hcd;exact nS hcd
  split
  ·rename_i c hcd;exact absurd hcd (hnc c)
  have hx₁:(h.push { cls:=.type "dict",data:=.dict #[] }).get? x=some o:=pF _ hx
  have hxs:=pX (pi hx)
  refine oq (wpAny_alloc' (oq (wpAny_update' hx₁ (o6 ?_))))
  have hgd:((h.push { cls:=.type "dict",data:=.dict #[] }).update x fun o=>{ cls:=o.cls,dict:=some h.objs.size,data:=o.data,slots:=o.slots }).get? h.objs.size
    = some { cls:=.type "dict",data:=.dict #[] }:=(Heap.get?_update_ne _ _ _ _ hxs.symm).trans (Heap.get?_push_at rfl rfl)
  have hx₂:=qd (fun o:Obj=>{ cls:=o.cls,dict:=some h.objs.size,data:=o.data,slots:=o.slots }) hx₁ (by
   have hfr:=(Heap.get?_some_iff.mp hx).2
   obtain ⟨oc,od,odt,osl⟩:=o
   cases odt<;>exact hfr)
  have other:∀ b ob,b≠x->h.get? b=some ob->((h.push { cls:=.type "dict",data:=.dict #[] }).update x fun o=>{ cls:=o.cls,dict:=some h.objs.size,data:=o.data,slots:=o.slots }).get? b=some ob:=fun b ob hbx hb=>(Heap.get?_update_ne _ _ _ _ hbx).trans (pF _ hb)
  generalize ((h.push { cls:=.type "dict",data:=.dict #[] }).update x fun o=>{ cls:=o.cls,dict:=some h.objs.size,data:=o.data,slots:=o.slots })=h₂ at hgd hx₂ other
  have hnd:h₂.Ns h.objs.size (fun _=>none):=⟨_,#[],_,hgd,rfl,fun e he=>absurd he (by simp),fun _=>rfl⟩
  refine(?_:wpAny _ _ (Builtin.ObjectAttr.storeInDict h.objs.size (.str name t) name v) _ _ _)
  delta Builtin.ObjectAttr.storeInDict Builtin.ObjectAttr.newKeyGuard
  refine oq (o6 (oq (wpAny_nsSet1 (Heap.Ns1.of_empty hnd) fun h' hn' hs=>?_)))
  (refine IY (hn'.count (Within.cons name v Within.nil)) ?_;rintro oD esD epD hoD hdD hcD)
  refine oq (wpAny_lookBehind hoD (by(refine AA hdD ?_);exact pastItsLine_dict (om hcD (by(refine AA qG ?_;refine AA List.length_nil ?_;refine AA sizeLine_eq ?_);exact qW _ _))) ?_)
  wp_walk
  have hx':=(hs.2 x hxs).trans hx₂
  refine hq h' _ ⟨_,hx',hc,hnc,.inr ⟨h.objs.size,rfl,hxs.symm,?_⟩⟩ (fun b ob hbx _ hb=>(hs.2 b (pX (pi hb))).trans (other b ob hbx hb))
   (fun o₀ h₀=>by obtain rfl:o=o₀:=pP (hx.symm.trans h₀);exact⟨_,hx',rfl,rfl,rfl,fun dx e=>.inr (by(refine sI e ?_;clear e;intro zz;cases zz);exact qn (ou _))⟩)
  (refine FZ hn' ?_;clear hn';rintro o' es ep e1 e2 e3 ⟨eu,e4⟩)
  exact⟨o',es,ep,e1,e2,e3,eu,fun y=>by(refine AA (e4 y) ?_);by_cases hy:y=name<;>simp [hy,hmA]⟩
 ·(refine AA hdx ?_)
  refine o6 ?_
  refine(?_:wpAny _ _ (Builtin.ObjectAttr.storeInDict dx (.str name t) name v) _ _ _)
  delta Builtin.ObjectAttr.storeInDict Builtin.ObjectAttr.newKeyGuard
  refine oq (o6 (oq (wpAny_nsSet1 hns fun h' hn' hs=>?_)))
  (refine IY (hn'.count (Within.cons name v hw)) ?_;rintro oD esD epD hoD hdD hcD)
  refine oq (wpAny_lookBehind hoD (by(refine AA hdD ?_);exact pastItsLine_dict (om hcD (by(refine AA qG ?_;refine AA sizeLine_eq ?_);exact pC ‹_› (by decide)))) ?_)
  wp_walk
  exact hq h' _ ⟨o,(hs.2 x hne.symm).trans hx,hc,hnc,.inr ⟨dx,hdx,hne,hn'⟩⟩ (fun b ob _ hbd hb=>(hs.2 b (hbd o dx hx hdx)).trans hb)
   (fun o₀ h₀=>⟨o₀,(hs.2 x hne.symm).trans h₀,rfl,rfl,rfl,fun _ e=>.inl e⟩)
theorem ar{oe:Obj}{fs:Array Value}{v:Value}(hC:L3 h C (.ref P::H5) mC)(hx:h.get? x=some oe)(hc:oe.cls=.ref C)(hd:oe.data=.fields fs)(hz:0<fs.size)(hq:∀ h' tp,(∀ b o,b≠x->h.get? b=some o->h'.get? b=some o)->h'.get? x=some { oe with data:=.fields (fs.setIfInBounds 0 (.ref tp)) }->Q .none ⟨h',g,d,t,os⟩):
  wpAny (model prog w) A (call (.builtin "Exception.__init__") [.ref x,v]) Q E ⟨h,g,d,t,os⟩:=by
 have F:=F.excBase_Exception
 have hcB:(Value.ref C::.ref P::H5).contains (.type "Exception")=true:=by(refine AA List.contains_cons ?_;refine AA List.contains_cons ?_;refine AA F.hasB ?_);rfl
 obtain ⟨nm,q,N,bs,sn,sub,ab,col,dd,k0,k1,k2,k3,k5,e,n⟩:=id hC
 refine wpAny_call (codeAny_call_builtin F.init.plain F.initEntry ?_)
 have hshort:=F.noStar
 simp only [checkBuiltinCall,F.initKind,F.initSplit,F.initRow]
 delta isInstance
 repeat (first | (with_reducible refine wpAny_loadPart_at hx ?_;rw [hc]) | with_reducible refine wpAny_loadPart_at e ?_ | (refine sub2 hC ?_;rw [hcB]) | wp_step)
 (refine AA hd ?_)
 refine o6 ?_
 obtain ⟨v0,h0⟩:∃ v0,fs[0]?=some v0:=⟨fs[0],Array.getElem?_eq_getElem hz⟩
 (refine AA h0 ?_)
 refine o6 (oq ?_)
 have hx':(h.push { cls:=.type "tuple",data:=.seq #[v] }).get? x=some oe:=pF _ hx
 have hd':=Obj.data_mapFields hd (·.setIfInBounds 0 (Value.ref h.objs.size))
 refine wpAny_setField hx' hd hz ?_
 have fin:wpAny (model prog w) A.in1 (ret Value.none) (fun fin s'=>match fin with
   | Fin.done f=>match (Except.ok f:Result) with
    | Except.ok (Flow.ret v)=>Q v s'
    | Except.ok a=>False
    | Except.error e=>E e s'
   | Fin.again c'=>c'.quiet=true/\codeAny (model prog w) A c' (fun r s'=>match r with
     | Except.ok (Flow.ret v)=>Q v s'
     | Except.ok a=>False
     | Except.error e=>E e s') s') (fun e s'=>E e s') ⟨(h.push { cls:=.type "tuple",data:=.seq #[v] }).update x (Obj.mapFields (·.setIfInBounds 0 (.ref h.objs.size))),g,d,t,os⟩:=by
  refine o6 (hq _ h.objs.size (fun b o hb e'=>?_) ?_)
  ·(refine AA (qS _ _ (Ne.symm hb)) ?_);exact pF _ e'
  ·(refine AA (qd _ hx' (Obj.isFreed_of_fields hd')) ?_)
   obtain ⟨oc,od,odt,osl⟩:=oe
   subst hd
   rfl
 cases v0<;>first | exact o6 fin | exact wpAny_letGo fin
end
inductive Jk(h:Heap)(e T M:Addr)(fl:Value):Prop where
 | mk (oe:Obj) (vs:Array Value) (oT:Obj) (ts:Array Value) (a:h.get? e=some oe) (b:oe.cls=.ref M) (c:oe.data=.fields vs) (v1:vs[1]?=some (.ref T)) (v2:vs[2]?=some .none) (n:T≠e) (i:h.get? T=some oT) (j:oT.data=.fields ts) (k:ts[3]?=some fl):Jk h e T M fl
section
variable{M:Model}{A:Around}{E:Value->Shared->Prop}{s:Shared}{env:Env}{outer:List Env}{L e Mc:Addr}{oe:Obj}{vs:Array Value}{Q:Unit->Shared->Prop}
theorem Jl(hfr:A.frames=some (env::outer))(hl:s.heap.FunFrames default (env::outer))(hf:env.frame=some L)(he:s.heap.get? e=some oe)(hc:oe.cls=.ref Mc)(hd:oe.data=.fields vs)(h2:vs[2]?=some .none)(h:∀ h' T',s.heap.get? T'=none->Jk h' e T' Mc (rawInt L)->KX (·=e) (inF (env::outer)) s.heap h'->Q () { s with heap:=h' }):
  wpAny M A (do setField (.ref e) 1 (←EntryCells.newEntry head (←frameOf env) .none (rawInt L) .none (←entryPlaceOf L hadNext))) Q E s:=by
 have hz:=(Array.getElem?_eq_some_iff.mp h2).1
 have hene:e∉(env::outer).filterMap (·.frame):=fun hm=>by
  obtain ⟨_,o,ho,hnf⟩:=hl.mem hm
  (replace ho:=(he)▸ho);injection ho with ho;subst ho;exact hnf vs hd
 refine oq (wpAny_frameOf_fun hfr hl hf fun h₁ hs₁=>oq (wpAny_entryPlaceOf fun pl hpl=>?_))
 refine oq (wpAny_newObj_type ?_ (hpl.sizeOk5 _ _ _ _ _))
 have he₁:=(hs₁.2.1 e hene).trans he
 have e3:([head,Value.ref L,.none,rawInt L,.none] ++ (if pl.isEmpty then List.replicate 6 Value.none else pl)).toArray[3]?=some (rawInt L):=by rfl
 generalize ([head,Value.ref L,.none,rawInt L,.none] ++ (if pl.isEmpty then List.replicate 6 Value.none else pl)).toArray=ts at e3 ⊢
 have he₂:=pF { cls:=.type "traceback",dict:=none,data:=.fields ts } he₁
 have hT₂:(h₁.push { cls:=.type "traceback",dict:=none,data:=.fields ts }).get? h₁.objs.size=some { cls:=.type "traceback",dict:=none,data:=.fields ts }:=pE h₁ rfl
 have hTn:s.heap.get? h₁.objs.size=none:=qn (by(refine AA hs₁.1 ?_);exact ou _)
 have hTe:=Nat.ne_of_gt (pi he₁)
 have kp:∀ b o,h₁.get? b=some o->(h₁.push { cls:=.type "traceback",dict:=none,data:=.fields ts }).get? b=some o:=fun b o q=>pF _ q
 generalize (h₁.push { cls:=.type "traceback",dict:=none,data:=.fields ts })=h₂ at he₂ hT₂ kp ⊢
 generalize h₁.objs.size=T at hT₂ hTn hTe ⊢
 refine wpAny_setField he₂ hd (qU hz) (h _ T hTn ⟨_,_,_,_,qd _ he₂ (Obj.isFreed_of_fields (Obj.data_mapFields hd (·.setIfInBounds 1 (Value.ref T)))),(Obj.cls_mapFields _ _).trans hc,(Obj.data_mapFields hd (·.setIfInBounds 1 (Value.ref T))),?_,?_,hTe,(qS _ _ (Ne.symm hTe)).trans hT₂,rfl,e3⟩ fun b o hb q=>?_)
 ·(refine AA (Array.getElem?_setIfInBounds_self) ?_;refine AA (pO (by exact qU hz)) ?_;rfl)
 ·(refine AA (Array.getElem?_setIfInBounds_ne (by decide)) ?_);exact h2
 ·refine⟨fun hF=>(qS _ _ (Ne.symm hb)).trans (kp b o ((hs₁.2.1 b hF).trans q)),?_⟩
  (refine AI (hs₁.2.2 b o q) ?_;rintro sl q2)
  exact⟨sl,(qS _ _ (Ne.symm hb)).trans (kp b _ q2)⟩
theorem UK(hfr:A.frames=some (env::outer))(hl:s.heap.FunFrames default (env::outer))(hf:env.frame=some L)(he:s.heap.get? e=some oe)(hc:oe.cls=.ref Mc)(hd:oe.data=.fields vs)(h1:vs[1]?=some .none)(h2:vs[2]?=some .none)(h:∀ h' T',s.heap.get? T'=none->Jk h' e T' Mc (rawInt L)->KX (·=e) (inF (env::outer)) s.heap h'->Q () { s with heap:=h' }):wpAny M A (noteFrame (.ref e) env) Q E s:=by
 delta noteFrame
 simp only [hf]
 refine oq (wpAny_field he hd h1 ?_)
 exact Jl hfr hl hf he hc hd h2 h
theorem WY{T:Addr}(hfr:A.frames=some (env::outer))(hl:s.heap.FunFrames default (env::outer))(hf:env.frame=some L)(hfl:Jk s.heap e T Mc .none)(h:∀ h' T',s.heap.get? T'=none->Jk h' e T' Mc (rawInt L)->KX (fun b=>b=e∨b=T) (inF (env::outer)) s.heap h'->Q () { s with heap:=h' }):wpAny M A (noteFrame (.ref e) env) Q E s:=by
 obtain ⟨oe,vs,oT,ts,he,hc,hd,h1,h2,hTe,hT,hdT,h3⟩:=hfl
 delta noteFrame
 simp only [hf]
 refine oq (wpAny_field he hd h1 ?_)
 refine oq (wpAny_field hT hdT h3 ?_)
 refine oq (wpAny_setField hT hdT ((Array.getElem?_eq_some_iff.mp h3).1) ?_)
 have ot:∀ b,b≠T->(s.heap.update T (Obj.mapFields (·.setIfInBounds 3 Value.none))).get? b=s.heap.get? b:=fun b hb=>qS _ _ (Ne.symm hb)
 have oT':∃ o,(s.heap.update T (Obj.mapFields (·.setIfInBounds 3 Value.none))).get? T=some o:=⟨_,qd _ hT (Obj.isFreed_of_fields (Obj.data_mapFields hdT _))⟩
 generalize (s.heap.update T (Obj.mapFields (·.setIfInBounds 3 Value.none)))=h₁ at ot oT' ⊢
 have nT:∀ b o,s.heap.get? b=some o->(∀ vs,o.data≠.fields vs)->b≠T:=fun b o q hn z=>by(replace q:=(z)▸q;replace q:=(hT)▸q);(refine sI q ?_;clear q;intro zz;induction zz);exact hn _ hdT
 refine Jl hfr (hl.of_keeps fun b o q hn=>⟨o,(ot b (nT b o q hn)).trans q,rfl⟩) hf ((ot e (Ne.symm hTe)).trans he) hc hd h2 fun h' T' hn hfl k=>h h' T' ?_ hfl fun b o hb q=>?_
 ·by_cases z:T'=T
  ·(refine AI oT' ?_;rintro o q)
   (replace hn:=(z)▸hn);exact absurd (q.symm.trans hn) (by simp)
  ·exact(ot T' z).symm.trans hn
 ·exact k b o (fun z=>hb (.inl z)) ((ot b fun z=>hb (.inr z)).trans q)
theorem RW{T:Addr}(hf:env.frame=some L)(hfl:Jk s.heap e T Mc (rawInt L))(h:Q () s):wpAny M A (noteFrame (.ref e) env) Q E s:=by
 obtain ⟨oe,vs,oT,ts,he,hc,hd,h1,h2,hTe,hT,hdT,h3⟩:=hfl
 delta noteFrame
 simp only [hf]
 refine oq (wpAny_field he hd h1 ?_)
 refine oq (wpAny_field hT hdT h3 ?_)
 (refine AA (pO (show (rawInt L==rawInt L)=true from by simp)) ?_)
 exact o6 h
theorem L5{T:Addr}{fl:Value}{fo:Option Addr}(hfl:Jk s.heap e T Mc fl)(h:∀ h',Jk h' e T Mc (fo.elim .none fun f=>rawInt f)->KX (·=T) Ax s.heap h'->Q () { s with heap:=h' }):wpAny M A (setFlight (.ref e) fo) Q E s:=by
 obtain ⟨oe,vs,oT,ts,he,hc,hd,h1,h2,hTe,hT,hdT,h3⟩:=hfl
 refine oq (wpAny_field he hd h1 ?_)
 refine wpAny_setField hT hdT ((Array.getElem?_eq_some_iff.mp h3).1) (h _ ⟨oe,vs,_,_,(qS _ _ hTe).trans he,hc,hd,h1,h2,hTe,qd _ hT (Obj.isFreed_of_fields (Obj.data_mapFields hdT _)),Obj.data_mapFields hdT _,?_⟩ (KX.of_keepsBut fun b o hb q=>(qS _ _ (Ne.symm hb)).trans q))
 (refine AA (Array.getElem?_setIfInBounds_self) ?_;refine AA (pO ((Array.getElem?_eq_some_iff.mp h3).1)) ?_;rfl)
theorem RX{T:Addr}(hf:env.frame=some L)(hfl:Jk s.heap e T Mc (rawInt L))(h:∀ h',Jk h' e T Mc (rawInt L)->KX (·=T) Ax s.heap h'->E' (.ref e) { s with heap:=h' }):cameBackBy M A env E' (.ref e) s:=by
 obtain ⟨oe,vs,oT,ts,he,hc,hd,h1,h2,hTe,hT,hdT,h3⟩:=id hfl
 refine oq (wpAny_field he hd h1 ?_)
 (refine AA hf ?_)
 exact L5 hfl fun h' q k=>h h' q k
end
section
variable{C:Al}{hn:Bool}{d:Nat}{ν:Pu}{K:PV->Pu->Prop}
section
variable{A:Around}{s:Shared}{E:Value->Shared->Prop}{X:Addr->Prop}
structure NQ(C:Al)(M P fI:Addr):Prop where
 m:∃ mM,L3 C.base M (.ref P::H5) mM/\mM "__init__" = none/\mM "__setattr__" = none/\mM "what" = none/\mM "at" = none
 p:∃ mP,L3 C.base P H5 mP/\mP "__init__" = some (.ref fI)/\mP "__setattr__" = none/\mP "what" = none/\mP "at" = none
 f:∃ fd T o o' n y,QA C fI fd (A8 (Ar 7 0))/\fd.scope=BA (Ar 7 0)/\fd.params=BR (Ar 7 0)/\fd.defaults=.ref T/\C.base.get? T=some o/\o.data=.seq #[.int (-1) y] n/\C.base.get? fI=some o'/\o'.cls=.type "function"
 mg:C.mg "MimeFault" = some (.ref M)
 ex:C.mg "Exception" = none/\C.mb "Exception" = some (.type "Exception")
theorem Oz{apos pos:Pos}(hz:args.all noStar=true)(hl:args.length<20)(hline:(apos.endLine==pos.line)=true)(hg:∀ {K:Value×List Value->Shared->Prop} {pl:Sem Bool},K (f,first) s'->wpAny (model C.prog C.w) A (getMethod ov name pl) K E s)(h:wpAny (model C.prog C.w) A (callWith pos f first (backTo pos (starEach args env)) []) Q E s'):
  wpAny (model C.prog C.w) A (methodCall o name apos pos env ov (args.length+([]:List Keyword).length) (backTo pos (starEach args env)) (backToKw pos (keywordEach [] env))) Q E s:=by
 have hpos:methodCallPos true o env apos pos=pure pos:=pO hline
 delta methodCall
 (refine AA (My hz hl) ?_)
 exact oq (pR (hg (oq (qR hpos h))))
theorem WZ:typeLookup (.type "Exception") "what" = pure none:=by kernel_rfl
theorem jP:typeLookup (.type "Exception") "at" = pure none:=by kernel_rfl
theorem RY{L:Addr}{m:Str->Option Value}{pl:Sem Bool}{Q:Value×List Value->Shared->Prop}(n:s.heap.Ns L m)(h:Q (.builtin "Exception.__init__",[]) { s with toks:=s.toks+1 }):wpAny (model C.prog C.w) A (getMethod (.type "Exception") "__init__" pl) Q E s:=
 method_type (K:=[]) (h₀:=default) (v:=.builtin "Exception.__init__") ⟨n,fun b o q=>absurd (q.symm.trans (qn (h:=default) (pQ b))) nofun,pQ _⟩ (fun a o q=>(by exact nS q)) (by kernel_rfl) (by decide +kernel) (by kernel_rfl) (by decide +kernel) h
noncomputable def Nk(i:Nat):Stmt:=(A8 (Ar 7 0)).getD i Nj
noncomputable def O0(st:Stmt):Expr:=match st with
 | .Expr e _=>e
 | st=>BB st
theorem UL:A8 (Ar 7 0)=[.Expr (.Call (.Attribute (.Name (AB "Exception") (Cv (Cv (O0 (Nk 0)) 0) 0).pos) "__init__" (Cv (O0 (Nk 0)) 0).pos) [.Name (AB "self") (Cv (O0 (Nk 0)) 1).pos,.Name (AB "what") (Cv (O0 (Nk 0)) 2).pos] [] (O0 (Nk 0)).pos) (Nk 0).pos,
  .Assign [.Attribute (.Name (AB "self") (Cv (DU (Nk 1)) 0).pos) "what" (DU (Nk 1)).pos] (.Name (AB "what") (BB (Nk 1)).pos) (Nk 1).pos,
  .Assign [.Attribute (.Name (AB "self") (Cv (DU (Nk 2)) 0).pos) "at" (DU (Nk 2)).pos] (.Name (AB "at") (BB (Nk 2)).pos) (Nk 2).pos]:=by kernel_rfl
theorem UM:((Cv (O0 (Nk 0)) 0).pos.endLine==(O0 (Nk 0)).pos.line)=true:=by kernel_rfl
theorem UN(Fx:AX C){M P fI:Addr}(W:NQ C M P fI){ν:Pu}{fr:List Env}{e t0:Addr}{pw:List Nat}{pa:Int}{vw va:Value}{Q:Value->Shared->Prop}(I:Cz C A hn (d+1) fr X ν s)(he:s.heap.get? e=some { cls:=.ref M,data:=.fields #[.ref t0,.none,.none,.none,.bool false,.none] })(rw_:AJ C s.heap X (.str pw) vw)(ra:AJ C s.heap X (.int pa) va)(hen:C.base.get? e=none)(hq:∀ h' tk tp o',(∀ b o,b≠e->s.heap.get? b=some o->h'.get? b=some o)->h'.get? e=some o'->o'.cls=.ref M->o'.data=.fields #[.ref tp,.none,.none,.none,.bool false,.none]->Q .none { s with heap:=h',toks:=tk }):
  wpAny (model C.prog C.w) A (call (.ref fI) [.ref e,vw,va]) Q E s:=by
 (refine MJ W.m ?_;rintro mM hM m1 m2 m3 m4)
 (refine MJ W.p ?_;rintro mP hP p1 p2 p3 p4)
 obtain ⟨fd,T,oT,_,n,y,D,e1,e2,e3,e4,e5,_⟩:=W.f
 have hq7:Tt (Ar 7 0)=true:=by kernel_rfl
 have hpl:JU (BR (Ar 7 0))=true:=(Bool.and_eq_true _ _▸hq7:JU _=true/\_).1
 have hand:(Am (Ar 7 0)).Nodup:=by decide +kernel
 have DS:Tu C fI (Ar 7 0) [.addr e,.str pw,.int pa] [.addr e,.str pw,.int pa] fd:=⟨D,e1,fun s X vs hs hv=>⟨vs,hv,JT (e2.trans (G7 hpl)) rfl (dfl:=[.int (-1) y]) (fun M A Q E hQ=>by(refine AA e3 ?_);exact wpAny_seqItems (hs _ _ e4) e5 (hQ _ rfl)) (Kq hand (hv.length.trans (by kernel_rfl)))⟩⟩
 refine B6 Fx.ok.cfg (n:=0) DS hq7 (by kernel_rfl) I (.mk _ _ rfl (.mk _ _ rw_ (.mk _ _ ra rfl))) fun env s₁ B=>?_
 (refine AA UL ?_)
 (refine AE (B.r.fr 0 (.addr e) rfl) ?_;rintro us ls ru)
 (refine AE (B.r.fr 1 (.str pw) rfl) ?_;rintro un ln rn)
 (refine AE (B.r.fr 2 (.int pa) rfl) ?_;rintro ur lr rr)
 have ls:=EB ls (show (namesOf (Ar 7 0))[0]?=some (AB "self") from by kernel_rfl)
 have ln:=EB ln (show (namesOf (Ar 7 0))[1]?=some (AB "what") from by kernel_rfl)
 have lr:=EB lr (show (namesOf (Ar 7 0))[2]?=some (AB "at") from by kernel_rfl)
 cases (show us=.ref e from ru)
 have hk:=B.r.env.kind
 have hx:env.kindOf (AB "Exception")=some .globalImplicit:=(B.sc (AB "Exception") .globalImplicit (by kernel_rfl) (by decide)).1
 have G:=Fx.ok.cfg
 have eg:=B.r.env.glob
 have eb:=B.r.env.bu
 (refine Bm B.sh ?_;rintro h1 tk1 rfl)
 have k1:=B.keep
 have b1:=B.r.stays
 have he1:=k1 _ _ he
 (refine AI B.r.ns ?_;rintro mL nL)
 refine pT (wpAny_Expr_any ?_ (JN hk) rfl)
 (refine AA (arm_eval_Call ..:) ?_;refine AA (DR (by rfl)) ?_)
 refine oq (Calls.Name_function_global hk hx (Calls.loadGlobal_builtin (by(refine AA eg ?_);exact G.g.at' fun o e=>b1 _ o e) W.ex.1 (by(refine AA eb ?_);exact G.b.at' fun o e=>b1 _ o e) W.ex.2 (oq (qI ?_))) (by kernel_rfl))
 have hz2:∀ {p1 p2:Pos},([.Name (AB "self") p1,.Name (AB "what") p2]:List Expr).all noStar=true:=rfl
 refine Oz (s':={ heap:=h1,gens:=s.gens,drawn:=s.drawn,toks:=tk1+1,os:=s.os }) hz2 (show 2<20 by decide) UM (f:=.builtin "Exception.__init__") (first:=[]) (fun {K pl} k=>RY nL k) ?_
 refine Calls.callWith_builtin (Ai hz2) (BQ (Ai hz2) ?_)
 refine qK (CB hk ls (by kernel_rfl) ?_) (AR rfl)
 refine qK (CB hk ln (by kernel_rfl) ?_) (AR rfl)
 refine wpAny_items_nil ?_
 refine ar (hM.keeps b1) he1 rfl rfl (pW 5) fun h2 tp k2 he2=>?_
 have nLe:env.locals≠e:=fun z=>by have:=B.loc;(replace this:=(z)▸this;replace this:=(he)▸this);exact sN this
 have nCe:∀ y c,env.cells.lookup y=some c->c≠e:=fun y c hc z=>by have:=B.cells y c hc;(replace this:=(z)▸this;replace this:=(he)▸this);exact sN this
 have x2:KX (·=e) Ax h1 h2:=KX.of_keepsBut fun b o hb q=>k2 b o hb q
 have bn:∀ {g':Heap},(∀ b o,b≠e->h1.get? b=some o->g'.get? b=some o)->C.base.StaysIn g':=fun hf b o q=>hf b o (fun z=>by(replace q:=(z)▸q;replace q:=(hen)▸q);exact nS q) (b1 b o q)
 have I2:h2.Inst e M (fun _=>none):=⟨_,he2,rfl,fun c z=>((by injection z)),.inl ⟨rfl,fun _=>rfl⟩⟩
 refine pT (FJ hk (x2.look nLe nCe ln) (x2.look nLe nCe ls) (by kernel_rfl) (by kernel_rfl) (jO (hM.keeps (bn k2)) (hP.keeps (bn k2)) m3 p3 m2 p2 WZ I2 (ns:=[]) (by within_ways) (by decide) fun h3 tk3 I3 f3 g3=>?_))
 (refine MJ (g3 _ he2) ?_;rintro o3 he3 c3 d3 _ dd3)
 have f3':∀ b o,b≠e->h1.get? b=some o->h3.get? b=some o:=fun b o hb q=>f3 b o hb (fun o₀ dx z1 z2=>by(replace z1:=(he2)▸z1);(refine sI z1 ?_;clear z1;intro zz;cases zz);exact nS z2) (k2 b o hb q)
 have x3:KX (·=e) Ax h1 h3:=KX.of_keepsBut fun b o hb q=>f3' b o hb q
 refine pT (FJ hk (x3.look nLe nCe lr) (x3.look nLe nCe ls) (by kernel_rfl) (by kernel_rfl) (jO (hM.keeps (bn f3')) (hP.keeps (bn f3')) m4 p4 m2 p2 jP I3 (by within_ways) (by decide) fun h4 tk4 I4 f4 g4=>?_))
 (refine FY (g4 _ he3) ?_;rintro o4 he4 c4 d4 _)
 refine wpAny_execs_nil (hq h4 tk4 tp o4 (fun b o hb q=>?_) he4 (c4.trans c3) (d4.trans d3))
 have q1:=k1 b o q
 refine f4 b o hb (fun o₀ dx z1 z2 z3=>?_) (f3' b o hb q1)
 (replace z1:=(he3)▸z1);(refine sI z1 ?_;clear z1;intro zz;cases zz)
 rcases dd3 dx z2 with z | z
 ·exact nS z
 ·have:=k2 b o hb q1
  (replace this:=(z3)▸this;replace this:=(z)▸this);exact nS this
end
end
end Mine.Lake
set_option maxHeartbeats 4000000
namespace Mine.Lake
section
variable{C:Al}{hn:Bool}{d:Nat}{ν:Pu}{K:PV->Pu->Prop}
end
section
variable{M:Model}{A:Around}{E:Value->Shared->Prop}{s:Shared}{env:Env}{C P:Addr}{mC:Str->Option Value}
theorem RZ(hh:A.handled=none)(h:wpAny M A x (fun v s₁=>∃ e o vs,v=.ref e/\L3 s₁.heap C (.ref P::H5) mC/\s₁.heap.get? e=some o/\o.cls=.ref C/\o.data=.fields vs/\vs[1]?=some .none/\E (.ref e) s₁) E s):
  wpAny M A (raiseStmt env (some x) none) Q E s:=by
 have hcB:(Value.ref C::.ref P::H5).contains (.type "BaseException")=true:=by rfl
 refine oq (pN h (fun v s₁ h₁=>?_) fun _ _ x=>x)
 refine Ap fun G kk=>?_;(refine FZ h₁ ?_;clear h₁;rintro e o vs rfl hK he ⟨hc,hd,h1,hE⟩)
 obtain ⟨nm,q,N,bs,sn,sub,ab,col,dd,k0,k1,k2,k3,k5,eC,n⟩:=id hK
 refine kk ?_
 repeat (first | (with_reducible rw [hc]) | with_reducible refine wpAny_loadPart_at eC ?_ | (refine sub2 hK ?_;rw [hcB]) | (with_reducible refine wpAny_field he hd h1 ?_) | wp_step)
 exact wpAny_raiseNew_none hh hE
end
section
variable{C:Al}{hn:Bool}{d:Nat}{S:CY}{A:Around}{cx:Cx}{Γ:Ge}{fe ft:Ge->Expr->Option CE}{O:Ow}{σ:St}{s:Shared}{E:Value->Shared->Prop}{X:Addr->Prop}
theorem R.callIn(ha:EC cx A)(r:R cx O σ s):Cz cx.C A cx.hn cx.d cx.l (Ex cx O) σ.purse s:=
 ⟨ha.frames,ha.hand' r,ha.hn,ha.depth,ha.units,r.stays,r.frames,r.exF,r.purse.reX fun b hb=>.inl (r.purse.xs b hb),fun b hb=>(r.pNew b hb).1,fun a h=>⟨r.exIn a h,r.exBase a h⟩⟩
theorem Cz.make(I:Cz C A hn (d+1) fr X ν s)(k:∀ b o,s.heap.get? b=some o->h'.get? b=some o):Cz C (A.under (.builtin "type.__call__" ⟨.ref c::rest,[]⟩)) hn d fr X ν { s with heap:=h' } where
 a1:=I.a1
 a2:=I.a2.keeps k
 a3:=I.a3
 a4:=by have:=I.a4;exact pq fun q=>nl (FO recursionLimit A.depth d) ⟨false,(nP Ae (nW (nP Ag (nW BK)))),(nP (nP (nW Ag) BK) Ae)⟩ rfl (o7 q (qO this))
 a5:=by have:=I.a5;exact pq fun q=>nl (FO cLine A.units d) ⟨false,(nP Ae (nW (nP (nP Ag (nM 10 (nW BK))) (nK 10)))),(nP (nP (nP (nW Ag) (nM 10 BK)) (nK 10)) Ae)⟩ rfl (o7 q (qO this))
 a6:=fun b o e=>k b o (I.a6 b o e)
 a7:=fun e he=>(by obtain ⟨hk,L,o,e1,e2,e3,e4⟩:=I.a7 e he;exact⟨hk,L,o,e1,e2,k _ _ e3,e4⟩)
 a8:=I.a8
 a9:=I.a9.move (KX.of_keeps (P:=Ax) (F:=Ax) k) (fun _ _ q=>q) fun _ q=>q
 a10:=I.a10
 a11:=fun a ha=>⟨(by(refine AI ((I.a11 a ha).1) ?_;rintro o e);exact⟨o,k a o e⟩),(I.a11 a ha).2⟩
theorem L6(hst:args.any (·.1)=false)(h:wpAny (model C.prog C.w) A (evalArgs (.ref Mc) true args []) (fun as s₁=>∃ vs,as=⟨vs,[]⟩/\L3 s₁.heap Mc (.ref Pc::H5) mM/\wpAny (model C.prog C.w) A (call (.ref Mc) vs) Q E s₁) E s):
  wpAny (model C.prog C.w) A (callWith pos (.ref Mc) [] args []) Q E s:=by
 refine oq (pR (pN h (fun as s₁ h₁=>?_) fun _ _ x=>x))
 (refine Cp h₁ ?_;clear h₁;rintro vs e hK hc)
 subst e
 obtain ⟨nm,q,N,bs,sn,sub,ab,col,dd,k0,k1,k2,k3,k5,eC,n⟩:=hK
 refine oq (qI ?_)
 simp only [hst]
 refine oq (wpAny_keeperOf_exc eC ?_)
 exact oq (pN hc (fun r s' hr=>oq (pR (wpAny_point (o6 hr)))) fun _ _ x=>x)
structure UO(cx:Cx)(O:Ow)(σ:St)(s:Shared)(Mc e:Addr)(s':Shared):Prop where
 mk::
 h:∃ O₁ σ1 s₁ h' tk o vs,Aw cx O σ s O₁ σ1 s₁/\s'={ s₁ with heap:=h',toks:=tk }/\(∀ b o,s₁.heap.get? b=some o->h'.get? b=some o)/\
  s₁.heap.get? e=none/\h'.get? e=some o/\o.cls=.ref Mc/\o.data=.fields vs/\vs[1]?=some .none/\vs[2]?=some .none/\σ1.purse=σ.purse
theorem O1(Fx:AX C)(W:NQ C Mc Pc fI)(H:AO C true (d+2) gv fe ft S)(F:AY C true (d+2) cx)(g:AU gv Γ cx)(hz:args.all noStar=true)(hk:Γ.sc.names.lookup (AB "MimeFault")=some .globalImplicit)(hes:Ay (fe Γ) args=some es)(h:cL S es σ fun ps σ1=>(∃ pw pa,ps=[.str pw,.int pa])/\σ1.purse=σ.purse)(ha:EC cx A)(r:R cx O σ s)(hE:∀ e s',UO cx O σ s Mc e s'->E (.ref e) s'):
  wpAny (model cx.C.prog cx.C.w) A (exec (.Raise (some (.Call (.Name (AB "MimeFault") np) args [] cpos)) none pos) cx.env) (fun _ _=>False) E s:=by
 refine Ap fun G kk=>?_;obtain ⟨rfl,ehn,ed⟩:=F
 (refine MJ W.m ?_;rintro mM hM m1 m2 m3 m4)
 (refine MJ W.p ?_;rintro mP hP p1 p2 p3 p4)
 obtain ⟨_,_,_,oI,_,_,_,_,_,_,_,_,hfI,hfc⟩:=W.f;refine kk ?_
 refine oq (qI (RZ (ha.hn ehn) (C:=Mc) (P:=Pc) (mC:=mM) ?_))
 refine oq (pN (wpAny_Call_NameR ?_) (fun v s₃ h₃=>oq (qI (o6 h₃))) fun _ _ x=>x)
 refine Calls.Name_function_global r.env.kind (g.sc _ _ hk (by decide)).1 ?_ (by kernel_rfl)
 refine Calls.loadGlobal_global (by(refine AA r.env.glob ?_);exact Fx.ok.cfg.g.at' fun o e=>r.stays _ o e) W.mg ?_
 refine L6 (Ai hz) (DP H ⟨rfl,ehn,ed⟩ g hz hes h ha r fun vs s₁ O₁ σ1 ps p₁ rp q₁=>⟨vs,rfl,hM.keeps p₁.r.stays,?_⟩)
 refine Ap fun G kk=>?_;(refine AM q₁ ?_;clear q₁;rintro ⟨pw,pa,rfl⟩ epu)
 (refine CQ (C9 rp) ?_;rintro vw va rfl rw1 rw2)
 obtain ⟨h1,g',dr,tk,os⟩:=s₁;refine kk ?_
 refine RV (hM.keeps p₁.r.stays) (hP.keeps p₁.r.stays) m1 p1 (p₁.r.stays _ _ hfI) hfc (fun h' e mo=>?_) (show 2<=sizeLine by decide)
 have I:Cz cx.C A cx.hn (d+1+1) cx.l (Ex cx O₁) σ1.purse ⟨h1,g',dr,tk,os⟩:=by have:=p₁.r.callIn ha;(replace this:=(ed)▸this);exact this
 (refine Cp mo.there ?_;rintro t he _ _)
 have en:cx.C.base.get? e=none:=by
  cases z:cx.C.base.get? e with
  | none=>rfl
  | some o=>have:=p₁.r.stays _ _ z;(replace this:=(mo.new)▸this);exact nS this
 refine UN Fx W (I.make mo.keeps) he ((fun x=>AJ.move (KX.of_keeps (P:=Ax) (F:=Ax) mo.keeps) (fun _ q=>q.elim) (fun _ q=>q.elim) (fun _ q=>.inl q) _ _ x) rw1) ((fun x=>AJ.move (KX.of_keeps (P:=Ax) (F:=Ax) mo.keeps) (fun _ q=>q.elim) (fun _ q=>q.elim) (fun _ q=>.inl q) _ _ x) rw2) en fun h2 tk2 tp o' k2 he2 hc2 hd2=>⟨rfl,e,o',_,rfl,?_,he2,hc2,hd2,rfl,hE e _ ?_⟩
 ·exact hM.keeps fun b o q=>k2 b o (fun z=>by(replace q:=(z)▸q;replace q:=(en)▸q);exact nS q) (mo.keeps _ _ (p₁.r.stays b o q))
 ·exact⟨⟨O₁,σ1,⟨h1,g',dr,tk,os⟩,h2,tk2,o',_,p₁,rfl,fun b o q=>k2 b o (fun z=>by(replace q:=(z)▸q);exact nomatch q.symm.trans mo.new) (mo.keeps _ _ q),mo.new,he2,hc2,hd2,rfl,rfl,epu⟩⟩
end
section
variable{C:Al}{hn:Bool}{d:Nat}{A:Around}{s s₀ s₁ s':Shared}{E E':Value->Shared->Prop}{X:Addr->Prop}{ν:Pu}{fr:List Env}{sc:Scope}{nm:List Str}{vars:List Slot}{env:Env}{O:Ow}{σ:St}{Mc e:Addr}{M:Model}
inductive O6(C:Al)(X:Addr->Prop)(fr:List Env)(ν:Pu)(Mc:Addr)(s s':Shared)(e:Addr):Prop where
 | mk (T:Addr) (m:AG C (inP ν) (inF fr) s s') (u:Ah ν X s'.heap) (a:s.heap.get? e=none) (b:s.heap.get? T=none) (f:Jk s'.heap e T Mc .none):O6 C X fr ν Mc s s' e
theorem NR{base h h':Heap}(x:Jx base l h)(k:∀ b o,h.get? b=some o->h'.get? b=some o):h'.FunFrames default l:=
 Jx.fun fun e he=>(by obtain ⟨hk,L,o,e1,_,e3,e4⟩:=x e he;exact⟨hk,L,o,e1,qn (pQ _),k _ _ e3,e4⟩)
theorem UP(B:Hh C A X fr hn d s₀ ν sc nm vars env s₁)(hA:A.frames=some fr)(p:Aj (Dk C env X fr hn d s₀.heap ν nm) (fun _=>none) ⟨vars,ν⟩ s₁ O σ s)(hν:σ.purse=ν)(rp:UO (Dk C env X fr hn d s₀.heap ν nm) O σ s Mc e s')(hE:∀ s'',O6 C X fr ν Mc s₀ s'' e->E (.ref e) s''):wpAny M (A.deeper env) (noteFrame (.ref e) env) (fun _ s2=>cameBackBy M (A.deeper env) env (fun e s'=>wpAny M (A.deeper env) (leaving env e) (fun _ s''=>E e s'') (fun e' s''=>E e' s'') s') (.ref e) s2) E' s':=by
 refine Ap fun G kk=>?_;obtain ⟨⟨O₁,σ1,s₂,h',tk,o,vs,p2,rfl,k2,en,he,hc,hd,h1,h2,ep⟩⟩:=rp
 have pp:=p.trans (p2.sp p.r)
 (refine Bq (B.leave pp) ?_;rintro mv pu _);refine kk ?_
 have pu:Ah ν X s₂.heap:=by(refine BO hν ?_;refine BO ep ?_);exact pu
 have up:∀ b,s₂.heap.get? b=none->s₀.heap.get? b=none:=fun b q=>by
  cases z:s₀.heap.get? b with
  | none=>rfl
  | some o=>
   by_cases hb:b∈pa ν
   ·(refine BS (pu.lists b hb) ?_;rintro _ o' e' _)
    (replace e':=(q)▸e');exact nS e'
   ·(refine AI (mv.kx.lives hb z) ?_;rintro _ e')
    (replace e':=(q)▸e');exact nS e'
 have hA':(A.deeper env).frames=some (env::fr):=by refine(?_:A.frames.map (env::·)=_);(refine AA hA ?_);rfl
 refine UK hA' (NR pp.r.frames k2) B.fr he hc hd h1 h2 fun h3 T hT hfl k3=>RX B.fr hfl fun h4 hfl4 k4=>?_
 have tN:s₂.heap.get? T=none:=by
  cases z:s₂.heap.get? T with
  | none=>rfl
  | some o=>have:=k2 _ _ z;(replace this:=(hT)▸this);exact nS this
 refine oq (RW B.fr hfl4 (L5 hfl4 fun h5 hfl5 k5=>?_))
 have y:KX (fun b=>b=e∨b=T) (inF (env::fr)) s₂.heap h5:=
  (((KX.of_keeps k2).trans (k3.mono (fun _ q=>.inl q) fun _ q=>q)).trans (k4.mono (fun _ q=>.inr q) fun _ q=>q.elim)).trans (k5.mono (fun _ q=>.inr q) fun _ q=>q.elim)
 have kx:=mv.kx.trans_news y (fun b q=>.inr (q.elim (fun z=>z▸up e en) fun z=>z▸up T tN)) fun b hb=>by
  exact(Ek B.fr hb).imp id fun q=>by(refine AA q ?_);exact B.loc
 refine hE _ ⟨T,?_,pu.move y (fun b hb q=>?_) fun _ q=>q,up e en,up T tN,hfl5⟩
 ·(refine Bm mv.sh ?_;rintro h2' t2' e2)
  (refine AA e2 ?_)
  refine⟨h5,tk,rfl,kx,fun _ b o z=>?_⟩
  have z2:=pp.r.stays b o z
  refine y.at (fun q=>?_) (fun q=>?_) z2
  ·rcases q with q | q
   ·(replace z2:=(q)▸z2;replace z2:=(en)▸z2);exact nS z2
   ·(replace z2:=(q)▸z2;replace z2:=(tN)▸z2);exact nS z2
  ·have:=(pp.r.frames.inF q).1
   (replace this:=(z)▸this);exact sN this
 ·refine Ap fun G kk=>?_;(refine BS (pu.lists b hb) ?_;rintro _ o' e' _)
  rcases q with q | q;refine kk ?_
  ·(replace e':=(q)▸e';replace e':=(en)▸e');exact nS e'
  ·(replace e':=(q)▸e';replace e':=(tN)▸e');exact nS e'
end
end Mine.Lake
set_option maxHeartbeats 4000000
namespace Mine.Lake
section
variable{C:Al}{hn:Bool}{d:Nat}{ν:Pu}{K:PV->Pu->Prop}
theorem GX{l:List Nat}{a c:Nat}{r:List Nat}(e:l.drop a=c::r):L.BH (f+1) (l.drop a)=(match L.Aq 3 c r with
  | (none,_)=>none
  | (some code,n)=>(L.BH f (l.drop (a+n))).map (code::·)):=by
 (refine AA e ?_;(rewrite [L.Ep]))
 rcases L.Aq 3 c r with ⟨s,n⟩
 induction s with
 | none=>rfl
 | some x=>dsimp only;(refine BO e ?_;refine AA qA ?_;rfl)
theorem Hl:∀ f,L.BH f []=some []:=fun f=>by induction f<;>rfl
theorem NS(Fx:AX C)(ho:BL l)(hz:l.length+4<=BE)(ht:L.strictText l=some tx)(q:K (.str tx) ν):AK C true (d+4) (AB "strict_text") [.str (Ak 3),.bytes l] ν K:=by
 refine A4 Fx 25 [AB "signs"] 4 (by kernel_rfl) ZL (by kernel_rfl) rfl fun G hG=>?_
 refine⟨hG (DX Fx (.inr (.inr rfl)) ⟨CD rfl,M9 (fun t:T=>⟨[.fr (.str (Ak 3)),.fr (.bytes l),.ow (sl t.l),.fr (.int (t.a:Nat)),t.x,t.y],ν⟩) (fun t=>t.l.length<=t.a/\t.a<=l.length+3/\l.length<=t.a+t.f/\∃ t',L.BH t.f (l.drop t.a)=some t'/\tx=t.l ++ t') (fun t=>l.length - t.a) { f:=l.length } ⟨pQ _,pQ _,by(refine AA (qC ..:) ?_);exact ou _,tx,ht,rfl⟩ fun t h J E hJ hr hb hE=>?_⟩)⟩
 (refine AE h.2.2.2 ?_;rintro t' hq hto)
 refine Em (fun hal=>?_) fun hal=>?_
 ·(refine Bm (Cm hal) ?_;rintro c r e)
  have hcc:=ho c (qD (by(refine AA e ?_);exact .head _:c∈l.drop t.a))
  have hs:=GV 3 c r
  have hlt:=fun x h=>Og (cs:=3) hcc (fun y hy=>ho y (qD (by(refine AA e ?_);exact .tail _ hy:y∈l.drop t.a))) (x:=x) h
  obtain ⟨f,hf⟩:∃ f',t.f=f'+1:=⟨t.f - 1,fp h.2.2.1 hal⟩
  (replace hq:=(hf)▸hq;replace hq:=(GX e)▸hq)
  refine⟨hG (FG Fx (.inr (.inr rfl)) (.inl rfl) rfl ho (om (pB _ 4) hz) e ?_)⟩
  have hoz:(sl t.l).length<BE:=by(refine AA Oh ?_);exact pC h.1 (pJ hal (om (pB _ 4) hz))
  generalize L.Aq 3 c r=sg at hq hs hlt
  obtain ⟨s,n⟩:=sg
  cases s with
  | none=>exact nS hq
  | some x=>
   (refine AE (qN.mp hq) ?_;rintro t2 hq2 rfl)
   refine BD (fun h=>absurd h (Int.not_lt.mpr (pG x))) fun _=>Cu ⟨(ck (hlt x rfl) (by decide)).1,(ck (hlt x rfl) (by decide)).2,hoz,?_⟩
   have key:J .next ⟨[.fr (.str (Ak 3)),.fr (.bytes l),.ow (sl t.l ++ [PV.str [x]]),.fr (.int ((t.a:Int)+(n:Nat))),.fr (.int (x:Nat)),.fr (.int (n:Nat))],ν⟩:=by
    (refine AA (Ls ..:) ?_)
    refine hJ { a:=t.a+n,l:=t.l ++ [x],f:=f,x:=.fr (.int (x:Nat)),y:=.fr (.int (n:Nat)) } ⟨?_,?_,?_,t2,hq2,?_⟩ (pz hal (qc hs.1))
    ·(refine AA o9 ?_);exact o7 h.1 hs.1
    ·exact j4 hal hs.2
    ·exact fs (hf▸h.2.2.1) hs.1
    ·(refine AA hto ?_;refine AA (pD ..:) ?_);rfl
   exact key
 ·(replace hq:=(pU hal)▸hq;rewrite [Hl] at hq)
  (refine sI hq ?_;clear hq;intro zz;cases zz)
  rw [List.append_nil] at hto
  rw [hto] at q
  exact hE _ (IR (om (om h.1 h.2.1) (om (Nat.le_succ _) hz)) q)
section
variable{cx:Cx}{Γ:Ge}{A:Around}{E:Value->Shared->Prop}
theorem UQ(G:Jw C gv)(F:AY C hn d cx)(g:AU gv Γ cx)(ha:EC cx A){I:St->Prop}{Q:Flow->Shared->Prop}:∀ (l1:List Stmt) (cs:List CS) (σ:St),Ay (Fp n ((Bb n).1 Γ) ((Bb n).2 Γ) (FU n Γ) Γ) l1=some cs->cS hn Bg (Bj (AK C hn d) hn Bg n) cs σ (fun o σ1=>o=.next/\I σ1)->∀ (O:Ow) (s:Shared),R cx O σ s->
  (∀ O₁ σ1 s₁,Aj cx O σ s O₁ σ1 s₁->I σ1->wpAny (model cx.C.prog cx.C.w) A (execs l2 cx.env) Q E s₁)->wpAny (model cx.C.prog cx.C.w) A (execs (l1 ++ l2) cx.env) Q E s:=by
 intro rx
 induction rx with
 | nil=>
  exact fun _ σ hc h O s r k=>by
   (refine sI hc ?_;clear hc;intro zz;induction zz)
   exact k O σ s (Aj.refl r) h.2
 | cons st l1 ih=>
  exact fun _ σ hc h O s r k=>by
   (refine AE (AN hc) ?_;rintro c h1 h0)
   (refine AE (Ad h0) ?_;rintro cs h2 h3)
   induction h3
   refine pT (((M4 G (fun _ _ _ _ _ _ _ h=>h.elim) (E9 G IP n) (To n) F g).of h1 _ h).seq ha r fun f s₁ hx=>hx.rec fun O₁ σ1 o p₁ hf q₁=>?_)
   induction o with
   | next=>
    cases (show f=.next from hf)
    exact ih cs σ1 h2 q₁ O₁ s₁ p₁.r fun O₂ σ2 s₂ p₂ i=>k O₂ σ2 s₂ (p₁.trans p₂) i
   | brk=>exact nomatch q₁.1
   | cont=>exact nomatch q₁.1
   | ret p=>exact nomatch q₁.1
end
noncomputable def whl(st:Stmt):Expr×List Stmt:=match st with
 | .While t b _ _=>(t,b)
 | .If t b _ _=>(t,b)
 | st=>(BB st,[])
noncomputable def Ra(st:Stmt):Expr:=match st with
 | .Raise (some e) _ _=>e
 | st=>BB st
noncomputable def QN(i:Nat):Stmt:=(A8 (AP 25)).getD i Nj
noncomputable def Xn(i:Nat):Stmt:=(whl (QN 3)).2.getD i Nj
noncomputable def O7:Stmt:=(whl (Xn 1)).2.getD 0 Nj
theorem NT:A8 (AP 25)=[QN 0,QN 1,QN 2] ++ [.While (whl (QN 3)).1 (whl (QN 3)).2 [] (QN 3).pos,QN 4]:=by kernel_rfl
theorem NU:(whl (QN 3)).2=[Xn 0] ++ [.If (whl (Xn 1)).1 [.Raise (some (.Call (.Name (AB "MimeFault") (Cv (Ra O7) 0).pos) [Cv (Ra O7) 1,Cv (Ra O7) 2] [] (Ra O7).pos)) none O7.pos] [] (Xn 1).pos,Xn 2,Xn 3]:=by kernel_rfl
noncomputable abbrev Nl:Ge:=Ej [AB "signs"] A3 (AP 25)
noncomputable def lR:List CE:=[.bin .Add (.kv (.str [111,99,116,101,116,115,32,116,104,97,116,32,97,114,101,32,110,111,32,115,105,103,110,32,111,102,32])) (.lo 0),.lo 3]
theorem Wa:Ay ((Bb 29).1 Nl) [Cv (Ra O7) 1,Cv (Ra O7) 2]=some lR:=by kernel_rfl
noncomputable def mj:CE:=.chn (.lo 3) [.Lt] [(.bi .len [(.lo 1)])]
noncomputable def ml:CE:=.chn (.lo 4) [.Lt] [(.kv (.int 0))]
theorem au:(Bb 29).2 Nl (whl (QN 3)).1=some mj:=by kernel_rfl
theorem av:(Bb 29).2 Nl (whl (Xn 1)).1=some ml:=by kernel_rfl
theorem Wb:Ay (Fp 29 ((Bb 29).1 Nl) ((Bb 29).2 Nl) (FU 29 Nl) Nl) [QN 0,QN 1,QN 2]=some [XX,XY,XZ]:=by kernel_rfl
theorem Wc:Ay (Fp 29 ((Bb 29).1 Nl) ((Bb 29).2 Nl) (FU 29 Nl) Nl) [Xn 0]=some [Xa]:=by kernel_rfl
theorem UR:FU 29 Nl (whl (QN 3)).2=some Od:=by kernel_rfl
end
end Mine.Lake
set_option maxHeartbeats 4000000
namespace Mine.Lake
section
variable{C:Al}{hn:Bool}{d:Nat}{ν:Pu}{K:PV->Pu->Prop}
theorem US(Fx:AX C)(W:NQ C Mc Pc fI){l:List Nat}(ho:BL l)(hz:l.length+4<=BE)(ht:L.strictText l=none){A:Around}{X:Addr->Prop}{fr:List Env}{E:Value->Shared->Prop}(I:Cz C A true (d+5) fr X ν s)(hv:AF C s.heap X [.str (Ak 3),.bytes l] vs)(hf:C.mg (AB "strict_text")=some (.ref a))(hE:∀ e s',O6 C X fr ν Mc s s' e->E (.ref e) s'):wpAny (model C.prog C.w) A (call (.ref a) vs) (fun _ _=>False) E s:=by
 (refine AI ((Fx.defs _ 25 (by kernel_rfl) a hf).all (l:=[.str (Ak 3),.bytes l]) (by kernel_rfl) rfl) ?_;rintro fd D)
 refine B6 Fx.ok.cfg (n:=4) D (by kernel_rfl) rfl I hv fun env s₁ B=>?_
 have g:AU gv Nl (Dk C env X fr true (d+4) s.heap ν (namesOf (AP 25))):=DT B
 have FF:AY C true (d+4) (Dk C env X fr true (d+4) s.heap ν (namesOf (AP 25))):=⟨rfl,rfl,rfl⟩
 have HS:=E9 (Γ:=Nl) (d:=d+4) (hn:=true) Fx.ok IP 29
 (refine AA NT ?_)
 refine UQ Fx.ok FF g B.ha (I:=fun σ=>σ=⟨[.fr (.str (Ak 3)),.fr (.bytes l),.ow [],.fr (.int 0),.un,.un],ν⟩) _ _ _ Wb ?_ _ _ B.r fun O₁ σ1 s₂ p₁ hi=>?_
 ·exact⟨DX Fx (.inr (.inr rfl)) ⟨CD rfl,rfl,rfl⟩⟩
 subst hi
 refine pT (wpAny_While (codeAny_whileLoop (fun n s'=>∃ O' a out f y z,Aj (Dk C env X fr true (d+4) s.heap ν (namesOf (AP 25))) (fun _=>none) ⟨[.fr (.str (Ak 3)),.fr (.bytes l),.un,.un,.un,.un],ν⟩ s₁ O' ⟨[.fr (.str (Ak 3)),.fr (.bytes l),.ow (sl out),.fr (.int ((a:Nat):Int)),y,z],ν⟩ s'/\n=l.length+4 - a/\a<=l.length+3/\out.length<=a/\l.length<=a+f/\L.BH f (l.drop a)=none) (fun n s' hI=>?_) (l.length+4) ⟨O₁,0,[],l.length,.un,.un,p₁,rfl,pQ _,ou _,by(refine AA (qC ..:) ?_);exact ou _,ht⟩))
 refine Ap fun G kk=>?_;obtain ⟨O',a,out,f,y,z,p,hn',ha1,hol,hfl,hst⟩:=hI
 have hal:a<l.length:=by
  induction Nat.lt_or_ge a l.length with
  | inl h=>exact h
  | inr h=>(replace hst:=(pU h)▸hst;rewrite [Hl] at hst);exact sN hst
 (refine Bm (Cm hal) ?_;rintro c r e)
 obtain ⟨f,rfl⟩:∃ f',f=f'+1:=⟨f - 1,fp hfl hal⟩;refine kk ?_
 (replace hst:=(GX e)▸hst)
 have hcc:=ho c (qD (by(refine AA e ?_);exact .head _:c∈l.drop a))
 have hsg:=GV 3 c r
 have hlt:=fun x h=>Og (cs:=3) hcc (fun y hy=>ho y (qD (by(refine AA e ?_);exact .tail _ hy:y∈l.drop a))) (x:=x) h
 have hoz:(sl out).length<BE:=by(refine AA Oh ?_);(exact pq fun q=>nl (XI BE out.length a l.length) ⟨false,(nP Ae (nP Ag (nP BK (nP FM (nK 4))))),(nP Ag (nP BK (nP (nP FM (nK 3)) Ae)))⟩ rfl (o7 q (o7 hol (o7 ha1 hz))))
 refine(HS.c.t _ FF Nl g _ mj au _ (fun c σ=>c=true/\σ=⟨[.fr (.str (Ak 3)),.fr (.bytes l),.ow (sl out),.fr (.int ((a:Nat):Int)),y,z],ν⟩) ?_).seq B.ha p.r fun c' s3 O3 σ3 p3 hx=>AM hx fun e1 e2=>?_
 ·exact⟨qe (pI.mpr hal),rfl⟩
 subst e1 e2
 cases hsgn:(L.Aq 3 c r).1 with
 | none=>
  (refine AA NU ?_)
  refine UQ Fx.ok FF g B.ha (I:=fun σ=>∃ n:Nat,σ=⟨[.fr (.str (Ak 3)),.fr (.bytes l),.ow (sl out),.fr (.int ((a:Nat):Int)),.fr (.int (-1)),.fr (.int n)],ν⟩) _ _ _ Wc ?_ _ _ p3.r fun O4 σ4 s4 p4 hi=>?_
  ·refine⟨(fun q=>FG Fx (.inr (.inr rfl)) (.inl rfl) rfl ho (om (pB _ 4) hz) e q) ?_⟩
   (refine AA hsgn ?_)
   exact⟨rfl,_,rfl⟩
  (refine AI hi ?_;clear hi;rintro n rfl)
  have p4':=(p.trans (p3.sp p.r)).trans p4
  refine pT (wpAny_If ((HS.c.t _ FF Nl g _ ml av _ (fun c σ=>c=true/\σ=⟨[.fr (.str (Ak 3)),.fr (.bytes l),.ow (sl out),.fr (.int ((a:Nat):Int)),.fr (.int (-1)),.fr (.int n)],ν⟩) ?_).seq B.ha p4.r fun c5 s5 O5 σ5 p5 hx=>AM hx fun e1 e2=>?_))
  ·exact⟨rfl,rfl⟩
  subst e1 e2
  refine pT (pN (O1 Fx W HS.c FF g rfl (by kernel_rfl) Wa ?_ B.ha p5.r fun e' s' rp=>UP B I.a1 (p4'.trans (p5.sp p4.r)) rfl rp fun s'' th=>hE _ _ th) (fun _ _ z=>z.elim) fun _ _ z=>z)
  exact⟨by decide +kernel,⟨_,_,rfl⟩,rfl⟩
 | some x=>
  refine(HS.s _ FF g _ Od UR _ (fun o σ=>o=.next/\∃ y z,σ=⟨[.fr (.str (Ak 3)),.fr (.bytes l),.ow (sl (out ++ [x])),.fr (.int ((a+(L.Aq 3 c r).2:Nat):Int)),y,z],ν⟩) ?_).seq B.ha p3.r fun f' s4 g4=>?_
  ·refine⟨(fun q=>FG Fx (.inr (.inr rfl)) (.inl rfl) rfl ho (om (pB _ 4) hz) e q) ?_⟩
   (refine AA hsgn ?_)
   refine BD (fun h=>absurd h (Int.not_lt.mpr (pG x))) fun _=>Cu ⟨(ck (hlt x hsgn) (by decide)).1,(ck (hlt x hsgn) (by decide)).2,hoz,rfl,.fr (.int (x:Nat)),.fr (.int ((L.Aq 3 c r).2:Nat)),?_⟩
   (refine BO (Ls ..:) ?_);rfl
  refine Ap fun G kk=>?_;obtain ⟨O4,σ4,o,p4,hf4,rfl,y',z',rfl⟩:=g4
  cases (show f'=.next from hf4);refine kk ?_
  generalize hsg':L.Aq 3 c r=sg at hst hsg hsgn p4
  refine Ap fun G kk=>?_;obtain ⟨x',n⟩:=sg
  cases (show x'=some x from hsgn);refine kk ?_
  dsimp only at hst hsg p4
  exact⟨l.length+4 - (a+n),hn'.symm▸pz (pJ hal (pB _ 4)) (qc hsg.1),O4,a+n,out ++ [x],f,y',z',(p.trans (p3.sp p.r)).trans p4,rfl,j4 hal hsg.2,by(refine AA o9 ?_);exact o7 hol hsg.1,fs hfl hsg.1,(Option.map_eq_none_iff.mp hst)⟩
end
end Mine.Lake
set_option maxHeartbeats 4000000
namespace Mine.Lake
section
variable{C:Al}{hn:Bool}{d:Nat}{ν:Pu}{K:PV->Pu->Prop}
noncomputable def O8(C:Al):Prop:=∀ (d:Nat) (ν:Pu) (K:PV->Pu->Prop) (l:List Nat),BL l->l.length<=400000->K (.str (L.BY l)) ν->AK C true (d+6) (AB "guessed_text") [.bytes l] ν K
theorem HN:∀ (ts:List L.Tok) (run:List Nat) (w:List Nat),(false,w)∈CO run ts->∀ c∈w,c∈run∨(Sum.inl c:L.Tok)∈ts
 | [],run,w,h=>by
  simp [IS,IT,FH] at h;subst h
  exact fun c hc=>.inl hc
 | .inl x::ts,run,w,h=>by
  intro c hc
  rcases HN ts _ w h c hc with h | h
  ·rcases pV.mp h with h | h
   ·exact .inl h
   ·simp at h;subst h;exact .inr (List.Mem.head _)
  ·exact .inr (by simp [h])
 | .inr t::ts,run,w,h=>by
  (rewrite [FH] at h)
  intro c hc
  simp at h
  rcases h with rfl | h
  ·exact .inl hc
  ·rcases HN ts _ w h c hc with h | h
   ·simp at h
   ·exact .inr (by simp [h])
set_option tactic.hygienic true in
theorem Jm:∀ (f:Nat) (p:Option Nat) (o:List Nat) (c:Nat),(Sum.inl c:L.Tok)∈L.scan f p o->c∈o
 | 0,p,o,c,h=>by simp [L.R8,L.R9,L.Df] at h
 | f+1,p,[],c,h=>by simp [L.R8,L.R9,L.Df] at h
 | f+1,p,x::r,c,h=>by
  (rewrite [L.Df] at h)
  split at h
  ·simp at h
   rcases h with rfl | h
   ·exact List.Mem.head _
   ·exact List.mem_cons_of_mem _ (Jm f _ _ c h)
  ·rename_i t rest e
   simp at h
   have hs:rest <:+ x::r:=by
    delta L.wordAt at e
    split at e
    ·exact nS e
    ·rename_i a b d rest' e'
     have:=(Jh e').1
     have hsuf:rest' <:+ x::r:=by
      (refine AA this ?_)
      exact⟨61::63::(a ++ 63::(b ++ 63::(d ++ [63,61]))),by simp⟩
     split at e
     ·dsimp only at e
      split at e
      ·exact nS e
      ·split at e
       ·simp only [Option.some.injEq,Prod.mk.injEq] at e
        (refine BO e.2 ?_);exact hsuf
       ·split at e
        ·simp only [Option.some.injEq,Prod.mk.injEq] at e
         (refine BO e.2 ?_);exact hsuf
        ·exact nS e
     ·exact nS e
   exact hs.subset (Jm f _ _ c h)
theorem F3:∀ (ts:List L.Tok) (run:List Nat) (x:Bool×List Nat),x∈CO run ts->x.2.length<=run.length+NN ts
 | [],run,x,h=>by simp [IS,IT,FH] at h;subst h;exact ou _
 | .inl c::ts,run,x,h=>by
  have:=F3 ts _ x h
  simp [UB,UC,UD] at this ⊢;exact oy fun q=>nl (FO run.length (NN ts) x.snd.length) ⟨false,(nP (nW (nP Ae (nP (nK 1) Ag))) BK),(nP BK (nP (nW Ae) Ag))⟩ rfl (nQ q this)
 | .inr t::ts,run,x,h=>by
  (rewrite [FH] at h)
  simp at h
  rcases h with rfl | rfl | h
  ·simp
  ·exact Nat.le_add_left_of_le (pB _ _)
  ·have:=F3 ts _ x h
   simp at this;exact oy fun q=>nl (XI run.length (List.length t) (NN ts) x.snd.length) ⟨false,(nP (nW (nP Ae (nP Ag BK))) FM),(nP FM BK)⟩ rfl (nQ q this)
theorem F4:∀ (ts:List L.Tok) (run:List Nat),(CO run ts).length<=1+2*ts.length
 | [],run=>pW _
 | .inl c::ts,run=>by have:=F4 ts (run ++ [c]);exact qU (pC this (Nat.le_succ _))
 | .inr t::ts,run=>by have:=F4 ts [];exact oy fun q=>nl (IZ ts.length ((CO [] ts).length)) ⟨false,(nP (nW (nP (nK 1) (nM 2 (nW Ae)))) Ag),(nP (nW (nW Ag)) (nP (nK 1) (nM 2 Ae)))⟩ rfl (nQ q this)
set_option tactic.hygienic true in
theorem scan_len:∀ (f:Nat) (p:Option Nat) (o:List Nat),(L.scan f p o).length<=f
 | 0,p,o=>pQ _
 | f+1,p,[]=>pQ _
 | f+1,p,c::r=>by
  ((rewrite [L.Df]))
  split
  ·have:=scan_len f (some c) r;simp;assumption
  ·rename_i t rest e
   have:=scan_len f (some 61) rest;simp;assumption
noncomputable abbrev tl(l:List (List Nat)):List PV:=l.map .str
theorem Wd(l:List (List Nat))(c:List Nat):tl l ++ [PV.str c]=tl (l ++ [c]):=by(rewrite [tl];rewrite [tl];refine AA qh ?_);rfl
theorem aw:(tl l).length=l.length:=pK _
theorem We(hz:l.flatten.length<=BE)(q:G (.str l.flatten)):pM .join (.str []) [.lst (tl l)] G:=⟨rfl,l,rfl,hz,q⟩
theorem lS(h:ps[i]?=some x)(q:G (UA x)):It ν (.lst (pl ps)) (.int (i:Nat)) G:=H0 i rfl (by(refine AA (qB) ?_;refine AA h ?_);rfl) q
theorem EH(Fx:AX C)(hN:HF C)(hW:HD C)(hGu:O8 C){l:List Nat}(ho:BL l)(hz:l.length<=400000)(q:K (.str (L.A9 l)) ν):AK C true (d+7) (AB "decoded_words") [.bytes l] ν K:=by
 have hdl:=HI l
 rw [show L.A9 l=KF true (CO [] (L.scan l.length none l)) from(F2 _ [] false).symm] at q hdl
 have hps:(CO [] (L.scan l.length none l)).length<=800001:=om (F4 _ _) (om (qo (pS 2 (om (scan_len _ _ _) hz)) 1) (by decide))
 have hpo:∀ w,(false,w)∈CO [] (L.scan l.length none l)->BL w/\w.length<=l.length:=fun w hw=>
  ⟨fun c hc=>(HN _ [] w hw c hc).elim (fun h=>(by cases h)) fun h=>ho c (Jm _ _ _ _ h),om (F3 _ [] _ hw) (by(refine AA (qC ..:) ?_);exact GW _ _ _)⟩
 refine A4 Fx 48 [AB "found"] 5 (by kernel_rfl) Zw (by kernel_rfl) rfl fun G hG=>?_
 refine⟨hG (NO Fx hN hW ho hz ?_)⟩
 generalize CO [] (L.scan l.length none l)=ps at*
 refine⟨CD rfl,rfl,FE (congrArg _ HJ) (om hps (by decide)) (NB (fun(c:Nat)=>.int (c:Int)) 0 ps.length (fun t:T=>⟨[.fr (.bytes l),.fr (.lst (pl ps)),.ow (tl t.bs),t.x,t.y,t.z],ν⟩) (fun t i=>t.bs.length<=i/\KF true ps=t.bs.flatten ++ KF (decide (i=0)) (ps.drop i)) {} ⟨ou _,rfl⟩ (fun t h=>?_) fun t i h h0 hi J hJ hr hb=>?_)⟩
 ·have hde:=h.2
  (rewrite [Nat.zero_add] at hde;replace hde:=(pU (ou _))▸hde;(rewrite [On] at hde);rewrite [List.append_nil] at hde)
  rw [hde] at q hdl
  exact We (om hdl (om hz (by decide))) q
 ·have hip:i<ps.length:=by rw [Nat.zero_add] at hi;exact hi
  have e:=qa hip
  have ei:=o8 hip
  have hmem:=List.getElem_mem hip
  generalize ps[i]=x at e ei hmem
  obtain ⟨b,w⟩:=x
  have hfz:(tl t.bs).length<BE:=by(refine AA aw ?_);exact pC h.1 (pJ hip (om hps (by decide)))
  have hde:=h.2
  have hre:(ps.drop (i+1)).isEmpty=decide (i+1=ps.length):=by
   (refine F7 (Bool.eq_iff_iff:) ?_;refine F7 (List.isEmpty_iff:) ?_;rewrite [decide_eq_true_iff];refine F7 (List.drop_eq_nil_iff:) ?_);exact⟨fun q=>Nat.le_antisymm hip q,fun q=>pL q.symm⟩
  (replace hde:=(e)▸hde;(rewrite [Oo] at hde);replace hde:=(hre)▸hde)
  have nx:∀ (y z w:PV) (v:List Nat),KF true ps=t.bs.flatten ++ (v ++ KF false (ps.drop (i+1)))->J .next ⟨[.fr (.bytes l),.fr (.lst (pl ps)),.ow (tl t.bs ++ [PV.str v]),.fr y,.fr z,.fr w],ν⟩:=fun y z w v hd=>by
   (refine AA (Wd ..:) ?_)
   exact hJ { bs:=t.bs ++ [v],x:=.fr y,y:=.fr z,z:=.fr w } ⟨by(refine AA o9 ?_);exact qb h.1,by(refine AA hd ?_;refine AA List.flatten_append ?_;refine AA List.flatten_singleton ?_;refine AA (pD ..:) ?_);rfl⟩
  refine lS ei ?_
  cases b with
  | true=>exact Ab ⟨hfz,nx _ _ _ _ hde⟩
  | false=>
   (refine AM (hpo w hmem) ?_;rintro hwo hwl)
   have go:(!decide (i=0)&&!decide (i+1=ps.length)&&w.all L.AV)=false->(Bj G true Bg 27).s Xc ⟨[.fr (.bytes l),.fr (.lst (pl ps)),.ow (tl t.bs),.fr (.int (i:Nat)),.fr (.bool false),.fr (.bytes w)],ν⟩ J:=fun hif=>by
    (replace hde:=(hif)▸hde)
    exact⟨hG (hGu _ _ _ _ hwo (om hwl hz) ⟨hfz,nx _ _ _ _ hde⟩)⟩
   refine Av (BD (fun h1=>BD (fun h2=>⟨hG (NP Fx (om hwl (om hz (by decide))) ?_)⟩) fun h2=>Ab (go ?_)) fun h1=>Av (Ab (go ?_)))
   ·cases hw:w.all L.AV with
    | false=>exact Av (Ab (go (by(refine AA hw ?_;refine AA (Bool.and_false ..:) ?_;rfl))))
    | true=>
     have hi1:¬i+1=ps.length:=fun e=>by
      (replace h2:=(HJ)▸h2;replace h2:=Eq.symm (e)▸h2)
      lia
     (replace hde:=(qg (fun e=>by subst e;exact absurd h1 (by decide):¬i=0))▸hde;replace hde:=(qg hi1)▸hde;replace hde:=(hw)▸hde)
     exact Ab (Av (hJ { bs:=t.bs,x:=.fr (.int (i:Nat)),y:=.fr (.bool false),z:=.fr (.bytes w) } ⟨qP h.1,hde⟩))
   ·have:i+1=ps.length:=by
     (replace h2:=(HJ)▸h2)
     clear hde nx go h
     lia
    (refine AA (qe this) ?_;refine AA (Bool.and_false ..:) ?_;rfl)
   ·have:i=0:=by
     lia
    (refine AA (qe this) ?_;refine AA Bool.not_true ?_;with_reducible_and_instances refine AA (Bool.false_and ..:) ?_;refine AA (Bool.false_and ..:) ?_;rfl)
end
section
variable{C:Al}{hn:Bool}{d:Nat}{ν:Pu}{K:PV->Pu->Prop}
noncomputable def lT(st:Stmt):Stmt×Expr×Stmt×Pos:=match st with
 | .Try (b::_) (h::_) _ _ _=>(match h with
  | .ExceptHandler (some t) _ (c::_) p=>(b,t,c,p)
  | _=>(b,BB b,b,default))
 | st=>(st,BB st,st,default)
noncomputable def lU:Stmt:=(A8 (AP 26)).getD 0 Nj
noncomputable def ay:Stmt:=(lT lU).1
noncomputable abbrev ju:Ge:=Ej [] A3 (AP 26)
noncomputable def lV:List CS:=[.ret (.call (AB "strict_text") [.kv (.str [117,116,102,45,56]),.lo 0])]
theorem Wf:FU 30 ju [ay]=some lV:=by kernel_rfl
theorem Wg:Ay ((Bb 29).1 ju) [.Name (AB "UTF8") (Cv (BB ay) 1).pos,.Name (AB "octets") (Cv (BB ay) 2).pos]=some [.kv (.str (Ak 3)),.lo 0]:=by kernel_rfl
theorem Hm:∀ (f:Nat) (l:List Nat),l.length<=f->L.C2 2 f l=l
 | f,[],_=>by induction f<;>rfl
 | f+1,c::r,h=>by
  refine(?_:c::L.C2 2 f r=_)
  (refine AA (Hm f r (Nat.le_of_succ_le_succ h)) ?_;rfl)
theorem L7(l:List Nat):L.EL 2 l=l:=Hm _ l (ou _)
theorem Wi(Fx:AX C)(W:NQ C Mc Pc fI):O8 C:=by
 intro d ν K l ho hz q A fr X s vs E a h1 h2 h2' h3 h4 h5 h6 h6' h7 h8 h9 h10 h11
 have hz4:l.length+4<=BE:=om (pg hz 4) (by decide)
 (refine AI ((Fx.defs _ 26 (by kernel_rfl) a (FD (i:=26) (by kernel_rfl) h11)).all (l:=[.bytes l]) (by kernel_rfl) rfl) ?_;rintro fd D)
 refine B6 Fx.ok.cfg (n:=0) D (by kernel_rfl) rfl ⟨h1,h2,h2',h3,h4,h5,h6,h6',h7,h8,h9⟩ h10 fun env s₁ B=>?_
 have FF:AY C true (d+5) (Dk C env X fr true (d+5) s.heap ν (namesOf (AP 26))):=⟨rfl,rfl,rfl⟩
 have g:AU gv ju (Dk C env X fr true (d+5) s.heap ν (namesOf (AP 26))):=DT B
 cases ht:L.strictText l with
 | some t=>
  have e:L.BY l=t:=by delta L.BY;(refine AA ht ?_;rfl)
  (replace q:=(e)▸q)
  refine pT (wpAny_Try_except ((Oa (sp:=Bg) Fx.ok FF g Wf (fun st _ _ _ _ _ _ _ _ h=>h.elim) (Q:=fun o σ=>o=.ret (.str t)/\σ.purse=ν) ?_).seq B.ha B.r fun f s' g=>?_))
  ·exact⟨NS Fx ho hz4 ht ⟨rfl,rfl⟩⟩
  ·refine Ap fun G kk=>?_;obtain ⟨O',σ',o,p,hf,rfl,hp⟩:=g
   (refine AE hf ?_;clear hf;rintro v rfl rv)
   (refine Bq (B.leave p) ?_;rintro m pu ep);refine kk ?_
   (replace pu:=(hp)▸pu)
   exact⟨_,ν,m,pu,rfl,AJ.mono (fun b q=>.inl q) rv,q⟩
 | none=>
  have e:L.BY l=l:=by delta L.BY;(refine AA ht ?_;rfl)
  rw [e] at q
  (refine AE W.m ?_;rintro mM hM _)
  refine pT (wpAny_Try_except (pT (wpAny_Return_some (pN (wpAny_Call_NameR (Eb (p:=.fn (AB "strict_text")) Fx.ok.cfg FF g B.ha B.r (by kernel_rfl) fun fv s2 O2 p2 rf=>?_)) (fun _ _ z=>False.elim z) fun _ _ z=>z))))
  induction rf with | mk fa hm=>
  (refine BS (Fx.ok.fns _ (AB "strict_text") (show gv (AB "strict_text")=some _ from by kernel_rfl) fa hm) ?_;rintro o fd hfo hfd)
  refine Calls.callWith_function (o:=o) (fd:=fd) (DP (σ:=⟨[.fr (.bytes l)],ν⟩) (G8 Fx.ok 29) FF g rfl Wg (K:=fun ps σ=>ps=[.str (Ak 3),.bytes l]/\σ=⟨[.fr (.bytes l)],ν⟩) ⟨rfl,rfl⟩ B.ha p2.r fun vs s3 O3 σ3 ps p3 rps q3=>?_)
  (refine AM q3 ?_;clear q3;rintro rfl rfl)
  refine⟨⟨p3.r.stays _ _ hfo,hfd⟩,US Fx W ho hz4 ht (p3.r.callIn B.ha) rps hm fun e s4 th=>?_⟩
  obtain ⟨T,mv,pu,en,Tn,hfl⟩:=th
  have pu:=pu.reX fun b hb=>p3.r.purse.xs b hb
  have up:∀ b,s4.heap.get? b=none->s3.heap.get? b=none:=fun b q=>by
   cases z:s3.heap.get? b with
   | none=>rfl
   | some o=>
    by_cases hb:b∈pa ν
    ·(refine BS (pu.lists b hb) ?_;rintro _ o' e' _)
     (replace e':=(q)▸e');exact nS e'
    ·(refine AI (mv.kx.lives hb z) ?_;rintro _ e')
     (replace e':=(q)▸e');exact nS e'
  refine WY (B.ha.frames) (NR (p3.r.moveP mv pu rfl).frames fun _ _ z=>z) B.fr hfl fun h5 T5 T5n hfl5 k5=>L5 hfl5 fun h6 hfl6 k6=>?_
  have y6:KX (fun b=>b=e∨b=T∨b=T5) (inF (env::fr)) s4.heap h6:=(k5.mono (fun b q=>q.imp id .inl) fun _ q=>q).trans (k6.mono (fun b q=>.inr (.inr q)) fun _ q=>q.elim)
  have new3:∀ b,(b=e∨b=T∨b=T5)->s3.heap.get? b=none:=fun b q=>by
   rcases q with rfl | rfl | rfl
   ·exact en
   ·exact Tn
   ·exact up _ T5n
  have go:∀ {h:Heap},KX (fun b=>b=e∨b=T∨b=T5) (inF (env::fr)) s4.heap h->AG C (inP ν) (inF (env::fr)) s3 { s4 with heap:=h }/\Ah ν X h:=fun {h} y=>by
   refine⟨?_,pu.move y (fun b hb q=>?_) fun _ q=>q⟩
   ·(refine Bm mv.sh ?_;rintro h' t' e')
    (refine AA e' ?_)
    refine⟨h,t',rfl,mv.kx.trans_news y (fun b q=>.inr (new3 b q)) fun _ q=>.inl q,fun hb b o z=>?_⟩
    have z2:=hb b o z
    refine y.at (fun q=>by(replace z2:=(new3 b q)▸z2);exact nS z2) (fun q=>?_) (mv.stays hb b o z)
    have:=(p3.r.frames.inF q).1
    (replace this:=(z)▸this);exact sN this
   ·(refine BS (p3.r.purse.lists b hb) ?_;rintro _ o' e' _)
    (replace e':=(new3 b q)▸e');exact nS e'
  have s6:=(go y6).1.stays p3.r.stays
  refine wpAny_handleBy_cons (codeAny_handlers_test ?_) nofun
  refine Calls.Name_function_global B.r.env.kind (B.sc (AB "MimeFault") .globalImplicit (by kernel_rfl) (by decide)).1 (Calls.loadGlobal_global (by(refine AA B.r.env.glob ?_);exact Fx.ok.cfg.g.at' fun o e=>s6 _ o e) W.mg ?_) (by kernel_rfl)
  refine Ap fun G kk=>?_;obtain ⟨oe,fs,oT,ts,he,hc,hd',hx1,hx2,hTe,hT,hdT,hx3⟩:=id hfl6
  obtain ⟨nm,q',N,bs,sn,sub,ab,col,dd,k0,k1,k2,k3,k5',eC,n⟩:=hM.keeps s6;refine kk ?_
  refine wpAny_excMatches_sub_self eC he hc (by(rfl)) (codeAny_handlers_suite (L5 hfl6 fun h7 hfl7 k7=>?_))
  (refine AM (go (y6.trans (k7.mono (fun b q=>.inr (.inr q)) fun _ q=>q.elim))) ?_;rintro m7 pu7)
  have r7:=p3.r.moveP m7 pu7 rfl
  have s7:=r7.stays
  have gns:h7.Ns env.globals C.mg:=by(refine AA B.r.env.glob ?_);exact Fx.ok.cfg.g.at' fun o e=>s7 _ o e
  have glo:∀ (x:Str) (p:PV) (pos:Pos) (Q:Value->Shared->Prop) E',gv x=some p->(BA (AP 26)).names.lookup x=some .globalImplicit->(∀ v,AJ C h7 (Ex (Dk C env X fr true (d+5) s.heap ν (namesOf (AP 26))) O3) p v->Q v { s4 with heap:=h7 })->wpAny (model C.prog C.w) ((A.deeper env).mark (some (.ref e))) (eval (.Name x pos) env) Q E' { s4 with heap:=h7 }:=fun x p pos Q E' e1 e2 k=>by
   obtain ⟨hd,v,hv,rp⟩:=Fx.ok.cfg.gl x p e1
   refine Calls.Name_function_global B.r.env.kind (B.sc x _ e2 (by decide)).1 ?_ hd
   rcases hv with hv | ⟨hm,hv⟩
   ·exact Calls.loadGlobal_global gns hv (k v (AJ.base r7.stays r7.exBase p v rp))
   ·exact Calls.loadGlobal_builtin gns hm (by(refine AA B.r.env.bu ?_);exact Fx.ok.cfg.b.at' fun o e=>s7 _ o e) hv (k v (AJ.base r7.stays r7.exBase p v rp))
  refine pT (wpAny_Return_some (wpAny_Call_NameR (glo (AB "text_in") (.fn (AB "text_in")) _ _ _ (by kernel_rfl) (by kernel_rfl) fun fv rf=>?_)))
  induction rf with | mk fb hmb=>
  (refine BS (Fx.ok.fns _ (AB "text_in") (show gv (AB "text_in")=some _ from by kernel_rfl) fb hmb) ?_;rintro o2 fd2 hfo2 hfd2)
  refine Calls.callWith_function (o:=o2) (fd:=fd2) (BQ (Ai rfl) ?_)
  refine qK (glo (AB "LATIN") (.str (Ak 2)) _ _ _ (by kernel_rfl) (by kernel_rfl) fun v1 rv1=>?_) (AR rfl)
  (refine AE (r7.fr 0 (.bytes l) rfl) ?_;rintro v2 hl2 rv2)
  refine qK (BG (Γ:=ju) g (by kernel_rfl) B.r.env.kind hl2 (by kernel_rfl) ?_) (AR rfl)
  refine wpAny_items_nil ⟨⟨s7 _ _ hfo2,hfd2⟩,?_⟩
  have hq:AK C false (d+5) (AB "text_in") [.str (Ak 2),.bytes l] ν fun p ν'=>p=.str l/\ν'=ν:=HC Fx (.inr (.inl rfl)) (.inr rfl) ho hz4 ⟨by(refine AA (L7 ..:) ?_;rfl),rfl⟩
  obtain ⟨oe7,fs7,oT7,ts7,he7,hc7,hd7,hy1,hy2,_⟩:=hfl7
  have ne:¬inP ν e:=fun hb=>by
   (refine BS (p3.r.purse.lists e hb) ?_;rintro _ o' e' _)
   (replace e':=(en)▸e');exact nS e'
  refine pN (hq ((A.deeper env).mark (some (.ref e))) (env::fr) (Ex (Dk C env X fr true (d+5) s.heap ν (namesOf (AP 26))) O3) { s4 with heap:=h7 } [v1,v2] _ fb (B.ha.frames) (.inr ⟨e,oe7,fs7,rfl,ne,he7,hd7,hy2⟩) nofun B.ha.depth B.ha.units r7.stays r7.frames r7.exF (r7.purse.reX fun b hb=>.inl (r7.purse.xs b hb)) (fun b hb=>(r7.pNew b hb).1) (fun a h=>⟨r7.exIn a h,r7.exBase a h⟩) (.mk _ _ rv1 (.mk _ _ rv2 rfl)) (.inl hmb)) (fun v s8 h8=>?_) fun _ _ z=>z
  refine Ap fun G kk=>?_;obtain ⟨p,ν',m8,pu8,e8,rv8,rfl,eν⟩:=h8
  (replace pu8:=(eν)▸pu8)
  have P8:=p3.r.moveP (m7.trans m8) (pu8.reX fun b hb=>p3.r.purse.xs b hb) rfl
  have sp:Aj (Dk C env X fr true (d+5) s.heap ν (namesOf (AP 26))) (fun _=>none) ⟨[.fr (.bytes l)],ν⟩ s₁ O3 ⟨[.fr (.bytes l)],ν⟩ s8:=((p2.trans p3).trans ⟨P8,fun _ _ z=>z,m7.trans m8,rfl,p3.r.exP,p3.r.exF⟩).sp B.r
  (refine Bq (B.leave sp) ?_;rintro m pu ep);refine kk ?_
  exact⟨_,ν,m,pu,rfl,AJ.mono (fun b q=>.inl q) rv8,q⟩
end
end Mine.Lake
set_option maxHeartbeats 4000000
namespace Mine.Lake
section
variable{C:Al}{hn:Bool}{d:Nat}{ν:Pu}{K:PV->Pu->Prop}
theorem O9{Ky:Type}[DecidableEq Ky](kvs:List (Ky×Value))(k x:Ky)(v:Value):valueAt (stored kvs k v) x=if x=k then some v else valueAt kvs x:=by
 delta stored
 split
 ·rename_i h
  delta valueAt
  induction kvs with
  | nil=>exact fT h
  | cons p kvs ih=>
   obtain ⟨a,b⟩:=p
   (refine AA List.map_cons ?_)
   by_cases ha:a=k
   ·subst ha
    (refine AA (pO rfl) ?_)
    by_cases hx:x=a
    ·subst hx
     (refine AA (pO rfl) ?_;refine AA (List.find?_cons_of_pos (by exact qe rfl)) ?_);rfl
    ·(refine AA (pH hx) ?_;refine AA (qk (by simpa using fun e=>hx e.symm)) ?_;refine AA (qk (by simpa using fun e=>hx e.symm)) ?_)
     clear h ih
     induction kvs with
     | nil=>rfl
     | cons q kvs ih=>
      obtain ⟨c,e⟩:=q
      (refine AA List.map_cons ?_)
      by_cases hc:c=x
      ·(refine AA (pH (fun e=>hx (hc▸e))) ?_;refine AA (List.find?_cons_of_pos (by simpa using hc)) ?_;refine AA (List.find?_cons_of_pos (by simpa using hc)) ?_;rfl)
      ·(refine AA (qk (by split<;>simpa using hc)) ?_;refine AA (qk (by simpa using hc)) ?_)
       exact ih
   ·(refine AA (pH ha) ?_)
    (replace h:=(List.any_cons)▸h;replace h:=(qg ha)▸h;rewrite [Bool.false_or] at h)
    by_cases hx:a=x
    ·(refine AA (pH (fun e=>ha (hx.trans e))) ?_;refine AA (List.find?_cons_of_pos (by simpa using hx)) ?_;refine AA (List.find?_cons_of_pos (by simpa using hx)) ?_;rfl)
    ·(refine AA (qk (by simpa using hx)) ?_;refine AA (qk (by simpa using hx)) ?_)
     exact ih h
 ·rename_i h
  delta valueAt
  (refine AA (List.find?_append) ?_)
  by_cases hx:x=k
  ·subst hx
   (refine AA (pO rfl) ?_;refine AA (List.find?_eq_none.mpr fun p hp q=>h (List.any_eq_true.mpr ⟨p,hp,q⟩)) ?_)
   (refine AA (List.find?_cons_of_pos (by exact qe rfl)) ?_);rfl
  ·(refine AA (pH hx) ?_;refine AA (qk (by simpa using fun e=>hx e.symm)) ?_)
   (refine AA Option.or_none ?_;rfl)
structure NL(C:Al)(hs:Heap)(L D:Addr)(f:List Nat->Option (List Nat))(n:Nat)(h:Heap):Prop where
 ln:hs.get? L=none
 dn:hs.get? D=none
 ne:L≠D
 keep:∀ b o,hs.get? b=some o->h.get? b=some o
 ns:∃ m,h.Ns L m/\m (AB "found")=some (.ref D)
 dict:∃ kvs,h.DictOf (strKind C.prog C.w) D kvs/\kvs.length<=n/\∀ k,VC (f k) (valueAt kvs (toS k))
section
variable{hs h h':Heap}{L D:Addr}{f:List Nat->Option (List Nat)}{n:Nat}
theorem NL.lAt(x:NL C hs L D f n h):∃ o,h.get? L=some o:=(by refine AE x.ns ?_;rintro _ ⟨o,_,_,e,_⟩ _;exact⟨o,e⟩)
theorem NL.dAt(x:NL C hs L D f n h):∃ o,h.get? D=some o:=(by refine AE x.dict ?_;rintro _ ⟨o,_,_,e,_⟩ _;exact⟨o,e⟩)
theorem NL.but(x:NL C hs L D f n h)(k:∀ b o,h.get? b=some o->(b=L∨b=D∨hs.get? b=some o)->h'.get? b=some o):NL C hs L D f n h':=
 {x with
  keep:=fun b o e=>k b o (x.keep b o e) (.inr (.inr e))
  ns:=(by refine AE x.ns ?_;rintro m hn e;exact⟨m,hn.at' fun o eo=>k L o eo (.inl rfl),e⟩)
  dict:=(by refine AE x.dict ?_;rintro kvs ⟨o,es,ep,e,r⟩ q;exact⟨kvs,⟨o,es,ep,k D o e (.inr (.inl rfl)),r⟩,q⟩) }
theorem Wj(h:toS x=toS y):x=y:=by
 have:=congrArg (fun s:Str=>s.cps.toList) h
 simpa [toS] using this
noncomputable def Wk(e:Expr):Option (List Nat):=match e,view e with
 | _,.const c _ _=>(match c with
  | .str x=>some x.cps.toList
  | _=>none)
 | _,_=>none
theorem UT{x:List Nat}(h:Wk e=some x):∃ k p,e=.Constant (.str (toS x)) k p:=by
 cases e with
 | Constant c k p=>
  induction c with
  | str y=>cases (show some y.cps.toList=some x from h);exact⟨k,p,by(rfl)⟩
  | _=>exact nS h
 | _=>exact nS h
variable{A:Around}{s:Shared}{E:Value->Shared->Prop}{env:Env}
theorem Jn:∀ {es:List Expr} {xs:List (List Nat)} {s:Shared} {Q:List Value->Shared->Prop},Ay Wk es=some xs->(∀ x∈xs,x.length<=100)->(∀ vs tk,AF C hh X (xs.map .str) vs->Q vs { s with toks:=tk })->wpAny M A (spliced (backTo pos (starEach es env))) Q E s
 | [],_,s,Q,h,_,q=>by
  (refine sI h ?_;clear h;intro zz;induction zz)
  exact wpAny_items_nil (q [] s.toks rfl)
 | e::es,_,s,Q,h,hz,q=>by
  (refine AE (AN h) ?_;rintro x h1 h2)
  (refine AE (Ad h2) ?_;rintro xs h3 h4)
  subst h4
  (refine Bm (UT h1) ?_;rintro k p he)
  subst he
  exact qK (wpAny_Constant_str (Jn h3 (fun y hy=>hz y (.tail _ hy)) fun vs tk r=>q _ tk (.mk _ _ (ML.mk (om (hz x (.head _)) (by decide)) s.toks) r))) (AR rfl)
structure jv(C:Al)(env:Env):Prop where
 kind:env.scope.kind=.function
 glob:env.globals=mainGlobals
 bu:env.builtins=builtinsNs
 fk:env.kindOf (AB "found")=some .local
 ak:env.kindOf (AB "alias")=some .local
theorem UU(G:EE C gv)(hf:jv C env){V:Str}(hV:gv V=some (.str w))(hvk:env.kindOf V=some .globalImplicit)(hst:C.base.StaysIn s.heap)(q:w.length<=sizeLine->∀ t,Q (.str (toS w) t) s):wpAny (model C.prog C.w) A (eval (.Name V pos) env) Q E s:=by
 obtain ⟨hd,v,hv,rv⟩:=G.gl V _ hV
 induction rv with | mk hz t=>
 have gns:s.heap.Ns env.globals C.mg:=by(refine AA hf.glob ?_);exact G.g.at' fun o e=>hst _ o e
 refine Calls.Name_function_global hf.kind hvk ?_ hd
 rcases hv with hv | ⟨hm,hv⟩
 ·exact Calls.loadGlobal_global gns hv (q hz t)
 ·exact Calls.loadGlobal_builtin gns hm (by(refine AA hf.bu ?_);exact G.b.at' fun o e=>hst _ o e) hv (q hz t)
theorem Rb(G:EE C gv)(hf:jv C env)(hL:env.locals=L){V:Str}{w:List Nat}(hV:gv V=some (.str w))(hvk:env.kindOf V=some .globalImplicit)(hh:A.handled=none){es:List Expr}{pa pt p1 p2 p3 p4 p5 pf:Pos}(hes:Ay Wk es=some xs)(hz:∀ x∈xs,x.length<=100)(hxl:xs.length<=100)(x:NL C hs L D f n s.heap)(hst:C.base.StaysIn hs)(hn:n+xs.length<=1000)(q:∀ h' tk,NL C hs L D (fun k=>if k∈xs then some w else f k) (n+xs.length) h'->Q .next { s with heap:=h',toks:=tk }):
  wpAny (model C.prog C.w) A (exec (.For (.Name (AB "alias") pa) (.Tuple es kt pt) [.Assign [.Subscript (.Name (AB "found") p1) (.Name (AB "alias") p2) p3] (.Name V p4) p5] [] pf) env) Q E s:=by
 subst hL
 have hvl:∀ vs:List Value,AF C s.heap Ax (xs.map .str) vs->vs.length=xs.length:=fun vs r=>by(refine AA r.length ?_;refine AA (pK ..:) ?_;rfl)
 refine wpAny_For (wpAny_Tuple (Jn hes hz fun vs tk r=>⟨om (by(refine AA (hvl vs r) ?_);exact hxl) (by decide),?_⟩))
 have hT:(s.heap.push { cls:=.type "tuple",data:=.seq vs.toArray }).IsTuple s.heap.objs.size vs.toArray:=⟨_,pE _ rfl,rfl,_,rfl⟩
 refine wpAny_pyIter_tuple hT ?_
 have x2:NL C hs env.locals D f n ((s.heap.push { cls:=.type "tuple",data:=.seq vs.toArray }).push { cls:=.type "tuple_iterator",data:=.fields #[.ref s.heap.objs.size,.int 0 0] }):=x.but fun b o e _=>Au (Au e)
 have hTn:=dead x.keep (AH (ou _))
 have hIn:hs.get? (s.heap.push { cls:=.type "tuple",data:=.seq vs.toArray }).objs.size=none:=dead x.keep (AH (by(refine AA (Heap.size_push ..:) ?_);exact Nat.le_succ _))
 have hI:((s.heap.push { cls:=.type "tuple",data:=.seq vs.toArray }).push { cls:=.type "tuple_iterator",data:=.fields #[.ref s.heap.objs.size,.int 0 0] }).IsTupleIter (s.heap.push { cls:=.type "tuple",data:=.seq vs.toArray }).objs.size s.heap.objs.size 0:=⟨_,pE _ rfl,rfl,rfl⟩
 have hT2:=hT.push { cls:=.type "tuple_iterator",data:=.fields #[.ref s.heap.objs.size,.int 0 0] }
 have hTI:s.heap.objs.size≠(s.heap.push { cls:=.type "tuple",data:=.seq vs.toArray }).objs.size:=by(refine AA (Heap.size_push ..:) ?_);exact pX (qF _)
 have nl:∀ b,(∃ o,s.heap.get? b=some o)->b≠s.heap.objs.size/\b≠(s.heap.push { cls:=.type "tuple",data:=.seq vs.toArray }).objs.size:=fun b zq=>by
  (refine AI zq ?_;rintro o e)
  exact by
   have:=pi e
   exact⟨pX this,by(refine AA (Heap.size_push ..:) ?_);exact pX (Nat.lt_succ_of_lt this)⟩
 have nL:=nl _ x.lAt
 have nD:=nl _ x.dAt
 generalize (s.heap.push { cls:=.type "tuple",data:=.seq vs.toArray }).push { cls:=.type "tuple_iterator",data:=.fields #[.ref s.heap.objs.size,.int 0 0] }=H at x2 hI hT2 ⊢
 generalize (s.heap.push { cls:=.type "tuple",data:=.seq vs.toArray }).objs.size=I at hI hIn hTI nL nD ⊢
 generalize s.heap.objs.size=T at hI hIn hTI hTn nL nD hT2 ⊢
 have wl:∀ vs:List Value,AF C s.heap Ax (xs.map .str) vs->vs.toArray.size=xs.length:=fun vs r=>by(refine AA ph ?_;refine AA (hvl vs r) ?_;rfl)
 have W:=Walks.tuple (prog:=C.prog) (w:=C.w) hh I T hTI vs.toArray
 (replace W:=(wl vs r)▸W)
 refine codeAny_forLoop_any (fun k s'=>∃ i h' tk,s'={ s with heap:=h',toks:=tk }/\i<=xs.length/\k=xs.length - i/\h'.IsTupleIter I T i/\h'.IsTuple T vs.toArray/\NL C hs env.locals D (fun k=>if k∈xs.take i then some w else f k) (n+i) h') ?_ xs.length
  ⟨0,H,tk,rfl,pQ _,rfl,hI,hT2,by trivial⟩
 rintro k s' ⟨i,h',tk',rfl,hi,rfl,it,tt,N⟩
 have next:∀ {h1:Heap} {f n},NL C hs env.locals D f n h'->(∀ b o,b∉[I]->h'.get? b=some o->h1.get? b=some o)->NL C hs env.locals D f n h1:=fun N hk=>N.but fun b o e z=>hk b o (fun hb=>by
  cases pZ.mp hb
  rcases z with z | z | z
  ·exact nL.2 z.symm
  ·exact nD.2 z.symm
  ·(replace z:=(hIn)▸z);exact nS z) e
 by_cases hlt:i<xs.length
 ·refine W.item i _ _ _ hlt ⟨it,tt⟩ fun v h1 tk1 hv st1 hk1=>?_
  have N1:=next N hk1
  refine letGo_tupleiter st1.1 ?_
  have hx:=o8 hlt
  generalize xs[i]=y at hx
  (refine AE (r.get i (by(refine AA (qB) ?_;refine AA hx ?_);rfl)) ?_;rintro v' hv1 hv2)
  (replace hv:=(List.getElem?_toArray)▸hv;replace hv:=(hv1)▸hv)
  (refine sI hv ?_;clear hv;intro zz;induction zz)
  induction hv2 with | mk hyz ty=>
  (refine AE N1.ns ?_;rintro m hm hmf)
  refine wpAny_assign_Name (wpAny_storeName_local hf.ak hm (fun h2 hm2 hs2=>?_) (by(refine AA hf.kind ?_);rfl))
  have N2:={ N1 with
   keep:=fun b o e=>(hs2.2 b fun q=>by(replace e:=(q)▸e;replace e:=(N1.ln)▸e);exact nS e).trans (N1.keep b o e)
   ns:=⟨_,hm2,hmf⟩
   dict:=(by refine AE N1.dict ?_;rintro kvs ⟨o,es,ep,e,r⟩ q;exact⟨kvs,⟨o,es,ep,(hs2.2 D N1.ne.symm).trans e,r⟩,q⟩) }
  have stays2:C.base.StaysIn h2:=fun b o e=>N2.keep b o (hst b o e)
  have it2:=st1.1.at fun o e=>(hs2.2 I nL.2.symm).trans e
  have tt2:=st1.2.at fun o e=>(hs2.2 T nL.1.symm).trans e
  refine pT (wpAny_Assign_Subscript (UU G hf hV hvk stays2 fun hwz tw=>CB hf.kind (.inl ⟨hf.fk,_,hm2,hmf⟩) (by kernel_rfl) (CB hf.kind (.inl ⟨hf.ak,_,hm2,pO rfl⟩) (by kernel_rfl) ?_)) (Ct rfl))
  (refine Cp N2.dict ?_;rintro kvs hd hl hv)
  refine wpAny_setItem_pairs (by refine(?_:Value.isStrOf (toS y) (.str (toS y) ty)=true);simp [Value.isStrOf]) hd (fun h3 hd3 hs3=>?_) (om hl (om (show n+i<=1000 by(clear hv hl hd hwz tt2 it2 stays2 N2 hs2 hm2 hmf hm hv1 hyz hx N1 hk1 st1 hlt next N tt it W wl hT2 nD nL hTn hTI hI hIn x2 nl hT r hvl q x hst hxl hz hes hh hvk hV hf G;exact oy fun q=>nl (FO n i xs.length) ⟨false,(nP (nW (nK 1000)) (nP Ag (nP Ae BK))),(nP (nP Ae Ag) (nP BK (nK 1000)))⟩ rfl (nQ q (o7 hi hn)))) (by decide)))
  refine wpAny_execs_nil ⟨xs.length - (i+1),by(exact pz hlt (qF _)),i+1,h3,_,rfl,hlt,rfl,it2.at fun o e=>(hs3.2 I nD.2.symm).trans e,tt2.at fun o e=>(hs3.2 T nD.1.symm).trans e,{ N2 with
   keep:=fun b o e=>(hs3.2 b fun q=>by(replace e:=(q)▸e;replace e:=(N2.dn)▸e);exact nS e).trans (N2.keep b o e)
   ns:=(by refine AE N2.ns ?_;rintro m hn e;exact⟨m,hn.sameBut hs3 N2.ne,e⟩)
   dict:=⟨_,hd3,om (stored_length_le _ _ _) (qb hl),fun k=>?_⟩ }⟩
  (rewrite [O9];refine AA List.take_add_one ?_;refine AA hx ?_;refine AA (Option.toList_some ..:) ?_)
  by_cases hky:k=y
  ·cases hky
   (refine AA (pO rfl) ?_;refine AA (pO (pV.mpr (.inr (.head _)))) ?_)
   exact .some hwz tw
  ·(refine AA (pH fun e=>hky (Wj e)) ?_)
   have:=hv k
   by_cases hm:k∈xs.take i
   ·(replace this:=(pO hm)▸this)
    (refine AA (pO (pV.mpr (.inl hm))) ?_);exact this
   ·(replace this:=(pH hm)▸this)
    (refine AA (pH fun q=>(pV.mp q).elim hm fun q=>hky (pZ.mp q)) ?_);exact this
 ·have e:=Nat.le_antisymm hi (oy hlt)
  subst e
  (replace N:=(List.take_length)▸N)
  exact W.done _ _ _ ⟨it,tt⟩ fun h1 tk1 hk1=>wpAny_execs_nil (q h1 tk1 (next N hk1))
noncomputable def KG(st:Stmt):Expr×Expr×Stmt:=match st with
 | .For t i (b::_) _ _=>(t,i,b)
 | st=>(BB st,BB st,st)
noncomputable def tupK(e:Expr):Nat:=match e,view e with
 | _,.tup _ k _=>k
 | _,_=>0
noncomputable def stN(i:Nat):Stmt:=(A8 (AP 18)).getD i Nj
noncomputable def Wl(i:Nat)(V:Str):Stmt:=.For (.Name (AB "alias") (KG (stN i)).1.pos) (.Tuple (Tw (KG (stN i)).2.1) (tupK (KG (stN i)).2.1) (KG (stN i)).2.1.pos) [.Assign [.Subscript (.Name (AB "found") (Cv (DU (KG (stN i)).2.2) 0).pos) (.Name (AB "alias") (Cv (DU (KG (stN i)).2.2) 1).pos) (DU (KG (stN i)).2.2).pos] (.Name V (BB (KG (stN i)).2.2).pos) (KG (stN i)).2.2.pos] [] (stN i).pos
theorem PA:A8 (AP 18)=[.Assign [.Name (AB "found") (DU (stN 0)).pos] (.Dict [] [] (BB (stN 0)).pos) (stN 0).pos,Wl 1 (AB "ASCII"),Wl 2 (AB "LATIN"),Wl 3 (AB "UTF8"),.Return (some (.Name (AB "found") (BB (stN 4)).pos)) (stN 4).pos]:=by kernel_rfl
structure jQ(C:Al)(A:Around)(env:Env)(hs:Heap)(D:Addr)(st:Stmt)(w:List Nat)(xs:List (List Nat)):Prop where
 h:∀ {s:Shared} {f:List Nat->Option (List Nat)} {n:Nat} {Q:Flow->Shared->Prop} {E:Value->Shared->Prop},NL C hs env.locals D f n s.heap->n+xs.length<=1000->(∀ h' tk,NL C hs env.locals D (fun k=>if k∈xs then some w else f k) (n+xs.length) h'->Q .next { s with heap:=h',toks:=tk })->
  wpAny (model C.prog C.w) A (exec st env) Q E s
theorem Jo(i:Nat)(V:Str)(w:List Nat)(xs:List (List Nat))(hV:gv V=some (.str w))(hes:Ay Wk (Tw (KG (stN i)).2.1)=some xs)(hz:∀ x∈xs,x.length<=100)(hxl:xs.length<=100)(G:EE C gv)(hf:jv C env)(hvk:env.kindOf V=some .globalImplicit)(hh:A.handled=none)(hst:C.base.StaysIn hs):jQ C A env hs D (Wl i V) w xs where
 h x hn q:=by
  exact Rb G hf rfl hV hvk hh hes hz hxl x hst hn q
end
theorem Rc:(fun k=>if k∈L.Bx then some (Ak 3) else if k∈L.BU then some (Ak 2) else if k∈L.BT then some (Ak 1) else none)=Ku:=funext fun k=>by
 have d3:∀ x∈L.Bx,x∉L.BU/\x∉L.BT:=by decide +kernel
 have d2:∀ x∈L.BU,x∉L.BT:=by decide +kernel
 delta Ku
 by_cases h3:k∈L.Bx
 ·(refine AA (pO h3) ?_;refine AA (pH (d3 k h3).2) ?_;refine AA (pH (d3 k h3).1) ?_;refine AA (pO h3) ?_;rfl)
 ·(refine AA (pH h3) ?_)
  by_cases h2:k∈L.BU
  ·(refine AA (pO h2) ?_;refine AA (pH (d2 k h2)) ?_;refine AA (pO h2) ?_;rfl)
  ·(refine AA (pH h2) ?_)
   by_cases h1:k∈L.BT
   ·(refine AA (pO h1) ?_;refine AA (pO h1) ?_;rfl)
   ·(refine AA (pH h1) ?_;refine AA (pH h1) ?_;refine AA (pH h2) ?_;refine AA (pH h3) ?_;rfl)
theorem Wm(Fx:AX C):HF C:=by
 intro d ν K q A fr X s vs E a h1 h2 h2' h3 h4 h5 h6 h6' h7 h8 h9 h10 h11
 (refine AI ((Fx.defs _ 18 (by kernel_rfl) a (FD (i:=18) (by kernel_rfl) h11)).all (l:=[]) (by kernel_rfl) rfl) ?_;rintro fd D)
 refine B6 (d:=d) Fx.ok.cfg (n:=2) D (by kernel_rfl) rfl ⟨h1,h2,h2',h3,h4,h5,h6,h6',h7,h8,h9⟩ h10 fun env s₁ B=>?_
 have kd:∀ x k,(BA (AP 18)).names.lookup x=some k->k≠.free->env.kindOf x=some k:=fun x k h1 h2=>(B.sc x k h1 h2).1
 have hf:jv C env:=⟨B.r.env.kind,B.r.env.glob,B.r.env.bu,kd _ _ (by kernel_rfl) (by decide),kd _ _ (by kernel_rfl) (by decide)⟩
 have G:=Fx.ok.cfg
 have hh:(A.deeper env).handled=none:=h2' rfl
 have s1:=fun D=>Jo (D:=D) 1 (AB "ASCII") (Ak 1) L.BT (by kernel_rfl) (by kernel_rfl) (by decide +kernel) (by decide) G hf (kd _ _ (by kernel_rfl) (by decide)) hh h5
 have s2:=fun D=>Jo (D:=D) 2 (AB "LATIN") (Ak 2) L.BU (by kernel_rfl) (by kernel_rfl) (by decide +kernel) (by decide) G hf (kd _ _ (by kernel_rfl) (by decide)) hh h5
 have s3:=fun D=>Jo (D:=D) 3 (AB "UTF8") (Ak 3) L.Bx (by kernel_rfl) (by kernel_rfl) (by decide +kernel) (by decide) G hf (kd _ _ (by kernel_rfl) (by decide)) hh h5
 (refine AA PA ?_)
 (refine AI B.r.ns ?_;rintro m hm)
 (refine Bm B.sh ?_;rintro hs1 tk1 rfl)
 refine pT (wpAny_Assign_Name (wpAny_Dict_empty (wpAny_storeName_local hf.fk (hm.push _) (fun h2 hm2 hs2=>?_) (by(refine AA hf.kind ?_);rfl))) (Ct rfl))
 have hDn:hs1.get? hs1.objs.size=none:=AH (ou _)
 have N0:NL C s.heap env.locals hs1.objs.size (fun _=>none) 0 h2:={
  ln:=B.loc
  dn:=by
   cases e:s.heap.get? hs1.objs.size with
   | none=>rfl
   | some o=>have:=B.keep _ o e;(replace this:=(hDn)▸this);exact nS this
  ne:=(pX hm.lt)
  keep:=fun b o e=>(hs2.2 b fun q=>by(replace e:=(q)▸e;replace e:=(B.loc)▸e);exact nS e).trans (Au (B.keep b o e))
  ns:=⟨_,hm2,pO rfl⟩
  dict:=by
   (refine IX (Heap.DictOf.new (knd:=PySem.strKind C.prog C.w) hs1) ?_;rintro o es ep e r)
   exact⟨[],⟨o,es,ep,(hs2.2 _ (pX hm.lt).symm).trans e,r⟩,ou _,fun k=>.none⟩ }
 refine pT ((s1 _).h N0 (by decide) fun h3 tk3 N1=>?_)
 refine pT ((s2 _).h N1 (by decide) fun h4 tk4 N2=>?_)
 refine pT ((s3 _).h N2 (by decide) fun h5' tk5 N3=>?_)
 (replace N3:=(Rc)▸N3)
 (refine AE N3.ns ?_;rintro m3 hm3 hf3)
 (refine Cp N3.dict ?_;rintro kvs hd _ hv)
 refine pT (wpAny_Return_some (CB hf.kind (.inl ⟨hf.fk,m3,hm3,hf3⟩) (by kernel_rfl) ?_))
 refine⟨.sdict Ku,ν,AG.of_keeps N3.keep,h7.move (KX.of_keeps (P:=Ax) (F:=Ax) N3.keep) (fun _ _ q=>q) fun _ q=>q,rfl,.mk _ _ (fun z=>?_) ⟨?_,hd.mapOf,hv⟩,q⟩
 ·(refine AM (h9 _ z) ?_;rintro ⟨o,e⟩ _)
  exact nomatch N3.dn.symm.trans e
 ·(refine AI G.mods ?_;rintro o e)
  exact qT.mpr fun z=>nomatch N3.dn.symm.trans ((congrArg s.heap.get? z).trans (h5 _ _ e))
end
end Mine.Lake
set_option maxHeartbeats 4000000
namespace Mine.Lake
theorem NV:entryFor table "dict.update.loop" = some Builtin.«dict.update.loop»:=entryFor_of_tree (by kernel_rfl)
theorem L8:plainId "dict.update.loop" = true:=by decide +kernel
theorem Wn:typeLookup (.type "list") "keys" = pure none:=by kernel_rfl
theorem PB:typeLookup (.type "list") "__getattr__" = pure none:=by kernel_rfl
section
variable{prog:Program}{w:World}{A:Around}{E:Value->Shared->Prop}{s:Shared}
theorem PC{os:OsState}{sl:Array (Option Value)}(ho:h.get? a=some ⟨.type "list",none,.seq xs n,sl⟩)(hh:A.handled=none)(hq:∀ h' tk e,Heap.NewAttrErr h h' e (.ref a) "keys" -> E (.ref e) ⟨h',g,d,tk,os⟩):wpAny (model prog w) A (Builtin.«object.__getattribute__» ⟨[.ref a,.str "keys" u],[]⟩) Q E ⟨h,g,d,t,os⟩:=by
 have hT:(⟨h,g,d,t,os⟩:Shared).TypeIs (.ref a) "list" := ⟨_,ho,rfl⟩
 have f1:=Wn
 repeat (any_goals (wp_step))
 exact wpAny_raiseAttrError hh hq (attrMsg_fits (by decide +kernel) (by size_fits))
theorem Rd{a:Addr}{os:OsState}{sl:Array (Option Value)}(ho:h.get? a=some ⟨.type "list",none,.seq xs n,sl⟩)(hh:A.handled=none)(hq:∀ h' tk,(∀ b o,h.get? b=some o->h'.get? b=some o)->Q none ⟨h',g,d,tk,os⟩):wpAny (model prog w) A (getAttr? (.ref a) "keys") Q E ⟨h,g,d,t,os⟩:=by
 have hT2:(⟨h,g,d,t+1,os⟩:Shared).TypeIs (.ref a) "list" := ⟨_,ho,rfl⟩
 have f1:=sub_AttributeError
 have f2:=F.slot_list_getattribute.lookup
 have f3:=F.slot_list_getattribute.bind (.ref a)
 have f5:=PB
 repeat (any_goals (wp_step))
 refine codeAny_call_builtin F.slot_list_getattribute.plain F.entry_list_ga (F.slot_list_getattribute.check _ _ _ _ _ _ _ _ hT2 (F.args_list_getattribute_2 _ _) (PC ho hh fun h' tk e hx=>?_))
 (refine Bm hx.there ?_;rintro t' u' he)
 refine(?_:wpAny _ _ (getattributeRaised _ _ _ _ _ _ _) _ _ _)
 repeat (any_goals (wp_step))
 exact hq _ _ hx.keeps
theorem PD{kvs:List (Int×Value)}(h:k∉kvs.map (·.1)):stored kvs k v=kvs ++ [(k,v)]:=by
 delta stored
 (rewrite [if_neg];rfl)
 intro q
 (refine AE (List.any_eq_true.mp q) ?_;rintro x hx e)
 exact h (qL.mpr ⟨x,hx,by simpa using e⟩)
noncomputable def L9(h:Heap)(v:Value)(k:Int)(x:Value):Prop:=∃ t u,v=.ref t/\DE h t [.int k u,x]
theorem UV{items:Array Value}{kv:List (Int×Value)}(hh:A.handled=none)(hne:ax≠I)(hDI:D≠I)(hDa:D≠ax)(hn:(kv.map (·.1)).Nodup)(hlen:items.size=kv.length)(hz:kv.length<=sizeLine){R:Result->Shared->Prop}:∀ (k i:Nat) (s:Shared),kv.length - i=k->i<=kv.length->
  s.heap.IsListIter I ax i->s.heap.IsList ax items->s.heap.DictOf (intKind prog w) D (kv.take i)->(∀ (j:Nat) (v:Value) (k:Int) (x:Value),items[j]?=some v->kv[j]?=some (k,x)->L9 s.heap v k x)->
  (∀ h' tk,(∀ b o,b≠D->b≠I->s.heap.get? b=some o->h'.get? b=some o)->h'.DictOf (intKind prog w) D kv->R (.ok (.ret .none)) { s with heap:=h',toks:=tk })->
  codeAny (model prog w) A (.builtin "dict.update.loop" ⟨[.ref D,.ref I,rawInt i,.none],[]⟩) R s:=by
 intro k
 induction k with
 | zero=>
  intro i s hk hi hit hl hD hp hR
  have hin:=Nat.le_antisymm hi (Nat.le_of_sub_eq_zero hk)
  subst hin
  have W:=Walks.list (prog:=prog) (w:=w) (A:=A.in1) hh I ax hne items
  refine codeAny_builtin NV ?_
  refine oq (W.done s _ _ (by(refine AA hlen ?_);exact⟨hit,hl⟩) fun h' tk km=>?_)
  refine oq (o6 (o6 (hR h' tk (fun b o _ hb q=>km b o (by simpa using hb) q) ?_)))
  (refine IX hD ?_;rintro o es ep e r)
  (replace r:=(List.take_length)▸r)
  exact⟨o,es,ep,km D o (by simpa using hDI) e,r⟩
 | succ k ih=>
  intro i s hk hi hit hl hD hp hR
  have hlt:i<kv.length:=Nat.lt_of_sub_pos (hk.symm▸pW k)
  have W:=Walks.list (prog:=prog) (w:=w) (A:=A.in1) hh I ax hne items
  refine codeAny_builtin NV ?_
  (refine AA (Around.under_plainId L8 _) ?_)
  refine oq (W.item i s _ _ (Nat.lt_of_lt_of_eq hlt hlen.symm) ⟨hit,hl⟩ fun v h' tk hv hst' km=>?_)
  obtain ⟨⟨kk,x⟩,hkv⟩:∃ p,kv[i]?=some p:=⟨kv[i],o8 hlt⟩
  obtain ⟨t,u,rfl,n',ht⟩:=hp i v kk x hv hkv
  have tI:t≠I:=fun z=>by
   (refine Cp hit ?_;rintro o e c _)
   (replace ht:=(z)▸ht;replace ht:=(e)▸ht);(refine sI ht ?_;clear ht;intro zz;subst zz);exact absurd c (by trivial)
  have ht':=km t _ (by simpa using tI) ht
  have hD':h'.DictOf (intKind prog w) D (kv.take i):=(by refine IX hD ?_;rintro o es ep e r;exact⟨o,es,ep,km D o (by simpa using hDI) e,r⟩)
  refine oq (pR (oq (wpAny_tryCatch ?_)))
  refine oq (wpAny_typeOf (⟨_,ht',rfl⟩) ?_)
  have hs:wpAny (model prog w) A.in1 (seqItems? (.ref t)) (fun r s'=>r=some [Value.int kk u,x].toArray/\s'=⟨h',s.gens,s.drawn,tk,s.os⟩) (fun _ _=>False) ⟨h',s.gens,s.drawn,tk,s.os⟩:=by
   repeat (any_goals (wp_step))
   exact⟨rfl,rfl⟩
  refine oq (pN hs (fun r s' q=>?_) fun _ _ q=>q.elim)
  (refine AM q ?_;clear q;rintro rfl rfl)
  refine o6 ?_
  refine pR (wpAny_dictSet_pairs (k:=kk) (by simp [intKind,Value.isInt]) hD' (fun h2 hD2 hs2=>?_) (by(refine AA List.length_take ?_);lia))
  have hst:kv.take (i+1)=stored (kv.take i) kk x:=by
   (rewrite [PD];refine AA List.take_add_one ?_;refine AA hkv ?_);rfl
   (refine AA List.map_take ?_)
   intro q
   have h3:kk∈(kv.map (·.1)).drop i:=qE (i:=0) (by(refine AA (qf) ?_;refine AA (qB) ?_;refine AA hkv ?_);rfl)
   rw [←List.take_append_drop i (kv.map (·.1))] at (hn)
   exact(List.nodup_append.mp (hn)).2.2 _ q _ h3 rfl
  (replace hD2:=Eq.symm (hst)▸hD2)
  refine o6 ⟨plainId_quiet L8 _,ih (i+1) _ (Nat.succ.inj ((bW hlt).symm.trans hk)) hlt ?_ ?_ hD2 (fun j v k y hv hk=>?_) fun h3 tk3 k3 hD3=>?_⟩
  ·(refine AE hst'.1 ?_;rintro o e r)
   exact⟨o,(hs2.2 I (Ne.symm hDI)).trans e,r⟩
  ·(refine AE hst'.2 ?_;rintro o e r)
   exact⟨o,(hs2.2 ax (Ne.symm hDa)).trans e,r⟩
  ·obtain ⟨t2,u2,rfl,n2,e2⟩:=hp j v k y hv hk
   have a1:t2≠I:=fun z=>by
    refine Ap fun G kk=>?_;(refine Cp hit ?_;rintro o e c _)
    (replace e2:=(z)▸e2;replace e2:=(e)▸e2);(refine sI e2 ?_;clear e2;intro zz;subst zz);refine kk ?_;exact absurd c (by trivial)
   have a2:t2≠D:=fun z=>by
    (refine IY hD ?_;rintro o es ep e c _)
    (replace e2:=(z)▸e2;replace e2:=(e)▸e2);(refine sI e2 ?_;clear e2;intro zz;subst zz);exact absurd c.1 (by simp)
   exact⟨t2,u2,rfl,n2,(hs2.2 t2 a2).trans (km _ _ (by simpa using a1) e2)⟩
  ·exact hR h3 tk3 (fun b o b1 b2 q=>k3 b o b1 b2 ((hs2.2 b b1).trans (km b o (by simpa using b2) q))) hD3
theorem PE{xs:List Value}{sl:Array (Option Value)}(hh:A.handled=none)(ho:s.heap.get? ax=some ⟨.type "list",none,.seq xs.toArray n,sl⟩)(hn:(kv.map (·.1)).Nodup)(hlen:xs.length=kv.length)(hz:kv.length<=sizeLine)(hp:∀ (j:Nat) (v:Value) (k:Int) (x:Value),xs[j]?=some v->kv[j]?=some (k,x)->L9 s.heap v k x)(h:∀ h' tk D,s.heap.get? D=none->(∀ b o,s.heap.get? b=some o->h'.get? b=some o)->h'.DictOf (intKind prog w) D kv->Q (.ref D) { s with heap:=h',toks:=tk }):wpAny (model prog w) A (call (.type "dict") [.ref ax]) Q E s:=by
 refine callType_codes (Q₁:=fun obj s₁=>obj=.ref s.heap.objs.size/\s₁={ s with heap:=s.heap.push { cls:=.type "dict",data:=.dict #[] } }) F.kt_called_dict (F.kt_typeCall_dict_1 _) F.entry_dict_init (kt_code_dict_new _ ⟨rfl,rfl⟩) ?_
 rintro obj s₁ ⟨rfl,rfl⟩
 have hnew:(s.heap.push { cls:=.type "dict",data:=.dict #[] }).DictOf (intKind prog w) s.heap.objs.size []:=Heap.DictOf.new s.heap
 refine⟨hnew.typeIs,F.args_dict_init_2 _ _,?_⟩
 refine oq ?_
 refine oq (wpAny_notOrdered_dict hnew.typeIs ?_)
 refine o6 ?_
 refine(?_:wpAny _ _ (Builtin.Dict.updateFrom "dict.__init__" s.heap.objs.size (.ref ax) [] .none) _ _ _)
 have ho':(s.heap.push { cls:=.type "dict",data:=.dict #[] }).get? ax=some ⟨.type "list",none,.seq xs.toArray n,sl⟩:=pF _ ho
 refine oq (wpAny_typeOf ⟨_,ho',rfl⟩ ?_)
 refine oq (Rd ho' (by exact hh) fun h1 tk1 k1=>?_)
 refine oq (wpAny_rule ?_)
 refine oq (wpAny_pyIter_list (⟨_,k1 _ _ ho',rfl,n,rfl⟩) ?_)
 have k2:∀ b o,h1.get? b=some o->(h1.push { cls:=.type "list_iterator",data:=.fields #[.ref ax,.int 0 0] }).get? b=some o:=fun b o q=>pF _ q
 have hI:(h1.push { cls:=.type "list_iterator",data:=.fields #[.ref ax,.int 0 0] }).get? h1.objs.size=some { cls:=.type "list_iterator",data:=.fields #[.ref ax,.int 0 0] }:=pE _ rfl
 have hIn:∀ o,h1.get? h1.objs.size≠some o:=fun o q=>by(replace q:=(qn (ou _))▸q);exact nS q
 refine(?_:wpAny _ _ (again (.builtin "dict.update.loop" ⟨[.ref s.heap.objs.size,.ref h1.objs.size,rawInt 0,.none],[]⟩)) _ _ ⟨h1.push { cls:=.type "list_iterator",data:=.fields #[.ref ax,.int 0 0] },s.gens,s.drawn,tk1,s.os⟩)
 generalize h1.push { cls:=.type "list_iterator",data:=.fields #[.ref ax,.int 0 0] }=h2 at k2 hI ⊢
 (refine IX hnew ?_;rintro oD esD epD eD rD)
 refine o6 ⟨plainId_quiet L8 _,UV (by exact hh) (fun z=>hIn _ (by rw [←z];exact k1 _ _ ho')) (fun z=>hIn _ (by rw [←z];exact(k1 _ _ eD))) (fun z=>(fun b o q=>pX (pi q):∀ b o,s.heap.get? b=some o->b≠s.heap.objs.size) ax _ ho z.symm) hn (by trivial) hz _ 0 _ rfl (pQ _) ⟨_,hI,rfl,rfl⟩ ⟨_,k2 _ _ (k1 _ _ ho'),rfl,n,rfl⟩ ⟨oD,esD,epD,k2 _ _ (k1 _ _ eD),rD⟩ (fun j v k x hv hk=>?_) fun h3 tk3 k3 hD3=>⟨rfl,h h3 tk3 _ (qn (ou _)) (fun b o q=>k3 b o ((fun b o q=>pX (pi q):∀ b o,s.heap.get? b=some o->b≠s.heap.objs.size) b o q) (fun z=>hIn _ (by rw [←z];exact k1 _ _ (pF _ q))) ((fun b o q=>k2 _ _ (k1 _ _ (pF _ q)):∀ b o,s.heap.get? b=some o->h2.get? b=some o) b o q)) hD3⟩⟩
 obtain ⟨t,u,e,n',ht⟩:=hp j v k x (by simpa using hv) hk
 exact⟨t,u,e,n',(fun b o q=>k2 _ _ (k1 _ _ (pF _ q)):∀ b o,s.heap.get? b=some o->h2.get? b=some o) _ _ ht⟩
end
end Mine.Lake
set_option maxHeartbeats 4000000
namespace Mine.Lake
section
variable{C:Al}{hn:Bool}{d:Nat}{ν:Pu}{K:PV->Pu->Prop}
noncomputable def jR(x:(List Nat×List Nat)×Nat×Nat):PV:=.tup [.field x.1.1 x.1.2,.int (x.2.1:Nat),.int (x.2.2:Nat)]
noncomputable abbrev UW(l:List ((List Nat×List Nat)×Nat×Nat)):List PV:=l.map jR
theorem UX(l:List ((List Nat×List Nat)×Nat×Nat))(n r:List Nat)(a b:Nat):UW l ++ [PV.tup [.field n r,.int (a:Int),.int (b:Int)]]=UW (l ++ [((n,r),a,b)]):=by(rewrite [UW];rewrite [UW];refine AA qh ?_);rfl
theorem az(c:Nat):([32,9]:List Int).any (·==(c:Int))=L.sp c:=by
 have e:=fun n=>by
  exact j5 n c
 refine(?_:((32:Int)==c||((9:Int)==c||false))=(c==32||c==9))
 (refine AA (show ((9:Int)==c)=(c==9) from(e 9)) ?_;refine AA (show ((32:Int)==c)=(c==32) from(e 32)) ?_;refine AA (Bool.or_false ..:) ?_;rfl)
theorem jS(h1:L.sp c=true->X)(h2:L.sp c=false->Y):Br (([32,9]:List Int).any (·==(c:Int))) X Y:=by
 (refine AA (az ..:) ?_);exact⟨h1,h2⟩
theorem Wo:(UW l).length=l.length:=pK _
theorem MA(Fx:AX C)(hF:Ly C){l:List Nat}(hz:l.length<=1000000)(q:∀ rs,rs.map (·.1)=(L.Bn l l.length (l.length+3) 0).1->K (.tup [.lst (UW rs),.int (L.Bn l l.length (l.length+3) 0).2]) ν):AK C true (d+3) (AB "read_spans") [.bytes l,.int 0,.int (-1)] ν K:=by
 refine A4 Fx 55 [AB "rows"] 6 (by kernel_rfl) aC (by kernel_rfl) rfl fun G hG=>?_
 generalize hsp:L.Bn l l.length (l.length+3) 0=S at q
 refine Ab ⟨CD rfl,M9 (fun t:T=>⟨[.fr (.bytes l),.fr (.int 0),.fr (.int (-1)),.fr (.int l.length),.ow (UW t.rs),.fr (.int (t.a:Nat)),t.x,t.y,t.z],ν⟩) (fun t=>t.a<=l.length/\l.length+3<=t.f+t.a/\t.rs.length<=t.a/\S=(t.rs.map (·.1) ++ (L.Bn l l.length t.f t.a).1,(L.Bn l l.length t.f t.a).2)) (fun t=>l.length - t.a) { f:=l.length+3 } ⟨pQ _,ou _,ou _,hsp.symm⟩ fun t h J E hJ hr hb hE=>?_⟩
 have hlz:(UW t.rs).length<BE:=by(refine AA Wo ?_);exact pC (om h.2.2.1 (om h.1 hz)) (by decide)
 have he:=h.2.2.2
 obtain ⟨f,hf⟩:∃ f',t.f=f'+1:=⟨t.f - 1,nZ h.2.1 h.1⟩
 (replace he:=(hf)▸he;(rewrite [L.GF] at he))
 have done:∀ b:Nat,S=(t.rs.map (·.1) ++ [],b)->K (.tup [.lst (UW t.rs),.int b]) ν:=fun b e=>by
  have:=q t.rs (by(refine AA e ?_;refine AA (qH ..:) ?_;rfl))
  (replace this:=(e)▸this);exact this
 refine Em (fun hlt=>?_) fun hlt=>?_
 ·(replace he:=(pO hlt)▸he)
  (refine MI (HL (d:=l) h.1) ?_;rintro b1 b2 b3 b4 b5 b6)
  refine⟨hG (HM Fx rfl rfl (ou _) ?_)⟩
  generalize L.AT l t.a l.length=la at he b1 b2 b3 b4 b5 b6 ⊢
  obtain ⟨last,later⟩:=la
  dsimp only at he b1 b2 b3 b4 b5 b6 ⊢
  refine BD (fun hl=>?_) fun hl=>?_
  ·(replace he:=(pO (qY hl))▸he)
   exact⟨CD rfl,hr _ _ (done _ he)⟩
  ·(replace he:=(pH fun e=>hl (congrArg Int.ofNat e))▸he)
   refine⟨hG (Ou Fx rfl rfl b2 (Xm (fun hc=>?_) fun co hc=>?_))⟩
   ·(replace he:=(hc)▸he)
    exact⟨CD rfl,hr _ _ (done _ he)⟩
   ·rw [hc] at he ⊢
    dsimp only at he
    generalize hSI:L.Bl l l.length l.length last later=SI at he
    refine M9 (fun u:T=>⟨[.fr (.bytes l),.fr (.int 0),.fr (.int (-1)),.fr (.int l.length),.ow (UW t.rs),.fr (.int (t.a:Nat)),.fr (.int (u.a:Nat)),.fr (.int (u.b:Nat)),.fr (.int (co:Nat))],ν⟩) (fun u=>t.a<u.b/\u.b<=l.length/\l.length<=u.b+u.f/\SI=L.Bl l l.length u.f u.a u.b) (fun u=>l.length - u.b) { a:=last,b:=later,f:=l.length } ⟨b5 hlt,b3,qW _ _,hSI.symm⟩ fun u g J2 E2 hJ2 hr2 hb2 hE2=>?_
    have g4:=g.2.2.2
    have out:SI=(u.a,u.b)->E2 ⟨[.fr (.bytes l),.fr (.int 0),.fr (.int (-1)),.fr (.int l.length),.ow (UW t.rs),.fr (.int (t.a:Nat)),.fr (.int (u.a:Nat)),.fr (.int (u.b:Nat)),.fr (.int (co:Nat))],ν⟩:=fun e=>by
     rw [e] at he
     refine hE2 _ ⟨?_⟩
     (refine AA (B0 l rfl rfl) ?_;refine AA (Cg ..:) ?_;refine AA (B0 (i:=(co:Int)+1) l rfl rfl) ?_;refine AA (Cg ..:) ?_)
     refine hG (hF _ _ _ _ _ ⟨CD rfl,hlz,?_⟩)
     (refine AA (UX ..:) ?_)
     exact hJ { a:=u.b,f:=f,rs:=t.rs ++ [((L.slice l t.a co,L.slice l (co+1) u.a),t.a,u.b)],x:=.fr (.int (u.a:Nat)),y:=.fr (.int (u.b:Nat)),z:=.fr (.int (co:Nat)) } ⟨g.2.1,om (hf▸h.2.1) (Nat.succ_add_eq_add_succ f t.a▸qo g.1 f),by(refine AA o9 ?_);exact om (qb h.2.2.1) g.1,by(refine AA he ?_;refine AA qh ?_;refine AA (pD ..:) ?_);rfl⟩ (pz hlt g.1)
    refine Em (fun hin=>?_) fun hin=>Av (out ?_)
    ·have hg:=o8 hin
     generalize l[u.b]=c at hg
     obtain ⟨n,hn⟩:∃ n',u.f=n'+1:=⟨u.f - 1,fp g.2.2.1 hin⟩
     (replace g4:=(hn)▸g4;(rewrite [L.B9] at g4);replace g4:=(hg)▸g4;replace g4:=(qe hin)▸g4;rewrite [Bool.true_and] at g4;replace g4:=(show L.LB (some c)=L.sp c from rfl)▸g4)
     refine CR u.b rfl hg (jS (fun hs=>Ab ⟨hG (HM Fx rfl rfl (ou _) ?_)⟩) fun hs=>Av (out ?_))
     ·(replace g4:=(hs)▸g4;rewrite [if_pos rfl] at g4)
      (refine MI (HL (d:=l) g.2.1) ?_;rintro d1 d2 d3 d4 d5 d6)
      exact hJ2 { a:=_,b:=_,f:=n } ⟨pJ g.1 d4,d3,om (hn▸g.2.2.1) (Nat.succ_add_eq_add_succ u.b n▸pg (d5 hin) n),g4⟩ (pz hin (d5 hin))
     ·(replace g4:=(hs)▸g4;rewrite [if_neg Bool.false_ne_true] at g4);exact g4
    ·(refine AA g4 ?_)
     induction u.f with
     | zero=>rfl
     | succ n=>((rewrite [L.B9]);refine AA (qg (Nat.not_lt.mpr hin)) ?_;refine AA (Bool.false_and ..:) ?_);rfl
 ·(replace he:=(pH (Nat.not_lt.mpr hlt))▸he)
  exact hE _ ⟨CD rfl,done _ he⟩
noncomputable abbrev fl(l:List (List Nat×List Nat)):List PV:=l.map fun p=>.field p.1 p.2
theorem KH(Fx:AX C)(hF:Ly C)(hz:l.length<=1000000)(hz2:(L.Bn l l.length (l.length+3) 0).1.length<=1000000)(q:K (.tup [.lst (fl (L.Bn l l.length (l.length+3) 0).1),.int (L.Bn l l.length (l.length+3) 0).2]) ν):AK C true (d+4) (AB "read_fields") [.bytes l] ν K:=by
 refine cQ Fx 56 [] 2 (by kernel_rfl) aD (by kernel_rfl) (by kernel_rfl) (fun _ _ _=>by kernel_rfl) (by kernel_rfl) fun G hG=>?_
 refine⟨hG (MA Fx hF hz fun rs hrs=>?_)⟩
 refine⟨rfl,Bw (fun x:(List Nat×List Nat)×Nat×Nat=>.field x.1.1 x.1.2) rs (by(replace hz2:=Eq.symm (hrs)▸hz2;rewrite [List.length_map] at hz2);exact om hz2 (by decide)) (fun c hc J hJ=>Ab (Dl 0 rfl rfl hJ)) ⟨CD rfl,?_⟩⟩
 (replace q:=Eq.symm (hrs)▸q;rewrite [fl] at q;replace q:=(qV)▸q)
 exact q
end
end Mine.Lake
set_option maxHeartbeats 4000000
namespace Mine.Lake
section
variable{C:Al}{hn:Bool}{d:Nat}{ν:Pu}{K:PV->Pu->Prop}
noncomputable def UY(g:Bool):List Nat:=if g then [48,49,50,51,52,53,54,55,56,57,65,66,67,68,69,70] else [48,49,50,51,52,53,54,55,56,57,97,98,99,100,101,102]
noncomputable def Re(g:Bool)(n:Nat):Nat:=if g then L.FP n else L.FQ n
theorem QO:∀ g n,n<16->(UY g)[n]?=some (Re g n):=by decide +kernel
theorem QP:∀ g n,n<16->Re g n<256:=by decide +kernel
theorem QQ(g:Bool)(b:List Nat)(c:Nat):L.Hp g b c=if L.alnum c then [c] else if c=32 then b else [61,Re g (c / 16),Re g (c % 16)]:=by
 induction g<;>rfl
theorem Jp(g:Bool){b:List Nat}(hb:b.length<=3)(c:Nat):(L.Hp g b c).length<=3:=by
 (refine AA (QQ ..:) ?_)
 split
 ·exact qW 1 2
 ·split
  ·exact hb
  ·exact ou _
theorem Rf(c:Nat):(!([c]:List Nat).isEmpty&&[c].all alnum)=L.alnum c:=(Bool.and_true _)
theorem UZ{c:Nat}(hc:c<256)(q:Q (.bytes [c])):jm true ν .bytes [.lst [.int (c:Int)]] Q:=⟨[c],rfl,rfl,fun n hn=>by(refine AA (pZ.mp hn) ?_);exact hc,q⟩
theorem jT(h1:L.alnum c=true->X)(h2:L.alnum c=false->Y):Br (!([c]:List Nat).isEmpty&&[c].all alnum) X Y:=by
 (refine AA (Rf ..:) ?_);exact⟨h1,h2⟩
theorem Rg(Fx:AX C){o b:List Nat}{g:Bool}(ho:BL o)(hz:o.length<=100000)(hb:b.length<=3)(q:K (.bytes (L.Bo g b o)) ν):AK C true (d+1) (AB "_law_figured") [.bytes o,.bytes (UY g),.bytes b] ν K:=by
 refine A4 Fx 69 [] 2 (by kernel_rfl) aM (by kernel_rfl) rfl fun G hG=>?_
 refine⟨rfl,NA (fun(c:Nat)=>.int (c:Int)) (fun t:T=>⟨[.fr (.bytes o),.fr (.bytes (UY g)),.fr (.bytes b),.fr (.bytes t.l),t.x],ν⟩) (fun t r=>BL r/\t.l.length+3*r.length<=3*o.length/\L.Bo g b o=t.l ++ L.Bo g b r) {} o ⟨ho,by(refine AA (qC ..:) ?_);exact ou _,rfl⟩ (fun t h=>JW q (by have:=h.2.2;(refine AA this ?_);exact congrArg PV.bytes (qH _).symm)) fun t c r h J hJ hr hb2=>?_⟩
 have hc:=h.1 c (.head _)
 have he:=h.2.2
 have hl:=h.2.1
 have fin:J .next ⟨[.fr (.bytes o),.fr (.bytes (UY g)),.fr (.bytes b),.fr (.bytes (t.l ++ L.Hp g b c)),.fr (.int (c:Int))],ν⟩:=
  hJ { l:=t.l ++ L.Hp g b c,x:=.fr (.int (c:Int)) } ⟨fun x hx=>h.1 x (.tail _ hx),by(refine AA o9 ?_);exact oy fun q=>nl (XI o.length t.l.length (List.length (L.Hp g b c)) r.length) ⟨false,(nP (nW (nM 3 Ae)) (nP (nP Ag (nM 3 (nW FM))) BK)),(nP (nP (nP Ag BK) (nM 3 FM)) (nP (nM 3 Ae) (nK 3)))⟩ rfl (nQ q (o7 hl (Jp g hb c))),by(refine AA he ?_;refine AA (pD ..:) ?_;rfl)⟩
 have hz2:(t.l).length+(L.Hp g b c).length<=BE:=om (qo (om (Jp g hb c) (Nat.le_mul_of_pos_right 3 (pW r.length))) _) (om hl (om (pS 3 hz) (by decide)))
 rw [QQ] at fin hz2
 refine⟨CD rfl,UZ (ν:=ν) hc (jT (fun ha=>⟨CD rfl,UZ (ν:=ν) hc ?_⟩) fun ha=>BD (fun h3=>?_) fun h3=>?_)⟩
 ·rw [if_pos ha] at fin hz2
  exact⟨hz2,fin⟩
 ·rw [if_neg (by(refine AA ha ?_);exact Bool.false_ne_true),if_pos (Int.ofNat.inj h3)] at fin hz2
  exact⟨hz2,fin⟩
 ·rw [if_neg (by(refine AA ha ?_);exact Bool.false_ne_true),if_neg fun e=>h3 (congrArg Int.ofNat e)] at fin hz2
  refine⟨by decide,by decide,CR (c / 16) rfl (QO g _ (Nat.div_lt_of_lt_mul hc)) ⟨by decide,CR (c % 16) rfl (QO g _ (Nat.mod_lt _ (by decide))) ⟨CD rfl,[Re g (c / 16),Re g (c % 16)],rfl,rfl,fun n hn=>?_,?_,hz2,fin⟩⟩⟩
  ·cases hn with
   | head=>exact QP g _ (Nat.div_lt_of_lt_mul hc)
   | tail _ hn=>(refine AA (pZ.mp hn) ?_);exact QP g _ (Nat.mod_lt _ (by decide))
  ·exact(show 3<=BE by decide)
theorem Wp{n:Nat}(h:n<256):small (n:Int):=⟨qJ (by decide) (pG n),Int.lt_trans (pI.mpr h) (by decide)⟩
noncomputable def lW:List Nat:=match pvSixty with | .bytes l=>l | _=>[]
theorem Rh:∀ n,n<64->lW[n]?=some (L.Ac n):=by decide +kernel
theorem Ua:∀ n,n<64->L.Ac n<256:=by decide +kernel
theorem Jq:∀ (o:List Nat),L.Bd o=L.Bd (o.take 3) ++ L.Bd (o.drop 3)
 | []=>rfl
 | [a]=>rfl
 | [a,b]=>rfl
 | a::b::c::r=>by rfl
theorem HO:∀ (o:List Nat),(L.Bd o).length<=2*o.length+4
 | []=>pQ _
 | [a]=>qW 4 2
 | [a,b]=>qW 4 4
 | a::b::c::r=>by have:=HO r;(refine AA o9 ?_);exact oy fun q=>nl (IZ r.length (List.length (L.Bd r))) ⟨false,(nP (nW (nP (nM 2 (nP Ae (nK 3))) (nK 4))) Ag),(nP (nP (nK 4) Ag) (nP (nM 2 Ae) (nK 4)))⟩ rfl (nQ q this)
theorem jU:∀ (t:List Nat),0<t.length->t.length<=3->BL t->∃ T:Nat,T<16777216/\(t.zipIdx.map fun p=>((p.1*2 ^ (16 - 8*p.2):Nat):Int)).sum=T/\(∀ p∈t.zipIdx,p.2<=2/\p.1<256)/\L.Bd t=((List.range' 0 (t.length+1)).map fun s=>L.Ac (T / 2 ^ (18 - 6*s) % 64)) ++ rep [61] (3 - (t.length:Nat))
 | [],h,_,_=>(by cases h)
 | [a],_,_,hb=>⟨a*65536,Nat.mul_lt_mul_of_pos_right (hb a (.head _)) (by decide),Int.add_zero _,fun p hp=>by
   (refine AA (pZ.mp hp) ?_);exact⟨pQ _,hb a (.head _)⟩,rfl⟩
 | [a,b],_,_,hb=>⟨a*65536+b*256,j3 (hb a (.head _)) (Nat.mul_lt_mul_of_pos_right (hb b (.tail _ (.head _))) (by decide)),by refine(?_:((a*65536:Nat):Int)+(((b*256:Nat):Int)+0)=_);rfl,fun p hp=>by
   cases hp with
   | head=>exact⟨pQ _,hb a (.head _)⟩
   | tail _ hp=>(refine AA (pZ.mp hp) ?_);exact⟨Nat.le_succ 1,hb b (.tail _ (.head _))⟩,rfl⟩
 | [a,b,c],_,_,hb=>⟨a*65536+b*256+c,(Nat.add_assoc (a*65536) (b*256) c).symm▸j3 (hb a (.head _)) (mK (hb b (.tail _ (.head _))) (hb c (.tail _ (.tail _ (.head _))))),by refine(?_:((a*65536:Nat):Int)+(((b*256:Nat):Int)+(((c*1:Nat):Int)+0))=_);exact congrArg Int.ofNat ((congrArg (fun x=>a*65536+(b*256+x)) (Nat.mul_one c)).trans (Nat.add_assoc ..).symm),fun p hp=>by
   cases hp with
   | head=>exact⟨pQ _,hb a (.head _)⟩
   | tail _ hp=>
    cases hp with
    | head=>exact⟨Nat.le_succ 1,hb b (.tail _ (.head _))⟩
    | tail _ hp=>(refine AA (pZ.mp hp) ?_);exact⟨ou 2,hb c (.tail _ (.tail _ (.head _)))⟩,by((first | rewrite [L.PY] | rewrite [L.PZ] | rewrite [L.Pb] | rewrite [L.Pd]);(first | rewrite [L.PY] | rewrite [L.PZ] | rewrite [L.Pb] | rewrite [L.Pd]);refine AA (qH ..:) ?_);refine(?_:_=[L.Ac ((a*65536+b*256+c) / 262144 % 64),L.Ac ((a*65536+b*256+c) / 4096 % 64),L.Ac ((a*65536+b*256+c) / 64 % 64),L.Ac ((a*65536+b*256+c) / 1 % 64)]);(refine AA (Nat.div_one ..:) ?_;rfl)⟩
 | _::_::_::_::_,_,h,_=>absurd h (by(refine AA qG ?_;refine AA qG ?_;refine AA qG ?_;refine AA qG ?_);exact Nat.not_le_of_lt (qW 4 _))
theorem Wq{j:Int}{b:Nat}(hj:j=b)(hb:b<=1000000)(h:G (((List.range' 0 ((b+2) / 3))).map fun(c:Nat)=>.int ((3*c:Nat):Int))):MZ true .range [.int 0,.int j,.int 3] G:=by
 subst hj
 have e:rangeInts 0 (((b:Int) - 0+3 - 1) / 3).toNat 3=(List.range' 0 ((b+2) / 3)).map fun(c:Nat)=>((3*c:Nat):Int):=by
  (refine AA (show (((b:Int) - 0+3 - 1) / 3).toNat=(b+2) / 3 from rg b 2) ?_)
  delta rangeInts
  apply List.ext_getElem
  ·simp
  ·intro n h1 h2
   simp
   exact Int.mul_comm ..
 refine⟨⟨[0,(b:Int),3],rfl,fun n hn=>?_⟩,.inl ⟨.inr rfl,?_,?_⟩⟩
 ·cases hn with
  | head=>exact Lr (by decide)
  | tail _ hn=>
   cases hn with
   | head=>exact Lr hb
   | tail _ hn=>(refine AA (pZ.mp hn) ?_);exact Lr (by decide)
 ·(refine AA e ?_;refine AA (pK ..:) ?_;refine AA List.length_range' ?_);exact j7 (om (pg hb 2) (by decide)) 3
 ·(refine AA e ?_;refine AA qV ?_);exact h
theorem Wr(t:List Nat):(il t).mapIdx (fun(i:Nat) x=>PV.tup [.int i,x])=t.zipIdx.map fun p=>.tup [.int p.2,.int p.1]:=by
 (refine AA List.mapIdx_eq_zipIdx_map ?_;refine AA List.zipIdx_map ?_;refine AA qV ?_);rfl
theorem Ws(Fx:AX C){o:List Nat}(ho:BL o)(hz:o.length<=100000)(q:K (.bytes (L.Bd o)) ν):AK C true (d+1) (AB "_law_sixes") [.bytes o] ν K:=by
 refine A4 Fx 68 [] 5 (by kernel_rfl) aL (by kernel_rfl) rfl fun G hG=>?_
 refine⟨rfl,Wq rfl (om ‹_› (by decide)) (NB (fun(c:Nat)=>.int ((3*c:Nat):Int)) 0 ((o.length+2) / 3) (fun t:T=>⟨[.fr (.bytes o),.fr (.bytes t.l),t.x,t.y,t.z,t.w],ν⟩) (fun t i=>L.Bd o=t.l ++ L.Bd (o.drop (3*i))) {} rfl (fun t h=>?_) fun u i h h0 hi J hJ hr hb=>?_)⟩
 ·(rewrite [List.drop_eq_nil_of_le mB] at h;replace h:=(show L.Bd []=[] from rfl)▸h;rewrite [List.append_nil] at h)
  exact JW q (congrArg PV.bytes h.symm)
 ·have hlen:=HO o
  (replace hlen:=(h)▸hlen;rewrite [List.length_append] at hlen)
  have htl:0<((o.drop (3*i)).take 3).length/\((o.drop (3*i)).take 3).length<=3:=by(refine AA List.length_take ?_;refine AA qj ?_);exact⟨Nat.lt_min.mpr ⟨by decide,Nat.sub_pos_of_lt (mz hi)⟩,Nat.min_le_left _ _⟩
  have hto:BL ((o.drop (3*i)).take 3):=fun x hx=>ho x (qD (List.mem_of_mem_take hx))
  rw [Jq (o.drop (3*i)),List.drop_drop,show 3*i+3=3*(i+1) by exact rfl] at h
  (replace hlen:=(Jq (o.drop (3*i)))▸hlen;replace hlen:=(o9)▸hlen)
  (refine FY (jU _ htl.1 htl.2 hto) ?_;rintro T hT hs hp hx)
  refine⟨rfl,?_⟩
  (refine AA (show pcut o (some ((3*i:Nat):Int)) (some (((3*i:Nat):Int)+3))=(o.drop (3*i)).take 3 by(refine AA (B0 (j:=((3*i:Nat):Int)+3) o rfl rfl) ?_;refine AA (qX ..:) ?_;rfl)) ?_)
  generalize (o.drop (3*i)).take 3=t at htl hto hs hp hx h hlen ⊢
  have hlz:t.length<=BE:=om htl.2 (by decide)
  refine⟨rfl,⟨?_⟩⟩
  (refine AA (Wr ..:) ?_)
  refine Co.h (Bw (fun p=>.int ((p.1*2 ^ (16 - 8*p.2):Nat):Int)) t.zipIdx (by(refine AA List.length_zipIdx ?_);exact hlz) (fun p hpm J hJ=>Ab ⟨⟨by decide,by decide⟩,Wp (hp p hpm).2,by have:=(hp p hpm).1;lia,by lia,?_⟩) ⟨t.zipIdx.map fun p=>((p.1*2 ^ (16 - 8*p.2):Nat):Int),by(refine AA qV ?_);rfl,rfl,fun n hn=>?_,by(refine AA (pK ..:) ?_;refine AA List.length_zipIdx ?_);exact om htl.2 (by decide),?_⟩)
  ·(refine AA (show (16 - 8*(p.2:Int)).toNat=16 - 8*p.2 by exact Int.toNat_sub _ _) ?_)
   exact Yu hJ (congrArg PV.int (by rfl))
  ·(refine AE (qL.mp hn) ?_;rintro p hpm rfl)
   exact⟨qJ (by decide) (pG _),Int.lt_of_le_of_lt (Int.ofNat_le.mpr (Nat.mul_le_mul (qU (hp p hpm).2) (Nat.pow_le_pow_right (by decide) (Nat.sub_le _ _)))) (by decide)⟩
  ·(refine AA hs ?_)
   refine⟨rfl,FE (b:=t.length+1) (by(refine AA Ce ?_);rfl) (om (qb htl.2) (by decide)) (Bw (fun s=>.int ((L.Ac (T / 2 ^ (18 - 6*s) % 64):Nat):Int)) (List.range' 0 (t.length+1)) (by(refine AA List.length_range' ?_);exact om (qb htl.2) (by decide)) (fun s hsm J hJ=>Ab ?_) ?_)⟩
   ·have hs3:s<=t.length:=by rw [List.mem_range'_1] at hsm;exact Nat.le_of_lt_succ (Nat.lt_of_lt_of_eq hsm.2 (qC _))
    refine⟨⟨by decide,by decide⟩,by lia,CR (T / 2 ^ (18 - 6*s) % 64) ?_ (Rh _ (Nat.mod_lt _ (by decide))) hJ⟩
    (refine AA (show (18 - 6*(s:Int)).toNat=18 - 6*s by exact Int.toNat_sub _ _) ?_;refine AA (NI ..:) ?_)
    exact NH (pG _) 6 (by(rfl)) rfl
   ·(replace hlen:=(hx)▸hlen;replace hlen:=(o9)▸hlen)
    (replace h:=(hx)▸h)
    refine⟨(List.range' 0 (t.length+1)).map fun s=>L.Ac (T / 2 ^ (18 - 6*s) % 64),by(refine AA qV ?_);rfl,rfl,fun x hx=>?_,?_,⟨by decide,?_,?_,?_,?_⟩⟩
    ·(refine AE (qL.mp hx) ?_;rintro s _ rfl)
     exact Ua _ (Nat.mod_lt _ (by decide))
    ·have e2:BE=1048576:=rfl
     have hz3:2*o.length+4<=200004:=om (pg (pS _ hz) _) (by decide)
     exact oy fun q=>nl (bV BE u.l.length ((List.map (fun s=>L.Ac (T / 2 ^ (18 - 6*s) % 64)) (List.range' 0 (t.length+1))).length) ((rep [61] (3 - ↑t.length)).length) (List.length (L.Bd (List.drop 3 (List.drop (3*i) o)))) o.length) ⟨false,(nP (nW Ae) (nP (nK 1048576) (nP (nP Ag (nP (nP BK FM) MK)) (nM 2 VB)))),(nP (nP Ag BK) (nP Ae (nP (nP (nM 2 VB) (nK 4)) (nM 2 (nK 100000)))))⟩ rfl (nQ q (o7 (pL (Eq.symm e2)) (o7 hlen (pS 2 hz))))
    ·(refine AA Ce ?_);lia
    ·(refine AA Ce ?_);(clear hlz hlen h hx hp hs hto htl hT hb hr hJ hi h0 hG q hz ho Fx;lia)
    ·(refine AA Ce ?_;refine AA o9 ?_)
     have e2:BE=1048576:=rfl
     have hz3:2*o.length+4<=200004:=om (pg (pS _ hz) _) (by decide)
     exact oy fun q=>nl (bV BE u.l.length ((List.map (fun s=>L.Ac (T / 2 ^ (18 - 6*s) % 64)) (List.range' 0 (t.length+1))).length) ((rep [61] (3 - ↑t.length)).length) (List.length (L.Bd (List.drop 3 (List.drop (3*i) o)))) o.length) ⟨false,(nP (nW Ae) (nP (nK 1048576) (nP (nP Ag (nP (nP BK FM) MK)) (nM 2 VB)))),(nP (nP (nP Ag BK) FM) (nP Ae (nP (nP (nM 2 VB) (nK 4)) (nM 2 (nK 100000)))))⟩ rfl (nQ q (o7 (pL (Eq.symm e2)) (o7 hlen (pS 2 hz))))
    ·(refine AA Ce ?_)
     exact hJ { l:=u.l ++ ((List.range' 0 (t.length+1)).map fun s=>L.Ac (T / 2 ^ (18 - 6*s) % 64)) ++ rep [61] (3 - (t.length:Nat)),x:=.fr (.int ((3*i:Nat):Int)),y:=.fr (.lst (il t)),z:=.fr (.int (T:Nat)),w:=.fr (.lst ((List.range' 0 (t.length+1)).map fun s=>.int ((L.Ac (T / 2 ^ (18 - 6*s) % 64):Nat):Int))) } (by(refine AA h ?_);(refine AA (pD ..:) ?_;refine AA (pD ..:) ?_;refine AA (pD ..:) ?_;rfl))
end
end Mine.Lake
set_option maxHeartbeats 4000000
namespace Mine.Lake
section
variable{C:Al}{hn:Bool}{d:Nat}{ν:Pu}{K:PV->Pu->Prop}
noncomputable def lX(C:Al):Prop:=∀ (d:Nat) (ν:Pu) (K:PV->Pu->Prop) (l:List Nat),BL l->l.length<=400000->K (.str (L.AS l)) ν->AK C true (d+1) (AB "_law_guessed") [.bytes l] ν K
noncomputable def Wt:Option (List Nat)->PV
 | none=>.none
 | some t=>.str t
noncomputable def CP(p:L.A6):PV:=.tup [.bytes p.1.1,Wt p.1.2]
noncomputable def Xo(x:Nat×Nat×List Nat):PV:=.tup [.int (x.1:Nat),.int (x.2.1:Nat),.str x.2.2]
noncomputable abbrev Dm(l:List (Nat×Nat×List Nat)):List PV:=l.map Xo
theorem PF(l:List (Nat×Nat×List Nat))(a b:Nat)(t:List Nat):Dm l ++ [PV.tup [.int (a:Int),.int (b:Int),.str t]]=Dm (l ++ [(a,b,t)]):=by(rewrite [Dm];rewrite [Dm];refine AA qh ?_);rfl
theorem mm:∀ a b c d e:Bool,(a||(b||(c||(d||e))))=(b||(d||(c||(a||e)))):=by decide
theorem Ri:([32,9,13,10]:List Nat).contains=L.AV:=funext fun c=>by
 (refine AA List.contains_cons ?_;refine AA (mm ..:) ?_;refine AA (Bool.or_false ..:) ?_;rewrite [L.AV];refine AA (Bool.or_assoc ..:) ?_;refine AA (Bool.or_assoc ..:) ?_;rfl)
theorem PG:∀ {l:List Nat},l.dropWhile p=[]↔l.all p=true
 | []=>⟨fun _=>rfl,fun _=>rfl⟩
 | a::l=>by
  (refine AA List.dropWhile_cons ?_;refine AA List.all_cons ?_)
  induction p a with
  | true=>exact PG
  | false=>exact⟨(fun h=>(by injection h)),(fun h=>(fT h))⟩
theorem strip_nil(x:List Nat):decide (BP [32,9,13,10] (Bf [32,9,13,10] x)=[])=x.all L.AV:=by
 delta BP Bf
 (refine AA Ri ?_;refine F7 (Bool.eq_iff_iff:) ?_;rewrite [decide_eq_true_iff];refine F7 (List.reverse_eq_nil_iff:) ?_;refine F7 (PG:) ?_;refine AA List.all_reverse ?_)
 refine⟨fun h=>?_,fun h=>by(refine AA (PG.mpr h) ?_);rfl⟩
 (refine BO (List.takeWhile_append_dropWhile (p:=L.AV) (l:=x)) ?_;refine AA List.all_append ?_;refine AA h ?_;refine AA (Bool.and_true ..:) ?_)
 exact List.all_takeWhile
theorem inW(c k:Nat):(([32,9,13,10] ++ [k]:List Nat).any fun d=>(d:Int)==(c:Int))=(L.AV c||c==k):=by
 have h:=fun n=>by
  exact j5 n c
 refine(?_:((((32:Nat):Int)==(c:Int))||((((9:Nat):Int)==(c:Int))||((((13:Nat):Int)==(c:Int))||((((10:Nat):Int)==(c:Int))||(((k:Int)==(c:Int))||false)))))=(L.AV c||c==k))
 (refine AA (h 32) ?_;refine AA (h 9) ?_;refine AA (h 13) ?_;refine AA (h 10) ?_;refine AA (h k) ?_;refine AA (Bool.or_false ..:) ?_;refine AA (mm ..:) ?_;refine AA (Bool.or_assoc ..:) ?_;refine AA (Bool.or_assoc ..:) ?_;refine AA (Bool.or_assoc ..:) ?_;rfl)
theorem PH(h1:(L.AV c||c==k)=true->X)(h2:(L.AV c||c==k)=false->Y):Br (([32,9,13,10] ++ [k]:List Nat).any fun d=>(d:Int)==(c:Int)) X Y:=by
 (refine AA (inW ..:) ?_);exact⟨h1,h2⟩
theorem jV(e:y=x)(h1:x.all L.AV=false->X)(h2:x.all L.AV=true->Y):Br (!decide (BP [32,9,13,10] (Bf [32,9,13,10] y)=[])) X Y:=by
 (refine AA e ?_;refine AA (strip_nil ..:) ?_);exact⟨fun h=>h1 (Bool.not_eq_true' _▸h),fun h=>h2 (Bool.not_eq_false' _▸h)⟩
theorem GY:∀ (x:List Nat),(L.Fe x).length<=x.length
 | []=>ou _
 | [c]=>ou _
 | a::b::r=>by
  ((rewrite [L.SA]))
  split
  ·exact qb (qP (GY r))
  ·exact qb (GY (b::r))
theorem Bc(x:List Nat):(L.AS x).length<=x.length:=by
 delta L.AS
 split
 ·exact ou _
 ·exact GY x
theorem BM{x y:List Nat}(h1:x.length<=n)(h2:y.length<=m)(h:n+m<=k):(x ++ y).length<=k:=by
 (refine AA o9 ?_);exact om (o7 h1 h2) h
theorem A7{x y:List Nat}(h1:x.length<=n)(h2:y.length<=m)(h:n+m<=BE):x.length+y.length<=BE:=om (o7 h1 h2) h
theorem NW(hL:lX C)(hG:∀ {f:Str} {l:List PV} {ν:Pu} {K:PV->Pu->Prop},AK C true (d+1) f l ν K->G f l ν K){P Gs S4 x4 x6 x12:Slot}{begun b en:Nat}(ho:BL data)(hz:data.length<=34000)(hf:found.length<=150000)(ht:t.length<=10000)(q:Z .next ⟨[P,Gs,.fr (.bytes data),S4,x4,.fr (.str t),x6,.fr (.str ((if beh&&((data.take b).drop begun).all L.AV then found else found ++ L.AS ((data.take b).drop begun)) ++ t)),.fr (.int (en:Nat)),.fr (.bool true),.fr (.int (b:Nat)),.fr (.int (en:Nat)),.fr (.bytes ((data.take b).drop begun))],ν⟩):
  (Bj G true Bg 28).s Oe ⟨[P,Gs,.fr (.bytes data),S4,x4,.fr (.str t),x6,.fr (.str found),.fr (.int (begun:Nat)),.fr (.bool beh),.fr (.int (b:Nat)),.fr (.int (en:Nat)),x12],ν⟩ Z:=by
 have e:pcut data (some ((begun:Nat):Int)) (some ((b:Nat):Int))=(data.take b).drop begun:=by(refine AA (B0 data rfl rfl) ?_;refine AA (Cg ..:) ?_);rfl
 have hwo:BL ((data.take b).drop begun):=fun c hc=>ho c (List.mem_of_mem_take (qD hc))
 have hwl:((data.take b).drop begun).length<=34000:=by(refine AA qj ?_;refine AA List.length_take ?_);exact mO hz
 induction beh with
 | false=>
  refine Ab (Ab ⟨?_⟩)
  (refine AA e ?_)
  exact hG (hL _ _ _ _ hwo (om hwl (by decide)) ⟨A7 hf (om (Bc ((data.take b).drop begun)) hwl) (by decide),A7 (BM hf (om (Bc ((data.take b).drop begun)) hwl) (ou _)) ht (by decide),q⟩)
 | true=>
  refine Av (jV e (fun h=>Ab ⟨?_⟩) fun h=>Av ?_)
  ·(replace q:=(h)▸q;replace q:=(pH Bool.false_ne_true)▸q)
   (refine AA e ?_)
   exact hG (hL _ _ _ _ hwo (om hwl (by decide)) ⟨A7 hf (om (Bc ((data.take b).drop begun)) hwl) (by decide),A7 (BM hf (om (Bc ((data.take b).drop begun)) hwl) (ou _)) ht (by decide),q⟩)
  ·(replace q:=(h)▸q;replace q:=(pO rfl)▸q)
   refine⟨A7 hf ht (by decide),?_⟩
   (refine AA e ?_)
   exact q
structure GZ(g0:List Nat)(ps:List L.A6):Prop where
 n:ps.length<=3
 o0:BL g0
 z0:g0.length<=1000
 ok:∀ p∈ps,BL p.1.1/\BL p.2/\p.1.1.length<=10000/\p.2.length<=1000/\∀ t,p.1.2=some t->t.length<=10000
theorem FK(h1:BL x)(h2:BL y):BL (x ++ y):=fun c hc=>(pV.mp hc).elim (h1 c) (h2 c)
theorem NX(Fx:AX C)(hL:lX C){ps:List L.A6}(hp:GZ g0 ps)(q:K (.tup [.bytes (L.AL g0 ps).1,.str (L.AL g0 ps).2]) ν):AK C true (d+2) (AB "_law_joined") [.lst (ps.map CP),.lst (.bytes g0::ps.map fun p:L.A6=>PV.bytes p.2)] ν K:=by
 have hpn:=hp.n
 have hz0:=hp.z0
 refine A4 Fx 72 [AB "spots"] 11 (by kernel_rfl) ac (by kernel_rfl) rfl fun G hG=>?_
 refine H0 0 rfl rfl ⟨CD rfl,rfl,⟨?_⟩⟩
 have hzip:List.zipWith (fun x y=>PV.tup [x,y]) (ps.map CP) (pcut (PV.bytes g0::ps.map fun p=>PV.bytes p.2) (some 1) none)=ps.map fun p=>PV.tup [CP p,.bytes p.2]:=by
  (refine AA (FI (i:=1) _ rfl) ?_;refine AA List.drop_one ?_;refine AA List.tail_cons ?_;refine AA List.zipWith_map ?_;refine AA List.zipWith_self ?_;rfl)
 (refine AA hzip ?_)
 clear hzip
 generalize Slot.fr (PV.lst (ps.map CP))=P
 generalize Slot.fr (PV.lst (PV.bytes g0::ps.map fun p:L.A6=>PV.bytes p.2))=Gs
 refine Fo.h (NA (fun p:L.A6=>PV.tup [CP p,.bytes p.2]) (fun t:List (Nat×Nat×List Nat)×T=>⟨[P,Gs,.fr (.bytes t.2.l),.ow (Dm t.1),t.2.x,t.2.y,t.2.z,.un,.un,.un,.un,.un,.un],ν⟩) (fun t r=>(∀ p∈r,p∈ps)/\t.1.length+r.length<=3/\BL t.2.l/\t.2.l.length+11000*r.length<=34000/\L.ED t.2.l t.1 r=L.ED g0 [] ps/\(∀ x∈t.1,x.1<=t.2.l.length/\x.2.1<=t.2.l.length/\x.2.2.length<=10000)) ([],{ l:=g0 }) ps ⟨fun _ h=>h,by(refine AA List.length_nil ?_;refine AA (qC ..:) ?_);exact hpn,hp.o0,(by refine(?_:g0.length+_<=_);lia),rfl,fun _ h=>(by cases h)⟩ (fun t h=>?_) fun t x r h J hJ hr hb=>?_)
 ·obtain ⟨sp,t⟩:=t
  (refine MI h ?_;clear h;rintro _ hn ho hz hbd hs)
  have hjo:L.AL g0 ps=(t.l,L.Bp t.l sp [] 0 false):=by delta L.AL;(refine BO hbd ?_);rfl
  (replace q:=(hjo)▸q)
  dsimp only at q hn ho hz hs ⊢
  (replace hz:=(List.length_nil)▸hz;rewrite [Nat.mul_zero] at hz;rewrite [Nat.add_zero] at hz)
  generalize hLL:L.Bp t.l sp [] 0 false=LL at q
  clear hbd hjo
  refine⟨rfl,NA Xo (fun u:T=>⟨[P,Gs,.fr (.bytes t.l),.fr (.lst (Dm sp)),t.x,u.y,t.z,.fr (.str u.l),.fr (.int (u.a:Nat)),.fr (.bool u.p),u.x,u.z,u.w],ν⟩) (fun u r=>r.length<=3/\(∀ x∈r,x.1<=t.l.length/\x.2.1<=t.l.length/\x.2.2.length<=10000)/\u.l.length+45000*r.length<=135000/\L.Bp t.l r u.l u.a u.p=LL) { y:=t.y } sp ⟨by(replace hn:=(List.length_nil)▸hn);exact hn,hs,(by(replace hn:=(List.length_nil)▸hn);refine(?_:0+_<=_);lia),hLL⟩ (fun u h=>?_) fun u x r h J hJ hr hb=>?_⟩
  ·have he:=h.2.2.2
   have hll:=Bc (t.l.drop u.a)
   rw [List.length_drop] at hll
   (rewrite [L.Qg] at he)
   refine⟨?_⟩
   (refine AA (FI t.l rfl) ?_)
   refine hG (hL _ _ _ _ (fun c hc=>ho c (qD hc)) (by(refine AA qj ?_);exact su (om hz (by decide))) ⟨A7 h.2.2.1 (om hll (su hz)) (by decide),CD rfl,?_⟩)
   (refine AA he ?_)
   exact q
  ·obtain ⟨b,e,tx⟩:=x
   (refine QX h ?_;clear h;rintro hrl hs2 hfl he)
   (refine Bq (hs2 _ (.head _)) ?_;rintro hb1 hb2 hb3)
   rw [List.length_cons] at hrl hfl
   dsimp only at hb1 hb2 hb3
   (rewrite [L.Qh] at he)
   have fl:L.CX t.l b e=false->J .next ⟨[P,Gs,.fr (.bytes t.l),.fr (.lst (Dm sp)),t.x,.fr (.str tx),t.z,.fr (.str u.l),.fr (.int (u.a:Nat)),.fr (.bool u.p),.fr (.int (b:Nat)),.fr (.int (e:Nat)),u.w],ν⟩:=fun h=>by
    (replace he:=(h)▸he;replace he:=(pH Bool.false_ne_true)▸he)
    exact hJ { u with y:=.fr (.str tx),x:=.fr (.int (b:Nat)),z:=.fr (.int (e:Nat)) } ⟨Nat.le_of_succ_le hrl,fun x hx=>hs2 x (.tail _ hx),by refine(?_:u.l.length+_<=_);exact oy fun q=>nl (IZ u.l.length r.length) ⟨false,(nP (nW (nK 135000)) (nP Ae (nM 45000 (nW Ag)))),(nP (nP Ae (nM 45000 Ag)) (nK 135000))⟩ rfl (nQ q hfl),he⟩
   have hsp:L.CX t.l b e=((b==0||(match t.l[b - 1]? with | some p=>L.AV p||p==40 | none=>false))&&(e==t.l.length||(match t.l[e]? with | some p=>L.AV p||p==41 | none=>false))):=rfl
   have aE:b=0->(b==0||(match t.l[b - 1]? with | some p=>L.AV p||p==40 | none=>false))=true:=fun h=>by(refine AA h ?_);rfl
   have bE:e=t.l.length->(e==t.l.length||(match t.l[e]? with | some p=>L.AV p||p==41 | none=>false))=true:=fun h=>by(refine AA h ?_;rewrite [beq_self_eq_true]);rfl
   obtain ⟨ca,hca⟩:∃ c,c=t.l[b - 1]?.getD 0:=⟨_,rfl⟩
   obtain ⟨cb,hcb⟩:∃ c,c=t.l[e]?.getD 0:=⟨_,rfl⟩
   have aN:¬b=0->ca<256/\t.l[b - 1]?=some ca/\(b==0||(match t.l[b - 1]? with | some p=>L.AV p||p==40 | none=>false))=(L.AV ca||ca==40):=fun h=>by
    have h1:=o8 (pJ (Nat.sub_one_lt h) hb1)
    (replace hca:=(h1)▸hca;rewrite [Option.getD_some] at hca)
    exact⟨hca▸ho _ (List.getElem_mem _),hca▸h1,by(refine AA h1 ?_;refine AA (qT.mpr h) ?_;refine AA hca ?_;rfl)⟩
   have bN:¬e=t.l.length->cb<256/\t.l[e]?=some cb/\(e==t.l.length||(match t.l[e]? with | some p=>L.AV p||p==41 | none=>false))=(L.AV cb||cb==41):=fun h=>by
    have h1:=o8 (Nat.lt_of_le_of_ne hb2 h)
    (replace hcb:=(h1)▸hcb;rewrite [Option.getD_some] at hcb)
    exact⟨hcb▸ho _ (List.getElem_mem _),hcb▸h1,by(refine AA h1 ?_;refine AA (qT.mpr h) ?_;refine AA hcb ?_;rfl)⟩
   generalize (b==0||(match t.l[b - 1]? with | some p=>L.AV p||p==40 | none=>false))=A at hsp aE aN
   generalize (e==t.l.length||(match t.l[e]? with | some p=>L.AV p||p==41 | none=>false))=B at hsp bE bN
   have tr:A=true->B=true->(Bj G true Bg 28).s Oe ⟨[P,Gs,.fr (.bytes t.l),.fr (.lst (Dm sp)),t.x,.fr (.str tx),t.z,.fr (.str u.l),.fr (.int (u.a:Nat)),.fr (.bool u.p),.fr (.int (b:Nat)),.fr (.int (e:Nat)),u.w],ν⟩ J:=fun ha hb=>by
    (replace he:=(hsp)▸he;replace he:=(ha)▸he;replace he:=(hb)▸he;replace he:=(pO (show (true&&true)=true from rfl))▸he)
    refine NW hL hG ho hz (om (pB _ _) (om hfl (by decide))) hb3 ?_
    have hgl:((if u.p&&((t.l.take b).drop u.a).all L.AV then u.l else u.l ++ L.AS ((t.l.take b).drop u.a)) ++ tx).length<=u.l.length+44000:=by
     have h1:=Bc ((t.l.take b).drop u.a)
     have h2:((t.l.take b).drop u.a).length<=34000:=by(refine AA qj ?_;refine AA List.length_take ?_);exact mO hz
     (refine AA o9 ?_)
     split
     ·exact oy fun q=>nl (IZ u.l.length tx.length) ⟨false,(nP (nW (nP Ae (nK 44000))) Ag),(nP (nP Ae Ag) (nK 10000))⟩ rfl (nQ q hb3)
     ·(refine AA o9 ?_);exact oy fun q=>nl (XI u.l.length (List.length (L.AS (List.drop u.a (List.take b t.l)))) tx.length ((List.drop u.a (List.take b t.l)).length)) ⟨false,(nP (nW (nP Ae (nK 44000))) (nP FM (nP Ag BK))),(nP (nP (nP Ae Ag) BK) (nP (nK 34000) (nP FM (nK 10000))))⟩ rfl (nQ q (o7 h2 (o7 h1 hb3)))
    generalize ((if u.p&&((t.l.take b).drop u.a).all L.AV then u.l else u.l ++ L.AS ((t.l.take b).drop u.a)) ++ tx)=F at he hgl ⊢
    exact hJ { l:=F,a:=e,p:=true,y:=.fr (.str tx),x:=.fr (.int (b:Nat)),z:=.fr (.int (e:Nat)),w:=.fr (.bytes ((t.l.take b).drop u.a)) } ⟨Nat.le_of_succ_le hrl,fun x hx=>hs2 x (.tail _ hx),oy fun q=>nl (FO F.length r.length u.l.length) ⟨false,(nP (nW (nK 135000)) (nP Ae (nP BK (nM 45000 (nW Ag))))),(nP (nP Ae (nM 45000 Ag)) (nP (nP BK (nK 44000)) (nK 135000)))⟩ rfl (nQ q (o7 hgl hfl)),he⟩
   refine BD (fun h'=>Ab (BD (fun h=>Ab (Ab (tr (aE (qY h')) (bE (qY h))))) fun h=>have hN:=bN fun q=>h (congrArg Int.ofNat q);CR e rfl hN.2.1 ⟨by decide,pG _,pI.mpr hN.1,PH (fun w=>Ab (Ab (tr (aE (qY h')) (hN.2.2.trans w)))) fun w=>Av (Av (fl (by(refine AA hsp ?_;refine AA hN.2.2 ?_;refine AA w ?_;refine AA (Bool.and_false ..:) ?_;rfl))))⟩)) fun h'=>have hM:=aN fun q=>h' (congrArg Int.ofNat q);CR (b - 1) ((Int.natCast_sub (Nat.pos_of_ne_zero fun q=>h' (congrArg Int.ofNat q))).symm) hM.2.1 ⟨by decide,pG _,pI.mpr hM.1,PH (fun w'=>Ab (BD (fun h=>Ab (Ab (tr (hM.2.2.trans w') (bE (qY h))))) fun h=>have hN:=bN fun q=>h (congrArg Int.ofNat q);CR e rfl hN.2.1 ⟨by decide,pG _,pI.mpr hN.1,PH (fun w=>Ab (Ab (tr (hM.2.2.trans w') (hN.2.2.trans w)))) fun w=>Av (Av (fl (by(refine AA hsp ?_;refine AA hN.2.2 ?_;refine AA w ?_;refine AA (Bool.and_false ..:) ?_;rfl))))⟩)) fun w'=>Av (Av (fl (by(refine AA hsp ?_;refine AA hM.2.2 ?_;refine AA w' ?_;rfl))))⟩
 ·obtain ⟨⟨o,tt⟩,g⟩:=x
  (refine Ho (hp.ok _ (h.1 _ (.head _))) ?_;rintro h1 h2 h3 h4 h5)
  obtain ⟨sp,t⟩:=t
  (refine MI h ?_;clear h;rintro hm hn ho hz hbd hs)
  rw [List.length_cons] at hn hz
  dsimp only at h1 h2 h3 h4 h5 hn ho hz hs hbd
  have ho2:=FK (FK ho h1) h2
  have z1:=A7 (n:=34000) (oy fun q=>nl (IZ t.l.length r.length) ⟨false,(nP (nW (nK 34000)) (nP Ae (nM 11000 (nW Ag)))),(nP Ae (nK 34000))⟩ rfl (nQ q hz)) h3 (by decide)
  have z2:=A7 (n:=44000) (by rw [List.length_append];exact oy fun q=>nl (FO t.l.length (List.length o) r.length) ⟨false,(nP (nW (nK 44000)) (nP (nP Ae (nM 11000 (nW BK))) Ag)),(nP (nP Ae Ag) (nP (nK 34000) (nK 10000)))⟩ rfl (nQ q (o7 hz h3))) h4 (by decide)
  have z3:(t.l ++ o ++ g).length=t.l.length+o.length+g.length:=by rw [List.length_append,List.length_append]
  cases tt with
  | none=>
   have hbd:=hbd
   exact Av ⟨z1,z2,hJ (sp,{ l:=t.l ++ o ++ g,x:=.fr (.bytes o),y:=.fr .none,z:=.fr (.bytes g) }) ⟨fun p hp=>hm p (.tail _ hp),Nat.le_of_succ_le hn,ho2,(by rw [z3];exact oy fun q=>nl (XI t.l.length (List.length o) (List.length g) r.length) ⟨false,(nP (nW (nK 34000)) (nP (nP Ae (nM 11000 (nW FM))) (nP BK Ag))),(nP (nP (nP (nP Ae Ag) BK) (nM 11000 FM)) (nP (nK 34000) (nP (nK 1000) (nK 10000))))⟩ rfl (nQ q (o7 hz (o7 h4 h3)))),hbd,fun x hx=>by have:=hs x hx;rw [z3];exact⟨om this.1 (om (pB _ _) (pB _ _)),om this.2.1 (om (pB _ _) (pB _ _)),this.2.2⟩⟩⟩
  | some tx=>
   have hsz:(Dm sp).length<BE:=by rw [List.length_map];exact pC (om (pB _ _) hn) (by decide)
   refine Ab ⟨CD rfl,hsz,z1,z2,?_⟩
   refine(show J .next ⟨[P,Gs,.fr (.bytes (t.l ++ o ++ g)),.ow (Dm sp ++ [PV.tup [.int (t.l.length:Nat),.int ((t.l.length+o.length:Nat):Int),.str tx]]),.fr (.bytes o),.fr (.str tx),.fr (.bytes g),.un,.un,.un,.un,.un,.un],ν⟩ from ?_)
   rw [PF]
   refine hJ (sp ++ [(t.l.length,t.l.length+o.length,tx)],{ l:=t.l ++ o ++ g,x:=.fr (.bytes o),y:=.fr (.str tx),z:=.fr (.bytes g) }) ⟨fun p hp=>hm p (.tail _ hp),(by rw [List.length_append];exact oy fun q=>nl (IZ sp.length r.length) ⟨false,(nP (nW (nK 3)) (nP Ae (nW Ag))),(nP (nP (nW Ae) Ag) (nK 3))⟩ rfl (nQ q hn)),ho2,(by rw [z3];(clear hsz hbd hm h5 z3 z2 z1 ho2 hs ho hn h2 h1 hb hr hJ hG hz0 hpn q hp hL Fx;lia)),hbd,fun x hx=>?_⟩
   rw [z3]
   rcases pV.mp hx with hx | hx
   ·have:=hs x hx;exact⟨om this.1 (om (pB _ _) (pB _ _)),om this.2.1 (om (pB _ _) (pB _ _)),this.2.2⟩
   ·rw [List.mem_singleton.mp hx];exact⟨om (pB _ _) (pB _ _),pB _ _,h5 tx rfl⟩
end
end Mine.Lake
set_option maxHeartbeats 4000000
namespace Mine.Lake
section
variable{C:Al}{hn:Bool}{d:Nat}{ν:Pu}{K:PV->Pu->Prop}
inductive NY(ν:Pu)(p:Addr)(k:Int):Prop where
 | mk (c:Addr) (ns:List Int) (t:Int) (e:ν=some (p,c,ns,t)) (l:ns.length<=40) (n:∀ n∈ns,0<=n) (z:0<=t) (u:t<=k):NY ν p k
theorem NY.mono{ν:Pu}{p:Addr}(h:NY ν p k)(hk:k<=k'):NY ν p k':=by
 obtain ⟨c,ns,t,h1,h2,h3,h4,h5⟩:=h
 exact⟨c,ns,t,h1,h2,h3,h4,Int.le_trans h5 hk⟩
noncomputable def Ub(C:Al):Prop:=∀ (d:Nat) (ν:Pu) (K:PV->Pu->Prop) (p:Addr) (k m:Int),NY ν p k->k<=1000->0<m->m<=64->(∀ (x:Nat) (ν':Pu),(x:Int)<m->NY ν' p (k+1)->K (.int (x:Int)) ν')->AK C true (d+1) (AB "_law_coin") [.addr p,.int m] ν K
noncomputable def En(s:List Nat×List Nat):PV:=.tup [.str s.1,.bytes s.2]
theorem Uc{name tag load:List Nat}{way strange:Nat}{great:Bool}{sg:List (List Nat×List Nat)}(hn:name.length<=20)(hnc:∀ c∈name,c<128)(ht:tag.length<=3)(hl:load.length<=1100)(hs:sg.length<=84)(hs1:(sg.flatMap (·.1)).length<=1000)(ho:BL (L.EP (L.FS strange great name) tag (L.Fi strange way) load))(q:K (.tup [.bytes (L.EP (L.FS strange great name) tag (L.Fi strange way) load),Wt (if strange<2 then none else some (sg.flatMap (·.1)))]) ν):
  cS true Bg (Bj G true Bg 29) [Lj,Lk,JZ] ⟨[x0,x1,x2,.fr (.str name),.fr (.bool great),.fr (.str [way]),.fr (.str tag),.fr (.int (strange:Nat)),.fr (.lst (sg.map En)),x9,x10,.fr (.bytes load),x12],ν⟩ (FN K):=by
 have H3:∀ nm w,nm.length<=20->L.FS strange great name=nm->L.Fi strange way=w->cS true Bg (Bj G true Bg 29) [JZ] ⟨[x0,x1,x2,.fr (.str nm),.fr (.bool great),.fr (.str [way]),.fr (.str tag),.fr (.int (strange:Nat)),.fr (.lst (sg.map En)),x9,x10,.fr (.bytes load),.fr (.str ([61,63] ++ nm ++ tag ++ [63] ++ [w] ++ [63]))],ν⟩ (FN K):=fun nm w hz e1 e2=>by
  rw [e1,e2] at q ho
  have hW:([61,63] ++ nm ++ tag ++ [63] ++ [w] ++ [63]) ++ load ++ [63,61]=L.EP nm tag w load:=by
   (rewrite [L.EP]);simp only [List.append_assoc,List.cons_append,List.nil_append]
  rw [←hW] at q ho
  have hz2:([61,63] ++ nm ++ tag ++ [63] ++ [w] ++ [63]).length=nm.length+tag.length+5:=by simp only [List.length_append,List.length_cons,List.length_nil];exact Nat.le_antisymm (oy fun q=>nl (IZ (List.length nm) tag.length) ⟨false,(nW (nP (nP Ae Ag) (nK 5))),(nP (nP (nP (nP (nP (nW (nW (nK 0))) Ae) Ag) (nW (nK 0))) (nW (nK 0))) (nW (nK 0)))⟩ rfl (qO q)) (oy fun q=>nl (IZ (List.length nm) tag.length) ⟨false,(nW (nP (nP (nP (nP (nP (nW (nW (nK 0))) Ae) Ag) (nW (nK 0))) (nW (nK 0))) (nW (nK 0)))),(nP (nP Ae Ag) (nK 5))⟩ rfl (qO q))
  generalize ([61,63] ++ nm ++ tag ++ [63] ++ [w] ++ [63])=head at q ho hz2 ⊢
  refine⟨rfl,Bw (fun c:Nat=>.int (c:Int)) head (om (oy fun q=>nl (FO head.length (List.length nm) tag.length) ⟨false,(nP (nW (nK 28)) (nP Ae (nP Ag BK))),(nP Ae (nP (nP (nP Ag BK) (nK 5)) (nP (nK 20) (nK 3))))⟩ rfl (nQ q (o7 (pL hz2) (o7 hz ht))):head.length<=28) (by decide)) (fun c hc J hJ=>Ab hJ) ⟨head,rfl,rfl,fun c hc=>ho c (pV.mpr (.inl (pV.mpr (.inl hc)))),A7 (oy fun q=>nl (FO head.length (List.length nm) tag.length) ⟨false,(nP (nW (nK 28)) (nP Ae (nP Ag BK))),(nP Ae (nP (nP (nP Ag BK) (nK 5)) (nP (nK 20) (nK 3))))⟩ rfl (nQ q (o7 (pL hz2) (o7 hz ht))):head.length<=28) hl (by decide),A7 (BM (oy fun q=>nl (FO head.length (List.length nm) tag.length) ⟨false,(nP (nW (nK 28)) (nP Ae (nP Ag BK))),(nP Ae (nP (nP (nP Ag BK) (nK 5)) (nP (nK 20) (nK 3))))⟩ rfl (nQ q (o7 (pL hz2) (o7 hz ht))):head.length<=28) hl (ou _)) (ou 2) (by decide),Em (fun h=>⟨CD rfl,?_⟩) fun h=>⟨rfl,Bw (fun s:List Nat×List Nat=>.str s.1) sg (om hs (by decide)) (fun s _ J hJ=>Ab (Dl 0 rfl rfl hJ)) ⟨rfl,sg.map (·.1),by(refine AA qV ?_);rfl,?_,CD rfl,?_⟩⟩⟩⟩
  ·(replace q:=(pO h)▸q);exact q
  ·exact om hs1 (by decide)
  ·(replace q:=(pH (Nat.not_lt.mpr h))▸q);exact q
 have Z2:∀ nm:List Nat,nm.length<=20->([61,63] ++ nm ++ tag).length<=25:=fun _ h=>BM ((fun _ h=>BM (ou 2) h (ou _):∀ nm:List Nat,nm.length<=20->([61,63] ++ nm).length<=22) _ h) ht (ou _)
 have Z3:∀ nm:List Nat,nm.length<=20->([61,63] ++ nm ++ tag ++ [63]).length<=26:=fun _ h=>BM (Z2 _ h) (ou 1) (ou _)
 refine BD (fun h0=>?_) fun h0=>?_
 ·have hk:L.koi.length<=20:=by decide
  exact⟨A7 (ou 2) (hk) (by decide),A7 ((fun _ h=>BM (ou 2) h (ou _):∀ nm:List Nat,nm.length<=20->([61,63] ++ nm).length<=22) L.koi (hk)) ht (by decide),A7 (Z2 L.koi (hk)) (ou 1) (by decide),BD (fun h=>⟨A7 (Z3 L.koi (hk)) (ou 1) (by decide),A7 (BM (Z3 L.koi (hk)) (ou 1) (ou _)) (ou 1) (by decide),H3 L.koi 88 (hk) (pO (qY h0)) (pO (qY h))⟩) fun h=>⟨A7 (Z3 L.koi (hk)) (ou 1) (by decide),A7 (BM (Z3 L.koi (hk)) (ou 1) (ou _)) (ou 1) (by decide),H3 L.koi way (hk) (pO (qY h0)) (pH fun e=>h (congrArg Int.ofNat e))⟩⟩
 ·cases great with
  | true=>
   have hk:(name.map MH).length<=20:=by(refine AA (pK ..:) ?_);exact hn
   exact Ab ⟨om hn (by decide),hnc,⟨A7 (ou 2) (hk) (by decide),A7 ((fun _ h=>BM (ou 2) h (ou _):∀ nm:List Nat,nm.length<=20->([61,63] ++ nm).length<=22) (name.map MH) (hk)) ht (by decide),A7 (Z2 (name.map MH) (hk)) (ou 1) (by decide),BD (fun h=>⟨A7 (Z3 (name.map MH) (hk)) (ou 1) (by decide),A7 (BM (Z3 (name.map MH) (hk)) (ou 1) (ou _)) (ou 1) (by decide),H3 (name.map MH) 88 (hk) (pH (fun e=>h0 (congrArg Int.ofNat e))) (pO (qY h))⟩) fun h=>⟨A7 (Z3 (name.map MH) (hk)) (ou 1) (by decide),A7 (BM (Z3 (name.map MH) (hk)) (ou 1) (ou _)) (ou 1) (by decide),H3 (name.map MH) way (hk) (pH (fun e=>h0 (congrArg Int.ofNat e))) (pH fun e=>h (congrArg Int.ofNat e))⟩⟩⟩
  | false=>exact Av ⟨A7 (ou 2) (hn) (by decide),A7 ((fun _ h=>BM (ou 2) h (ou _):∀ nm:List Nat,nm.length<=20->([61,63] ++ nm).length<=22) name (hn)) ht (by decide),A7 (Z2 name (hn)) (ou 1) (by decide),BD (fun h=>⟨A7 (Z3 name (hn)) (ou 1) (by decide),A7 (BM (Z3 name (hn)) (ou 1) (ou _)) (ou 1) (by decide),H3 name 88 (hn) (pH (fun e=>h0 (congrArg Int.ofNat e))) (pO (qY h))⟩) fun h=>⟨A7 (Z3 name (hn)) (ou 1) (by decide),A7 (BM (Z3 name (hn)) (ou 1) (ou _)) (ou 1) (by decide),H3 name way (hn) (pH (fun e=>h0 (congrArg Int.ofNat e))) (pH fun e=>h (congrArg Int.ofNat e))⟩⟩
theorem cut(h:∀ R:St->Prop,(∀ σ',cS hn sp S r σ' Z->R σ')->b9 hn sp S c σ (VT R Z)):cS hn sp S (c::r) σ Z:=h _ fun _ h=>h
theorem NZ(E:St->Prop)(h1:∀ Z':KS,(∀ σ',E σ'->Z' .next σ')->S.t t σ (YB S b o Z'))(h2:∀ σ',E σ'->cS hn sp S r σ' Z):cS hn sp S (.ite t b o::r) σ Z:=h1 _ h2
theorem Wu(h:w∈([81,113,66,98]:List Nat)):PySem.Txt.contains (toS [81,113]) (toS [w])=decide (w=81∨w=113):=by
 simp only [List.mem_cons,List.not_mem_nil,or_false] at h
 rcases h with rfl | rfl | rfl | rfl<;>decide +kernel
theorem Wv(h:w∈([81,113,66,98]:List Nat))(h2:¬(w=81∨w=113)):w=66∨w=98:=by
 simp only [List.mem_cons,List.not_mem_nil,or_false] at h
 lia
theorem Hn{b:List Nat}(hb:b.length<=3):∀ (o:List Nat),(L.Bo g b o).length<=3*o.length
 | []=>ou _
 | c::o=>by
  (refine AA (L.C3 ..:) ?_;refine AA o9 ?_;refine AA qG ?_);exact oy fun q=>nl (FO o.length (List.length (L.Hp g b c)) (List.length (L.Bo g b o))) ⟨false,(nP (nW (nM 3 (nW Ae))) (nP BK Ag)),(nP (nP Ag BK) (nP (nM 3 Ae) (nK 3)))⟩ rfl (nQ q (o7 (Hn hb o) (Jp g hb c)))
noncomputable def jW:List PV:=[PV.bytes [48,49,50,51,52,53,54,55,56,57,65,66,67,68,69,70],PV.bytes [48,49,50,51,52,53,54,55,56,57,97,98,99,100,101,102]]
theorem Ww:∀ x,x<2->∃ g:Bool,jW[x]?=some (.bytes (UY g))
 | 0,_=>⟨true,rfl⟩
 | 1,_=>⟨false,rfl⟩
theorem Rj:∀ x,x<2->∃ b:List Nat,([PV.bytes [95],PV.bytes [61,50,48]]:List PV)[x]?=some (.bytes b)/\L.Dz b/\b.length<=3
 | 0,_=>⟨[95],rfl,.inl rfl,by decide⟩
 | 1,_=>⟨[61,50,48],rfl,.inr rfl,by decide⟩
noncomputable def Ud(way:Nat)(oct load:List Nat):Prop:=((way=81∨way=113)/\∃ g b,L.Dz b/\load=L.Bo g b oct)∨((way=66∨way=98)/\load=L.Bd oct)
theorem Ue(Fx:AX C)(hCo:Ub C)(hν:NY ν p k)(hk:k<=990)(hG:∀ {f:Str} {l:List PV} {ν:Pu} {K:PV->Pu->Prop},AK C true (d+1) f l ν K->G f l ν K){x1 x2 x10 x11 x12:Slot}{name tag oct:List Nat}{sg:List (List Nat×List Nat)}(hw:way∈([81,113,66,98]:List Nat))(ho:BL oct)(hz:oct.length<=336)(q:∀ load x10 ν',Ud way oct load->load.length<=1100->NY ν' p (k+2)->cS true Bg (Bj G true Bg 29) [Lj,Lk,JZ] ⟨[.fr (.addr p),x1,x2,.fr (.str name),.fr (.bool great),.fr (.str [way]),.fr (.str tag),.fr (.int (strange:Nat)),.fr (.lst (sg.map En)),.fr (.bytes oct),x10,.fr (.bytes load),x12],ν'⟩ (FN K)):
  cS true Bg (Bj G true Bg 29) [Tz,Lj,Lk,JZ] ⟨[.fr (.addr p),x1,x2,.fr (.str name),.fr (.bool great),.fr (.str [way]),.fr (.str tag),.fr (.int (strange:Nat)),.fr (.lst (sg.map En)),.fr (.bytes oct),x10,x11,x12],ν⟩ (FN K):=by
 refine NZ (fun σ=>∃ load x10 ν',Ud way oct load/\load.length<=1100/\NY ν' p (k+2)/\σ=⟨[.fr (.addr p),x1,x2,.fr (.str name),.fr (.bool great),.fr (.str [way]),.fr (.str tag),.fr (.int (strange:Nat)),.fr (.lst (sg.map En)),.fr (.bytes oct),x10,.fr (.bytes load),x12],ν'⟩) (fun Z hZ=>?_) fun σ zq=>(by refine FZ zq ?_;rintro load x10 ν' h1 h2 h3 e;exact e▸q load x10 ν' h1 h2 h3)
 refine(show Br (PySem.Txt.contains (toS [81,113]) (toS [way])) _ _ from ?_)
 (refine AA (Wu hw) ?_)
 refine BD (fun h=>⟨CD rfl,⟨?_⟩⟩) fun h=>⟨?_⟩
 ·refine hG (hCo _ _ _ p _ 2 hν (Int.le_trans hk (by decide)) (by decide) (by decide) fun x ν1 hx hν1=>?_)
  (refine AI (Ww x (pI.mp hx)) ?_;rintro g hg)
  refine Dl x rfl hg ⟨CD rfl,⟨hG (hCo _ _ _ p _ 2 hν1 (Int.lt_of_le_of_lt hk (by decide)) (by decide) (by decide) fun y ν2 hy hν2=>?_)⟩⟩
  (refine Cp (Rj y (pI.mp hy)) ?_;rintro b hb1 hb2 hb3)
  have hfl:=Hn (g:=g) hb3 oct
  exact Dl y rfl hb1 ⟨hG (Rg Fx ho (om hz (by decide)) hb3 (hZ _ ⟨_,_,_,.inl ⟨h,g,b,hb2,rfl⟩,oy fun q=>nl (IZ (List.length (L.Bo g b oct)) oct.length) ⟨false,(nP (nW (nK 1100)) (nP Ae (nM 3 Ag))),(nP Ae (nP (nM 3 Ag) (nM 3 (nK 336))))⟩ rfl (nQ q (o7 hfl (pS 3 hz))),hν2.mono (by(clear hfl hb3 hb2 hb1 hν2 hy hg hν1 hx h hZ q hz ho hw hG hk hν hCo Fx;lia)),rfl⟩))⟩
 ·exact hG (Ws Fx ho (om hz (by decide)) (hZ _ ⟨_,_,_,.inr ⟨Wv hw h,rfl⟩,oy fun q=>nl (IZ (List.length (L.Bd oct)) oct.length) ⟨false,(nP (nW (nK 1100)) (nP Ae (nM 2 Ag))),(nP Ae (nP (nP (nM 2 Ag) (nK 4)) (nM 2 (nK 336))))⟩ rfl (nQ q (o7 (HO oct) (pS 2 hz))),hν.mono (by lia),rfl⟩))
end
end Mine.Lake
set_option maxHeartbeats 4000000
namespace Mine.Lake
section
variable{C:Al}{hn:Bool}{d:Nat}{ν:Pu}{K:PV->Pu->Prop}
noncomputable def Uf:List PV:=match pv_law_sets with | .tup l=>l | _=>[]
structure jX(x:Nat)(set:List (List Nat)×List (List Nat×List Nat))(nm:List Nat):Prop where
 g:L.Qa[x]?=some set
 v:Uf[x]?=some (.tup [.str nm,.tup (set.2.map En)])
 s:Fj nm [32]=set.1
 n2:set.2.length=8
 n1:set.1.length=4
 z:nm.length<=BE
 nms:∀ n∈set.1,n.length<=20/\∀ c∈n,c<128
 sgs:∀ s∈set.2,(∀ c∈s.2,c<256)/\s.2.length<=4/\s.1.length<=4
theorem Rk:∀ x,x<3->∃ set nm,jX x set nm
 | 0,_=>⟨_,_,rfl,rfl,by decide +kernel,rfl,rfl,by decide,by decide +kernel,by decide +kernel⟩
 | 1,_=>⟨_,_,rfl,rfl,by decide +kernel,rfl,rfl,by decide,by decide +kernel,by decide +kernel⟩
 | 2,_=>⟨_,_,rfl,rfl,by decide +kernel,rfl,rfl,by decide,by decide +kernel,by decide +kernel⟩
theorem bA{x:Nat}{K:PV->Prop}(h:Uf[x]?=some c)(q:K c):It ν pv_law_sets (.int (x:Int)) K:=Dl (l:=Uf) x rfl h q
theorem lY{i:Int}{K:PV->Prop}(k:Nat)(hi:i=k)(h:l[k]?=some c)(q:K (.str [c])):It ν (.str l) (.int i) K:=⟨Fz hi h q⟩
theorem Rl:∀ x,x<4->∃ w,([81,113,66,98]:List Nat)[x]?=some w/\w∈([81,113,66,98]:List Nat):=fun x hx=>⟨_,o8 hx,List.getElem_mem _⟩
theorem Rm:∀ x,x<3->∃ t,([.str [],.str [42,101,110],.str [42]]:List PV)[x]?=some (.str t)/\t∈L.X1/\t.length<=3
 | 0,_=>⟨[],rfl,by decide,by decide⟩
 | 1,_=>⟨[42,101,110],rfl,by decide,by decide⟩
 | 2,_=>⟨[42],rfl,by decide,by decide⟩
theorem jY{step:PV->Pu->(Bool->PV->Pu->Prop)->Prop}(n:Nat)(I:Nat->List PV->Pu->Prop)(h0:I 0 [] ν)(h:∀ i ys ν,i<n->I i ys ν->ys.length<BE/\∀ J:Bool->PV->Pu->Prop,(∀ y ν',I (i+1) (ys ++ [y]) ν'->J true y ν')->step (g i) ν J)(hZ:∀ ys ν,I n ys ν->Z ys ν):Co step ((List.range' 0 n).map g) ν Z:=by
 have key:∀ (j i:Nat) (ys:List PV) (ν:Pu),i+j=n->I i ys ν->HX step Z ((List.range' i j).map g) ys ν:=by
  intro j
  induction j with
  | zero=>exact fun i ys ν e hi=>hZ ys ν (e▸hi)
  | succ j ih=>
   intro i ys ν e hi
   have h1:=h i ys ν (pq fun q=>nl (FO n i j) ⟨false,(nP Ae (nP Ag (nW BK))),(nP Ag Ae)⟩ rfl (o7 q (pL e))) hi
   exact(h1.2 _ fun y ν' hi'=>⟨h1.1,ih (i+1) _ _ (Nat.le_antisymm (oy fun q=>nl (FO n i j) ⟨false,(nP (nW Ae) (nP Ag (nW BK))),(nP (nP (nW Ag) BK) Ae)⟩ rfl (nQ q (pL e))) (oy fun q=>nl (FO i j n) ⟨false,(nP (nW (nP (nW Ae) Ag)) BK),(nP BK (nP Ae (nW Ag)))⟩ rfl (nQ q (pL (Eq.symm e))))) hi'⟩)
 exact⟨key n 0 [] ν (qC n) h0⟩
theorem PI{f:List Nat×List Nat->List Nat}:∀ {l:List (List Nat×List Nat)},(∀ s∈l,(f s).length<=n)->(l.flatMap f).length<=n*l.length:=by
 intro rx
 induction rx with
 | nil=>
  exact fun _=>pQ _
 | cons a l ih=>
  exact fun h=>by
   (refine AA o9 ?_;refine AA (Nat.mul_add ..:) ?_;refine AA (Nat.mul_one ..:) ?_;refine AA (Nat.add_comm ..:) ?_)
   exact o7 (ih fun s hs=>h s (.tail _ hs)) (h a (.head _))
theorem Wx(n:Int)(l:List (List Nat×List Nat)):rep (l.map En) n=(rep l n).map En:=by(refine AA List.map_flatten ?_;refine AA List.map_replicate ?_;rfl)
theorem Ug(n:Int)(l:List (List Nat×List Nat)):rep (l.flatMap (·.2)) n=(rep l n).flatMap (·.2):=by
 delta rep
 induction n.toNat with
 | zero=>rfl
 | succ n ih=>(refine AA List.flatten_cons ?_;refine AA List.flatMap_append ?_;refine AA ih ?_;rfl)
theorem Wy{l:List (List Nat×List Nat)}(h:s∈rep l n):s∈l:=by
 (refine AE (List.mem_flatten.mp h) ?_;rintro m hm hs)
 exact List.eq_of_mem_replicate hm▸hs
theorem bB{l:List (List Nat×List Nat)}(h:n<=28)(hl:l.length<=3):(rep l n).length<=84:=by
 (refine AA List.length_flatten ?_;refine AA List.map_replicate ?_;refine AA List.sum_replicate_nat ?_)
 exact om (Nat.mul_le_mul (show n.toNat<=28 by lia) hl) (by decide)
theorem lZ{code:List CS}(h:cS hn sp (Bj G hn sp n) code σ Z):(Bj G hn sp (n+1)).s code σ Z:=h
theorem PJ(Fx:AX C)(hCo:Ub C)(hν:NY ν p k)(hk:k<=900)(q:∀ w t ν',L.Word w t->BL w->w.length<=10000->(∀ s,t=some s->s.length<=1000)->NY ν' p (k+20)->K (.tup [.bytes w,Wt t]) ν'):AK C true (d+2) (AB "_law_word") [.addr p] ν K:=by
 refine A4 Fx 70 [] 12 (by kernel_rfl) aS (by kernel_rfl) rfl fun G hG=>?_
 refine lZ (cut fun R hR=>?_)
 refine⟨hG (hCo _ _ _ p k 3 hν (Int.le_trans hk (by decide)) (by decide) (by decide) fun x1 ν1 hx1 hν1=>?_)⟩
 (refine Bm (Rk x1 (pI.mp hx1)) ?_;rintro set nm S)
 refine bA S.v (hR _ (cut fun R hR=>⟨S.z,⟨hG (hCo _ _ _ p _ 4 hν1 (Int.lt_of_le_of_lt hk (by decide)) (by decide) (by decide) fun x2 ν2 hx2 hν2=>?_)⟩⟩))
 have hx2':x2<set.1.length:=by(refine AA S.n1 ?_);exact pI.mp hx2
 have h2:=o8 hx2'
 have hnm:=List.getElem_mem hx2'
 generalize set.1[x2]=name at h2 hnm
 refine H0 x2 rfl (by(refine AA (qB) ?_;refine AA S.s ?_;refine AA h2 ?_);rfl) ⟨hG (hCo _ _ _ p _ 2 hν2 (by(clear hnm h2 hx2' hν2 hx2 hR S hν1 hx1 hG q hν hCo Fx;lia)) (by decide) (by decide) fun x3 ν3 hx3 hν3=>hR _ (cut fun R hR=>⟨hG (hCo _ _ _ p _ 4 hν3 (by(clear hR hν3 hx3 hnm h2 hx2' hν2 hx2 S hν1 hx1 hG q hν hCo Fx;lia)) (by decide) (by decide) fun x4 ν4 hx4 hν4=>?_)⟩))⟩
 (refine AE (Rl x4 (pI.mp hx4)) ?_;rintro way w1 w2)
 refine lY x4 rfl w1 ⟨CD rfl,⟨hG (hCo _ _ _ p _ 3 hν4 (by(clear w2 w1 hν4 hx4 hR hν3 hx3 hnm h2 hx2' hν2 hx2 S hν1 hx1 hG q hν hCo Fx;lia)) (by decide) (by decide) fun x5 ν5 hx5 hν5=>?_)⟩⟩
 (refine Cp (Rm x5 (pI.mp hx5)) ?_;rintro tag t1 t2 t3)
 refine Dl x5 rfl t1 ⟨hG (hCo _ _ _ p _ 6 hν5 (by(clear t3 t2 t1 hν5 hx5 w2 w1 hν4 hx4 hR hν3 hx3 hnm h2 hx2' hν2 hx2 S hν1 hx1 hG q hν hCo Fx;lia)) (by decide) (by decide) fun strange ν6 hx6 hν6=>hR _ (cut fun R hR=>⟨rfl,⟨hG (hCo _ _ _ p _ 4 hν6 (by(clear hR hν6 hx6 t3 t2 t1 hν5 hx5 w2 w1 hν4 hx4 hν3 hx3 hnm h2 hx2' hν2 hx2 S hν1 hx1 hG q hν hCo Fx;lia)) (by decide) (by decide) fun x7 ν7 hx7 hν7=>?_)⟩⟩))⟩
 have hx7':=pI.mp hx7
 refine FE rfl (by lia) (jY x7 (fun i ys ν=>∃ sg:List (List Nat×List Nat),ys=sg.map En/\(∀ s∈sg,s∈set.2)/\sg.length=i/\NY ν p (k+7+(i:Nat))) ⟨[],rfl,(fun _ h=>(by cases h)),rfl,hν7.mono (by(clear hx7' hν7 hx7 hR hν6 hx6 t3 t2 t1 hν5 hx5 w2 w1 hν4 hx4 hν3 hx3 hnm h2 hx2' hν2 hx2 S hν1 hx1 hG q hk hν hCo Fx;lia))⟩ (fun i ys ν hi hx=>FY hx fun sg e hm hl hν=>⟨?_,fun J hJ=>?_⟩) fun ys ν hx=>FY hx fun sg e hm hl hν=>?_)
 ·(refine AA e ?_;refine AA (pK ..:) ?_;refine AA hl ?_);exact Nat.lt_trans (Nat.lt_trans hi hx7') (by decide)
 ·refine Ab ⟨hG (hCo _ _ _ p _ 8 hν (by lia) (by decide) (by decide) fun x9 ν9 hx9 hν9=>?_)⟩
  have hx9':x9<set.2.length:=by(refine AA S.n2 ?_);exact pI.mp hx9
  have h9:=o8 hx9'
  have hm9:=List.getElem_mem hx9'
  generalize set.2[x9]=s at h9 hm9
  refine Dl x9 rfl (by(refine AA (qB) ?_;refine AA h9 ?_);rfl) (hJ _ _ ⟨sg ++ [s],by(refine AA e ?_;refine AA qh ?_);rfl,fun z hz=>?_,by(refine AA o9 ?_;refine AA hl ?_);rfl,hν9.mono (by lia)⟩)
  exact(pV.mp hz).elim (hm z) fun h=>pZ.mp h▸hm9
 ·subst e
  have hol:=PI fun s hs=>(S.sgs s (hm s hs)).2.1
  have hl3:sg.length<=3:=by lia
  refine hR _ (cut fun R hR=>⟨rfl,Bw (fun s:List Nat×List Nat=>.bytes s.2) sg (om hl3 (by decide)) (fun s _ J hJ=>Ab (Dl 1 rfl rfl hJ)) ⟨rfl,sg.map (·.2),by(refine AA qV ?_);rfl,?_,hR _ ?_⟩⟩)
  ·exact om hol (om (pS 4 hl3) (by decide))
  (refine BO List.flatMap_def ?_)
  generalize hoc:sg.flatMap (·.2)=oct at hol ⊢
  refine NZ (fun σ=>∃ sg' oct' ν',oct'=sg'.flatMap (·.2)/\(∀ s∈sg',s∈set.2)/\sg'.length<=84/\NY ν' p (k+11)/\σ=⟨[.fr (.addr p),.fr (.str nm),.fr (.tup (set.2.map En)),.fr (.str name),.fr (.bool (decide ((x3:Int)=1))),.fr (.str [way]),.fr (.str tag),.fr (.int (strange:Nat)),.fr (.lst (sg'.map En)),.fr (.bytes oct'),.un,.un,.un],ν'⟩) (fun Z hZ=>⟨hG (hCo _ _ _ p _ 6 hν (by lia) (by decide) (by decide) fun x10 ν10 hx10 hν10=>BD (fun _=>?_) fun _=>hZ _ ⟨sg,oct,ν10,hoc.symm,hm,om hl3 (by decide),hν10.mono (by lia),rfl⟩)⟩) ?_
  ·have hM:0<(if (1:Int)<(oct.length:Int) then(oct.length:Int) else 1)/\(if (1:Int)<(oct.length:Int) then(oct.length:Int) else 1)<1073741824:=by
    split
    ·rename_i g;exact⟨Int.lt_trans (by decide) g,pI.mpr (pC hol (pC (pS 4 hl3) (by decide)))⟩
    ·exact⟨by decide,by decide⟩
   refine⟨rfl,hM.1,hM.2,?_⟩
   refine⟨by(refine AA (pK ..:) ?_);exact om hl3 (by decide),(Int.ediv_nonneg (by decide) (Int.le_of_lt hM.1)),Int.le_trans (Int.ediv_le_self _ (by decide)) (by decide),rfl,hM.1,hM.2,by lia,(Int.ediv_nonneg (by decide) (Int.le_of_lt hM.1)),Int.le_trans (Int.ediv_le_self _ (by decide)) (by decide),?_⟩
   exact hZ _ ⟨rep sg (28 / (if (1:Int)<(oct.length:Int) then(oct.length:Int) else 1)),rep oct (28 / (if (1:Int)<(oct.length:Int) then(oct.length:Int) else 1)),ν10,(by(refine BO (Ug ..:) ?_;refine AA hoc ?_;rfl)),fun s hs=>hm s (Wy hs),bB (Int.ediv_le_self _ (by decide)) hl3,hν10.mono (by lia),(by(refine BO (Wx ..:) ?_);rfl)⟩
  ·intro σ hx;(refine jx hx ?_;rintro sg' oct' ν' ho' hm' hl' hν' e)
   subst e
   have ho2:=PI fun s hs=>(S.sgs s (hm' s hs)).2.1
   have ho1:=PI (f:=(·.1)) fun s hs=>(S.sgs s (hm' s hs)).2.2
   (replace ho2:=Eq.symm (ho')▸ho2)
   refine Ue Fx hCo hν' (by lia) hG w2 (fun c hc=>?_) (oy fun q=>nl (IZ oct'.length sg'.length) ⟨false,(nP (nW (nK 336)) (nP Ae (nM 4 Ag))),(nP Ae (nP (nM 4 Ag) (nM 4 (nK 84))))⟩ rfl (nQ q (o7 ho2 (pS 4 hl')))) fun load x10' ν12 hld hll hν12=>?_
   ·rw [ho'] at hc
    (refine AE (List.mem_flatMap.mp hc) ?_;rintro s hs hc)
    exact(S.sgs s (hm' s hs)).1 c hc
   (replace hld:=(ho')▸hld)
   have hword:=L.Word.mk x1 set name tag (decide ((x3:Int)=1)) way strange sg' load (pI.mp hx1) S.g hnm t2 w2 hm' hld
   have hrange:=(L.CV hword).range
   have hn:=S.nms name hnm
   refine Uc hn.1 hn.2 t3 hll hl' (oy fun q=>nl (IZ ((List.flatMap (fun x=>x.fst) sg').length) sg'.length) ⟨false,(nP (nW (nK 1000)) (nP Ae (nM 4 Ag))),(nP Ae (nP (nM 4 Ag) (nM 4 (nK 84))))⟩ rfl (nQ q (o7 ho1 (pS 4 hl')))) (fun c hc=>pC (hrange c hc).2 (by decide)) (q _ _ ν12 hword (fun c hc=>pC (hrange c hc).2 (by decide)) ?_ (fun s hs=>?_) (hν12.mono (by(clear hn hrange hword hν12 hll hld ho1 ho2 hν' hl' hm' ho' hol hoc hR hl3 hν hl hm hx7' hν7 hx7 hν6 hx6 t3 t2 t1 hν5 hx5 w2 w1 hν4 hx4 hν3 hx3 hnm h2 hx2' hν2 hx2 S hν1 hx1 hG q hk hCo Fx;lia))))
   ·have:(L.FS strange (decide ((x3:Int)=1)) name).length<=20:=by
     delta L.FS
     split
     ·decide
     ·split
      ·(refine AA (pK ..:) ?_);exact hn.1
      ·exact hn.1
    (rewrite [L.EP])
    simp only [List.length_append,List.length_cons,List.length_nil];lia
   ·split at hs
    ·exact nS hs
    ·(refine sI hs ?_;clear hs;intro zz;induction zz);lia
end
section
variable{C:Al}{hn:Bool}{d:Nat}{ν:Pu}{K:PV->Pu->Prop}
theorem Uh(h:p≠c->AK C hn d f l (some (p,c,ns,t)) K):AK C hn d f l (some (p,c,ns,t)) K:=
 fun A fr X s vs E a h1 h2 h2' h3 h4 h5 h6 h6' h7 h8 h9 h10 h11=>h h7.2.2.1 A fr X s vs E a h1 h2 h2' h3 h4 h5 h6 h6' h7 h8 h9 h10 h11
noncomputable def Jr(G:Qj)(k:Nat)(σ:St)(Q:KS):Prop:=match k with
 | 1=>WI (Bj G true Bg 29) (.bin .Add (.lo 3) (.kv (.int 1))) (.lo 0) (.kv (.int 1)) σ Q
 | 2=>WI (Bj G true Bg 29) (.bin .FloorDiv (.itl 2 (.lo 4)) (.lo 1)) (.lo 2) (.lo 4) σ Q
 | _=>False
noncomputable def C1(i:Nat):Stmt:=(A8 (AP 67)).getD i Nj
theorem Wz(Fx:AX C):∀ st∈A8 (AP 67),Lf C true d gv (Ej [] A3 (AP 67)) (Jr (AK C true d)) st:=by
 refine OZ [1,5] (by kernel_rfl) (fun st h=>Li h) fun i hi=>?_
 have key:∀ i k cv co ci,A3 (C1 i)=some k->C1 i=.Assign [.Subscript (Cv (DU (C1 i)) 0) (Cv (DU (C1 i)) 1) (DU (C1 i)).pos] (BB (C1 i)) (C1 i).pos->Fn (BB (C1 i))=false->(Bb 29).1 (Ej [] A3 (AP 67)) (BB (C1 i))=some cv->(Bb 29).1 (Ej [] A3 (AP 67)) (Cv (DU (C1 i)) 0)=some co->(Bb 29).1 (Ej [] A3 (AP 67)) (Cv (DU (C1 i)) 1)=some ci->
   (∀ σ Q,Jr (AK C true d) k σ Q->WI (Bj (AK C true d) true Bg 29) cv co ci σ Q)->Lf C true d gv (Ej [] A3 (AP 67)) (Jr (AK C true d)) (C1 i):=fun i k cv co ci e1 e2 e4 e5 e6 e7 q=>IO e1 fun cx F g σ Q h=>by
  (refine AA e2 ?_)
  exact Yv (G8 Fx.ok 29) F g e4 e5 e6 e7 (q _ _ h)
 simp only [List.mem_cons,List.not_mem_nil,or_false] at hi
 rcases hi with rfl | rfl
 ·exact key 1 1 _ _ _ (by kernel_rfl) (by kernel_rfl) (by kernel_rfl) (by kernel_rfl) (by kernel_rfl) (by kernel_rfl) fun σ Q h=>h
 ·exact key 5 2 _ _ _ (by kernel_rfl) (by kernel_rfl) (by kernel_rfl) (by kernel_rfl) (by kernel_rfl) (by kernel_rfl) fun σ Q h=>h
theorem QR(h0:0<=r)(hm:r<m)(q:∀ x:Nat,(x:Int)<m->K (.int (x:Int)) ν):K (.int r) ν:=by
 have:=q r.toNat (by(refine AA (Int.toNat_of_nonneg h0) ?_);exact hm)
 (replace this:=((Int.toNat_of_nonneg h0))▸this);exact this
theorem F5(Fx:AX C):Ub C:=by
 intro d ν K p k m hν hk hm0 hm1 q
 obtain ⟨c,ns,t,rfl,hn1,hn2,ht0,htk⟩:=hν
 refine Uh fun hpc=>QF Fx Jr 67 [] 4 (by kernel_rfl) aK (by kernel_rfl) rfl (Wz Fx) fun G hG=>?_
 have hlim:ns.length<=BE:=om hn1 (by decide)
 have hmm:∀ x:Int,0<=x % m/\x % m<m:=fun x=>⟨Int.emod_nonneg x (Int.ne_of_gt hm0),Int.emod_lt_of_pos x hm0⟩
 refine⟨Or.inl ⟨rfl,Or.inl ⟨rfl,⟨Or.inl ⟨rfl,Or.inr ⟨rfl,?_⟩⟩⟩⟩⟩⟩
 refine .turn rfl rfl rfl ⟨rfl,hlim,rfl,?_⟩
 obtain ⟨y,hy,hy0,hyl⟩:∃ y:Int,(if (1:Int)<(ns.length:Nat) then((ns.length:Nat):Int) else 1)=y/\0<y/\(0<ns.length->y<=ns.length):=⟨_,rfl,by split<;>(first | exact pG _ | lia),fun h=>by split<;>(first | exact Int.le_refl _ | exact Int.ofNat_le.mpr h | lia)⟩
 (refine AA hy ?_)
 refine⟨hy0,?_⟩
 obtain ⟨j,hj⟩:∃ j:Nat,t % y=j:=⟨(t % y).toNat,(Int.toNat_of_nonneg (Int.emod_nonneg t (Int.ne_of_gt hy0))).symm⟩
 (refine AA hj ?_)
 have hjl:=fun h=>pI.mp (qJ (hj▸Int.emod_lt_of_pos t hy0) (hyl h))
 clear hy hyl hj hy0
 have ret:∀ R:St->Prop,(Bj G true Bg 29).s Xd ⟨[.fr (.addr p),.fr (.int m),.fr (.addr c),.fr (.int t),.fr (.int j),.un],some (p,c,ns,t+1)⟩ (VT R (FN K)):=fun R=>
  ⟨⟨qJ (by decide) ht0,by lia⟩,by decide,by decide,rfl,hlim,hm0,(fun r h0 h1=>QR h0 h1 fun x hx=>q x _ hx ⟨c,ns,t+1,rfl,hn1,hn2,Int.le_add_one ht0,Int.add_le_add_right htk 1⟩) _ (hmm _).1 (hmm _).2⟩
 have rest:0<ns.length->cS true (Jr G) (Bj G true Bg 29) [Xe,Xf,Xg] ⟨[.fr (.addr p),.fr (.int m),.fr (.addr c),.fr (.int t),.fr (.int j),.un],some (p,c,ns,t+1)⟩ (FN K):=fun h0=>by
  have hj:=hjl h0
  have hn:=o8 hj
  have hn0:=hn2 _ (List.getElem_mem hj)
  generalize ns[j]=n at hn hn0
  refine⟨.inr ⟨fun e=>hpc e.symm,rfl,hlim,Fz rfl hn ⟨hm0,⟨.inr ⟨fun e=>hpc e.symm,rfl,hlim,Fz rfl hn ⟨hm0,Int.lt_of_le_of_lt hm1 (by decide),.cell rfl rfl rfl hj hlim ((fun r j i h0 h1 h2=>QR h0 h1 fun x hx=>q x _ hx ⟨c,ns.set j i,t+1,rfl,by(refine AA List.length_set ?_);exact hn1,fun n hn=>(List.mem_or_eq_of_mem_set hn).elim (hn2 n) fun e=>e▸h2,Int.le_add_one ht0,Int.add_le_add_right htk 1⟩:∀ (r:Int) (j:Nat) (i:Int),0<=r->r<m->0<=i->K (.int r) (some (p,c,ns.set j i,t+1))) _ _ _ (hmm n).1 (hmm n).2 (Int.ediv_nonneg hn0 (Int.le_of_lt hm0)))⟩⟩⟩⟩⟩⟩
 refine⟨CD rfl,rfl,?_⟩
 cases ns with
 | nil=>exact Ab (Ab (ret _))
 | cons n r=>
  refine Av ⟨rfl,hlim,BD (fun hge=>?_) fun hge=>Av (Av (Cu (rest (pW _))))⟩
  refine⟨.inr ⟨fun e=>hpc e.symm,rfl,hlim,Fz rfl (o8 (hjl (pW _))) (BD (fun _=>Ab (Ab (ret _))) fun _=>Av (Av (Cu (rest (pW _)))))⟩⟩
end
end Mine.Lake
set_option maxHeartbeats 4000000
namespace Mine.Lake
section
open Builtin Builtin.Str StrLaws
noncomputable def EJ:Nat->List Nat->List Nat
 | i,a::b::r=>if a=195/\b=169 then i::EJ (i+2) r else EJ (i+1) (b::r)
 | _,[_]=>[]
 | _,[]=>[]
theorem PK:EJ  i (a::b::r)=(if a=195/\b=169 then i::EJ (i+2) r else EJ (i+1) (b::r)):=rfl
theorem ld:EJ  u1 [u2]=([]):=rfl
theorem lf:EJ  u1 []=([]):=rfl
theorem Rn(h:¬∃ r,a::d=195::169::r):EJ i (a::d)=EJ (i+1) d:=by
 induction d with
 | nil=>rfl
 | cons b r=>((rewrite [PK]);refine AA (pH fun q=>h ⟨r,by(refine AA q.1 ?_;refine AA q.2 ?_;rfl)⟩) ?_;rfl)
theorem Xq(l:List Nat)(i:Nat):subAt (toS l) (toS [195,169]) i=true↔∃ r,l.drop i=195::169::r:=by
 (refine AA (subAt_eq ..:) ?_;rewrite [beq_iff_eq])
 match l.drop i with
 | []=>exact⟨(fun h=>(by injection h)),fun zq=>(by(refine AI zq ?_;rintro _ h);exact(by injection h))⟩
 | [_]=>exact⟨(fun h=>(by(injection h with z1 z2;cases z2))),fun zq=>(by(refine AI zq ?_;rintro _ h);exact(by(injection h with z1 z2;cases z2)))⟩
 | a::b::r=>exact⟨fun h=>by(injection h with z1 z2;subst z1;cases z2);exact⟨r,rfl⟩,fun zq=>(by(refine AI zq ?_;clear zq;rintro r h);exact by(injection h with z1 z2;subst z1;cases z2);rfl)⟩
theorem W0(l:List Nat):∀ (k i:Nat) (F:Array Nat) (fr:Nat),i+k=l.length+1->F.size<=i->
  (fr<=i->(forIn (List.range' i k) (F,fr) (occBody (toS l) (toS [195,169]) (toS l).length ((toS l).length+1))).run.fst.toList=F.toList ++ EJ i (l.drop i))/\
  (fr=i+1->(forIn (List.range' i k) (F,fr) (occBody (toS l) (toS [195,169]) (toS l).length ((toS l).length+1))).run.fst.toList=F.toList ++ EJ (i+1) (l.drop (i+1))):=by
 intro k
 induction k with
 | zero=>
  intro i F fr hi _
  exact⟨fun _=>by(refine AA (pU (by exact oy fun q=>nl (IZ i l.length) ⟨false,(nP (nW Ae) (nW Ag)),(nP Ag (nP Ae (nK 0)))⟩ rfl (nQ q (pL (Eq.symm hi))))) ?_);exact(qH _).symm,fun _=>by(refine AA (pU (by exact oy fun q=>nl (IZ i l.length) ⟨false,(nP (nW (nW Ae)) (nW Ag)),(nP Ag (nP Ae (nK 0)))⟩ rfl (nQ q (pL (Eq.symm hi))))) ?_);exact(qH _).symm⟩
 | succ k ih=>
  intro i F fr hi hF
  (refine AA List.range'_succ ?_;rewrite [List.forIn_cons])
  delta occBody
  constructor
  ·intro hfr
   by_cases hat:∃ r,l.drop i=195::169::r
   ·have hs:=(Xq l i).mpr hat
    (refine AI hat ?_;rintro r hr)
    have hlen:i+2<=l.length:=by
     have:=congrArg List.length hr
     (replace this:=(qj)▸this;replace this:=(qG)▸this);exact mH this
    have hr2:l.drop (i+2)=r:=by(refine BO qA ?_;refine AA hr ?_);rfl
    (refine AA (pO ⟨⟨⟨(by(exact pq fun q=>nl (XI l.length F.size i k) ⟨false,(nP (nW Ae) (nP Ag (nP BK (nW FM)))),(nP Ag (nP BK (nW Ae)))⟩ rfl (o7 q (o7 hF (pL hi))))),hfr⟩,hlen⟩,hs⟩) ?_)
    have:=(ih (i+1) (F.push i) (i+2) (Nat.le_antisymm (oy fun q=>nl (FO l.length i k) ⟨false,(nP (nW (nW Ae)) (nP Ag (nW BK))),(nP (nP (nW Ag) BK) (nW Ae))⟩ rfl (nQ q (pL hi))) (oy fun q=>nl (FO i k l.length) ⟨false,(nP (nW (nP (nW Ae) Ag)) (nW BK)),(nP (nW BK) (nP Ae (nW Ag)))⟩ rfl (nQ q (pL (Eq.symm hi))))) (by(refine AA (Array.size_push ..:) ?_);exact Nat.lt_succ_of_le hF)).2 rfl
    refine this.trans ?_
    (refine AA Array.toList_push ?_;refine AA (pD ..:) ?_;refine AA hr ?_;(rewrite [PK]);refine AA (pO ⟨rfl,rfl⟩) ?_)
    refine(?_:F.toList ++ ([i] ++ EJ (i+2) (l.drop (i+2)))=_)
    (refine AA hr2 ?_);rfl
   ·(refine AA (pH fun q=>hat ((Xq l i).mp q.2)) ?_)
    refine((ih (i+1) F fr (by lia) (qP hF)).1 (qP hfr)).trans (congrArg (F.toList ++ ·) ?_)
    cases hd:l.drop i with
    | nil=>(refine AA (show l.drop (i+1)=[] by(refine BO qA ?_;refine AA hd ?_);rfl) ?_);rfl
    | cons a d=>(refine AA (show l.drop (i+1)=d by(refine BO qA ?_;refine AA hd ?_);rfl) ?_;refine AA (Rn (hd▸hat)) ?_;rfl)
  ·intro hfr
   (refine AA (pH fun q=>by have:=q.1.1.2;(replace this:=(hfr)▸this);exact Nat.not_succ_le_self _ this) ?_)
   exact(ih (i+1) F fr (by lia) (qP hF)).1 (pL hfr)
theorem bC(l:List Nat):occurrences (toS l) (toS [195,169]) 0 (toS l).length ((toS l).length+1)=EJ 0 l:=by
 (refine AA (occ_eq ..:) ?_)
 exact(W0 l _ 0 #[] 0 (by exact Nat.add_comm _ _) (ou _)).1 (ou _)
theorem Ui(z p:PySem.Str){r:List PySem.Str}(h:r≠[]):(Str.join z (p::r)).cps.toList=p.cps.toList ++ (z.cps.toList ++ (Str.join z r).cps.toList):=by
 cases r with
 | nil=>exact absurd rfl h
 | cons q r=>
  (refine AA Array.toList_append ?_;refine AA Array.toList_append ?_;refine AA (pD ..:) ?_;rfl)
theorem Uj(l:List Nat):∀ (n:Nat) (d:List Nat),d.length<=n->∀ (i a:Nat),l.drop i=d->a<=i->i<=l.length->(Str.join (toS [233]) (partsFrom (toS l) 2 a (EJ i d))).cps.toList=(l.drop a).take (i - a) ++ L.Fe d:=by
 have last:∀ a,(strSub (toS l) a (toS l).length).cps.toList=l.drop a:=fun a=>by
  (refine AA (strSub_toList ..:) ?_;refine AA (DN ..:) ?_)
  refine(?_:(l.drop a).take _=_)
  exact qi (by(refine AA qj ?_);exact ou _)
 have cat:∀ {i a:Nat} {d:List Nat},l.drop i=d->a<=i->l.drop a=(l.drop a).take (i - a) ++ d:=fun {i a d} hd ha=>by
  conv=>lhs;rw [←List.take_append_drop (i - a) (l.drop a)]
  (refine AA qA ?_;refine AA (Nat.add_sub_cancel' ha) ?_;refine AA hd ?_;rfl)
 have nil:∀ i a,l.drop i=[]->a<=i->i<=l.length->(Str.join (toS [233]) (partsFrom (toS l) 2 a (EJ i []))).cps.toList=(l.drop a).take (i - a) ++ L.Fe []:=fun i a hd ha hi=>(last a).trans (cat hd ha)
 intro n
 induction n with
 | zero=>exact fun d hn=>List.length_eq_zero_iff.mp (Nat.le_zero.mp hn)▸nil
 | succ n ih=>
 intro d hn
 match d with
 | []=>exact nil
 | [c]=>intro i a hd ha hi;exact(last a).trans (cat hd ha)
 | x::b::r=>
  intro i a hd ha hi
  have hl:i+2<=l.length:=by
   have:=congrArg List.length hd
   (replace this:=(qj)▸this;replace this:=(qG)▸this);exact mH this
  ((rewrite [PK]);(rewrite [L.SA]))
  by_cases h:x=195/\b=169
  ·(refine AA (pO h) ?_;refine AA (pO h) ?_)
   have hr2:l.drop (i+2)=r:=by(refine BO qA ?_;refine AA hd ?_);rfl
   have ih:=ih r (Nat.le_of_succ_le_succ (Nat.le_of_succ_le hn)) (i+2) (i+2) hr2 (ou _) hl
   have hne:partsFrom (toS l) 2 (i+2) (EJ (i+2) r)≠[]:=by
    (refine Bm (partsFrom_ne (toS l) 2 (i+2) (EJ (i+2) r)) ?_;rintro p r' e)
    (refine AA e ?_);exact List.cons_ne_nil _ _
   (refine AA (Ui _ _ hne) ?_;refine AA ih ?_;refine AA (Nat.sub_self ..:) ?_;refine AA (strSub_toList ..:) ?_)
   rfl
  ·(refine AA (pH h) ?_;refine AA (pH h) ?_)
   have hr1:l.drop (i+1)=b::r:=by(refine BO qA ?_;refine AA hd ?_);rfl
   (refine AA (ih (b::r) (Nat.le_of_succ_le_succ hn) (i+1) a hr1 (qP ha) (Nat.le_of_succ_le hl)) ?_;refine AA (show i+1 - a=(i - a)+1 by(exact Nat.succ_sub ha)) ?_;refine AA List.take_succ ?_;refine AA (pD ..:) ?_)
   have:(l.drop a)[i - a]?=some x:=by
    (refine AA (qf) ?_;refine AA (Nat.add_sub_cancel' ha) ?_;refine BO (List.head?_drop) ?_;refine AA hd ?_);rfl
   (refine AA this ?_);rfl
theorem Uk(h:x.cps.toList=l):x=toS l:=by(refine BO h ?_;rfl)
theorem W1(l:List Nat):PySem.Txt.replace (toS l) (toS [195,169]) (toS [233])=toS (L.Fe l):=by
 delta PySem.Txt.replace
 (refine AA (bC ..:) ?_;refine AA (partsBetween_eq ..:) ?_;refine AA (glued_eq_join ..:) ?_)
 have h:=Uj l _ l (ou _) 0 0 rfl (ou _) (pQ _)
 split
 ·rename_i q
  have q:(EJ 0 l).isEmpty=true:=by
   rw [Bool.or_eq_true] at q
   exact q.elim id fun q=>(fT q)
  (replace h:=(List.isEmpty_iff.mp q)▸h)
  (refine BO (Uk h) ?_)
  refine Str.ext' (Array.toList_inj.mp ?_)
  (refine AA (strSub_toList ..:) ?_;refine AA (DN ..:) ?_)
  exact(qi (ou _)).symm
 ·exact Uk h
end
section
variable{C:Al}{hn:Bool}{d:Nat}{gv:Str->Option PV}{cx:Cx}{Γ:Ge}{σ:St}{A:Around}{O:Ow}{s:Shared}{E:Value->Shared->Prop}
theorem Ro{cls msg:String}{Q:α->Shared->Prop}(hp:PlainExc cls)(hh:A.handled=none)(h:∀ h' e,Heap.NewExc s.heap h' e cls->E (.ref e) { s with heap:=h',toks:=s.toks+1 })(hm:(msg:Str).length<=sizeLine):wpAny M A (raiseErrorMade cls msg:Sem α) Q E s:=by
 refine oq (wpAny_mkStr (oq ?_) hm)
 refine oq (m:=firstArgMember _ _) (qR (a:=Value.none) (by simp only [firstArgMember,hp.first];rfl) ?_)
 (refine AA (hp.own ..:) ?_)
 refine wpAny_newObj_type ?_
 refine oq (wpAny_handled ?_)
 (refine AA hh ?_)
 refine oq (o6 (wpAny_throw ?_))
 exact h _ _ ⟨fun b o hb=>pF _ (pF _ hb),qn (by simp),_,.ref s.heap.objs.size,pE _ rfl,rfl,by rfl⟩
theorem MB(hh:A.handled=none)(hb:BL b)(hx:x<256)(hq:∀ h',(∀ a o,s.heap.get? a=some o->h'.get? a=some o)->Q (b.any (·==x)) { s with heap:=h',toks:=s.toks+1 }):
  wpAny (model C.prog C.w) A (contains (.bytes (toB b) u) (.bytes (toB [x]) t)) Q E s:=by
 refine wpAny_contains_slot (pY _ _ _) FB.slot_bytes_contains (qZ FB.slot_bytes_contains (pY _ _ _) FB.entry_bytes_contains ?_ (FB.args_bytes_contains_2 _ _))
 refine(?_:wpAny _ _ (Builtin.Bytes.containsIn "bytes.__contains__" (.bytes (toB b) u) (.bytes (toB [x]) t) >>= fun r=>_) _ _ s)
 refine oq ?_
 refine oq (wpAny_attempt ?_)
 refine Ro plainExc_TypeError hh (fun h' e hx'=>?_) (by size_fits)
 refine oq (qR KBy.buffer_eq ?_)
 refine oq (qR KBy.buffer_eq ?_)
 refine oq (wpAny_rule (o6 (o6 ⟨_,rfl,qQ ?_⟩)))
 have:=XO (b.map UInt8.ofNat) x.toUInt8
 (refine AA this ?_;refine BO List.contains_toArray ?_;refine AA (Bz hx hb) ?_)
 exact hq _ hx'.keeps
theorem Ul(F:AY C true d cx)(g:AU gv Γ cx)(hi:EX x Γ.nm=some i)(hd:(!(x==("__debug__" : Str)))=true)(ha:EC cx A)(r:R cx O σ s)(hs:σ.get i=some (.fr (.bytes o)))(q:∀ s',Aw cx O σ s O σ s'->0<s'.toks->Q (o.any (·==c.toNat)) s'):wpAny (model cx.C.prog cx.C.w) A (isTrue (.Compare (.Constant (.bytes [c]) k cp) [.In] [.Name x px] pos) cx.env whole) Q E s:=by
 have p₁:Aw cx O σ s O σ { s with toks:=s.toks+1 }:=(Aw.refl r).op AG.toks
 (refine AE (p₁.r.fr i _ hs) ?_;rintro v hl rv)
 refine test_last (BG g hi r.env.kind hl hd ?_)
 induction rv with | mk ob _ t=>
 have e:#[c]=toB [c.toNat]:=by simp [toB]
 (refine AA e ?_)
 refine oq (MB (ha.hn F.hn) ob c.toNat_lt fun h' hk=>o6 (qQ (q _ (p₁.op (AG.of_keeps hk)) (pW _))))
theorem Rp(F:AY C true d cx)(g:AU gv Γ cx){i k1 k2:Nat}{x:Str}{px ap p1 p2 pos:Pos}{o:List Nat}(hline:(ap.endLine==pos.line)=true)(hi:EX x Γ.nm=some i)(hd:(!(x==("__debug__" : Str)))=true)(ha:EC cx A)(r:R cx O σ s)(hs:σ.get i=some (.fr (.str o)))(hz:o.length<=400000)(ht:0<s.toks){K:KE}(q:K (.str (L.Fe o)) σ):
  wpAny (model cx.C.prog cx.C.w) A (eval (.Call (.Attribute (.Name x px) "replace" ap) [.Constant (.str (toS [195,169])) k1 p1,.Constant (.str (toS [233])) k2 p2] [] pos) cx.env) (Jy cx O σ s (Gf cx K)) E s:=by
 (refine AE (r.fr i _ hs) ?_;rintro v hl rv)
 induction rv with | mk _ t=>
 (refine AA (arm_eval_Call ..:) ?_;refine AA (DR (by rfl)) ?_)
 refine oq (BG g hi r.env.kind hl hd (oq (qI ?_)))
 have hyz:(toS [195,169]==toS [233])=false:=by decide +kernel
 have hl:(toS [233]).length<=14:=by decide +kernel
 have hx:(toS o).length<=1048576:=by(refine AA (DN ..:) ?_);exact om hz (by decide)
 have hre:=W1 o
 generalize toS [195,169]=y at hyz hre ⊢
 generalize toS [233]=z at hyz hl hre ⊢
 have hz':([.Constant (.str y) k1 p1,.Constant (.str z) k2 p2]:List Expr).all noStar=true:=rfl
 refine E7 (C:=cx.C) (A:=A) (s:=s) (E:=E) (o:=.Name x px) (name := "replace") (apos:=ap) (pos:=pos) (args:=[.Constant (.str y) k1 p1,.Constant (.str z) k2 p2]) (ov:=.str (toS o) t) (env:=cx.env) (f:=.builtin "str.replace") (first:=[.str (toS o) t]) hz' (pJ (qF 2) (by decide)) hline (fun {K pl} k=>?_) ?_
 ·exact getMethod_builtin (typeIs_str _ _ _) PySem.F.plainAttrs_str PySem.F.slot_str_replace PySem.F.type_str_replace E6 k
 refine Ef (Ai hz') (BQ (Ai hz') ?_)
 refine qK (wpAny_Constant_str ?_) (AR rfl)
 refine qK (wpAny_Constant_str ?_) (AR rfl)
 refine wpAny_items_nil ⟨_,rfl,?_⟩
 refine(?_:wpAny _ A (call (.builtin "str.replace") [.str (toS o) t,.str y s.toks,.str z (s.toks+1)]) _ E _)
 refine PySem.SC.replaceW (Nat.ne_of_gt ht) (Nat.succ_ne_zero _) (pX (qF _)) hyz hx hl fun t' k=>?_
 (refine AA hre ?_)
 exact⟨O,σ,(Aw.refl r).op (s'':={ s with toks:=k }) ⟨s.heap,k,rfl,KX.refl _ _ _,fun x=>x⟩,.str (L.Fe o),ML.mk (om (GY o) (om hz (by decide))) t',q⟩
noncomputable def QS(k:Nat)(σ:St)(Q:KS):Prop:=k=1/\∃ o ν,σ=⟨[.fr (.bytes o),.fr (.str o)],ν⟩/\o.length<=400000/\Q (.ret (.str (L.AS o))) σ
theorem Um(F:AY C true d cx)(g:AU gv Γ cx){p1 p2 p3 p4 p5 p6 p7 p8 p9 pa pb pc pd pe ap:Pos}(hx:EX x Γ.nm=some 0)(hy:EX y Γ.nm=some 1)(dx:(!(x==("__debug__" : Str)))=true)(dy:(!(y==("__debug__" : Str)))=true)(hline:(ap.endLine==pc.line)=true)(h:QS k σ Q):
  Fc cx (exec (.Return (some (.IfExp (.BoolOp .Or [.Compare (.Constant (.bytes [233]) k1 p1) [.In] [.Name x p2] p3,.Compare (.Constant (.bytes [160]) k2 p4) [.In] [.Name x p5] p6] p7) (.Name y p8) (.Call (.Attribute (.Name y p9) "replace" ap) [.Constant (.str (toS [195,169])) k3 pa,.Constant (.str (toS [233])) k4 pb] [] pc) pd)) pe) cx.env) σ Q:=by
 obtain ⟨_,o,ν,rfl,hz,q⟩:=h
 have mem:∀ c:Nat,(o.any (·==c))=true↔c∈o:=fun c=>by(refine F7 (List.any_eq_true:) ?_);exact⟨fun zq=>(by refine AE zq ?_;rintro z hz e;exact eq_of_beq e▸hz),fun h=>⟨c,h,beq_self_eq_true c⟩⟩
 delta L.AS at q
 refine Te fun A ha O s E r=>wpAny_IfExp (wpAny_isTrue_BoolOp (wpAny_allTrue_Or_cons (Ul F g hx dx ha r rfl fun s₁ p₁ t₁=>?_)))
 have whole:∀ s',Aw cx O ⟨[.fr (.bytes o),.fr (.str o)],ν⟩ s O ⟨[.fr (.bytes o),.fr (.str o)],ν⟩ s'->(233∈o∨160∈o)->wpAny (model cx.C.prog cx.C.w) A (eval (.Name y p8) cx.env) (Jy cx O ⟨[.fr (.bytes o),.fr (.str o)],ν⟩ s (Gf cx (YC Q))) E s':=fun s' p h=>by
  rw [if_pos h] at q
  (refine AE (p.r.fr 1 (.str o) rfl) ?_;rintro v hl rv)
  exact BG g hy r.env.kind hl dy (Gf.mk p rv q)
 by_cases h1:233∈o
 ·(refine AA (show (o.any (·==(233:UInt8).toNat))=true from(mem 233).mpr h1) ?_)
  exact whole s₁ p₁ (.inl h1)
 (refine AA (show (o.any (·==(233:UInt8).toNat))=false from Bool.eq_false_iff.mpr fun e=>h1 ((mem 233).mp e)) ?_)
 refine wpAny_allTrue_Or_cons (Ul F g hx dx ha p₁.r rfl fun s₂ p₂ t₂=>?_)
 by_cases h2:160∈o
 ·(refine AA (show (o.any (·==(160:UInt8).toNat))=true from(mem 160).mpr h2) ?_)
  exact whole s₂ (p₁.trans p₂) (.inr h2)
 (refine AA (show (o.any (·==(160:UInt8).toNat))=false from Bool.eq_false_iff.mpr fun e=>h2 ((mem 160).mp e)) ?_)
 rw [if_neg fun h=>h.elim h1 h2] at q
 have p₃:=p₁.trans p₂
 refine wpAny_allTrue_Or_nil ?_
 exact pN (Rp F g hline hy dy ha p₃.r rfl hz t₂ q) (fun v s' zq=>(by obtain ⟨O',σ',p,h⟩:=zq;exact⟨O',σ',p₃.trans p,h⟩)) fun _ _ x=>x
end
section
variable{C:Al}{hn:Bool}{d:Nat}{ν:Pu}{K:PV->Pu->Prop}
noncomputable def oZ(st:Stmt):Option Nat:=match st with
 | .Return (some e) _=>if e.ctorIdx=5 then some 1 else none
 | _=>none
noncomputable def li:List CS:=[i3,.sp 1]
theorem W2:codeOf [] oZ (AP 71)=some li:=by kernel_rfl
theorem jZ(Fx:AX C):lX C:=by
 intro d ν K l ho hz q
 refine QF Fx (fun _=>QS) 71 [] 1 (by kernel_rfl) W2 (by kernel_rfl) rfl (OZ [1] (by kernel_rfl) (fun st h=>Li h) fun i hi=>?_) fun G hG=>?_
 ·cases pZ.mp hi
  refine IO (k:=1) (by kernel_rfl) fun cx F g σ Q h=>?_
  exact Um F g (by kernel_rfl) (by kernel_rfl) (by kernel_rfl) (by kernel_rfl) (by kernel_rfl) h
 ·refine⟨rfl,Bw (fun c=>.str [c]) l (om hz (by decide)) (fun c hc J hJ=>Ab ⟨pG c,pI.mpr (Nat.lt_trans (ho c hc) (by decide)),hJ⟩) (IR (om hz (by decide)) ?_)⟩
  exact⟨rfl,l,_,rfl,hz,q⟩
end
section
variable{C:Al}{hn:Bool}{d:Nat}{gv:Str->Option PV}{fe ft:Ge->Expr->Option CE}{S:CY}{cx:Cx}{Γ:Ge}{σ:St}{A:Around}{O:Ow}{s:Shared}{E:Value->Shared->Prop}{scope:Scope}
theorem W3{k:Int}{j:Nat}{t:Tok}(hl:Ba s.heap l vs)(hj:seqIndex? k vs.length=some j)(hz:vs.length<=sizeLine)(hQ:∀ h',Ba h' l (vs.set j v)->Heap.SameBut l s.heap h'->Q () { s with heap:=h' }):
  wpAny (model C.prog C.w) A (setItem (.ref l) (.int k t) v) Q E s:=by
 (refine Bq (Cs hj) ?_;rintro k1 k2 k3)
 have z:=GL hz k2 k3
 have hil:=hl.isList
 obtain ⟨o,ho,hc,hdi,n,hd⟩:=hl
 have hx:vs.toArray[j]?=some vs[j]:=by(refine AA (List.getElem?_toArray) ?_;refine AA (o8 k1) ?_;rfl)
 (refine AI (Obj.data_mapSeq hd (·.setIfInBounds j v)) ?_;rintro n' hd')
 have hfin:Ba (s.heap.update l (Obj.mapSeq (·.setIfInBounds j v))) l (vs.set j v):=by
  refine⟨_,qd _ ho (Obj.isFreed_of_seq hd'),(Obj.cls_mapSeq ..).trans hc,?_,n',by(refine AA hd' ?_;refine AA (List.setIfInBounds_toArray ..:) ?_;rfl)⟩
  obtain ⟨cl,di,da,sl⟩:=o
  induction da<;>exact hdi
 delta setItem
 try with_reducible refine pR ?_
 refine oq (wpAny_sequenceKey hil.typeIs (by rfl) ?_)
 refine oq (wpAny_callSpecial?_slot hil.typeIs slot_list_setitem
  (qZ slot_list_setitem hil.typeIs entry_list_setitem ?_ (args_list_setitem _ _ _)))
 refine(?_:wpAny _ _ (Builtin.List.listSubscript? (.int k t) >>= _) _ _ s)
 have hf:Builtin.List.listFitsIndex k=true:=by
  by_cases hneg:k<0
  ·exact fitsIndex_neg hneg z.1
  ·exact fitsIndex_of (Int.not_lt.mp hneg) z.2
 refine oq (wpAny_listSubscript_int hf ?_)
 clear hf z
 cases k with
 | ofNat m=>
  have e:m=j:=by
   have:=seqIndex_of (pG m) k3
   (replace hj:=(this)▸hj)
   exact pP hj
  subst e
  refine oq (oq (wpAny_seqItemAt ho hd (o6 ?_)))
  (refine AA hx ?_)
  refine oq (wpAny_setSeqItemAt ho hd ?_)
  exact o6 ⟨.none,rfl,o6 (hQ _ hfin (Heap.SameBut.update ..))⟩
 | negSucc m=>
  refine oq (oq ?_)
  refine oq (wpAny_seqItems ho hd (o6 (o6 ?_)))
  (refine AA hj ?_)
  (refine AA (Option.bind_some ..:) ?_;refine AA hx ?_;refine AA (Option.map_some ..:) ?_)
  refine oq (wpAny_setSeqItemAt ho hd ?_)
  exact o6 ⟨.none,rfl,o6 (hQ _ hfin (Heap.SameBut.update ..))⟩
theorem K0(H:AO C hn d gv fe ft S)(F:AY C hn d cx)(g:AU gv Γ cx){v:Value}{K:St->Prop}(hi:EX x Γ.nm=some i)(hd:(!(x==("__debug__" : Str)))=true)(hc:fe Γ e=some c)(hS:∀ σ K,K (.int k) σ->S.e c σ K)(ha:EC cx A)(r:R cx O σ s)(hs:σ.get i=some (.ow l))(hj:seqIndex? k l.length=some j)(rv:AJ cx.C s.heap (Ex cx O) p v)(q:K (σ.set i (.ow (l.set j p)))):
  wpAny (model cx.C.prog cx.C.w) A (assign (.Subscript (.Name x px) e ps) cx.env v) (P7 cx O σ s K) E s:=by
 obtain ⟨ad,vs,g1,g2,g3,g4,g5⟩:=r.ow i l hs
 refine oq (pR (BG g hi r.env.kind g2 hd ?_))
 refine oq (pR ((H.e cx F Γ g e c hc σ (fun q σ'=>q=.int k/\σ'=σ) (hS _ _ ⟨rfl,rfl⟩)).seq ha r fun vk s₁ O₁ σ1 pk p₁ rk ⟨e1,e2⟩=>oq (qI ?_)))
 subst e1 e2
 induction rk with | mk t=>
 obtain ⟨ad',vs',k1,k2,k3,k4,k5⟩:=p₁.r.ow i l hs
 induction pP ((p₁.sub _ _ k1).symm.trans g1)
 refine oq (pR (W3 k3 (k4.length▸hj) (k4.length▸k5) fun h' hl2 hs'=>?_))
 exact wpAny_release' ⟨_,_,(p₁.sp r).trans (p₁.r.turnOw (vs:=vs') hs k1 hs' hl2 k2 (AF.set (p₁.rep rv) j k4) (by(refine AA List.length_set ?_);exact k5)),q⟩
noncomputable def ja(i:Nat)(Z:St->Prop)(v:PV)(σ:St):Prop:=SX v fun ps=>VR ps fun p q=>J1 σ i fun s=>N6 s fun l=>0<l.length/\Hq σ i (.ow ((l.set 0 p).set (l.length - 1) q)) Z
theorem Un:swappedStores [.Tuple [.Subscript o1 i1 q1,.Subscript o2 i2 q2] kt pt] (.Tuple [a,b] kv pv) env=pure none:=by
 delta swappedStores
 dsimp only
 split
 ·rfl
 ·split
  ·rfl
  ·rfl
theorem jb(h:0<n):seqIndex? 0 n=some 0:=seqIndex_of (Int.le_refl 0) (pI.mpr h)
theorem bD(H:AO C hn d gv fe ft S)(F:AY C hn d cx)(g:AU gv Γ cx){Q:KS}(hi:EX x Γ.nm=some i)(hd:(!(x==("__debug__" : Str)))=true)(h1:fe Γ e1=some c1)(hS1:∀ σ K,K (.int 0) σ->S.e c1 σ K)(h2:fe Γ e2=some c2)(hS2:∀ σ K,K (.int (-1)) σ->S.e c2 σ K)(hv:Ay (fe Γ) [a,b]=some [ca,cb])(h:cL S [ca,cb] σ (VW (ja i (Q .next)))):Fc cx (exec (.Assign [.Tuple [.Subscript (.Name x px1) e1 ps1,.Subscript (.Name x px2) e2 ps2] kt pt] (.Tuple [a,b] kv pv) pos) cx.env) σ Q:=fun A ha O s E r=>by
 refine wpAny_Assign_stores ((Mr H F g hv h).seq ha r fun vv s₁ O₁ σ1 tp p₁ rt q₁=>?_) (Ct (v:=.Tuple [a,b] kv pv) (t:=some (.Tuple [.Subscript (.Name x px1) e1 ps1,.Subscript (.Name x px2) e2 ps2] kt pt)) (n:=pos.line) (env:=cx.env) rfl) Un
 refine(?_:wpAny _ A (assign (.Tuple _ kt pt) cx.env vv) _ E s₁)
 refine Ap fun G kk=>?_;(refine AE (KY q₁) ?_;rintro ps e q₁)
 subst e
 (refine BS (VZ q₁) ?_;rintro p q e q₁)
 subst e
 (refine Cp (G5 q₁) ?_;rintro l hl h0 q₁);refine kk ?_
 induction rt with | mk hz T vs _ ht hr=>
 induction hr with | mk va us ra hr=>
 induction hr with | mk vb us rb hr=>
 cases (show us=[] from hr)
 refine oq (qI (Ft (ha.hand' p₁.r) ht.is rfl rfl fun h' k=>?_))
 have p₂:=(Aw.refl p₁.r).op (AG.of_keeps (tk:=s₁.toks) k)
 refine(?_:wpAny _ A (do holding [vb] (assign _ cx.env va);assignInOrder [assign (.Subscript (.Name x px2) e2 ps2) cx.env] [vb]) _ E _)
 refine oq (pR (pN (K0 H F g hi hd h1 hS1 ha p₂.r hl (jb h0) (p₂.rep ra) rfl) (fun _ s₃ ⟨O₃,σ₃,p₃,e⟩=>?_) fun _ _ x=>x))
 subst e
 refine oq (pR (pN (K0 (K:=Q .next) H F g hi hd h2 hS2 ha p₃.r (St.set_get hl) (OD (by(refine AA List.length_set ?_);exact h0)) (p₃.rep (p₂.rep rb)) ?_) (fun _ s₄ ⟨O₄,σ₄,p₄,q₄⟩=>?_) fun _ _ x=>x))
 ·(refine AA (St.set_set ..:) ?_;refine AA List.length_set ?_);exact(B5 q₁)
 ·exact o6 (B1.next ((p₁.sp r).trans ((p₂.sp p₁.r).trans (p₃.trans p₄))) q₄)
theorem PL(G:Jw C gv)(H:AO C hn d gv fe ft S)(F:AY C hn d cx)(g:AU gv Γ cx){Q:KS}(hsw:I9 Γ.sc x px (.ListComp elt gens scope pos) scope=true)(hi:EX x Γ.nm=some i)(hc:Hc n Γ fe ft elt gens scope=some c)(h:cE Gm hn S c σ fun p σ1=>Dd p fun l=>Hq σ1 i (.ow l) (Q .next)):Fc cx (exec (.Assign [.Name x px] (.ListComp elt gens scope pos) spos) cx.env) σ Q:=fun A ha O s E r=>by
 delta I9 at hsw
 rw [Bool.and_eq_true,Bool.and_eq_true,Bool.not_eq_true',beq_iff_eq] at hsw
 (refine AM hsw ?_;clear hsw;rintro ⟨h1,h2⟩ h3)
 have hk:=(g.sc x _ h1 (by decide)).1
 obtain ⟨tgt,it,ifs,ce,ct,ci,cs,e,cc,e2⟩:=Dv hc
 subst e e2
 (refine AA (exec_Assign_Name_used _ _ _ _ (JQ r.env.kind hk (show (px.line==pos.line)=true from h2) h3)) ?_)
 refine oq (qI (oq ?_))
 refine(?_:wpAny _ A (do let _ ←comprehension (.ListComp elt [⟨tgt,it,ifs,0⟩] scope pos) scope cx.env _ (newList []) false (eval it cx.env) (some (assign (.Name x px) cx.env))) _ _ s)
 refine oq (pN (Dw G H F g cc h ha r fun s' O₁ σ1 σ' sA D Cd vs ys pA e hz q=>?_) (fun _ s' hq=>o6 (o6 hq)) fun _ _ e=>e)
 (refine AI e.ns ?_;rintro m hC)
 have N1:Nw cx (pa σ'.purse) [Cd]:=by(refine AA e.pa ?_);exact pA.r.isNw fun b hb=>(e.nw b (IL hb)).1
 have N2:Nw cx (pa σ'.purse) [D,Cd]:=by(refine AA e.pa ?_);exact pA.r.isNw fun b hb=>(e.nw b hb).1
 refine wpAny_assign_Name (B8 (cx:=cx.ext [D,Cd]) e.r (.inl hk) fun h' tk T st=>?_)
 have sp:=e.r.storeFr (p:=.addr D) (tk:=tk) (g.nm▸D6 hi) st rfl
 have hT:∀ b∈[D,Cd],b≠T:=fun b hb q=>by
  rcases st.at_ with e | ⟨y,_,e⟩
  ·exact N2.loc b hb (q.trans e)
  ·exact N2.cell b hb y (q▸e)
 refine⟨m,hC.sameBut st.same (hT Cd (IL (.head _))),fun h'' hs'=>?_⟩
 have kk:=Dj.but hs'
 have exT:∀ b,b=T->Ex (cx.ext [D,Cd]) O₁ b:=fun b q=>by cases q;exact e.r.exO _ (.inr (.inr st.at_))
 have rT:=R.thaw sp.r (List.getElem?_set_self (Ld (show Sb σ'.vars i (.ow ys) _ from q))) (.head _) N2 (fun b hb q=>e.no pA b hb (.inl q)) ((SameBut.kx st.same:KX (·=T) Ax s'.heap h').own (hT D (.head _)) e.d) (AF.move (SameBut.kx st.same:KX (·=T) Ax s'.heap h') (fun b q=>.inl (exT b q)) (fun _ q=>q.elim) (fun b q=>.inl q.del) _ _ e.ys) (om hz Bu) fun b hb=>⟨IL hb,fun q=>e.ne (q▸Fv hb)⟩
 rw [St.set_set] at rT
 have lv:∀ b o,sA.heap.get? b=some o->∃ o',s'.heap.get? b=some o':=fun b o q=>by
  by_cases q2:b∈pa σ1.purse
  ·(refine BS (e.r.purse.lists b (by(refine AA e.pa ?_);exact q2)) ?_;rintro _ o' e' _)
   exact⟨o',e'⟩
  ·exact(by(refine AI (e.mv.kx.lives q2 q) ?_;rintro _ e2);exact⟨_,e2⟩)
 have L1:=(⟨e.mv.kx.mono (fun _ q=>.inl q) fun _ q=>q,e.mv.sh,e.pa,fun _ _ e=>.inl e,lv⟩:LS cx O₁ σ1 sA O₁ σ' s').post sp
 have L1':LS cx O₁ σ1 sA (add (del O₁ i) i D) (σ'.set i (.ow ys)) { s' with heap:=h',toks:=tk }:={ L1 with pa:=L1.pa,on:=fun y b q=>(De q).elim (fun e'=>.inr (e'.2▸(e.nw D (.head _)).1)) fun e=>L1.on y b e.2 }
 exact B1.next ((pA.sp r).trans ((L1'.wr (fun b hb=>(e.nw b (IL hb)).1) kk).sp pA.r (rT.shift (cx2:=cx) ⟨cx.X,rfl⟩ (fun _ q=>.inl q) (fun _ q=>q) N1 (fun _ q=>q) kk (fun b hb q=>absurd (.inl q) (e.no pA b (IL hb))) (fun b hb=>pA.r.purse.xs b (by(refine BO e.pa ?_);exact hb)) pA.r.fX))) (B5 q)
end
structure bF(C:Al)(fr:List Env)(s s':Shared)(P c:Addr)(ns:List Int):Prop where
 mv:AG C Ax (inF fr) s s'
 pn:s.heap.get? P=none
 cn:s.heap.get? c=none
 ne:P≠c
 lp:∃ tk,s'.heap.IsList P #[.ref c,.int 0 tk]
 lc:∃ vs:List Value,s'.heap.IsList c vs.toArray/\IntsAre vs ns
section
variable{C:Al}{hn:Bool}{d:Nat}{gv:Str->Option PV}{fe ft:Ge->Expr->Option CE}{S:CY}{cx:Cx}{Γ:Ge}{σ:St}{A:Around}{O:Ow}{s:Shared}{E:Value->Shared->Prop}{scope:Scope}
theorem lj(m:AG cx.C (inP σ.purse) (inF cx.l) s s')(hσ:σ.purse=none):AG cx.C Ax (inF cx.l) s s':=m.mono (fun b q=>by rw [hσ] at q;exact(by cases q)) fun _ q=>q
theorem MC(k:KX P F h h')(hP:∀ b,¬P b)(e:h'.get? b=none):h.get? b=none:=by
 cases q:h.get? b with
 | none=>rfl
 | some o=>(refine AI (k.lives (hP b) q) ?_;rintro _ e');(replace e':=(e)▸e');exact nS e'
theorem PM(G:Jw C gv)(H:AO C hn d gv fe ft S)(F:AY C hn d cx)(g:AU gv Γ cx){c:CE}{Gm:Qj}(hc:Hc n Γ fe ft elt gens scope=some c)(h:cE Gm hn S c σ fun p _=>p=.lst (ns.map .int))(hσ:σ.purse=none)(ha:EC cx A)(r:R cx O σ s){K:Value->Shared->Prop}(q:∀ P D O' σ' s',Aj cx O σ s O' σ' s'->bF cx.C cx.l s s' P D ns->K (.ref P) s'):wpAny (model cx.C.prog cx.C.w) A (eval (.List [.ListComp elt gens scope p1,.Constant (.int 0) k p2] lp) cx.env) K E s:=by
 obtain ⟨tgt,it,ifs,ce,ct,ci,cs,e,cc,e2⟩:=Dv hc
 subst e e2
 refine wpAny_List (qK ?_ (AR rfl))
 refine Dw G H F g cc h ha r fun s' O₁ σ1 σ' sA D Cd vs ys pA e hz eq=>?_
 (refine AI e.ns ?_;rintro m hC)
 refine⟨m,hC,fun h' hs'=>?_⟩
 refine qK (wpAny_Constant_int (wpAny_items_nil ⟨(show 2<=sizeLine by decide),?_⟩)) (AR rfl)
 have r':R cx O₁ σ' { s' with heap:=h' }:=e.r.shift (cx2:=cx) ⟨cx.X,rfl⟩ (fun _ q=>.inl q) (fun _ q=>q) (by(refine AA e.pa ?_);exact(e.nws pA)) (fun _=>IL) (Dj.but hs') (fun b hb q=>absurd (.inl q) (e.no pA b (IL hb))) (fun b hb=>pA.r.purse.xs b (by(refine BO e.pa ?_);exact hb)) pA.r.fX
 have mv':AG cx.C (inP σ1.purse) (inF cx.l) sA { s' with heap:=h' }:=e.mv.trans_news (AG.but (Dj.but hs') fun b hb=>(e.nws pA).base b (IL hb)) (fun b q=>.inr (e.nw b (IL q)).1) fun _ q=>q.elim
 have p2:=pA.trans ⟨r',fun _ _ z=>z,mv',e.pa,pA.r.exP,pA.r.exF⟩
 have eq:ys=ns.map .int:=by injection eq
 have hD:Ba h' D vs:=(by obtain ⟨o,e1,e2,e3,e4⟩:=e.d;exact⟨o,(hs'.2 D e.ne).trans e1,e2,e3,e4⟩)
 have hPn:h'.get? h'.objs.size=none:=AH (ou _)
 have hne:h'.objs.size≠D:=fun q=>by
  obtain ⟨o,e1,_⟩:=hD
  (replace e1:=Eq.symm (q)▸e1;replace e1:=(hPn)▸e1);exact nS e1
 refine Ap fun G kk=>?_;subst eq
 obtain ⟨o,e1,e2,_,nn,e3⟩:=hD;refine kk ?_
 exact q _ D _ _ _ (((p2.op (s'':={ s' with heap:=h'.push { cls:=.type "list",data:=.seq #[.ref D,.int 0 s'.toks] },toks:=s'.toks+1 }) (BX))).sp r) ⟨lj ((p2.op (s'':={ s' with heap:=h'.push { cls:=.type "list",data:=.seq #[.ref D,.int 0 s'.toks] },toks:=s'.toks+1 }) (BX))).mv hσ,(fun b=>MC p2.mv.kx (fun b q=>by rw [show inP σ.purse b↔b∈pa none from by(refine AA hσ ?_;rfl)] at q;exact(by cases q))) _ hPn,(MC pA.mv.kx (fun b q=>by rw [show inP σ.purse b↔b∈pa none from by(refine AA hσ ?_;rfl)] at q;exact(by cases q)) (e.nw D (.head _)).1),hne,⟨s'.toks,Hb⟩,vs,⟨o,Au e1,e2,nn,e3⟩,EV e.ys⟩
theorem R.begin{ns:List Int}{s':Shared}(r:R cx O σ s)(w:bF cx.C cx.l s s' P c ns)(hσ:σ.purse=none):R (cx.ext [P,c]) (fun _=>none) ⟨List.replicate σ.vars.length .un,some (P,c,ns,0)⟩ s':=
 have r':=r.move w.mv
 have N:=r.isNw (nw:=[P,c]) fun b hb=>by cases hb with
  | head=>exact w.pn
  | tail _ hb=>induction Fv hb;exact w.cn
 have un:∀ i sl,(⟨List.replicate σ.vars.length .un,some (P,c,ns,0)⟩:St).get i=some sl->sl=.un:=fun i sl h=>(List.mem_replicate.mp (qE h)).2
 {r' with
  fr:=fun x p hx=>nomatch un x _ hx
  ow:=fun x l hx=>nomatch un x _ hx
  oinj:=fun _ _ _ h=>(nS h)
  oNew:=fun _ _ h=>(nS h)
  oIn:=fun _ _ h=>(nS h)
  fX:=fun b hb=>(r.fX b hb).imp .inl id
  purse:=⟨.inr (.head _),.inr (.tail _ (.head _)),w.ne,w.lp,w.lc⟩
  pNew:=fun b hb=>⟨N.base b hb,.inr (N.he b hb)⟩
  xIn:=fun a ha=>ha.elim (r'.xIn a) fun q=>⟨by
   cases q with
   | head=>(refine BS w.lp ?_;rintro _ o e _);exact⟨o,e⟩
   | tail _ q=>cases Fv q;(refine AE w.lc ?_;rintro _ ⟨o,e,_⟩ _);exact⟨o,e⟩,N.base a q⟩ }
end
end Mine.Lake
set_option maxHeartbeats 4000000
namespace Mine.Lake
section
variable{C:Al}{hn:Bool}{d:Nat}{ν:Pu}{K:PV->Pu->Prop}
noncomputable def PN(e:Expr):Expr×List Comprehension×Scope:=match e,view e with
 | _,.comp elt gens sc _=>(elt,gens,sc)
 | _,_=>(.Constant .none 0 default,[],default)
noncomputable def Uo:Stmt:=(A8 (AP 66)).getD 0 Nj
theorem bG:A8 (AP 66)=[.Return (some (.List [.ListComp (PN (Cv (BB Uo) 0)).1 (PN (Cv (BB Uo) 0)).2.1 (PN (Cv (BB Uo) 0)).2.2 (Cv (BB Uo) 0).pos,.Constant (.int 0) (cR (Cv (BB Uo) 1)).2 (Cv (BB Uo) 1).pos] (BB Uo).pos)) Uo.pos]:=by kernel_rfl
noncomputable def lk:CE:=.comp (.lo 1) (.slice (.lo 0) (.kv .none) (.kv (.int 40))) (.bin .Mod (.bi .abs [(.bi .int [(.lo 1)])]) (.bin .Pow (.kv (.int 10)) (.kv (.int 60)))) [] [none,none]
theorem W4:Hc 28 (Ej [] A3 (AP 66)) (Bb 28).1 (Bb 28).2 (PN (Cv (BB Uo) 0)).1 (PN (Cv (BB Uo) 0)).2.1 (PN (Cv (BB Uo) 0)).2.2=some lk:=by kernel_rfl
theorem PO(Fx:AX C){s:Shared}{vs:List Value}{l:List Int}(I:Cz C A true (d+1) fr X none s)(hv:AF C s.heap X [.lst (l.map .int)] vs)(hm:C.mg (AB "_law_purse")=some (.ref a))(q:∀ P c ns s',bF C fr s s' P c ns->ns.length<=40->(∀ n∈ns,0<=n)->Kt (.ref P) s'):wpAny (model C.prog C.w) A (call (.ref a) vs) Kt E s:=by
 (refine AI ((Fx.defs _ 66 (by kernel_rfl) a hm).all (l:=[.lst (l.map .int)]) (by kernel_rfl) rfl) ?_;rintro fd D)
 refine B6 Fx.ok.cfg (n:=0) D (by kernel_rfl) rfl I hv fun env s₁ B=>?_
 (refine AA bG ?_)
 refine pT (wpAny_Return_some ?_)
 let ns:=(l.take 40).map fun x:Int=>(if x<0 then -x else x) % (10 ^ 60)
 refine PM (ns:=ns) (Gm:=AK C true d) Fx.ok (G8 Fx.ok 28) ⟨rfl,rfl,rfl⟩ (DT B) W4 ?_ rfl B.ha B.r fun P c O' σ' s' p w=>?_
 ·refine⟨rfl,⟨?_⟩⟩
  (refine AA (show pcut (l.map PV.int) none (some 40)=(l.take 40).map PV.int by
   (refine AA List.map_take ?_;refine F7 (List.take_eq_take_iff:) ?_;refine AA (pK ..:) ?_)
   (exact mw _ _)) ?_)
  refine Co.h (Bw (fun x:Int=>.int ((if x<0 then -x else x) % (10 ^ 60))) (l.take 40) (om (List.length_take_le _ _) (by decide)) (fun x hx J hJ=>Ab ⟨rfl,rfl,(by decide +kernel:(0:Int)<10 ^ 60),hJ⟩) ?_)
  refine(?_:PV.lst _=PV.lst (ns.map .int))
  (refine AA qV ?_);rfl
 ·(refine Bq (B.leave p) ?_;rintro mv _ _)
  have hk:∀ b,s₁.heap.get? b=none->s.heap.get? b=none:=fun b e=>by
   cases q:s.heap.get? b with
   | none=>rfl
   | some o=>(replace e:=(B.keep b o q)▸e);exact sN e
  refine q P c ns s' ⟨mv.mono (fun _ q=>(by cases q)) fun _ q=>q,hk P w.pn,hk c w.cn,w.ne,w.lp,w.lc⟩ (by(refine AA (pK ..:) ?_);exact List.length_take_le _ _) fun n hn=>?_
  (refine AE (qL.mp hn) ?_;rintro x _ rfl)
  exact Int.emod_nonneg _ (by decide +kernel)
end
section
variable{C:Al}{hn:Bool}{d:Nat}{ν:Pu}{K:PV->Pu->Prop}
noncomputable def Na:List Nat:=match pvSixty with | .bytes l=>l | _=>[]
inductive R1(h:Heap)(f g:Nat->Int):List Nat->List Value->List (Int×Value)->Prop where
 | nil:R1 h f g [] [] []
 | cons {i l v vs t kv} (p:L9 h v (f i) (.int (g i) t)) (r:R1 h f g l vs kv):R1 h f g (i::l) (v::vs) ((f i,.int (g i) t)::kv)
theorem Nb(f g:Nat->Int):∀ {l:List Nat} {vs:List Value},AF C h X (l.map fun i=>.tup [.int (f i),.int (g i)]) vs->∃ kv,R1 h f g l vs kv
 | [],vs,r=>by cases (show vs=[] from r);exact⟨[],.nil⟩
 | i::l,vs,r=>by
  induction r with | mk v vs a b=>
  (refine AI (Nb f g b) ?_;rintro kv h)
  induction a with | mk _ t us _ ht hu=>
  induction hu with | mk u1 us1 a1 b1=>
  induction a1 with | mk t1=>
  induction b1 with | mk u2 us2 a2 b2=>
  induction a2 with | mk t2=>
  cases (show us2=[] from b2)
  exact⟨_,.cons ⟨t,t1,rfl,ht⟩ h⟩
section
variable{h:Heap}{f g:Nat->Int}{l:List Nat}{vs:List Value}{kv:List (Int×Value)}
theorem R1.len(x:R1 h f g l vs kv):kv.length=l.length/\vs.length=kv.length:=by
 induction x with
 | nil=>exact⟨rfl,rfl⟩
 | cons _ _ ih=>exact⟨congrArg Nat.succ ih.1,congrArg Nat.succ ih.2⟩
theorem R1.keys(x:R1 h f g l vs kv):kv.map (·.1)=l.map f:=by
 induction x with
 | nil=>rfl
 | cons _ _ ih=>exact congrArg (_::·) ih
theorem R1.at_(x:R1 h f g l vs kv):∀ (j:Nat) (v:Value) (k:Int) (y:Value),vs[j]?=some v->kv[j]?=some (k,y)->L9 h v k y:=by
 induction x with
 | nil=>exact fun j _ _ _ e=>(nS e)
 | cons p _ ih=>
  intro j v k y e1 e2
  induction j with
  | zero=>(refine sI e1 ?_;clear e1;intro zz;induction zz);(refine sI e2 ?_;clear e2;intro zz;cases zz);exact p
  | succ j=>exact ih j v k y e1 e2
theorem R1.val(x:R1 h f g l vs kv){F:Int->Option Int}(hF:∀ i∈l,F (f i)=some (g i))(z:Int):(z∈l.map f->∃ y t,F z=some y/\valueAt kv z=some (.int y t))/\(z∉l.map f->valueAt kv z=none):=by
 induction x with
 | nil=>exact⟨(fun h=>(by cases h)),fun _=>rfl⟩
 | @cons i l v vs t kv p r ih=>
  have hv:valueAt ((f i,Value.int (g i) t)::kv) z=if f i=z then some (.int (g i) t) else valueAt kv z:=by
   delta valueAt
   by_cases e:f i=z
   ·(refine AA (pO e) ?_;refine AA (List.find?_cons_of_pos (by simpa using e)) ?_);rfl
   ·(refine AA (pH e) ?_;refine AA (qk (by simpa using e)) ?_;rfl)
  (refine AA hv ?_)
  by_cases e:f i=z
  ·(refine AA (pO e) ?_)
   exact⟨fun _=>⟨_,t,e▸hF i (.head _),rfl⟩,fun h=>absurd (qL.mpr ⟨i,.head _,e⟩) h⟩
  ·(refine AA (pH e) ?_)
   exact⟨fun h=>(ih fun i hi=>hF i (.tail _ hi)).1 ((pj.mp h).resolve_left fun q=>e q.symm),fun h=>(ih fun i hi=>hF i (.tail _ hi)).2 fun q=>h (.tail _ q)⟩
end
noncomputable def U9:Stmt:=(A8 (AP 3)).getD 0 Nj
theorem bH:A8 (AP 3)=[.Return (some (.Call (.Name (AB "dict") (Cv (BB U9) 0).pos) [.ListComp (PN (Cv (BB U9) 1)).1 (PN (Cv (BB U9) 1)).2.1 (PN (Cv (BB U9) 1)).2.2 (Cv (BB U9) 1).pos] [] (BB U9).pos)) U9.pos]:=by kernel_rfl
noncomputable def jc:CE:=.comp (.lo 1) (.itr .range [(.bi .len [(.lo 0)])]) (.tup [(.itl 2 (.lo 1)),(.lo 1)]) [] [none,none,(some 0)]
theorem W5:Hc 28 (Ej [] A3 (AP 3)) (Bb 28).1 (Bb 28).2 (PN (Cv (BB U9) 1)).1 (PN (Cv (BB U9) 1)).2.1 (PN (Cv (BB U9) 1)).2.2=some jc:=by kernel_rfl
theorem PQ(z:Int)(h:z∉(List.range' 0 64).map fun i=>((Na.getD i 0:Nat):Int)):C0 z=none:=by
 cases e:C0 z with
 | none=>rfl
 | some y=>
  delta C0 at e
  split at e
  ·(refine AE (qN.mp e) ?_;rintro x hx rfl)
   have hc:z.toNat<123:=by
    unfold L.worth at hx
    repeat' split at hx
    all_goals lia
   have key:∀ c,c<123->∀ x,x<64->L.worth c=some x->Na.getD x 0=c:=by decide +kernel
   refine absurd (qL.mpr ⟨x,List.mem_range'_1.mpr ⟨pQ _,(Jf hx)⟩,?_⟩) h
   (refine AA (key _ hc x (Jf hx) hx) ?_);lia
  ·exact nS e
theorem W6(Fx:AX C):HD C:=by
 intro d ν K q A fr X s vs E a h1 h2 h2' h3 h4 h5 h6 h6' h7 h8 h9 h10 h11
 (refine AI ((Fx.defs _ 3 (by kernel_rfl) a (FD (i:=3) (by kernel_rfl) h11)).all (l:=[pvSixty]) (by kernel_rfl) rfl) ?_;rintro fd D)
 refine B6 Fx.ok.cfg (n:=0) D (by kernel_rfl) rfl ⟨h1,h2,h2',h3,h4,h5,h6,h6',h7,h8,h9⟩ h10 fun env s₁ B=>?_
 (refine AA bH ?_)
 have g:AU gv (Ej [] A3 (AP 3)) (Dk C env X fr true d s.heap ν (namesOf (AP 3))):=DT B
 refine pT (wpAny_Return_some (wpAny_Call_NameR (Eb (p:=.ty "dict") Fx.ok.cfg ⟨rfl,rfl,rfl⟩ g B.ha B.r (by kernel_rfl) fun fv s₂ O₂ p₂ rf=>?_)))
 cases (show fv=.type "dict" from rf)
 refine callWith_excType (Ai rfl) (BQ (Ai rfl) (qK ?_ (AR rfl)))
 obtain ⟨tgt,it,ifs,ce,ct,ci,cs,e,cc,e2⟩:=Dv W5
 (refine AA e ?_)
 refine Dw (K:=fun p σ'=>p=.lst ((List.range' 0 64).map fun i=>.tup [.int ((Na.getD i 0:Nat):Int),.int (i:Int)])/\σ'.purse=ν) (S:=Bj (AK C true d) true Bg 28) Fx.ok (G8 Fx.ok 28) ⟨rfl,rfl,rfl⟩ g cc ?_ B.ha p₂.r fun s' O₁ σ1 σ' sA D Cd us ys pA e hz eq=>?_
 ·have hw:cE (AK C true d) true (Bj (AK C true d) true Bg 28) jc ⟨[.fr pvSixty],ν⟩ fun p σ'=>p=.lst ((List.range' 0 64).map fun i=>.tup [.int ((Na.getD i 0:Nat):Int),.int (i:Int)])/\σ'.purse=ν:=by
   refine⟨rfl,FE rfl (by decide) (Bw (fun i:Nat=>.tup [.int ((Na.getD i 0:Nat):Int),.int (i:Int)]) (List.range' 0 64) (by decide) (fun i hi J hJ=>Ab (CR i rfl ?_ ⟨CD rfl,hJ⟩)) ⟨rfl,rfl⟩)⟩
   have hi:=(List.mem_range'_1.mp hi).2
   (refine AA (List.getD_eq_getElem?_getD) ?_;refine AA (o8 (hi)) ?_);rfl
  (replace hw:=(e2)▸hw)
  exact hw
 ·(refine AI e.ns ?_;rintro m hC)
  refine⟨m,hC,fun h' hs'=>?_⟩
  refine wpAny_items_nil ?_
  have r':R (Dk C env X fr true d s.heap ν (namesOf (AP 3))) O₁ σ' { s' with heap:=h' }:=e.r.shift (cx2:=Dk C env X fr true d s.heap ν (namesOf (AP 3))) ⟨_,rfl⟩ (fun _ q=>.inl q) (fun _ q=>q) (by(refine AA e.pa ?_);exact(e.nws pA)) (fun _=>IL) (Dj.but hs') (fun b hb q=>absurd (.inl q) (e.no pA b (IL hb))) (fun b hb=>pA.r.purse.xs b (by(refine BO e.pa ?_);exact hb)) pA.r.fX
  have mv':AG C (inP σ1.purse) (inF (env::fr)) sA { s' with heap:=h' }:=e.mv.trans_news (AG.but (Dj.but hs') fun b hb=>(e.nws pA).base b (IL hb)) (fun b q=>.inr (e.nw b (IL q)).1) fun _ q=>q.elim
  have p3:=p₂.trans (pA.trans ⟨r',fun _ _ z=>z,mv',e.pa,pA.r.exP,pA.r.exF⟩)
  (have eq1:=eq.1;have eq2:=eq.2;clear eq)
  injection eq1 with eq1
  subst eq1
  have kx:KX (·∈[Cd]) Ax s'.heap h':=KX.of_keepsBut (Dj.but hs')
  (refine AI (Nb (fun i=>((Na.getD i 0:Nat):Int)) (fun i=>(i:Int)) (AF.move kx (fun b q=>.inl (.inl (.inr (IL q)))) (fun _ q=>q.elim) (fun b q=>.inl q) _ _ e.ys)) ?_;rintro kv P)
  obtain ⟨⟨oc,od,odt,osl⟩,eD,cD,dD,nD,sD⟩:=kx.own (fun q=>e.ne (Fv q)) e.d
  cases (show oc=.type "list" from cD)
  cases (show od=none from dD)
  cases (show odt=.seq us.toArray nD from sD)
  have hnd:(kv.map (·.1)).Nodup:=by(refine AA P.keys ?_);decide +kernel
  refine PE (A:=A.deeper env) (h2' rfl) eD hnd P.len.2 (by(refine AA P.len.1 ?_);decide) P.at_ fun h'' tk D' nD' kk' hD'=>?_
  (refine Bq (B.leave ((p3.move ((AG.of_keeps (tk:=tk) kk').mono (fun _ q=>q) fun _ q=>q)).sp B.r)) ?_;rintro mv pu ep)
  (replace pu:=(eq2)▸pu)
  refine⟨.idict C0,ν,mv,pu,rfl,.mk D' _ (fun z=>?_) ⟨?_,hD'.mapOf,fun z=>?_⟩,q⟩
  ·(refine AI ((p3.r.xIn D' z).1) ?_;rintro o e)
   exact nomatch nD'.symm.trans e
  ·(refine AI Fx.ok.cfg.mods ?_;rintro o e)
   exact qT.mpr fun z=>nomatch nD'.symm.trans ((congrArg h'.get? z).trans (p3.r.stays _ _ e))
  ·have hv:=P.val (F:=C0) (fun i hi=>?_) z
   ·by_cases hz:z∈(List.range' 0 64).map fun i=>((Na.getD i 0:Nat):Int)
    ·(refine BS (hv.1 hz) ?_;rintro y t k1 k2)
     (refine AA k1 ?_;refine AA k2 ?_);exact .some _ t
    ·(refine AA (hv.2 hz) ?_;refine AA (PQ z hz) ?_);exact .none
   ·have key:∀ i,i<64->L.worth (Na.getD i 0)=some i:=by decide +kernel
    (refine AA (Je ..:) ?_;refine AA (key i ((List.mem_range'_1.mp hi).2)) ?_);rfl
end
end Mine.Lake
set_option maxHeartbeats 4000000
namespace Mine.Lake
section
variable{C:Al}{hn:Bool}{d:Nat}{ν:Pu}{K:PV->Pu->Prop}
structure Up(p:L.A6):Prop where
 ok:L.Ch p.1
 g:p.2∈L.gapsL
 o:BL p.1.1
 z:p.1.1.length<=10000
 t:∀ t,p.1.2=some t->t.length<=1000
noncomputable def F6(l:List Nat):Bool:=l.all (fun c=>decide (c<256))&&decide (l.length<=100)
theorem Dy(h:F6 l=true):BL l/\l.length<=1000:=by
 delta F6 at h
 rw [Bool.and_eq_true,List.all_eq_true] at h
 exact⟨fun c hc=>of_decide_eq_true (h.1 c hc),om (of_decide_eq_true h.2) (by decide)⟩
noncomputable def bI(d old new:List Nat):Bool:=decide (d.length+(Builtin.Bytes.occurrences (toB d) (toB old) 0 (toB d).size).length*new.length<=BE)&&decide ((CK d old new).length<=BE)
noncomputable def gapB(g:List Nat):Bool:=F6 g&&(F6 (L.AD g)&&(F6 (L.rstrip (L.AD g))&&(F6 (L.lstrip (L.AD g))&&(bI g [13,10] []&&(bI (CK g [13,10] []) [10] []&&decide (CK (CK g [13,10] []) [10] []=L.AD g))))))
theorem Rq:L.gapsL.all gapB=true:=by rfl
structure jd(g:List Nat):Prop where
 s:BL g/\g.length<=1000
 j:BL (L.AD g)/\(L.AD g).length<=1000
 r:BL (L.rstrip (L.AD g))/\(L.rstrip (L.AD g)).length<=1000
 l:BL (L.lstrip (L.AD g))/\(L.lstrip (L.AD g)).length<=1000
 f1:g.length+(Builtin.Bytes.occurrences (toB g) (toB [13,10]) 0 (toB g).size).length*0<=BE
 f2:(CK g [13,10] []).length<=BE
 f3:(CK g [13,10] []).length+(Builtin.Bytes.occurrences (toB (CK g [13,10] [])) (toB [10]) 0 (toB (CK g [13,10] [])).size).length*0<=BE
 f4:(CK (CK g [13,10] []) [10] []).length<=BE
 e:CK (CK g [13,10] []) [10] []=L.AD g
theorem DY(h:g∈L.gapsL):jd g:=by
 have h:=pr.mp Rq g h
 unfold gapB at h
 rw [Bool.and_eq_true,Bool.and_eq_true,Bool.and_eq_true,Bool.and_eq_true,Bool.and_eq_true,Bool.and_eq_true,decide_eq_true_eq] at h
 (refine bS h ?_;rintro h1 h2 h3 h4 h5 h6 h7)
 unfold bI at h5 h6
 rw [Bool.and_eq_true,decide_eq_true_eq,decide_eq_true_eq] at h5 h6
 exact⟨Dy h1,Dy h2,Dy h3,Dy h4,h5.1,h5.2,h6.1,h6.2,h7⟩
theorem Rs(hn:ps.length<=3)(hg:g0∈L.gapsL)(h:∀ p∈ps,Up p):GZ g0 ps:=
 ⟨hn,(DY hg).s.1,(DY hg).s.2,fun p hp=>⟨(h p hp).o,(DY (h p hp).g).s.1,(h p hp).z,(DY (h p hp).g).s.2,fun t e=>om ((h p hp).t t e) (by decide)⟩⟩
theorem Nc:∀ {ps:List L.A6} {x:L.A6},x∈L.BW ps->∃ p∈ps,x.1=p.1/\(x.2=L.AD p.2∨x.2=L.rstrip (L.AD p.2))
 | [],_,h=>(by cases h)
 | [(p,g)],x,h=>by
  cases pZ.mp h
  exact⟨_,.head _,rfl,.inr rfl⟩
 | (p,g)::q::r,x,h=>by
  rcases pj.mp h with e | h
  ·exact⟨_,.head _,by(refine AA e ?_;rfl),.inl (by(refine AA e ?_;rfl))⟩
  ·(refine Cp (Nc h) ?_;rintro y hy h1 h2)
   exact⟨y,.tail _ hy,h1,h2⟩
theorem Nd:∀ (ps:List L.A6),(L.BW ps).length=ps.length
 | []=>rfl
 | [_]=>rfl
 | (p,g)::q::r=>congrArg Nat.succ (Nd (q::r))
theorem QT:∀ (ps:List L.A6),(L.BW ps).map CP=ps.map CP
 | []=>rfl
 | [_]=>rfl
 | (p,g)::q::r=>congrArg (CP (p,g)::·) (QT (q::r))
theorem Nf(hn:ps.length<=3)(hg:g0∈L.gapsL)(h:∀ p∈ps,Up p):GZ (L.lstrip (L.AD g0)) (L.BW ps):=by
 refine⟨(Nd ps).symm▸hn,(DY hg).l.1,(DY hg).l.2,fun x hx=>?_⟩
 (refine Cp (Nc hx) ?_;rintro p hp e1 e2)
 refine⟨e1▸(h p hp).o,?_,e1▸(h p hp).z,?_,fun t e=>om ((h p hp).t t (e1▸e)) (by decide)⟩
 ·rcases e2 with e | e
  ·(refine AA e ?_);exact(DY (h p hp).g).j.1
  ·(refine AA e ?_);exact(DY (h p hp).g).r.1
 ·rcases e2 with e | e
  ·(refine AA e ?_);exact(DY (h p hp).g).j.2
  ·(refine AA e ?_);exact(DY (h p hp).g).r.2
noncomputable abbrev EI(ps:List L.A6):List PV:=ps.map fun p:L.A6=>PV.bytes p.2
theorem Ng:∀ (ps:List L.A6) (hne:ps≠[]),(EI (ps.map fun p=>(p.1,L.AD p.2))).set (ps.length - 1) (.bytes (L.rstrip (L.AD (ps.getLast hne).2)))=EI (L.BW ps)
 | [],h=>absurd rfl h
 | [_],_=>rfl
 | (p,g)::q::r,_=>by
  exact congrArg (PV.bytes (L.AD g)::·) (Ng (q::r) (List.cons_ne_nil _ _))
theorem Js(x:List Nat):Bf [32,9] x=L.lstrip x:=by
 exact congrArg (List.dropWhile · x) (funext fun c=>by(refine AA List.contains_cons ?_;refine AA List.contains_cons ?_;refine AA (Bool.or_false ..:) ?_;rfl))
theorem PR(x:List Nat):BP [32,9] x=L.rstrip x:=by
 have h:=Js x.reverse
 unfold Bf L.lstrip at h
 delta BP L.rstrip
 (refine AA h ?_;rfl)
theorem Jt:∀ (ps:List L.A6) (d:List Nat) (s:List (Nat×Nat×List Nat)) (n:Nat),BL d->d.length<=n->(∀ p∈ps,BL p.1.1/\BL p.2/\p.1.1.length<=10000/\p.2.length<=1000/\∀ t,p.1.2=some t->t.length<=10000)->BL (L.ED d s ps).1/\(L.ED d s ps).1.length<=n+11000*ps.length
 | [],d,s,n,ho,hz,_=>⟨ho,hz⟩
 | ((o,t),g)::r,d,s,n,ho,hz,h=>by
  (refine Ho (h _ (.head _)) ?_;rintro h1 h2 h3 h4 _)
  exact⟨((fun s'=>Jt r (d ++ o ++ g) s' (n+11000) (FK (FK ho h1) h2) (BM (BM hz h3 (ou _)) h4 (ou _)) fun p hp=>h p (.tail _ hp)) _).1,om ((fun s'=>Jt r (d ++ o ++ g) s' (n+11000) (FK (FK ho h1) h2) (BM (BM hz h3 (ou _)) h4 (ou _)) fun p hp=>h p (.tail _ hp)) _).2 (oy fun q=>nl (IZ n r.length) ⟨false,(nW (nP Ae (nM 11000 (nW Ag)))),(nP (nP Ae (nK 11000)) (nM 11000 Ag))⟩ rfl (qO q))⟩
theorem K1(h:GZ g0 ps):BL (L.AL g0 ps).1/\(L.AL g0 ps).1.length<=34000:=by
 have:=Jt ps g0 [] 1000 h.o0 h.z0 h.ok
 have hn:=h.n
 exact⟨this.1,om this.2 (by lia)⟩
theorem QU(x:Nat)(h:x<23):∃ g,(L.gapsL.map PV.bytes)[x]?=some (.bytes g)/\g∈L.gapsL:=by
 exact⟨L.gapsL[x],by(refine AA (qB) ?_;refine AA (o8 (h)) ?_);rfl,List.getElem_mem (h)⟩
theorem Rt(x:Nat)(h:x<8):∃ g,(L.plainsL.map PV.bytes)[x]?=some (.bytes g)/\g∈L.plainsL:=by
 exact⟨L.plainsL[x],by(refine AA (qB) ?_;refine AA (o8 (h)) ?_);rfl,List.getElem_mem (h)⟩
theorem Uq:∀ x,x<3->∃ l,([.bytes [32],.bytes [],.bytes [9]]:List PV)[x]?=some (.bytes l)/\l∈([[32],[],[9]]:List (List Nat))
 | 0,_=>⟨[32],rfl,by decide⟩
 | 1,_=>⟨[],rfl,by decide⟩
 | 2,_=>⟨[9],rfl,by decide⟩
theorem Ga:∀ g∈L.plainsL,BL g/\g.length<=1000:=fun g h=>Dy (pr.mp (show L.plainsL.all F6=true by rfl) g h)
theorem Ur{x:Nat}(h:(L.gapsL.map PV.bytes)[x]?=some (.bytes g))(q:G (.bytes g)):It ν Oc (.int (x:Int)) G:=Dl (l:=L.gapsL.map PV.bytes) x rfl h q
theorem Us{x:Nat}(h:(L.plainsL.map PV.bytes)[x]?=some (.bytes g))(q:G (.bytes g)):It ν NE (.int (x:Int)) G:=Dl (l:=L.plainsL.map PV.bytes) x rfl h q
end
section
variable{C:Al}{hn:Bool}{d:Nat}{ν:Pu}{K:PV->Pu->Prop}
noncomputable def Xr:CE:=.comp (.lo 1) (.lo 4) (.meth .replace (.meth .replace (.lo 1) [(.kv (.bytes [13,10])),(.kv (.bytes []))]) [(.kv (.bytes [10])),(.kv (.bytes []))]) [] [none,none]
noncomputable def je:CE:=.meth .lstrip (.itl 11 (.kv (.int 0))) [.kv (.bytes [32,9])]
noncomputable def jf:CE:=.meth .rstrip (.itl 11 (.neg (.kv (.int 1)))) [.kv (.bytes [32,9])]
noncomputable def K2(G:Qj)(k:Nat)(σ:St)(Q:KS):Prop:=match k with
 | 4=>(Bj G true Bg 29).e Xr σ fun p σ1=>Dd p fun l=>Hq σ1 11 (.ow l) (Q .next)
 | 3=>cL (Bj G true Bg 29) [je,jf] σ (VW (ja 11 (Q .next)))
 | _=>False
structure bR(C:Al):Prop where
 fx:AX C
 names:HF C
 worth:HD C
 guess:O8 C
 word:UI C
 field:Ly C
theorem W7(Lb:bR C){g0:List Nat}{ps:List L.A6}(hg:g0∈L.gapsL)(hne:ps≠[])(hn:ps.length<=3)(h:∀ p∈ps,Up p)(hG:∀ {f:Str} {l:List PV} {ν:Pu} {K:PV->Pu->Prop},AK C true (d+7) f l ν K->G f l ν K){raw nm:List Nat}{fs:List PV}(hnm:nm=L.subj)(hraw:raw.length<=1000000)(f1:L.strip (L.AD raw)=(L.AL (L.lstrip (L.AD g0)) (L.BW ps)).1)(f2:L.A9 (L.AL (L.lstrip (L.AD g0)) (L.BW ps)).1=(L.AL (L.lstrip (L.AD g0)) (L.BW ps)).2)(q:K (.bool true) ν):
  cS true (K2 G) (Bj G true Bg 29) [.sp 4,.sp 3,G9,HA] ⟨[x0,x1,x2,.fr (.lst (ps.map CP)),.fr (.lst (.bytes g0::EI ps)),x5,x6,x7,x8,.fr (.lst (.field nm raw::fs)),x10,x11,x12,x13],ν⟩ (FN K):=by
 have hgl:PV.bytes g0::EI ps=(g0::ps.map (·.2)).map PV.bytes:=by(refine AA List.map_cons ?_;refine AA qV ?_);rfl
 have hgm:∀ g∈g0::ps.map (·.2),g∈L.gapsL:=fun g hg'=>by
  rcases pj.mp hg' with e | hg'
  ·exact e▸hg
  ·(refine AE (qL.mp hg') ?_;rintro p hp rfl)
   exact(h p hp).g
 refine cut fun R hR=>⟨rfl,⟨?_⟩⟩
 (refine AA hgl ?_)
 refine Co.h (Bw (g:=PV.bytes) (fun g=>.bytes (L.AD g)) (g0::ps.map (·.2)) (by(refine AA qG ?_;refine AA (pK ..:) ?_);exact om (qb hn) (by decide)) (fun g hg' J hJ=>Ab (have k:=DY (hgm g hg');⟨List.cons_ne_nil _ _,k.f1,k.f2,⟨List.cons_ne_nil _ _,k.f3,k.f4,Yu hJ (congrArg PV.bytes k.e)⟩⟩)) (hR _ ?_))
 refine cut fun R hR=>?_
 have hlen:((g0::ps.map (·.2)).map fun g=>PV.bytes (L.AD g)).length=ps.length+1:=by(refine AA (pK ..:) ?_;refine AA qG ?_;refine AA (pK ..:) ?_;rfl)
 have hlast:((g0::ps.map (·.2)).map fun g=>PV.bytes (L.AD g))[((g0::ps.map (·.2)).map fun g=>PV.bytes (L.AD g)).length - 1]?=some (.bytes (L.AD (ps.getLast hne).2)):=by
  (refine AA hlen ?_;refine AA (Nat.add_sub_cancel ..:) ?_)
  obtain ⟨n,hn⟩:∃ n,ps.length=n+1:=⟨ps.length - 1,by have:=List.length_pos_iff.mpr hne;exact(Nat.succ_pred_eq_of_pos this).symm⟩
  (refine AA hn ?_;refine AA (qB) ?_;refine AA (qB) ?_;refine AA (List.getLast_eq_getElem ..:) ?_)
  have e:ps.length - 1=n:=Nat.sub_eq_of_eq_add hn
  (refine AA (o8 (pL hn.symm)) ?_)
  simp only [e,Option.map_some]
 refine H0 0 rfl rfl ⟨OY (OD (by(refine AA hlen ?_);exact pW _)) hlast ⟨CD rfl,by(refine AA hlen ?_);exact pW _,hR _ ?_⟩⟩
 have e:((((g0::ps.map (·.2)).map fun g=>PV.bytes (L.AD g)).set 0 (.bytes (Bf [32,9] (L.AD g0)))).set (((g0::ps.map (·.2)).map fun g=>PV.bytes (L.AD g)).length - 1) (.bytes (BP [32,9] (L.AD (ps.getLast hne).2))))=.bytes (L.lstrip (L.AD g0))::EI (L.BW ps):=by
  have hb:=Ng ps hne
  (refine AA (Js ..:) ?_;refine AA (PR ..:) ?_;refine AA hlen ?_;refine AA (Nat.add_sub_cancel ..:) ?_)
  obtain ⟨n,hn⟩:∃ n,ps.length=n+1:=⟨ps.length - 1,by have:=List.length_pos_iff.mpr hne;exact(Nat.succ_pred_eq_of_pos this).symm⟩
  (replace hb:=(hn)▸hb;rewrite [Nat.add_sub_cancel] at hb)
  (refine AA hn ?_;refine AA List.map_cons ?_;with_reducible_and_instances refine BO hb ?_;rewrite [EI];refine AA qV ?_;refine AA qV ?_)
  rfl
 (refine AA e ?_)
 have hz:=K1 (Nf hn hg h)
 refine⟨?_⟩
 (refine BO (QT ps) ?_)
 refine hG (NX Lb.fx (jZ Lb.fx) (Nf hn hg h) ?_)
 generalize (L.AL (L.lstrip (L.AD g0)) (L.BW ps)).2=T at f2 ⊢
 subst hnm
 refine⟨hG (Lz Lb.fx Lb.word (by decide) (by decide) (by decide) (by decide) rfl hraw ?_)⟩
 (refine AA f1 ?_)
 refine BD (fun _=>⟨hG (EH Lb.fx Lb.names Lb.worth Lb.guess hz.1 (om hz.2 (by decide)) ?_)⟩) fun h=>absurd rfl h
 (refine AA f2 ?_)
 exact(JW q (congrArg PV.bool (qe rfl)):K (.bool (decide (T=T))) ν)
end
section
variable{C:Al}{hn:Bool}{d:Nat}{ν:Pu}{K:PV->Pu->Prop}
theorem W8(Lb:bR C)(hl:lead∈([[32],[],[9]]:List (List Nat)))(hg:g0∈L.gapsL)(hne:ps≠[])(hn:ps.length<=3)(h:∀ p∈ps,Up p)(hG:∀ {f:Str} {l:List PV} {ν:Pu} {K:PV->Pu->Prop},AK C true (d+7) f l ν K->G f l ν K){x0 x1 x5 x6 x7 x8 x9 x10 x11 x12 x13:Slot}(q:K (.bool true) ν):
  cS true (K2 G) (Bj G true Bg 29) [QH,Ll,Lm,Ln,Lo,.sp 4,.sp 3,G9,HA] ⟨[x0,x1,.fr (.bytes lead),.ow (ps.map CP),.ow (.bytes g0::EI ps),x5,x6,x7,x8,x9,x10,x11,x12,x13],ν⟩ (FN K):=by
 have hp:=Rs hn hg h
 have hz:=K1 hp
 have hd:([83,117,98,106,101,99,116,58] ++ lead ++ (L.AL g0 ps).1 ++ [13,10,88,58,32,121,13,10,13,10,122]:List Nat)=L.subj ++ 58::(lead ++ ((L.AL g0 ps).1 ++ L.Ip)):=by
  (with_reducible_and_instances refine AA (pD ..:) ?_);rfl
 (refine Ho (L.VP hl hg hne (fun p hp=>⟨(h p hp).ok,(h p hp).g⟩) hd) ?_;rintro l1 l2 l3 l4 l5)
 have hlz:lead.length<=1:=by
  simp only [List.mem_cons,List.not_mem_nil,or_false] at hl
  rcases hl with rfl | rfl | rfl<;>decide
 refine⟨hG (NX Lb.fx (jZ Lb.fx) hp ?_)⟩
 have tail:∀ x1 x2 x5 x6 x7 x8 x10 x11 x12 x13,cS true (K2 G) (Bj G true Bg 29) [.sp 4,.sp 3,G9,HA] ⟨[x0,x1,x2,.fr (.lst (ps.map CP)),.fr (.lst (.bytes g0::EI ps)),x5,x6,x7,x8,.fr (.lst (.field L.subj (lead ++ (L.AL g0 ps).1)::fl [([88],[32,121])])),x10,x11,x12,x13],ν⟩ (FN K):=
  fun x1 x2 x5 x6 x7 x8 x10 x11 x12 x13=>W7 Lb hg hne hn h hG rfl (by(refine AA o9 ?_);lia) l4 l5 q
 generalize (L.AL g0 ps).1=D at l1 l2 l3 hz tail ⊢
 refine⟨hG (EH Lb.fx Lb.names Lb.worth Lb.guess hz.1 (om hz.2 (by decide)) ?_)⟩
 (refine AA l1 ?_)
 refine OX (fun h=>absurd rfl h) fun _=>?_
 have z1:([83,117,98,106,101,99,116,58] ++ lead:List Nat).length<=9:=BM (ou 8) hlz (ou _)
 have z2:=BM z1 hz.2 (ou _)
 have z3:=BM z2 (show ([13,10,88,58,32,121,13,10,13,10,122]:List Nat).length<=11 from ou _) (ou _)
 refine⟨A7 (ou 8) hlz (by decide),A7 z1 hz.2 (by decide),A7 z2 (ou 11) (by decide),?_⟩
 generalize ([83,117,98,106,101,99,116,58] ++ lead ++ D ++ [13,10,88,58,32,121,13,10,13,10,122]:List Nat)=H at l2 l3 z3 ⊢
 refine⟨hG (KH Lb.fx Lb.field (om z3 (by decide)) (by(refine AA (l2 ..:) ?_);exact(show 2<=1000000 by decide)) ?_)⟩
 (refine AA (l2 ..:) ?_)
 refine⟨rfl,Bw (g:=fun p:List Nat×List Nat=>.field p.1 p.2) (fun p=>.str (p.1.map L.Af)) [(L.subj,lead ++ D),([88],[32,121])] (show 2<=BE by decide) (fun p hp J hJ=>Ab ⟨hG (Lb.word _ _ _ p.1 p.2 ?_ ?_ hJ)⟩) ⟨CD rfl,[L.subj.map L.Af,[88].map L.Af],[[115,117,98,106,101,99,116],[120]],rfl,rfl,rfl,OX (fun h=>absurd (by rfl) h) fun _=>?_⟩⟩
 ·rcases pj.mp hp with e | hp
  ·(refine AA e ?_);exact(by decide:BL L.subj)
  ·cases pZ.mp hp;exact(by decide:BL [88])
 ·rcases pj.mp hp with e | hp
  ·(refine AA e ?_);exact(by decide:L.subj.length<=BE)
  ·cases pZ.mp hp;exact(by decide:[88].length<=BE)
 ·exact OX (fun hx=>absurd ((FI H rfl).trans l3) hx) fun _=>Av (Cu (tail _ _ _ _ _ _ _ _ _ _))
end
end Mine.Lake
set_option maxHeartbeats 4000000
namespace Mine.Lake
section
variable{C:Al}{hn:Bool}{d:Nat}{ν:Pu}{K:PV->Pu->Prop}
theorem Ut(Lb:bR C){lead g0:List Nat}(hl:lead∈([[32],[],[9]]:List (List Nat)))(hg:g0∈L.gapsL)(hν:NY ν P 2)(hG:∀ {f:Str} {l:List PV} {ν:Pu} {K:PV->Pu->Prop},AK C true (d+7) f l ν K->G f l ν K)(q:∀ ν',K (.bool true) ν'):
  cS true (K2 G) (Bj G true Bg 29) [T0,QH,Ll,Lm,Ln,Lo,.sp 4,.sp 3,G9,HA] ⟨[.un,.fr (.addr P),.fr (.bytes lead),.ow [],.ow [.bytes g0],.un,.un,.un,.un,.un,.un,.un,.un,.un],ν⟩ (FN K):=by
 refine cut fun R hR=>⟨rfl,⟨hG (F5 Lb.fx _ _ _ P 2 3 hν (by decide) (by decide) (by decide) fun x ν1 hx hν1=>?_)⟩⟩
 have hx:=pI.mp hx
 have hr:∃ r:List Int,rangeInts 0 (1+(x:Int)).toNat 1=r/\r.length=x+1:=⟨_,rfl,by delta rangeInts;(refine AA (pK ..:) ?_;refine AA List.length_range ?_);exact Nat.add_comm _ _⟩
 (refine AE hr ?_;clear hr;rintro r hr hrl)
 refine⟨⟨[1+(x:Int)],rfl,fun n hn=>?_⟩,?_⟩
 ·cases pZ.mp hn
  exact⟨qJ (by decide) (Int.le_trans (by decide:(0:Int)<=1) (Int.le_add_of_nonneg_right (pG x))),Int.lt_trans (Int.add_lt_add_left (pI.mpr hx) 1) (by decide)⟩
 dsimp only [CJ]
 (refine AA hr ?_)
 refine⟨om (show r.length<=3 by exact om (pL hrl) hx) (by decide),?_⟩
 refine NA PV.int (fun t:List L.A6×Slot×Pu=>⟨[.un,.fr (.addr P),.fr (.bytes lead),.ow (t.1.map CP),.ow (.bytes g0::EI t.1),t.2.1,.un,.un,.un,.un,.un,.un,.un,.un],t.2.2⟩) (fun t r=>t.1.length+r.length=x+1/\(∀ p∈t.1,Up p)/\NY t.2.2 P (3+22*t.1.length)) ([],.un,ν1) r ⟨by(refine AA hrl ?_);exact qC _,⟨(fun _ h=>nomatch h),hν1⟩⟩ (fun t h=>hR _ ?_) fun t i r h J hJ _ _=>?_
 ·obtain ⟨ps,w,ν2⟩:=t
  (have h1:=h.1;have h2:=h.2.1;have h3:=h.2.2;clear h)
  have h1:ps.length=x+1:=h1
  dsimp only at h2 h3 ⊢
  exact W8 Lb hl hg (fun e=>by cases (e:ps=[]);injection h1) (by(refine AA h1 ?_);exact hx) h2 hG (q ν2)
 ·obtain ⟨ps,w,ν2⟩:=t
  (have h1:=h.1;have h2:=h.2.1;have h3:=h.2.2;clear h)
  dsimp only at h1 h2 h3 hJ ⊢
  (replace h1:=(qG)▸h1)
  have hpl:ps.length<=2:=by lia
  clear hR hr hrl
  have lz:(ps.map CP).length<BE:=by(refine AA (pK ..:) ?_);exact pC hpl (by decide)
  have gz:(PV.bytes g0::EI ps).length<BE:=by(refine AA qG ?_;refine AA (pK ..:) ?_);exact pC (qb hpl) (by decide)
  have fin:∀ (o:List Nat) (t:Option (List Nat)) ν3,L.Ch (o,t)->BL o->o.length<=10000->(∀ s,t=some s->s.length<=1000)->NY ν3 P (3+22*ps.length+21)->(Bj G true Bg 28).s [] ⟨[],ν⟩ (fun _ _=>True)->cS true Bg (Bj G true Bg 28) [Xi] ⟨[.un,.fr (.addr P),.fr (.bytes lead),.ow (ps.map CP ++ [.tup [.bytes o,Wt t]]),.ow (.bytes g0::EI ps),.fr (.int i),.un,.un,.un,.un,.un,.un,.un,.un],ν3⟩ J:=fun o t ν3 k1 k2 k3 k4 k5 _=>by
   refine⟨hG (F5 Lb.fx _ _ _ P _ 23 k5 (by lia) (by decide) (by decide) fun y ν4 hy hν4=>?_)⟩
   (refine AE (QU y (pI.mp hy)) ?_;rintro g hg1 hg2)
   refine Ur hg1 ⟨gz,?_⟩
   have:=hJ (ps ++ [((o,t),g)],.fr (.int i),ν4) ⟨by(refine AA o9 ?_);refine(?_:ps.length+1+r.length=x+1);exact Nat.le_antisymm (oy fun q=>nl (FO x ps.length r.length) ⟨false,(nP (nW (nW Ae)) (nP Ag (nW BK))),(nP (nP (nW Ag) BK) (nW Ae))⟩ rfl (nQ q (pL h1))) (oy fun q=>nl (FO ps.length r.length x) ⟨false,(nP (nW (nP (nW Ae) Ag)) (nW BK)),(nP (nW BK) (nP Ae (nW Ag)))⟩ rfl (nQ q (pL (Eq.symm h1)))),fun p hp=>(pV.mp hp).elim (h2 p) fun hp=>by cases pZ.mp hp;exact⟨k1,hg2,k2,k3,k4⟩,hν4.mono (by(refine AA o9 ?_);refine(?_:_<=3+22*((ps.length+1:Nat):Int));exact Int.le_refl _)⟩
   dsimp only at this
   (replace this:=(qh)▸this;rewrite [EI] at this;replace this:=(qh)▸this)
   exact this
  refine⟨hG (F5 Lb.fx _ _ _ P _ 3 h3 (by lia) (by decide) (by decide) fun y ν3 hy hν3=>BD (fun hlt=>⟨hG (PJ Lb.fx (F5 Lb.fx) hν3 (by lia) fun o t ν4 k1 k2 k3 k4 k5=>⟨lz,?_⟩)⟩) fun hge=>⟨hG (F5 Lb.fx _ _ _ P _ 8 hν3 (by lia) (by decide) (by decide) fun z ν4 hz hν4=>?_)⟩)⟩
  ·exact fin o t ν4 (.inl k1) k2 k3 k4 (k5.mono (Int.le_refl _)) trivial
  ·(refine AE (Rt z (pI.mp hz)) ?_;rintro o ho1 ho2)
   refine Us ho1 ⟨CD rfl,lz,?_⟩
   exact fin o none ν4 (.inr ⟨ho2,rfl⟩) (Ga o ho2).1 (om (Ga o ho2).2 (by decide)) (fun _ e=>(nS e)) (hν4.mono (by lia)) trivial
theorem Uu(Lb:bR C)(hν:NY ν P 0)(hG:∀ {f:Str} {l:List PV} {ν:Pu} {K:PV->Pu->Prop},AK C true (d+7) f l ν K->G f l ν K)(q:∀ ν',K (.bool true) ν'):
  cS true (K2 G) (Bj G true Bg 29) [Xh,T0,QH,Ll,Lm,Ln,Lo,.sp 4,.sp 3,G9,HA] ⟨[.un,.fr (.addr P),.un,.un,.un,.un,.un,.un,.un,.un,.un,.un,.un,.un],ν⟩ (FN K):=by
 refine cut fun R hR=>⟨CD rfl,⟨hG (F5 Lb.fx _ _ _ P 0 3 hν (by decide) (by decide) (by decide) fun x ν1 hx hν1=>?_)⟩⟩
 (refine AE (Uq x (pI.mp hx)) ?_;rintro lead hl1 hl2)
 refine Dl x rfl hl1 ⟨CD rfl,⟨hG (F5 Lb.fx _ _ _ P _ 23 hν1 (by decide) (by decide) (by decide) fun y ν2 hy hν2=>?_)⟩⟩
 (refine AE (QU y (pI.mp hy)) ?_;rintro g hg1 hg2)
 exact Ur hg1 ⟨CD rfl,hR _ (Ut Lb hl2 hg2 hν2 hG q)⟩
end
section
variable{C:Al}{hn:Bool}{d:Nat}{ν:Pu}{K:PV->Pu->Prop}
noncomputable def og(st:Stmt):Option Nat:=match A3 st with
 | some k=>some k
 | none=>if (BB st).ctorIdx=8 then some 4 else none
noncomputable def W9:List Stmt:=(A8 (AP 73)).tail
noncomputable def lm:List CS:=[Xh,T0,QH,Ll,Lm,Ln,Lo,.sp 4,.sp 3,G9,HA]
noncomputable abbrev jg:Ge:=Ej [AB "pieces",AB "gaps"] og (AP 73)
theorem XA:FU 30 jg W9=some lm:=by kernel_rfl
noncomputable def Ju(i:Nat):Stmt:=W9.getD i Nj
theorem XB:Ju 7=.Assign [.Name (AB "bare") (DU (Ju 7)).pos] (.ListComp (PN (BB (Ju 7))).1 (PN (BB (Ju 7))).2.1 (PN (BB (Ju 7))).2.2 (BB (Ju 7)).pos) (Ju 7).pos:=by kernel_rfl
noncomputable def mq(e:Expr):Nat:=match e,view e with
 | _,.tup _ k _=>k
 | _,_=>0
theorem XC:Ju 8=.Assign [.Tuple [.Subscript (.Name (AB "bare") (Cv (Cv (DU (Ju 8)) 0) 0).pos) (Cv (Cv (DU (Ju 8)) 0) 1) (Cv (DU (Ju 8)) 0).pos,.Subscript (.Name (AB "bare") (Cv (Cv (DU (Ju 8)) 1) 0).pos) (Cv (Cv (DU (Ju 8)) 1) 1) (Cv (DU (Ju 8)) 1).pos] (mq (DU (Ju 8))) (DU (Ju 8)).pos] (.Tuple [Cv (BB (Ju 8)) 0,Cv (BB (Ju 8)) 1] (mq (BB (Ju 8))) (BB (Ju 8)).pos) (Ju 8).pos:=by kernel_rfl
theorem bJ(Fx:AX C):∀ st∈W9,Lf C true d gv jg (K2 (AK C true d)) st:=by
 refine OZ [7,8] (by kernel_rfl) (fun st h=>Li h) fun i hi=>?_
 simp only [List.mem_cons,List.not_mem_nil,or_false] at hi
 rcases hi with rfl | rfl
 ·refine IO (k:=4) (by kernel_rfl) fun cx F g σ Q h=>?_
  refine(?_:Fc cx (exec (Ju 7) cx.env) σ Q)
  (refine AA XB ?_)
  exact PL (n:=28) (c:=Xr) (Gm:=AK C true d) Fx.ok (G8 Fx.ok 28) F g (by kernel_rfl) (by kernel_rfl) (by kernel_rfl) h
 ·refine IO (k:=3) (by kernel_rfl) fun cx F g σ Q h=>?_
  refine(?_:Fc cx (exec (Ju 8) cx.env) σ Q)
  (refine AA XC ?_)
  exact bD (c1:=.kv (.int 0)) (c2:=.neg (.kv (.int 1))) (G8 Fx.ok 29) F g (by kernel_rfl) (by kernel_rfl) (by kernel_rfl) (fun σ K h=>h) (by kernel_rfl) (fun σ K h=>h) (by kernel_rfl) h
noncomputable def Uv:Stmt:=(A8 (AP 73)).getD 0 Nj
theorem Uw:A8 (AP 73)=.Assign [.Name (AB "purse") (DU Uv).pos] (.Call (.Name (AB "_law_purse") (Cv (BB Uv) 0).pos) [.Name (AB "script") (Cv (BB Uv) 1).pos] [] (BB Uv).pos) Uv.pos::W9:=by kernel_rfl
theorem Ux(Lb:bR C){s:Shared}{a:Addr}{l:List Int}(I:Cz C A true (d+8) fr X none s)(hv:AF C s.heap X [.lst (l.map .int)] vs)(hm:C.mg (AB "law")=some (.ref a))(q:∀ s',AG C Ax (inF fr) s s'->Kt (.bool true) s'):wpAny (model C.prog C.w) A (call (.ref a) vs) Kt E s:=by
 have Fx:=Lb.fx
 (refine AI ((Fx.defs _ 73 (by kernel_rfl) a hm).all (l:=[.lst (l.map .int)]) (by kernel_rfl) rfl) ?_;rintro fd D)
 refine B6 Fx.ok.cfg (n:=13) D (by kernel_rfl) rfl I hv fun env s₁ B=>?_
 (refine AA Uw ?_)
 have g:AU gv jg (Dk C env X fr true (d+7) s.heap none (namesOf (AP 73))):=DT B
 refine pT (wpAny_Assign_Name (wpAny_Call_NameR (Eb (p:=.fn (AB "_law_purse")) Fx.ok.cfg ⟨rfl,rfl,rfl⟩ g B.ha B.r (by kernel_rfl) fun fv s₂ O₂ p₂ rf=>?_)) (Ct rfl))
 induction rf with | mk fa hfa=>
 (refine BS (Fx.ok.fns _ (AB "_law_purse") (show gv (AB "_law_purse")=some _ from by kernel_rfl) fa hfa) ?_;rintro o fdP ho hd)
 refine Calls.callWith_function (o:=o) (fd:=fdP) (BQ rfl (qK ?_ (AR rfl)))
 (refine AE (p₂.r.fr 0 (.lst (l.map .int)) rfl) ?_;rintro v hl rv)
 refine BG (Γ:=jg) g (by kernel_rfl) p₂.r.env.kind hl (by kernel_rfl) (wpAny_items_nil ⟨⟨p₂.r.stays _ _ ho,hd⟩,?_⟩)
 refine PO (fr:=env::fr) Fx ⟨(B.ha).frames,(B.ha).hand' p₂.r,(B.ha).hn,(B.ha).depth,(B.ha).units,p₂.r.stays,p₂.r.frames,p₂.r.exF,trivial,(fun _ h=>(by cases h)),fun a h=>⟨p₂.r.exIn a h,p₂.r.exBase a h⟩⟩ (AF.single rv) hfa fun P c ns s₃ w hn1 hn2=>?_
 refine B8 (R.begin p₂.r w rfl) (.inl ((g.sc _ _ (show jg.sc.names.lookup (AB "purse")=some .local from by kernel_rfl) (by decide)).1)) fun h' tk T st=>?_
 have sp:=(R.begin p₂.r w rfl).storeFr (p:=.addr P) (tk:=tk) (show (namesOf (AP 73))[1]?=some _ from by kernel_rfl) st rfl
 refine(Oa Fx.ok (cx:=Cx.ext (Dk C env X fr true (d+7) s.heap none (namesOf (AP 73))) [P,c]) ⟨rfl,rfl,rfl⟩ ⟨g.nm,g.sc,g.gv⟩ XA (bJ Fx) (Uu (K:=fun p _=>p=.bool true) Lb ⟨c,ns,0,rfl,hn1,hn2,Int.le_refl _,Int.le_refl _⟩ (fun h=>h) fun _=>rfl)).seq (B.ha).ext sp.r fun f s₄ hx=>hx.rec fun O' σ' out p hf hq=>?_
 have pp:=sp.trans p
 have kx1:KX Ax (inF (env::fr)) s₁.heap s₃.heap:=(lj p₂.mv rfl).kx.trans w.mv.kx
 have dead2:∀ b,s₂.heap.get? b=none->s.heap.get? b=none:=fun b e=>by
  have e1:=MC (lj p₂.mv rfl).kx (fun _ q=>q) e
  cases q:s.heap.get? b with
  | none=>rfl
  | some o=>(replace e1:=(B.keep b o q)▸e1);exact sN e1
 have kx3:KX Ax (inF fr) s.heap s₄.heap:=((KX.of_keeps B.keep).trans_news kx1 (fun _ q=>q.elim) fun b hb=>(Ek B.fr hb).imp id fun q=>by(refine AA q ?_);exact B.loc).trans_news pp.kx (fun b hb=>.inr (by
  rcases hb with hb | ⟨_,hb⟩ | hb | ⟨y,_,hb⟩
  ·cases hb with
   | head=>exact dead2 _ w.pn
   | tail _ hb=>cases Fv hb;exact dead2 _ w.cn
  ·exact nS hb
  ·(refine AA hb ?_);exact B.loc
  ·exact B.cells y b hb)) fun b hb=>(Ek B.fr hb).imp id fun q=>by(refine AA q ?_);exact B.loc
 have hfin:f=.ret (.bool true):=by
  cases out with
  | ret pv=>
   (refine AE hf ?_;clear hf;rintro v e2 rv)
   have hq:=hq
   subst hq
   (refine AA e2 ?_;refine AA (show v=.bool true from rv) ?_;rfl)
  | next=>exact PV.noConfusion (show PV.none=.bool true from hq)
  | brk=>exact hq.elim
  | cont=>exact hq.elim
 subst hfin
 refine q s₄ ?_
 (refine Bm B.sh ?_;rintro a1 a2 e1)
 obtain ⟨b1,b2,e2,_⟩:=p₂.mv
 obtain ⟨c1,c2,e3,_⟩:=w.mv
 (refine Bm pp.sh ?_;rintro d1 d2 e4)
 subst e1 e2 e3 e4
 exact⟨d1,d2,rfl,kx3,fun _=>(pp.r.stays)⟩
end
section
variable{C:Al}{hn:Bool}{d:Nat}{ν:Pu}{K:PV->Pu->Prop}
end
section
variable{h:Heap}
theorem Cn{α:Type}{o:Option α}{p:α->Bool}(e:o.any p=true):∃ x,o=some x/\p x=true:=by
 induction o with
 | none=>exact fT e
 | some x=>exact⟨x,rfl,e⟩
theorem BJ(e:(a&&b)=true):a=true/\b=true:=Bool.and_eq_true_iff.mp e
theorem Uy{v:Value}(e:Yw v=some a):v=.ref a:=by
 induction v<;>first | exact nS e | exact congrArg _ (pP e)
theorem Gb{v:Value}(e:vInt v=some i):∃ t,v=.int i t:=by
 induction v<;>first | exact nS e | exact⟨_,by rw [←Option.some.inj e]⟩
theorem Nh{v:Value}(e:vStr v=some s):∃ t,v=.str s t:=by
 induction v<;>first | exact nS e | exact⟨_,by rw [←Option.some.inj e]⟩
theorem Uz{v:Value}(e:cU v=some b):∃ t,v=.bytes b t:=by
 induction v<;>first | exact nS e | exact⟨_,by rw [←Option.some.inj e]⟩
theorem Jv{d:Data}(e:Yx d=some x):∃ n,d=.seq x n:=by
 induction d<;>first | exact nS e | exact⟨_,by rw [←Option.some.inj e]⟩
theorem XD{d:Data}(e:ma d=some x):d=.func x:=by
 induction d<;>first | exact nS e | exact congrArg _ (pP e)
theorem U0{d:Data}(e:cV d=some x):d=.cls x:=by
 induction d<;>first | exact nS e | exact congrArg _ (pP e)
theorem U1{d:Data}(e:cW d=some x):d=.fields x:=by
 induction d<;>first | exact nS e | exact congrArg _ (pP e)
inductive Xs{α:Type}(h:Heap)(D:Data->Option α)(v:Value):Addr×Obj×α->Prop where
 | mk (a:Addr) (o:Obj) (x:α) (e:v=.ref a) (g:h.get? a=some o) (d:D o.data=some x):Xs h D v (a,o,x)
theorem FL{D:Data->Option α}{y:Addr×Obj×α}(e:Ks h D v=some y):Xs h D v y:=by
 (refine AE (AN e) ?_;rintro a e1 e)
 (refine AE (AN e) ?_;rintro o e2 e)
 (refine AE (Ad e) ?_;rintro x e3 e)
 rw [←e]
 exact .mk a o x (Uy e1) e2 e3
theorem MD{a:Addr}(e:Yy h v=some (a,fd)):v=some (.ref a)/\∃ o,h.get? a=some o/\o.cls=.type "function" /\ o.data=.func fd:=by
 (refine AE (AN e) ?_;rintro w e1 e)
 (refine AE (AN e) ?_;rintro y e2 e)
 induction FL e2 with | mk a' o x e3 e4 e5=>
 (refine AM (A2 e) ?_;rintro e6 e)
 have ea:a'=a:=congrArg Prod.fst (pP e)
 have ex:x=fd:=congrArg Prod.snd (pP e)
 rw [ea] at e3 e4
 rw [ex] at e5
 exact⟨e1.trans (congrArg some e3),o,e4,eq_of_beq e6,XD e5⟩
theorem QV{c:ClassData}(e:clD h v=some (a,c)):v=some (.ref a)/\∃ o,h.get? a=some o/\o.cls=.type "type" /\ o.data=.cls c/\c.hasDict=true/\c.hasDel=false/\h.isNs c.ns=true:=by
 (refine AE (AN e) ?_;rintro w e1 e)
 (refine AE (AN e) ?_;rintro y e2 e)
 induction FL e2 with | mk a' o x e3 e4 e5=>
 (refine AM (A2 e) ?_;rintro e6 e)
 have ea:a'=a:=congrArg Prod.fst (pP e)
 have ex:x=c:=congrArg Prod.snd (pP e)
 rw [ea] at e3 e4
 rw [ex] at e5
 have e6:=BJ e6
 rw [ex] at e6
 have e7:=BJ e6.2
 exact⟨e1.trans (congrArg some e3),o,e4,eq_of_beq e6.1,U0 e5,e7.1,(Bool.not_eq_true' _).mp (BJ e7.2).1,(BJ e7.2).2⟩
theorem bK{c:ClassData}{a:Addr}{bm:List Value}(k1:o.cls=.type "type")(k2:o.data=.cls c)(k3:c.hasDict=true)(k4:c.hasDel=false)(e1:c.mro=.ref a::bm)(hs:o.slots=#[s0,s1,s2,s3,some (.builtin newId),s5]):o=excClassObj c.name c.qualname a c.ns c.bases bm true c.slotNames c.subclasses c.abstract c.collection o.dict s0 s1 s2 s3 s5 newId:=by
 cases o with | mk oc od oda os=>
 cases c with | mk cn cb cm cns cq chd csn csu cab cco chdel=>
 have k1:oc=_:=k1
 have k2:oda=_:=k2
 have k3:chd=_:=k3
 have k4:chdel=_:=k4
 have e1:cm=_:=e1
 have hs:os=_:=hs
 rw [k1,k2,k3,k4,e1,hs]
theorem ME(e:clB h v bm newId=true):∃ a c k0 k1 k2 k3 k5 dd,clD h v=some (a,c)/\v=some (.ref a)/\h.get? a=some (excClassObj c.name c.qualname a c.ns c.bases bm true c.slotNames c.subclasses c.abstract c.collection dd k0 k1 k2 k3 k5 newId)/\h.Ns c.ns (h.nsMap c.ns):=by
 refine Ap fun G kk=>?_;(refine AE (Cn e) ?_;rintro ⟨a,c⟩ hc e)
 obtain ⟨hv,o,ho,k1,k2,k3,k4,k5⟩:=QV hc
 (refine AE (Cn (BJ e).2) ?_;rintro o' ho' e2);refine kk ?_
 rw [(Option.some.inj (ho'.symm.trans ho))] at e2
 exact⟨a,c,_,_,_,_,_,o.dict,hc,hv,ho.trans (congrArg some (bK k1 k2 k3 k4 (eq_of_beq (BJ e).1) (eq_of_beq e2))),.of_isNs k5⟩
theorem MF(e:clD h v=some (a,c))(x:Str):Dx h v x=h.nsMap c.ns x:=by
 delta Dx
 rw [e];rfl
theorem XE{o:Obj}{vs:List Value}(e1:o.cls=.type "tuple")(e2:o.dict=none)(e3:o.slots=#[])(e4:o.data=.seq vs.toArray n):o={ cls:=.type "tuple",data:=.seq vs.toArray n }:=by
 cases o with | mk oc od oda os=>
 have e1:oc=_:=e1
 have e2:od=_:=e2
 have e3:os=_:=e3
 have e4:oda=_:=e4
 rw [e1,e2,e3,e4]
section
variable{C:Al}(hC:C.mg=gm h)
include hC
mutual
theorem Xu:∀ (p:PV) (v:Value),vB h p v=true->AJ C h Ax p v
 | .int i,v,e=>by
  (refine AI (Gb (eq_of_beq e)) ?_;rintro t e)
  rw [e];exact .mk _
 | .str s,v,e=>by
  (refine AE (Cn e) ?_;rintro x e1 e)
  have e:=BJ e
  (refine AI (Nh e1) ?_;rintro t e1)
  have m:=ML.mk (om (Nat.le_of_ble_eq_true e.2) (by decide)) t
  rw [←eq_of_beq e.1,OH] at m
  rw [e1,←eq_of_beq e.1]
  exact m
 | .bytes b,v,e=>by
  (refine AE (Cn e) ?_;rintro x e1 e)
  have e:=BJ e
  have e3:=BJ e.2
  (refine AI (Uz e1) ?_;rintro t e1)
  rw [e1,eq_of_beq e.1]
  exact .mk (fun c hc=>Nat.lt_succ_of_le (Nat.le_of_ble_eq_true (pr.mp e3.1 c hc))) (om (Nat.le_of_ble_eq_true e3.2) (by decide)) _
 | .tup l,v,e=>by
  (refine AE (Cn e) ?_;rintro y e0 e)
  induction FL e0 with | mk a o vs e1 e2 e3=>
  have e:=BJ e
  have f2:=BJ (BJ e.2).2
  (refine AI (Jv e3) ?_;rintro n e3)
  rw [e1]
  exact .mk (om (Nat.le_of_ble_eq_true (BJ f2.2).1) (by decide)) a vs.toList (fun q=>q) ⟨n,e2.trans (congrArg some (XE (eq_of_beq e.1) (qm.mp (BJ e.2).1) (Array.isEmpty_iff.mp f2.1) (e3)))⟩ (U2 l vs.toList (BJ f2.2).2)
 | .fn n,v,e=>by
  have e:=e
  have e:=BJ e
  (refine AI (Option.isSome_iff_exists.mp e.2) ?_;rintro ⟨a,fd⟩ hf)
  have hv:=pP (MD hf).1
  have e1:=eq_of_beq e.1
  rw [hv] at e1 ⊢
  exact .mk a (hC▸e1)
 | .kls n,v,e=>by
  have e:=e
  have e:=BJ e
  (refine AE (Cn e.2) ?_;rintro ⟨a,c⟩ hf _)
  have e1:=eq_of_beq e.1
  rw [(Option.some.inj (QV hf).1)] at e1 ⊢
  exact .mk a (hC▸e1)
 | .bi n,v,e=>eq_of_beq (show (v==.builtin n)=true from e)
 | .ty n,v,e=>eq_of_beq (show (v==.type n)=true from e)
 | .none,_,e=>fT e
 | .bool _,_,e=>fT e
 | .lst _,_,e=>fT e
 | .field _ _,_,e=>fT e
 | .idict _,_,e=>fT e
 | .sdict _,_,e=>fT e
 | .addr _,_,e=>fT e
theorem U2:∀ (ps:List PV) (vs:List Value),jq h ps vs=true->AF C h Ax ps vs
 | [],vs,e=>List.isEmpty_iff.mp (show vs.isEmpty=true from e)
 | p::ps,[],e=>fT e
 | p::ps,v::vs,e=>have e:=BJ (show (vB h p v&&jq h ps vs)=true from e);.mk _ _ (Xu p _ e.1) (U2 ps _ e.2)
end
end
end
section
end
section
variable{C:Al}{hn:Bool}{d:Nat}{ν:Pu}{K:PV->Pu->Prop}
end
section
noncomputable def Gc(w:World)(h:Heap):Al:={ prog:=pw,w:=w,base:=h,mg:=gm h,mb:=gb h,fieldCls:=WJ (fieldV h),wordFn:=WJ (Dx h (fieldV h) "word") }
noncomputable def lu(st:Stmt):Bool:=(BA st).kind==.function&&!(BA st).isCoroutine&&!(BA st).isGenerator
structure KI(h:Heap)(v:Option Value)(st:Stmt)(a:Addr)(fd:FuncData)(o:Obj):Prop where
 v:v=some (.ref a)
 oe:h.get? a=some o
 c:o.cls=.type "function"
 de:o.data=.func fd
 b:fd.body=.stmts (A8 st)
 s:fd.scope=BA st
 p:fd.params=BR st
 k:Tx h fd=true
 sb:lu st=true
variable{h:Heap}{w:World}
theorem U3(e:gv x=some p):(x,p)∈gvl:=mem_lookup e
noncomputable def PS(h:Heap):List (Option Value×Stmt):=(defsL.map fun x=>(gm h x.1,AP x.2)) ++ [(Dx h (fieldV h) "word",Ar 51 1),(Dx h (fieldV h) "__init__",Ar 51 0),(Dx h (DV h) "__init__",Ar 7 0)]
theorem Ru:specs h defsL=(PS h).map (·.1):=by
 rfl
theorem K3:Ty defsL pw=(PS h).map (·.2):=by
 rfl
theorem Rv:((Ty defsL pw).all lu)=true:=by kernel_rfl
theorem Gd(e1:(specs h defsL).map (JY h)=(Ty defsL pw).map QG)(e2:((specs h defsL).all fun v=>(Yy h v).any fun y=>Tx h y.2)=true)(hx:x∈PS h):∃ a fd o,KI h x.1 x.2 a fd o:=by
 have hd:=pr.mp e2 x.1 (qL.mpr ⟨x,hx,rfl⟩)
 rw [Ru,K3,List.map_map,List.map_map] at e1
 have hp:=List.map_inj_left.mp e1 x hx
 have hp:JY h x.1=QG x.2:=hp
 delta JY at hp
 cases hf:Yy h x.1 with
 | none=>(replace hd:=(hf)▸hd);exact fT hd
 | some y=>
  refine Ap fun G kk=>?_;obtain ⟨a,fd⟩:=y
  rw [hf] at hd hp
  obtain ⟨hv,o,h1,h2,h3⟩:=MD hf;refine kk ?_
  exact⟨a,fd,o,hv,h1,h2,h3,congrArg (·.1) (pP hp),congrArg (·.2.1) (pP hp),congrArg (·.2.2) (pP hp),hd,(pr.mp Rv x.2 (K3▸qL.mpr ⟨x,hx,rfl⟩))⟩
theorem XF(e:Yz h fd=true):h.CodeRec fd.code fd.qualname:=by
 (refine AE (Cn e) ?_;rintro y e0 e)
 induction FL e0 with | mk c o vs e1 e2 e3=>
 have e:=eq_of_beq e
 (refine AE (AN e) ?_;rintro v e4 e)
 (refine AI (Nh e) ?_;rintro t e)
 rw [e] at e4
 exact⟨c,o,vs,t,e1,e2,U1 e3,e4⟩
theorem U4{v:Value}(e:WK h v [i,j]=true):∃ T o n x y,v=.ref T/\h.get? T=some o/\o.data=.seq #[.int i x,.int j y] n:=by
 (refine AE (Cn e) ?_;rintro y e0 e)
 induction FL e0 with | mk T o vs e1 e2 e3=>
 have e:vs.toList.map vInt=[some i,some j]:=eq_of_beq e
 refine Ap fun G kk=>?_;(refine CQ (List.map_eq_cons_iff.mp e) ?_;rintro a l ea fa e)
 (refine CQ (List.map_eq_cons_iff.mp e) ?_;rintro b l' eb fb e)
 (refine AI (Gb fa) ?_;rintro x fa)
 (refine AI (Gb fb) ?_;rintro y fb)
 (refine AI (Jv e3) ?_;rintro n e3);refine kk ?_
 rw [eb,List.map_eq_nil_iff.mp e,fa,fb] at ea
 rw [Array.toList_inj.mp (ea:vs.toList=#[.int i x,.int j y].toList)] at e3
 exact⟨T,o,n,x,y,e1,e2,e3⟩
theorem U5{v:Value}(e:WK h v [i]=true):∃ T o n x,v=.ref T/\h.get? T=some o/\o.data=.seq #[.int i x] n:=by
 (refine AE (Cn e) ?_;rintro y e0 e)
 induction FL e0 with | mk T o vs e1 e2 e3=>
 have e:vs.toList.map vInt=[some i]:=eq_of_beq e
 refine Ap fun G kk=>?_;(refine CQ (List.map_eq_cons_iff.mp e) ?_;rintro a l ea fa e)
 (refine AI (Gb fa) ?_;rintro x fa)
 (refine AI (Jv e3) ?_;rintro n e3);refine kk ?_
 rw [List.map_eq_nil_iff.mp e,fa] at ea
 rw [Array.toList_inj.mp (ea:vs.toList=#[.int i x].toList)] at e3
 exact⟨T,o,n,x,e1,e2,e3⟩
section
variable{v:Option Value}{st:Stmt}{a:Addr}{fd:FuncData}{o:Obj}
theorem KI.parts(x:KI h v st a fd o):fd.closure=[]/\fd.globals=mainGlobals/\fd.builtins=builtinsNs/\Yz h fd=true/\WL h fd=true/\(BA st).kind=.function/\(BA st).isCoroutine=false/\(BA st).isGenerator=false:=by
 have k:=x.k
 have sb:=x.sb
 unfold Tx at k
 unfold lu at sb
 rw [Bool.and_eq_true,Bool.and_eq_true,Bool.and_eq_true,Bool.and_eq_true] at k
 rw [Bool.and_eq_true,Bool.and_eq_true,Bool.not_eq_true',Bool.not_eq_true'] at sb
 (have k1:=k.1;have k2:=k.2.1;have k3:=k.2.2.1;have k4:=k.2.2.2.1;have k5:=k.2.2.2.2;clear k)
 (refine AM sb ?_;rintro ⟨k6,k7⟩ k8)
 exact⟨List.isEmpty_iff.mp k1,eq_of_beq k2,eq_of_beq k3,k4,k5,eq_of_beq k6,k7,k8⟩
theorem KI.at_(x:KI h v st a fd o):QA (Gc w h) a fd (A8 st):=
 have ⟨k1,k2,k3,k4,_,k6,k7,k8⟩:=x.parts
 {obj:=⟨o,x.oe,x.de⟩
  code:=XF k4
  body:=x.b
  clo:=k1
  gl:=k2
  bu:=k3
  kind:=by(refine AA x.s ?_);exact k6
  co:=by(refine AA x.s ?_);exact k7
  ge:=by(refine AA x.s ?_);exact k8 }
noncomputable def PT(st:Stmt):Bool:=match (BR st).defaults with
 | [_]=>false
 | _=>true
theorem KI.defI(x:KI h v st a fd o)(hn:PT st=true):M8 (Gc w h) a st:=by
 refine⟨fd,x.at_,x.s,x.p,?_⟩
 have k5:=x.parts.2.2.2.2.1
 unfold WL at k5
 delta PT at hn
 delta cP
 rw [x.p] at k5 ⊢
 cases hd:(BR st).defaults with
 | nil=>(replace k5:=(hd)▸k5);exact eq_of_beq k5
 | cons e r=>
  rw [hd] at k5 hn
  induction r with
  | nil=>exact fT hn
  | cons e' r=>exact U4 k5
end
theorem AC(h:(a&&b)=true):a=true/\b=true:=Bool.and_eq_true_iff.mp h
inductive lw(h:Heap):Prop where
 | mk (c0:clB h (fieldV h) [.type "object"] "object.__new__" = true) (c1:((clD h (fieldV h)).any fun y=>!y.2.abstract)=true) (c2:(Dx h (fieldV h) "name").isNone=true) (c3:(Dx h (fieldV h) "raw").isNone=true) (c4:(Dx h (fieldV h) "__setattr__").isNone=true) (c5:(Dx h (fieldV h) "__getattribute__").isNone=true) (c6:(Dx h (fieldV h) "__getattr__").isNone=true) (c7:(gm h "Field.word").isNone=true) (c8:clB h (FX h) [.ref (WJ (DV h)),.type "Exception",.type "BaseException",.type "object"] "Exception.__new__" = true) (c9:clB h (DV h) [.type "Exception",.type "BaseException",.type "object"] "Exception.__new__" = true) (c10:(Dx h (FX h) "__init__").isNone=true) (c11:(Dx h (FX h) "__setattr__").isNone=true) (c12:(Dx h (FX h) "what").isNone=true) (c13:(Dx h (FX h) "at").isNone=true) (c14:(Dx h (DV h) "__setattr__").isNone=true) (c15:(Dx h (DV h) "what").isNone=true) (c16:(Dx h (DV h) "at").isNone=true) (c17:(gm h "Exception").isNone=true) (c18:(gb h "Exception" == some (.type "Exception"))=true)
theorem IU(e:WN h=true):lw h:=by
 exact .mk ((AC e).1) ((AC (AC e).2).1) ((AC (AC (AC e).2).2).1) ((AC (AC (AC (AC e).2).2).2).1) ((AC (AC (AC (AC (AC e).2).2).2).2).1) ((AC (AC (AC (AC (AC (AC e).2).2).2).2).2).1) ((AC (AC (AC (AC (AC (AC (AC e).2).2).2).2).2).2).1) ((AC (AC (AC (AC (AC (AC (AC (AC e).2).2).2).2).2).2).2).1) ((AC (AC (AC (AC (AC (AC (AC (AC (AC e).2).2).2).2).2).2).2).2).1) ((AC (AC (AC (AC (AC (AC (AC (AC (AC (AC e).2).2).2).2).2).2).2).2).2).1) ((AC (AC (AC (AC (AC (AC (AC (AC (AC (AC (AC e).2).2).2).2).2).2).2).2).2).2).1) ((AC (AC (AC (AC (AC (AC (AC (AC (AC (AC (AC (AC e).2).2).2).2).2).2).2).2).2).2).2).1) ((AC (AC (AC (AC (AC (AC (AC (AC (AC (AC (AC (AC (AC e).2).2).2).2).2).2).2).2).2).2).2).2).1) ((AC (AC (AC (AC (AC (AC (AC (AC (AC (AC (AC (AC (AC (AC e).2).2).2).2).2).2).2).2).2).2).2).2).2).1) ((AC (AC (AC (AC (AC (AC (AC (AC (AC (AC (AC (AC (AC (AC (AC e).2).2).2).2).2).2).2).2).2).2).2).2).2).2).1) ((AC (AC (AC (AC (AC (AC (AC (AC (AC (AC (AC (AC (AC (AC (AC (AC e).2).2).2).2).2).2).2).2).2).2).2).2).2).2).2).1) ((AC (AC (AC (AC (AC (AC (AC (AC (AC (AC (AC (AC (AC (AC (AC (AC (AC e).2).2).2).2).2).2).2).2).2).2).2).2).2).2).2).2).1) ((AC (AC (AC (AC (AC (AC (AC (AC (AC (AC (AC (AC (AC (AC (AC (AC (AC (AC e).2).2).2).2).2).2).2).2).2).2).2).2).2).2).2).2).2).1) ((AC (AC (AC (AC (AC (AC (AC (AC (AC (AC (AC (AC (AC (AC (AC (AC (AC (AC e).2).2).2).2).2).2).2).2).2).2).2).2).2).2).2).2).2).2)
inductive lx(h:Heap):Prop where
 | mk (t0:h.isNs mainGlobals=true) (t1:h.isNs builtinsNs=true) (t2:h.isNs cStatics=true) (t3:(h.nsMap cStatics "sys.recursionlimit").isNone=true) (t4:(h.get? sysModules).isSome=true) (t5:glB h gvl=true) (t6:((specs h defsL).all fun v=>(Yy h v).any fun y=>Tx h y.2)=true)
theorem IV(e:WM h gvl defsL=true):lx h:=by
 exact .mk ((AC e).1) ((AC (AC e).2).1) ((AC (AC (AC e).2).2).1) ((AC (AC (AC (AC e).2).2).2).1) ((AC (AC (AC (AC (AC e).2).2).2).2).1) ((AC (AC (AC (AC (AC (AC e).2).2).2).2).2).1) ((AC (AC (AC (AC (AC (AC e).2).2).2).2).2).2)
structure Seen(h:Heap):Prop where
 top:WM h gvl defsL=true
 cls:WN h=true
 fns:(specs h defsL).map (JY h)=(Ty defsL pw).map QG
theorem XG(e:Y0 gvl defsL s=Y1 defsL pw w):Seen s.heap:=by
 have ⟨a,b⟩:=AC (show (WM s.heap gvl defsL&&WN s.heap)=true from(congrArg (·.1) e))
 exact⟨a,b,(congrArg (·.2) e)⟩
theorem U6:(gvl.all fun x=>match x.2 with | .kls n=>n==AB "Field" | _=>true)=true:=by kernel_rfl
theorem ly:(defsL.all fun x=>PT (AP x.2))=true:=by kernel_rfl
structure l6(h:Heap)(w:World)(c:ClassData):Prop where
 mg:gm h (AB "Field")=some (.ref (WJ (fieldV h)))
 at_:ClsAt h (WJ (fieldV h)) c.ns (h.nsMap c.ns)
 n:∀ x,Dx h (fieldV h) x=h.nsMap c.ns x
theorem jh(S:Seen h):∃ c,l6 h w c:=by
 induction IU S.cls with | mk k1 k2 _ _ _ _ _ _ _ _ _ _ _ _ _ _ _ _ _=>
 obtain ⟨a,c,_,_,_,_,_,dd,hc,hv,ho,hn⟩:=ME k1
 (replace k2:=(hc)▸k2)
 have ea:WJ (fieldV h)=a:=by(refine AA hv ?_);rfl
 exact⟨c,by(refine AA ea ?_);exact hv,by(refine AA ea ?_);exact⟨⟨_,_,_,_,_,_,_,_,_,_,_,_,((Bool.not_eq_true' _).mp k2:c.abstract=false)▸ho⟩,hn⟩,MF hc⟩
theorem Rw(S:Seen h):∃ a fd o,KI h (Dx h (fieldV h) "word") (Ar 51 1) a fd o:=by
 induction IV S.top with | mk _ _ _ _ _ _ t7=>
 refine Gd S.fns t7 (x:=(Dx h (fieldV h) "word",Ar 51 1)) ?_
 exact pV.mpr (.inr (.head _))
theorem Rx(S:Seen h):∃ a fd o,KI h (Dx h (fieldV h) "__init__") (Ar 51 0) a fd o:=by
 induction IV S.top with | mk _ _ _ _ _ _ t7=>
 refine Gd S.fns t7 (x:=(Dx h (fieldV h) "__init__",Ar 51 0)) ?_
 exact pV.mpr (.inr (.tail _ (.head _)))
theorem Ry(S:Seen h):∃ a fd o,KI h (Dx h (DV h) "__init__") (Ar 7 0) a fd o:=by
 induction IV S.top with | mk _ _ _ _ _ _ t7=>
 refine Gd S.fns t7 (x:=(Dx h (DV h) "__init__",Ar 7 0)) ?_
 exact pV.mpr (.inr (.tail _ (.tail _ (.head _))))
theorem K4(S:Seen h):AX (Gc w h):=by
 induction IV S.top with | mk t1 t2 t3 t4 t5 t6 t7=>
 have gl:∀ x p,gv x=some p->(x==("__debug__" : Str))=false/\∃ v,(gm h x=some v∨(gm h x=none/\gb h x=some v))/\vB h p v=true:=fun x p e=>by
  (refine AM (AC (pr.mp t6 (x,p) (U3 e))) ?_;rintro g1 g2)
  (refine AE (Cn g2) ?_;rintro v hv g2)
  refine⟨(Bool.not_eq_true' _).mp g1,v,?_,g2⟩
  cases hm:gm h x with
  | some w=>rw [hm] at hv;exact .inl hv
  | none=>rw [hm] at hv;exact .inr ⟨rfl,hv⟩
 (refine AI (jh (w:=w) S) ?_;rintro c FC)
 induction IU S.cls with | mk _ _ n1 n2 _ n3 n4 _ _ _ _ _ _ _ _ _ _ _ _=>
 rw [FC.n,Option.isNone_iff_eq_none] at n1 n2 n3 n4
 (refine IW (Rw S) ?_;rintro wa wfd wo WF)
 have wfn:(Gc w h).wordFn=wa:=by refine(?_:WJ (Dx h (fieldV h) "word")=wa);(refine AA WF.v ?_);rfl
 exact {
  ok:={
   cfg:={
    g:=.of_isNs t1
    b:=.of_isNs t2
    nolimit:=⟨_,.of_isNs t3,qm.mp t4⟩
    mods:=Option.isSome_iff_exists.mp t5
    gl:=fun x p e=>(by obtain ⟨a,v,b,c⟩:=gl x p e;exact⟨a,v,b,Xu rfl p v c⟩) }
   fns:=fun x n e a ha=>by
    refine Ap fun G kk=>?_;obtain ⟨_,v,_,hv⟩:=gl x _ e
    (refine AM (AC hv) ?_;rintro h1 h2)
    cases pP ((eq_of_beq h1).symm.trans ha)
    (refine AI (Option.isSome_iff_exists.mp h2) ?_;rintro ⟨a',fd⟩ hf)
    obtain ⟨hv',o,k1,_,k3⟩:=MD hf
    (refine sI hv' ?_;clear hv';intro zz;cases zz);refine kk ?_
    exact⟨o,fd,k1,k3⟩
   kls:=fun x n e a ha=>by
    have hn:=eq_of_beq (pr.mp U6 (x,.kls n) (U3 e))
    subst hn
    have:=FC.mg.symm.trans ha
    (refine sI this ?_;clear this;intro zz;cases zz)
    exact⟨_,_,FC.at_⟩
   word:=⟨c.ns,h.nsMap c.ns,wa,wo,wfd,FC.at_,n3,n4,n1,n2,(FC.n _).symm.trans WF.v,wfn,WF.oe,WF.c,WF.de⟩ }
  defs:=fun f i e a ha=>by
   (refine IW (Gd S.fns t7 (x:=(gm h f,AP i)) (pV.mpr (.inl (qL.mpr ⟨(f,i),mem_lookup e,rfl⟩)))) ?_;rintro a' fd o F)
   have:=F.v.symm.trans ha
   (refine sI this ?_;clear this;intro zz;cases zz)
   exact F.defI (pr.mp ly (f,i) (mem_lookup e))
  word:=by(refine AA wfn ?_);exact WF.defI (by kernel_rfl) }
theorem QW(S:Seen h):L2 (Gc w h):=by
 (refine AI (jh (w:=w) S) ?_;rintro c FC)
 induction IU S.cls with | mk _ _ n1 n2 n3 _ _ n4 _ _ _ _ _ _ _ _ _ _ _=>
 rw [FC.n,Option.isNone_iff_eq_none] at n1 n2 n3
 refine Ap fun G kk=>?_;(refine IW (Rx S) ?_;rintro ia ifd io IF)
 obtain ⟨nm,q,bs,sn,sub,col,dd,k0,k1,k2,k3,k5,ho⟩:=FC.at_.obj;refine kk ?_
 exact {
  cls:=⟨nm,q,c.ns,bs,sn,sub,col,dd,k0,k1,k2,k3,k5,h.nsMap c.ns,ia,io,ho,FC.at_.ns,(FC.n _).symm.trans IF.v,n1,n2,n3,IF.oe,IF.c,IF.defI (by kernel_rfl)⟩
  mg:=FC.mg
  nofw:=qm.mp n4 }
theorem ji(S:Seen h):∃ M P fI,NQ (Gc w h) M P fI:=by
 induction IU S.cls with | mk _ _ _ _ _ _ _ _ m0 p0 m1 m2 m3 m4 p2 p3 p4 x1 x2=>
 refine Ap fun G kk=>?_;obtain ⟨Ma,mc,_,_,_,_,_,mdd,mcD,mv,mo,mn⟩:=ME m0
 obtain ⟨Pa,pc,_,_,_,_,_,pdd,pcD,pv,po,pn⟩:=ME p0
 rw [MF mcD,Option.isNone_iff_eq_none] at m1 m2 m3 m4
 rw [MF pcD,Option.isNone_iff_eq_none] at p2 p3 p4
 have eP:WJ (DV h)=Pa:=by(refine AA pv ?_);rfl
 (replace mo:=(eP)▸mo)
 (refine IW (Ry S) ?_;rintro ia ifd io IF);refine kk ?_
 have k5:=IF.parts.2.2.2.2.1
 have he:(BR (Ar 7 0)).defaults=[(BR (Ar 7 0)).defaults.getD 0 (BB Nj)]:=by kernel_rfl
 unfold WL at k5
 (replace k5:=(IF.p)▸k5;replace k5:=(he)▸k5)
 (refine Nm (U5 k5) ?_;rintro T o n y d1 d2 d3)
 exact⟨Ma,Pa,ia,{
  m:=⟨_,⟨_,_,_,_,_,_,_,_,_,_,_,_,_,_,mo,mn⟩,m1,m2,m3,m4⟩
  p:=⟨_,⟨_,_,_,_,_,_,_,_,_,_,_,_,_,_,po,pn⟩,((MF pcD _).symm.trans IF.v),p2,p3,p4⟩
  f:=⟨ifd,T,o,io,n,y,IF.at_,IF.s,IF.p,d1,d2,d3,IF.oe,IF.c⟩
  mg:=mv
  ex:=⟨qm.mp x1,eq_of_beq x2⟩ }⟩
theorem oh(S:Seen h):bR (Gc w h):=by
 (refine IW (ji (w:=w) S) ?_;rintro _ _ _ W)
 exact⟨(K4 S),Wm (K4 S),W6 (K4 S),Wi (K4 S) W,aq (K4 S) (QW S),WX (K4 S) (QW S)⟩
end
noncomputable def loose:List Str:=[Str.ofString "SIGNS",Str.ofString "PAD",Str.ofString "worth_table",Str.ofString "group_octets",Str.ofString "decoded",Str.ofString "PostError",Str.ofString "MimeFault",Str.ofString "lower_code",Str.ofString "lower_text",Str.ofString "ASCII",Str.ofString "LATIN",Str.ofString "UTF8",Str.ofString "CHARSETS",Str.ofString "UNKNOWN_SIGN",Str.ofString "charset_names",Str.ofString "charset_name",Str.ofString "need_charset",Str.ofString "follower_span",Str.ofString "utf8_sign",Str.ofString "sign_at",Str.ofString "text_in",Str.ofString "strict_text",Str.ofString "guessed_text",Str.ofString "EQUALS",Str.ofString "BLANK",Str.ofString "UNDERLINE",Str.ofString "hex_worth",Str.ofString "quoted_at",Str.ofString "unquoted",Str.ofString "word_q_decoded",Str.ofString "WHITE_words",Str.ofString "OPENING",Str.ofString "CLOSING",Str.ofString "WAYS",Str.ofString "is_word_sign",Str.ofString "part_end",Str.ofString "word_parts",Str.ofString "is_apart",Str.ofString "plain_text",Str.ofString "word_at",Str.ofString "pieces_of",Str.ofString "all_white",Str.ofString "decoded_words",Str.ofString "WHITE_headers",Str.ofString "Field",Str.ofString "line_at",Str.ofString "is_name",Str.ofString "colon_in",Str.ofString "read_spans",Str.ofString "read_fields",Str.ofString "rows_of",Str.ofString "unfolded",Str.ofString "first_body",Str.ofString "_law_sets",Str.ofString "_law_gaps",Str.ofString "_law_plains",Str.ofString "_law_sixty",Str.ofString "_law_white",Str.ofString "_law_purse",Str.ofString "_law_coin",Str.ofString "_law_sixes",Str.ofString "_law_figured",Str.ofString "_law_word",Str.ofString "_law_guessed",Str.ofString "_law_joined"]
noncomputable def lv:List (Str×WData):=[("CHARSETS",.tuple [.str ⟨#[117,115,45,97,115,99,105,105]⟩,.str ⟨#[105,115,111,45,56,56,53,57,45,49]⟩,.str ⟨#[117,116,102,45,56]⟩]),("UNKNOWN_SIGN",.str ⟨#[65533]⟩)]
noncomputable def Xp(q:Program)(rs:WRecords)(s:Shared):Bool:=xlAt q lv s&&recOk rs s
noncomputable def lhsP(gl:List (Str×PV))(dl:List (Str×Nat))(lo:List Str)(p q:Program)(rs:WRecords)(w:World):=(openEnds treeTable p w 5134).map (fun s=>(openSeen q lo (importedModules p.main.body) (Xp q rs) true s,Y0 gl dl s))
noncomputable def rhsP(dl:List (Str×Nat))(lo:List Str)(p q:Program)(w:World):=some (openGood q lo,Y1 dl p w)
end Mine.Lake
lay_quick Mine.Lake.lhsP Mine.Lake.rhsP
namespace Mine.Lake
noncomputable abbrev bL:=PySem.Challenge.pw_pq0943_01
noncomputable abbrev qv:Program:=PySem.W.view bL [73]
noncomputable abbrev jw:WRecords:=RowW.records PySem.Challenge.rw_pq0943_01.row.toRowW
theorem hk:PySem.W.Fast.tw5291632494288719981 gvl defsL loose bL qv jw=PySem.W.Fast.tw1961891349833566617 defsL loose bL qv:=by kernel_rfl
noncomputable def HK:Hook where
 α:=Bool×List (Option (FuncBody×Scope×Arguments))
 obs:=Y0 gvl defsL
 val:=Y1 defsL bL
 says _ h:=∃ b:Heap,b.StaysIn h/\Seen b
 of _ s e:=⟨s.heap,fun _ _ q=>q,XG e⟩
 keeps _ _ _ x kk:=let ⟨b,k,S⟩:=x;⟨b,fun a o q=>kk a o (k a o q),S⟩
theorem hl:LeftO bL qv loose (Xp qv jw) (Hook.obs HK) (Hook.val HK) 5134:=fun w=>by
 have h:=congrFun (congrFun (congrFun (congrFun (congrFun (congrFun (congrFun PySem.W.Fast.te5291632494288719981 gvl) defsL) loose) bL) qv) jw) w
 have h2:=congrFun (congrFun (congrFun (congrFun (congrFun PySem.W.Fast.te1961891349833566617 defsL) loose) bL) qv) w
 exact h.trans ((congrFun hk w).trans h2.symm)
theorem Rz{C:Al}{h:Heap}{X:Addr->Prop}{vs:List Value}{l:List Int}(x:IntsAre vs l):AF C h X (l.map .int) vs:=by
 induction x with
 | nil=>rfl
 | cons n t _ ih=>exact .mk _ _ (.mk t) ih
theorem fin{w:World}{b:Heap}{s:Shared}{mg:Str->Option Value}{fa a:Addr}{vs:List Value}{l:List Int}{E:Value->Shared->Prop}(hns:s.heap.Ns mainGlobals mg)(hb:b.StaysIn s.heap)(S:Seen b)(hmg:mg (AB "law")=some (.ref fa))(hL:s.heap.IsList a vs.toArray)(hI:IntsAre vs l)(hlen:l.length<=63){Q:Value->Shared->Prop}(q:∀ s',(∀ b o,s.heap.get? b=some o->s'.heap.get? b=some o)->s'.os=s.os->s'.gens=s.gens->Q (.bool true) s'):wpAny (model pw w) callerA (call (.ref fa) [.ref a]) Q E s:=by
 have Lb:=oh (w:=w) S
 (refine FZ hns ?_;clear hns;rintro o es ep e1 e2 _ e4)
 (refine FZ Lb.fx.ok.cfg.g ?_;rintro o' es' ep' f1 f2 _ f4)
 have f1:=hb _ _ f1
 cases pP (e1.symm.trans f1)
 cases Data.dict.inj (e2.symm.trans f2) with | intro ee _=>
 subst ee
 have hm:(Gc w b).mg (AB "law")=some (.ref fa):=(f4 _).symm.trans ((e4 _).trans hmg)
 refine Ux (C:=Gc w b) (d:=0) (A:=callerA) (fr:=[]) (X:=Ax) (l:=l) Lb ⟨rfl,.inl rfl,fun _=>rfl,by decide,by decide,hb,(fun _ h=>nomatch h),(fun _ h=>nomatch h),trivial,(fun _ h=>nomatch h),fun _ h=>h.elim⟩ (.mk _ _ (.mk (by(refine AA (pK ..:) ?_);exact om hlen (by decide)) a vs (fun q=>q) hL (Rz hI)) rfl) hm fun s' m=>?_
 have k:∀ b o,s.heap.get? b=some o->s'.heap.get? b=some o:=fun b o e=>m.kx.at (fun q=>q) (fun q=>nomatch q) e
 obtain ⟨h',tk,rfl,_⟩:=m
 exact q _ k rfl rfl
noncomputable def l7:DefRec×List (Str×Expr):=(defOf qv (AB "law")).get (by kernel_rfl)
noncomputable abbrev jj:=PySem.Challenge.rw_pq0943_01
theorem ql:PySem.W.Fast.tw12908688711261696721 (PySem.W.Fast.tw2368527892694137696 jj).prog=true:=by
 delta PySem.W.Fast.tw12908688711261696721
 repeat' with_reducible refine look_both ?_ ?_
 all_goals decide +kernel
theorem qp:PySem.W.Fast.tw2436336058641802641 (PySem.W.Fast.tw2368527892694137696 jj)=true:=by
 delta PySem.W.Fast.tw2436336058641802641
 repeat' with_reducible refine look_both ?_ ?_
 exact ql
 all_goals decide +kernel
theorem qr:PySem.W.Fast.tw17960256430627541270 (PySem.W.Fast.tw2368527892694137696 jj)=true:=by
 delta PySem.W.Fast.tw17960256430627541270
 repeat' with_reducible refine look_both ?_ ?_
 exact qp
 all_goals decide +kernel
theorem q0:jj.wellSaid=true:=by
 refine(congrFun PySem.W.Fast.te9446332074065402090 jj).trans ?_
 delta PySem.W.Fast.tw9446332074065402090
 repeat' with_reducible refine look_both ?_ ?_
 exact qr
 all_goals decide +kernel
theorem top0:PySem.Challenge.rw_pq0943_01.Holds:=by
 refine holds_law q0 fun said=>?_
 refine holds_open (q:=qv) (loose:=loose) (Xt:=Xp qv jw) (XP:=XL qv lv) (Yf:=Hook.obs HK) (Ya:=Hook.val HK) (YP:=Hook.says HK) (d:=l7.1) (kwd:=l7.2) (N:=5134) hl (Hook.of HK) (Hook.keeps HK) (fun s e=>xl_of s (Bool.and_eq_true_iff.mp e).1) XL.keeps (by kernel_rfl) (by kernel_rfl) (by kernel_rfl) (fun s e=>recFacts_of (Bool.and_eq_true_iff.mp e).2) (by kernel_rfl) said (by decide +kernel) ⟨rfl,rfl,rfl,rfl,rfl,by decide +kernel⟩ ?hw ?hc
 case hw=>exact⟨[.list []],by decide +kernel,by decide +kernel⟩
 case hc=>
  intro w s₀ s₁ mg mb G Y fa o pm cd doc dV kV ho hd hcd hD hmg hg args vals as hpre hlay hrd hwl hlo
  (refine AE Y ?_;clear Y;rintro b hb S)
  have hn:=G.T.g
  have hmg:mg (AB "law")=some (.ref fa):=by
   (replace hmg:=(show l7.1.name=AB "law" by kernel_rfl)▸hmg)
   exact hmg
  clear ho hd hcd hD G o pm cd doc dV kV
  wrow_args hpre hlay hrd hwl hlo
  rename_i hL _ _ _ hI _ hlen _
  refine fin hn hb S hmg hL hI (by lia) fun s' k1 k2 k3=>⟨.inl ⟨.bool true,.bool true,[],rfl,fun _=>rfl,.bool true,?_,fun _=>⟨.nil,fun _ h=>nomatch h⟩⟩,.of_keep k1,k2,?_⟩
  ·exact postW_of (by kernel_rfl) (X:=true) (by kernel_rfl) rfl
  ·exact .of_eq (k3.trans hg)
end Mine.Lake
theorem PySem.Challenge.cw_pq0943_01_holds : PySem.Challenge.rw_pq0943_01.Holds := by
  exact Mine.Lake.top0
