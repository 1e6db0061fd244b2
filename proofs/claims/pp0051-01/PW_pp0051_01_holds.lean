import PyProof.Rows.All
import Wide.All
import OpenK.AllK
import Wide.FinOn
import KE.KDictList
import PySem.Challenge.RW_pp0051_01
set_option Elab.async false
set_option linter.all false
set_option genSizeOf false
set_option genInjectivity false
set_option bootstrap.genMatcherCode false
set_option backward.eqns.nonrecursive false
set_option maxRecDepth 100000
set_option autoImplicit false
section
namespace Mine
theorem x02 {p q:Prop}{G:Prop}(h:p∧q)(k:p→q→G):G:=k h.1 h.2
theorem x03 {p q r:Prop}{G:Prop}(h:p∧q∧r)(k:p→q→r→G):G:=k h.1 h.2.1 h.2.2
theorem x05 {p q r s t:Prop}{G:Prop}(h:p∧q∧r∧s∧t)(k:p→q→r→s→t→G):G:=k h.1 h.2.1 h.2.2.1 h.2.2.2.1 h.2.2.2.2
theorem x11 {α:Sort _}{p:α→Prop}{G:Prop}(h: ∃a,p a)(k: ∀a,p a→G):G:=h.elim fun a h=>k a h
theorem x12 {α:Sort _}{p q:α→Prop}{G:Prop}(h: ∃a,p a∧q a)(k: ∀a,p a→q a→G):G:=h.elim fun a h=>k a h.1 h.2
theorem x13 {α:Sort _}{p q r:α→Prop}{G:Prop}(h: ∃a,p a∧q a∧r a)(k: ∀a,p a→q a→r a→G):G:=h.elim fun a h=>k a h.1 h.2.1 h.2.2
theorem x14 {α:Sort _}{p q r s:α→Prop}{G:Prop}(h: ∃a,p a∧q a∧r a∧s a)(k: ∀a,p a→q a→r a→s a→G):G:=h.elim fun a h=>k a h.1 h.2.1 h.2.2.1 h.2.2.2
theorem x15 {α:Sort _}{p q r s t:α→Prop}{G:Prop}(h: ∃a,p a∧q a∧r a∧s a∧t a)(k: ∀a,p a→q a→r a→s a→t a→G):G:=h.elim fun a h=>k a h.1 h.2.1 h.2.2.1 h.2.2.2.1 h.2.2.2.2
theorem x21 {α β:Sort _}{p:α→β→Prop}{G:Prop}(h: ∃a b,p a b)(k: ∀a b,p a b→G):G:=h.elim fun a h=>h.elim fun b h=>k a b h
theorem x22 {α β:Sort _}{p q:α→β→Prop}{G:Prop}(h: ∃a b,p a b∧q a b)(k: ∀a b,p a b→q a b→G):G:=h.elim fun a h=>h.elim fun b h=>k a b h.1 h.2
theorem x23 {α β:Sort _}{p q r:α→β→Prop}{G:Prop}(h: ∃a b,p a b∧q a b∧r a b)(k: ∀a b,p a b→q a b→r a b→G):G:=h.elim fun a h=>h.elim fun b h=>k a b h.1 h.2.1 h.2.2
theorem x24 {α β:Sort _}{p q r s:α→β→Prop}{G:Prop}(h: ∃a b,p a b∧q a b∧r a b∧s a b)(k: ∀a b,p a b→q a b→r a b→s a b→G):G:=h.elim fun a h=>h.elim fun b h=>k a b h.1 h.2.1 h.2.2.1 h.2.2.2
theorem x25 {α β:Sort _}{p q r s t:α→β→Prop}{G:Prop}(h: ∃a b,p a b∧q a b∧r a b∧s a b∧t a b)(k: ∀a b,p a b→q a b→r a b→s a b→t a b→G):G:=h.elim fun a h=>h.elim fun b h=>k a b h.1 h.2.1 h.2.2.1 h.2.2.2.1 h.2.2.2.2
theorem x33 {α β γ:Sort _}{p q r:α→β→γ→Prop}{G:Prop}(h: ∃a b c,p a b c∧q a b c∧r a b c)(k: ∀a b c,p a b c→q a b c→r a b c→G):G:=h.elim fun a h=>h.elim fun b h=>h.elim fun c h=>k a b c h.1 h.2.1 h.2.2
theorem x35 {α β γ:Sort _}{p q r s t:α→β→γ→Prop}{G:Prop}(h: ∃a b c,p a b c∧q a b c∧r a b c∧s a b c∧t a b c)(k: ∀a b c,p a b c→q a b c→r a b c→s a b c→t a b c→G):G:=h.elim fun a h=>h.elim fun b h=>h.elim fun c h=>k a b c h.1 h.2.1 h.2.2.1 h.2.2.2.1 h.2.2.2.2
theorem x36 {α β γ:Sort _}{p q r s t u:α→β→γ→Prop}{G:Prop}(h: ∃a b c,p a b c∧q a b c∧r a b c∧s a b c∧t a b c∧u a b c)(k: ∀a b c,p a b c→q a b c→r a b c→s a b c→t a b c→u a b c→G):G:=h.elim fun a h=>h.elim fun b h=>h.elim fun c h=>k a b c h.1 h.2.1 h.2.2.1 h.2.2.2.1 h.2.2.2.2.1 h.2.2.2.2.2
theorem x43 {α β γ δ:Sort _}{p q r:α→β→γ→δ→Prop}{G:Prop}(h: ∃a b c d,p a b c d∧q a b c d∧r a b c d)(k: ∀a b c d,p a b c d→q a b c d→r a b c d→G):G:=h.elim fun a h=>h.elim fun b h=>h.elim fun c h=>h.elim fun d h=>k a b c d h.1 h.2.1 h.2.2
theorem x44 {α β γ δ:Sort _}{p q r s:α→β→γ→δ→Prop}{G:Prop}(h: ∃a b c d,p a b c d∧q a b c d∧r a b c d∧s a b c d)(k: ∀a b c d,p a b c d→q a b c d→r a b c d→s a b c d→G):G:=h.elim fun a h=>h.elim fun b h=>h.elim fun c h=>h.elim fun d h=>k a b c d h.1 h.2.1 h.2.2.1 h.2.2.2
theorem x46 {α β γ δ:Sort _}{p q r s t u:α→β→γ→δ→Prop}{G:Prop}(h: ∃a b c d,p a b c d∧q a b c d∧r a b c d∧s a b c d∧t a b c d∧u a b c d)(k: ∀a b c d,p a b c d→q a b c d→r a b c d→s a b c d→t a b c d→u a b c d→G):G:=h.elim fun a h=>h.elim fun b h=>h.elim fun c h=>h.elim fun d h=>k a b c d h.1 h.2.1 h.2.2.1 h.2.2.2.1 h.2.2.2.2.1 h.2.2.2.2.2
theorem x51 {α β γ δ ε:Sort _}{p:α→β→γ→δ→ε→Prop}{G:Prop}(h: ∃a b c d e,p a b c d e)(k: ∀a b c d e,p a b c d e→G):G:=h.elim fun a h=>h.elim fun b h=>h.elim fun c h=>h.elim fun d h=>h.elim fun e h=>k a b c d e h
theorem x52 {α β γ δ ε:Sort _}{p q:α→β→γ→δ→ε→Prop}{G:Prop}(h: ∃a b c d e,p a b c d e∧q a b c d e)(k: ∀a b c d e,p a b c d e→q a b c d e→G):G:=h.elim fun a h=>h.elim fun b h=>h.elim fun c h=>h.elim fun d h=>h.elim fun e h=>k a b c d e h.1 h.2
theorem x68 {α β γ δ ε ζ:Sort _}{p q r s t u v w:α→β→γ→δ→ε→ζ→Prop}{G:Prop}(h: ∃a b c d e f,p a b c d e f∧q a b c d e f∧r a b c d e f∧s a b c d e f∧t a b c d e f∧u a b c d e f∧v a b c d e f∧w a b c d e f)(k: ∀a b c d e f,p a b c d e f→q a b c d e f→r a b c d e f→s a b c d e f→t a b c d e f→u a b c d e f→v a b c d e f→w a b c d e f→G):G:=h.elim fun a h=>h.elim fun b h=>h.elim fun c h=>h.elim fun d h=>h.elim fun e h=>h.elim fun f h=>k a b c d e f h.1 h.2.1 h.2.2.1 h.2.2.2.1 h.2.2.2.2.1 h.2.2.2.2.2.1 h.2.2.2.2.2.2.1 h.2.2.2.2.2.2.2
theorem x81 {α β γ δ ε ζ η θ:Sort _}{p:α→β→γ→δ→ε→ζ→η→θ→Prop}{G:Prop}(h: ∃a b c d e f g i,p a b c d e f g i)(k: ∀a b c d e f g i,p a b c d e f g i→G):G:=
 let ⟨a,b,c,d,e,f,g,i,h⟩:=h;k a b c d e f g i h
theorem lind {α:Type}{P:List α→Prop}(n:P [])(c: ∀a l,P l→P (a::l)): ∀l,P l
 | []=>n
 | a::l=>c a l (lind n c l)
theorem lec {a b c:Nat}(h:a≤b)(d:Nat.ble b c=true):a≤c:=Nat.le_trans h (Nat.le_of_ble_eq_true d)
theorem bK {α:Type}{P:List α→Prop}{n:Nat}{t:List α}(h:t.length=n + 1)(k: ∀a r,r.length=n→P (a::r)):P t:=by
 cases t with
 | nil=>cases h
 | cons a r=>exact k a r (Nat.succ.inj h)
theorem jA {α:Type}{P:List α→Prop}{t:List α}(h:t.length=0)(k:P []):P t:=by
 rw [List.eq_nil_of_length_eq_zero h];exact k
inductive AllB (P:Int→Prop):Nat→Prop
 | z:AllB P 0
 | s {n:Nat} (h:AllB P n) (p:P n):AllB P (n + 1)
theorem AllB.nat {P:Int→Prop}{n:Nat}(h:AllB P n){k:Nat}(hk:k < n):P k:=by
 induction h with
 | z=>exact absurd hk (Nat.not_lt_zero _)
 | s _ p ih=>exact (Nat.lt_succ_iff_lt_or_eq.1 hk).elim ih fun e=>e▸p
theorem AllB.at {P:Int→Prop}{n:Nat}{k:Int}(h0:0≤k)(h1:k < n)(h:AllB P n):P k:=by
 rw [←Int.toNat_of_nonneg h0]
 exact h.nat ((Int.toNat_lt h0).2 h1)
set_option genCtorIdx false in
inductive Lx
 | n (k:Nat)
 | v (i:Nat)
 | a (x y:Lx)
 | s (x:Lx)
 | m (k:Nat) (x:Lx)
noncomputable def N0:Lx:=.v 0
noncomputable def N1:Lx:=.v 1
noncomputable def N2:Lx:=.v 2
noncomputable def N3:Lx:=.v 3
noncomputable def N4:Lx:=.v 4
noncomputable def N5:Lx:=.v 5
noncomputable def N6:Lx:=.v 6
noncomputable def N7:Lx:=.v 7
noncomputable def N8:Lx:=.v 8
noncomputable def N9:Lx:=.v 9
noncomputable def Lx.ev (c:List Nat):Lx→Nat
 | n k=>k
 | v i=>c.getD i 0
 | a x y=>x.ev c + y.ev c
 | s x=>x.ev c + 1
 | m k x=>k * x.ev c
noncomputable def Lx.k:Lx→Nat
 | n k=>k
 | v _=>0
 | a x y=>x.k + y.k
 | s x=>x.k + 1
 | m k x=>k * x.k
noncomputable def Lx.c (i:Nat):Lx→Nat
 | n _=>0
 | v j=>cond (Nat.beq i j) 1 0
 | a x y=>x.c i + y.c i
 | s x=>x.c i
 | m k x=>k * x.c i
noncomputable def eW (f:Nat→Nat):List Nat→Nat
 | []=>0
 | x::t=>f 0 * x + eW (fun i=>f (i + 1)) t
theorem dotN_add (f g:Nat→Nat): ∀c:List Nat,eW (fun i=>f i + g i) c=eW f c + eW g c
 | []=>rfl
 | x::t=>by
  show (f 0 + g 0) * x + eW (fun i=>f (i + 1) + g (i + 1)) t=_
  rw [dotN_add (fun i=>f (i + 1)) (fun i=>g (i + 1)) t,Nat.add_mul];exact Nat.add_add_add_comm _ _ _ _
theorem dotN_mul (k:Nat)(f:Nat→Nat): ∀c:List Nat,eW (fun i=>k * f i) c=k * eW f c
 | []=>rfl
 | x::t=>(congrArg (k * f 0 * x + ·) (dotN_mul k (fun i=>f (i + 1)) t)).trans ((congrArg (· + _) (Nat.mul_assoc _ _ _)).trans (Nat.mul_add _ _ _).symm)
theorem dotN_le {f g:Nat→Nat}: ∀(c:List Nat),(∀i,i < c.length→f i≤g i)→eW f c≤eW g c
 | [],_=>Nat.le_refl _
 | _::t,h=>Nat.add_le_add (Nat.mul_le_mul_right _ (h 0 (Nat.succ_pos _))) (dotN_le t fun i hi=>h (i + 1) (Nat.succ_lt_succ hi))
theorem iM: ∀c:List Nat,eW (fun _=>0) c=0
 | []=>rfl
 | x::t=>(congrArg (0 * x + ·) (iM t)).trans (Nat.zero_mul x)
theorem dotN_v: ∀(c:List Nat) (j:Nat),eW (fun i=>cond (Nat.beq i j) 1 0) c=c.getD j 0
 | [],_=>rfl
 | x::t,0=>(congrArg (1 * x + ·) (iM t)).trans (Nat.one_mul x)
 | x::t,j + 1=>(congrArg (0 * x + ·) (dotN_v t j)).trans ((congrArg (· + t.getD j 0) (Nat.zero_mul x)).trans (Nat.zero_add _))
theorem Lx.ev_eq (c:List Nat): ∀e:Lx,e.ev c=e.k + eW (fun i=>e.c i) c
 | n k=>(congrArg (k + ·) (iM c)).symm
 | v j=>((Nat.zero_add _).trans (dotN_v c j)).symm
 | a x y=>by
  show x.ev c + y.ev c=(x.k + y.k) + eW (fun i=>x.c i + y.c i) c
  rw [dotN_add (fun i=>x.c i) (fun i=>y.c i),x.ev_eq c,y.ev_eq c];exact Nat.add_add_add_comm _ _ _ _
 | s x=>(congrArg (· + 1) (x.ev_eq c)).trans (Nat.add_right_comm _ _ _)
 | m k x=>(congrArg (k * ·) (x.ev_eq c)).trans ((Nat.mul_add _ _ _).trans (congrArg (k * x.k + ·) (dotN_mul k _ c).symm))
noncomputable def ckN (A B:Lx):Nat→Bool
 | 0=>Nat.blt B.k A.k
 | m + 1=>Nat.ble (B.c m) (A.c m)&&ckN A B m
theorem ckN_ok {A B:Lx}: ∀{m:Nat},ckN A B m=true→B.k < A.k∧ ∀i,i < m→B.c i≤A.c i
 | 0,h=>⟨Nat.le_of_ble_eq_true h,fun _ hi=>absurd hi (Nat.not_lt_zero _)⟩
 | m + 1,h=>by
  have ⟨h1,h2⟩:=Bool.and_eq_true_iff.1 h
  have ⟨h3,h4⟩:=ckN_ok h2
  refine ⟨h3,fun i hi=>?_⟩
  rcases Nat.lt_succ_iff_lt_or_eq.1 hi with q | q
  ·exact h4 i q
  ·rw [q];exact Nat.le_of_ble_eq_true h1
noncomputable def ckL (m:Nat):List (Lx×Lx)→Lx→Lx→Bool
 | [],A,B=>ckN A B m
 | p::l,A,B=>ckL m l (.a A p.1) (.a B p.2)
noncomputable def denL (c:List Nat)(g:Prop):List (Lx×Lx)→Prop
 | []=>g
 | p::l=>p.1.ev c≤p.2.ev c→denL c g l
theorem nl_aux {c:List Nat}{g:Prop}: ∀(l:List (Lx×Lx)) {A B:Lx},(¬g→A.ev c≤B.ev c)→ckL c.length l A B=true→denL c g l
 | [],A,B,h,k=>by
  refine Classical.byContradiction fun q=>?_
  have ⟨h1,h2⟩:=ckN_ok k
  have h3:=h q
  rw [A.ev_eq,B.ev_eq] at h3
  exact absurd h3 (Nat.not_le_of_lt (Nat.add_lt_add_of_lt_of_le h1 (dotN_le c h2)))
 | p::l,A,B,h,k=>fun q=>nl_aux l (A:=.a A p.1) (B:=.a B p.2) (fun z=>Nat.add_le_add (h z) q) k
theorem nl (c:List Nat)(l:List (Lx×Lx))(x y:Lx)(h:ckL c.length l (.s y) x=true):denL c (x.ev c≤y.ev c) l:=
 nl_aux l (A:=.s y) (B:=x) (fun q=>Nat.lt_of_not_le q) h
theorem nf (c:List Nat)(l:List (Lx×Lx))(h:ckL c.length l (.n 0) (.n 0)=true):denL c False l:=
 nl_aux l (A:=.n 0) (B:=.n 0) (fun _=>Nat.le_refl _) h
set_option genCtorIdx false in
inductive Ly
 | n (k:Int)
 | v (i:Nat)
 | a (x y:Ly)
 | s (x:Ly)
 | d (x y:Ly)
 | m (k:Int) (x:Ly)
noncomputable def Z0:Ly:=.v 0
noncomputable def Z1:Ly:=.v 1
noncomputable def Z2:Ly:=.v 2
noncomputable def Z3:Ly:=.v 3
noncomputable def Z4:Ly:=.v 4
noncomputable def Z5:Ly:=.v 5
noncomputable def Z6:Ly:=.v 6
noncomputable def Z7:Ly:=.v 7
noncomputable def Ly.ev (c:List Int):Ly→Int
 | n k=>k
 | v i=>c.getD i 0
 | a x y=>x.ev c + y.ev c
 | s x=>x.ev c + 1
 | d x y=>x.ev c - y.ev c
 | m k x=>k * x.ev c
noncomputable def Ly.k:Ly→Int
 | n k=>k
 | v _=>0
 | a x y=>x.k + y.k
 | s x=>x.k + 1
 | d x y=>x.k - y.k
 | m k x=>k * x.k
noncomputable def Ly.c (i:Nat):Ly→Int
 | n _=>0
 | v j=>cond (Nat.beq i j) 1 0
 | a x y=>x.c i + y.c i
 | s x=>x.c i
 | d x y=>x.c i - y.c i
 | m k x=>k * x.c i
noncomputable def cS (f:Nat→Int):List Int→Int
 | []=>0
 | x::t=>f 0 * x + cS (fun i=>f (i + 1)) t
theorem jG (f g:Nat→Int): ∀c:List Int,cS (fun i=>f i + g i) c=cS f c + cS g c
 | []=>rfl
 | x::t=>by
  show (f 0 + g 0) * x + cS (fun i=>f (i + 1) + g (i + 1)) t=(f 0 * x + cS (fun i=>f (i + 1)) t) + (g 0 * x + cS (fun i=>g (i + 1)) t)
  rw [jG (fun i=>f (i + 1)) (fun i=>g (i + 1)) t,Int.add_mul,Int.add_assoc,Int.add_assoc,Int.add_left_comm (g 0 * x)]
theorem dotZ_mul (k:Int)(f:Nat→Int): ∀c:List Int,cS (fun i=>k * f i) c=k * cS f c
 | []=>(Int.mul_zero k).symm
 | x::t=>(congrArg (k * f 0 * x + ·) (dotZ_mul k (fun i=>f (i + 1)) t)).trans ((congrArg (· + _) (Int.mul_assoc _ _ _)).trans (Int.mul_add _ _ _).symm)
theorem dotZ_eq {f g:Nat→Int}: ∀(c:List Int),(∀i,i < c.length→f i=g i)→cS f c=cS g c
 | [],_=>rfl
 | x::t,h=>by
  show f 0 * x + cS (fun i=>f (i + 1)) t=_
  rw [h 0 (Nat.succ_pos _),dotZ_eq t fun i hi=>h (i + 1) (Nat.succ_lt_succ hi)];rfl
theorem iL: ∀c:List Int,cS (fun _=>0) c=0
 | []=>rfl
 | x::t=>(congrArg (0 * x + ·) (iL t)).trans ((Int.add_zero _).trans (Int.zero_mul x))
theorem dotZ_v: ∀(c:List Int) (j:Nat),cS (fun i=>cond (Nat.beq i j) 1 0) c=c.getD j 0
 | [],_=>rfl
 | x::t,0=>(congrArg (1 * x + ·) (iL t)).trans ((Int.add_zero _).trans (Int.one_mul x))
 | x::t,j + 1=>(congrArg (0 * x + ·) (dotZ_v t j)).trans ((congrArg (· + t.getD j 0) (Int.zero_mul x)).trans (Int.zero_add _))
theorem Ly.ev_eq (c:List Int): ∀e:Ly,e.ev c=e.k + cS (fun i=>e.c i) c
 | n k=>((congrArg (k + ·) (iL c)).trans (Int.add_zero k)).symm
 | v j=>((Int.zero_add _).trans (dotZ_v c j)).symm
 | a x y=>by
  show x.ev c + y.ev c=(x.k + y.k) + cS (fun i=>x.c i + y.c i) c
  rw [jG (fun i=>x.c i) (fun i=>y.c i),x.ev_eq c,y.ev_eq c,Int.add_assoc,Int.add_assoc,Int.add_left_comm (cS _ c) y.k]
 | s x=>(congrArg (· + 1) (x.ev_eq c)).trans (Int.add_right_comm _ _ _)
 | d x y=>by
  show x.ev c - y.ev c=(x.k - y.k) + cS (fun i=>x.c i - y.c i) c
  have h:cS (fun i=>x.c i - y.c i) c + cS (fun i=>y.c i) c=cS (fun i=>x.c i) c:=by
   rw [←jG];simp only [Int.sub_add_cancel]
  rw [x.ev_eq c,y.ev_eq c,←h];omega
 | m k x=>(congrArg (k * ·) (x.ev_eq c)).trans ((Int.mul_add _ _ _).trans (congrArg (k * x.k + ·) (dotZ_mul k _ c).symm))
noncomputable def ckZ (A B:Ly):Nat→Bool
 | 0=>decide (B.k < A.k)
 | m + 1=>decide (A.c m=B.c m)&&ckZ A B m
theorem ckZ_ok {A B:Ly}: ∀{m:Nat},ckZ A B m=true→B.k < A.k∧ ∀i,i < m→A.c i=B.c i
 | 0,h=>⟨of_decide_eq_true h,fun _ hi=>absurd hi (Nat.not_lt_zero _)⟩
 | m + 1,h=>by
  have ⟨h1,h2⟩:=Bool.and_eq_true_iff.1 h
  have ⟨h3,h4⟩:=ckZ_ok h2
  refine ⟨h3,fun i hi=>?_⟩
  rcases Nat.lt_succ_iff_lt_or_eq.1 hi with q | q
  ·exact h4 i q
  ·rw [q];exact of_decide_eq_true h1
noncomputable def ckM (m:Nat):List (Ly×Ly)→Ly→Ly→Bool
 | [],A,B=>ckZ A B m
 | p::l,A,B=>ckM m l (.a A p.1) (.a B p.2)
noncomputable def denM (c:List Int)(g:Prop):List (Ly×Ly)→Prop
 | []=>g
 | p::l=>p.1.ev c≤p.2.ev c→denM c g l
theorem ni_aux {c:List Int}{g:Prop}: ∀(l:List (Ly×Ly)) {A B:Ly},(¬g→A.ev c≤B.ev c)→ckM c.length l A B=true→denM c g l
 | [],A,B,h,k=>by
  refine Classical.byContradiction fun q=>?_
  have ⟨h1,h2⟩:=ckZ_ok k
  have h3:=h q
  rw [A.ev_eq,B.ev_eq,dotZ_eq c h2] at h3
  exact absurd h3 (Int.not_le.2 (Int.add_lt_add_right h1 _))
 | p::l,A,B,h,k=>fun q=>ni_aux l (A:=.a A p.1) (B:=.a B p.2) (fun z=>Int.add_le_add (h z) q) k
theorem ni (c:List Int)(l:List (Ly×Ly))(x y:Ly)(h:ckM c.length l (.s y) x=true):denM c (x.ev c≤y.ev c) l:=
 ni_aux l (A:=.s y) (B:=x) (fun q=>Int.lt_of_not_ge q) h
theorem nz (c:List Int)(l:List (Ly×Ly))(h:ckM c.length l (.n 0) (.n 0)=true):denM c False l:=
 ni_aux l (A:=.n 0) (B:=.n 0) (fun _=>Int.le_refl _) h
theorem im {a b:Int}(k:Int)(h:a≤b)(hk:decide (0≤k)=true):k * a≤k * b:=Int.mul_le_mul_of_nonneg_left h (of_decide_eq_true hk)
end Mine
end
section
open PySem
open PySem.Str renaming ofString → so
namespace Mine
inductive D where
 | none
 | bool (b:Bool)
 | int (i:Int)
 | str (x:Str)
 | tup (ds:List D)
 | lst (ds:List D)
 | dct (kvs:List (Str×D))
 | hnd (n:Nat)
mutual
noncomputable def D.beq:D→D→Bool
 | .none,b=>match b with
  | .none=>true
  | _=>false
 | .bool _,_=>false
 | .int i,b=>match b with
  | .int j=>i==j
  | _=>false
 | .str x,b=>match b with
  | .str y=>x==y
  | _=>false
 | .tup x,b=>match b with
  | .tup y=>D.beqs x y
  | _=>false
 | .lst x,b=>match b with
  | .lst y=>D.beqs x y
  | _=>false
 | .dct _,_=>false
 | .hnd _,_=>false
noncomputable def D.beqs:List D→List D→Bool
 | [],b=>match b with
  | []=>true
  | _::_=>false
 | x::r,b=>match b with
  | []=>false
  | y::t=>D.beq x y&&D.beqs r t
end
mutual
noncomputable def D.cmpOk:D→Bool
 | .none=>true
 | .bool _=>false
 | .int _=>true
 | .str x=>PyData.strOk x
 | .tup a=>D.cmpOks a
 | .lst a=>D.cmpOks a
 | .dct _=>false
 | .hnd _=>false
noncomputable def D.cmpOks:List D→Bool
 | []=>true
 | a::r=>D.cmpOk a&&D.cmpOks r
end
mutual
noncomputable def D.depth:D→Nat
 | .none=>0
 | .bool _=>0
 | .int _=>0
 | .str _=>0
 | .tup a=>D.depths a + 1
 | .lst a=>D.depths a + 1
 | .dct _=>0
 | .hnd _=>0
noncomputable def D.depths:List D→Nat
 | []=>0
 | a::r=>max (D.depth a) (D.depths r)
end
inductive Res (α:Type) where
 | ok (a:α)
 | flt (ln:Int)
 | bad
noncomputable abbrev Res.bind {α β:Type}(r:Res α)(f:α→Res β):Res β:=match r with
 | .ok a=>f a
 | .flt n=>.flt n
 | .bad=>.bad
noncomputable def Res.ofOpt {α:Type}:Option α→Res α
 | some a=>.ok a
 | none=>.bad
noncomputable def Res.calm {α:Type}:Res α→Res α
 | .ok a=>.ok a
 | _=>.bad
structure Bld where
 number:Int
 count:Int
 steps:List D
 inner:List D
structure G where
 pat:Int
 cells:List Int
 used:Bool
 bld:Option Bld
inductive Slot where
 | val (d:D)
 | own (d:D)
 | lent (d:D)
structure St where
 ρ:List (Option Slot)
 g:G
inductive Fn where
 | formal_names | default_of | choice_name | types_told | formal_keys | match_formals | fresh_mark | fresh_spec | lay_formal_sub | operator_node
 | nfresh | lay | mark | unit_name | unit_sort | instantiate | take | formal | row | actuals | due | plain | is_laid
inductive Op where
 | add | sub | mul | fdiv | mod | eq | ne | lt | gt | ge
set_option genCtorIdx false in
inductive E where
 | var (i:Nat)
 | fz (i:Nat)
 | glob (x:Str) (d:D)
 | cst (d:D)
 | ix (e i:E)
 | ixV (k:Nat) (i:E)
 | slc (e:E) (lo hi:Option E)
 | op (o:Op) (l r:E)
 | eqV (k:Nat) (r:E)
 | isN (e:E)
 | isNN (e:E)
 | inV (l:E) (k:Nat)
 | ninV (l:E) (k:Nat)
 | inn (l r:E)
 | ninn (l r:E)
 | and (es:List E)
 | or (es:List E)
 | ite (c a b:E)
 | tup (es:List E)
 | lst (es:List E)
 | len (e:E)
 | lenV (k:Nat)
 | str (e:E)
 | lower (e:E)
 | upper (e:E)
 | getV (k:Nat) (a b:E)
 | listV (k:Nat)
 | listR (e:E)
 | compE (pat:List Nat) (src:E) (conds:List E) (elt:E)
 | compV (pat:List Nat) (src:Nat) (conds:List E) (elt:E)
 | compR (v:Nat) (src:E) (conds:List E) (elt:E)
 | comp2 (v1:Nat) (src:E) (v2:Nat)
 | dcomp (v:Nat) (src:E) (k e:E)
 | lenDC (v:Nat) (src:E) (k e:E)
 | call (f:Fn) (es:List E)
 | callL (e:E) (es:List E)
 | newB (e:E)
 | fresh (k:Nat) (e:E)
 | mark (k:Nat) (a b:E)
 | steps (k:Nat)
 | number (k:Nat)
 | count (k:Nat)
 | table (k:Nat)
 | innerPlus (k:Nat) (es:List E)
 | potAt (k:Nat)
 | potCells (k:Nat)
 | dead
set_option genCtorIdx false in
inductive Init where
 | v (e:E)
 | l (es:List E)
 | d
set_option genCtorIdx false in
inductive S where
 | assign (i:Nat) (e:E)
 | ownL (i:Nat) (es:List E)
 | ownD (i:Nat)
 | tupA (is:List Nat) (e:E)
 | tupO (is:List (Nat×Init))
 | setK (k:Nat) (e1 e2:E)
 | app (k:Nat) (e:E)
 | ext (k:Nat) (e:E)
 | aug (k:Nat) (e:E)
 | ife (c:E) (a b:List S)
 | forL (pat:List Nat) (it:E) (body:List S)
 | forR (v:Nat) (it:E) (body:List S)
 | forE (v1 v2:Nat) (it:E) (body:List S)
 | ret (e:E)
 | rais (e:E)
 | ex (e:E)
 | lay (k:Nat) (e1 e2:E)
 | innerApp (k:Nat) (e:E)
 | stepsApp (k:Nat) (e:E)
 | incCount (k:Nat)
 | potInc (k:Nat)
 | dead
inductive Fl where
 | next
 | ret (d:D)
noncomputable def dF {α:Type}(xs:List α)(i:Int):Option α:=if 0≤i then xs[i.toNat]? else if -(xs.length:Int)≤i then xs[(i + xs.length).toNat]? else none
noncomputable def charStr (c:Nat):Str:=⟨#[c]⟩
noncomputable def aX (x:Str):List (Str×D)→Option D
 | []=>none
 | (y,d)::r=>if x=y then some d else aX x r
noncomputable def cz (x:Str)(d:D):List (Str×D)→List (Str×D)
 | []=>[(x,d)]
 | (y,e)::r=>if x=y then (y,d)::r else (y,e)::cz x d r
noncomputable def bl (i:Int):Bool:=decide (-(2 ^ 62) < i)&&decide (i < 2 ^ 62)
noncomputable def ixD (c i:D):Option D:=match i with
 | .int k=>if bl k then (match c with
  | .tup ds=>dF ds k
  | .lst ds=>dF ds k
  | .str x=>(dF x.cps.toList k).map fun ch=>.str (charStr ch)
  | _=>none) else none
 | .str x=>match c with
  | .dct kvs=>aX x kvs
  | _=>none
 | _=>none
noncomputable def c8 (n:Nat)(lo:Option Int):Nat:=lo.elim 0 (clipAt n)
noncomputable def dJ (n:Nat)(hi:Option Int):Nat:=hi.elim n (clipAt n)
noncomputable def sliceL {α:Type}(xs:List α)(lo hi:Option Int):List α:=(xs.drop (c8 xs.length lo)).take (dJ xs.length hi - c8 xs.length lo)
noncomputable def co (d:D)(lo hi:Option Int):Option D:=match d with
 | .tup ds=>match lo,hi with
  | none,some k=>if decide (0≤k)&&decide (k < ds.length)&&decide (ds.length≤1000) then some (.tup (ds.take k.toNat)) else none
  | _,_=>none
 | .lst ds=>if ds.length≤10000 then some (.lst (sliceL ds lo hi)) else none
 | .str x=>if x.length≤1000 then some (.str ⟨(sliceL x.cps.toList lo hi).toArray⟩) else none
 | _=>none
noncomputable def fh (x:Str)(y:Str):Bool:= !(Builtin.Str.occurrences x y 0 x.length 1).isEmpty
noncomputable def eqD (a b:D):Option Bool:=if a.cmpOk&&b.cmpOk&&decide (a.depth≤8)&&decide (b.depth≤8) then some (a.beq b) else none
noncomputable def strI (i:Int):Str:=so (toString i)
noncomputable def iF (f:Int→Int→Option D)(a b:D):Option D:=match a with
 | .int i=>match b with
  | .int j=>f i j
  | _=>none
 | _=>none
noncomputable def addD (a b:D):Option D:=match a with
 | .int i=>match b with
  | .int j=>some (.int (i + j))
  | _=>none
 | .str x=>match b with
  | .str y=>if x.length + y.length≤1000 then some (.str (x++y)) else none
  | _=>none
 | .lst x=>match b with
  | .lst y=>if x.length + y.length≤1000 then some (.lst (x++y)) else none
  | _=>none
 | _=>none
noncomputable def mulD (a b:D):Option D:=match b with
 | .int j=>match a with
  | .int i=>if bl i&&bl j then some (.int (i * j)) else none
  | .lst x=>if x.length≤100&&decide (0≤j)&&decide (j≤100) then some (.lst (List.replicate j.toNat x).flatten) else none
  | _=>none
 | _=>none
noncomputable def opD:Op→D→D→Option D
 | .add,a,b=>addD a b
 | .sub,a,b=>iF (fun i j=>some (.int (i - j))) a b
 | .mul,a,b=>mulD a b
 | .fdiv,a,b=>iF (fun i j=>if decide (0 < j)&&decide (j < 1000) then some (.int (i.fdiv j)) else none) a b
 | .mod,a,b=>iF (fun i j=>if decide (0 < j)&&decide (j < 1000) then some (.int (i.fmod j)) else none) a b
 | .eq,a,b=>(eqD a b).map .bool
 | .ne,a,b=>(eqD a b).map fun x=>.bool !x
 | .lt,a,b=>iF (fun i j=>some (.bool (decide (i < j)))) a b
 | .gt,a,b=>iF (fun i j=>some (.bool (decide (j < i)))) a b
 | .ge,a,b=>iF (fun i j=>some (.bool (decide (j≤i)))) a b
noncomputable def inD (a c:D):Option Bool:=match c with
 | .lst ds=>if a.cmpOk&&D.cmpOks ds&&decide (a.depth≤8)&&decide (D.depths ds≤8) then some (ds.any fun d=>d.beq a) else none
 | .str y=>match a with
  | .str x=>some (fh y x)
  | _=>none
 | .dct kvs=>match a with
  | .str x=>some (aX x kvs).isSome
  | _=>none
 | _=>none
noncomputable def da:D→Option Nat
 | .tup ds=>some ds.length
 | .lst ds=>some ds.length
 | .str x=>some x.length
 | .dct kvs=>some kvs.length
 | _=>none
theorem gE {a b:D}(h1:a.cmpOk=true)(h2:b.cmpOk=true)(h3:a.depth≤8)(h4:b.depth≤8):eqD a b=some (a.beq b):=
 if_pos (Bool.and_eq_true_iff.2 ⟨Bool.and_eq_true_iff.2 ⟨Bool.and_eq_true_iff.2 ⟨h1,h2⟩,decide_eq_true h3⟩,decide_eq_true h4⟩)
theorem inD_of {a:D}{ds:List D}(h1:a.cmpOk=true)(h2:D.cmpOks ds=true)(h3:a.depth≤8)(h4:D.depths ds≤8):inD a (.lst ds)=some (ds.any fun d=>d.beq a):=
 if_pos (Bool.and_eq_true_iff.2 ⟨Bool.and_eq_true_iff.2 ⟨Bool.and_eq_true_iff.2 ⟨h1,h2⟩,decide_eq_true h3⟩,decide_eq_true h4⟩)
theorem ixD_nat {xs:List D}{k:Nat}(hk:bl k=true):ixD (.lst xs) (.int (k:Nat))=xs[k]? :=by
 simp only [ixD,hk,if_true,dF,if_pos (Int.natCast_nonneg k),Int.toNat_natCast]
noncomputable def cg:D→Bool
 | .none=>true
 | _=>false
noncomputable def bY:D→Option Bool
 | .bool b=>some b
 | _=>none
noncomputable def lowerS (x:Str):Str:=PySem.Txt.lower x
noncomputable def gq (x:Str):Str:=PySem.Txt.upper x
noncomputable def St.get (st:St)(i:Nat):Option Slot:=(st.ρ[i]?).join
noncomputable def St.set (st:St)(i:Nat)(s:Slot):St:={st with ρ:=st.ρ.set i (some s)}
noncomputable def St.sets (st:St):List Nat→List D→Option St
 | [],[]=>some st
 | i::is,d::ds=>(st.set i (.val d)).sets is ds
 | _,_=>none
noncomputable def bb (st:St):List Nat→D→Option St
 | [i],d=>some (st.set i (.val d))
 | is,.tup ds=>st.sets is ds
 | _,_=>none
noncomputable def a8 (st:St)(i:Nat):Option D:=match st.get i with
 | some (.val d)=>some d
 | _=>none
noncomputable def isH (st:St)(k n:Nat):Option Unit:=match a8 st k with
 | some (.hnd m)=>if m=n then some () else none
 | _=>none
noncomputable def bL (st:St)(i:Nat):Option D:=match st.get i with
 | some (.val d)=>some d
 | some (.own d)=>some d
 | some (.lent d)=>some d
 | none=>none
noncomputable def lendS:Option Slot→Option Slot
 | some (.own d)=>some (.lent d)
 | x=>x
noncomputable def iP:List Nat→List (Option Slot)→List (Option Slot)
 | [],ρ=>ρ
 | i::r,ρ=>iP r (ρ.set i none)
noncomputable def St.enter (st:St)(pat:List Nat):St:={st with ρ:=iP pat (st.ρ.map lendS)}
noncomputable def gi (st:St)(i:Nat):Option (List (Str×D)):=match bL st i with
 | some (.dct kvs)=>some kvs
 | _=>none
noncomputable def cZ (st:St)(i:Nat):Option (List D):=match st.get i with
 | some (.own (.lst ds))=>some ds
 | _=>none
noncomputable def gs (st:St)(i:Nat):Option (List (Str×D)):=match st.get i with
 | some (.own (.dct kvs))=>some kvs
 | _=>none
noncomputable def dG:D→Option (List D)
 | .lst ds=>if ds.length≤1000 then some ds else none
 | _=>none
noncomputable def gT:List D→Option (List D)
 | []=>some []
 | d::r=>(dG d).bind fun es=>(gT r).map (es++ ·)
noncomputable def c9 (n:Int):Bool:=decide (0≤n)&&decide (n≤1000)
noncomputable def cP (n:Int):List D:=(List.range n.toNat).map fun i=>.int (i:Nat)
noncomputable def aR (ds:List D):List D:=ds.foldl (fun acc x=>if acc.any (x.beq ·) then acc else acc++[x]) []
noncomputable def gN:D→D→Option D
 | .str y,z=>some (.tup [.str y,z])
 | _,_=>none
noncomputable def i7:D→D→Option D
 | .tup [.str x,.str y],_=>some (.tup [.str x,.str y])
 | _,_=>none
noncomputable def cY (ds:List D):List (Str×D):=ds.foldl (fun acc x=>match x with | .tup [.str y,z]=>cz y z acc | _=>acc) []
abbrev FT:=Fn→List D→G→Res (D×G)
noncomputable def cC (f:D→St→Res (List D×St)):List D→St→Res (List D×St)
 | [],st=>.ok ([],st)
 | d::r,st=>(f d st).calm.bind fun p=>(cC f r p.2).bind fun q=>.ok (p.1++q.1,q.2)
theorem hideP {G:Prop}(h: ∀P:Prop,(G→P)→P):G:=h G id
theorem dct_any {st:St}{i:Nat}{kvs:List (Str×D)}(h:gi st i=some kvs):bL st i=some (.dct kvs):=by
 delta gi at h
 revert h
 cases bL st i with
 | none=>intro h;cases h
 | some d=>cases d with
  | dct e=>intro h;cases h;rfl
  | _=>intro h;cases h
theorem bP {st:St}{k n:Nat}{u:Unit}(h:isH st k n=some u):a8 st k=some (.hnd n):=by
 delta isH at h
 revert h
 cases a8 st k with
 | none=>intro h;cases h
 | some d=>cases d with
  | hnd m=>
   intro h
   have h:(if m=n then some () else none)=some u:=h
   by_cases q:m=n
   ·rw [q]
   ·rw [if_neg q] at h;cases h
  | _=>intro h;cases h
theorem cQ {st:St}{k n:Nat}(h:a8 st k=some (.hnd n)):isH st k n=some ():=by
 delta isH;rw [h];exact if_pos rfl
mutual
noncomputable def ev (ft:FT):E→St→Res (D×St)
 | .var i,st=>(Res.ofOpt (a8 st i)).bind fun d=>.ok (d,st)
 | .fz i,st=>match st.get i with
  | some (.val d)=>.ok (d,st)
  | some (.own d)=>.ok (d,st.set i (.val d))
  | _=>.bad
 | .glob _ d,st=>.ok (d,st)
 | .cst d,st=>.ok (d,st)
 | .ix e i,st=>(ev ft e st).bind fun p=>(ev ft i p.2).bind fun q=>(Res.ofOpt (ixD p.1 q.1)).bind fun d=>.ok (d,q.2)
 | .ixV k i,st=>(Res.ofOpt (bL st k)).bind fun _=>(ev ft i st).bind fun q=>(Res.ofOpt (bL q.2 k)).bind fun c=>(Res.ofOpt (ixD c q.1)).bind fun d=>.ok (d,q.2)
 | .slc e lo hi,st=>(ev ft e st).bind fun p=>(evO ft lo p.2).bind fun q=>(evO ft hi q.2).bind fun r=>(Res.ofOpt (co p.1 q.1 r.1)).bind fun d=>.ok (d,r.2)
 | .op o l r,st=>(ev ft l st).bind fun p=>(ev ft r p.2).bind fun q=>(Res.ofOpt (opD o p.1 q.1)).bind fun d=>.ok (d,q.2)
 | .eqV k r,st=>(Res.ofOpt (bL st k)).bind fun _=>(ev ft r st).bind fun q=>(Res.ofOpt (bL q.2 k)).bind fun c=>(Res.ofOpt (eqD c q.1)).bind fun b=>.ok (.bool b,q.2)
 | .isN e,st=>(ev ft e st).bind fun p=>.ok (.bool (cg p.1),p.2)
 | .isNN e,st=>(ev ft e st).bind fun p=>.ok (.bool !(cg p.1),p.2)
 | .inV l k,st=>(ev ft l st).bind fun p=>(Res.ofOpt (bL p.2 k)).bind fun c=>(Res.ofOpt (inD p.1 c)).bind fun b=>.ok (.bool b,p.2)
 | .ninV l k,st=>(ev ft l st).bind fun p=>(Res.ofOpt (bL p.2 k)).bind fun c=>(Res.ofOpt (inD p.1 c)).bind fun b=>.ok (.bool !b,p.2)
 | .inn l r,st=>(ev ft l st).bind fun p=>(ev ft r p.2).bind fun q=>(Res.ofOpt (inD p.1 q.1)).bind fun b=>.ok (.bool b,q.2)
 | .ninn l r,st=>(ev ft l st).bind fun p=>(ev ft r p.2).bind fun q=>(Res.ofOpt (inD p.1 q.1)).bind fun b=>.ok (.bool !b,q.2)
 | .and es,st=>br ft es st
 | .or es,st=>dm ft es st
 | .ite c a b,st=>(ev ft c st).bind fun p=>(Res.ofOpt (bY p.1)).bind fun t=>match t with
  | true=>ev ft a p.2
  | false=>ev ft b p.2
 | .tup es,st=>(evs ft es st).bind fun p=>if p.1.length≤1000 then .ok (.tup p.1,p.2) else .bad
 | .lst es,st=>(evs ft es st).bind fun p=>if p.1.length≤1000 then .ok (.lst p.1,p.2) else .bad
 | .len e,st=>(ev ft e st).bind fun p=>(Res.ofOpt (da p.1)).bind fun n=>if n≤100000 then .ok (.int n,p.2) else .bad
 | .lenV k,st=>(Res.ofOpt (bL st k)).bind fun c=>(Res.ofOpt (da c)).bind fun n=>if n≤100000 then .ok (.int n,st) else .bad
 | .str e,st=>(ev ft e st).bind fun p=>match p.1 with
  | .int i=>if bl i then .ok (.str (strI i),p.2) else .bad
  | _=>.bad
 | .lower e,st=>(ev ft e st).bind fun p=>match p.1 with
  | .str x=>if (lowerS x).length≤1000 then .ok (.str (lowerS x),p.2) else .bad
  | _=>.bad
 | .upper e,st=>(ev ft e st).bind fun p=>match p.1 with
  | .str x=>if (gq x).length≤1000 then .ok (.str (gq x),p.2) else .bad
  | _=>.bad
 | .getV k a b,st=>(Res.ofOpt (gi st k)).bind fun _=>(ev ft a st).bind fun p=>(ev ft b p.2).bind fun q=>(Res.ofOpt (gi q.2 k)).bind fun kvs=>match p.1 with
  | .str x=>.ok ((aX x kvs).getD q.1,q.2)
  | _=>.bad
 | .listV k,st=>(Res.ofOpt (gi st k)).bind fun kvs=>if kvs.length≤1000 then .ok (.lst (kvs.map fun p=>.str p.1),st) else .bad
 | .listR e,st=>(ev ft e st).bind fun p=>match p.1 with
  | .int n=>if c9 n then .ok (.lst (cP n),p.2) else .bad
  | _=>.bad
 | .compE pat src conds elt,st=>(ev ft src st).bind fun p=>(Res.ofOpt (dG p.1)).bind fun ds=>
   (cC (fun d s=>(Res.ofOpt (bb s pat d)).bind fun s1=>(br ft conds s1).bind fun t=>match t.1 with
    | .bool true=>(ev ft elt t.2).bind fun q=>.ok ([q.1],{q.2 with ρ:=(p.2.enter pat).ρ})
    | _=>.ok ([],{t.2 with ρ:=(p.2.enter pat).ρ})) ds (p.2.enter pat)).bind fun q=>.ok (.lst q.1,{q.2 with ρ:=p.2.ρ})
 | .compV pat k conds elt,st=>(Res.ofOpt (bL st k)).bind fun c=>(Res.ofOpt (dG c)).bind fun ds=>
   (cC (fun d s=>(Res.ofOpt (bb s pat d)).bind fun s1=>(br ft conds s1).bind fun t=>match t.1 with
    | .bool true=>(ev ft elt t.2).bind fun q=>.ok ([q.1],{q.2 with ρ:=(st.enter pat).ρ})
    | _=>.ok ([],{t.2 with ρ:=(st.enter pat).ρ})) ds (st.enter pat)).bind fun q=>.ok (.lst q.1,{q.2 with ρ:=st.ρ})
 | .compR v src conds elt,st=>(ev ft src st).bind fun p=>match p.1 with
  | .int n=>if c9 n then
   (cC (fun d s=>(br ft conds (s.set v (.val d))).bind fun t=>match t.1 with
    | .bool true=>(ev ft elt t.2).bind fun q=>.ok ([q.1],{q.2 with ρ:=(p.2.enter [v]).ρ})
    | _=>.ok ([],{t.2 with ρ:=(p.2.enter [v]).ρ})) (cP n) (p.2.enter [v])).bind fun q=>.ok (.lst q.1,{q.2 with ρ:=p.2.ρ}) else .bad
  | _=>.bad
 | .comp2 _ src _,st=>(ev ft src st).bind fun p=>(Res.ofOpt (dG p.1)).bind fun ds=>(Res.ofOpt (gT ds)).bind fun zs=>.ok (.lst zs,p.2)
 | .dcomp v src k e,st=>(ev ft src st).bind fun p=>(Res.ofOpt (dG p.1)).bind fun ds=>
   (cC (fun d s=>(ev ft k (s.set v (.val d))).bind fun a=>(ev ft e a.2).bind fun b=>(Res.ofOpt (gN a.1 b.1)).bind fun x=>.ok ([x],{b.2 with ρ:=(p.2.enter [v]).ρ})) ds (p.2.enter [v])).bind fun q=>
    .ok (.dct (cY q.1),{q.2 with ρ:=p.2.ρ})
 | .lenDC v src k e,st=>(ev ft src st).bind fun p=>match p.1 with
  | .int n=>if c9 n then
   (cC (fun d s=>(ev ft k (s.set v (.val d))).bind fun a=>(ev ft e a.2).bind fun b=>(Res.ofOpt (i7 a.1 b.1)).bind fun x=>.ok ([x],{b.2 with ρ:=(p.2.enter [v]).ρ})) (cP n) (p.2.enter [v])).bind fun q=>
    .ok (.int (aR q.1).length,{q.2 with ρ:=p.2.ρ}) else .bad
  | _=>.bad
 | .call f es,st=>(evs ft es st).bind fun p=>(ft f p.1 p.2.g).bind fun q=>.ok (q.1,{p.2 with g:=q.2})
 | .callL e es,st=>(ev ft e st).bind fun p0=>match p0.1 with
  | .str x=>if x=so "fsub" then (evs ft es p0.2).bind fun p=>(ft .lay_formal_sub p.1 p.2.g).bind fun q=>.ok (q.1,{p.2 with g:=q.2}) else .bad
  | _=>.bad
 | .newB e,st=>(ev ft e st).bind fun p=>match p.1,p.2.g.used with
  | .int n,false=>.ok (.hnd 1,{p.2 with g:={p.2.g with used:=true,bld:=some ⟨n,0,[],[]⟩}})
  | _,_=>.bad
 | .fresh k e,st=>(Res.ofOpt (isH st k 1)).bind fun _=>(Res.ofOpt st.g.bld).bind fun _=>(ev ft e st).bind fun p=>(ft .nfresh [.hnd 2,p.1] p.2.g).bind fun q=>.ok (q.1,{p.2 with g:=q.2})
 | .mark k a c,st=>(Res.ofOpt (isH st k 1)).bind fun _=>(ev ft a st).bind fun p=>(ev ft c p.2).bind fun q=>(ft .mark [.hnd 1,p.1,q.1] q.2.g).bind fun r=>.ok (r.1,{q.2 with g:=r.2})
 | .number k,st=>(Res.ofOpt (isH st k 2)).bind fun _=>(Res.ofOpt st.g.bld).bind fun b=>.ok (.int b.number,st)
 | .count k,st=>(Res.ofOpt (isH st k 2)).bind fun _=>(Res.ofOpt st.g.bld).bind fun b=>.ok (.int b.count,st)
 | .table k,st=>(Res.ofOpt (isH st k 1)).bind fun _=>.ok (.dct [],st)
 | .steps k,st=>(Res.ofOpt (isH st k 1)).bind fun _=>(Res.ofOpt st.g.bld).bind fun b=>.ok (.lst b.steps,{st with g:={st.g with bld:=none}})
 | .innerPlus k es,st=>(Res.ofOpt (isH st k 1)).bind fun _=>(evs ft es st).bind fun p=>(Res.ofOpt p.2.g.bld).bind fun b=>
   if b.inner.length + p.1.length≤1000 then .ok (.lst (b.inner++p.1),p.2) else .bad
 | .potAt k,st=>(Res.ofOpt (isH st k 0)).bind fun _=>.ok (.int st.g.pat,st)
 | .potCells k,st=>(Res.ofOpt (isH st k 0)).bind fun _=>.ok (.lst (st.g.cells.map .int),st)
 | .dead,_=>.bad
noncomputable def evO (ft:FT):Option E→St→Res (Option Int×St)
 | none,st=>.ok (none,st)
 | some e,st=>(ev ft e st).bind fun p=>match p.1 with
  | .int i=>if bl i then .ok (some i,p.2) else .bad
  | _=>.bad
noncomputable def evs (ft:FT):List E→St→Res (List D×St)
 | [],st=>.ok ([],st)
 | e::r,st=>(ev ft e st).bind fun p=>(evs ft r p.2).bind fun q=>.ok (p.1::q.1,q.2)
noncomputable def br (ft:FT):List E→St→Res (D×St)
 | [],st=>.ok (.bool true,st)
 | e::r,st=>(ev ft e st).bind fun p=>(Res.ofOpt (bY p.1)).bind fun t=>match t with
  | true=>br ft r p.2
  | false=>.ok (.bool false,p.2)
noncomputable def dm (ft:FT):List E→St→Res (D×St)
 | [],st=>.ok (.bool false,st)
 | e::r,st=>(ev ft e st).bind fun p=>(Res.ofOpt (bY p.1)).bind fun t=>match t with
  | true=>.ok (.bool true,p.2)
  | false=>dm ft r p.2
end
noncomputable def cr (f:D→St→Res (Fl×St)):List D→St→Res (Fl×St)
 | [],st=>.ok (.next,st)
 | d::r,st=>(f d st).bind fun p=>match p.1 with
  | .next=>cr f r p.2
  | .ret v=>.ok (.ret v,p.2)
noncomputable def cV (ft:FT):List (Nat×Init)→St→Res (List (Nat×Slot)×St)
 | [],st=>.ok ([],st)
 | (i,.v e)::r,st=>(ev ft e st).bind fun p=>(cV ft r p.2).bind fun q=>.ok ((i,.val p.1)::q.1,q.2)
 | (i,.l es)::r,st=>(evs ft es st).bind fun p=>if p.1.length≤1000 then (cV ft r p.2).bind fun q=>.ok ((i,.own (.lst p.1))::q.1,q.2) else .bad
 | (i,.d)::r,st=>(cV ft r st).bind fun q=>.ok ((i,.own (.dct []))::q.1,q.2)
mutual
noncomputable def ex (ft:FT):S→St→Res (Fl×St)
 | .assign i e,st=>(ev ft e st).bind fun p=>.ok (.next,p.2.set i (.val p.1))
 | .ownL i es,st=>(evs ft es st).bind fun p=>if p.1.length≤1000 then .ok (.next,p.2.set i (.own (.lst p.1))) else .bad
 | .ownD i,st=>.ok (.next,st.set i (.own (.dct [])))
 | .tupA is e,st=>(ev ft e st).bind fun p=>match p.1 with
  | .tup ds=>(Res.ofOpt (p.2.sets is ds)).bind fun st'=>.ok (.next,st')
  | _=>.bad
 | .tupO is,st=>(cV ft is st).bind fun p=>.ok (.next,p.1.foldl (fun s q=>s.set q.1 q.2) p.2)
 | .setK k e1 e2,st=>(ev ft e2 st).bind fun p=>(Res.ofOpt (gs p.2 k)).bind fun _=>(ev ft e1 p.2).bind fun q=>(Res.ofOpt (gs q.2 k)).bind fun kvs=>match q.1 with
  | .str x=>if kvs.length≤1000 then .ok (.next,q.2.set k (.own (.dct (cz x p.1 kvs)))) else .bad
  | _=>.bad
 | .app k e,st=>(Res.ofOpt (cZ st k)).bind fun _=>(ev ft e st).bind fun p=>(Res.ofOpt (cZ p.2 k)).bind fun ds=>
   if ds.length≤1000 then .ok (.next,p.2.set k (.own (.lst (ds++[p.1])))) else .bad
 | .ext k e,st=>(Res.ofOpt (cZ st k)).bind fun _=>(ev ft e st).bind fun p=>(Res.ofOpt (cZ p.2 k)).bind fun ds=>match p.1 with
  | .lst es=>if ds.length + es.length≤1000 then .ok (.next,p.2.set k (.own (.lst (ds++es)))) else .bad
  | _=>.bad
 | .aug k e,st=>(Res.ofOpt (cZ st k)).bind fun _=>(ev ft e st).bind fun p=>(Res.ofOpt (cZ p.2 k)).bind fun ds=>match p.1 with
  | .lst es=>if ds.length + es.length≤1000 then .ok (.next,p.2.set k (.own (.lst (ds++es)))) else .bad
  | _=>.bad
 | .ife c a b,st=>(ev ft c st).bind fun p=>(Res.ofOpt (bY p.1)).bind fun t=>match t with
  | true=>exs ft a p.2
  | false=>exs ft b p.2
 | .forL pat it body,st=>(ev ft it st).bind fun p=>(Res.ofOpt (dG p.1)).bind fun ds=>
   cr (fun d s=>(Res.ofOpt (bb s pat d)).bind fun s1=>exs ft body s1) ds p.2
 | .forR v it body,st=>(ev ft it st).bind fun p=>match p.1 with
  | .int n=>if c9 n then cr (fun d s=>exs ft body (s.set v (.val d))) (cP n) p.2 else .bad
  | _=>.bad
 | .forE v1 v2 it body,st=>(ev ft it st).bind fun p=>(Res.ofOpt (dG p.1)).bind fun ds=>
   cr (fun d s=>match d with
    | .tup [a,b]=>exs ft body ((s.set v1 (.val a)).set v2 (.val b))
    | _=>.bad) (ds.zipIdx.map fun q=>.tup [.int q.2,q.1]) p.2
 | .ret e,st=>(ev ft e st).bind fun p=>.ok (.ret p.1,p.2)
 | .rais e,st=>(ev ft e st).bind fun p=>match p.1 with
  | .int n=>.flt n
  | _=>.bad
 | .ex e,st=>(ev ft e st).bind fun p=>match p.1 with
  | .none=>.ok (.next,p.2)
  | _=>.bad
 | .lay k e1 e2,st=>(Res.ofOpt (isH st k 1)).bind fun _=>(ev ft e1 st).bind fun p=>(ev ft e2 p.2).bind fun q=>(ft .lay [.hnd 1,p.1,q.1] q.2.g).bind fun r=>match r.1 with
  | .none=>.ok (.next,{q.2 with g:=r.2})
  | _=>.bad
 | .stepsApp k e,st=>(Res.ofOpt (isH st k 1)).bind fun _=>(Res.ofOpt st.g.bld).bind fun _=>(ev ft e st).bind fun p=>(Res.ofOpt p.2.g.bld).bind fun b=>
   if b.steps.length≤1000 then .ok (.next,{p.2 with g:={p.2.g with bld:=some {b with steps:=b.steps++[p.1]}}}) else .bad
 | .incCount k,st=>(Res.ofOpt (isH st k 2)).bind fun _=>(Res.ofOpt st.g.bld).bind fun b=>
   if bl (b.count + 1) then .ok (.next,{st with g:={st.g with bld:=some {b with count:=b.count + 1}}}) else .bad
 | .innerApp k e,st=>(Res.ofOpt (isH st k 1)).bind fun _=>(Res.ofOpt st.g.bld).bind fun _=>(ev ft e st).bind fun p=>(Res.ofOpt p.2.g.bld).bind fun b=>
   if b.inner.length≤1000 then .ok (.next,{p.2 with g:={p.2.g with bld:=some {b with inner:=b.inner++[p.1]}}}) else .bad
 | .potInc k,st=>(Res.ofOpt (isH st k 0)).bind fun _=>.ok (.next,{st with g:={st.g with pat:=st.g.pat + 1}})
 | .dead,_=>.bad
noncomputable def exs (ft:FT):List S→St→Res (Fl×St)
 | [],st=>.ok (.next,st)
 | s::r,st=>(ex ft s st).bind fun p=>match p.1 with
  | .next=>exs ft r p.2
  | .ret v=>.ok (.ret v,p.2)
end
structure FnIR where
 nv:Nat
 np:Nat
 body:List S
noncomputable def aG (ft:FT)(f:FnIR)(args:List D)(g:G):Res (D×G):=
 if args.length=f.np then
  (exs ft f.body ⟨args.map (fun d=>some (.val d))++List.replicate (f.nv - f.np) none,g⟩).bind fun p=>match p.1 with
   | .next=>.ok (.none,p.2.g)
   | .ret d=>.ok (d,p.2.g)
 else .bad
noncomputable def nt_formal_names:List Str:=[so "formal"]
noncomputable def ir_formal_names:FnIR:={nv:=1,np:=1,body:=[.ife (.op .eq (.ix (.var 0) (.cst (.int 0))) (.cst (.str (so "fobject")))) [.ret (.ix (.var 0) (.cst (.int 2)))] [],
 .ife (.op .eq (.ix (.var 0) (.cst (.int 0))) (.cst (.str (so "fsub")))) [.ret (.lst [(.ix (.ix (.var 0) (.cst (.int 2))) (.cst (.int 1)))])] [],
 .ret (.lst [(.ix (.var 0) (.cst (.int 2)))])]}
noncomputable def nt_default_of:List Str:=[so "formal"]
noncomputable def ir_default_of:FnIR:={nv:=1,np:=1,body:=[.ife (.op .eq (.ix (.var 0) (.cst (.int 0))) (.cst (.str (so "fobject")))) [.ret (.ix (.var 0) (.cst (.int 5)))] [],
 .ife (.op .eq (.ix (.var 0) (.cst (.int 0))) (.cst (.str (so "fsub")))) [.ret (.ix (.var 0) (.cst (.int 3)))] [],
 .ret (.cst .none)]}
noncomputable def nt_choice_name:List Str:=[so "choice",so "line"]
noncomputable def ir_choice_name:FnIR:={nv:=2,np:=2,body:=[.ife (.op .eq (.ix (.var 0) (.cst (.int 0))) (.cst (.str (so "name")))) [.ret (.ix (.var 0) (.cst (.int 1)))] [],
 .ife (.op .eq (.ix (.var 0) (.cst (.int 0))) (.cst (.str (so "string")))) [.ret (.op .add (.op .add (.cst (.str (so "\""))) (.lower (.ix (.var 0) (.cst (.int 1))))) (.cst (.str (so "\""))))] [],
 .rais (.var 1)]}
noncomputable def nt_types_told:List Str:=[so "formal",so "kind",so "name",so "params",so "result",so "marks",so "names",so "mode",so "mark",so "default"]
noncomputable def ir_types_told:FnIR:={nv:=10,np:=1,body:=[.tupA [1,2,3,4] (.ix (.var 0) (.cst (.int 2))),
 .ownL 5 [],
 .forL [6,7,8,9] (.var 3) [.ext 5 (.op .mul (.lst [(.var 8)]) (.len (.var 6)))],
 .ret (.op .add (.fz 5) (.lst [(.tup [(.cst (.str (so "result"))),(.var 4)])]))]}
noncomputable def nt_formal_keys:List Str:=[so "formals",so "line",so "keys",so "names",so "defaults",so "formal",so "row",so "name",so "one",so "key",so "others",so "other",so "known"]
noncomputable def ir_formal_keys:FnIR:={nv:=13,np:=2,body:=[.ownL 2 [],
 .ownD 3,
 .ownD 4,
 .forL [5] (.var 0) [.ownL 6 [],
 .forL [7] (.call .formal_names [(.var 5)]) [.assign 10 (.compV [8] 2 [(.inn (.var 7) (.compE [9] (.ix (.var 8) (.cst (.int 1))) [] (.ixV 3 (.var 9))))] (.var 8)),
 .forL [11,12] (.var 10) [.ife (.or [(.op .ne (.ix (.var 5) (.cst (.int 0))) (.cst (.str (so "fsub")))),(.op .ne (.ix (.var 11) (.cst (.int 0))) (.cst (.str (so "fsub")))),(.op .eq (.call .types_told [(.var 5)]) (.call .types_told [(.var 11)]))]) [.rais (.var 1)] []],
 .assign 9 (.ite (.op .eq (.var 10) (.lst [])) (.var 7) (.op .add (.op .add (.var 7) (.cst (.str (so " ")))) (.str (.len (.var 10))))),
 .ife (.inV (.var 9) 3) [.rais (.var 1)] [],
 .setK 3 (.var 9) (.var 7),
 .setK 4 (.var 9) (.call .default_of [(.var 5)]),
 .app 6 (.var 9)],
 .app 2 (.tup [(.var 5),(.fz 6)])],
 .ret (.tup [(.compV [5,6] 2 [] (.fz 6)),(.fz 3),(.fz 4)])]}
noncomputable def nt_match_formals:List Str:=[so "formals",so "assocs",so "line",so "rows",so "names",so "defaults",so "row",so "key",so "order",so "found",so "is_named",so "spot",so "choices",so "node",so "wanted",so "choice",so "one"]
noncomputable def ir_match_formals:FnIR:={nv:=17,np:=3,body:=[.tupA [3,4,5] (.call .formal_keys [(.var 0),(.var 2)]),
 .assign 8 (.comp2 6 (.var 3) 7),
 .ownD 9,
 .assign 10 (.cst (.bool false)),
 .forR 11 (.len (.var 1)) [.tupA [12,13] (.ix (.var 1) (.var 11)),
 .ife (.isN (.var 12)) [.ife (.var 10) [.rais (.var 2)] [],
 .ife (.op .ge (.var 11) (.len (.var 8))) [.rais (.var 2)] [],
 .assign 14 (.lst [(.ix (.var 8) (.var 11))])] [.assign 10 (.cst (.bool true)),
 .assign 14 (.compE [15] (.var 12) [] (.call .choice_name [(.var 15),(.var 2)]))],
 .forL [7] (.var 14) [.ife (.and [(.isNN (.var 12)),(.op .ne (.len (.compE [16] (.var 8) [(.op .eq (.ix (.var 4) (.var 16)) (.var 7))] (.var 16))) (.cst (.int 1)))]) [.rais (.var 2)] [],
 .ife (.inV (.var 7) 9) [.rais (.var 2)] [],
 .setK 9 (.var 7) (.tup [(.cst (.str (so "actual"))),(.var 13)])]],
 .forL [7] (.var 8) [.ife (.ninV (.var 7) 9) [.ife (.isN (.ix (.var 5) (.var 7))) [.rais (.var 2)] [],
 .setK 9 (.var 7) (.ite (.op .eq (.ix (.var 5) (.var 7)) (.cst (.str (so "box")))) (.tup [(.cst (.str (so "box")))]) (.tup [(.cst (.str (so "default"))),(.ix (.var 5) (.var 7))]))] []],
 .ret (.fz 9)]}
noncomputable def nt_fresh_mark:List Str:=[so "mark",so "table"]
noncomputable def ir_fresh_mark:FnIR:={nv:=2,np:=2,body:=[.ife (.and [(.op .eq (.ix (.var 0) (.cst (.int 0))) (.cst (.str (so "name")))),(.inn (.ix (.var 0) (.cst (.int 1))) (.var 1))]) [.ret (.tup [(.cst (.str (so "name"))),(.ix (.var 1) (.ix (.var 0) (.cst (.int 1))))])] [],
 .ife (.or [(.op .eq (.ix (.var 0) (.cst (.int 0))) (.cst (.str (so "select")))),(.op .eq (.ix (.var 0) (.cst (.int 0))) (.cst (.str (so "tick"))))]) [.ret (.op .add (.tup [(.ix (.var 0) (.cst (.int 0))),(.call .fresh_mark [(.ix (.var 0) (.cst (.int 1))),(.var 1)])]) (.slc (.var 0) (some (.cst (.int 2))) none))] [],
 .ret (.var 0)]}
noncomputable def nt_fresh_spec:List Str:=[so "builder",so "line",so "spec",so "name",so "kind",so "own",so "params",so "result",so "rows",so "names",so "mode",so "mark",so "default"]
noncomputable def ir_fresh_spec:FnIR:={nv:=13,np:=4,body:=[.tupA [4,5,6,7] (.var 2),
 .ownL 8 [],
 .forL [9,10,11,12] (.var 6) [.app 8 (.tup [(.var 9),(.var 10),(.mark 0 (.var 1) (.var 11)),(.cst .none)])],
 .ife (.isNN (.var 7)) [.assign 7 (.mark 0 (.var 1) (.var 7))] [],
 .ret (.tup [(.var 4),(.var 3),(.fz 8),(.var 7)])]}
noncomputable def nt_lay_formal_sub:List Str:=[so "builder",so "formal",so "actuals",so "word",so "line",so "spec",so "default",so "name",so "actual",so "node",so "fresh"]
noncomputable def ir_lay_formal_sub:FnIR:={nv:=11,np:=3,body:=[.tupA [3,4,5,6] (.var 1),
 .assign 7 (.ix (.var 5) (.cst (.int 1))),
 .assign 8 (.ix (.var 2) (.var 7)),
 .ife (.op .eq (.ix (.var 8) (.cst (.int 0))) (.cst (.str (so "default")))) [.innerApp 0 (.tup [(.cst (.str (so "rename"))),(.var 4),(.cst (.str (so "subprog"))),(.var 7),(.var 5),(.ix (.var 8) (.cst (.int 1)))]),
 .ret (.cst .none)] [],
 .assign 9 (.ite (.op .eq (.ix (.var 8) (.cst (.int 0))) (.cst (.str (so "box")))) (.call .operator_node [(.var 7)]) (.ix (.var 8) (.cst (.int 1)))),
 .assign 10 (.fresh 0 (.var 7)),
 .lay 0 (.cst (.str (so "instance"))) (.tup [(.cst (.str (so "rename"))),(.var 4),(.cst (.str (so "subprog"))),(.var 10),(.call .fresh_spec [(.var 0),(.var 4),(.var 5),(.var 10)]),(.var 9)]),
 .innerApp 0 (.tup [(.cst (.str (so "rename"))),(.var 4),(.cst (.str (so "subprog"))),(.var 7),(.var 5),(.tup [(.cst (.str (so "name"))),(.var 10)])])]}
noncomputable def nt_operator_node:List Str:=[so "name"]
noncomputable def ir_operator_node:FnIR:={nv:=1,np:=1,body:=[.ife (.op .eq (.slc (.var 0) none (some (.cst (.int 1)))) (.cst (.str (so "\"")))) [.ret (.tup [(.cst (.str (so "string"))),(.slc (.var 0) (some (.cst (.int 1))) (some (.cst (.int (-1)))))])] [],
 .ret (.tup [(.cst (.str (so "name"))),(.var 0)])]}
noncomputable def nt_unit_name:List Str:=[so "unit"]
noncomputable def ir_unit_name:FnIR:={nv:=1,np:=1,body:=[.ife (.op .eq (.ix (.var 0) (.cst (.int 0))) (.cst (.str (so "subprog")))) [.ret (.ix (.ix (.var 0) (.cst (.int 2))) (.cst (.int 1)))] [],
 .ret (.ix (.var 0) (.cst (.int 2)))]}
noncomputable def nt_unit_sort:List Str:=[so "unit"]
noncomputable def ir_unit_sort:FnIR:={nv:=1,np:=1,body:=[.ife (.op .eq (.ix (.var 0) (.cst (.int 0))) (.cst (.str (so "subprog")))) [.ret (.ix (.ix (.var 0) (.cst (.int 2))) (.cst (.int 0)))] [],
 .ret (.cst (.str (so "package")))]}
noncomputable def nt_instantiate:List Str:=[so "generic",so "body",so "instance",so "number",so "word",so "line",so "sort",so "name",so "node",so "assocs",so "unit",so "actuals",so "rows",so "names",so "defaults",so "builder",so "at",so "key",so "wrapper",so "alias"]
noncomputable def ir_instantiate:FnIR:={nv:=20,np:=4,body:=[.tupA [4,5,6,7,8,9] (.var 2),
 .assign 10 (.ix (.var 0) (.cst (.int 3))),
 .ife (.op .ne (.call .unit_sort [(.var 10)]) (.var 6)) [.rais (.var 5)] [],
 .assign 11 (.call .match_formals [(.ix (.var 0) (.cst (.int 2))),(.var 9),(.var 5)]),
 .tupA [12,13,14] (.call .formal_keys [(.ix (.var 0) (.cst (.int 2))),(.var 5)]),
 .assign 15 (.newB (.var 3)),
 .forR 16 (.len (.ix (.var 0) (.cst (.int 2)))) [.ex (.callL (.ix (.ix (.ix (.var 0) (.cst (.int 2))) (.var 16)) (.cst (.int 0))) [(.var 15),(.ix (.ix (.var 0) (.cst (.int 2))) (.var 16)),(.dcomp 17 (.ix (.var 12) (.var 16)) (.ix (.var 13) (.var 17)) (.ix (.var 11) (.var 17)))])],
 .assign 18 (.fresh 15 (.cst (.str (so "wrapper")))),
 .lay 15 (.cst (.str (so "generic"))) (.tup [(.cst (.str (so "package"))),(.var 5),(.var 18),(.innerPlus 15 [(.var 10)]),(.lst [])]),
 .ife (.isNN (.var 1)) [.lay 15 (.cst (.str (so "generic"))) (.tup [(.cst (.str (so "packbody"))),(.var 5),(.var 18),(.lst [(.var 1)]),(.lst []),(.lst [])])] [],
 .assign 19 (.tup [(.cst (.str (so "alias"))),(.var 5),(.var 7),(.tup [(.cst (.str (so "select"))),(.tup [(.cst (.str (so "name"))),(.var 18)]),(.call .unit_name [(.var 10)])])]),
 .ret (.tup [(.steps 15),(.var 19)])]}
noncomputable def nt_formal:List Str:=[so "pot",so "line",so "name",so "first",so "second",so "way",so "params",so "takes",so "gives",so "spec",so "default"]
noncomputable def ir_formal:FnIR:={nv:=11,np:=2,body:=[.assign 2 (.ix (.glob (so "_law_heads") (.tup [.str (so "\"-\""),.str (so "\"mod\""),.str (so "\"-\""),.str (so "pick")])) (.call .take [(.var 0),(.cst (.int 4))])),
 .tupO [(3,.v (.ix (.cst (.str (so "tu"))) (.call .take [(.var 0),(.cst (.int 2))]))),(4,.v (.ix (.cst (.str (so "tu"))) (.call .take [(.var 0),(.cst (.int 2))])))],
 .assign 5 (.ite (.op .eq (.var 2) (.cst (.str (so "\"mod\"")))) (.op .add (.cst (.int 1)) (.call .take [(.var 0),(.cst (.int 2))])) (.call .take [(.var 0),(.cst (.int 3))])),
 .tupO [(6,.l [(.tup [(.lst [(.cst (.str (so "x")))]),(.cst (.str (so "in"))),(.tup [(.cst (.str (so "name"))),(.var 3)]),(.cst .none)])]),(7,.v (.var 3))],
 .ife (.op .eq (.var 5) (.cst (.int 1))) [.tupO [(6,.l [(.tup [(.lst [(.cst (.str (so "x"))),(.cst (.str (so "y")))]),(.cst (.str (so "in"))),(.tup [(.cst (.str (so "name"))),(.var 3)]),(.cst .none)])]),(7,.v (.op .add (.var 3) (.var 3)))]] [.ife (.op .eq (.var 5) (.cst (.int 2))) [.app 6 (.tup [(.lst [(.cst (.str (so "y")))]),(.cst (.str (so "in"))),(.tup [(.cst (.str (so "name"))),(.var 4)]),(.cst .none)]),
 .assign 7 (.op .add (.var 3) (.var 4))] []],
 .assign 8 (.ite (.op .eq (.var 2) (.cst (.str (so "pick")))) (.ix (.cst (.str (so "tu-"))) (.call .take [(.var 0),(.cst (.int 3))])) (.ix (.cst (.str (so "tu"))) (.call .take [(.var 0),(.cst (.int 2))]))),
 .assign 9 (.tup [(.cst (.str (so "function"))),(.var 2),(.fz 6),(.tup [(.cst (.str (so "name"))),(.var 8)])]),
 .ife (.op .eq (.var 8) (.cst (.str (so "-")))) [.assign 9 (.tup [(.cst (.str (so "procedure"))),(.var 2),(.fz 6),(.cst .none)])] [],
 .assign 10 (.ix (.tup [(.cst .none),(.cst (.str (so "box"))),(.tup [(.cst (.str (so "name"))),(.cst (.str (so "other")))])]) (.call .take [(.var 0),(.cst (.int 3))])),
 .ret (.tup [(.tup [(.cst (.str (so "fsub"))),(.var 1),(.var 9),(.var 10)]),(.op .add (.var 7) (.var 8))])]}
noncomputable def nt_row:List Str:=[so "pot",so "name",so "actual",so "letters"]
noncomputable def ir_row:FnIR:={nv:=4,np:=3,body:=[.ife (.op .ne (.slc (.var 1) none (some (.cst (.int 1)))) (.cst (.str (so "\"")))) [.ret (.tup [(.ite (.op .eq (.var 1) (.cst (.str (so "")))) (.cst .none) (.lst [(.tup [(.cst (.str (so "name"))),(.var 1)])])),(.tup [(.cst (.str (so "name"))),(.var 2)]),(.var 1)])] [],
 .assign 3 (.ite (.op .eq (.call .take [(.var 0),(.cst (.int 2))]) (.cst (.int 0))) (.upper (.slc (.var 1) (some (.cst (.int 1))) (some (.cst (.int (-1)))))) (.slc (.var 1) (some (.cst (.int 1))) (some (.cst (.int (-1)))))),
 .ret (.tup [(.lst [(.tup [(.cst (.str (so "string"))),(.var 3)])]),(.tup [(.cst (.str (so "name"))),(.var 2)]),(.var 1)])]}
noncomputable def nt_actuals:List Str:=[so "pot",so "formals",so "rows",so "is_named",so "at",so "formal",so "way",so "more"]
noncomputable def ir_actuals:FnIR:={nv:=8,np:=2,body:=[.tupO [(2,.l []),(3,.v (.cst (.bool false)))],
 .forE 4 5 (.var 1) [.assign 6 (.call .take [(.var 0),(.cst (.int 5))]),
 .assign 3 (.or [(.var 3),(.op .gt (.var 6) (.cst (.int 2)))]),
 .ife (.or [(.op .lt (.var 6) (.cst (.int 4))),(.isN (.ix (.var 5) (.cst (.int 3))))]) [.app 2 (.call .row [(.var 0),(.ite (.var 3) (.ix (.ix (.var 5) (.cst (.int 2))) (.cst (.int 1))) (.cst (.str (so "")))),(.op .add (.cst (.str (so "f"))) (.ix (.cst (.str (so "abcde"))) (.var 4)))])] []],
 .assign 7 (.call .take [(.var 0),(.cst (.int 6))]),
 .ife (.op .eq (.var 7) (.cst (.int 3))) [.app 2 (.call .row [(.var 0),(.cst (.str (so ""))),(.cst (.str (so "extra")))])] [.ife (.op .eq (.var 7) (.cst (.int 4))) [.app 2 (.call .row [(.var 0),(.cst (.str (so "nobody"))),(.cst (.str (so "extra")))])] [.ife (.op .eq (.var 7) (.cst (.int 5))) [.app 2 (.call .row [(.var 0),(.ix (.ix (.ix (.var 1) (.call .take [(.var 0),(.len (.var 1))])) (.cst (.int 2))) (.cst (.int 1))),(.cst (.str (so "extra")))])] []]],
 .ret (.fz 2)]}
noncomputable def nt_due:List Str:=[so "formals",so "kinds",so "rows",so "formal",so "names",so "at",so "placed",so "choices",so "node",so "meant",so "name",so "found",so "told",so "default"]
noncomputable def ir_due:FnIR:={nv:=14,np:=3,body:=[.assign 4 (.compE [3] (.var 0) [] (.ix (.ix (.var 3) (.cst (.int 2))) (.cst (.int 1)))),
 .assign 6 (.compR 5 (.len (.var 2)) [(.isN (.ix (.ix (.var 2) (.var 5)) (.cst (.int 0))))] (.var 5)),
 .ife (.or [(.op .ne (.var 6) (.listR (.len (.var 6)))),(.op .gt (.len (.var 6)) (.len (.var 4)))]) [.ret (.cst .none)] [],
 .ife (.op .lt (.lenDC 5 (.len (.var 4)) (.tup [(.ix (.var 4) (.var 5)),(.ix (.var 1) (.var 5))]) (.cst (.int 1))) (.len (.var 4))) [.ret (.cst .none)] [],
 .forL [7,8,9] (.slc (.var 2) (some (.len (.var 6))) none) [.ife (.op .ne (.len (.compE [10] (.var 4) [(.op .eq (.var 10) (.var 9))] (.cst (.int 1)))) (.cst (.int 1))) [.ret (.cst .none)] []],
 .ownL 11 [],
 .forE 5 10 (.var 4) [.ife (.op .lt (.var 5) (.len (.var 6))) [.ownL 12 [(.ix (.ix (.var 2) (.var 5)) (.cst (.int 1)))]] [.ownL 12 []],
 .aug 12 (.compE [7,8,9] (.slc (.var 2) (some (.len (.var 6))) none) [(.op .eq (.var 9) (.var 10))] (.var 8)),
 .assign 13 (.ix (.ix (.var 0) (.var 5)) (.cst (.int 3))),
 .ife (.or [(.op .gt (.lenV 12) (.cst (.int 1))),(.and [(.eqV 12 (.lst [])),(.isN (.var 13))])]) [.ret (.cst .none)] [],
 .ife (.and [(.eqV 12 (.lst [])),(.op .eq (.var 13) (.cst (.str (so "box"))))]) [.ownL 12 [(.ite (.op .eq (.slc (.var 10) none (some (.cst (.int 1)))) (.cst (.str (so "\"")))) (.tup [(.cst (.str (so "string"))),(.slc (.var 10) (some (.cst (.int 1))) (some (.cst (.int (-1)))))]) (.tup [(.cst (.str (so "name"))),(.var 10)]))]] [],
 .app 11 (.ite (.op .ne (.fz 12) (.lst [])) (.tup [(.cst (.str (so "laid"))),(.ixV 12 (.cst (.int 0)))]) (.tup [(.cst (.str (so "within"))),(.var 13)]))],
 .ret (.fz 11)]}
noncomputable def nt_plain:List Str:=[so "spec",so "name",so "marks",so "line",so "names",so "mode",so "mark",so "default",so "rows"]
noncomputable def ir_plain:FnIR:={nv:=9,np:=4,body:=[.ife (.op .ne (.compE [4,5,6,7] (.ix (.var 0) (.cst (.int 2))) [(.op .ne (.ix (.getV 2 (.ix (.var 6) (.cst (.int 1))) (.tup [(.cst (.int 0)),(.cst (.int 0))])) (.cst (.int 0))) (.var 3))] (.var 6)) (.lst [])) [.ret (.cst .none)] [],
 .assign 8 (.compE [4,5,6,7] (.ix (.var 0) (.cst (.int 2))) [] (.tup [(.var 4),(.var 5),(.ix (.ix (.var 2) (.ix (.var 6) (.cst (.int 1)))) (.cst (.int 1))),(.var 7)])),
 .ife (.isN (.ix (.var 0) (.cst (.int 3)))) [.ret (.tup [(.ix (.var 0) (.cst (.int 0))),(.var 1),(.var 8),(.cst .none)])] [],
 .ret (.tup [(.ix (.var 0) (.cst (.int 0))),(.var 1),(.var 8),(.ix (.getV 2 (.ix (.ix (.var 0) (.cst (.int 3))) (.cst (.int 1))) (.tup [(.cst (.int 0)),(.cst (.int 0))])) (.cst (.int 1)))])]}
noncomputable def nt_is_laid:List Str:=[so "steps",so "formals",so "due",so "marks",so "laid",so "place",so "row",so "names",so "name",so "way",so "node",so "at",so "formal",so "word",so "line",so "spec",so "default",so "shown"]
noncomputable def ir_is_laid:FnIR:={nv:=18,np:=3,body:=[.tupO [(3,.d),(4,.d)],
 .forL [5,6] (.slc (.var 0) none (some (.cst (.int (-1))))) [.ife (.op .eq (.ix (.var 6) (.cst (.int 0))) (.cst (.str (so "subtype")))) [.ife (.or [(.op .ne (.var 5) (.cst (.str (so "generic")))),(.op .ne (.ix (.var 6) (.cst (.int 3))) (.tup [(.cst (.str (so "sub"))),(.ix (.ix (.var 6) (.cst (.int 3))) (.cst (.int 1))),(.cst .none)]))]) [.ret (.cst (.bool false))] [],
 .setK 3 (.ix (.var 6) (.cst (.int 2))) (.tup [(.ix (.var 6) (.cst (.int 1))),(.ix (.ix (.var 6) (.cst (.int 3))) (.cst (.int 1)))])] [.ife (.or [(.op .ne (.var 5) (.cst (.str (so "instance")))),(.op .ne (.slc (.var 6) none (some (.cst (.int 3)))) (.tup [(.cst (.str (so "rename"))),(.ix (.var 6) (.cst (.int 1))),(.cst (.str (so "subprog")))]))]) [.ret (.cst (.bool false))] [],
 .setK 4 (.ix (.var 6) (.cst (.int 3))) (.var 6)]],
 .assign 7 (.op .add (.listV 3) (.listV 4)),
 .ife (.or [(.op .ne (.len (.var 7)) (.op .sub (.len (.var 0)) (.cst (.int 1)))),(.op .ne (.compE [8] (.var 7) [(.ninn (.cst (.str (so "__"))) (.var 8))] (.var 8)) (.lst []))]) [.ret (.cst (.bool false))] [],
 .ife (.op .ne (.lenV 4) (.len (.compE [9,10] (.var 2) [(.op .eq (.var 9) (.cst (.str (so "laid"))))] (.cst (.int 1))))) [.ret (.cst (.bool false))] [],
 .forE 11 12 (.var 1) [.tupA [13,14,15,16] (.var 12),
 .tupA [9,10] (.ix (.var 2) (.var 11)),
 .assign 17 (.ix (.ix (.ix (.ix (.var 0) (.cst (.int (-1)))) (.cst (.int 1))) (.cst (.int 3))) (.var 11)),
 .ife (.op .eq (.var 9) (.cst (.str (so "laid")))) [.assign 6 (.getV 4 (.ix (.ix (.var 17) (.cst (.int 5))) (.cst (.int 1))) (.var 17)),
 .ife (.or [(.op .ne (.ix (.var 6) (.cst (.int 1))) (.var 14)),(.op .ne (.ix (.var 6) (.cst (.int 5))) (.var 10)),(.op .ne (.ix (.ix (.var 6) (.cst (.int 4))) (.cst (.int 1))) (.ix (.var 6) (.cst (.int 3)))),(.op .ne (.ix (.var 17) (.cst (.int 5))) (.tup [(.cst (.str (so "name"))),(.ix (.var 6) (.cst (.int 3)))]))]) [.ret (.cst (.bool false))] [],
 .ife (.op .ne (.call .plain [(.ix (.var 6) (.cst (.int 4))),(.ix (.var 15) (.cst (.int 1))),(.fz 3),(.var 14)]) (.var 15)) [.ret (.cst (.bool false))] [],
 .assign 10 (.ix (.var 17) (.cst (.int 5)))] [],
 .ife (.op .ne (.var 17) (.tup [(.cst (.str (so "rename"))),(.var 14),(.cst (.str (so "subprog"))),(.ix (.var 15) (.cst (.int 1))),(.var 15),(.var 10)])) [.ret (.cst (.bool false))] []],
 .ret (.cst (.bool true))]}
noncomputable def ir:List Str:=[so "script",so "pot",so "formals",so "kinds",so "turn",so "formal",so "kind",so "rows",so "sort",so "unit",so "wanted",so "line",so "due",so "choices",so "node",so "meant",so "instance",so "steps",so "alias",so "fault",so "place",so "last",so "where",so "row"]
noncomputable def nv_law:Nat:=24
noncomputable def fL:List S:=[.tupO [(2,.l []),(3,.l [])],
 .forR 4 (.op .add (.cst (.int 2)) (.call .take [(.var 1),(.cst (.int 4))])) [.tupA [5,6] (.call .formal [(.var 1),(.op .add (.cst (.int 3)) (.var 4))]),
 .app 2 (.var 5),
 .app 3 (.var 6)],
 .assign 7 (.call .actuals [(.var 1),(.fz 2)]),
 .assign 8 (.ix (.tup [(.cst (.str (so "package"))),(.cst (.str (so "procedure"))),(.cst (.str (so "function")))]) (.call .take [(.var 1),(.cst (.int 3))])),
 .assign 9 (.tup [(.cst (.str (so "package"))),(.cst (.int 9)),(.cst (.str (so "unit"))),(.lst []),(.lst [])]),
 .ife (.op .ne (.var 8) (.cst (.str (so "package")))) [.assign 9 (.tup [(.cst (.str (so "subprog"))),(.cst (.int 9)),(.tup [(.var 8),(.cst (.str (so "unit"))),(.lst []),(.ite (.op .eq (.var 8) (.cst (.str (so "procedure")))) (.cst .none) (.tup [(.cst (.str (so "name"))),(.cst (.str (so "t")))]))])])] [],
 .assign 10 (.ite (.op .eq (.call .take [(.var 1),(.cst (.int 9))]) (.cst (.int 4))) (.cst (.str (so "package"))) (.var 8)),
 .assign 11 (.op .add (.cst (.int 10)) (.call .take [(.var 1),(.cst (.int 50))])),
 .assign 12 (.ite (.op .eq (.var 10) (.var 8)) (.call .due [(.fz 2),(.fz 3),(.var 7)]) (.cst .none)),
 .assign 16 (.tup [(.cst (.str (so "instance"))),(.var 11),(.var 10),(.cst (.str (so "mine"))),(.tup [(.cst (.str (so "name"))),(.cst (.str (so "unit")))]),(.compE [13,14,15] (.var 7) [] (.tup [(.var 13),(.var 14)]))])]
noncomputable def eV:List S:=[.ife (.or [(.isN (.var 12)),(.op .ne (.slc (.var 18) none (some (.cst (.int 3)))) (.tup [(.cst (.str (so "alias"))),(.var 11),(.cst (.str (so "mine")))])),(.op .ne (.ix (.ix (.var 18) (.cst (.int 3))) (.cst (.int 0))) (.cst (.str (so "select")))),(.op .ne (.ix (.ix (.var 18) (.cst (.int 3))) (.cst (.int 2))) (.cst (.str (so "unit"))))]) [.ret (.cst (.bool false))] [],
 .tupA [20,21] (.ix (.var 17) (.cst (.int (-1)))),
 .ife (.or [(.op .ne (.var 20) (.cst (.str (so "generic")))),(.op .ne (.ix (.ix (.var 18) (.cst (.int 3))) (.cst (.int 1))) (.tup [(.cst (.str (so "name"))),(.ix (.var 21) (.cst (.int 2)))])),(.ninn (.cst (.str (so "__"))) (.ix (.var 21) (.cst (.int 2)))),(.inn (.ix (.var 21) (.cst (.int 2))) (.compE [22,23] (.slc (.var 17) none (some (.cst (.int (-1))))) [] (.ix (.var 23) (.cst (.int 2)))))]) [.ret (.cst (.bool false))] [],
 .ife (.or [(.op .ne (.var 21) (.tup [(.cst (.str (so "package"))),(.var 11),(.ix (.var 21) (.cst (.int 2))),(.ix (.var 21) (.cst (.int 3))),(.lst [])])),(.op .ne (.len (.ix (.var 21) (.cst (.int 3)))) (.op .add (.lenV 2) (.cst (.int 1)))),(.op .ne (.ix (.ix (.var 21) (.cst (.int 3))) (.cst (.int (-1)))) (.var 9))]) [.ret (.cst (.bool false))] [],
 .ret (.call .is_laid [(.var 17),(.fz 2),(.var 12)])]
noncomputable def nt_take:List Str:=[so "pot",so "sides"]
noncomputable def ir_take:FnIR:={nv:=2,np:=2,body:=[.potInc 0,
 .ife (.op .gt (.potAt 0) (.len (.potCells 0))) [.ret (.op .mod (.op .add (.potAt 0) (.op .fdiv (.op .mul (.potAt 0) (.potAt 0)) (.cst (.int 5)))) (.var 1))] [],
 .ret (.op .mod (.ix (.potCells 0) (.op .sub (.potAt 0) (.cst (.int 1)))) (.var 1))]}
noncomputable def nt_nfresh:List Str:=[so "self",so "name",so "stem"]
noncomputable def ir_nfresh:FnIR:={nv:=3,np:=2,body:=[.incCount 0,
 .assign 2 (.ite (.op .eq (.slc (.var 1) none (some (.cst (.int 1)))) (.cst (.str (so "\"")))) (.cst (.str (so "op"))) (.var 1)),
 .ret (.op .add (.op .add (.op .add (.op .add (.var 2) (.cst (.str (so "__")))) (.str (.number 0))) (.cst (.str (so "_")))) (.str (.count 0)))]}
noncomputable def nt_lay:List Str:=[so "self",so "place",so "declaration"]
noncomputable def ir_lay:FnIR:={nv:=3,np:=3,body:=[.stepsApp 0 (.tup [(.var 1),(.var 2)])]}
noncomputable def nt_mark:List Str:=[so "self",so "line",so "mark",so "name"]
noncomputable def ir_mark:FnIR:={nv:=4,np:=3,body:=[.assign 3 (.fresh 0 (.cst (.str (so "mark")))),
 .lay 0 (.cst (.str (so "generic"))) (.tup [(.cst (.str (so "subtype"))),(.var 1),(.var 3),(.tup [(.cst (.str (so "sub"))),(.call .fresh_mark [(.var 2),(.table 0)]),(.cst .none)])]),
 .ret (.tup [(.cst (.str (so "name"))),(.var 3)])]}
noncomputable def tb:FT:=fun _ _ _=>.bad
set_option backward.match.sparseCases false in
noncomputable def t0:FT
 | .take=>aG tb ir_take
 | _=>fun _ _=>.bad
set_option backward.match.sparseCases false in
noncomputable def t1:FT
 | .take=>aG tb ir_take
 | .formal_names=>aG t0 ir_formal_names
 | .default_of=>aG t0 ir_default_of
 | .choice_name=>aG t0 ir_choice_name
 | .types_told=>aG t0 ir_types_told
 | .operator_node=>aG t0 ir_operator_node
 | .unit_name=>aG t0 ir_unit_name
 | .unit_sort=>aG t0 ir_unit_sort
 | .formal=>aG t0 ir_formal
 | .row=>aG t0 ir_row
 | .plain=>aG t0 ir_plain
 | .due=>aG t0 ir_due
 | .fresh_mark=>aG t0 ir_fresh_mark
 | .nfresh=>aG t0 ir_nfresh
 | .lay=>aG t0 ir_lay
 | _=>fun _ _=>.bad
set_option backward.match.sparseCases false in
noncomputable def t2:FT
 | .formal_keys=>aG t1 ir_formal_keys
 | .actuals=>aG t1 ir_actuals
 | .is_laid=>aG t1 ir_is_laid
 | .mark=>aG t1 ir_mark
 | f=>t1 f
set_option backward.match.sparseCases false in
noncomputable def t3:FT
 | .match_formals=>aG t2 ir_match_formals
 | .fresh_spec=>aG t2 ir_fresh_spec
 | f=>t2 f
set_option backward.match.sparseCases false in
noncomputable def t4:FT
 | .lay_formal_sub=>aG t3 ir_lay_formal_sub
 | f=>t3 f
set_option backward.match.sparseCases false in
noncomputable def t5:FT
 | .instantiate=>aG t4 ir_instantiate
 | f=>t4 f
noncomputable def lawArgs:List E:=[(.tup [(.cst (.str (so "generic"))),(.cst (.int 2)),(.fz 2),(.var 9)]),(.cst .none),(.var 16),(.cst (.int 5))]
noncomputable def law0 (cells:List Int):St:=⟨[none,some (.val (.hnd 0))]++List.replicate (nv_law - 2) none,⟨0,cells,false,none⟩⟩
inductive LawT (st:St):Res (D×G)→Prop
 | flt {n:Int} (h4:a8 st 12=some .none) (h5:a8 st 11=some (.int n)):LawT st (.flt n)
 | ok {a b:D} {g:G} {st4:St} (h4:exs t5 eV ((({st with g:=g}:St).set 17 (.val a)).set 18 (.val b))=.ok (.ret (.bool true),st4)):LawT st (.ok (.tup [a,b],g))
inductive RunLaw (cells:List Int):Prop
 | mk {st1 st2:St} {ds:List D} (h1:exs t5 fL (law0 cells)=.ok (.next,st1)) (h2:evs t5 lawArgs st1=.ok (ds,st2)) (h3:LawT st2 (t5 .instantiate ds st2.g)):RunLaw cells
end Mine
end
section
open PySem PySem.W PyProof.Rows PySem.Spec
open PySem.Str renaming ofString → so
namespace Mine
structure BInfo where
 bd:Addr
 nm:Addr
 nmd:Addr
 stl:Addr
 inl:Addr
 tb:Addr
inductive Tag where
 | no
 | frz (o:Obj)
 | pin (o:Obj)
 | it (o:Obj)
 | loc
 | cel (x:Str)
 | own (i:Nat)
 | pot
 | bld (i:BInfo)
 | nmd
 | stl
 | inl
theorem Tag.frzI {a b:Obj}(h:Tag.frz a=.frz b):a=b:=by cases h;rfl
theorem Tag.pinI {a b:Obj}(h:Tag.pin a=.pin b):a=b:=by cases h;rfl
abbrev TM:=Addr→Tag
structure TM.le (τ τ':TM):Prop where
 frz: ∀a o,τ a=.frz o→τ' a=.frz o
 pin: ∀a o,τ a=.pin o→τ' a=.pin o
 it: ∀a o,τ a=.it o→τ' a=.it o
 pot: ∀a,τ a=.pot→τ' a=.pot
 bld: ∀a i,τ a=.bld i→τ' a=.bld i
structure TM.sub (τ τ':TM):Prop where
 frz: ∀a o,τ a=.frz o→τ' a=.frz o
 pot: ∀a,τ a=.pot→τ' a=.pot
 bld: ∀a i,τ a=.bld i→τ' a=.bld i
theorem TM.le.sub {τ τ':TM}(h:TM.le τ τ'):TM.sub τ τ':=⟨h.frz,h.pot,h.bld⟩
theorem TM.le.refl (τ:TM):TM.le τ τ:=⟨fun _ _ h=>h,fun _ _ h=>h,fun _ _ h=>h,fun _ h=>h,fun _ _ h=>h⟩
theorem TM.le.trans {a b c:TM}(x:TM.le a b)(y:TM.le b c):TM.le a c:=
 ⟨fun _ _ h=>y.frz _ _ (x.frz _ _ h),fun _ _ h=>y.pin _ _ (x.pin _ _ h),fun _ _ h=>y.it _ _ (x.it _ _ h),fun _ h=>y.pot _ (x.pot _ h),fun _ _ h=>y.bld _ _ (x.bld _ _ h)⟩
noncomputable def aL (τ:TM)(a:Addr)(t:Tag):TM:=fun b=>if b=a then t else τ b
theorem ax (τ:TM)(a:Addr)(t:Tag):aL τ a t a=t:=if_pos rfl
theorem az (τ:TM){a b:Addr}(t:Tag)(h:b≠a):aL τ a t b=τ b:=if_neg h
theorem ce {τ:TM}{a:Addr}{t:Tag}(h:τ a=.no):TM.le τ (aL τ a t):=by
 have ne: ∀{b:Addr} {t':Tag},τ b=t'→t'≠ .no→aL τ a t b=t':=fun e n=>(az _ _ fun q=>n (by rw [←e,q,h])).trans e
 exact ⟨fun b o e=>ne e (by simp),fun b o e=>ne e (by simp),fun b o e=>ne e (by simp),fun b e=>ne e (by simp),fun b i e=>ne e (by simp)⟩
section
variable (prog:Program)(w:World)
noncomputable def DictObj (o:Obj)(kvs:List (Str×Value)):Prop:=
 o.ExactDict∧ ∃es ep,o.data=.dict es ep∧KeysOf (strKind prog w) es∧Pairs (strKind prog w) es.toList kvs∧(kvs.map (·.1)).Nodup
noncomputable def SeqObj (T:String)(o:Obj)(vs:List Value):Prop:= ∃n,o={cls:=.type T,data:=.seq vs.toArray n}
theorem SeqObj.cls {T:String}{o:Obj}{vs:List Value}(h:SeqObj T o vs):o.cls=.type T:=by obtain ⟨n,rfl⟩:=h;rfl
theorem SeqObj.data {T:String}{o:Obj}{vs:List Value}(h:SeqObj T o vs): ∃n,o.data=.seq vs.toArray n:=by obtain ⟨n,rfl⟩:=h;exact ⟨n,rfl⟩
mutual
inductive Rep (τ:TM):Value→D→Prop where
 | none:Rep τ .none .none
 | bool (b:Bool):Rep τ (.bool b) (.bool b)
 | int (i:Int) (t:Tok):Rep τ (.int i t) (.int i)
 | str (x:Str) (t:Tok):Rep τ (.str x t) (.str x)
 | tup {a:Addr} {o:Obj} {vs:List Value} {ds:List D}:τ a=.frz o→SeqObj "tuple" o vs→RepL τ vs ds→Rep τ (.ref a) (.tup ds)
 | lst {a:Addr} {o:Obj} {vs:List Value} {ds:List D}:τ a=.frz o→SeqObj "list" o vs→RepL τ vs ds→Rep τ (.ref a) (.lst ds)
 | dct {a:Addr} {o:Obj} {kvs:List (Str×Value)} {ds:List D} {kds:List (Str×D)}:τ a=.frz o→DictObj prog w o kvs→(a==sysModules)=false→
   kvs.map (·.1)=kds.map (·.1)→ds=kds.map (·.2)→RepL τ (kvs.map (·.2)) ds→Rep τ (.ref a) (.dct kds)
 | pot {a:Addr}:τ a=.pot→Rep τ (.ref a) (.hnd 0)
 | bld {a:Addr} {i:BInfo}:τ a=.bld i→Rep τ (.ref a) (.hnd 1)
 | nam {a b:Addr} {i:BInfo}:τ b=.bld i→a=i.nm→Rep τ (.ref a) (.hnd 2)
inductive RepL (τ:TM):List Value→List D→Prop where
 | nil:RepL τ [] []
 | cons {v:Value} {vs:List Value} {d:D} {ds:List D}:Rep τ v d→RepL τ vs ds→RepL τ (v::vs) (d::ds)
end
end
section
variable {prog:Program}{w:World}{τ τ':TM}
theorem RepL.of (H: ∀{v:Value} {d:D},Rep prog w τ v d→Rep prog w τ' v d){vs:List Value}{ds:List D}(r:RepL prog w τ vs ds):RepL prog w τ' vs ds:=
 RepL.rec (motive_1:=fun _ _ _=>True) (motive_2:=fun vs ds _=>RepL prog w τ' vs ds) trivial (fun _=>trivial) (fun _ _=>trivial) (fun _ _=>trivial) (fun _ _ _ _=>trivial) (fun _ _ _ _=>trivial) (fun _ _ _ _ _ _ _=>trivial) (fun _=>trivial) (fun _=>trivial) (fun _ _=>trivial) .nil (fun a _ _ c=>.cons (H a) c) r
theorem Rep.sub (h:TM.sub τ τ'){v:Value}{d:D}(r:Rep prog w τ v d):Rep prog w τ' v d:=
 Rep.rec (motive_1:=fun v d _=>Rep prog w τ' v d) (motive_2:=fun vs ds _=>RepL prog w τ' vs ds) .none .bool .int .str (fun a b _ c=>.tup (h.frz _ _ a) b c) (fun a b _ c=>.lst (h.frz _ _ a) b c) (fun a b e1 e2 e3 _ c=>.dct (h.frz _ _ a) b e1 e2 e3 c) (fun a=>.pot (h.pot _ a)) (fun a=>.bld (h.bld _ _ a)) (fun a e=>.nam (h.bld _ _ a) e) .nil (fun _ _ a b=>.cons a b) r
theorem RepL.sub (h:TM.sub τ τ'){vs:List Value}{ds:List D}(r:RepL prog w τ vs ds):RepL prog w τ' vs ds:=r.of fun q=>q.sub h
theorem Rep.none_inv {v:Value}(h:Rep prog w τ v .none):v=.none:=by cases h;rfl
theorem Rep.bool_inv {v:Value}{b:Bool}(h:Rep prog w τ v (.bool b)):v=.bool b:=by cases h;rfl
theorem Rep.int_inv {v:Value}{i:Int}(h:Rep prog w τ v (.int i)): ∃t,v=.int i t:=by cases h;exact ⟨_,rfl⟩
theorem Rep.str_inv {v:Value}{x:Str}(h:Rep prog w τ v (.str x)): ∃t,v=.str x t:=by cases h;exact ⟨_,rfl⟩
theorem Rep.isNone {v:Value}{d:D}(h:Rep prog w τ v d):(v==Value.none)=cg d:=by cases h <;> rfl
inductive SeqRep (prog:Program)(w:World)(τ:TM)(T:String)(v:Value)(ds:List D):Prop where
 | mk (a:Addr) (o:Obj) (vs:List Value) (e:v=.ref a) (h1:τ a=.frz o) (h2:SeqObj T o vs) (h3:RepL prog w τ vs ds)
theorem Rep.tup_inv {v:Value}{ds:List D}(h:Rep prog w τ v (.tup ds)):SeqRep prog w τ "tuple" v ds:=by cases h with | tup a b c=>exact ⟨_,_,_,rfl,a,b,c⟩
theorem Rep.lst_inv {v:Value}{ds:List D}(h:Rep prog w τ v (.lst ds)):SeqRep prog w τ "list" v ds:=by cases h with | lst a b c=>exact ⟨_,_,_,rfl,a,b,c⟩
theorem RepL.nil_inv {vs:List Value}(h:RepL prog w τ vs []):vs=[]:=by cases h;rfl
theorem RepL.cons_inv {vs:List Value}{d:D}{ds:List D}(h:RepL prog w τ vs (d::ds)): ∃v us,vs=v::us∧Rep prog w τ v d∧RepL prog w τ us ds:=by cases h with | cons a b=>exact ⟨_,_,rfl,a,b⟩
theorem nos {d:D}{P:Prop}(h:(none:Option D)=some d):P:=by cases h
theorem intD_inv {f:Int→Int→Option D}{a b d:D}(h:iF f a b=some d): ∃i j,a=.int i∧b=.int j∧f i j=some d:=by
 cases a <;> try exact nos h
 cases b <;> try exact nos h
 exact ⟨_,_,rfl,rfl,h⟩
theorem fM {va vb:Value}{f:Int→Int→Option D}{a b d:D}(ra:Rep prog w τ va a)(rb:Rep prog w τ vb b)(h:iF f a b=some d): ∃i j t u,va=.int i t∧vb=.int j u∧f i j=some d:=by
 obtain ⟨i,j,rfl,rfl,hf⟩:=intD_inv h
 obtain ⟨t,rfl⟩:=ra.int_inv
 obtain ⟨u,rfl⟩:=rb.int_inv
 exact ⟨i,j,t,u,rfl,rfl,hf⟩
inductive AddC (a b d:D):Prop where
 | int (i j:Int) (e1:a=.int i) (e2:b=.int j) (e:d=.int (i + j))
 | str (x y:Str) (e1:a=.str x) (e2:b=.str y) (h:x.length + y.length≤1000) (e:d=.str (x++y))
 | lst (x y:List D) (e1:a=.lst x) (e2:b=.lst y) (h:x.length + y.length≤1000) (e:d=.lst (x++y))
theorem dH {p:Prop} [Decidable p] {x d:D}(h:(if p then some x else none)=some d):p∧d=x:=by
 split at h
 ·exact ⟨‹p›,(Option.some.inj h).symm⟩
 ·cases h
theorem addD_inv {a b d:D}(h:addD a b=some d):AddC a b d:=by
 cases a <;> try exact nos h
 ·cases b <;> try exact nos h
  exact .int _ _ rfl rfl (Option.some.inj h).symm
 ·cases b <;> try exact nos h
  have q:=dH h
  exact .str _ _ rfl rfl q.1 q.2
 ·cases b <;> try exact nos h
  have q:=dH h
  exact .lst _ _ rfl rfl q.1 q.2
inductive MulC (a b d:D):Prop where
 | int (i j:Int) (e1:a=.int i) (e2:b=.int j) (h:(bl i&&bl j)=true) (e:d=.int (i * j))
 | lst (x:List D) (j:Int) (e1:a=.lst x) (e2:b=.int j) (h:(decide (x.length≤100)&&decide (0≤j)&&decide (j≤100))=true) (e:d=.lst (List.replicate j.toNat x).flatten)
theorem mulD_inv {a b d:D}(h:mulD a b=some d):MulC a b d:=by
 cases b <;> try exact nos h
 cases a <;> try exact nos h
 ·have q:=dH h
  exact .int _ _ rfl rfl q.1 q.2
 ·have q:=dH h
  exact .lst _ _ rfl rfl q.1 q.2
inductive IxC (c i d:D):Prop where
 | tup (ds:List D) (k:Int) (e1:c=.tup ds) (e2:i=.int k) (z:bl k=true) (h:dF ds k=some d)
 | lst (ds:List D) (k:Int) (e1:c=.lst ds) (e2:i=.int k) (z:bl k=true) (h:dF ds k=some d)
 | str (x:Str) (k:Int) (ch:Nat) (e1:c=.str x) (e2:i=.int k) (z:bl k=true) (h:dF x.cps.toList k=some ch) (e:d=.str (charStr ch))
 | dct (kvs:List (Str×D)) (x:Str) (e1:c=.dct kvs) (e2:i=.str x) (h:aX x kvs=some d)
theorem if_then {α:Type}{p:Prop} [Decidable p] {o:Option α}{d:α}(h:(if p then o else none)=some d):p∧o=some d:=by
 split at h
 ·exact ⟨‹p›,h⟩
 ·cases h
theorem ixD_inv {c i d:D}(h:ixD c i=some d):IxC c i d:=by
 cases i <;> try exact nos h
 ·have q:=if_then h
  have q2:=q.2
  cases c <;> try exact nos q2
  ·cases hs:dF _ _ with
   | none=>exact nos ((congrArg (Option.map _) hs).symm.trans q2)
   | some ch=>exact .str _ _ ch rfl rfl q.1 hs (Option.some.inj ((congrArg (Option.map _) hs).symm.trans q2)).symm
  ·exact .tup _ _ rfl rfl q.1 q2
  ·exact .lst _ _ rfl rfl q.1 q2
 ·cases c <;> try exact nos h
  exact .dct _ _ rfl rfl h
inductive InC (a c:D)(r:Bool):Prop where
 | lst (ds:List D) (e:c=.lst ds) (h:(a.cmpOk&&D.cmpOks ds&&decide (a.depth≤8)&&decide (D.depths ds≤8))=true) (e2:r=ds.any fun d=>d.beq a)
 | str (x y:Str) (e1:a=.str x) (e2:c=.str y) (e:r=fh y x)
 | dct (x:Str) (kvs:List (Str×D)) (e1:a=.str x) (e2:c=.dct kvs) (e:r=(aX x kvs).isSome)
inductive LenC (d:D)(n:Nat):Prop where
 | tup (ds:List D) (e:d=.tup ds) (h:ds.length=n)
 | lst (ds:List D) (e:d=.lst ds) (h:ds.length=n)
 | str (x:Str) (e:d=.str x) (h:x.length=n)
 | dct (kvs:List (Str×D)) (e:d=.dct kvs) (h:kvs.length=n)
theorem non {n:Nat}{P:Prop}(h:(none:Option Nat)=some n):P:=by cases h
theorem lenD_inv {d:D}{n:Nat}(h:da d=some n):LenC d n:=by
 cases d <;> try exact non h
 ·exact .str _ rfl (Option.some.inj h)
 ·exact .tup _ rfl (Option.some.inj h)
 ·exact .lst _ rfl (Option.some.inj h)
 ·exact .dct _ rfl (Option.some.inj h)
theorem nob {d:Bool}{P:Prop}(h:(none:Option Bool)=some d):P:=by cases h
theorem inD_inv {a c:D}{r:Bool}(h:inD a c=some r):InC a c r:=by
 cases c <;> try exact nob h
 ·cases a <;> try exact nob h
  exact .str _ _ rfl rfl (Option.some.inj h).symm
 ·have q:=if_then h
  exact .lst _ rfl q.1 (Option.some.inj q.2).symm
 ·cases a <;> try exact nob h
  exact .dct _ _ rfl rfl (Option.some.inj h).symm
theorem Rep.mono (h:TM.le τ τ'){v:Value}{d:D}(r:Rep prog w τ v d):Rep prog w τ' v d:=r.sub h.sub
theorem RepL.mono (h:TM.le τ τ'){vs:List Value}{ds:List D}(r:RepL prog w τ vs ds):RepL prog w τ' vs ds:=r.sub h.sub
theorem RepL.length {vs:List Value}{ds:List D}(h:RepL prog w τ vs ds):vs.length=ds.length:=by
 induction vs generalizing ds with
 | nil=>cases h;rfl
 | cons v vs ih=>cases h with | cons _ b=>rw [List.length_cons,List.length_cons,ih b]
theorem RepL.append {vs us:List Value}{ds es:List D}(h:RepL prog w τ vs ds)(k:RepL prog w τ us es):RepL prog w τ (vs++us) (ds++es):=by
 induction vs generalizing ds with
 | nil=>cases h;exact k
 | cons v vs ih=>cases h with | cons a b=>exact .cons a (ih b)
theorem RepL.get {vs:List Value}{ds:List D}(h:RepL prog w τ vs ds){n:Nat}{d:D}(hd:ds[n]? =some d): ∃v,vs[n]? =some v∧Rep prog w τ v d:=by
 induction vs generalizing ds n with
 | nil=>cases h;simp at hd
 | cons v vs ih=>
  cases h with
  | cons a b=>
   cases n with
   | zero=>simp at hd;subst hd;exact ⟨v,rfl,a⟩
   | succ n=>simp at hd;refine x12 (ih b hd) fun u hu r=>?_;exact ⟨u,by simpa using hu,r⟩
theorem RepL.drop {vs:List Value}{ds:List D}(h:RepL prog w τ vs ds)(n:Nat):RepL prog w τ (vs.drop n) (ds.drop n):=by
 induction n generalizing vs ds with
 | zero=>exact h
 | succ n ih=>cases h with
  | nil=>simpa using RepL.nil
  | cons a b=>simpa using ih b
theorem RepL.take {vs:List Value}{ds:List D}(h:RepL prog w τ vs ds)(n:Nat):RepL prog w τ (vs.take n) (ds.take n):=by
 induction n generalizing vs ds with
 | zero=>simpa using RepL.nil
 | succ n ih=>cases h with
  | nil=>simpa using RepL.nil
  | cons a b=>simpa using RepL.cons a (ih b)
theorem RepL.snoc {vs:List Value}{ds:List D}{v:Value}{d:D}(h:RepL prog w τ vs ds)(k:Rep prog w τ v d):RepL prog w τ (vs++[v]) (ds++[d]):=h.append (.cons k .nil)
end
noncomputable def Has (env:Env)(h:Heap)(x:Str)(v:Value):Prop:=
 (env.kindOf x=some .local∧ ∃m,h.Ns env.locals m∧m x=some v)∨
 ((env.kindOf x=some .cell∨env.kindOf x=some .free)∧ ∃c,env.cells.lookup x=some c∧h.IsCell c (some v))
noncomputable def Vis (env:Env)(x:Str):Prop:=env.kindOf x=some .local∨env.kindOf x=some .cell∨env.kindOf x=some .free
theorem Ns.fun {h:Heap}{a:Addr}{m m':Str→Option Value}(x:h.Ns a m)(y:h.Ns a m'):m=m':=by
 obtain ⟨o,es,ep,ho,hd,_,hm⟩:=x
 obtain ⟨o',es',ep',ho',hd',_,hm'⟩:=y
 rw [ho] at ho';cases ho';rw [hd] at hd';cases hd'
 funext n;rw [←hm,←hm']
section
variable {M:Model}{A:Around}{E:Value→Shared→Prop}{s:Shared}{env:Env}
theorem aM {x:Str}{pos:Pos}{v:Value}{Q:Value→Shared→Prop}(hk:env.scope.kind=.function)(h:Has env s.heap x v)(hQ:Q v s)
  (hd:(x==("__debug__":Str))=false) (hn:(x==("__classdict__":Str))=false):wpAny M A (eval (.Name x pos) env) Q E s:=by
 refine wpAny_Name ?_ hd
 rcases h with ⟨hl,m,hm,hv⟩ | ⟨hl | hl,c,hc,hv⟩
 ·exact wpAny_loadName_local hk hl hm hv hQ
 ·exact wpAny_loadName_cell hk hl hc hv hQ
 ·exact wpAny_loadName_free hk hl hc hv hQ hn
theorem has_loadName {x:Str}{v:Value}{Q:Value→Shared→Prop}(hk:env.scope.kind=.function)(h:Has env s.heap x v)(hQ:Q v s)
  (hn:(x==("__classdict__":Str))=false):wpAny M A (loadName env x) Q E s:=by
 rcases h with ⟨hl,m,hm,hv⟩ | ⟨hl | hl,c,hc,hv⟩
 ·exact wpAny_loadName_local hk hl hm hv hQ
 ·exact wpAny_loadName_cell hk hl hc hv hQ
 ·exact wpAny_loadName_free hk hl hc hv hQ hn
end
theorem Has.keeps {env:Env}{h h':Heap}{x:Str}{v:Value}(z:Has env h x v)(k: ∀b o,h.get? b=some o→h'.get? b=some o):Has env h' x v:=by
 rcases z with ⟨hl,m,hm,hv⟩ | ⟨hl,c,hc,hv⟩
 ·exact .inl ⟨hl,m,hm.keeps k,hv⟩
 ·exact .inr ⟨hl,c,hc,hv.keeps k⟩
section
variable (prog:Program)(w:World)(s0:Shared)
structure Rest (s:Shared):Prop where
 gens:s.gens=s0.gens
 drawn:s.drawn=s0.drawn
 os:s.os=s0.os
noncomputable def Cont (τ:TM)(o:Obj):D→Prop
 | .lst ds=> ∃vs,SeqObj "list" o vs∧RepL prog w τ vs ds
 | .dct kds=> ∃kvs,DictObj prog w o kvs∧kvs.map (·.1)=kds.map (·.1)∧RepL prog w τ (kvs.map (·.2)) (kds.map (·.2))
 | _=>False
noncomputable def SlotIs (τ:TM)(h:Heap)(i:Nat)(v:Value):Slot→Prop
 | .val d=>Rep prog w τ v d
 | .own d=> ∃a o,v=.ref a∧τ a=.own i∧h.get? a=some o∧Cont prog w τ o d
 | .lent d=> ∃a o,v=.ref a∧τ a=.pin o∧h.get? a=some o∧Cont prog w τ o d
structure BldLive (τ:TM)(h:Heap)(i:BInfo)(b:Bld):Prop where
 nmdT:τ i.nmd=.nmd
 nmd: ∃t1 t2 t3 t4 n,h.get? i.nmd=some (dictOf [⟨PyData.keyHash w.params "number",.str "number" t1,.int b.number t3⟩,⟨PyData.keyHash w.params "count",.str "count" t2,.int b.count t4⟩] n)
 stlT:τ i.stl=.stl
 stl: ∃o vs,h.get? i.stl=some o∧SeqObj "list" o vs∧RepL prog w τ vs b.steps
 inlT:τ i.inl=.inl
 inl: ∃o vs,h.get? i.inl=some o∧SeqObj "list" o vs∧RepL prog w τ vs b.inner
structure BldObj (τ:TM)(h:Heap)(a:Addr)(i:BInfo):Prop where
 at_:h.get? a=some (instObj 157 i.bd)
 bd: ∃t1 t2 t3 t4 n,τ i.bd=.frz (dictOf [⟨PyData.keyHash w.params "naming",.str "naming" t1,.ref i.nm⟩,⟨PyData.keyHash w.params "steps",.str "steps" t2,.ref i.stl⟩,
  ⟨PyData.keyHash w.params "inner",.str "inner" t3,.ref i.inl⟩,⟨PyData.keyHash w.params "table",.str "table" t4,.ref i.tb⟩] n)
 nm:τ i.nm=.frz (instObj 77 i.nmd)
 tb: ∃n,τ i.tb=.frz (dictOf [] n)
 tbs:(i.tb==sysModules)=false
structure GRel (τ:TM)(h:Heap)(g:G):Prop where
 pot: ∃a o c t,τ a=.pot∧h.get? a=some o∧DictObj prog w o [("cells",.ref c),("at",.int g.pat t)]∧Rep prog w τ (.ref c) (.lst (g.cells.map .int))
 potU: ∀a a',τ a=.pot→τ a'=.pot→a=a'
 used:g.used=false→ ∀a i,τ a≠ .bld i
 bldU: ∀a i a' i',τ a=.bld i→τ a'=.bld i'→a=a'∧i=i'
 bldO: ∀a i,τ a=.bld i→BldObj w τ h a i
 bld: ∀b,g.bld=some b→ ∃a i,τ a=.bld i∧BldLive prog w τ h i b
structure Rel (env:Env)(l:List Env)(nt:List Str)(wr:Str→Bool)(τ:TM)(av:Nat→Option Value)(st:St)(s:Shared):Prop where
 rest:Rest s0 s
 base: ∀a o,s0.heap.get? a=some o→τ a=.frz o
 ex: ∀a,τ a≠ .no→ ∃o,s.heap.get? a=some o
 obj: ∀a o,τ a=.frz o∨τ a=.pin o→s.heap.get? a=some o
 itO: ∀a o,τ a=.it o→s.heap.get? a=some o
 kind:env.scope.kind=.function
 glb:env.globals=mainGlobals∧env.builtins=builtinsNs
 ns: ∃m,s.heap.Ns env.locals m
 loc:τ env.locals=.loc
 wrk: ∀x,wr x=true→env.kindOf x=some .local∨(env.kindOf x=some .cell∧ ∃c v,env.cells.lookup x=some c∧s.heap.IsCell c v∧τ c=.cel x)
 celT: ∀x c,env.kindOf x=some .cell∨env.kindOf x=some .free→env.cells.lookup x=some c→τ c=.cel x∨ ∃o,τ c=.pin o
 vars: ∀i x sl,nt[i]? =some x→st.get i=some sl→Vis env x→ ∃v,av i=some v∧Has env s.heap x v∧SlotIs prog w τ s.heap i v sl
 g:GRel prog w τ s.heap st.g
 frs: ∀e∈l,e.scope.kind≠ .module∧ ∃L,e.frame=some L∧(L=env.locals∨ ∃o,τ L=.pin o∧ ∀vs,o.data≠ .fields vs)
 len:st.ρ.length=nt.length
 ntd:nt.Nodup
end
section
variable {prog:Program}{w:World}{s0:Shared}{τ τ':TM}
theorem Cont.mono (hle:TM.le τ τ'){o:Obj}{d:D}(h:Cont prog w τ o d):Cont prog w τ' o d:=by
 cases d <;> simp only [Cont] at h ⊢
 ·refine x12 h fun vs a b=>?_;exact ⟨vs,a,b.mono hle⟩
 ·refine x13 h fun vs a e b=>?_;exact ⟨vs,a,e,b.mono hle⟩
theorem Rep.ofCont {a:Addr}{o:Obj}{d:D}(ha:τ a=.frz o)(h:Cont prog w τ o d)(hs:(a==sysModules)=false):Rep prog w τ (.ref a) d:=by
 cases d <;> simp only [Cont] at h
 ·refine x12 h fun vs x y=>?_;exact .lst ha x y
 ·refine x13 h fun vs x e y=>?_;exact .dct ha x hs e rfl y
theorem SlotIs.tag (hle:TM.le τ τ'){h:Heap}{i:Nat}{v:Value}{sl:Slot}(k: ∀a,τ a=.own i→τ' a=.own i)(z:SlotIs prog w τ h i v sl):SlotIs prog w τ' h i v sl:=by
 cases sl with
 | val d=>exact Rep.mono hle z
 | own d=>
  obtain ⟨a,o,e,t,ho,c⟩:=z
  exact ⟨a,o,e,k a t,ho,c.mono hle⟩
 | lent d=>
  obtain ⟨a,o,e,t,ho,c⟩:=z
  exact ⟨a,o,e,hle.pin _ _ t,ho,c.mono hle⟩
theorem SlotIs.heap {h h':Heap}{i:Nat}{v:Value}{sl:Slot}(k: ∀a o,(τ a=.own i∨τ a=.pin o)→h.get? a=some o→h'.get? a=some o)(z:SlotIs prog w τ h i v sl):SlotIs prog w τ h' i v sl:=by
 cases sl with
 | val d=>exact z
 | own d=>
  obtain ⟨a,o,e,t,ho,c⟩:=z
  exact ⟨a,o,e,t,k a o (.inl t) ho,c⟩
 | lent d=>
  obtain ⟨a,o,e,t,ho,c⟩:=z
  exact ⟨a,o,e,t,k a o (.inr t) ho,c⟩
noncomputable def ct:Tag→Bool
 | .pot | .bld _ | .nmd | .stl | .inl=>true
 | _=>false
theorem BldLive.heap {h h':Heap}{i:BInfo}{b:Bld}(k: ∀a o,ct (τ a)=true→h.get? a=some o→h'.get? a=some o)(z:BldLive prog w τ h i b):BldLive prog w τ h' i b:=by
 obtain ⟨a,⟨t1,t2,t3,t4,n,b⟩,c,⟨o,vs,d1,d2,d3⟩,e,⟨o',vs',f1,f2,f3⟩⟩:=z
 exact ⟨a,⟨t1,t2,t3,t4,n,k _ _ (by rw [a];rfl) b⟩,c,⟨o,vs,k _ _ (by rw [c];rfl) d1,d2,d3⟩,e,⟨o',vs',k _ _ (by rw [e];rfl) f1,f2,f3⟩⟩
theorem GRel.heap {h h':Heap}{g:G}(k: ∀a o,ct (τ a)=true→h.get? a=some o→h'.get? a=some o)(z:GRel prog w τ h g):GRel prog w τ h' g:=by
 refine ⟨?_,z.potU,z.used,z.bldU,fun a i e=>?_,fun b e=>?_⟩
 ·refine x43 z.pot fun a o c t e ho r=>?_
  exact ⟨a,o,c,t,e,k _ _ (by rw [e];rfl) ho,r⟩
 ·obtain ⟨x,y,u,v,q⟩:=z.bldO a i e
  exact ⟨k _ _ (by rw [e];rfl) x,y,u,v,q⟩
 ·refine x22 (z.bld b e) fun a i x y=>?_
  exact ⟨a,i,x,y.heap k⟩
theorem BldLive.tag (hle:TM.sub τ τ'){h:Heap}{i:BInfo}{b:Bld}(k: ∀a,ct (τ a)=true→τ' a=τ a)(z:BldLive prog w τ h i b):BldLive prog w τ' h i b:=by
 obtain ⟨a,b,c,⟨o,vs,d1,d2,d3⟩,e,⟨o',vs',f1,f2,f3⟩⟩:=z
 exact ⟨(k _ (by rw [a];rfl)).trans a,b,(k _ (by rw [c];rfl)).trans c,⟨o,vs,d1,d2,d3.sub hle⟩,(k _ (by rw [e];rfl)).trans e,⟨o',vs',f1,f2,f3.sub hle⟩⟩
theorem BldObj.tag (hle:TM.sub τ τ'){h:Heap}{a:Addr}{i:BInfo}(z:BldObj w τ h a i):BldObj w τ' h a i:=by
 obtain ⟨x,⟨t1,t2,t3,t4,n,y⟩,u,⟨n',v⟩,q⟩:=z
 exact ⟨x,⟨t1,t2,t3,t4,n,hle.frz _ _ y⟩,hle.frz _ _ u,⟨n',hle.frz _ _ v⟩,q⟩
theorem GRel.tag (hle:TM.sub τ τ'){h:Heap}{g:G}(k: ∀a,ct (τ a)=true→τ' a=τ a)(k': ∀a,ct (τ' a)=true→τ' a=τ a)(z:GRel prog w τ h g):GRel prog w τ' h g:=by
 have back: ∀a t,τ' a=t→ct t=true→τ a=t:=fun a t e ht=>(k' a (by rw [e];exact ht)).symm.trans e
 refine ⟨?_,fun a a' e e'=>z.potU a a' (back _ _ e rfl) (back _ _ e' rfl),fun hu a i e=>z.used hu a i (back _ _ e rfl),fun a i a' i' e e'=>z.bldU a i a' i' (back _ _ e rfl) (back _ _ e' rfl),
  fun a i e=>(z.bldO a i (back _ _ e rfl)).tag hle,fun b e=>?_⟩
 ·refine x44 z.pot fun a o c t e ho r1 r2=>?_
  exact ⟨a,o,c,t,hle.pot _ e,ho,r1,r2.sub hle⟩
 ·refine x22 (z.bld b e) fun a i x y=>?_
  exact ⟨a,i,hle.bld _ _ x,y.tag hle k⟩
end
section
variable {prog:Program}{w:World}{s0:Shared}{τ τ':TM}{env:Env}{l:List Env}{nt:List Str}{wr:Str→Bool}{av:Nat→Option Value}{st:St}{s:Shared}
theorem Rel.grow (R:Rel prog w s0 env l nt wr τ av st s){h':Heap}{tk:Nat}(k: ∀b o,s.heap.get? b=some o→h'.get? b=some o):Rel prog w s0 env l nt wr τ av st {s with heap:=h',toks:=tk} where
 rest:=⟨R.rest.1,R.rest.2,R.rest.3⟩
 base:=R.base
 ex a h:=let ⟨o,e⟩:=R.ex a h;⟨o,k _ _ e⟩
 obj a o h:=k _ _ (R.obj a o h)
 itO a o h:=k _ _ (R.itO a o h)
 kind:=R.kind
 glb:=R.glb
 ns:=let ⟨m,e⟩:=R.ns;⟨m,e.keeps k⟩
 loc:=R.loc
 wrk x hx:=(R.wrk x hx).imp id fun ⟨a,c,v,e,f,g⟩=>⟨a,c,v,e,f.keeps k,g⟩
 celT:=R.celT
 vars i x sl a b c:=let ⟨v,e,f,g⟩:=R.vars i x sl a b c;⟨v,e,f.keeps k,g.heap fun _ _ _ e=>k _ _ e⟩
 g:=R.g.heap fun _ _ _ e=>k _ _ e
 frs:=R.frs
 len:=R.len
 ntd:=R.ntd
theorem Rel.toks (R:Rel prog w s0 env l nt wr τ av st s)(tk:Nat):Rel prog w s0 env l nt wr τ av st {s with toks:=tk}:=R.grow (h':=s.heap) fun _ _ e=>e
theorem Rel.tag (R:Rel prog w s0 env l nt wr τ av st s){a:Addr}{t:Tag}{o:Obj}(ha:τ a=.no)(ho:s.heap.get? a=some o)(ht:t=.frz o∨(∃i,t=.own i)∨t=.it o):Rel prog w s0 env l nt wr (aL τ a t) av st s:=by
 have hg:ct t=false:=by rcases ht with rfl | ⟨i,rfl⟩ | rfl <;> rfl
 have le:=ce (t:=t) ha
 have ne: ∀{b:Addr} {t':Tag},τ b=t'→t'≠ .no→b≠a:=fun e n q=>n (by rw [←e,q,ha])
 have keep: ∀{b:Addr} {t':Tag},τ b=t'→t'≠ .no→aL τ a t b=t':=fun e n=>(az _ _ (ne e n)).trans e
 refine {rest:=R.rest,base:=fun b o e=>le.frz _ _ (R.base b o e),ex:=fun b h=>?_,obj:=fun b o' h=>?_,itO:=fun b o' h=>?_,kind:=R.kind,glb:=R.glb,ns:=R.ns,loc:=keep R.loc (by simp),wrk:=fun x hx=>?_,celT:=fun x c h h'=>?_,vars:=fun i x sl h1 h2 h3=>?_,g:=?_,frs:=fun e he=>?_,len:=R.len,ntd:=R.ntd}
 ·by_cases q:b=a
  ·obtain rfl:=q.symm;exact ⟨o,ho⟩
  ·rw [az _ _ q] at h;exact R.ex b h
 ·by_cases q:b=a
  ·obtain rfl:=q.symm
   rw [ax] at h
   rcases ht with rfl | ⟨i,rfl⟩ | rfl
   ·rcases h with h | h
    ·cases h;exact ho
    ·cases h
   ·rcases h with h | h <;> cases h
   ·rcases h with h | h <;> cases h
  ·rw [az _ _ q] at h;exact R.obj b o' h
 ·by_cases q:b=a
  ·obtain rfl:=q.symm
   rw [ax] at h
   rcases ht with rfl | ⟨i,rfl⟩ | rfl
   ·cases h
   ·cases h
   ·cases h;exact ho
  ·rw [az _ _ q] at h;exact R.itO b o' h
 ·exact (R.wrk x hx).imp id fun ⟨y,c,v,e,f,g⟩=>⟨y,c,v,e,f,keep g (by simp)⟩
 ·exact (R.celT x c h h').imp (fun e=>keep e (by simp)) fun ⟨o,e⟩=>⟨o,keep e (by simp)⟩
 ·refine x13 (R.vars i x sl h1 h2 h3) fun v e1 e2 e3=>?_
  exact ⟨v,e1,e2,e3.tag le fun a' e=>keep e (by simp)⟩
 ·refine R.g.tag le.sub (fun b h=>az _ _ fun q=>?_) fun b h=>az _ _ fun q=>?_
  ·rw [q,ha] at h;cases h
  ·rw [q,ax,hg] at h;cases h
 ·obtain ⟨a1,L,a2,a3⟩:=R.frs e he
  exact ⟨a1,L,a2,a3.imp id fun ⟨o,q1,q2⟩=>⟨o,keep q1 (by simp),q2⟩⟩
theorem Rel.fresh (R:Rel prog w s0 env l nt wr τ av st s):τ s.heap.objs.size=.no:=by
 cases h:τ s.heap.objs.size with
 | no=>rfl
 | _=>
  obtain ⟨o,e⟩:=R.ex s.heap.objs.size (by rw [h];simp)
  exact absurd (Heap.lt_size e) (Nat.lt_irrefl _)
theorem Rel.alloc (R:Rel prog w s0 env l nt wr τ av st s){o:Obj}(hf:o.isFreed=false){t:Tag}(ht:t=.frz o∨(∃i,t=.own i)∨t=.it o):
  Rel prog w s0 env l nt wr (aL τ s.heap.objs.size t) av st {s with heap:=s.heap.push o}∧TM.le τ (aL τ s.heap.objs.size t):=
 ⟨(R.grow (h':=s.heap.push o) (tk:=s.toks) fun _ _ e=>Heap.get?_push_of_some _ e).tag R.fresh (Heap.get?_push_size _ hf) ht,
  ce R.fresh⟩
theorem Rel.notSys (R:Rel prog w s0 env l nt wr τ av st s)(h1: ∃o,s0.heap.get? sysModules=some o){a:Addr}(ha: ∀o,τ a≠ .frz o):(a==sysModules)=false:=by
 refine beq_eq_false_iff_ne.mpr fun e=>?_
 refine x11 h1 fun o ho=>?_
 exact ha o (e▸R.base _ _ ho)
noncomputable def St.clear (st:St)(i:Nat):St:={st with ρ:=st.ρ.set i none}
theorem St.get_clear (st:St)(i j:Nat):(st.clear i).get j=if i=j then none else st.get j:=by
 unfold St.clear St.get
 simp only [List.getElem?_set]
 by_cases h:i=j
 ·subst h
  by_cases q:i < st.ρ.length
  ·simp [q]
  ·simp [q]
 ·simp [h]
theorem St.get_set (st:St)(i j:Nat)(sl:Slot)(hi:i < st.ρ.length):(st.set i sl).get j=if i=j then some sl else st.get j:=by
 unfold St.set St.get
 simp only [List.getElem?_set]
 by_cases h:i=j
 ·obtain rfl:=h.symm;simp [hi]
 ·simp [h]
theorem St.set_clear (st:St)(i:Nat)(sl:Slot):(st.clear i).set i sl=st.set i sl:=by
 unfold St.clear St.set;simp
theorem Rel.drop (R:Rel prog w s0 env l nt wr τ av st s)(i:Nat):Rel prog w s0 env l nt wr τ av (st.clear i) s:=
 {R with
  g:=R.g
  len:=by simpa [St.clear] using R.len
  vars:=fun j x sl a b c=>by
   rw [St.get_clear] at b
   by_cases h:i=j
   ·simp [h] at b
   ·rw [if_neg h] at b;exact R.vars j x sl a b c}
theorem Rel.put (R:Rel prog w s0 env l nt wr τ av st s){i:Nat}{x:Str}{v:Value}{sl:Slot}(hx:nt[i]? =some x)(hv:av i=some v)(hh:Has env s.heap x v)(hs:SlotIs prog w τ s.heap i v sl):
  Rel prog w s0 env l nt wr τ av (st.set i sl) s:=by
 have hi:i < st.ρ.length:=by rw [R.len];exact (List.getElem?_eq_some_iff.mp hx).1
 exact {R with
  g:=R.g
  len:=by simpa [St.set] using R.len
  vars:=fun j y sl' a b c=>by
   rw [St.get_set _ _ _ _ hi] at b
   by_cases h:i=j
   ·rw [if_pos h] at b;cases b;obtain rfl:=h.symm
    rw [hx] at a;cases a
    exact ⟨v,hv,hh,hs⟩
   ·rw [if_neg h] at b;exact R.vars j y sl' a b c}
theorem Rel.reav (R:Rel prog w s0 env l nt wr τ av st s){i:Nat}(hn:st.get i=none)(o:Option Value):Rel prog w s0 env l nt wr τ (fun j=>if j=i then o else av j) st s:=
 {R with
  vars:=fun j x sl a b c=>by
   by_cases h:j=i
   ·obtain rfl:=h.symm;rw [hn] at b;cases b
   ·refine x12 (R.vars j x sl a b c) fun v e r=>?_
    exact ⟨v,by rw [if_neg h];exact e,r⟩}
theorem Rel.turnOwn (R:Rel prog w s0 env l nt wr τ av st s){i:Nat}{a:Addr}{h':Heap}{o':Obj}(ha:τ a=.own i)(hs:Heap.SameBut a s.heap h')(ho:h'.get? a=some o')(hn:st.get i=none){tk:Nat}:
  Rel prog w s0 env l nt wr τ av st {s with heap:=h',toks:=tk}:=by
 have ne: ∀{b:Addr} {t:Tag},τ b=t→t≠ .own i→b≠a:=fun e n q=>n (by rw [←e,q,ha])
 have keep: ∀{b:Addr} {t:Tag} {o:Obj},τ b=t→t≠ .own i→s.heap.get? b=some o→h'.get? b=some o:=fun e n q=>(hs.2 _ (ne e n)).trans q
 refine {rest:=⟨R.rest.1,R.rest.2,R.rest.3⟩,base:=R.base,ex:=fun b h=>?_,obj:=fun b o h=>?_,itO:=fun b o h=>?_,kind:=R.kind,glb:=R.glb,ns:=?_,loc:=R.loc,wrk:=fun x hx=>?_,celT:=R.celT,vars:=fun j x sl h1 h2 h3=>?_,g:=?_,frs:=R.frs,len:=R.len,ntd:=R.ntd}
 ·by_cases q:b=a
  ·obtain rfl:=q.symm;exact ⟨o',ho⟩
  ·refine x11 (R.ex b h) fun o e=>?_;exact ⟨o,(hs.2 _ q).trans e⟩
 ·have e:=R.obj b o h
  rcases h with h | h
  ·exact keep h (by simp) e
  ·exact keep h (by simp) e
 ·exact keep h (by simp) (R.itO b o h)
 ·refine x11 R.ns fun m hm=>?_;exact ⟨m,hm.sameBut hs (ne R.loc (by simp))⟩
 ·refine (R.wrk x hx).imp id fun ⟨y,c,v,e,f,g⟩=>⟨y,c,v,e,f.sameBut hs (ne g (by simp)),g⟩
 ·refine x13 (R.vars j x sl h1 h2 h3) fun v e1 e2 e3=>?_
  refine ⟨v,e1,?_,e3.heap fun b o t q=>?_⟩
  ·rcases e2 with ⟨hl,m,hm,hv⟩ | ⟨hl,c,hc,hv⟩
   ·exact .inl ⟨hl,m,hm.sameBut hs (ne R.loc (by simp)),hv⟩
   ·refine .inr ⟨hl,c,hc,hv.sameBut hs ?_⟩
    rcases R.celT x c hl hc with q | ⟨o,q⟩
    ·exact ne q (by simp)
    ·exact ne q (by simp)
  ·rcases t with t | t
   ·refine keep t (fun z9=>?_) q
    injection z9 with z1
    rw [z1,hn] at h2;cases h2
   ·exact keep t (by simp) q
 ·refine R.g.heap fun b o h q=>keep rfl (fun z=>?_) q
  rw [z] at h;cases h
end
section
variable {prog:Program}{w:World}{s0:Shared}{τ τ':TM}{env:Env}{l:List Env}{nt:List Str}{wr:Str→Bool}{av:Nat→Option Value}{st:St}{s:Shared}
theorem nt_ne {nt:List Str}(h:nt.Nodup){i j:Nat}{x y:Str}(hi:nt[i]? =some x)(hj:nt[j]? =some y)(hij:i≠j):y≠x:=by
 rintro rfl
 refine x11 (List.getElem?_eq_some_iff.mp hi) fun a b=>?_
 refine x11 (List.getElem?_eq_some_iff.mp hj) fun c d=>?_
 have q:=List.pairwise_iff_getElem.mp h
 rcases Nat.lt_or_gt_of_ne hij with z | z
 ·exact q i j a c z (b.trans d.symm)
 ·exact q j i c a z (d.trans b.symm)
theorem Rel.turnLoc (R:Rel prog w s0 env l nt wr τ av st s){i:Nat}{x:Str}{h':Heap}{m':Str→Option Value}(hx:nt[i]? =some x)(hn:st.get i=none)(hs:Heap.SameBut env.locals s.heap h')
  (hm':h'.Ns env.locals m') (hm: ∀m,s.heap.Ns env.locals m→ ∀y,y≠x→m' y=m y) {tk:Nat}:Rel prog w s0 env l nt wr τ av st {s with heap:=h',toks:=tk}:=by
 have ne: ∀{b:Addr} {t:Tag},τ b=t→t≠ .loc→b≠env.locals:=fun e n q=>n (by rw [←e,q,R.loc])
 have keep: ∀{b:Addr} {t:Tag} {o:Obj},τ b=t→t≠ .loc→s.heap.get? b=some o→h'.get? b=some o:=fun e n q=>(hs.2 _ (ne e n)).trans q
 refine {rest:=⟨R.rest.1,R.rest.2,R.rest.3⟩,base:=R.base,ex:=fun b h=>?_,obj:=fun b o h=>?_,itO:=fun b o h=>?_,kind:=R.kind,glb:=R.glb,ns:=⟨_,hm'⟩,loc:=R.loc,wrk:=fun x hx=>?_,celT:=R.celT,vars:=fun j y sl h1 h2 h3=>?_,g:=?_,frs:=R.frs,len:=R.len,ntd:=R.ntd}
 ·by_cases q:b=env.locals
  ·subst q;obtain ⟨o,_,_,ho,_⟩:=hm';exact ⟨o,ho⟩
  ·refine x11 (R.ex b h) fun o e=>?_;exact ⟨o,(hs.2 _ q).trans e⟩
 ·have e:=R.obj b o h
  rcases h with h | h
  ·exact keep h (by simp) e
  ·exact keep h (by simp) e
 ·exact keep h (by simp) (R.itO b o h)
 ·refine (R.wrk x hx).imp id fun ⟨y,c,v,e,f,g⟩=>⟨y,c,v,e,f.sameBut hs (ne g (by simp)),g⟩
 ·refine x13 (R.vars j y sl h1 h2 h3) fun v e1 e2 e3=>?_
  have hij:i≠j:=fun q=>by rw [←q,hn] at h2;cases h2
  refine ⟨v,e1,?_,e3.heap fun b o t q=>?_⟩
  ·rcases e2 with ⟨hl,m,hmm,hv⟩ | ⟨hl,c,hc,hv⟩
   ·exact .inl ⟨hl,m',hm',(hm m hmm y (nt_ne R.ntd hx h1 hij)).trans hv⟩
   ·refine .inr ⟨hl,c,hc,hv.sameBut hs ?_⟩
    rcases R.celT y c hl hc with q | ⟨o,q⟩
    ·exact ne q (by simp)
    ·exact ne q (by simp)
  ·rcases t with t | t
   ·exact keep t (by simp) q
   ·exact keep t (by simp) q
 ·refine R.g.heap fun b o h q=>keep rfl (fun z=>?_) q
  rw [z] at h;cases h
theorem Rel.turnCel (R:Rel prog w s0 env l nt wr τ av st s){i:Nat}{x:Str}{c:Addr}{h':Heap}{v':Option Value}(hx:nt[i]? =some x)(hn:st.get i=none)(hs:Heap.SameBut c s.heap h')
  (hc:h'.IsCell c v') (ht:τ c=.cel x) {tk:Nat}:Rel prog w s0 env l nt wr τ av st {s with heap:=h',toks:=tk}:=by
 have ne: ∀{b:Addr} {t:Tag},τ b=t→t≠ .cel x→b≠c:=fun e n q=>n (by rw [←e,q,ht])
 have keep: ∀{b:Addr} {t:Tag} {o:Obj},τ b=t→t≠ .cel x→s.heap.get? b=some o→h'.get? b=some o:=fun e n q=>(hs.2 _ (ne e n)).trans q
 refine {rest:=⟨R.rest.1,R.rest.2,R.rest.3⟩,base:=R.base,ex:=fun b h=>?_,obj:=fun b o h=>?_,itO:=fun b o h=>?_,kind:=R.kind,glb:=R.glb,ns:=?_,loc:=R.loc,wrk:=fun z hz=>?_,celT:=R.celT,vars:=fun j y sl h1 h2 h3=>?_,g:=?_,frs:=R.frs,len:=R.len,ntd:=R.ntd}
 ·by_cases q:b=c
  ·subst q;obtain ⟨o,ho,_⟩:=hc;exact ⟨o,ho⟩
  ·refine x11 (R.ex b h) fun o e=>?_;exact ⟨o,(hs.2 _ q).trans e⟩
 ·have e:=R.obj b o h
  rcases h with h | h
  ·exact keep h (by simp) e
  ·exact keep h (by simp) e
 ·exact keep h (by simp) (R.itO b o h)
 ·refine x11 R.ns fun m hm=>?_;exact ⟨m,hm.sameBut hs (ne R.loc (by simp))⟩
 ·refine (R.wrk z hz).imp id fun ⟨y,c',v,e,f,g⟩=>?_
  by_cases q:c'=c
  ·subst q;exact ⟨y,c',v',e,hc,g⟩
  ·exact ⟨y,c',v,e,f.sameBut hs q,g⟩
 ·refine x13 (R.vars j y sl h1 h2 h3) fun v e1 e2 e3=>?_
  have hij:i≠j:=fun q=>by rw [←q,hn] at h2;cases h2
  refine ⟨v,e1,?_,e3.heap fun b o t q=>?_⟩
  ·rcases e2 with ⟨hl,m,hmm,hv⟩ | ⟨hl,c',hc',hv⟩
   ·exact .inl ⟨hl,m,hmm.sameBut hs (ne R.loc (by simp)),hv⟩
   ·refine .inr ⟨hl,c',hc',hv.sameBut hs ?_⟩
    rcases R.celT y c' hl hc' with q | ⟨o,q⟩
    ·exact ne q fun z=>nt_ne R.ntd hx h1 hij (by injection z)
    ·exact ne q (by simp)
  ·rcases t with t | t
   ·exact keep t (by simp) q
   ·exact keep t (by simp) q
 ·refine R.g.heap fun b o h q=>keep rfl (fun z=>?_) q
  rw [z] at h;cases h
theorem SlotIs.at {h h':Heap}{i:Nat}{v:Value}{sl:Slot}{a:Addr}(z:SlotIs prog w τ h i v sl)(hs:Heap.SameBut a h h')(h1:τ a≠ .own i)(h2: ∀o,τ a≠ .pin o):SlotIs prog w τ h' i v sl:=
 z.heap fun b o t e=>(hs.2 _ (by rintro rfl;rcases t with t | t;exact h1 t;exact h2 _ t)).trans e
theorem bV {M:Model}{A:Around}{E:Value→Shared→Prop}(R:Rel prog w s0 env l nt wr τ av st s){i:Nat}{x:Str}{v:Value}{sl:Slot}{Q:Unit→Shared→Prop}
  (hx:nt[i]? =some x) (hw:wr x=true) (hs:SlotIs prog w τ s.heap i v sl)
  (hQ: ∀h' tk,Rel prog w s0 env l nt wr τ (fun j=>if j=i then some v else av j) (st.set i sl) {s with heap:=h',toks:=tk}→Q () {s with heap:=h',toks:=tk}):
  wpAny M A (storeName env x v) Q E s:=by
 have R1:=(R.drop i).reav (by rw [St.get_clear,if_pos rfl]) (some v)
 have hn:(st.clear i).get i=none:=by rw [St.get_clear,if_pos rfl]
 have kd:(env.scope.kind== .class||(env.scope.kind== .module&&env.locals != env.globals))=false:=by rw [R.kind];rfl
 rcases R.wrk x hw with hl | ⟨hl,c,v0,hc,hv,ht⟩
 ·obtain ⟨m,hm⟩:=R.ns
  refine wpAny_storeName_local hl hm (fun h' hm' hs'=>hQ h' _ ?_) kd
  have R2:=R1.turnLoc hx hn hs' hm' (fun m2 h2 y hy=>by rw [Ns.fun hm h2];exact if_neg hy) (tk:=s.toks + 1)
  have R3:=R2.put (sl:=sl) hx (if_pos rfl) (.inl ⟨hl,_,hm',if_pos rfl⟩) (hs.at hs' (by rw [R.loc];simp) fun o=>by rw [R.loc];simp)
  rw [St.set_clear] at R3
  exact R3
 ·refine wpAny_storeName_cell R.kind hl hc hv fun h' hc' hs'=>hQ h' s.toks ?_
  have R2:=R1.turnCel hx hn hs' hc' ht (tk:=s.toks)
  have R3:=R2.put (sl:=sl) hx (if_pos rfl) (.inr ⟨.inl hl,c,hc,hc'⟩) (hs.at hs' (by rw [ht];simp) fun o=>by rw [ht];simp)
  rw [St.set_clear] at R3
  exact R3
end
mutual
noncomputable def D.py:D→PyData
 | .none=>.none
 | .bool b=>.bool b
 | .int i=>.int i
 | .str x=>.str x
 | .tup ds=>.tuple (D.pys ds)
 | .lst ds=>.list (D.pys ds)
 | .dct _=>.none
 | .hnd _=>.none
noncomputable def D.pys:List D→List PyData
 | []=>[]
 | d::r=>d.py::D.pys r
end
mutual
theorem py_lay: ∀d:D,d.cmpOk=true→d.py.canLay0=true∧d.py.depth≤d.depth
 | .none,_=>⟨rfl,Nat.le_refl _⟩
 | .bool _,h=>absurd h Bool.false_ne_true
 | .int _,_=>⟨rfl,Nat.le_refl _⟩
 | .str _,h=>⟨h,Nat.le_refl _⟩
 | .tup ds,h=>⟨(fJ ds h).1,Nat.succ_le_succ (fJ ds h).2⟩
 | .lst ds,h=>⟨(fJ ds h).1,Nat.succ_le_succ (fJ ds h).2⟩
 | .dct _,h=>absurd h Bool.false_ne_true
 | .hnd _,h=>absurd h Bool.false_ne_true
theorem fJ: ∀ds:List D,D.cmpOks ds=true→PyData.canLayAll0 (D.pys ds)=true∧PyData.depthAll (D.pys ds)≤D.depths ds
 | [],_=>⟨rfl,Nat.le_refl _⟩
 | d::r,h=>
  have h:=Bool.and_eq_true_iff.1 h
  have a:=py_lay d h.1
  have b:=fJ r h.2
  ⟨Bool.and_eq_true_iff.2 ⟨a.1,b.1⟩,Nat.max_le.2 ⟨Nat.le_trans a.2 (Nat.le_max_left _ _),Nat.le_trans b.2 (Nat.le_max_right _ _)⟩⟩
end
mutual
theorem py_eqv: ∀(a b:D),a.cmpOk=true→b.cmpOk=true→PyData.eqv a.py b.py=a.beq b
 | .none,b,_,hb=>by cases b <;> first | rfl | exact absurd hb Bool.false_ne_true
 | .bool _,_,h,_=>absurd h Bool.false_ne_true
 | .int _,b,_,hb=>by cases b <;> first | rfl | exact absurd hb Bool.false_ne_true
 | .str x,b,_,hb=>by cases b <;> first | rfl | exact absurd hb Bool.false_ne_true
 | .tup ds,b,h,hb=>by
  cases b with
  | tup es=>exact pys_eqv ds es h hb
  | _=>first | rfl | exact absurd hb Bool.false_ne_true
 | .lst ds,b,h,hb=>by
  cases b with
  | lst es=>exact pys_eqv ds es h hb
  | _=>first | rfl | exact absurd hb Bool.false_ne_true
 | .dct _,_,h,_=>absurd h Bool.false_ne_true
 | .hnd _,_,h,_=>absurd h Bool.false_ne_true
theorem pys_eqv: ∀(a b:List D),D.cmpOks a=true→D.cmpOks b=true→PyData.eqvAll (D.pys a) (D.pys b)=D.beqs a b
 | [],b,_,_=>by cases b <;> rfl
 | x::r,b,h,hb=>by
  cases b with
  | nil=>rfl
  | cons y t=>
   have h:=Bool.and_eq_true_iff.1 h
   have hb:=Bool.and_eq_true_iff.1 hb
   exact (congrArg (· &&_) (py_eqv x y h.1 hb.1)).trans (congrArg (D.beq x y&& ·) (pys_eqv r t h.2 hb.2))
end
section
variable {prog:Program}{w:World}{τ:TM}{h:Heap}
theorem Rep.reads (hB: ∀a o,τ a=.frz o→h.get? a=some o){v:Value}{d:D}(r:Rep prog w τ v d):d.cmpOk=true→ ∃as,Reads h v d.py as:=
 Rep.rec (motive_1:=fun v d _=>d.cmpOk=true→ ∃as,Reads h v d.py as) (motive_2:=fun vs ds _=>D.cmpOks ds=true→ ∃as,ReadsAll h vs (D.pys ds) as) (fun _=>⟨_,.none⟩) (fun b _=>⟨_,.bool b⟩) (fun i t _=>⟨_,.int i t⟩) (fun x t _=>⟨_,.str x t⟩)
  (fun ha hso _ ih k=>let ⟨n,hd⟩:=hso.data;let ⟨as,q⟩:=ih k;⟨_,.tuple (hB _ _ ha) hso.cls hd q⟩) (fun ha hso _ ih k=>let ⟨n,hd⟩:=hso.data;let ⟨as,q⟩:=ih k;⟨_,.list (hB _ _ ha) hso.cls hd q⟩)
  (fun _ _ _ _ _ _ _ k=>Bool.noConfusion k) (fun _ k=>Bool.noConfusion k) (fun _ k=>Bool.noConfusion k) (fun _ _ k=>Bool.noConfusion k) (fun _=>⟨_,.nil⟩)
  (fun _ _ h1 h2 k=>let ⟨as,q⟩:=h1 (Bool.and_eq_true_iff.mp k).1;let ⟨bs,p⟩:=h2 (Bool.and_eq_true_iff.mp k).2;⟨_,.cons q p⟩) r
theorem RepL.reads (hB: ∀a o,τ a=.frz o→h.get? a=some o){vs:List Value}{ds:List D}(r:RepL prog w τ vs ds)(k:D.cmpOks ds=true): ∃as,ReadsAll h vs (D.pys ds) as:=by
 induction vs generalizing ds with
 | nil=>cases r;exact ⟨_,.nil⟩
 | cons v vs ih=>
  cases ds with
  | nil=>cases r
  | cons d ds=>
   refine x23 r.cons_inv fun _ _ e r1 r2=>?_
   cases e
   refine x11 (r1.reads hB (Bool.and_eq_true_iff.mp k).1) fun as q=>?_
   refine x11 (ih r2 (Bool.and_eq_true_iff.mp k).2) fun bs p=>?_
   exact ⟨_,.cons q p⟩
noncomputable def ContAt (prog:Program)(w:World)(τ:TM)(h:Heap)(v:Value)(d:D):Prop:= ∃a o,v=.ref a∧h.get? a=some o∧(a==sysModules)=false∧Cont prog w τ o d
noncomputable def IsD (prog:Program)(w:World)(τ:TM)(h:Heap)(v:Value)(d:D):Prop:=Rep prog w τ v d∨ContAt prog w τ h v d
theorem Rep.contAt (hB: ∀a o,τ a=.frz o→h.get? a=some o){v:Value}{kds:List (Str×D)}(r:Rep prog w τ v (.dct kds)):ContAt prog w τ h v (.dct kds):=by
 cases r with | dct h1 h2 h3 h4 h5 h6=>exact ⟨_,_,rfl,hB _ _ h1,h3,_,h2,h4,by rw [←h5];exact h6⟩
theorem IsD.str {v:Value}{x:Str}(r:IsD prog w τ h v (.str x)): ∃t,v=.str x t:=by
 rcases r with r | ⟨_,_,_,_,_,c⟩
 ·exact r.str_inv
 ·cases c
theorem IsD.tup (hB: ∀a o,τ a=.frz o→h.get? a=some o){v:Value}{ds:List D}(r:IsD prog w τ h v (.tup ds)): ∃a o vs,v=.ref a∧h.get? a=some o∧SeqObj "tuple" o vs∧RepL prog w τ vs ds:=by
 rcases r with r | ⟨_,_,_,_,_,c⟩
 ·obtain ⟨a,o,vs,e,h1,h2,h3⟩:=r.tup_inv
  exact ⟨a,o,vs,e,hB _ _ h1,h2,h3⟩
 ·cases c
theorem IsD.dct (hB: ∀a o,τ a=.frz o→h.get? a=some o){v:Value}{kds:List (Str×D)}(r:IsD prog w τ h v (.dct kds)):ContAt prog w τ h v (.dct kds):=r.elim (fun q=>q.contAt hB) id
theorem IsD.list (hB: ∀a o,τ a=.frz o→h.get? a=some o){v:Value}{ds:List D}(r:IsD prog w τ h v (.lst ds)): ∃a o vs,v=.ref a∧h.get? a=some o∧SeqObj "list" o vs∧RepL prog w τ vs ds:=by
 rcases r with r | ⟨a,o,e,ho,_,vs,x,y⟩
 ·obtain ⟨a,o,vs,e,h1,h2,h3⟩:=r.lst_inv
  exact ⟨a,o,vs,e,hB _ _ h1,h2,h3⟩
 ·exact ⟨a,o,vs,e,ho,x,y⟩
theorem SeqObj.isList {a:Addr}{o:Obj}{vs:List Value}(ho:h.get? a=some o)(s:SeqObj "list" o vs):h.IsList a vs.toArray:=⟨o,ho,s.cls,s.data⟩
theorem SeqObj.isTuple {a:Addr}{o:Obj}{vs:List Value}(ho:h.get? a=some o)(s:SeqObj "tuple" o vs):h.IsTuple a vs.toArray:=⟨o,ho,s.cls,s.data⟩
theorem SeqObj.isTup {a:Addr}{o:Obj}{vs:List Value}(ho:h.get? a=some o)(s:SeqObj "tuple" o vs):IsTup h a vs.toArray:=⟨o,ho,s.cls,s.data⟩
theorem DictObj.mapOf {a:Addr}{o:Obj}{kvs:List (Str×Value)}(ho:h.get? a=some o)(s:DictObj prog w o kvs):h.DictOf (strKind prog w) a kvs:=
 let ⟨e,es,ep,hd,hk,hp,hn⟩:=s;⟨o,es,ep,ho,e,hd,hk,hp,hn⟩
theorem jr {kvs:List (Str×Value)}{kds:List (Str×D)}(he:kvs.map (·.1)=kds.map (·.1))(r:RepL prog w τ (kvs.map (·.2)) (kds.map (·.2)))(x:Str):
  match aX x kds with
  | some d=> ∃v,valueAt kvs x=some v∧Rep prog w τ v d
  | none=>valueAt kvs x=none:=by
 induction kvs generalizing kds with
 | nil=>cases kds with
  | nil=>rfl
  | cons p r=>simp at he
 | cons kv kvs ih=>
  cases kds with
  | nil=>simp at he
  | cons p kds=>
   simp only [List.map_cons,List.cons.injEq] at he
   simp only [List.map_cons] at r
   cases r with
   | cons r1 r2=>
    have:=ih he.2 r2
    obtain ⟨y,d⟩:=p
    simp only at he
    simp only [aX,valueAt,List.find?_cons]
    by_cases hx:x=y
    ·subst hx
     rw [if_pos rfl]
     simp only [he.1,decide_true]
     exact ⟨_,rfl,r1⟩
    ·rw [if_neg hx]
     have:decide (kv.1=x)=false:=decide_eq_false (by rw [he.1];exact fun e=>hx e.symm)
     simp only [this]
     exact ih he.2 r2
end
section
variable {prog:Program}{w:World}{A:Around}{E:Value→Shared→Prop}{s:Shared}{τ:TM}
theorem ib {α:Type}{xs:List α}{i:Int}{x:α}(h:dF xs i=some x): ∃j,seqIndex? i xs.length=some j∧xs[j]? =some x∧ -(xs.length:Int)≤i∧i < xs.length:=by
 unfold dF at h
 unfold seqIndex?
 by_cases h0:0≤i
 ·rw [if_pos h0] at h
  have hl:=(List.getElem?_eq_some_iff.mp h).1
  have h1: ¬i < 0:=Int.not_lt.2 ‹_›
  refine ⟨i.toNat,?_,h,by omega,by exact ni [_,_,_] [(.s Z0,Z1),(Z2,Z0)] (.s Z2) Z1 rfl (Int.ofNat_lt.2 hl) (Int.self_le_toNat _)⟩
  simp only [if_neg h1]
  rw [if_pos]
  simp only [Bool.and_eq_true,decide_eq_true_eq]
  exact ⟨ni [_] [(.n 0,Z0)] (.n 0) Z0 rfl (Int.not_lt.1 h1),ni [_,_,_] [(.s Z0,Z1),(Z2,Z0)] (.s Z2) Z1 rfl (Int.ofNat_lt.2 hl) (Int.self_le_toNat _)⟩
 ·rw [if_neg h0] at h
  by_cases h2: -(xs.length:Int)≤i
  ·rw [if_pos h2] at h
   refine ⟨(i + xs.length).toNat,?_,h,h2,by exact ni [_,_] [(.s Z0,.n 0),(.n 0,Z1)] (.s Z0) Z1 rfl (Int.not_le.1 h0) (Int.natCast_nonneg _)⟩
   have h1:i < 0:=by exact ni [_] [(.s Z0,.n 0)] (.s Z0) (.n 0) rfl (Int.not_le.1 h0)
   simp only [if_pos h1]
   rw [if_pos]
   simp only [Bool.and_eq_true,decide_eq_true_eq]
   omega
  ·rw [if_neg h2] at h;cases h
theorem jt {i:Int}(h:bl i=true): -(2 ^ 62) < i∧i < 2 ^ 62:=by simpa [bl] using h
theorem getItem_D {vc vi:Value}{c i d:D}{Q:Value→Shared→Prop}(hB: ∀a o,τ a=.frz o→s.heap.get? a=some o)(hc:IsD prog w τ s.heap vc c)(hi:Rep prog w τ vi i)(hx:ixD c i=some d)
  (h: ∀v tk,Rep prog w τ v d→Q v {s with toks:=tk}) {value slice:PySem.Expr} (hs: ∀o i,subscripted slice false o i=operate [o,i] (getItem o i)):
  wpAny (model prog w) A (subscriptTail value slice vc vi) Q E s:=by
 rcases ixD_inv hx with ⟨ds,k,e1,e2,z,hx⟩ | ⟨ds,k,e1,e2,z,hx⟩ | ⟨x,k,ch,e1,e2,z,hx,e⟩ | ⟨kds,x,e1,e2,hx⟩ <;> rw [e1] at hc <;> rw [e2] at hi
 ·obtain ⟨tk,rfl⟩:=hi.int_inv
  obtain ⟨a,o,vs,rfl,h1,h2,h3⟩:=hc.tup hB
  have z:=jt z
  refine x14 (ib hx) fun j hj hxj hlo hhi=>?_
  refine x12 (h3.get hxj) fun v hv hr=>?_
  exact item_tupleT (h2.isTup h1) (by exact ni [_] [(.s (.n (-4611686018427387904)),Z0)] (.n (-9223372036854775808)) Z0 rfl z.1) (by exact ni [_] [(.s Z0,.n 4611686018427387904)] (.s Z0) (.n 9223372036854775808) rfl z.2) (by rw [h3.length];exact hj) hv (h v s.toks hr) (hs _ _)
 ·obtain ⟨tk,rfl⟩:=hi.int_inv
  obtain ⟨a,o,vs,rfl,ho,h2,h3⟩:=hc.list hB
  have z:=jt z
  refine x14 (ib hx) fun j hj hxj hlo hhi=>?_
  have hlen:=h3.length
  refine tail_any (h2.isList ho).typeIs slot_list_getitem.lookup ?_ (hs _ _)
  unfold dF at hx
  by_cases h0:0≤k
  ·rw [if_pos h0] at hx
   refine x12 (h3.get hx) fun v hv hr=>?_
   exact wpAny_getItem_list (h2.isList ho) h0 (by exact ni [_] [(.s Z0,.n 4611686018427387904)] (.s Z0) (.n 9223372036854775808) rfl z.2) (by simpa using hv) (h v s.toks hr)
  ·rw [if_neg h0,if_pos hlo] at hx
   refine x12 (h3.get hx) fun v hv hr=>?_
   exact wpAny_getItem_list_neg (h2.isList ho) (by exact ni [_] [(.s Z0,.n 0)] (.s Z0) (.n 0) rfl (Int.not_le.1 h0)) (by simpa [hlen] using hlo) (by exact ni [_] [(.s (.n (-4611686018427387904)),Z0)] (.n (-9223372036854775808)) Z0 rfl z.1) (by simpa [hlen] using hv) (h v s.toks hr)
 ·obtain ⟨tk,rfl⟩:=hi.int_inv
  obtain ⟨t,rfl⟩:=hc.str
  have z:=jt z
  refine x14 (ib hx) fun j hj hxj hlo hhi=>?_
  have hz':x.cps.toList.length=x.length:=by simp [PySem.Str.length]
  refine tail_any (T:="str") rfl (by first | exact slot_str_getitem.lookup | exact F.slot_str_getitem.lookup) (getItem_str ?_ ?_ (h _ _ (by rw [e];exact .str _ _))) (hs _ _)
  ·simp only [Bool.or_eq_false_iff,decide_eq_false_iff_not];exact ⟨fun e=>nz [_] [(.s Z0,.n (-9223372036854775808)),(.s (.n (-4611686018427387904)),Z0)] rfl e z.1,fun e=>nz [_] [(.n 9223372036854775808,Z0),(.s Z0,.n 4611686018427387904)] rfl e z.2⟩
  ·rw [hz'] at hj
   rw [hj]
   simpa using hxj
 ·obtain ⟨tk,rfl⟩:=hi.str_inv
  obtain ⟨a,o,rfl,ho,hsys,kvs,h2,he,h3⟩:=hc.dct hB
  have hv:=jr he h3 x
  rw [hx] at hv
  refine x12 hv fun v hv hr=>?_
  have hd:=h2.mapOf ho
  exact tail_any hd.typeIs slot_dict_getitem.lookup (wpAny_getItem_of (knd:=PySem.strKind prog w) (k:=x) (by simp [PySem.strKind,Value.isStrOf]) hd.mapOf hv (h v _ hr)) (hs _ _)
theorem IsD.reads1 (hB: ∀a o,τ a=.frz o→s.heap.get? a=some o){a:Addr}{o:Obj}{vs:List Value}{ds:List D}(ho:s.heap.get? a=some o)(hso:SeqObj "list" o vs)(r:RepL prog w τ vs ds)(hk:(D.lst ds).cmpOk=true): ∃as,Reads s.heap (.ref a) (D.lst ds).py as:=by
 refine x11 hso.data fun n hd=>?_
 refine x11 (r.reads hB hk) fun as q=>?_
 exact ⟨_,.list ho hso.cls hd q⟩
theorem IsD.reads (hB: ∀a o,τ a=.frz o→s.heap.get? a=some o){v:Value}{d:D}(r:IsD prog w τ s.heap v d)(hk:d.cmpOk=true): ∃as,Reads s.heap v d.py as:=by
 rcases r with r | ⟨a,o,rfl,ho,_,c⟩
 ·exact r.reads hB hk
 ·cases d <;> try exact c.elim
  ·obtain ⟨vs,hso,r⟩:=c
   exact IsD.reads1 hB ho hso r hk
  ·cases hk
theorem eqD_shaped {a b:D}{r:Bool}(h:eqD a b=some r):a.cmpOk=true∧b.cmpOk=true∧SeqAt.shaped a.py=true∧SeqAt.shaped b.py=true∧PyData.eqv a.py b.py=r:=by
 unfold eqD at h
 split at h
 ·rename_i hc
  simp only [Bool.and_eq_true,decide_eq_true_eq] at hc
  cases h
  obtain ⟨a1,a2⟩:=py_lay a hc.1.1.1
  obtain ⟨b1,b2⟩:=py_lay b hc.1.1.2
  refine ⟨hc.1.1.1,hc.1.1.2,?_,?_,py_eqv a b hc.1.1.1 hc.1.1.2⟩
  ·unfold SeqAt.shaped;rw [a1,Bool.true_and];exact decide_eq_true (by exact nl [_,_] [(N0,N1),(N1,.n 8)] N0 (.n 64) rfl a2 hc.1.2)
  ·unfold SeqAt.shaped;rw [b1,Bool.true_and];exact decide_eq_true (by exact nl [_,_] [(N0,N1),(N1,.n 8)] N0 (.n 64) rfl b2 hc.2)
 ·cases h
theorem cmp_eq {va vb:Value}{a b:D}{r:Bool}{Q:Value→Shared→Prop}(hB: ∀a o,τ a=.frz o→s.heap.get? a=some o)(ha:IsD prog w τ s.heap va a)(hb:Rep prog w τ vb b)(h:eqD a b=some r)(hu:A.units + 64 < cLine)
  (hQ:Q (.bool r) s):wpAny (model prog w) A (compareOp .Eq va vb) Q E s:=by
 refine x05 (eqD_shaped h) fun k1 k2 k3 k4 k5=>?_
 refine x11 (ha.reads hB k1) fun as ra=>?_
 refine x11 (hb.reads hB k2) fun bs rb=>?_
 exact eq_dataH ra rb k3 k4 hu (by rw [k5];exact hQ)
theorem cmp_ne {va vb:Value}{a b:D}{r:Bool}{Q:Value→Shared→Prop}(hB: ∀a o,τ a=.frz o→s.heap.get? a=some o)(ha:IsD prog w τ s.heap va a)(hb:Rep prog w τ vb b)(h:eqD a b=some r)(hu:A.units + 64 < cLine)
  (hQ:Q (.bool !r) s):wpAny (model prog w) A (compareOp .NotEq va vb) Q E s:=by
 refine x05 (eqD_shaped h) fun k1 k2 k3 k4 k5=>?_
 refine x11 (ha.reads hB k1) fun as ra=>?_
 refine x11 (hb.reads hB k2) fun bs rb=>?_
 exact ne_dataH ra rb k3 k4 hu (by rw [k5];exact hQ)
theorem any_py (ds:List D)(a:D)(h:D.cmpOks ds=true)(ha:a.cmpOk=true):(D.pys ds).any (fun y=>PyData.eqv y a.py)=ds.any fun d=>d.beq a:=by
 induction ds with
 | nil=>rfl
 | cons d r ih=>
  have h:=Bool.and_eq_true_iff.1 h
  show (PyData.eqv d.py a.py||_)=_
  rw [List.any_cons,py_eqv d a h.1 ha,←ih h.2]
inductive InW (prog:Program)(w:World)(h:Heap)(va vc:Value)(r:Bool):Prop where
 | lst (a:D) (ds:List D) (as bs:List Addr) (ra:Reads h vc (.list (D.pys ds)) as) (rx:Reads h va a.py bs) (m1:PyData.canLayAll0 (D.pys ds)=true) (l1:a.py.canLay0=true) (u:min (PyData.depthAll (D.pys ds)) a.py.depth≤8) (e:((D.pys ds).any fun y=>PyData.eqv y a.py)=r)
 | str (x y:Str) (t u:Tok) (e1:va=.str x t) (e2:vc=.str y u) (e:fh y x=r)
 | dct (x:Str) (t:Tok) (b:Addr) (o:Obj) (kvs:List (Str×Value)) (e1:va=.str x t) (e2:vc=.ref b) (hs:(b==sysModules)=false) (ho:h.get? b=some o) (hd:DictObj prog w o kvs) (e:(valueAt kvs x).isSome=r)
theorem in_facts {va vc:Value}{a c:D}{r:Bool}(hB: ∀a o,τ a=.frz o→s.heap.get? a=some o)(ha:Rep prog w τ va a)(hc:IsD prog w τ s.heap vc c)(h:inD a c=some r):InW prog w s.heap va vc r:=by
 rcases inD_inv h with ⟨ds,e,hk,e2⟩ | ⟨x,y,e1,e2,e⟩ | ⟨x,kds,e1,e2,e⟩
 ·simp only [Bool.and_eq_true,decide_eq_true_eq] at hk
  rw [e] at hc
  refine x11 (hc.reads hB hk.1.1.2) fun as ra=>?_
  refine x11 (ha.reads hB hk.1.1.1) fun bs rx=>?_
  refine x02 (py_lay a hk.1.1.1) fun l1 l2=>?_
  refine x02 (fJ ds hk.1.1.2) fun m1 m2=>?_
  exact .lst a ds as bs ra rx m1 l1 (Nat.le_trans (Nat.min_le_right _ _) (Nat.le_trans l2 hk.1.2)) (by rw [any_py ds a hk.1.1.2 hk.1.1.1,e2])
 ·rw [e1] at ha;rw [e2] at hc
  obtain ⟨t,rfl⟩:=ha.str_inv
  obtain ⟨u,rfl⟩:=hc.str
  exact .str _ _ _ _ rfl rfl e.symm
 ·rw [e1] at ha;rw [e2] at hc
  obtain ⟨t,rfl⟩:=ha.str_inv
  obtain ⟨b,o,e3,ho,hsys,kvs,h2,he,h3⟩:=hc.dct hB
  refine .dct x _ b o kvs rfl e3 hsys ho h2 ?_
  have hv:=jr he h3 x
  rw [e]
  cases hl:aX x kds with
  | none=>rw [hl] at hv;rw [show valueAt kvs x=none from hv];rfl
  | some d=>rw [hl] at hv;refine x12 hv fun v hv _=>?_;rw [hv];rfl
theorem cmp_in {va vc:Value}{a c:D}{r:Bool}{Q:Value→Shared→Prop}(hB: ∀a o,τ a=.frz o→s.heap.get? a=some o)(ha:Rep prog w τ va a)(hc:IsD prog w τ s.heap vc c)(h:inD a c=some r)(hu:A.units + 64 < cLine)
  (hQ: ∀tk,Q (.bool r) {s with toks:=tk}):wpAny (model prog w) A (compareOp .In va vc) Q E s:=by
 rcases in_facts hB ha hc h with ⟨a,ds,as,bs,ra,rx,m1,l1,u,e⟩ | ⟨x,y,t,u,rfl,rfl,e⟩ | ⟨x,t,b,o,kvs,rfl,rfl,hs,ho,hd,e⟩
 ·exact SeqAt.in_list_reads ra rx m1 l1 (by exact nl [_,_] [(N0,.n 8),(.s (.a N1 (.n 64)),.n 9900)] (.s (.a (.s N1) N0)) (.n 9900) rfl u hu) (by rw [e];exact hQ s.toks)
 ·exact in_str (by rw [←e] at hQ;exact hQ s.toks)
 ·exact wpAny_in_of (knd:=PySem.strKind prog w) (k:=x) (by simp [PySem.strKind,Value.isStrOf]) hs (hd.mapOf ho).mapOf (by rw [e];exact hQ _)
theorem cmp_nin {va vc:Value}{a c:D}{r:Bool}{Q:Value→Shared→Prop}(hB: ∀a o,τ a=.frz o→s.heap.get? a=some o)(ha:Rep prog w τ va a)(hc:IsD prog w τ s.heap vc c)(h:inD a c=some r)(hu:A.units + 64 < cLine)
  (hQ: ∀tk,Q (.bool !r) {s with toks:=tk}):wpAny (model prog w) A (compareOp .NotIn va vc) Q E s:=by
 rcases in_facts hB ha hc h with ⟨a,ds,as,bs,ra,rx,m1,l1,u,e⟩ | ⟨x,y,t,u,rfl,rfl,e⟩ | ⟨x,t,b,o,kvs,rfl,rfl,hs,ho,hd,e⟩
 ·exact SeqAt.notIn_list_reads ra rx m1 l1 (by exact nl [_,_] [(N0,.n 8),(.s (.a N1 (.n 64)),.n 9900)] (.s (.a (.s N1) N0)) (.n 9900) rfl u hu) (by rw [e];exact hQ s.toks)
 ·exact notIn_str (by rw [←e] at hQ;exact hQ s.toks)
 ·exact wpAny_notIn_of (knd:=PySem.strKind prog w) (k:=x) (by simp [PySem.strKind,Value.isStrOf]) hs (hd.mapOf ho).mapOf (by rw [e];exact hQ _)
end
noncomputable def RP {α:Type}(r:Res α)(P:α→Prop)(F:Int→Prop):Prop:=match r with
 | .ok a=>P a
 | .flt n=>F n
 | .bad=>False
theorem RP.bind {α β:Type}{r:Res α}{f:α→Res β}{P:β→Prop}{F:Int→Prop}(h:RP (r.bind f) P F):RP r (fun a=>RP (f a) P F) F:=by cases r <;> exact h
theorem RP.mono {α:Type}{r:Res α}{P P':α→Prop}{F F':Int→Prop}(h:RP r P F)(hp: ∀a,P a→P' a)(hf: ∀n,F n→F' n):RP r P' F':=by
 cases r with
 | ok a=>exact hp a h
 | flt n=>exact hf n h
 | bad=>exact h
theorem RP.ifI {α:Type}{c:Prop} [Decidable c] {r:Res α}{P:α→Prop}{N:Int→Prop}(h:RP (if c then r else .bad) P N):c∧RP r P N:=by
 split at h
 ·exact ⟨‹_›,h⟩
 ·exact h.elim
theorem RP.intM {α:Type}{d:D}{G:Int→Res α}{P:α→Prop}{N:Int→Prop}(h:RP (match d with | .int x=>G x | _=>.bad) P N): ∃x,d=.int x∧RP (G x) P N:=by
 cases d with
 | int x=>exact ⟨x,rfl,h⟩
 | _=>exact h.elim
theorem RP.strM {α:Type}{d:D}{G:Str→Res α}{P:α→Prop}{N:Int→Prop}(h:RP (match d with | .str x=>G x | _=>.bad) P N): ∃x,d=.str x∧RP (G x) P N:=by
 cases d with
 | str x=>exact ⟨x,rfl,h⟩
 | _=>exact h.elim
theorem RP.tupM {α:Type}{d:D}{G:List D→Res α}{P:α→Prop}{N:Int→Prop}(h:RP (match d with | .tup x=>G x | _=>.bad) P N): ∃x,d=.tup x∧RP (G x) P N:=by
 cases d with
 | tup x=>exact ⟨x,rfl,h⟩
 | _=>exact h.elim
theorem RP.ofOpt {α β:Type}{o:Option α}{f:α→Res β}{P:β→Prop}{F:Int→Prop}(h:RP ((Res.ofOpt o).bind f) P F): ∃a,o=some a∧RP (f a) P F:=by
 cases o with
 | none=>exact h.elim
 | some a=>exact ⟨a,rfl,h⟩
theorem RP.guard {α:Type}{c:Prop} [Decidable c] {r:Res α}{P:α→Prop}{F:Int→Prop}(h:RP (if c then r else .bad) P F):c∧RP r P F:=by
 split at h
 ·exact ⟨‹c›,h⟩
 ·exact h.elim
theorem RP.int {α:Type}{d:D}{f:Int→Res α}{P:α→Prop}{F:Int→Prop}(h:RP (match d with | .int i=>f i | _=>.bad) P F): ∃i,d=.int i∧RP (f i) P F:=by cases d <;> first | exact h.elim | exact ⟨_,rfl,h⟩
theorem RP.str {α:Type}{d:D}{f:Str→Res α}{P:α→Prop}{F:Int→Prop}(h:RP (match d with | .str i=>f i | _=>.bad) P F): ∃i,d=.str i∧RP (f i) P F:=by cases d <;> first | exact h.elim | exact ⟨_,rfl,h⟩
theorem RP.lst {α:Type}{d:D}{f:List D→Res α}{P:α→Prop}{F:Int→Prop}(h:RP (match d with | .lst i=>f i | _=>.bad) P F): ∃i,d=.lst i∧RP (f i) P F:=by cases d <;> first | exact h.elim | exact ⟨_,rfl,h⟩
theorem RP.tup {α:Type}{d:D}{f:List D→Res α}{P:α→Prop}{F:Int→Prop}(h:RP (match d with | .tup i=>f i | _=>.bad) P F): ∃i,d=.tup i∧RP (f i) P F:=by cases d <;> first | exact h.elim | exact ⟨_,rfl,h⟩
theorem RP.non {α:Type}{d:D}{r:Res α}{P:α→Prop}{F:Int→Prop}(h:RP (match d with | .none=>r | _=>.bad) P F):d=.none∧RP r P F:=by cases d <;> first | exact h.elim | exact ⟨rfl,h⟩
structure Cx (A:Around)(l:List Env)(n:Nat):Prop where
 handled:A.handled=none
 frames:A.frames=some l
 depth:A.depth + 4 * n < recursionLimit
 units:A.units + 64 + 12 * n < cLine
theorem Cx.mono {A:Around}{l:List Env}{n m:Nat}(h:Cx A l n)(hm:m≤n):Cx A l m:=⟨h.1,h.2,Nat.lt_of_le_of_lt (Nat.add_le_add_left (Nat.mul_le_mul_left 4 hm) _) h.3,Nat.lt_of_le_of_lt (Nat.add_le_add_left (Nat.mul_le_mul_left 12 hm) _) h.4⟩
theorem Cx.u {A:Around}{l:List Env}{n:Nat}(h:Cx A l n):A.units + 64 < cLine:=Nat.lt_of_le_of_lt (Nat.le_add_right _ _) h.4
noncomputable def EnvNs (env:Env)(ns:List (Str×NameKind)):Prop:= ∀x k,ns.lookup x=some k→match k with
 | .local=>env.kindOf x=some .local
 | .cell=>env.kindOf x=some .cell∧(env.cells.lookup x).isSome=true
 | .free=>(env.kindOf x=some .cell∨env.kindOf x=some .free)∧(env.cells.lookup x).isSome=true
 | .globalImplicit=>env.kindOf x=some .globalImplicit
 | _=>True
noncomputable def bN:Option NameKind→Bool
 | some .local | some .cell | some .free=>true
 | _=>false
theorem EnvNs.vis {env:Env}{ns:List (Str×NameKind)}(h:EnvNs env ns){x:Str}(hx:bN (ns.lookup x)=true):Vis env x:=by
 cases hk:ns.lookup x with
 | none=>rw [hk] at hx;cases hx
 | some k=>
  have:=h x k hk
  rw [hk] at hx
  cases k <;> first | exact .inl this | exact .inr (.inl this.1) | exact .inr this.1 | cases hx
noncomputable def bQ (l:List Env):List Addr:=l.filterMap (·.frame)
structure ExcAt (w:World)(h:Heap)(e dx:Addr)(ln:Int)(tb:Value):Prop where
 obj: ∃vs sl,h.get? e=some ⟨.ref 51,some dx,.fields vs,sl⟩∧1 < vs.size∧vs[1]? =some tb
 dic: ∃t1 t2 v t3 n,h.get? dx=some (dictOf [⟨PyData.keyHash w.params "text",.str "text" t1,v⟩,⟨PyData.keyHash w.params "line",.str "line" t2,.int ln t3⟩] n)
noncomputable def TbIs (h:Heap)(e:Addr)(tb:Value)(fl:Value)(T:Addr):Prop:=tb=.ref T∧T≠e∧ ∃oT ts,h.get? T=some oT∧oT.data=.fields ts∧ts[3]? =some fl
noncomputable def offTag (τ:TM)(a:Addr):Prop:= ∀o,τ a≠ .frz o∧τ a≠ .pin o
structure Infl (w:World)(s0:Shared)(l:List Env)(τ:TM)(ln:Int)(x:Value)(s':Shared):Prop where
 rest:Rest s0 s'
 keep: ∀a o,(τ a=.frz o∨τ a=.pin o)→a∉bQ l→s'.heap.get? a=some o
 slots: ∀a o,(τ a=.frz o∨τ a=.pin o)→ ∃sl,s'.heap.get? a=some {o with slots:=sl}
 frs: ∀e∈l,e.scope.kind≠ .module∧ ∃L o,e.frame=some L∧s'.heap.get? L=some o∧ ∀vs,o.data≠ .fields vs
 exc: ∃e dx tb,x=.ref e∧ExcAt w s'.heap e dx ln tb∧dx∉bQ l∧offTag τ e∧
  (tb=.none∨ ∃T fl,offTag τ T∧TbIs s'.heap e tb fl T∧(fl=.none∨ ∃env L,l.head?=some env∧env.frame=some L∧fl=rawInt L))
theorem offTag.le {τ τ':TM}(h:TM.le τ τ'){a:Addr}(x:offTag τ' a):offTag τ a:=fun o=>⟨fun e=>(x o).1 (h.frz _ _ e),fun e=>(x o).2 (h.pin _ _ e)⟩
theorem Infl.le {w:World}{s0:Shared}{l:List Env}{τ τ':TM}{ln:Int}{x:Value}{s':Shared}(h:TM.le τ τ')(z:Infl w s0 l τ' ln x s'):Infl w s0 l τ ln x s' where
 rest:=z.rest
 keep a o e:=z.keep a o (e.imp (h.frz a o) (h.pin a o))
 slots a o e:=z.slots a o (e.imp (h.frz a o) (h.pin a o))
 frs:=z.frs
 exc:=by
  refine x35 z.exc fun e dx tb a b c d f=>?_
  exact ⟨e,dx,tb,a,b,c,d.le h,f.imp id fun ⟨T,fl,p,q⟩=>⟨T,fl,p.le h,q⟩⟩
section
variable (prog:Program)(w:World)(s0:Shared)(ft:FT)(m:Nat)(nt:List Str)
noncomputable def FlP (l:List Env)(τ:TM)(Er:Value→Shared→Prop):Int→Prop:=fun ln=> ∀x s',Infl w s0 l τ ln x s'→Er x s'
noncomputable def OkP (env:Env)(l:List Env)(wr:Str→Bool)(av:Nat→Option Value)(τ:TM)(Q:Value→Shared→Prop):D×St→Prop:=fun p=>
 ∀v τ' s',TM.le τ τ'→Rep prog w τ' v p.1→Rel prog w s0 env l nt wr τ' av p.2 s'→Q v s'
noncomputable def OkB (env:Env)(l:List Env)(wr:Str→Bool)(av:Nat→Option Value)(τ:TM)(Q:Bool→Shared→Prop):D×St→Prop:=fun p=>
 ∀b τ' s',p.1=.bool b→TM.le τ τ'→Rel prog w s0 env l nt wr τ' av p.2 s'→Q b s'
noncomputable def OkL (env:Env)(l:List Env)(wr:Str→Bool)(av:Nat→Option Value)(τ:TM)(Q:List Value→Shared→Prop):List D×St→Prop:=fun p=>
 ∀vs τ' s',TM.le τ τ'→RepL prog w τ' vs p.1→Rel prog w s0 env l nt wr τ' av p.2 s'→Q vs s'
structure SE (ns:List (Str×NameKind))(expr:PySem.Expr)(e:E):Prop where
 run: ∀{env:Env} {l:List Env} {wr:Str→Bool} {A:Around} {av:Nat→Option Value} {τ:TM} {st:St} {s:Shared} {Q Er:Value→Shared→Prop},
 EnvNs env ns→Cx A l (m + 1)→Rel prog w s0 env l nt wr τ av st s→RP (ev ft e st) (OkP prog w s0 nt env l wr av τ Q) (FlP w s0 l τ Er)→wpAny (model prog w) A (eval expr env) Q Er s
structure SB (ns:List (Str×NameKind))(expr:PySem.Expr)(e:E):Prop where
 run: ∀{env:Env} {l:List Env} {wr:Str→Bool} {A:Around} {av:Nat→Option Value} {τ:TM} {st:St} {s:Shared} {Q:Bool→Shared→Prop} {Er:Value→Shared→Prop},
 EnvNs env ns→Cx A l (m + 1)→Rel prog w s0 env l nt wr τ av st s→RP ((ev ft e st).bind fun p=>(Res.ofOpt (bY p.1)).bind fun b=>.ok (.bool b,p.2)) (OkB prog w s0 nt env l wr av τ Q) (FlP w s0 l τ Er)→
 wpAny (model prog w) A (isTrue expr env (eval expr env)) Q Er s
structure SL (ns:List (Str×NameKind))(exprs:List PySem.Expr)(es:List E):Prop where
 run: ∀{env:Env} {l:List Env} {wr:Str→Bool} {A:Around} {av:Nat→Option Value} {τ:TM} {st:St} {s:Shared} {Q:List Value→Shared→Prop} {Er:Value→Shared→Prop} {pos:Pos},
 EnvNs env ns→Cx A l (m + 1)→Rel prog w s0 env l nt wr τ av st s→RP (evs ft es st) (OkL prog w s0 nt env l wr av τ Q) (FlP w s0 l τ Er)→wpAny (model prog w) A (spliced (backTo pos (starEach exprs env))) Q Er s
end
section
variable {prog:Program}{w:World}{s0:Shared}{ft:FT}{m:Nat}{nt:List Str}{ns:List (Str×NameKind)}
theorem FlP.le {l:List Env}{τ τ':TM}{Er:Value→Shared→Prop}(h:TM.le τ τ'){n:Int}(z:FlP w s0 l τ Er n):FlP w s0 l τ' Er n:=fun x s' i=>z x s' (i.le h)
theorem OkP.le {env:Env}{l:List Env}{wr:Str→Bool}{av:Nat→Option Value}{τ τ':TM}{Q:Value→Shared→Prop}(h:TM.le τ τ'){p:D×St}(z:OkP prog w s0 nt env l wr av τ Q p):OkP prog w s0 nt env l wr av τ' Q p:=
 fun v τ1 s' a b c=>z v τ1 s' (h.trans a) b c
theorem OkB.le {env:Env}{l:List Env}{wr:Str→Bool}{av:Nat→Option Value}{τ τ':TM}{Q:Bool→Shared→Prop}(h:TM.le τ τ'){p:D×St}(z:OkB prog w s0 nt env l wr av τ Q p):OkB prog w s0 nt env l wr av τ' Q p:=
 fun b τ1 s' e a c=>z b τ1 s' e (h.trans a) c
theorem OkL.le {env:Env}{l:List Env}{wr:Str→Bool}{av:Nat→Option Value}{τ τ':TM}{Q:List Value→Shared→Prop}(h:TM.le τ τ'){p:List D×St}(z:OkL prog w s0 nt env l wr av τ Q p):OkL prog w s0 nt env l wr av τ' Q p:=
 fun v τ1 s' a b c=>z v τ1 s' (h.trans a) b c
theorem SE.seq {expr:PySem.Expr}{e:E}(H:SE prog w s0 ft m nt ns expr e){env:Env}{l:List Env}{wr:Str→Bool}{A:Around}{av:Nat→Option Value}{τ:TM}{st:St}{s:Shared}{β:Type}{k:D×St→Res β}(P:TM→β→Prop)
  {Q Er:Value→Shared→Prop} (hP: ∀{τ τ'},TM.le τ τ'→ ∀b,P τ b→P τ' b) (hE:EnvNs env ns) (hC:Cx A l (m + 1)) (R:Rel prog w s0 env l nt wr τ av st s)
  (h:RP ((ev ft e st).bind k) (P τ) (FlP w s0 l τ Er))
  (c: ∀p v τ1 s1,TM.le τ τ1→Rep prog w τ1 v p.1→Rel prog w s0 env l nt wr τ1 av p.2 s1→RP (k p) (P τ1) (FlP w s0 l τ1 Er)→Q v s1):wpAny (model prog w) A (eval expr env) Q Er s:=
 H.run hE hC R (h.bind.mono (fun p hp v τ1 s1 le rv R1=>c p v τ1 s1 le rv R1 (hp.mono (hP le) fun _=>FlP.le le)) fun _ f=>f)
section
variable {expr:PySem.Expr}{e:E}{env env':Env}{l l':List Env}{wr wr':Str→Bool}{A:Around}{av av':Nat→Option Value}{τ:TM}{st:St}{s:Shared}{Er:Value→Shared→Prop}{Q:Value→Shared→Prop}
theorem SE.seqP (H:SE prog w s0 ft m nt ns expr e){k:D×St→Res (D×St)}{Q':Value→Shared→Prop}(hE:EnvNs env ns)(hC:Cx A l (m + 1))(R:Rel prog w s0 env l nt wr τ av st s)
  (h:RP ((ev ft e st).bind k) (OkP prog w s0 nt env' l' wr' av' τ Q') (FlP w s0 l τ Er))
  (c: ∀p v τ1 s1,TM.le τ τ1→Rep prog w τ1 v p.1→Rel prog w s0 env l nt wr τ1 av p.2 s1→RP (k p) (OkP prog w s0 nt env' l' wr' av' τ1 Q') (FlP w s0 l τ1 Er)→Q v s1):wpAny (model prog w) A (eval expr env) Q Er s:=
 H.seq (fun τ=>OkP prog w s0 nt env' l' wr' av' τ Q') (fun le b=>OkP.le le) hE hC R h c
theorem SE.seqB (H:SE prog w s0 ft m nt ns expr e){k:D×St→Res (D×St)}{Q':Bool→Shared→Prop}(hE:EnvNs env ns)(hC:Cx A l (m + 1))(R:Rel prog w s0 env l nt wr τ av st s)
  (h:RP ((ev ft e st).bind k) (OkB prog w s0 nt env' l' wr' av' τ Q') (FlP w s0 l τ Er))
  (c: ∀p v τ1 s1,TM.le τ τ1→Rep prog w τ1 v p.1→Rel prog w s0 env l nt wr τ1 av p.2 s1→RP (k p) (OkB prog w s0 nt env' l' wr' av' τ1 Q') (FlP w s0 l τ1 Er)→Q v s1):wpAny (model prog w) A (eval expr env) Q Er s:=
 H.seq (fun τ=>OkB prog w s0 nt env' l' wr' av' τ Q') (fun le b=>OkB.le le) hE hC R h c
theorem SE.seqL (H:SE prog w s0 ft m nt ns expr e){k:D×St→Res (List D×St)}{Q':List Value→Shared→Prop}(hE:EnvNs env ns)(hC:Cx A l (m + 1))(R:Rel prog w s0 env l nt wr τ av st s)
  (h:RP ((ev ft e st).bind k) (OkL prog w s0 nt env' l' wr' av' τ Q') (FlP w s0 l τ Er))
  (c: ∀p v τ1 s1,TM.le τ τ1→Rep prog w τ1 v p.1→Rel prog w s0 env l nt wr τ1 av p.2 s1→RP (k p) (OkL prog w s0 nt env' l' wr' av' τ1 Q') (FlP w s0 l τ1 Er)→Q v s1):wpAny (model prog w) A (eval expr env) Q Er s:=
 H.seq (fun τ=>OkL prog w s0 nt env' l' wr' av' τ Q') (fun le b=>OkL.le le) hE hC R h c
end
theorem Rel.hB {env:Env}{l:List Env}{wr:Str→Bool}{av:Nat→Option Value}{τ:TM}{st:St}{s:Shared}(R:Rel prog w s0 env l nt wr τ av st s): ∀a o,τ a=.frz o→s.heap.get? a=some o:=fun a o h=>R.obj a o (.inl h)
theorem aa {x:Str}{pos:Pos}{i:Nat}(hx:nt[i]? =some x)(hv:bN (ns.lookup x)=true)(h1:(x==("__debug__":Str))=false)(h2:(x==("__classdict__":Str))=false):
  SE prog w s0 ft m nt ns (.Name x pos) (.var i):=by
 refine ⟨?_⟩
 intro env l wr A av τ st s Q Er hE hC R h
 refine x12 h.ofOpt fun d hd h=>?_
 unfold a8 at hd
 split at hd
 ·rename_i d' hg
  cases hd
  refine x13 (R.vars i x _ hx hg (hE.vis hv)) fun v _ hh hs=>?_
  exact aM R.kind hh (h v τ s (TM.le.refl _) hs R) h1 h2
 ·cases hd
theorem Rel.freeze {env:Env}{l:List Env}{wr:Str→Bool}{av:Nat→Option Value}{τ:TM}{st:St}{s:Shared}(R:Rel prog w s0 env l nt wr τ av st s){i:Nat}{x:Str}{d:D}{a:Addr}{o:Obj}(hx:nt[i]? =some x)(hg:st.get i=some (.own d))
  (hv:Vis env x) (hs: ∃o,s0.heap.get? sysModules=some o) (ha:av i=some (.ref a)) (ht:τ a=.own i) (ho:s.heap.get? a=some o) (hc:Cont prog w τ o d):
  ∃τ',TM.le τ τ'∧Rep prog w τ' (.ref a) d∧Rel prog w s0 env l nt wr τ' av (st.set i (.val d)) s:=by
 have ne: ∀{b:Addr} {t':Tag},τ b=t'→t'≠ .own i→b≠a:=fun e n q=>n (by rw [←e,q,ht])
 have keep: ∀{b:Addr} {t':Tag},τ b=t'→t'≠ .own i→aL τ a (.frz o) b=t':=fun e n=>(az _ _ (ne e n)).trans e
 have le:TM.le τ (aL τ a (.frz o)):=by
  exact ⟨fun b o e=>keep e (by simp),fun b o e=>keep e (by simp),fun b o e=>keep e (by simp),fun b e=>keep e (by simp),fun b i e=>keep e (by simp)⟩
 have hsys:=R.notSys hs (a:=a) (fun o=>by rw [ht];simp)
 have hrep:Rep prog w (aL τ a (.frz o)) (.ref a) d:=Rep.ofCont (ax ..) (hc.mono le) hsys
 refine ⟨_,le,hrep,?_⟩
 have R1:=R.drop i
 have hn:(st.clear i).get i=none:=by rw [St.get_clear,if_pos rfl]
 have R2:Rel prog w s0 env l nt wr (aL τ a (.frz o)) av (st.clear i) s:=by
  refine {rest:=R1.rest,base:=fun b o e=>le.frz _ _ (R1.base b o e),ex:=fun b h=>?_,obj:=fun b o' h=>?_,itO:=fun b o' h=>?_,kind:=R1.kind,glb:=R1.glb,ns:=R1.ns,loc:=keep R1.loc (by simp),wrk:=fun x hx=>?_,celT:=fun x c h h'=>?_,vars:=fun j y sl h1 h2 h3=>?_,g:=?_,frs:=fun e he=>?_,len:=R1.len,ntd:=R1.ntd}
  ·by_cases q:b=a
   ·subst q;exact ⟨o,ho⟩
   ·rw [az _ _ q] at h;exact R1.ex b h
  ·by_cases q:b=a
   ·subst q
    rw [ax] at h
    rcases h with h | h
    ·cases h;exact ho
    ·cases h
   ·rw [az _ _ q] at h;exact R1.obj b o' h
  ·by_cases q:b=a
   ·subst q;rw [ax] at h;cases h
   ·rw [az _ _ q] at h;exact R1.itO b o' h
  ·exact (R1.wrk x hx).imp id fun ⟨y,c,v,e,f,g⟩=>⟨y,c,v,e,f,keep g (by simp)⟩
  ·exact (R1.celT x c h h').imp (fun e=>keep e (by simp)) fun ⟨o,e⟩=>⟨o,keep e (by simp)⟩
  ·refine x13 (R1.vars j y sl h1 h2 h3) fun v e1 e2 e3=>?_
   refine ⟨v,e1,e2,e3.tag le fun a' e=>keep e fun z=>?_⟩
   injection z with z1
   rw [z1,hn] at h2;cases h2
  ·refine R1.g.tag le.sub (fun b h=>az _ _ fun q=>?_) fun b h=>az _ _ fun q=>?_
   ·rw [q,ht] at h;cases h
   ·rw [q,ax] at h;cases h
  ·obtain ⟨a1,L,a2,a3⟩:=R1.frs e he
   exact ⟨a1,L,a2,a3.imp id fun ⟨o,q1,q2⟩=>⟨o,keep q1 (by simp),q2⟩⟩
 refine x13 (R.vars i x _ hx hg hv) fun v e1 e2 _=>?_
 rw [ha] at e1;cases e1
 have R3:=R2.put (sl:=.val d) hx ha e2 hrep
 rw [St.set_clear] at R3
 exact R3
theorem cH {x:Str}{pos:Pos}{i:Nat}(hx:nt[i]? =some x)(hv:bN (ns.lookup x)=true)(h1:(x==("__debug__":Str))=false)(h2:(x==("__classdict__":Str))=false)(hs: ∃o,s0.heap.get? sysModules=some o):
  SE prog w s0 ft m nt ns (.Name x pos) (.fz i):=by
 refine ⟨?_⟩
 intro env l wr A av τ st s Q Er hE hC R h
 have h:RP (match st.get i with
  | some (.val d)=>Res.ok (d,st)
  | some (.own d)=>.ok (d,st.set i (.val d))
  | _=>.bad) _ _:=h
 cases hg:st.get i with
 | none=>rw [hg] at h;exact h.elim
 | some sl=>
  refine x13 (R.vars i x _ hx hg (hE.vis hv)) fun v hav hh hsl=>?_
  rw [hg] at h
  cases sl with
  | val d=>exact aM R.kind hh (h v τ s (TM.le.refl _) hsl R) h1 h2
  | own d=>
   refine aM R.kind hh ?_ h1 h2
   obtain ⟨a,o,rfl,ht,ho,hc⟩:=hsl
   refine x13 (R.freeze hx hg (hE.vis hv) hs hav ht ho hc) fun τ' le rp R'=>?_
   exact h _ τ' s le rp R'
  | lent d=>exact h.elim
end
section
variable {prog:Program}{w:World}{s0:Shared}{ft:FT}{m:Nat}{nt:List Str}{ns:List (Str×NameKind)}
theorem bA {k:Nat}{pos:Pos}:SE prog w s0 ft m nt ns (.Constant .none k pos) (.cst .none):=by
 refine ⟨?_⟩
 intro env l wr A av τ st s Q Er hE hC R h
 exact wpAny_Constant_none (h _ τ s (TM.le.refl _) .none R)
theorem cf {b:Bool}{k:Nat}{pos:Pos}:SE prog w s0 ft m nt ns (.Constant (.bool b) k pos) (.cst (.bool b)):=by
 refine ⟨?_⟩
 intro env l wr A av τ st s Q Er hE hC R h
 exact wpAny_Constant_bool (h _ τ s (TM.le.refl _) (.bool b) R)
theorem aj {i:Int}{k:Nat}{pos:Pos}:SE prog w s0 ft m nt ns (.Constant (.int i) k pos) (.cst (.int i)):=by
 refine ⟨?_⟩
 intro env l wr A av τ st s Q Er hE hC R h
 exact wpAny_Constant_int (h _ τ _ (TM.le.refl _) (.int i _) (R.toks _))
theorem al {x:Str}{k:Nat}{pos:Pos}:SE prog w s0 ft m nt ns (.Constant (.str x) k pos) (.cst (.str x)):=by
 refine ⟨?_⟩
 intro env l wr A av τ st s Q Er hE hC R h
 exact Calls.Constant_str (h _ τ _ (TM.le.refl _) (.str x _) (R.toks _))
theorem eC {i:Int}{k:Nat}{p pos:Pos}:SE prog w s0 ft m nt ns (.UnaryOp .USub (.Constant (.int i) k p) pos) (.cst (.int (-i))):=by
 refine ⟨?_⟩
 intro env l wr A av τ st s Q Er hE hC R h
 exact wpAny_UnaryOp (wpAny_Constant_int (PyProof.Rows.neg_int (h _ τ _ (TM.le.refl _) (.int (-i) _) ((R.toks _).toks _))))
theorem se_op {l r:PySem.Expr}{L R:E}{o:PySem.Operator}{op:Op}{pos:Pos}(hl:SE prog w s0 ft m nt ns l L)(hr:SE prog w s0 ft m nt ns r R)
  (ho: ∀{env:Env} {lf:List Env} {wr:Str→Bool} {A:Around} {av:Nat→Option Value} {τ:TM} {st:St} {s:Shared} {Q Er:Value→Shared→Prop} {va vb:Value} {a b d:D},Cx A lf (m + 1)→Rel prog w s0 env lf nt wr τ av st s→
   Rep prog w τ va a→Rep prog w τ vb b→opD op a b=some d→OkP prog w s0 nt env lf wr av τ Q (d,st)→wpAny (model prog w) A (binaryOp o va vb) Q Er s):SE prog w s0 ft m nt ns (.BinOp l o r pos) (.op op L R):=by
 refine ⟨?_⟩
 intro env lf wr A av τ st s Q Er hE hC R0 h
 refine wpAny_BinOp (hl.seqP hE hC R0 h fun p va τ1 s1 le1 ra R1 h1=>?_)
 refine hr.seqP hE hC R1 h1 fun q vb τ2 s2 le2 rb R2 h2=>?_
 refine x12 h2.ofOpt fun d hd h3=>?_
 exact ho hC R2 (ra.mono le2) rb hd h3
theorem ic {l r:PySem.Expr}{L R:E}{o:PySem.CmpOp}{op:Op}{pos:Pos}(hl:SE prog w s0 ft m nt ns l L)(hr:SE prog w s0 ft m nt ns r R)(hm:behindInMarks o r=false)
  (ho: ∀{env:Env} {lf:List Env} {wr:Str→Bool} {A:Around} {av:Nat→Option Value} {τ:TM} {st:St} {s:Shared} {Q Er:Value→Shared→Prop} {va vb:Value} {a b d:D},Cx A lf (m + 1)→Rel prog w s0 env lf nt wr τ av st s→
   Rep prog w τ va a→Rep prog w τ vb b→opD op a b=some d→OkP prog w s0 nt env lf wr av τ Q (d,st)→wpAny (model prog w) A (compareOp o va vb) Q Er s):SE prog w s0 ft m nt ns (.Compare l [o] [r] pos) (.op op L R):=by
 refine ⟨?_⟩
 intro env lf wr A av τ st s Q Er hE hC R0 h
 refine wpAny_Compare1 (hl.seqP hE hC R0 h fun p va τ1 s1 le1 ra R1 h1=>?_) hm
 refine hr.seqP hE hC R1 h1 fun q vb τ2 s2 le2 rb R2 h2=>?_
 refine x12 h2.ofOpt fun d hd h3=>?_
 exact ho hC R2 (ra.mono le2) rb hd h3
theorem cmpEq_ok {op:Op}{o:CmpOp}(hop:(op=.eq∧o=.Eq)∨(op=.ne∧o=.NotEq)){env:Env}{lf:List Env}{wr:Str→Bool}{A:Around}{av:Nat→Option Value}{τ:TM}{st:St}{s:Shared}{Q Er:Value→Shared→Prop}{va vb:Value}{a b d:D}(hC:Cx A lf (m + 1))(R:Rel prog w s0 env lf nt wr τ av st s)
  (ra:Rep prog w τ va a) (rb:Rep prog w τ vb b) (hd:opD op a b=some d) (h:OkP prog w s0 nt env lf wr av τ Q (d,st)):wpAny (model prog w) A (compareOp o va vb) Q Er s:=by
 rcases hop with ⟨rfl,rfl⟩ | ⟨rfl,rfl⟩
 ·have hd':(eqD a b).map D.bool=some d:=by cases a <;> exact hd
  cases he:eqD a b with
  | none=>rw [he] at hd';cases hd'
  | some r=>rw [he] at hd';cases hd';exact cmp_eq R.hB (.inl ra) rb he hC.u (h _ τ s (TM.le.refl _) (.bool r) R)
 ·have hd':(eqD a b).map (fun x=>D.bool !x)=some d:=by cases a <;> exact hd
  cases he:eqD a b with
  | none=>rw [he] at hd';cases hd'
  | some r=>rw [he] at hd';cases hd';exact cmp_ne R.hB (.inl ra) rb he hC.u (h _ τ s (TM.le.refl _) (.bool !r) R)
theorem ei {o:CmpOp}(h1:(o== .In)=false)(h2:(o== .NotIn)=false)(e:PySem.Expr):behindInMarks o e=false:=by
 cases e <;> first | rfl | (show (_==_&&(o== .In||o== .NotIn)&&_)=false;rw [h1,h2,Bool.or_self,Bool.and_false];rfl)
theorem ba {l r:PySem.Expr}{L R:E}{pos:Pos}(hl:SE prog w s0 ft m nt ns l L)(hr:SE prog w s0 ft m nt ns r R):SE prog w s0 ft m nt ns (.Compare l [.Eq] [r] pos) (.op .eq L R):=ic hl hr (ei (by decide) (by decide) r) (cmpEq_ok (.inl ⟨rfl,rfl⟩))
theorem bj {l r:PySem.Expr}{L R:E}{pos:Pos}(hl:SE prog w s0 ft m nt ns l L)(hr:SE prog w s0 ft m nt ns r R):SE prog w s0 ft m nt ns (.Compare l [.NotEq] [r] pos) (.op .ne L R):=ic hl hr (ei (by decide) (by decide) r) (cmpEq_ok (.inr ⟨rfl,rfl⟩))
theorem se_lt {l r:PySem.Expr}{L R:E}{pos:Pos}(hl:SE prog w s0 ft m nt ns l L)(hr:SE prog w s0 ft m nt ns r R):SE prog w s0 ft m nt ns (.Compare l [.Lt] [r] pos) (.op .lt L R):=ic hl hr (ei (by decide) (by decide) r) (by
 intro env lf wr A av τ st s Q Er va vb a b d hC R ra rb hd h
 obtain ⟨i,j,t,u,rfl,rfl,hf⟩:=fM ra rb hd
 cases hf
 exact PyProof.Rows.lt_int (h _ τ s (TM.le.refl _) (.bool _) R))
theorem se_gt {l r:PySem.Expr}{L R:E}{pos:Pos}(hl:SE prog w s0 ft m nt ns l L)(hr:SE prog w s0 ft m nt ns r R):SE prog w s0 ft m nt ns (.Compare l [.Gt] [r] pos) (.op .gt L R):=ic hl hr (ei (by decide) (by decide) r) (by
 intro env lf wr A av τ st s Q Er va vb a b d hC R ra rb hd h
 obtain ⟨i,j,t,u,rfl,rfl,hf⟩:=fM ra rb hd
 cases hf
 exact PyProof.Rows.gt_int (h _ τ s (TM.le.refl _) (.bool _) R))
theorem se_ge {l r:PySem.Expr}{L R:E}{pos:Pos}(hl:SE prog w s0 ft m nt ns l L)(hr:SE prog w s0 ft m nt ns r R):SE prog w s0 ft m nt ns (.Compare l [.GtE] [r] pos) (.op .ge L R):=ic hl hr (ei (by decide) (by decide) r) (by
 intro env lf wr A av τ st s Q Er va vb a b d hC R ra rb hd h
 obtain ⟨i,j,t,u,rfl,rfl,hf⟩:=fM ra rb hd
 cases hf
 exact PyProof.Rows.ge_int (h _ τ s (TM.le.refl _) (.bool _) R))
theorem small_iff {i:Int}:bl i=true↔ -(2 ^ 62) < i∧i < 2 ^ 62:=by simp [bl]
theorem log2_small {a:Int}(h: -(2 ^ 62) < a∧a < 2 ^ 62):a.natAbs.log2 < 62:=by
 by_cases h0:a.natAbs=0
 ·rw [h0];decide
 ·exact (Nat.log2_lt h0).mpr (by omega)
theorem bG {l r:PySem.Expr}{L R:E}{pos:Pos}(hl:SE prog w s0 ft m nt ns l L)(hr:SE prog w s0 ft m nt ns r R):SE prog w s0 ft m nt ns (.BinOp l .Add r pos) (.op .add L R):=se_op hl hr (by
 intro env lf wr A av τ st s Q Er va vb a b d hC R ra rb hd h
 rcases addD_inv hd with ⟨i,j,e1,e2,rfl⟩ | ⟨x,y,e1,e2,hz,rfl⟩ | ⟨x,y,e1,e2,hz,rfl⟩
 ·rw [e1] at ra;rw [e2] at rb
  obtain ⟨t,rfl⟩:=ra.int_inv
  obtain ⟨u,rfl⟩:=rb.int_inv
  exact PyProof.Rows.add_int (h _ τ _ (TM.le.refl _) (.int _ _) (R.toks _))
 ·rw [e1] at ra;rw [e2] at rb
  obtain ⟨t,rfl⟩:=ra.str_inv
  obtain ⟨u,rfl⟩:=rb.str_inv
  exact PyProof.Rows.add_str (hsz:=by rw [sizeLine_eq];exact lec ‹_› (by rfl)) fun t' tk=>h _ τ _ (TM.le.refl _) (.str _ _) (R.toks _)
 ·rw [e1] at ra;rw [e2] at rb
  obtain ⟨la,oa,vs,rfl,a1,⟨na,rfl⟩,a3⟩:=ra.lst_inv
  obtain ⟨lb,ob,us,rfl,b1,⟨nb,rfl⟩,b3⟩:=rb.lst_inv
  have ho:=R.hB _ _ a1
  have ho2:=R.hB _ _ b1
  have l1:=a3.length
  have l2:=b3.length
  refine concat_meets ⟨_,ho,rfl⟩ ⟨_,ho2,rfl⟩ noFill_list_add seq_list_add PySem.F.slot_list_add PySem.F.entry_list_add (PySem.F.args_list_add_2 _ _) (list_addW la lb vs.toArray us.toArray na nb none none #[] #[] (by simp only [List.size_toArray];rw [sizeLine_eq];exact nl [_,_,_,_] [(N0,N1),(N2,N3),(.a N3 N1,.n 1000)] (.a N2 N0) (.n 16777216) rfl (Nat.le_of_eq l2) (Nat.le_of_eq l1) hz)) ⟨ho,ho2,?_⟩
  rw [List.append_toArray]
  refine x02 (R.alloc (o:={cls:=.type "list",data:=.seq (vs++us).toArray}) rfl (.inl rfl)) fun R' le=>?_
  exact h _ _ _ le (.lst (ax ..) ⟨_,rfl⟩ ((a3.append b3).mono le)) R')
theorem se_sub {l r:PySem.Expr}{L R:E}{pos:Pos}(hl:SE prog w s0 ft m nt ns l L)(hr:SE prog w s0 ft m nt ns r R):SE prog w s0 ft m nt ns (.BinOp l .Sub r pos) (.op .sub L R):=se_op hl hr (by
 intro env lf wr A av τ st s Q Er va vb a b d hC R ra rb hd h
 obtain ⟨i,j,t,u,rfl,rfl,hf⟩:=fM ra rb hd
 cases hf
 exact PyProof.Rows.sub_int (h _ τ _ (TM.le.refl _) (.int _ _) (R.toks _)))
theorem gf (xs:Array Value): ∀(n:Nat) (acc:Array Value),List.foldl (fun x1 x2=>x1++x2) acc (List.replicate n xs)=acc++(List.replicate n xs.toList).flatten.toArray
 | 0,acc=>by simp
 | n + 1,acc=>by
  rw [List.replicate_succ,List.foldl_cons,gf xs n,List.replicate_succ,List.flatten_cons]
  apply Array.ext'
  simp
theorem RepL.flat {τ:TM}{vs:List Value}{ds:List D}(h:RepL prog w τ vs ds): ∀n:Nat,RepL prog w τ (List.replicate n vs).flatten (List.replicate n ds).flatten
 | 0=>.nil
 | n + 1=>by rw [List.replicate_succ,List.replicate_succ,List.flatten_cons,List.flatten_cons];exact h.append (RepL.flat h n)
theorem se_mul {l r:PySem.Expr}{L R:E}{pos:Pos}(hl:SE prog w s0 ft m nt ns l L)(hr:SE prog w s0 ft m nt ns r R):SE prog w s0 ft m nt ns (.BinOp l .Mult r pos) (.op .mul L R):=se_op hl hr (by
 intro env lf wr A av τ st s Q Er va vb a b d hC R ra rb hd h
 rcases mulD_inv hd with ⟨i,j,e1,e2,hz,rfl⟩ | ⟨ds,x,e1,e2,hz,rfl⟩
 ·rw [e1] at ra;rw [e2] at rb
  obtain ⟨t,rfl⟩:=ra.int_inv
  obtain ⟨u,rfl⟩:=rb.int_inv
  simp only [Bool.and_eq_true] at hz
  have q:=small_iff.mp hz.1
  exact PyProof.Rows.mul_int (hm:=IntMulOk.of_left (intBits_le_64 (by exact ni [_] [(.s (.n (-4611686018427387904)),Z0)] (.s (.n (-18446744073709551616))) Z0 rfl q.1) (by exact ni [_] [(.s Z0,.n 4611686018427387904)] (.s Z0) (.n 18446744073709551616) rfl q.2))) (h _ τ _ (TM.le.refl _) (.int _ _) (R.toks _))
 ·rw [e1] at ra;rw [e2] at rb
  obtain ⟨la,oa,vs,rfl,a1,⟨na,rfl⟩,a3⟩:=ra.lst_inv
  obtain ⟨u,rfl⟩:=rb.int_inv
  simp only [Bool.and_eq_true,decide_eq_true_eq] at hz
  have ho:=R.hB _ _ a1
  have l1:=a3.length
  have hm:vs.length * x.toNat≤100 * 100:=Nat.mul_le_mul (by exact nl [_,_] [(N0,N1),(N1,.n 100)] N0 (.n 100) rfl (Nat.le_of_eq l1) hz.1.1) (by exact Int.toNat_le.2 (ni [_] [(Z0,.n 100)] Z0 (.n 100) rfl hz.2))
  refine wpAny_binaryOp_repeat_ref (T:="list") (U:="int") (by decide) ⟨_,ho,rfl⟩ (fun s'=>typeIs_int s' x u) noFill_list_mul F.fills_int_mul F.slot_int_rmul repeat_list F.slot_int_index.lookup
   (call_meets F.slot_int_rmul (typeIs_int s x u) F.entry_int_rmul (F.args_int_rmul_2 _ _) (int___rmul___int_list x u la vs.toArray na)
    ⟨ho,rfl,⟨_,ho,rfl⟩,call_meets F.slot_list_mul ⟨_,ho,rfl⟩ F.entry_list_mul (F.args_list_mul_2 _ _)
     (AutoListH.list___mul___list_int_3 la vs.toArray na x u (by simp [Builtin.List.listFitsIndex];exact ⟨ni [_] [(.n 0,Z0)] (.n (-9223372036854775808)) Z0 rfl hz.1.2,ni [_] [(Z0,.n 100)] (.s Z0) (.n 9223372036854775808) rfl hz.2⟩) (by simp only [List.size_toArray];exact fun e=>nf [_] [(.n 1152921504606846976,N0),(N0,.n 10000)] rfl e hm) (by simp only [List.size_toArray];simp [Builtin.List.listTooLong,sizeLine];exact lec ‹_› (by rfl)))
     ⟨ho,?_⟩⟩)
  rw [gf]
  have hn:RepL prog w τ (#[]++(List.replicate (if vs.toArray.isEmpty=true then 0 else x.toNat) vs.toArray.toList).flatten.toArray).toList (List.replicate x.toNat ds).flatten:=by
   have e:(#[]++(List.replicate (if vs.toArray.isEmpty=true then 0 else x.toNat) vs.toArray.toList).flatten.toArray).toList=(List.replicate x.toNat vs).flatten:=by
    cases vs with
    | nil=>simp
    | cons v r=>simp
   rw [e]
   exact a3.flat x.toNat
  refine x02 (R.alloc (o:={cls:=.type "list",data:=.seq (#[]++(List.replicate (if vs.toArray.isEmpty=true then 0 else x.toNat) vs.toArray.toList).flatten.toArray)}) rfl (.inl rfl)) fun R' le=>?_
  have hr:Rep prog w _ (.ref s.heap.objs.size) _:=Rep.lst (ax τ s.heap.objs.size _) ⟨0,by rw [Array.toArray_toList]⟩ (hn.mono le)
  exact h _ _ _ le hr R')
end
section
variable {prog:Program}{w:World}{s0:Shared}{ft:FT}{m:Nat}{nt:List Str}{ns:List (Str×NameKind)}
theorem se_fdiv {l r:PySem.Expr}{L R:E}{pos:Pos}(hl:SE prog w s0 ft m nt ns l L)(hr:SE prog w s0 ft m nt ns r R):SE prog w s0 ft m nt ns (.BinOp l .FloorDiv r pos) (.op .fdiv L R):=se_op hl hr (by
 intro env lf wr A av τ st s Q Er va vb a b d hC R ra rb hd h
 obtain ⟨i,j,t,u,rfl,rfl,hf⟩:=fM ra rb hd
 obtain ⟨hz,rfl⟩:=dH hf
 simp only [Bool.and_eq_true,decide_eq_true_eq] at hz
 exact PyProof.Rows.floordiv_int (Int.ne_of_gt hz.1) (h _ τ _ (TM.le.refl _) (.int _ _) (R.toks _)) (.inl (PyProof.noPylong_small (by omega))))
theorem se_mod {l r:PySem.Expr}{L R:E}{pos:Pos}(hl:SE prog w s0 ft m nt ns l L)(hr:SE prog w s0 ft m nt ns r R):SE prog w s0 ft m nt ns (.BinOp l .Mod r pos) (.op .mod L R):=se_op hl hr (by
 intro env lf wr A av τ st s Q Er va vb a b d hC R ra rb hd h
 obtain ⟨i,j,t,u,rfl,rfl,hf⟩:=fM ra rb hd
 obtain ⟨hz,rfl⟩:=dH hf
 simp only [Bool.and_eq_true,decide_eq_true_eq] at hz
 exact PyProof.Rows.mod_int (Int.ne_of_gt hz.1) (h _ τ _ (TM.le.refl _) (.int _ _) (R.toks _)))
theorem fR {e:PySem.Expr}{X:E}{k:Nat}{p pos:Pos}(he:SE prog w s0 ft m nt ns e X):SE prog w s0 ft m nt ns (.Compare e [.Is] [.Constant .none k p] pos) (.isN X):=by
 refine ⟨?_⟩
 intro env l wr A av τ st s Q Er hE hC R h
 exact wpAny_Compare1 (he.seqP hE hC R h fun p v τ1 s1 le1 rv R1 h1=>wpAny_Constant_none (is_none_gen (by rw [rv.isNone];exact h1 _ τ1 s1 (TM.le.refl _) (.bool _) R1))) rfl
theorem se_isNN {e:PySem.Expr}{X:E}{k:Nat}{p pos:Pos}(he:SE prog w s0 ft m nt ns e X):SE prog w s0 ft m nt ns (.Compare e [.IsNot] [.Constant .none k p] pos) (.isNN X):=by
 refine ⟨?_⟩
 intro env l wr A av τ st s Q Er hE hC R h
 exact wpAny_Compare1 (he.seqP hE hC R h fun p v τ1 s1 le1 rv R1 h1=>wpAny_Constant_none (isnot_none_gen (by rw [rv.isNone];exact h1 _ τ1 s1 (TM.le.refl _) (.bool _) R1))) rfl
theorem ak:SL prog w s0 ft m nt ns [] []:=by
 refine ⟨?_⟩
 intro env l wr A av τ st s Q Er pos hE hC R h
 exact PyProof.Rows.spliced_none (h _ τ s (TM.le.refl _) .nil R)
theorem ac {e:PySem.Expr}{X:E}{es:List PySem.Expr}{Xs:List E}(h1:SE prog w s0 ft m nt ns e X)(h2:SL prog w s0 ft m nt ns es Xs)(he: ∀env,starEach (e::es) env=(false,eval e env)::starEach es env):SL prog w s0 ft m nt ns (e::es) (X::Xs):=by
 refine ⟨?_⟩
 intro env l wr A av τ st s Q Er pos hE hC R h
 refine PyProof.Rows.spliced_more (h1.seqL hE hC R h fun p v τ1 s1 le1 rv R1 hp=>?_) (he env)
 refine h2.run hE hC R1 (hp.bind.mono (fun q hq vs τ2 s2 le2 rvs R2=>?_) fun _ f=>f)
 exact hq (v::vs) τ2 s2 le2 (.cons (rv.mono le2) rvs) R2
theorem aC {es:List PySem.Expr}{Xs:List E}{k:Nat}{pos:Pos}(h1:SL prog w s0 ft m nt ns es Xs):SE prog w s0 ft m nt ns (.Tuple es k pos) (.tup Xs):=by
 refine ⟨?_⟩
 intro env l wr A av τ st s Q Er hE hC R h
 refine PyProof.Rows.Tuple_ (h1.run hE hC R (h.bind.mono (fun p hp vs τ1 s1 le1 rvs R1=>?_) fun _ f=>f))
 split at hp
 ·rename_i hz
  have hlen:=rvs.length
  refine wpAny_newObj_type ?_ (by show vs.toArray.size≤sizeLine;rw [List.size_toArray,sizeLine_eq];exact nl [_,_] [(N0,N1),(N1,.n 1000)] N0 (.n 16777216) rfl (Nat.le_of_eq hlen) hz)
  refine x02 (R1.alloc (o:={cls:=.type "tuple",data:=.seq vs.toArray}) rfl (.inl rfl)) fun R' le=>?_
  exact hp _ _ _ (le1.trans le) (.tup (ax ..) ⟨_,rfl⟩ (rvs.mono le)) R'
 ·exact hp.elim
theorem bq {es:List PySem.Expr}{Xs:List E}{pos:Pos}(h1:SL prog w s0 ft m nt ns es Xs):SE prog w s0 ft m nt ns (.List es pos) (.lst Xs):=by
 refine ⟨?_⟩
 intro env l wr A av τ st s Q Er hE hC R h
 refine PyProof.Rows.List_ (h1.run hE hC R (h.bind.mono (fun p hp vs τ1 s1 le1 rvs R1=>?_) fun _ f=>f))
 split at hp
 ·rename_i hz
  have hlen:=rvs.length
  refine wpAny_newObj_type ?_ (by show vs.toArray.size≤sizeLine;rw [List.size_toArray,sizeLine_eq];exact nl [_,_] [(N0,N1),(N1,.n 1000)] N0 (.n 16777216) rfl (Nat.le_of_eq hlen) hz)
  refine x02 (R1.alloc (o:={cls:=.type "list",data:=.seq vs.toArray}) rfl (.inl rfl)) fun R' le=>?_
  exact hp _ _ _ (le1.trans le) (.lst (ax ..) ⟨_,rfl⟩ (rvs.mono le)) R'
 ·exact hp.elim
theorem js {τ:TM}{v:Value}{d:D}{b:Bool}(r:Rep prog w τ v d)(h:bY d=some b):d=.bool b∧v=.bool b:=by
 have e:d=.bool b:=by cases d <;> first | exact nob h | exact congrArg _ (Option.some.inj h)
 rw [e] at r
 exact ⟨e,r.bool_inv⟩
theorem sb_of {e:PySem.Expr}{X:E}(he:SE prog w s0 ft m nt ns e X)(hw: ∀{M:Model} {A:Around} {env:Env} {Q:Bool→Shared→Prop} {Er:Value→Shared→Prop} {s:Shared},
  wpAny M A (eval e env) (fun v s1=>wpAny M A (truthy v) Q Er s1) Er s→wpAny M A (isTrue e env (eval e env)) Q Er s):SB prog w s0 ft m nt ns e X:=by
 refine ⟨?_⟩
 intro env l wr A av τ st s Q Er hE hC R h
 refine hw (he.seqB hE hC R h fun p v τ1 s1 le1 rv R1 hp=>?_)
 refine x12 hp.ofOpt fun b hb hq=>?_
 refine x02 (js rv hb) fun e1 e2=>?_
 rw [e2]
 exact wpAny_truthy_bool (hq b τ1 s1 rfl (TM.le.refl _) R1)
theorem isTrue_cmp {l r:PySem.Expr}{o:CmpOp}{pos:Pos}{M:Model}{A:Around}{env:Env}{Q:Bool→Shared→Prop}{Er:Value→Shared→Prop}{s:Shared}
  (h:wpAny M A (eval (.Compare l [o] [r] pos) env) (fun v s1=>wpAny M A (truthy v) Q Er s1) Er s):wpAny M A (isTrue (.Compare l [o] [r] pos) env (eval (.Compare l [o] [r] pos) env)) Q Er s:=by
 have e:isTrue (.Compare l [o] [r] pos) env (eval (.Compare l [o] [r] pos) env)=(eval (.Compare l [o] [r] pos) env >>= fun c=>holding [c] (truthy c)):=by
  rw [isTrue_Compare1,eval_Compare1]
  simp only [bind_assoc]
 rw [e]
 exact wpAny_bind (wpAny_mono h (fun _ _ x=>wpAny_holding x) fun _ _ x=>x)
theorem aw {l r:PySem.Expr}{o:CmpOp}{pos:Pos}{X:E}(he:SE prog w s0 ft m nt ns (.Compare l [o] [r] pos) X):SB prog w s0 ft m nt ns (.Compare l [o] [r] pos) X:=sb_of he isTrue_cmp
theorem sb_plain {e:PySem.Expr}{X:E}(he:SE prog w s0 ft m nt ns e X)(hp: ∀env whole,isTrue e env whole=(do let v ←whole;standAt e.pos;holding [v] (truthy v))):SB prog w s0 ft m nt ns e X:=
 sb_of he fun h=>PyProof.Rows.isTrue_plain h (hp _ _)
theorem cO {c a b:PySem.Expr}{C X Y:E}{pos:Pos}(hc:SB prog w s0 ft m nt ns c C)(ha:SE prog w s0 ft m nt ns a X)(hb:SE prog w s0 ft m nt ns b Y):SE prog w s0 ft m nt ns (.IfExp c a b pos) (.ite C X Y):=by
 refine ⟨?_⟩
 intro env l wr A av τ st s Q Er hE hC R h
 refine wpAny_IfExp (hc.run hE hC R ?_)
 have h':RP ((ev ft C st).bind fun p=>(Res.ofOpt (bY p.1)).bind fun t=>(match t with | true=>ev ft X p.2 | false=>ev ft Y p.2)) (OkP prog w s0 nt env l wr av τ Q) (FlP w s0 l τ Er):=h
 revert h'
 cases ev ft C st with
 | bad=>intro h;exact h
 | flt n=>intro h;exact h
 | ok p=>
  intro h
  refine x12 (RP.ofOpt h) fun b hb' h1=>?_
  show RP ((Res.ofOpt (bY p.1)).bind fun b=>Res.ok (D.bool b,p.2)) _ _
  rw [hb']
  intro b' τ1 s1 e1 le1 R1
  cases e1
  cases b with
  | true=>exact ha.run hE hC R1 (RP.mono h1 (fun _ q=>OkP.le le1 q) fun _=>FlP.le le1)
  | false=>exact hb.run hE hC R1 (RP.mono h1 (fun _ q=>OkP.le le1 q) fun _=>FlP.le le1)
structure SA (op:PySem.BoolOp)(ns:List (Str×NameKind))(es:List PySem.Expr)(Xs:List E):Prop where
 run: ∀{env:Env} {l:List Env} {wr:Str→Bool} {A:Around} {av:Nat→Option Value} {τ:TM} {st:St} {s:Shared} {Q:Bool→Shared→Prop} {Er:Value→Shared→Prop} {pos:Pos} {whole:Sem Value},
  EnvNs env ns→Cx A l (m + 1)→Rel prog w s0 env l nt wr τ av st s→RP (match op with | .And=>br ft Xs st | .Or=>dm ft Xs st) (OkB prog w s0 nt env l wr av τ Q) (FlP w s0 l τ Er)→
  wpAny (model prog w) A (isTrue (.BoolOp op es pos) env whole) Q Er s
theorem fx:SA (prog:=prog) (w:=w) (s0:=s0) (ft:=ft) (m:=m) (nt:=nt) .And ns [] []:=⟨fun _ _ R h=>PyProof.Rows.isTrue_and_nil (h true _ _ rfl (TM.le.refl _) R)⟩
theorem bW:SA (prog:=prog) (w:=w) (s0:=s0) (ft:=ft) (m:=m) (nt:=nt) .Or ns [] []:=⟨fun _ _ R h=>PyProof.Rows.isTrue_or_nil (h false _ _ rfl (TM.le.refl _) R)⟩
theorem SB.split {e:PySem.Expr}{X:E}(h1:SB prog w s0 ft m nt ns e X){env:Env}{l:List Env}{wr:Str→Bool}{A:Around}{av:Nat→Option Value}{τ:TM}{st:St}{s:Shared}{k:Bool→St→Res (D×St)}{Q Q':Bool→Shared→Prop}{Er:Value→Shared→Prop}
  (hE:EnvNs env ns) (hC:Cx A l (m + 1)) (R:Rel prog w s0 env l nt wr τ av st s) (h:RP ((ev ft X st).bind fun p=>(Res.ofOpt (bY p.1)).bind fun t=>k t p.2) (OkB prog w s0 nt env l wr av τ Q) (FlP w s0 l τ Er))
  (c: ∀b st' τ1 s1,TM.le τ τ1→Rel prog w s0 env l nt wr τ1 av st' s1→RP (k b st') (OkB prog w s0 nt env l wr av τ1 Q) (FlP w s0 l τ1 Er)→Q' b s1):wpAny (model prog w) A (isTrue e env (eval e env)) Q' Er s:=by
 refine h1.run hE hC R ?_
 revert h
 cases ev ft X st with
 | bad=>intro h;exact h
 | flt n=>intro h;exact h
 | ok p=>
  intro h
  refine x12 (RP.ofOpt h) fun b hb' h1=>?_
  show RP ((Res.ofOpt (bY p.1)).bind fun b=>Res.ok (D.bool b,p.2)) _ _
  rw [hb']
  intro b' τ1 s1 e1 le1 R1
  cases e1
  exact c b p.2 τ1 s1 le1 R1 (RP.mono h1 (fun _ q=>OkB.le le1 q) fun _=>FlP.le le1)
theorem fq {e:PySem.Expr}{X:E}{es:List PySem.Expr}{Xs:List E}(h1:SB prog w s0 ft m nt ns e X)(h2:SA (prog:=prog) (w:=w) (s0:=s0) (ft:=ft) (m:=m) (nt:=nt) .And ns es Xs):SA (prog:=prog) (w:=w) (s0:=s0) (ft:=ft) (m:=m) (nt:=nt) .And ns (e::es) (X::Xs):=by
 refine ⟨?_⟩
 intro env l wr A av τ st s Q Er pos whole hE hC R h
 refine PyProof.Rows.isTrue_and (h1.split (k:=fun t s=>match t with | true=>br ft Xs s | false=>.ok (.bool false,s)) hE hC R h fun b st' τ1 s1 le1 R1 hp=>?_)
 cases b with
 | true=>exact h2.run hE hC R1 hp
 | false=>exact hp false τ1 s1 rfl (TM.le.refl _) R1
theorem bk {e:PySem.Expr}{X:E}{es:List PySem.Expr}{Xs:List E}(h1:SB prog w s0 ft m nt ns e X)(h2:SA (prog:=prog) (w:=w) (s0:=s0) (ft:=ft) (m:=m) (nt:=nt) .Or ns es Xs):SA (prog:=prog) (w:=w) (s0:=s0) (ft:=ft) (m:=m) (nt:=nt) .Or ns (e::es) (X::Xs):=by
 refine ⟨?_⟩
 intro env l wr A av τ st s Q Er pos whole hE hC R h
 refine PyProof.Rows.isTrue_or (h1.split (k:=fun t s=>match t with | true=>.ok (.bool true,s) | false=>dm ft Xs s) hE hC R h fun b st' τ1 s1 le1 R1 hp=>?_)
 cases b with
 | true=>exact hp true τ1 s1 rfl (TM.le.refl _) R1
 | false=>exact h2.run hE hC R1 hp
theorem evAnd_bool: ∀(Xs:List E) (st:St) (p:D×St),br ft Xs st=.ok p→ ∃b,p.1=.bool b
 | [],st,p,h=>by cases h;exact ⟨true,rfl⟩
 | X::Xs,st,p,h=>by
  have h:((ev ft X st).bind fun q=>(Res.ofOpt (bY q.1)).bind fun t=>match t with | true=>br ft Xs q.2 | false=>.ok (.bool false,q.2))=_:=h
  revert h
  cases ev ft X st with
  | bad=>intro h;cases h
  | flt n=>intro h;cases h
  | ok q=>
   intro h
   have h':(Res.ofOpt (bY q.1)).bind (fun t=>match t with | true=>br ft Xs q.2 | false=>.ok (.bool false,q.2))=.ok p:=h
   cases ht:bY q.1 with
   | none=>rw [ht] at h';cases h'
   | some b=>
    rw [ht] at h'
    cases b with
    | true=>exact evAnd_bool Xs _ _ h'
    | false=>cases h';exact ⟨false,rfl⟩
theorem evOr_bool: ∀(Xs:List E) (st:St) (p:D×St),dm ft Xs st=.ok p→ ∃b,p.1=.bool b
 | [],st,p,h=>by cases h;exact ⟨false,rfl⟩
 | X::Xs,st,p,h=>by
  have h:((ev ft X st).bind fun q=>(Res.ofOpt (bY q.1)).bind fun t=>match t with | true=>.ok (.bool true,q.2) | false=>dm ft Xs q.2)=_:=h
  revert h
  cases ev ft X st with
  | bad=>intro h;cases h
  | flt n=>intro h;cases h
  | ok q=>
   intro h
   have h':(Res.ofOpt (bY q.1)).bind (fun t=>match t with | true=>.ok (.bool true,q.2) | false=>dm ft Xs q.2)=.ok p:=h
   cases ht:bY q.1 with
   | none=>rw [ht] at h';cases h'
   | some b=>
    rw [ht] at h'
    cases b with
    | false=>exact evOr_bool Xs _ _ h'
    | true=>cases h';exact ⟨true,rfl⟩
theorem sb_and {es:List PySem.Expr}{Xs:List E}{pos:Pos}(h1:SA (prog:=prog) (w:=w) (s0:=s0) (ft:=ft) (m:=m) (nt:=nt) .And ns es Xs):SB prog w s0 ft m nt ns (.BoolOp .And es pos) (.and Xs):=by
 refine ⟨?_⟩
 intro env l wr A av τ st s Q Er hE hC R h
 have h:RP ((br ft Xs st).bind fun p=>(Res.ofOpt (bY p.1)).bind fun b=>Res.ok (D.bool b,p.2)) _ _:=h
 refine h1.run hE hC R ?_
 show RP (br ft Xs st) _ _
 cases he:br ft Xs st with
 | bad=>rw [he] at h;exact h
 | flt n=>rw [he] at h;exact h
 | ok p=>
  obtain ⟨b,hb⟩:=evAnd_bool Xs st p he
  obtain ⟨d,st'⟩:=p
  simp only at hb;subst hb
  rw [he] at h
  exact h
theorem dV {es:List PySem.Expr}{Xs:List E}{pos:Pos}(h1:SA (prog:=prog) (w:=w) (s0:=s0) (ft:=ft) (m:=m) (nt:=nt) .Or ns es Xs):SB prog w s0 ft m nt ns (.BoolOp .Or es pos) (.or Xs):=by
 refine ⟨?_⟩
 intro env l wr A av τ st s Q Er hE hC R h
 have h:RP ((dm ft Xs st).bind fun p=>(Res.ofOpt (bY p.1)).bind fun b=>Res.ok (D.bool b,p.2)) _ _:=h
 refine h1.run hE hC R ?_
 show RP (dm ft Xs st) _ _
 cases he:dm ft Xs st with
 | bad=>rw [he] at h;exact h
 | flt n=>rw [he] at h;exact h
 | ok p=>
  obtain ⟨b,hb⟩:=evOr_bool Xs st p he
  obtain ⟨d,st'⟩:=p
  simp only at hb;subst hb
  rw [he] at h
  exact h
theorem se_or2 {a b:PySem.Expr}{X Y:E}{pos:Pos}(ha:SE prog w s0 ft m nt ns a X)(hb:SE prog w s0 ft m nt ns b Y):SE prog w s0 ft m nt ns (.BoolOp .Or [a,b] pos) (.or [X,Y]):=by
 refine ⟨?_⟩
 intro env l wr A av τ st s Q Er hE hC R h
 refine PyProof.Rows.BoolOp_or (ha.seqP hE hC R h fun p v τ1 s1 le1 rv R1 hp=>?_)
 refine x12 hp.ofOpt fun t ht hp=>?_
 refine x02 (js rv ht) fun e1 e2=>?_
 rw [e2]
 refine wpAny_truthy_bool ?_
 cases t with
 | true=>exact hp _ τ1 s1 (TM.le.refl _) (.bool true) R1
 | false=>
  refine PyProof.Rows.BoolOp_one (hb.seqP hE hC R1 hp fun q u τ2 s2 le2 ru R2 hq=>?_)
  refine x12 hq.ofOpt fun t ht hq=>?_
  refine x02 (js ru ht) fun e1 e2=>?_
  rw [e2]
  cases t with
  | false=>exact hq _ τ2 s2 (TM.le.refl _) (.bool false) R2
  | true=>exact hq _ τ2 s2 (TM.le.refl _) (.bool true) R2
end
structure ClsOk (K:Frag):Prop where
 ga1:plainGet K 157 ""=true
 ga2:plainGet K 77 ""=true
 hd1:hasDictIn K 157=true
 hd2:hasDictIn K 77=true
 naming:findIn K (.ref 157) "naming"=some none
 steps:findIn K (.ref 157) "steps"=some none
 inner:findIn K (.ref 157) "inner"=some none
 table:findIn K (.ref 157) "table"=some none
 number:findIn K (.ref 77) "number"=some none
 count:findIn K (.ref 77) "count"=some none
 sa1:findIn K (.ref 157) "__setattr__"=some (some (.builtin "object.__setattr__"))
 sa2:findIn K (.ref 77) "__setattr__"=some (some (.builtin "object.__setattr__"))
 po1:plainOver K 157=true
 po2:plainOver K 77=true
 tk2:takerIn K 77 "count"=some none
 tk3:takerIn K 77 "number"=some none
 tkn:takerIn K 157 "naming"=some none
 tks:takerIn K 157 "steps"=some none
 tki:takerIn K 157 "inner"=some none
 tkt:takerIn K 157 "table"=some none
 mk1:makesIn K 157=true
 mk2:makesIn K 77=true
structure Base (w:World)(s0:Shared)(mg mb:Str→Option Value):Prop where
 g:s0.heap.Ns mainGlobals mg
 b:s0.heap.Ns builtinsNs mb
 sys: ∃o,s0.heap.get? sysModules=some o
 cls: ∃K:Frag,K.In s0.heap∧ClsOk K
 nol:s0.heap.NoLimit
 len:mg "len"=none∧mb "len"=some (.builtin "len")
 range:mg "range"=none∧mb "range"=some (.type "range")
 str:mg "str"=none∧mb "str"=some (.type "str")
 list:mg "list"=none∧mb "list"=some (.type "list")
 enum:mg "enumerate"=none∧mb "enumerate"=some (.type "enumerate")
 heads: ∃t1 t2 t3 t4 n,mg "_law_heads"=some (.ref 224)∧s0.heap.get? 224=some {cls:=.type "tuple",data:=.seq #[.str "\"-\"" t1,.str "\"mod\"" t2,.str "\"-\"" t3,.str "pick" t4] n}
noncomputable def headsD:D:=.tup [.str (so "\"-\""),.str (so "\"mod\""),.str (so "\"-\""),.str (so "pick")]
section
variable {prog:Program}{w:World}{s0:Shared}{ft:FT}{m:Nat}{nt:List Str}{ns:List (Str×NameKind)}{mg mb:Str→Option Value}
theorem Rel.old {env:Env}{l:List Env}{wr:Str→Bool}{av:Nat→Option Value}{τ:TM}{st:St}{s:Shared}(R:Rel prog w s0 env l nt wr τ av st s): ∀b o,s0.heap.get? b=some o→s.heap.get? b=some o:=
 fun b o e=>R.obj b o (.inl (R.base b o e))
theorem d8 {M:Model}{A:Around}{E:Value→Shared→Prop}(HB:Base w s0 mg mb){env:Env}{l:List Env}{wr:Str→Bool}{av:Nat→Option Value}{τ:TM}{st:St}{s:Shared}(R:Rel prog w s0 env l nt wr τ av st s){x:Str}{pos:Pos}{v:Value}{Q:Value→Shared→Prop}
  (hk:env.kindOf x=some .globalImplicit) (hv:mg x=some v) (hQ:Q v s) (hd:(x==("__debug__":Str))=false):wpAny M A (eval (.Name x pos) env) Q E s:=by
 refine Calls.Name_function_global R.kind hk (Calls.loadGlobal_global (mg:=mg) ?_ hv hQ) hd
 rw [R.glb.1];exact HB.g.keeps R.old
theorem dA {M:Model}{A:Around}{E:Value→Shared→Prop}(HB:Base w s0 mg mb){env:Env}{l:List Env}{wr:Str→Bool}{av:Nat→Option Value}{τ:TM}{st:St}{s:Shared}(R:Rel prog w s0 env l nt wr τ av st s){x:Str}{pos:Pos}{v:Value}{Q:Value→Shared→Prop}
  (hk:env.kindOf x=some .globalImplicit) (hv:mg x=none∧mb x=some v) (hQ:Q v s) (hd:(x==("__debug__":Str))=false):wpAny M A (eval (.Name x pos) env) Q E s:=by
 refine Calls.Name_function_global R.kind hk (Calls.loadGlobal_builtin (mg:=mg) (mb:=mb) ?_ hv.1 ?_ hv.2 hQ) hd
 ·rw [R.glb.1];exact HB.g.keeps R.old
 ·rw [R.glb.2];exact HB.b.keeps R.old
theorem EnvNs.glob {env:Env}(h:EnvNs env ns){x:Str}(hx:ns.lookup x=some .globalImplicit):env.kindOf x=some .globalImplicit:=h x _ hx
theorem se_heads (HB:Base w s0 mg mb){pos:Pos}(hx:ns.lookup ("_law_heads":Str)=some .globalImplicit):SE prog w s0 ft m nt ns (.Name ("_law_heads":Str) pos) (.glob (so "_law_heads") headsD):=by
 refine ⟨?_⟩
 intro env l wr A av τ st s Q Er hE hC R h
 refine x52 HB.heads fun t1 t2 t3 t4 n e1 e2=>?_
 refine d8 HB R (hE.glob hx) e1 ?_ (by decide)
 exact h _ τ s (TM.le.refl _) (.tup (vs:=[.str "\"-\"" t1,.str "\"mod\"" t2,.str "\"-\"" t3,.str "pick" t4]) (R.base _ _ e2) ⟨n,rfl⟩ (.cons (.str _ _) (.cons (.str _ _) (.cons (.str _ _) (.cons (.str _ _) .nil))))) R
theorem an {o i:PySem.Expr}{X Y:E}{pos:Pos}(ho:SE prog w s0 ft m nt ns o X)(hi:SE prog w s0 ft m nt ns i Y)(hs: ∀a b,subscripted i false a b=operate [a,b] (getItem a b)):SE prog w s0 ft m nt ns (.Subscript o i pos) (.ix X Y):=by
 refine ⟨?_⟩
 intro env l wr A av τ st s Q Er hE hC R h
 refine PyProof.Rows.Subscript_ (ho.seqP hE hC R h fun p vo τ1 s1 le1 ro R1 hp=>hi.seqP hE hC R1 hp fun q vi τ2 s2 le2 ri R2 hq=>?_)
 refine x12 hq.ofOpt fun d hd hq=>?_
 exact getItem_D R2.hB (.inl (ro.mono le2)) ri hd (fun v tk rv=>hq v τ2 _ (TM.le.refl _) rv (R2.toks tk)) hs
theorem Rel.any {env:Env}{l:List Env}{wr:Str→Bool}{av:Nat→Option Value}{τ:TM}{st:St}{s:Shared}(R:Rel prog w s0 env l nt wr τ av st s)(HB:Base w s0 mg mb){i:Nat}{x:Str}{d:D}(hx:nt[i]? =some x)(hv:Vis env x)(h:bL st i=some d):
  ∃v,av i=some v∧Has env s.heap x v∧IsD prog w τ s.heap v d:=by
 unfold bL at h
 cases hg:st.get i with
 | none=>rw [hg] at h;cases h
 | some sl=>
  refine x13 (R.vars i x sl hx hg hv) fun v e1 e2 e3=>?_
  rw [hg] at h
  refine ⟨v,e1,e2,?_⟩
  cases sl with
  | val d'=>cases h;exact .inl e3
  | own d'=>
   cases h
   obtain ⟨a,o,rfl,t,ho,c⟩:=e3
   exact .inr ⟨a,o,rfl,ho,R.notSys HB.sys fun o e=>(by rw [t] at e;cases e),c⟩
  | lent d'=>
   cases h
   obtain ⟨a,o,rfl,t,ho,c⟩:=e3
   exact .inr ⟨a,o,rfl,ho,R.notSys HB.sys fun o e=>(by rw [t] at e;cases e),c⟩
theorem se_ixV (HB:Base w s0 mg mb){x:Str}{i:PySem.Expr}{k:Nat}{Y:E}{p pos:Pos}(hx:nt[k]? =some x)(hv:bN (ns.lookup x)=true)(h1:(x==("__debug__":Str))=false)(h2:(x==("__classdict__":Str))=false)
  (hi:SE prog w s0 ft m nt ns i Y) (hs: ∀a b,subscripted i false a b=operate [a,b] (getItem a b)):SE prog w s0 ft m nt ns (.Subscript (.Name x p) i pos) (.ixV k Y):=by
 refine ⟨?_⟩
 intro env l wr A av τ st s Q Er hE hC R h
 refine x12 h.ofOpt fun c0 hc0 h=>?_
 refine x13 (R.any HB hx (hE.vis hv) hc0) fun v e1 e2 _=>?_
 refine PyProof.Rows.Subscript_ (aM R.kind e2 (hi.seqP hE hC R h fun q vi τ2 s2 le2 ri R2 hq=>?_) h1 h2)
 refine x12 hq.ofOpt fun c hc hq=>?_
 refine x12 hq.ofOpt fun d hd hq=>?_
 refine x13 (R2.any HB hx (hE.vis hv) hc) fun v' f1 _ f3=>?_
 rw [e1] at f1;cases f1
 exact getItem_D R2.hB f3 ri hd (fun v tk rv=>hq v τ2 _ (TM.le.refl _) rv (R2.toks tk)) hs
theorem se_eqV (HB:Base w s0 mg mb){x:Str}{r:PySem.Expr}{k:Nat}{Y:E}{p pos:Pos}(hx:nt[k]? =some x)(hv:bN (ns.lookup x)=true)(h1:(x==("__debug__":Str))=false)(h2:(x==("__classdict__":Str))=false)
  (hr:SE prog w s0 ft m nt ns r Y):SE prog w s0 ft m nt ns (.Compare (.Name x p) [.Eq] [r] pos) (.eqV k Y):=by
 refine ⟨?_⟩
 intro env l wr A av τ st s Q Er hE hC R h
 refine x12 h.ofOpt fun c0 hc0 h=>?_
 refine x13 (R.any HB hx (hE.vis hv) hc0) fun v e1 e2 _=>?_
 refine wpAny_Compare1 (aM R.kind e2 (hr.seqP hE hC R h fun q vi τ2 s2 le2 ri R2 hq=>?_) h1 h2) (ei (by decide) (by decide) r)
 refine x12 hq.ofOpt fun c hc hq=>?_
 refine x12 hq.ofOpt fun b hb hq=>?_
 refine x13 (R2.any HB hx (hE.vis hv) hc) fun v' f1 _ f3=>?_
 rw [e1] at f1;cases f1
 exact cmp_eq R2.hB f3 ri hb hC.u (hq _ τ2 s2 (TM.le.refl _) (.bool b) R2)
theorem se_inV (HB:Base w s0 mg mb){x:Str}{e:PySem.Expr}{k:Nat}{X:E}{p pos:Pos}(hx:nt[k]? =some x)(hv:bN (ns.lookup x)=true)(h1:(x==("__debug__":Str))=false)(h2:(x==("__classdict__":Str))=false)
  (he:SE prog w s0 ft m nt ns e X):SE prog w s0 ft m nt ns (.Compare e [.In] [.Name x p] pos) (.inV X k):=by
 refine ⟨?_⟩
 intro env l wr A av τ st s Q Er hE hC R h
 refine wpAny_Compare1 (he.seqP hE hC R h fun q ve τ1 s1 le1 re R1 hq=>?_) rfl
 refine x12 hq.ofOpt fun c hc hq=>?_
 refine x12 hq.ofOpt fun b hb hq=>?_
 refine x13 (R1.any HB hx (hE.vis hv) hc) fun v' f1 f2 f3=>?_
 exact aM R1.kind f2 (cmp_in R1.hB re f3 hb hC.u fun tk=>hq _ τ1 _ (TM.le.refl _) (.bool b) (R1.toks tk)) h1 h2
theorem se_ninV (HB:Base w s0 mg mb){x:Str}{e:PySem.Expr}{k:Nat}{X:E}{p pos:Pos}(hx:nt[k]? =some x)(hv:bN (ns.lookup x)=true)(h1:(x==("__debug__":Str))=false)(h2:(x==("__classdict__":Str))=false)
  (he:SE prog w s0 ft m nt ns e X):SE prog w s0 ft m nt ns (.Compare e [.NotIn] [.Name x p] pos) (.ninV X k):=by
 refine ⟨?_⟩
 intro env l wr A av τ st s Q Er hE hC R h
 refine wpAny_Compare1 (he.seqP hE hC R h fun q ve τ1 s1 le1 re R1 hq=>?_) rfl
 refine x12 hq.ofOpt fun c hc hq=>?_
 refine x12 hq.ofOpt fun b hb hq=>?_
 refine x13 (R1.any HB hx (hE.vis hv) hc) fun v' f1 f2 f3=>?_
 exact aM R1.kind f2 (cmp_nin R1.hB re f3 hb hC.u fun tk=>hq _ τ1 _ (TM.le.refl _) (.bool !b) (R1.toks tk)) h1 h2
theorem se_inn {e r:PySem.Expr}{X Y:E}{pos:Pos}(he:SE prog w s0 ft m nt ns e X)(hr:SE prog w s0 ft m nt ns r Y)(hm:behindInMarks .In r=false):SE prog w s0 ft m nt ns (.Compare e [.In] [r] pos) (.inn X Y):=by
 refine ⟨?_⟩
 intro env l wr A av τ st s Q Er hE hC R h
 refine wpAny_Compare1 (he.seqP hE hC R h fun p ve τ1 s1 le1 re R1 hp=>hr.seqP hE hC R1 hp fun q vr τ2 s2 le2 rr R2 hq=>?_) hm
 refine x12 hq.ofOpt fun b hb hq=>?_
 exact cmp_in R2.hB (re.mono le2) (.inl rr) hb hC.u fun tk=>hq _ τ2 _ (TM.le.refl _) (.bool b) (R2.toks tk)
theorem se_ninn {e r:PySem.Expr}{X Y:E}{pos:Pos}(he:SE prog w s0 ft m nt ns e X)(hr:SE prog w s0 ft m nt ns r Y)(hm:behindInMarks .NotIn r=false):SE prog w s0 ft m nt ns (.Compare e [.NotIn] [r] pos) (.ninn X Y):=by
 refine ⟨?_⟩
 intro env l wr A av τ st s Q Er hE hC R h
 refine wpAny_Compare1 (he.seqP hE hC R h fun p ve τ1 s1 le1 re R1 hp=>hr.seqP hE hC R1 hp fun q vr τ2 s2 le2 rr R2 hq=>?_) hm
 refine x12 hq.ofOpt fun b hb hq=>?_
 exact cmp_nin R2.hB (re.mono le2) (.inl rr) hb hC.u fun tk=>hq _ τ2 _ (TM.le.refl _) (.bool !b) (R2.toks tk)
theorem len_D {A:Around}{E:Value→Shared→Prop}{s:Shared}{τ:TM}{v:Value}{d:D}{n:Nat}{Q:Value→Shared→Prop}(hB: ∀a o,τ a=.frz o→s.heap.get? a=some o)(hd:IsD prog w τ s.heap v d)(hn:da d=some n)(hz:n≤100000)
  (hQ: ∀t tk,Q (.int n t) {s with toks:=tk}):wpAny (model prog w) A (call (.builtin "len") [v]) Q E s:=by
 rcases lenD_inv hn with ⟨ds,e,h⟩ | ⟨ds,e,h⟩ | ⟨x,e,h⟩ | ⟨kds,e,h⟩ <;> rw [e] at hd
 ·obtain ⟨a,o,vs,rfl,ho,b,c⟩:=hd.tup hB
  refine PyProof.Rows.len_tuple (b.isTup ho) (by rw [List.size_toArray,c.length,h];exact ni [_] [(Z0,.n 100000)] (.s Z0) (.n 9223372036854775808) rfl (Int.ofNat_le.2 hz)) ?_
  rw [List.size_toArray,c.length,h]
  exact hQ _ _
 ·obtain ⟨a,o,vs,rfl,ho,b,c⟩:=hd.list hB
  refine Calls.call_len_list (b.isList ho) (by rw [List.size_toArray,c.length,h];exact ni [_] [(Z0,.n 100000)] (.s Z0) (.n 9223372036854775808) rfl (Int.ofNat_le.2 hz)) ?_
  rw [List.size_toArray,c.length,h]
  exact hQ _ _
 ·obtain ⟨t,rfl⟩:=hd.str
  rw [←h] at hz hQ
  exact PyProof.Rows.len_str (by exact fun e=>nz [_] [(.n 9223372036854775808,Z0),(Z0,.n 100000)] rfl e (Int.ofNat_le.2 hz)) (hQ _ _)
 ·obtain ⟨a,o,rfl,ho,hsys,kvs,h2,he,h3⟩:=hd.dct hB
  have l1:kvs.length=n:=by have:=congrArg List.length he;rw [List.length_map,List.length_map,h] at this;exact this
  refine call_len_dict hsys (h2.mapOf ho) (by exact ni [_,_] [(Z0,Z1),(Z1,.n 100000)] (.s Z0) (.n 9223372036854775808) rfl (Int.ofNat_le.2 (Nat.le_of_eq l1)) (Int.ofNat_le.2 hz)) ?_
  rw [l1]
  exact hQ _ _
theorem dg {pos:Pos}{e:PySem.Expr}{env:Env}(he:starEach [e] env=[(false,eval e env)]):backTo pos (starEach [e] env)=[(false,eval e env)]:=by rw [he];rfl
theorem bC (HB:Base w s0 mg mb){e:PySem.Expr}{X:E}{p pos:Pos}(hx:ns.lookup ("len":Str)=some .globalImplicit)(he:SE prog w s0 ft m nt ns e X)(hst: ∀env,starEach [e] env=[(false,eval e env)]):SE prog w s0 ft m nt ns (.Call (.Name ("len":Str) p) [e] [] pos) (.len X):=by
 refine ⟨?_⟩
 intro env l wr A av τ st s Q Er hE hC R h
 refine wpAny_Call_NameR (dA HB R (hE.glob hx) HB.len ?_ (by decide))
 rw [dg (hst env)]
 refine PySem.callWith_builtin1 (he.seqP hE hC R h fun q v τ1 s1 le1 rv R1 hq=>?_)
 refine x12 hq.ofOpt fun n hn hq=>?_
 refine x02 (RP.guard hq) fun hz hq=>?_
 exact len_D R1.hB (.inl rv) hn hz fun t tk=>hq _ τ1 _ (TM.le.refl _) (.int _ t) (R1.toks tk)
theorem se_lenV (HB:Base w s0 mg mb){x:Str}{k:Nat}{p p2 pos:Pos}(hl:ns.lookup ("len":Str)=some .globalImplicit)(hx:nt[k]? =some x)(hv:bN (ns.lookup x)=true)(h1:(x==("__debug__":Str))=false)(h2:(x==("__classdict__":Str))=false):
  SE prog w s0 ft m nt ns (.Call (.Name ("len":Str) p) [.Name x p2] [] pos) (.lenV k):=by
 refine ⟨?_⟩
 intro env l wr A av τ st s Q Er hE hC R h
 refine wpAny_Call_NameR (dA HB R (hE.glob hl) HB.len ?_ (by decide))
 refine x12 h.ofOpt fun c hc h=>?_
 refine x12 h.ofOpt fun n hn h=>?_
 refine x13 (R.any HB hx (hE.vis hv) hc) fun v' f1 f2 f3=>?_
 refine x02 (RP.guard h) fun hz h=>?_
 exact PySem.callWith_builtin1 (aM R.kind f2 (len_D R.hB f3 hn hz fun t tk=>h _ τ _ (TM.le.refl _) (.int _ t) (R.toks tk)) h1 h2)
theorem se_strI (HB:Base w s0 mg mb){e:PySem.Expr}{X:E}{p pos:Pos}(hx:ns.lookup ("str":Str)=some .globalImplicit)(he:SE prog w s0 ft m nt ns e X)(hst: ∀env,starEach [e] env=[(false,eval e env)]):SE prog w s0 ft m nt ns (.Call (.Name ("str":Str) p) [e] [] pos) (.str X):=by
 refine ⟨?_⟩
 intro env l wr A av τ st s Q Er hE hC R h
 refine wpAny_Call_NameR (dA HB R (hE.glob hx) HB.str ?_ (by decide))
 rw [dg (hst env)]
 refine PySem.callWith_type1 (he.seqP hE hC R h fun q v τ1 s1 le1 rv R1 hq=>?_)
 refine x12 (RP.int hq) fun i hd hq=>?_
 refine x02 (RP.guard hq) fun hz hq=>?_
 rw [hd] at rv
 obtain ⟨t,rfl⟩:=rv.int_inv
 refine P.str_of_int (Nat.lt_trans (log2_small (small_iff.mp hz)) (by decide)) ?_
 exact hq _ τ1 _ (TM.le.refl _) (.str _ _) (R1.toks _)
end
noncomputable def aQ (τ:TM)(h:Heap):TM:=fun a=>match τ a with
 | .loc | .cel _ | .own _ | .it _ | .no=>match h.get? a with
  | some o=>.pin o
  | none=>.no
 | t=>t
noncomputable def bS (τ τ':TM):TM:=fun a=>match τ a with
 | .loc=>.loc
 | .cel x=>.cel x
 | .own i=>.own i
 | .pin o=>.pin o
 | .it o=>.it o
 | .no=>match τ' a with
  | .frz o=>.frz o
  | t=>if ct t=true then t else .no
 | _=>τ' a
section
variable (prog:Program)(w:World)(s0:Shared)
structure CRel (l:List Env)(τ:TM)(g:G)(s:Shared):Prop where
 rest:Rest s0 s
 base: ∀a o,s0.heap.get? a=some o→τ a=.frz o
 ex: ∀a,τ a≠ .no→ ∃o,s.heap.get? a=some o
 obj: ∀a o,τ a=.frz o∨τ a=.pin o→s.heap.get? a=some o
 itO: ∀a o,τ a=.it o→s.heap.get? a=some o
 g:GRel prog w τ s.heap g
 frs: ∀e∈l,e.scope.kind≠ .module∧ ∃L,e.frame=some L∧ ∃o,τ L=.pin o∧ ∀vs,o.data≠ .fields vs
noncomputable def FnOk (m:Nat)(fa:Addr)(F:List D→G→Res (D×G)):Prop:= ∀{A:Around} {l:List Env} {τ:TM} {s:Shared} {vs:List Value} {ds:List D} {g:G} {K:Result→Shared→Prop},
 Cx A l m→CRel prog w s0 l τ g s→RepL prog w τ vs ds→
 RP (F ds g) (fun p=> ∀v τ' s',TM.le τ τ'→Rep prog w τ' v p.1→CRel prog w s0 l τ' p.2 s'→K (.ok (.ret v)) s') (fun ln=> ∀x s',Infl w s0 l τ ln x s'→K (.error x) s')→
 codeAny (model prog w) A (.call (.ref fa) ⟨vs,[]⟩) K s
end
section
variable {prog:Program}{w:World}{s0:Shared}{env:Env}{l:List Env}{nt:List Str}{wr:Str→Bool}{τ τ':TM}{av:Nat→Option Value}{st:St}{s s':Shared}
noncomputable def keepTag:Tag→Bool
 | .frz _ | .pin _=>true
 | t=>ct t
noncomputable def gz:Tag→Bool
 | .loc | .cel _ | .own _ | .it _ | .no=>true
 | _=>false
theorem aT {a:Addr}{t:Tag}{h:Heap}(e:τ a=t)(ht:keepTag t=true):aQ τ h a=t:=by
 unfold aQ
 rw [e]
 revert ht
 cases t <;> intro ht <;> first | rfl | exact Bool.noConfusion ht
theorem gTag_keep {t:Tag}(h:ct t=true):keepTag t=true:=by
 cases t <;> first | rfl | exact h
theorem dR {a:Addr}{o:Obj}{h:Heap}(ho:h.get? a=some o)(ht:gz (τ a)=true):aQ τ h a=.pin o:=by
 unfold aQ
 revert ht
 cases τ a <;> intro ht <;> first | exact Bool.noConfusion ht | simp only [ho]
theorem dQ (h:Heap):TM.sub τ (aQ τ h):=⟨fun _ _ e=>aT e rfl,fun _ e=>aT e rfl,fun _ _ e=>aT e rfl⟩
theorem calleeT_g {a:Addr}{h:Heap}:ct (aQ τ h a)=true→aQ τ h a=τ a:=by
 unfold aQ
 cases τ a <;> first | exact fun _=>rfl | (cases h.get? a <;> exact fun q=>Bool.noConfusion q)
theorem f7 (h:Heap)(a:Addr):(∃o,h.get? a=some o∧aQ τ h a=.pin o)∨aQ τ h a=.no∨(aQ τ h a=τ a∧gz (τ a)=false):=by
 unfold aQ
 generalize τ a=t
 cases t with
 | no | loc | cel | own | it=>
  cases h.get? a with
  | some o=>exact .inl ⟨o,rfl,rfl⟩
  | none=>exact .inr (.inl rfl)
 | _=>exact .inr (.inr ⟨rfl,rfl⟩)
theorem Rel.callee (R:Rel prog w s0 env l nt wr τ av st s):CRel prog w s0 l (aQ τ s.heap) st.g s where
 rest:=R.rest
 base a o e:=aT (R.base a o e) rfl
 ex a h:=by
  rcases f7 (τ:=τ) s.heap a with ⟨o,ho,_⟩ | e | ⟨e,_⟩
  ·exact ⟨o,ho⟩
  ·exact absurd e h
  ·exact R.ex a (e▸h)
 obj a o h:=by
  rcases f7 (τ:=τ) s.heap a with ⟨o',ho,e⟩ | e | ⟨e,_⟩
  ·rw [e] at h;exact h.elim Tag.noConfusion fun h=>Tag.pinI h▸ho
  ·rw [e] at h;exact h.elim Tag.noConfusion Tag.noConfusion
  ·exact R.obj a o (e▸h)
 itO a o h:=by
  rcases f7 (τ:=τ) s.heap a with ⟨o',ho,e⟩ | e | ⟨e,m⟩
  ·exact Tag.noConfusion (e.symm.trans h)
  ·exact Tag.noConfusion (e.symm.trans h)
  ·rw [e.symm.trans h] at m;cases m
 g:=R.g.tag (dQ _) (fun a h=>aT rfl (gTag_keep h)) fun a h=>calleeT_g h
 frs e he:=by
  obtain ⟨a,L,b,c⟩:=R.frs e he
  refine ⟨a,L,b,?_⟩
  rcases c with c | ⟨o,t,n⟩
  ·obtain ⟨m,o,es,ep,ho,hd,_⟩:=R.ns
   rw [c]
   exact ⟨o,dR ho (by rw [R.loc];rfl),fun vs q=>by rw [hd] at q;cases q⟩
  ·exact ⟨o,aT t rfl,n⟩
theorem gX (h:TM.le (aQ τ s.heap) τ'):TM.le τ (bS τ τ'):=by
 refine ⟨fun a o e=>?_,fun a o e=>?_,fun a o e=>?_,fun a e=>?_,fun a i e=>?_⟩
 ·unfold bS;rw [e];exact h.frz _ _ (aT e rfl)
 ·unfold bS;rw [e]
 ·unfold bS;rw [e]
 ·unfold bS;rw [e];exact h.pot _ (aT e rfl)
 ·unfold bS;rw [e];exact h.bld _ _ (aT e rfl)
noncomputable def gP:Tag→Bool
 | .loc | .cel _ | .own _ | .it _ | .pin _=>true
 | _=>false
noncomputable def offC:Tag→Bool
 | .frz _=>true
 | t=>ct t
theorem eG (a:Addr):(bS τ τ' a=τ a∧gP (τ a)=true)∨bS τ τ' a=τ' a∨(bS τ τ' a=.no∧offC (τ' a)=false):=by
 unfold bS
 generalize τ a=t
 generalize τ' a=t'
 cases t with
 | loc | cel | own | it | pin=>exact .inl ⟨rfl,rfl⟩
 | no=>
  cases t' with
  | frz=>exact .inr (.inl rfl)
  | pot | bld | nmd | stl | inl=>exact .inr (.inl rfl)
  | _=>exact .inr (.inr ⟨rfl,rfl⟩)
 | _=>exact .inr (.inl rfl)
theorem el {a:Addr}{t:Tag}(e:τ a=t)(ht:gP t=true):bS τ τ' a=t:=by
 unfold bS;rw [e]
 cases t with
 | loc | cel | own | it | pin=>rfl
 | _=>cases ht
theorem callee_pin {a:Addr}{h:Heap}{o:Obj}(ht:gP (τ a)=true)(ho:h.get? a=some o)(hp: ∀o',τ a=.pin o'→o'=o):aQ τ h a=.pin o:=by
 unfold aQ
 rw [ho]
 revert ht hp
 generalize τ a=t
 intro ht hp
 cases t with
 | loc | cel | own | it=>rfl
 | pin o'=>exact congrArg Tag.pin (hp o' rfl)
 | _=>cases ht
theorem Rel.pinned (R:Rel prog w s0 env l nt wr τ av st s)(h:TM.le (aQ τ s.heap) τ'){a:Addr}{o:Obj}(ht:gP (τ a)=true)(ho:s.heap.get? a=some o):τ' a=.pin o:=
 h.pin _ _ (callee_pin ht ho fun o' e=>Option.some.inj ((R.obj a o' (.inr e)).symm.trans ho))
theorem gW (R:Rel prog w s0 env l nt wr τ av st s)(h:TM.le (aQ τ s.heap) τ'){a:Addr}{t:Tag}(e:τ' a=t)(ht:offC t=true):bS τ τ' a=t:=by
 rcases eG (τ:=τ) (τ':=τ') a with ⟨e',k⟩ | e' | ⟨_,n⟩
 ·have nn:τ a≠ .no:=fun q=>by rw [q] at k;cases k
  refine x11 (R.ex a nn) fun o ho=>?_
  rw [←e,R.pinned h k ho] at ht
  cases ht
 ·exact e'.trans e
 ·rw [e,ht] at n;cases n
theorem gTag_off {t:Tag}(h:ct t=true):offC t=true:=by
 cases t with
 | frz=>rfl
 | _=>exact h
theorem keep_g {t:Tag}(h:gP t=true):ct t=false:=by
 cases t with
 | loc | cel | own | it | pin=>rfl
 | _=>cases h
theorem gV (R:Rel prog w s0 env l nt wr τ av st s)(h:TM.le (aQ τ s.heap) τ'):TM.sub τ' (bS τ τ'):=⟨fun _ _ e=>gW R h e rfl,fun _ e=>gW R h e rfl,fun _ _ e=>gW R h e rfl⟩
theorem back_g (R:Rel prog w s0 env l nt wr τ av st s)(h:TM.le (aQ τ s.heap) τ')(a:Addr)(hg:ct (τ' a)=true):bS τ τ' a=τ' a:=gW R h rfl (gTag_off hg)
theorem back_g' (a:Addr)(hg:ct (bS τ τ' a)=true):bS τ τ' a=τ' a:=by
 rcases eG (τ:=τ) (τ':=τ') a with ⟨e,k⟩ | e | ⟨e,_⟩
 ·rw [e,keep_g k] at hg;cases hg
 ·exact e
 ·rw [e] at hg;cases hg
theorem Rel.same (R:Rel prog w s0 env l nt wr τ av st s)(h:TM.le (aQ τ s.heap) τ'){g':G}(C:CRel prog w s0 l τ' g' s'){a:Addr}{o:Obj}(ht:gP (τ a)=true)(ho:s.heap.get? a=some o):s'.heap.get? a=some o:=
 C.obj _ _ (.inr (R.pinned h ht ho))
theorem Rel.back (R:Rel prog w s0 env l nt wr τ av st s)(h:TM.le (aQ τ s.heap) τ'){g':G}(C:CRel prog w s0 l τ' g' s'):Rel prog w s0 env l nt wr (bS τ τ') av {st with g:=g'} s':=by
 have le:=gX h
 have same: ∀{a:Addr} {t:Tag} {o:Obj},τ a=t→gP t=true→s.heap.get? a=some o→s'.heap.get? a=some o:=fun e ht ho=>R.same h C (e▸ht) ho
 refine {rest:=C.rest,base:=fun a o e=>le.frz _ _ (R.base a o e),ex:=fun a ha=>?_,obj:=fun a o ha=>?_,itO:=fun a o ha=>?_,kind:=R.kind,glb:=R.glb,ns:=?_,loc:=el R.loc rfl,wrk:=fun x hx=>?_,celT:=fun x c h1 h2=>(R.celT x c h1 h2).imp (el · rfl) fun ⟨o,e⟩=>⟨o,el e rfl⟩,vars:=fun i x sl h1 h2 h3=>?_,g:=C.g.tag (gV R h) (back_g R h) back_g',frs:=fun e he=>(R.frs e he).imp id fun ⟨L,b,c⟩=>⟨L,b,c.imp id fun ⟨o,t,n⟩=>⟨o,el t rfl,n⟩⟩,len:=R.len,ntd:=R.ntd}
 ·rcases eG (τ:=τ) (τ':=τ') a with ⟨e,k⟩ | e | ⟨e,_⟩
  ·rw [e] at ha;exact x11 (R.ex a ha) fun o ho=>⟨o,R.same h C k ho⟩
  ·rw [e] at ha;exact C.ex a ha
  ·exact absurd e ha
 ·rcases eG (τ:=τ) (τ':=τ') a with ⟨e,k⟩ | e | ⟨e,_⟩
  ·rw [e] at ha;exact R.same h C k (R.obj a o ha)
  ·rw [e] at ha;exact C.obj a o ha
  ·rw [e] at ha;exact ha.elim Tag.noConfusion Tag.noConfusion
 ·rcases eG (τ:=τ) (τ':=τ') a with ⟨e,k⟩ | e | ⟨e,_⟩
  ·rw [e] at ha;exact R.same h C k (R.itO a o ha)
  ·rw [e] at ha;exact C.itO a o ha
  ·exact Tag.noConfusion (e.symm.trans ha)
 ·obtain ⟨m,o,es,ep,ho,r⟩:=R.ns
  exact ⟨m,o,es,ep,same R.loc rfl ho,r⟩
 ·exact (R.wrk x hx).imp id fun ⟨y,c,v,e,⟨o,ho,hd⟩,g⟩=>⟨y,c,v,e,⟨o,same g rfl ho,hd⟩,el g rfl⟩
 ·refine x13 (R.vars i x sl h1 h2 h3) fun v e1 e2 e3=>?_
  refine ⟨v,e1,?_,(e3.heap (h':=s'.heap) fun a o t ho=>t.elim (fun t=>same t rfl ho) fun t=>same t rfl ho).tag le fun a t=>el t rfl⟩
  rcases e2 with ⟨hl,m,⟨o,es,ep,ho,r⟩,hv⟩ | ⟨hl,c,hc,o,ho,hd⟩
  ·exact .inl ⟨hl,m,⟨o,es,ep,same R.loc rfl ho,r⟩,hv⟩
  ·exact .inr ⟨hl,c,hc,o,(R.celT x c hl hc).elim (fun q=>same q rfl ho) fun ⟨o,q⟩=>same q rfl ho,hd⟩
theorem Infl.back {ln:Int}{x:Value}{h:Heap}(z:Infl w s0 l (aQ τ h) ln x s'):Infl w s0 l τ ln x s' where
 rest:=z.rest
 keep a o e:=z.keep a o (e.imp (fun q=>aT q rfl) (fun q=>aT q rfl))
 slots a o e:=z.slots a o (e.imp (fun q=>aT q rfl) (fun q=>aT q rfl))
 frs:=z.frs
 exc:=by
  have off: ∀{a:Addr},offTag (aQ τ h) a→offTag τ a:=fun x o=>⟨fun e=>(x o).1 (aT e rfl),fun e=>(x o).2 (aT e rfl)⟩
  refine x35 z.exc fun e dx tb a b c d f=>?_
  exact ⟨e,dx,tb,a,b,c,off d,f.imp id fun ⟨T,fl,p,q⟩=>⟨T,fl,off p,q⟩⟩
theorem gJ {m:Nat}{fa:Addr}{F:List D→G→Res (D×G)}(HF:FnOk prog w s0 m fa F){A:Around}(hC:Cx A l (m + 1))(R:Rel prog w s0 env l nt wr τ av st s){vs:List Value}{ds:List D}(rv:RepL prog w τ vs ds){Q Er:Value→Shared→Prop}
  (h:RP ((F ds st.g).bind fun q=>.ok (q.1,{st with g:=q.2})) (OkP prog w s0 nt env l wr av τ Q) (FlP w s0 l τ Er)):wpAny (model prog w) A (call (.ref fa) vs) Q Er s:=by
 refine wpAny_call (HF (hC.mono (Nat.le_succ m)) R.callee (rv.sub (dQ _)) (h.bind.mono (fun p hp v τ' s' le' r' C'=>?_) fun ln hf x s' i=>hf x s' i.back))
 exact hp v (bS τ τ') s' (gX le') (r'.sub (gV R le')) (R.back le' C')
end
section
variable {prog:Program}{w:World}{s0:Shared}{env:Env}{l:List Env}{nt:List Str}{wr:Str→Bool}{τ τ':TM}{av:Nat→Option Value}{st:St}{s s':Shared}
theorem cR {a:Addr}{t:Tag}(h:TM.le τ τ')(ha:τ a=.no):TM.le τ (aL τ' a t):=by
 have ne: ∀{b:Addr} {t':Tag},τ b=t'→t'≠ .no→τ' b=t'→aL τ' a t b=t':=fun e n e'=>(az _ _ fun q=>n (by rw [←e,q,ha])).trans e'
 exact ⟨fun b o e=>ne e (by simp) (h.frz _ _ e),fun b o e=>ne e (by simp) (h.pin _ _ e),fun b o e=>ne e (by simp) (h.it _ _ e),fun b e=>ne e (by simp) (h.pot _ e),fun b i e=>ne e (by simp) (h.bld _ _ e)⟩
theorem setT_cs {a:Addr}{t:Tag}(b:Addr):(b=a∧aL τ a t b=t)∨(b≠a∧aL τ a t b=τ b):=by
 by_cases q:b=a
 ·exact .inl ⟨q,q▸ax ..⟩
 ·exact .inr ⟨q,az _ _ q⟩
theorem turn_at {t:Tag}{P:Obj→Prop}(ht:t=.no∨ ∃o',(t=.it o'∨t=.frz o'∨ ∃i,t=.own i)∧P o'){o:Obj}(h:(t=.frz o∨t=.pin o)∨t=.it o):P o:=by
 rcases ht with rfl | ⟨o2,rfl | rfl | ⟨i,rfl⟩,e⟩ <;> rcases h with (h | h) | h <;> cases h
 ·exact e
 ·exact e
theorem Rel.turnIt (R:Rel prog w s0 env l nt wr τ av st s){a:Addr}{o:Obj}{t:Tag}{h':Heap}(ha:τ a=.it o)(hs:Heap.ExtBut a s.heap h')(ht:t=.no∨ ∃o',(t=.it o'∨t=.frz o'∨ ∃i,t=.own i)∧h'.get? a=some o'){tk:Nat}:
  Rel prog w s0 env l nt wr (aL τ a t) av st {s with heap:=h',toks:=tk}:=by
 have ne: ∀{b:Addr} {t':Tag},τ b=t'→t'≠ .it o→b≠a:=fun e n q=>n (by rw [←e,q,ha])
 have keep: ∀{b:Addr} {t':Tag} {o':Obj},τ b=t'→t'≠ .it o→s.heap.get? b=some o'→h'.get? b=some o':=fun e n q=>hs _ _ (ne e n) q
 have tg: ∀{b:Addr} {t':Tag},τ b=t'→t'≠ .it o→aL τ a t b=t':=fun e n=>(az _ _ (ne e n)).trans e
 have sub:TM.sub τ (aL τ a t):=⟨fun b o e=>tg e (by simp),fun b e=>tg e (by simp),fun b i e=>tg e (by simp)⟩
 have rep: ∀{v:Value} {d:D},Rep prog w τ v d→Rep prog w (aL τ a t) v d:=fun r=>r.sub sub
 have repL: ∀{v:List Value} {d:List D},RepL prog w τ v d→RepL prog w (aL τ a t) v d:=fun r=>r.sub sub
 have con: ∀{o:Obj} {d:D},Cont prog w τ o d→Cont prog w (aL τ a t) o d:=by
  intro o d c
  cases d <;> simp only [Cont] at c ⊢
  ·refine x12 c fun vs x y=>?_;exact ⟨vs,x,repL y⟩
  ·refine x13 c fun vs x e y=>?_;exact ⟨vs,x,e,repL y⟩
 refine {rest:=⟨R.rest.1,R.rest.2,R.rest.3⟩,base:=fun b o' e=>tg (R.base b o' e) (by simp),ex:=fun b h=>?_,obj:=fun b o' h=>(setT_cs (τ:=τ) (a:=a) (t:=t) b).elim (fun q=>q.1▸turn_at ht (.inl (q.2▸h))) fun q=>hs _ _ q.1 (R.obj b o' (q.2▸h)),itO:=fun b o' h=>(setT_cs (τ:=τ) (a:=a) (t:=t) b).elim (fun q=>q.1▸turn_at ht (.inr (q.2▸h))) fun q=>hs _ _ q.1 (R.itO b o' (q.2▸h)),kind:=R.kind,glb:=R.glb,ns:=?_,loc:=tg R.loc (by simp),wrk:=fun x hx=>?_,celT:=fun x c h1 h2=>?_,vars:=fun j x sl h1 h2 h3=>?_,g:=?_,frs:=fun e he=>?_,len:=R.len,ntd:=R.ntd}
 ·rcases setT_cs (τ:=τ) (a:=a) (t:=t) b with ⟨q,e⟩ | ⟨q,e⟩
  ·rw [e] at h
   refine ht.elim (fun z=>absurd z h) fun z=>x12 z fun o' _ e=>⟨o',q▸e⟩
  ·rw [e] at h
   exact x11 (R.ex b h) fun o e=>⟨o,hs _ _ q e⟩
 ·refine x11 R.ns fun m hm=>?_;exact ⟨m,hm.at' fun o e=>hs _ _ (ne R.loc (by simp)) e⟩
 ·exact (R.wrk x hx).imp id fun ⟨y,c,v,e,f,g⟩=>⟨y,c,v,e,(let ⟨o,h1,h2⟩:=f;⟨o,hs _ _ (ne g (by simp)) h1,h2⟩),tg g (by simp)⟩
 ·exact (R.celT x c h1 h2).imp (fun e=>tg e (by simp)) fun ⟨o,e⟩=>⟨o,tg e (by simp)⟩
 ·refine x13 (R.vars j x sl h1 h2 h3) fun v e1 e2 e3=>?_
  refine ⟨v,e1,?_,?_⟩
  ·rcases e2 with ⟨hl,m,hm,hv⟩ | ⟨hl,c,hc,hv⟩
   ·exact .inl ⟨hl,m,hm.at' fun o e=>hs _ _ (ne R.loc (by simp)) e,hv⟩
   ·refine .inr ⟨hl,c,hc,let ⟨o,h1,h2⟩:=hv;⟨o,hs _ _ ?_ h1,h2⟩⟩
    rcases R.celT x c hl hc with q | ⟨o,q⟩
    ·exact ne q (by simp)
    ·exact ne q (by simp)
  ·cases sl with
   | val d=>exact rep e3
   | own d=>
    obtain ⟨b,o',e,tt,ho,c⟩:=e3
    exact ⟨b,o',e,tg tt (by simp),keep tt (by simp) ho,con c⟩
   | lent d=>
    obtain ⟨b,o',e,tt,ho,c⟩:=e3
    exact ⟨b,o',e,tg tt (by simp),keep tt (by simp) ho,con c⟩
 ·have k1: ∀b,ct (τ b)=true→b≠a:=fun b hb q=>by rw [q,ha] at hb;cases hb
  refine (R.g.heap fun b o' h q=>hs _ _ (k1 b h) q).tag sub (fun b h=>az _ _ (k1 b h)) fun b h=>az _ _ fun q=>?_
  obtain rfl:=q.symm
  rw [ax] at h
  rcases ht with rfl | ⟨o2,rfl | rfl | ⟨i,rfl⟩,e⟩ <;> cases h
 ·obtain ⟨a1,L,a2,a3⟩:=R.frs e he
  exact ⟨a1,L,a2,a3.imp id fun ⟨o,q1,q2⟩=>⟨o,tg q1 (by simp),q2⟩⟩
noncomputable def ItO (prog:Program)(w:World)(τ:TM)(o:Obj)(ds:List D):Prop:=
 (∃l i lo vs all,o.cls=.type "list_iterator"∧o.data=.fields #[.ref l,.int (i:Nat) 0]∧(τ l=.frz lo∨τ l=.pin lo)∧SeqObj "list" lo vs∧RepL prog w τ vs all∧ds=all.drop i)∨
 (∃(x:Int) (n:Nat),o={cls:=.type "range_iterator",dict:=none,data:=.fields #[rawInt x,rawInt n,rawInt 1],slots:= #[]}∧ds=(List.range n).map fun j=>.int (x + (j:Nat)))
theorem ItO.mono (h:TM.le τ τ'){o:Obj}{ds:List D}(z:ItO prog w τ o ds):ItO prog w τ' o ds:=by
 rcases z with ⟨l,i,lo,vs,all,a,b,c,d,e,f⟩ | z
 ·exact .inl ⟨l,i,lo,vs,all,a,b,c.imp (h.frz _ _) (h.pin _ _),d,e.mono h,f⟩
 ·exact .inr z
theorem ItO.set {o:Obj}{ds:List D}{I:Addr}{oI:Obj}{t:Tag}(hI:τ I=.it oI)(z:ItO prog w τ o ds):ItO prog w (aL τ I t) o ds:=by
 have tg: ∀{b:Addr} {t':Tag},τ b=t'→t'≠ .it oI→aL τ I t b=t':=fun e n=>(az _ _ fun q=>n (by rw [←e,q,hI])).trans e
 rcases z with ⟨l,i,lo,vs,all,a,b,c,d,e,f⟩ | z
 ·exact .inl ⟨l,i,lo,vs,all,a,b,c.imp (fun c=>tg c (by simp)) (fun c=>tg c (by simp)),d,e.sub ⟨fun b o e=>tg e (by simp),fun b e=>tg e (by simp),fun b i e=>tg e (by simp)⟩,f⟩
 ·exact .inr z
theorem RepL.set {vs:List Value}{ds:List D}{I:Addr}{oI:Obj}{t:Tag}(hI:τ I=.it oI)(z:RepL prog w τ vs ds):RepL prog w (aL τ I t) vs ds:=by
 have tg: ∀{b:Addr} {t':Tag},τ b=t'→t'≠ .it oI→aL τ I t b=t':=fun e n=>(az _ _ fun q=>n (by rw [←e,q,hI])).trans e
 exact z.sub ⟨fun b o e=>tg e (by simp),fun b e=>tg e (by simp),fun b i e=>tg e (by simp)⟩
section
variable {A:Around}{E:Value→Shared→Prop}
theorem fu (hB: ∀a o,τ a=.frz o∨τ a=.pin o→s.heap.get? a=some o){I:Addr}{oI:Obj}{d:D}{r:List D}(hI:τ I=.it oI)(ho:s.heap.get? I=some oI)(z:ItO prog w τ oI (d::r)){Q:Option Value→Shared→Prop}
  (hQ: ∀v h' tk o',Heap.SameBut I s.heap h'→h'.get? I=some o'→Rep prog w τ v d→ItO prog w τ o' r→Q (some v) {s with heap:=h',toks:=tk}):wpAny (model prog w) A (pyNext (.ref I)) Q E s:=by
 rcases z with ⟨l,i,lo,vs,all,a,b,c,dd,e,f⟩ | ⟨x,n,rfl,f⟩
 ·have hl:=hB l lo c
  have hx:all[i]? =some d:=by
   have:=congrArg List.head? f
   simp only [List.head?_cons,List.head?_drop] at this;exact this.symm
  refine x12 (e.get hx) fun v hv rv=>?_
  refine wpAny_pyNext_list_item (i:=i) (items:=vs.toArray) (x:=v) ⟨oI,ho,a,b⟩ (dd.isList hl) (by simpa using hv) fun h' hit hs=>?_
  obtain ⟨o',h1,h2,h3⟩:=hit
  refine hQ v h' s.toks o' hs h1 rv (.inl ⟨l,i + 1,lo,vs,all,h2,?_,c,dd,e,?_⟩)
  ·rw [h3]
  ·rw [←List.drop_drop,←f];rfl
 ·cases n with
  | zero=>simp at f
  | succ n=>
   have f1:d=.int x∧r=(List.range n).map fun j=>.int (x + 1 + (j:Nat)):=by
    rw [List.range_succ_eq_map] at f
    simp only [List.map_cons,List.map_map] at f
    injection f with f1 f2
    refine ⟨by simpa using f1,f2.trans (List.map_congr_left fun j _=>?_)⟩
    simp only [Function.comp,Nat.succ_eq_add_one]
    congr 1
    push_cast;exact Int.le_antisymm (ni [_,_] [] (.a Z0 (.s Z1)) (.a (.s Z0) Z1) rfl) (ni [_,_] [] (.a (.s Z0) Z1) (.a Z0 (.s Z1)) rfl)
   obtain ⟨rfl,rfl⟩:=f1
   refine wpAny_pyNext_range_item (it:=I) (x:=x) (left:=((n + 1:Nat):Int)) (step:=1) ho (by exact ni [_,_] [(.s Z0,Z1),(.n 0,Z0)] (.s (.n 0)) Z1 rfl (Int.le_of_eq (Int.natCast_add _ _).symm) (Int.natCast_nonneg _)) fun h' hit hs=>?_
   have e1:((n + 1:Nat):Int) - 1=(n:Int):=by exact Int.le_antisymm (ni [_,_] [(Z0,.s Z1)] (.d Z0 (.n 1)) Z1 rfl (Int.le_of_eq (Int.natCast_add _ _))) (ni [_,_] [(.s Z0,Z1)] Z0 (.d Z1 (.n 1)) rfl (Int.le_of_eq (Int.natCast_add _ _).symm))
   rw [e1] at hit
   exact hQ _ h' _ _ hs hit (.int _ _) (.inr ⟨x + 1,n,rfl,rfl⟩)
theorem fU (hB: ∀a o,τ a=.frz o∨τ a=.pin o→s.heap.get? a=some o)(hh:A.handled=none){I:Addr}{oI:Obj}(ho:s.heap.get? I=some oI)(z:ItO prog w τ oI []){Q:Option Value→Shared→Prop}
  (hQ: ∀h',Heap.ExtBut I s.heap h'→Q none {s with heap:=h'}):wpAny (model prog w) A (pyNext (.ref I)) Q E s:=by
 rcases z with ⟨l,i,lo,vs,all,a,b,c,dd,e,f⟩ | ⟨x,n,rfl,f⟩
 ·have hl:=hB l lo c
  have hx:vs[i]? =none:=by
   have:=congrArg List.length f
   simp only [List.length_nil,List.length_drop] at this
   rw [List.getElem?_eq_none_iff,e.length];omega
  exact wpAny_pyNext_list_end (i:=i) (items:=vs.toArray) hh ⟨oI,ho,a,b⟩ (dd.isList hl) (by simpa using hx) hQ
 ·cases n with
  | zero=>exact wpAny_pyNext_range_end (x:=x) (left:=0) (step:=1) hh ho (Int.le_refl _) hQ
  | succ n=>simp [List.range_succ_eq_map] at f
theorem go_it {target:Expr}{I:Addr}{oI:Obj}{v:Value}{Q:Unit→Shared→Prop}(ho:s.heap.get? I=some oI){ds:List D}(z:ItO prog w τ oI ds)(h:Q () s):wpAny (model prog w) A (letOwnedTupleGo target (.ref I) v) Q E s:=by
 unfold letOwnedTupleGo
 have key: ∀a:Addr,wpAny (model prog w) A (do
  let o ←load I
  match o.cls,o.data with
  | .type n,.fields vs=>
   if (["enumerate","zip","dict_itemiterator","dict_reverseitemiterator","odict_iterator","itertools.zip_longest","itertools.pairwise"].contains n&&vs[0]? ==some (rawInt a))=true then do
    rule "for.unpacks-the-owned-tuple"
    updateField I 0 .none
   else pure ()
  | _,_=>pure ()) Q E s:=by
  intro a
  refine wpAny_bind (wpAny_load ho ?_)
  rcases z with ⟨l,i,lo,vs,all,a1,b1,_⟩ | ⟨x,n,rfl,f⟩
  ·rw [a1,b1];exact wpAny_pure h
  ·exact wpAny_pure h
 cases target <;> first | exact wpAny_pure h | (cases v <;> first | exact wpAny_pure h | exact key _)
end
inductive PatL (nt:List Str)(wr:Str→Bool):List PySem.Expr→List Nat→Prop where
 | nil:PatL nt wr [] []
 | cons {x:Str} {p:Pos} {i:Nat} {es:List PySem.Expr} {is:List Nat}:nt[i]? =some x→wr x=true→PatL nt wr es is→PatL nt wr (.Name x p::es) (i::is)
inductive Pat (nt:List Str)(wr:Str→Bool):PySem.Expr→List Nat→Prop where
 | name {x:Str} {p:Pos} {i:Nat}:nt[i]? =some x→wr x=true→Pat nt wr (.Name x p) [i]
 | tup {es:List PySem.Expr} {k:_} {p:Pos} {i j:Nat} {is:List Nat}:PatL nt wr es (i::j::is)→Pat nt wr (.Tuple es k p) (i::j::is)
theorem PatL.facts {nt:List Str}{wr:Str→Bool}{es:List PySem.Expr}{is:List Nat}(h:PatL nt wr es is)(env:Env):(assignEach es env).length=is.length∧(assignEach es env).findIdx? (·.1)=none:=by
 induction h with
 | nil=>exact ⟨rfl,rfl⟩
 | @cons x p i es is _ _ _ ih=>
  have e:assignEach (.Name x p::es) env=(false,assign (.Name x p) env)::assignEach es env:=rfl
  rw [e]
  refine ⟨by simp [ih.1],?_⟩
  rw [List.findIdx?_cons];simp [ih.2]
theorem fb: ∀{is:List Nat} {ds:List D} {st st':St} (_:st.sets is ds=some st'),is.length=ds.length
 | [],[],_,_,_=>rfl
 | [],_::_,_,_,h=>nomatch h
 | _::_,[],_,_,h=>nomatch h
 | _::is,_::ds,_,_,h=>congrArg (· + 1) (fb (is:=is) (ds:=ds) h)
theorem gm {M:Model}{A:Around}{E:Value→Shared→Prop}{es:List PySem.Expr}{is:List Nat}(hp:PatL nt wr es is): ∀{av:Nat→Option Value} {st st':St} {s:Shared} {vs:List Value} {ds:List D} {Q:Unit→Shared→Prop},
  Rel prog w s0 env l nt wr τ av st s→RepL prog w τ vs ds→st.sets is ds=some st'→(∀av' h' tk,Rel prog w s0 env l nt wr τ av' st' {s with heap:=h',toks:=tk}→Q () {s with heap:=h',toks:=tk})→
  wpAny M A (assignInOrder ((assignEach es env).map (·.2)) vs) Q E s:=by
 induction hp with
 | nil=>
  intro av st st' s vs ds Q R rv hs hQ
  cases ds with
  | nil=>cases rv;have hs:some st=some st':=hs;cases hs;exact wpAny_pure (hQ av s.heap s.toks R)
  | cons d ds=>have hs:none=some st':=hs;cases hs
 | @cons x p i es is hx hw _ ih=>
  intro av st st' s vs ds Q R rv hs hQ
  cases ds with
  | nil=>have hs:none=some st':=hs;cases hs
  | cons d ds=>
   cases rv with
   | cons r rs=>
    have e:assignEach (.Name x p::es) env=(false,assign (.Name x p) env)::assignEach es env:=rfl
    rw [e]
    refine wpAny_bind (wpAny_holding (wpAny_assign_Name (bV R (sl:=.val d) hx hw r fun h' tk R'=>?_)))
    exact ih R' rs hs fun av' h'' tk' R''=>hQ av' h'' tk' R''
theorem gY {A:Around}{E:Value→Shared→Prop}(hh:A.handled=none){target:PySem.Expr}{pat:List Nat}(hp:Pat nt wr target pat)(R:Rel prog w s0 env l nt wr τ av st s){v:Value}{d:D}(rv:Rep prog w τ v d){st':St}
  (ht:bb st pat d=some st') {Q:Unit→Shared→Prop} (hQ: ∀av' h' tk,Rel prog w s0 env l nt wr τ av' st' {s with heap:=h',toks:=tk}→Q () {s with heap:=h',toks:=tk}):wpAny (model prog w) A (assign target env v) Q E s:=by
 cases hp with
 | name hx hw=>
  simp only [bb,Option.some.injEq] at ht
  obtain rfl:=ht.symm
  exact wpAny_assign_Name (bV R (sl:=.val d) hx hw rv fun h' tk R'=>hQ _ h' tk R')
 | tup hp=>
  cases d <;> simp only [bb] at ht <;> try (cases ht;done)
  cases rv with
  | tup ha hb hc=>
   obtain ⟨h1,h2⟩:=hp.facts env
   refine assign_Tuple_tuple hh (hb.isTup (R.hB _ _ ha)) ?_ h2 fun h' he=>?_
   ·rw [h1,fb ht,←hc.length];simp
   ·refine gm hp (R.grow (h':=h') (tk:=s.toks) fun b o e=>he b o (Nat.ne_of_lt (Heap.lt_size e)) e) hc ht fun av' h'' tk R'=>hQ av' h'' tk R'
end
noncomputable def compChk (nt:List Str)(ns:List (Str×NameKind))(scope:Scope)(pat:List Nat):Bool:=
 scope.kind== .function&&scope.names.all (fun x=>x.2 != .cell&&(if x.2== .local then scope.names.lookup x.1==some .local else true)&&
  (if x.2== .free then ns.lookup x.1==some .cell||ns.lookup x.1==some .free else true))&&
 (List.range nt.length).all fun i=>match nt[i]? with
  | some x=>if scope.names.lookup x==some .local then pat.contains i else true
  | none=>true
structure CompOk (nt:List Str)(ns:List (Str×NameKind))(scope:Scope)(pat:List Nat):Prop where
 kind:scope.kind=.function
 cells: ∀x∈scope.names,x.2≠ .cell
 locals: ∀x∈scope.names,x.2=.local→scope.names.lookup x.1=some .local
 free: ∀x∈scope.names,x.2=.free→ns.lookup x.1=some .cell∨ns.lookup x.1=some .free
 pats: ∀i x,nt[i]? =some x→scope.names.lookup x=some .local→i∈pat
theorem bZ {nt:List Str}{ns:List (Str×NameKind)}{scope:Scope}{pat:List Nat}(h:compChk nt ns scope pat=true):CompOk nt ns scope pat:=by
 unfold compChk at h
 simp only [Bool.and_eq_true,List.all_eq_true] at h
 obtain ⟨⟨h1,h2⟩,h3⟩:=h
 refine ⟨by simpa using h1,fun x hx=>?_,fun x hx hl=>?_,fun x hx hl=>?_,fun i x hi hl=>?_⟩
 ·have:=(h2 x hx).1.1;simpa using this
 ·have:=(h2 x hx).1.2;rw [hl] at this;simpa using this
 ·have:=(h2 x hx).2;rw [hl] at this;simpa using this
 ·have hi':i < nt.length:=(List.getElem?_eq_some_iff.mp hi).1
  have:=h3 i (List.mem_range.mpr hi')
  rw [hi] at this
  simpa [hl] using this
noncomputable def cu (env:Env):List (Str×NameKind)→List (Str×Addr)→List (Str×Addr)
 | [],cs=>cs
 | (n,k)::r,cs=>if k== .free then cu env r ((n,(env.cells.lookup n).getD 0)::cs) else cu env r cs
theorem fk {env:Env}{x:Str}: ∀{names:List (Str×NameKind)} {cs:List (Str×Addr)},(∀y∈names,y.2=.free→(env.cells.lookup y.1).isSome=true)→((x,NameKind.free)∈names∨cs.lookup x=env.cells.lookup x)→
  (cu env names cs).lookup x=env.cells.lookup x
 | [],cs,_,h=>by rcases h with h | h;cases h;exact h
 | (n,k)::r,cs,hs,h=>by
  have hr: ∀y∈r,y.2=.free→(env.cells.lookup y.1).isSome=true:=fun y hy=>hs y (List.mem_cons_of_mem _ hy)
  show (if (k==NameKind.free)=true then cu env r ((n,(env.cells.lookup n).getD 0)::cs) else cu env r cs).lookup x=_
  by_cases hk:k=.free
  ·obtain rfl:=hk.symm
   simp only [beq_self_eq_true,if_true]
   refine x11 (Option.isSome_iff_exists.mp (hs (n,.free) List.mem_cons_self rfl)) fun c hc=>?_
   by_cases hx:x=n
   ·obtain rfl:=hx.symm
    refine fk hr (.inr ?_)
    simp only [List.lookup_cons,beq_self_eq_true] at hc ⊢
    rw [hc];rfl
   ·refine fk hr ?_
    rcases h with h | h
    ·rcases List.mem_cons.mp h with h | h
     ·injection h with h _;exact absurd h hx
     ·exact .inl h
    ·right
     rw [List.lookup_cons,show (x==n)=false from by simpa using hx];exact h
  ·have hb:(k==NameKind.free)=false:=by simpa using hk
   rw [hb]
   refine fk hr ?_
   rcases h with h | h
   ·rcases List.mem_cons.mp h with h | h
    ·injection h with _ h;exact absurd h.symm hk
    ·exact .inl h
   ·exact .inr h
theorem closureFor_clOf {scope:Scope}{env:Env}(h: ∀y∈scope.names,y.2=.free→(env.cells.lookup y.1).isSome=true):closureFor scope env=pure (cu env scope.names []):=by
 unfold closureFor
 have key: ∀(names:List (Str×NameKind)) (cs:List (Str×Addr)),(∀y∈names,y.2=.free→(env.cells.lookup y.1).isSome=true)→
   (forIn names cs fun x r=>(do
    if (x.2==NameKind.free)=true then do
     let c ←cellOf env x.1
     pure (ForInStep.yield ((x.1,c)::r))
    else pure (ForInStep.yield r):Sem (ForInStep (List (Str×Addr)))))=pure (cu env names cs):=by
  intro names
  induction names with
  | nil=>intro cs _;rfl
  | cons y r ih=>
   intro cs hs
   obtain ⟨n,k⟩:=y
   rw [List.forIn_cons]
   have hr: ∀y∈r,y.2=.free→(env.cells.lookup y.1).isSome=true:=fun y hy=>hs y (List.mem_cons_of_mem _ hy)
   by_cases hk:k=.free
   ·obtain rfl:=hk.symm
    obtain ⟨c,hc⟩:=Option.isSome_iff_exists.mp (hs (n,.free) List.mem_cons_self rfl)
    have hc':cellOf env n=pure c:=by unfold cellOf;simp only at hc;rw [hc]
    simp only [beq_self_eq_true,if_true,hc',pure_bind]
    rw [ih _ hr]
    simp only at hc
    exact congrArg (fun c=>pure (cu env r ((n,c)::cs))) (congrArg (Option.getD · 0) hc).symm
   ·have hb:(k==NameKind.free)=false:=by simpa using hk
    simp only [hb,Bool.false_eq_true,if_false,pure_bind]
    rw [ih _ hr]
    exact congrArg pure (if_neg (fun q=>hk (eq_of_beq q))).symm
 have:=key scope.names [] h
 simp only [bind_pure]
 exact this
noncomputable def rlb (env:Env)(x:Str)(k:NameKind):NameKind:=if (k==NameKind.free&&env.scope.kind== .function&&env.kindOf x==some .cell) then NameKind.cell else k
theorem lookup_map {f:Str→NameKind→NameKind}: ∀{names:List (Str×NameKind)} {x:Str},(names.map fun p=>(p.1,f p.1 p.2)).lookup x=(names.lookup x).map (f x)
 | [],x=>rfl
 | (n,k)::r,x=>by
  rw [List.map_cons,List.lookup_cons,List.lookup_cons]
  by_cases hx:x=n
  ·obtain rfl:=hx.symm;simp
  ·have hb:(x==n)=false:=by simpa using hx
   simp only [hb];exact lookup_map
theorem lookup_relabel {env:Env}{names:List (Str×NameKind)}{x:Str}:
  (names.map fun (n,k)=>if (k==NameKind.free&&env.scope.kind== .function&&env.kindOf n==some .cell) then (n,NameKind.cell) else (n,k)).lookup x=(names.lookup x).map (rlb env x):=by
 have:(fun p:Str×NameKind=>match p with | (n,k)=>if (k==NameKind.free&&env.scope.kind== .function&&env.kindOf n==some .cell)=true then (n,NameKind.cell) else (n,k))=fun p=>(p.1,rlb env p.1 p.2):=by
  funext p
  obtain ⟨n,k⟩:=p
  unfold rlb
  simp only
  split <;> rfl
 rw [this];exact lookup_map
section
variable {prog:Program}{w:World}{s0:Shared}{env:Env}{l:List Env}{nt:List Str}{ns:List (Str×NameKind)}{wr:Str→Bool}{τ τ' τc:TM}{av:Nat→Option Value}{st:St}{s s':Shared}{scope:Scope}{pat:List Nat}
theorem CompOk.cellsIn (K:CompOk nt ns scope pat)(hE:EnvNs env ns){x:Str}(hx:(x,NameKind.free)∈scope.names):(env.kindOf x=some .cell∨env.kindOf x=some .free)∧(env.cells.lookup x).isSome=true:=by
 rcases K.free _ hx rfl with h | h
 ·have:=hE _ _ h;exact ⟨.inl this.1,this.2⟩
 ·have:=hE _ _ h;exact ⟨this.1,this.2⟩
theorem CompOk.closure (K:CompOk nt ns scope pat)(hE:EnvNs env ns):closureFor scope env=pure (cu env scope.names []):=
 closureFor_clOf fun y hy hk=>(K.cellsIn hE (x:=y.1) (by obtain ⟨a,b⟩:=y;simp only at hk;obtain rfl:=hk.symm;exact hy)).2
theorem CompOk.lookup (K:CompOk nt ns scope pat)(hE:EnvNs env ns){x:Str}(hx:(x,NameKind.free)∈scope.names):(cu env scope.names []).lookup x=env.cells.lookup x:=
 fk (fun y hy hk=>(K.cellsIn hE (x:=y.1) (by obtain ⟨a,b⟩:=y;simp only at hk;obtain rfl:=hk.symm;exact hy)).2) (.inl hx)
theorem b9 (C:Addr){cl:List (Str×Addr)}(x:Str):(compEnvC scope cl C env).kindOf x=(scope.names.lookup x).map (rlb env x):=lookup_relabel
theorem CompOk.envNs (K:CompOk nt ns scope pat)(hE:EnvNs env ns)(C:Addr):EnvNs (compEnvC scope (cu env scope.names []) C env) scope.names:=by
 intro x k hk
 have hm:=mem_of_lookup hk
 cases k with
 | «local»=>show Env.kindOf _ x=_;rw [b9,hk];rfl
 | cell=>exact absurd rfl (K.cells _ hm)
 | free=>
  refine ⟨?_,?_⟩
  ·rw [b9,hk]
   simp only [Option.map_some,rlb,beq_self_eq_true,Bool.true_and]
   split
   ·exact .inl rfl
   ·exact .inr rfl
  ·show ((cu env scope.names []).lookup x).isSome=true
   rw [K.lookup hE hm];exact (K.cellsIn hE hm).2
 | globalImplicit=>show Env.kindOf _ x=_;rw [b9,hk];rfl
 | globalExplicit=>trivial
theorem CompOk.vis (K:CompOk nt ns scope pat){C:Addr}{cl:List (Str×Addr)}{x:Str}(h:Vis (compEnvC scope cl C env) x):
  scope.names.lookup x=some .local∨((x,NameKind.free)∈scope.names∧((compEnvC scope cl C env).kindOf x=some .cell∨(compEnvC scope cl C env).kindOf x=some .free)):=by
 unfold Vis at h
 rw [b9] at h
 cases hk:scope.names.lookup x with
 | none=>rw [hk] at h;rcases h with h | h | h <;> cases h
 | some k=>
  have hm:=mem_of_lookup hk
  rw [hk] at h
  cases k with
  | «local»=>exact .inl rfl
  | cell=>exact absurd rfl (K.cells _ hm)
  | free=>
   refine .inr ⟨hm,?_⟩
   rw [b9,hk]
   rcases h with h | h
   ·simp only [Option.map_some,rlb,beq_self_eq_true,Bool.true_and] at h
    split at h <;> cases h
   ·exact h
  | globalImplicit=>rcases h with h | h | h <;> cases h
  | globalExplicit=>rcases h with h | h | h <;> cases h
theorem clears_get {pat:List Nat}{ρ:List (Option Slot)}{i:Nat}{sl:Slot}(h:((iP pat ρ)[i]?).join=some sl):i∉pat∧(ρ[i]?).join=some sl:=by
 induction pat generalizing ρ with
 | nil=>exact ⟨by simp,h⟩
 | cons p r ih=>
  refine x02 (ih h) fun a b=>?_
  rw [List.getElem?_set] at b
  by_cases hp:p=i
  ·subst hp
   by_cases q:p < ρ.length <;> simp [q] at b
  ·rw [if_neg hp] at b
   exact ⟨by simp [a,Ne.symm hp],b⟩
theorem iK {st:St}{pat:List Nat}{i:Nat}{sl:Slot}(h:(st.enter pat).get i=some sl):i∉pat∧ ∃sl0,st.get i=some sl0∧lendS (some sl0)=some sl:=by
 refine x02 (clears_get h) fun a b=>?_
 refine ⟨a,?_⟩
 rw [List.getElem?_map] at b
 unfold St.get
 cases e:st.ρ[i]? with
 | none=>rw [e] at b;cases b
 | some o=>
  rw [e] at b
  cases o with
  | none=>cases b
  | some sl0=>exact ⟨sl0,rfl,b⟩
theorem hZ: ∀(pat:List Nat) (ρ:List (Option Slot)),(iP pat ρ).length=ρ.length
 | [],_=>rfl
 | p::r,ρ=>(hZ r _).trans List.length_set
theorem Rel.enterC (R:Rel prog w s0 env l nt wr τ av st s)(hE:EnvNs env ns)(K:CompOk nt ns scope pat){C:Addr}{g:G}(Z:CRel prog w s0 l τc g s')(le:TM.le (aQ τ s.heap) τc)(hC:τc C=.no){m:Str→Option Value}(hm:s'.heap.Ns C m):
  Rel prog w s0 (compEnvC scope (cu env scope.names []) C env) l nt (fun x=>scope.names.lookup x==some .local) (aL τc C .loc) av ⟨(st.enter pat).ρ,g⟩ s':=by
 have ne: ∀{b:Addr} {t':Tag},τc b=t'→t'≠ .no→b≠C:=fun e n q=>n (by rw [←e,q,hC])
 have keep: ∀{b:Addr} {t':Tag},τc b=t'→t'≠ .no→aL τc C .loc b=t':=fun e n=>(az _ _ (ne e n)).trans e
 have le':TM.le τc (aL τc C .loc):=ce hC
 have pinned: ∀{a:Addr} {o:Obj},gz (τ a)=true→s.heap.get? a=some o→τc a=.pin o:=fun h ho=>le.pin _ _ (dR ho h)
 have cell: ∀{x:Str} {c:Addr},(x,NameKind.free)∈scope.names→env.cells.lookup x=some c→ ∃o,s.heap.get? c=some o∧τc c=.pin o:=by
  intro x c hx hc
  rcases R.celT x c (K.cellsIn hE hx).1 hc with h | ⟨o,h⟩
  ·obtain ⟨o,ho⟩:=R.ex c (by rw [h];simp)
   exact ⟨o,ho,pinned (by rw [h];rfl) ho⟩
  ·exact ⟨o,R.obj _ _ (.inr h),le.pin _ _ (aT h rfl)⟩
 refine {rest:=Z.rest,base:=fun a o e=>le'.frz _ _ (Z.base a o e),ex:=fun a h=>?_,obj:=fun a o h=>?_,itO:=fun a o h=>?_,kind:=?_,glb:=R.glb,ns:=⟨m,hm⟩,loc:=ax ..,wrk:=fun x hx=>?_,celT:=fun x c h1 h2=>?_,vars:=fun i x sl h1 h2 h3=>?_,g:=?_,frs:=fun e he=>?_,len:=?_,ntd:=R.ntd}
 ·by_cases q:a=C
  ·obtain rfl:=q.symm;obtain ⟨o,_,_,ho,_⟩:=hm;exact ⟨o,ho⟩
  ·rw [az _ _ q] at h;exact Z.ex a h
 ·by_cases q:a=C
  ·obtain rfl:=q.symm;rw [ax] at h;rcases h with h | h <;> cases h
  ·rw [az _ _ q] at h;exact Z.obj a o h
 ·by_cases q:a=C
  ·obtain rfl:=q.symm;rw [ax] at h;cases h
  ·rw [az _ _ q] at h;exact Z.itO a o h
 ·show scope.kind=_;exact K.kind
 ·left
  rw [b9]
  have:scope.names.lookup x=some .local:=by simpa using hx
  rw [this];rfl
 ·right
  rcases K.vis (cl:=cu env scope.names []) (.inr h1) with h | ⟨h,_⟩
  ·rw [b9,h] at h1
   rcases h1 with h1 | h1 <;> cases h1
  ·have h2':(cu env scope.names []).lookup x=some c:=h2
   rw [K.lookup hE h] at h2'
   refine x12 (cell h h2') fun o _ t=>?_
   exact ⟨o,keep t (by simp)⟩
 ·obtain ⟨hp,sl0,hg,hl⟩:=iK (st:=st) h2
  rcases K.vis h3 with h | ⟨h,hk⟩
  ·exact absurd (K.pats i x h1 h) hp
  ·have ck:=K.cellsIn hE h
   refine x13 (R.vars i x sl0 h1 hg (.inr ck.1)) fun v e1 e2 e3=>?_
   refine ⟨v,e1,?_,?_⟩
   ·rcases e2 with ⟨hl,_⟩ | ⟨_,c,hc,hv⟩
    ·rcases ck.1 with z | z <;> rw [hl] at z <;> cases z
    ·refine x12 (cell h hc) fun o ho t=>?_
     refine .inr ⟨hk,c,(K.lookup hE h).trans hc,?_⟩
     obtain ⟨o',ho',r⟩:=hv
     rw [ho] at ho';cases ho'
     exact ⟨o,Z.obj _ _ (.inr t),r⟩
   ·have subT:TM.sub τ (aL τc C .loc):=by
     have z:=dQ (τ:=τ) s.heap
     exact ⟨fun a o e=>le'.frz _ _ (le.frz _ _ (z.frz _ _ e)),fun a e=>le'.pot _ (le.pot _ (z.pot _ e)),fun a i e=>le'.bld _ _ (le.bld _ _ (z.bld _ _ e))⟩
    have con: ∀{o:Obj} {d:D},Cont prog w τ o d→Cont prog w (aL τc C .loc) o d:=by
     intro o d c
     cases d <;> simp only [Cont] at c ⊢
     ·refine x12 c fun vs x y=>?_;exact ⟨vs,x,y.sub subT⟩
     ·refine x13 c fun vs x e y=>?_;exact ⟨vs,x,e,y.sub subT⟩
    cases sl0 with
    | val d=>cases hl;exact Rep.sub subT e3
    | own d=>
     cases hl
     obtain ⟨a,o,e,t,ho,c⟩:=e3
     have t':=pinned (a:=a) (by rw [t];rfl) ho
     exact ⟨a,o,e,keep t' (by simp),Z.obj _ _ (.inr t'),con c⟩
    | lent d=>
     cases hl
     obtain ⟨a,o,e,t,ho,c⟩:=e3
     have t':=le.pin _ _ (aT (h:=s.heap) t rfl)
     exact ⟨a,o,e,keep t' (by simp),Z.obj _ _ (.inr t'),con c⟩
 ·refine Z.g.tag le'.sub (fun a h=>az _ _ fun q=>?_) fun a h=>az _ _ fun q=>?_
  ·rw [q,hC] at h;cases h
  ·rw [q,ax] at h;cases h
 ·obtain ⟨a,L,b,o,t,n⟩:=Z.frs e he
  exact ⟨a,L,b,.inr ⟨o,keep t (by simp),n⟩⟩
 ·show (iP pat (st.ρ.map lendS)).length=_
  rw [hZ,List.length_map];exact R.len
theorem Rel.renew {env':Env}{τ0 τ1:TM}{av0 av1:Nat→Option Value}{st0 st1:St}{sa sb:Shared}{wr':Str→Bool}(R0:Rel prog w s0 env' l nt wr' τ0 av0 st0 sa)(R1:Rel prog w s0 env' l nt wr' τ1 av1 st1 sb)(sub:TM.sub τ0 τ1)
  (pin: ∀a o,τ0 a=.pin o→τ1 a=.pin o)
  (hv: ∀i x sl,nt[i]? =some x→st0.get i=some sl→Vis env' x→(∀d,sl≠ .own d)∧ ∃c o,(env'.kindOf x=some .cell∨env'.kindOf x=some .free)∧env'.cells.lookup x=some c∧τ0 c=.pin o):
  Rel prog w s0 env' l nt wr' τ1 av0 ⟨st0.ρ,st1.g⟩ sb:=
 {R1 with
  g:=R1.g
  len:=R0.len
  vars:=fun i x sl h1 h2 h3=>by
   obtain ⟨no,c,o,hk,hc,t⟩:=hv i x sl h1 h2 h3
   refine x13 (R0.vars i x sl h1 h2 h3) fun v e1 e2 e3=>?_
   refine ⟨v,e1,?_,?_⟩
   ·rcases e2 with ⟨hl,_⟩ | ⟨_,c',hc',hv⟩
    ·rcases hk with z | z <;> rw [hl] at z <;> cases z
    ·rw [hc] at hc';cases hc'
     obtain ⟨o',ho',r⟩:=hv
     have:=R0.obj _ _ (.inr t)
     rw [this] at ho';cases ho'
     exact .inr ⟨hk,c,hc,o,R1.obj _ _ (.inr (pin _ _ t)),r⟩
   ·have con: ∀{o:Obj} {d:D},Cont prog w τ0 o d→Cont prog w τ1 o d:=by
     intro o d c
     cases d <;> simp only [Cont] at c ⊢
     ·refine x12 c fun vs x y=>?_;exact ⟨vs,x,y.sub sub⟩
     ·refine x13 c fun vs x e y=>?_;exact ⟨vs,x,e,y.sub sub⟩
    cases sl with
    | val d=>exact Rep.sub sub e3
    | own d=>exact absurd rfl (no d)
    | lent d=>
     obtain ⟨a,o,e,t,ho,c⟩:=e3
     exact ⟨a,o,e,pin _ _ t,R1.obj _ _ (.inr (pin _ _ t)),con c⟩}
end
theorem RP.calm {α β:Type}{r:Res α}{k:α→Res β}{P:β→Prop}{F F':Int→Prop}(h:RP (r.calm.bind k) P F):RP r (fun a=>RP (k a) P F) F':=by
 cases r with
 | ok a=>exact h
 | flt n=>exact h.elim
 | bad=>exact h.elim
structure TM.lx (τ τ':TM):Prop where
 frz: ∀a o,τ a=.frz o→τ' a=.frz o
 pin: ∀a o,τ a=.pin o→τ' a=.pin o
 pot: ∀a,τ a=.pot→τ' a=.pot
 bld: ∀a i,τ a=.bld i→τ' a=.bld i
theorem TM.le.lx {τ τ':TM}(h:TM.le τ τ'):TM.lx τ τ':=⟨h.frz,h.pin,h.pot,h.bld⟩
theorem TM.lx.sub {τ τ':TM}(h:TM.lx τ τ'):TM.sub τ τ':=⟨h.frz,h.pot,h.bld⟩
theorem TM.lx.refl (τ:TM):TM.lx τ τ:=(TM.le.refl τ).lx
theorem TM.lx.trans {a b c:TM}(x:TM.lx a b)(y:TM.lx b c):TM.lx a c:=
 ⟨fun _ _ h=>y.frz _ _ (x.frz _ _ h),fun _ _ h=>y.pin _ _ (x.pin _ _ h),fun _ h=>y.pot _ (x.pot _ h),fun _ _ h=>y.bld _ _ (x.bld _ _ h)⟩
theorem bv {τ:TM}{a:Addr}{o:Obj}{t:Tag}(h:τ a=.it o):TM.lx τ (aL τ a t):=by
 have tg: ∀{b:Addr} {t':Tag},τ b=t'→t'≠ .it o→aL τ a t b=t':=fun e n=>(az _ _ fun q=>n (by rw [←e,q,h])).trans e
 exact ⟨fun b o e=>tg e (by simp),fun b o e=>tg e (by simp),fun b e=>tg e (by simp),fun b i e=>tg e (by simp)⟩
theorem TM.le.ofLx {τ τ':TM}(h:TM.lx τ τ')(n: ∀a o,τ a≠ .it o):TM.le τ τ':=⟨h.frz,h.pin,fun a o e=>absurd e (n a o),h.pot,h.bld⟩
theorem calleeT_noit {τ:TM}{h:Heap}(a:Addr)(o:Obj):aQ τ h a≠ .it o:=by
 unfold aQ
 cases τ a <;> first | (intro q;cases q;done) | (cases h.get? a <;> intro q <;> cases q)
section
variable {prog:Program}{w:World}{s0:Shared}{ft:FT}{m:Nat}{nt:List Str}{ns:List (Str×NameKind)}
structure ST (prog:Program)(w:World)(s0:Shared)(ft:FT)(m:Nat)(nt:List Str)(ns:List (Str×NameKind))(es:List PySem.Expr)(Xs:List E):Prop where
 run: ∀{env:Env} {l:List Env} {wr:Str→Bool} {A:Around} {av:Nat→Option Value} {τ:TM} {st:St} {s:Shared} {Q:Bool→Shared→Prop} {Er:Value→Shared→Prop},
  EnvNs env ns→Cx A l (m + 1)→Rel prog w s0 env l nt wr τ av st s→RP (br ft Xs st) (OkB prog w s0 nt env l wr av τ Q) (FlP w s0 l τ Er)→
  wpAny (model prog w) A (forIn es true fun c r=>if r=true then do let ok ←isTrue c env (eval c env);pure (ForInStep.yield ok) else pure (ForInStep.yield r)) Q Er s
theorem jo {M:Model}{A:Around}{env:Env}{Q:Bool→Shared→Prop}{Er:Value→Shared→Prop}{s:Shared}(h:Q false s): ∀es:List PySem.Expr,
  wpAny M A (forIn es false fun c r=>if r=true then do let ok ←isTrue c env (eval c env);pure (ForInStep.yield ok) else pure (ForInStep.yield r)) Q Er s
 | []=>wpAny_pure h
 | e::r=>by
  simp only [List.forIn_cons,Bool.false_eq_true,if_false]
  exact wpAny_bind (wpAny_pure (jo h r))
theorem cw:ST prog w s0 ft m nt ns [] []:=⟨fun _ _ R h=>by
 rw [List.forIn_nil];exact wpAny_pure (h true _ _ rfl (TM.le.refl _) R)⟩
theorem d6 {e:PySem.Expr}{X:E}{es:List PySem.Expr}{Xs:List E}(h1:SB prog w s0 ft m nt ns e X)(h2:ST prog w s0 ft m nt ns es Xs):ST prog w s0 ft m nt ns (e::es) (X::Xs):=by
 refine ⟨?_⟩
 intro env l wr A av τ st s Q Er hE hC R h
 simp only [List.forIn_cons,if_true]
 refine wpAny_bind (wpAny_bind (h1.split (k:=fun t s=>match t with | true=>br ft Xs s | false=>.ok (.bool false,s)) hE hC R h fun b st' τ1 s1 le1 R1 hp=>wpAny_pure ?_))
 cases b with
 | true=>exact h2.run hE hC R1 hp
 | false=>exact jo (hp false τ1 s1 rfl (TM.le.refl _) R1) es
end
section
variable {prog:Program}{w:World}{s0:Shared}{env env':Env}{l:List Env}{nt:List Str}{ns ns':List (Str×NameKind)}{wr wr':Str→Bool}{τ τ' τ0 τc:TM}{av:Nat→Option Value}{st:St}{s s':Shared}{scope:Scope}{pat:List Nat}{g:G}
theorem CRel.fresh (R:CRel prog w s0 l τ g s):τ s.heap.objs.size=.no:=by
 cases h:τ s.heap.objs.size with
 | no=>rfl
 | _=>
  obtain ⟨o,e⟩:=R.ex s.heap.objs.size (by rw [h];simp)
  exact absurd (Heap.lt_size e) (Nat.lt_irrefl _)
theorem CRel.grow (R:CRel prog w s0 l τ g s){h':Heap}{tk:Nat}(k: ∀b o,s.heap.get? b=some o→h'.get? b=some o):CRel prog w s0 l τ g {s with heap:=h',toks:=tk} where
 rest:=⟨R.rest.1,R.rest.2,R.rest.3⟩
 base:=R.base
 ex a h:=let ⟨o,e⟩:=R.ex a h;⟨o,k _ _ e⟩
 obj a o h:=k _ _ (R.obj a o h)
 itO a o h:=k _ _ (R.itO a o h)
 g:=R.g.heap fun _ _ _ e=>k _ _ e
 frs:=R.frs
theorem CRel.tagIt (R:CRel prog w s0 l τ g s){a:Addr}{o:Obj}(ha:τ a=.no)(ho:s.heap.get? a=some o):CRel prog w s0 l (aL τ a (.it o)) g s:=by
 have le:=ce (t:=.it o) ha
 refine {rest:=R.rest,base:=fun b o e=>le.frz _ _ (R.base b o e),ex:=fun b h=>?_,obj:=fun b o' h=>?_,itO:=fun b o' h=>?_,g:=?_,frs:=fun e he=>?_}
 ·by_cases q:b=a
  ·obtain rfl:=q.symm;exact ⟨o,ho⟩
  ·rw [az _ _ q] at h;exact R.ex b h
 ·by_cases q:b=a
  ·obtain rfl:=q.symm;rw [ax] at h;rcases h with h | h <;> cases h
  ·rw [az _ _ q] at h;exact R.obj b o' h
 ·by_cases q:b=a
  ·obtain rfl:=q.symm;rw [ax] at h;cases h;exact ho
  ·rw [az _ _ q] at h;exact R.itO b o' h
 ·refine R.g.tag le.sub (fun b h=>az _ _ fun q=>?_) fun b h=>az _ _ fun q=>?_
  ·rw [q,ha] at h;cases h
  ·rw [q,ax] at h;cases h
 ·obtain ⟨x,L,b,o',t,n⟩:=R.frs e he
  exact ⟨x,L,b,o',le.pin _ _ t,n⟩
theorem CRel.alloc (R:CRel prog w s0 l τ g s){o:Obj}(hf:o.isFreed=false){tk:Nat}:CRel prog w s0 l (aL τ s.heap.objs.size (.it o)) g {s with heap:=s.heap.push o,toks:=tk}:=
 (R.grow (h':=s.heap.push o) (tk:=tk) fun _ _ e=>Heap.get?_push_of_some _ e).tagIt R.fresh (Heap.get?_push_size _ hf)
theorem Rel.toC (R:Rel prog w s0 env l nt wr τ av st s){s1:Shared}{g1:G}(Z:CRel prog w s0 l τc g1 s1)(lx:TM.lx τc τ):CRel prog w s0 l τ st.g s where
 rest:=R.rest
 base:=R.base
 ex:=R.ex
 obj:=R.obj
 itO:=R.itO
 g:=R.g
 frs e he:=by
  obtain ⟨x,L,b,o',t,n⟩:=Z.frs e he
  exact ⟨x,L,b,o',lx.pin _ _ t,n⟩
noncomputable def compF (ft:FT)(pat:List Nat)(conds:List E)(elt:E)(ρ:List (Option Slot)):D→St→Res (List D×St):=fun d s=>
 (Res.ofOpt (bb s pat d)).bind fun s1=>(br ft conds s1).bind fun t=>match t.1 with
  | .bool true=>(ev ft elt t.2).bind fun q=>.ok ([q.1],{q.2 with ρ:=ρ})
  | _=>.ok ([],{t.2 with ρ:=ρ})
noncomputable def OutV (nt:List Str)(env':Env)(τ:TM)(st:St):Prop:= ∀i x sl,nt[i]? =some x→st.get i=some sl→Vis env' x→(∀d,sl≠ .own d)∧ ∃c o,(env'.kindOf x=some .cell∨env'.kindOf x=some .free)∧env'.cells.lookup x=some c∧τ c=.pin o
section
variable {ft:FT}{m:Nat}{A:Around}{conds:List E}{X:E}{ρ0:List (Option Slot)}{g0:G}{s00:Shared}
theorem comp_list_loop {elt target iter:PySem.Expr}{ifs:List PySem.Expr}{pos:Pos}{I Ac:Addr}{Rz:Result→Shared→Prop}{P:List D→G→Prop}{F:Int→Prop}
  (hC:Cx A l (m + 1)) (hN:EnvNs env' ns') (hp:Pat nt wr' target pat) (hT:ST prog w s0 ft m nt ns' ifs conds) (hX:SE prog w s0 ft m nt ns' elt X)
  (R0:Rel prog w s0 env' l nt wr' τ0 av ⟨ρ0,g0⟩ s00) (hv:OutV nt env' τ0 ⟨ρ0,g0⟩) (hIA:I≠Ac)
  (fin: ∀τ1 g1 s' oD vs xs,Rel prog w s0 env' l nt wr' τ1 av ⟨ρ0,g1⟩ s'→TM.lx τ0 τ1→τ1 Ac=.it oD→SeqObj "list" oD vs→RepL prog w τ1 vs xs→P xs g1→Rz (.ok .next) s'):
  ∀(ds:List D) (τ1:TM) (g1:G) (s':Shared) (oI oD:Obj) (vs:List Value) (xs:List D),Rel prog w s0 env' l nt wr' τ1 av ⟨ρ0,g1⟩ s'→TM.lx τ0 τ1→τ1 I=.it oI→ItO prog w τ1 oI ds→τ1 Ac=.it oD→SeqObj "list" oD vs→RepL prog w τ1 vs xs→
   xs.length + ds.length≤1000000→RP (cC (compF ft pat conds X ρ0) ds ⟨ρ0,g1⟩) (fun q=>P (xs++q.1) q.2.g) F→
   codeAny (model prog w) A (.compLoop (.ListComp elt [⟨target,iter,ifs,0⟩] scope pos) 0 (.ref I) (.ref Ac) env') Rz s':=by
 refine lind ?_ fun d ds ih=>?_
 ·intro τ1 g1 s' oI oD vs xs R lx hI hit hA hD rv hz h
  refine codeAny_of_tree ?_
  show wpAny _ A ((compTurn (.ListComp elt [⟨target,iter,ifs,0⟩] scope pos) 0 (.ref I) (.ref Ac) env').onRaise (fun x=>do noteFrame x env';theTreesLotGoes x)) _ _ s'
  refine wpAny_noted ?_
  rw [compTurn_list]
  refine wpAny_bind (wpAny_standAt (wpAny_bind (fU R.obj hC.handled (R.itO _ _ hI) hit fun h' he=>wpAny_pure ?_)))
  have h:P (xs++[]) g1:=h
  rw [List.append_nil] at h
  refine fin (aL τ1 I .no) g1 _ oD vs xs (R.turnIt (tk:=s'.toks) hI he (.inl rfl)) (lx.trans (bv hI)) ?_ hD (rv.set hI) h
  rw [az _ _ (Ne.symm hIA)];exact hA
 ·intro τ1 g1 s' oI oD vs xs R lx hI hit hA hD rv hz h
  refine codeAny_of_tree ?_
  show wpAny _ A ((compTurn (.ListComp elt [⟨target,iter,ifs,0⟩] scope pos) 0 (.ref I) (.ref Ac) env').onRaise (fun x=>do noteFrame x env';theTreesLotGoes x)) _ _ s'
  refine wpAny_noted ?_
  rw [compTurn_list]
  refine wpAny_bind (wpAny_standAt (wpAny_bind (fu R.obj hI (R.itO _ _ hI) hit fun v h' tk oI' hs hg rd hit'=>?_)))
  have R2:=R.turnIt (tk:=tk) hI hs.extBut (t:=.it oI') (.inr ⟨oI',.inl rfl,hg⟩)
  have lx2:=lx.trans (bv (t:=.it oI') hI)
  have hI2:aL τ1 I (.it oI') I=.it oI':=ax ..
  have hA2:aL τ1 I (.it oI') Ac=.it oD:=(az _ _ (Ne.symm hIA)).trans hA
  have hit2:=hit'.set (t:=.it oI') hI
  have rd2:Rep prog w (aL τ1 I (.it oI')) v d:=rd.sub (bv (t:=.it oI') hI).sub
  have rv2:=rv.set (t:=.it oI') hI
  refine wpAny_bind (go_it (s:={s' with heap:=h',toks:=tk}) hg hit' ?_)
  have h:=RP.calm (F':=fun _=>False) h
  unfold compF at h
  refine x12 (RP.ofOpt h) fun s1 ht h=>?_
  refine wpAny_bind (gY hC.handled hp R2 rd2 ht fun av1 h1 tk1 R3=>?_)
  have hI3:τ1 I=τ1 I:=rfl
  refine wpAny_bind (hT.run hN hC R3 (h.bind.mono (fun p hq b τ4 s4 hb le4 R4=>?_) fun ln f=>f.elim))
  have lx4:=lx2.trans le4.lx
  have hz':xs.length + (ds.length + 1)≤1000000:=hz
  cases b with
  | false=>
   rw [hb] at hq
   have hq:RP (cC (compF ft pat conds X ρ0) ds ⟨ρ0,p.2.g⟩) (fun q=>P (xs++q.1) q.2.g) F:=hq.bind.mono (fun q hq=>by have hq:P (xs++([]++q.1)) q.2.g:=hq;simpa using hq) fun _ f=>f
   refine wpAny_pure ⟨rfl,ih _ p.2.g _ oI' oD vs xs (R0.renew R4 lx4.sub lx4.pin hv) lx4 (le4.it _ _ hI2) (hit2.mono le4) (le4.it _ _ hA2) hD (rv2.mono le4) (Nat.le_of_lt ‹_›) hq⟩
  | true=>
   rw [hb] at hq
   refine wpAny_bind (wpAny_bind (hX.run hN hC R4 (hq.bind.mono (fun q hq x τ5 s5 le5 rx R5=>?_) fun ln (f:False)=>f.elim)))
   have lx5:=lx4.trans le5.lx
   have hA5:=le5.it _ _ (le4.it _ _ hA2)
   have hI5:=le5.it _ _ (le4.it _ _ hI2)
   have oA:=R5.itO _ _ hA5
   have hD':=hD
   obtain ⟨n,hDn⟩:=hD'
   rw [hDn] at oA
   have hl:=rv.length
   refine wpAny_bind (wpAny_list_append_plain (items:=vs.toArray) ⟨n,oA⟩ (fun h6 hp6 hs6=>wpAny_pure (wpAny_pure ⟨rfl,?_⟩)) (by simp only [List.size_toArray,hl,sizeLine];exact nl [_,_] [(.a N0 (.s N1),.n 1000000)] N0 (.n 16777216) rfl hz'))
   obtain ⟨n6,ho6⟩:=hp6
   have R6:=R5.turnIt (tk:=s5.toks) hA5 hs6.extBut (t:=.it _) (.inr ⟨_,.inl rfl,ho6⟩)
   have lx6:=lx5.trans (bv (t:=.it {cls:=.type "list",data:=.seq (vs.toArray.push x) n6}) hA5)
   have hI6:aL _ Ac (.it {cls:=.type "list",data:=.seq (vs.toArray.push x) n6}) I=.it oI':=(az _ _ hIA).trans hI5
   have hq:RP (cC (compF ft pat conds X ρ0) ds ⟨ρ0,q.2.g⟩) (fun q'=>P ((xs++[q.1])++q'.1) q'.2.g) F:=RP.mono (RP.bind hq) (fun q' hq=>by have hq:P (xs++([q.1]++q'.1)) q'.2.g:=hq;simpa using hq) fun _ f=>f
   refine ih _ q.2.g _ oI' _ (vs++[x]) (xs++[q.1]) (R0.renew R6 lx6.sub lx6.pin hv) lx6 hI6 ((hit2.mono (le4.trans le5)).set hA5) (ax ..) ⟨n6,by simp⟩ ?_ (by simp;exact nl [_,_] [(.a N0 (.s N1),.n 1000000)] (.a (.s N0) N1) (.n 1000000) rfl hz') hq
   exact (((rv2.mono (le4.trans le5)).snoc rx).set hA5)
theorem iter_self {E:Value→Shared→Prop}{I:Addr}{oI:Obj}{ds:List D}(ho:s.heap.get? I=some oI)(z:ItO prog w τ oI ds){Q:Value→Shared→Prop}(h:Q (.ref I) s):wpAny (model prog w) A (pyIter (.ref I)) Q E s:=by
 rcases z with ⟨l,i,lo,vs,all,a,b,_⟩ | ⟨x,n,rfl,_⟩
 ·exact wpAny_pyIter_listiter (l:=l) (i:=i) ⟨oI,ho,a,b⟩ h
 ·exact wpAny_pyIter_rangeiter ho h
noncomputable def Src (prog:Program)(w:World)(τ:TM)(h:Heap)(x:Value)(ds:List D):Prop:=
 (∃l lo vs,x=.ref l∧h.get? l=some lo∧(τ l=.frz lo∨τ l=.pin lo∨gz (τ l)=true)∧SeqObj "list" lo vs∧RepL prog w τ vs ds)∨
 (∃r n t u v,x=.ref r∧IsRange h r 0 n 1 t u v∧c9 n=true∧ds=cP n)
theorem src_iter {E:Value→Shared→Prop}{x:Value}{ds:List D}(z:Src prog w τ s.heap x ds){Q:Value→Shared→Prop}
  (hQ: ∀o,o.isFreed=false→ItO prog w (aQ τ s.heap) o ds→Q (.ref s.heap.objs.size) {s with heap:=s.heap.push o}):wpAny (model prog w) A (pyIter x) Q E s:=by
 rcases z with ⟨l,lo,vs,rfl,hl,ht,hs,rv⟩ | ⟨r,n,t,u,v,rfl,hr,hn,rfl⟩
 ·refine wpAny_pyIter_list (items:=vs.toArray) (hs.isList hl) (hQ _ rfl (.inl ⟨l,0,lo,vs,ds,rfl,rfl,?_,hs,rv.sub (dQ _),rfl⟩))
  rcases ht with h | h | h
  ·exact .inl (aT h rfl)
  ·exact .inr (aT h rfl)
  ·exact .inr (dR hl h)
 ·simp only [c9,Bool.and_eq_true,decide_eq_true_eq] at hn
  have hsz:Builtin.Range.rangeSize 0 n 1=n:=by
   simp only [Builtin.Range.rangeSize]
   split <;> (try split) <;> (try omega)
  refine wpAny_pyIter_range hr ?_ ?_
  ·simp only [Builtin.Range.small,hsz,Builtin.Range.rangeFitsLong]
   simp
   exact ⟨⟨ni [_] [(.n 0,Z0)] (.n (-9223372036854775808)) Z0 rfl hn.1,ni [_] [(Z0,.n 1000)] (.s Z0) (.n 9223372036854775808) rfl hn.2⟩,.inr (⟨ni [_] [(.n 0,Z0)] (.n (-9223372036854775808)) Z0 rfl hn.1,ni [_] [(Z0,.n 1000)] (.s Z0) (.n 9223372036854775808) rfl hn.2⟩)⟩
  ·rw [hsz]
   refine hQ _ rfl (.inr ⟨0,n.toNat,?_,?_⟩)
   ·have:((n.toNat:Nat):Int)=n:=by omega
    rw [this]
   ·unfold cP
    exact List.map_congr_left fun j _=>by rw [Int.zero_add]
end
end
section
variable {prog:Program}{w:World}{s0:Shared}{env env':Env}{l:List Env}{nt:List Str}{ns:List (Str×NameKind)}{wr:Str→Bool}{τ τ' τ0 τc:TM}{av:Nat→Option Value}{st:St}{s s':Shared}{scope:Scope}{pat:List Nat}{g:G}
variable {ft:FT}{m:Nat}{A:Around}{conds:List E}{X:E}
noncomputable def Nt (τ:TM)(C:Addr):Prop:=(∀o,τ C≠ .frz o)∧(∀o,τ C≠ .pin o)∧(∀o,τ C≠ .it o)∧τ C≠ .pot∧ ∀i,τ C≠ .bld i
theorem Nt.of {C:Addr}(h:τ C=.no):Nt τ C:=by
 refine ⟨fun o e=>?_,fun o e=>?_,fun o e=>?_,fun e=>?_,fun i e=>?_⟩ <;> rw [h] at e <;> cases e
theorem Nt.le {C:Addr}(h:TM.le τ τ')(z:Nt τ' C):Nt τ C:=
 ⟨fun o e=>z.1 o (h.frz _ _ e),fun o e=>z.2.1 o (h.pin _ _ e),fun o e=>z.2.2.1 o (h.it _ _ e),fun e=>z.2.2.2.1 (h.pot _ e),fun i e=>z.2.2.2.2 i (h.bld _ _ e)⟩
theorem setT_le2 {τ τ':TM}{a:Addr}{t:Tag}(h:TM.le τ τ')(ha:Nt τ a):TM.le τ (aL τ' a t):=by
 have ne: ∀{b:Addr} {t':Tag},τ b=t'→(b=a→False)→τ' b=t'→aL τ' a t b=t':=fun _ n e'=>(az _ _ fun q=>n q).trans e'
 exact ⟨fun b o e=>ne e (fun q=>ha.1 o (q▸e)) (h.frz _ _ e),fun b o e=>ne e (fun q=>ha.2.1 o (q▸e)) (h.pin _ _ e),fun b o e=>ne e (fun q=>ha.2.2.1 o (q▸e)) (h.it _ _ e),
  fun b e=>ne e (fun q=>ha.2.2.2.1 (q▸e)) (h.pot _ e),fun b i e=>ne e (fun q=>ha.2.2.2.2 i (q▸e)) (h.bld _ _ e)⟩
noncomputable def EndP (prog:Program)(w:World)(s0:Shared)(env:Env)(l:List Env)(nt:List Str)(wr:Str→Bool)(τ:TM)(av:Nat→Option Value)(ρ:List (Option Slot))(K:Value→Addr→Shared→Prop)(d:D)(g:G):Prop:=
 ∀v τ2 s2 C oC,TM.le τ τ2→Rep prog w τ2 v d→Rel prog w s0 env l nt wr τ2 av ⟨ρ,g⟩ s2→τ2 C=.it oC→Nt τ C→(∃mm,s2.heap.Ns C mm)→K v C s2
theorem outV (R:Rel prog w s0 env l nt wr τ av st s)(hE:EnvNs env ns)(K:CompOk nt ns scope pat){C:Addr}{τ0:TM}(le: ∀a o,τ a=.pin o∨(gz (τ a)=true∧s.heap.get? a=some o)→τ0 a=.pin o)(g:G):
  OutV nt (compEnvC scope (cu env scope.names []) C env) τ0 ⟨(st.enter pat).ρ,g⟩:=by
 intro i x sl h1 h2 h3
 obtain ⟨hp,sl0,hg,hl⟩:=iK (st:=st) h2
 rcases K.vis h3 with h | ⟨h,hk⟩
 ·exact absurd (K.pats i x h1 h) hp
 ·refine ⟨fun d q=>?_,?_⟩
  ·subst q;cases sl0 <;> cases hl
  ·have ck:=K.cellsIn hE h
   refine x11 (Option.isSome_iff_exists.mp ck.2) fun c hc=>?_
   have hc':(compEnvC scope (cu env scope.names []) C env).cells.lookup x=some c:=(K.lookup hE h).trans hc
   rcases R.celT x c ck.1 hc with t | ⟨o,t⟩
   ·obtain ⟨o,ho⟩:=R.ex c (by rw [t];simp)
    exact ⟨c,o,hk,hc',le _ _ (.inr ⟨by rw [t];rfl,ho⟩)⟩
   ·exact ⟨c,o,hk,hc',le _ _ (.inl t)⟩
theorem gU {e:PySem.Expr}{newAcc:Sem Value}{acc0:Obj}{use:Option (Value→Sem Unit)}{Q E:Value→Shared→Prop}{x:Value}{ds:List D}(Fin:TM→Obj→G→Prop)
  (hE:EnvNs env ns) (R:Rel prog w s0 env l nt wr τ av st s) (K:CompOk nt ns scope pat) (src:Src prog w τ s.heap x ds)
  (hnew: ∀(s:Shared) (Q:Value→Shared→Prop),Q (.ref s.heap.objs.size) {s with heap:=s.heap.push acc0}→wpAny (model prog w) A newAcc Q E s) (hfr:acc0.isFreed=false)
  (hst: ∀{it acc:Value} {env':Env} {Rz:Result→Shared→Prop} {s:Shared},codeAny (model prog w) A (.compLoop e 0 it acc env') Rz s→
   wpAny (model prog w) A (pyIter it) (fun it' s'=>codeAny (model prog w) A (.compLoop e 0 it' acc env') Rz s') (notedBy (model prog w) A env' fun x s'=>Rz (.error x) s') s→codeAny (model prog w) A (.compStart e 0 it acc env') Rz s)
  (hloop: ∀{C:Addr} {τ0:TM} {s00:Shared} {I Ac:Addr} {oI:Obj} {Rz:Result→Shared→Prop},Rel prog w s0 (compEnvC scope (cu env scope.names []) C env) l nt (fun x=>scope.names.lookup x==some .local) τ0 av ⟨(st.enter pat).ρ,st.g⟩ s00→
   OutV nt (compEnvC scope (cu env scope.names []) C env) τ0 ⟨(st.enter pat).ρ,st.g⟩→I≠Ac→τ0 I=.it oI→ItO prog w τ0 oI ds→τ0 Ac=.it acc0→
   (∀τ1 g1 s' oD,Rel prog w s0 (compEnvC scope (cu env scope.names []) C env) l nt (fun x=>scope.names.lookup x==some .local) τ1 av ⟨(st.enter pat).ρ,g1⟩ s'→TM.lx τ0 τ1→τ1 Ac=.it oD→Fin τ1 oD g1→Rz (.ok .next) s')→
   codeAny (model prog w) A (.compLoop e 0 (.ref I) (.ref Ac) (compEnvC scope (cu env scope.names []) C env)) Rz s00)
  (hEnd: ∀{τ1 τ2:TM} {oD:Obj} {g1:G} {Ac C:Addr} {oC:Obj} {s2:Shared},Fin τ1 oD g1→TM.sub τ1 τ2→TM.le τ τ2→τ2 Ac=.frz oD→s.heap.objs.size≤Ac→Rel prog w s0 env l nt wr τ2 av ⟨st.ρ,g1⟩ s2→τ2 C=.it oC→τ C=.no→(∃mm,s2.heap.Ns C mm)→
   compPost (model prog w) A E use Q (.ref Ac) C (.ok .next) s2):
  wpAny (model prog w) A (pyIter x) (fun it s₂=>wpAny (model prog w) A newAcc (fun acc s₃=>wpAny (model prog w) A (newFunctionEnv scope env.globals (cu env scope.names []) [] env.qual none .none (some env)) (fun cenv s₄=>
   codeAny (model prog w) A (.compStart e 0 it acc {cenv with scope:=relabel scope env}) (compPost (model prog w) A E use Q acc cenv.locals) s₄) E s₃) E s₂) E s:=by
 refine src_iter src fun oI fI hit=>?_
 have Z0:=R.callee
 have Z1:=Z0.alloc fI (tk:=s.toks)
 have n1:aQ τ s.heap s.heap.objs.size=.no:=Z0.fresh
 have le1:TM.le (aQ τ s.heap) (aL (aQ τ s.heap) s.heap.objs.size (.it oI)):=ce n1
 refine hnew _ _ ?_
 simp only
 generalize hA:(s.heap.push oI).objs.size=Ac
 have hAI:Ac=s.heap.objs.size + 1:=by rw [←hA,Heap.size_push]
 have Z2:=Z1.alloc (o:=acc0) hfr (tk:=s.toks)
 have n2:=Z1.fresh
 simp only [hA] at Z2 n2
 have le2:=ce (t:=.it acc0) n2
 refine wpAny_newFunctionEnv K.cells (by intro y hy;simp at hy) (fun h₁ hns₁ hsb₁=>?_) K.kind
 dsimp only at hns₁ hsb₁ ⊢
 generalize hC1:((s.heap.push oI).push acc0).objs.size=C at hns₁ hsb₁ ⊢
 have hCI:C=s.heap.objs.size + 1 + 1:=by rw [←hC1,Heap.size_push,hA,hAI]
 have n3:=Z2.fresh
 have Z3:=Z2.grow (h':=h₁) (tk:=s.toks + ([]:List (Str×Value)).length) fun b o e=>hsb₁.extBut b o (fun hb=>by have:=Heap.lt_size e;rw [hb] at this;exact absurd hC1 (Nat.ne_of_gt this)) (Heap.get?_push_of_some _ e)
 simp only at n3
 rw [hC1] at n3
 have le3:=le1.trans le2
 have R0:=R.enterC hE K Z3 le3 n3 hns₁
 have le4:=ce (t:=.loc) n3
 have fr: ∀a,s.heap.objs.size≤a→τ a=.no:=fun a ha=>by
  cases q:τ a with
  | no=>rfl
  | _=>
   obtain ⟨o,e⟩:=R.ex a (by rw [q];simp)
   exact absurd (Heap.lt_size e) (Nat.not_lt.mpr ha)
 have hIA:s.heap.objs.size≠Ac:=by exact fun e=>nf [_,_] [(.s N0,N1),(N1,N0)] rfl (Nat.le_of_eq hAI.symm) (Nat.le_of_eq e.symm)
 have hIt:=(hit.mono le3).mono le4
 have tI:=le4.it _ _ (le2.it _ _ (ax (aQ τ s.heap) s.heap.objs.size (.it oI)))
 have tA:=le4.it _ _ (ax (aL (aQ τ s.heap) s.heap.objs.size (.it oI)) Ac (.it acc0))
 have hv:=outV R hE K (C:=C) (τ0:=aL (aL (aL (aQ τ s.heap) s.heap.objs.size (.it oI)) Ac (.it acc0)) C .loc)
  (fun a o z=>le4.pin _ _ (le3.pin _ _ (by rcases z with z | ⟨z,ho⟩;exact aT z rfl;exact dR ho z))) st.g
 have cr:=hloop (Rz:=compPost (model prog w) A E use Q (.ref Ac) C) R0 hv hIA tI hIt tA
  (fun τ1 g1 s1 oD R1 lx tD hF=>by
   have lx1:TM.lx (aQ τ s.heap) τ1:=(le3.trans le4).lx.trans lx
   have tC:=R1.loc
   have R2:=R1.turnIt (tk:=s1.toks) tD (Heap.SameBut.refl Ac s1.heap).extBut (t:=.frz oD) (.inr ⟨oD,.inr (.inl rfl),R1.itO _ _ tD⟩)
   have lx2:=lx1.trans (bv (t:=.frz oD) tD)
   have Z5:=R2.toC Z3 ((le4.lx.trans lx).trans (bv (t:=.frz oD) tD))
   have le5:=TM.le.ofLx lx2 calleeT_noit
   have R3:=R.back le5 Z5
   have tC2:bS τ (aL τ1 Ac (.frz oD)) C=.no:=by
    unfold bS
    rw [fr C (by exact nl [_,_] [(.s (.s N0),N1)] N0 N1 rfl (Nat.le_of_eq hCI.symm))]
    simp only
    rw [az _ _ (show C≠Ac by exact fun e=>nf [_,_,_] [(.s (.s N0),N1),(N1,N2),(N2,.s N0)] rfl (Nat.le_of_eq hCI.symm) (Nat.le_of_eq e) (Nat.le_of_eq hAI)),show τ1 C=.loc from tC]
    rfl
   obtain ⟨mm,hmm⟩:=R2.ns
   obtain ⟨oC,es,ep,hoC,hr⟩:=id hmm
   have R4:=R3.tag (t:=.it oC) tC2 hoC (.inr (.inr rfl))
   have le6:=gX (τ:=τ) le5
   have sub1:=(bv (t:=.frz oD) tD).sub
   have sub2:=gV R le5
   have sub3:=(ce (t:=.it oC) tC2).sub
   refine hEnd hF ⟨fun a o e=>sub3.frz _ _ (sub2.frz _ _ (sub1.frz _ _ e)),fun a e=>sub3.pot _ (sub2.pot _ (sub1.pot _ e)),fun a i e=>sub3.bld _ _ (sub2.bld _ _ (sub1.bld _ _ e))⟩ (cR le6 (fr C (by exact nl [_,_] [(.s (.s N0),N1)] N0 N1 rfl (Nat.le_of_eq hCI.symm)))) ?_ (by exact nl [_,_] [(.s N0,N1)] N0 N1 rfl (Nat.le_of_eq hAI.symm)) R4 (ax ..) (fr C (by exact nl [_,_] [(.s (.s N0),N1)] N0 N1 rfl (Nat.le_of_eq hCI.symm))) ⟨mm,hmm⟩
   rw [az _ _ (show Ac≠C by exact fun e=>nf [_,_,_] [(.s (.s N0),N1),(N1,N2),(N2,.s N0)] rfl (Nat.le_of_eq hCI.symm) (Nat.le_of_eq e.symm) (Nat.le_of_eq hAI))]
   unfold bS
   rw [fr Ac (by exact nl [_,_] [(.s N0,N1)] N0 N1 rfl (Nat.le_of_eq hAI.symm))]
   simp only
   rw [ax])
 exact hst cr (iter_self (R0.itO _ _ tI) hIt cr)
theorem iO {elt target iter:PySem.Expr}{ifs:List PySem.Expr}{pos:Pos}{use:Option (Value→Sem Unit)}{Q E:Value→Shared→Prop}{x:Value}{ds:List D}{F:Int→Prop}
  (hC:Cx A l (m + 1)) (hE:EnvNs env ns) (R:Rel prog w s0 env l nt wr τ av st s) (K:CompOk nt ns scope pat) (src:Src prog w τ s.heap x ds) (hlen:ds.length≤1000)
  (hp:Pat nt (fun x=>scope.names.lookup x==some .local) target pat) (hT:ST prog w s0 ft m nt scope.names ifs conds) (hX:SE prog w s0 ft m nt scope.names elt X)
  (h:RP (cC (compF ft pat conds X (st.enter pat).ρ) ds (st.enter pat)) (fun q=>EndP prog w s0 env l nt wr τ av st.ρ (fun v C s2=>compPost (model prog w) A E use Q v C (.ok .next) s2) (.lst q.1) q.2.g) F):
  wpAny (model prog w) A (pyIter x) (fun it s₂=>wpAny (model prog w) A (newList []) (fun acc s₃=>wpAny (model prog w) A (newFunctionEnv scope env.globals (cu env scope.names []) [] env.qual none .none (some env)) (fun cenv s₄=>
   codeAny (model prog w) A (.compStart (.ListComp elt [⟨target,iter,ifs,0⟩] scope pos) 0 it acc {cenv with scope:=relabel scope env}) (compPost (model prog w) A E use Q acc cenv.locals) s₄) E s₃) E s₂) E s:=by
 refine gU (acc0:={cls:=.type "list",data:=.seq ([]:List Value).toArray})
  (fun τ1 oD g1=> ∃vs xs,SeqObj "list" oD vs∧RepL prog w τ1 vs xs∧EndP prog w s0 env l nt wr τ av st.ρ (fun v C s2=>compPost (model prog w) A E use Q v C (.ok .next) s2) (.lst xs) g1)
  hE R K src (fun s Q h=>wpAny_newObj_type h) rfl codeAny_compStart_list (fun R0 hv hIA tI hIt tA fin=>?_) fun ⟨vs,xs,hD,rv,hP⟩ sub le tA _ R2 tC fC hm=>hP _ _ _ _ _ le (.lst tA hD (rv.sub sub)) R2 tC (.of fC) hm
 exact comp_list_loop (P:=fun xs g=>EndP prog w s0 env l nt wr τ av st.ρ (fun v C s2=>compPost (model prog w) A E use Q v C (.ok .next) s2) (.lst xs) g) (F:=F) (iter:=iter) (pos:=pos) (scope:=scope)
  hC (K.envNs hE _) hp hT hX R0 hv hIA (fun τ1 g1 s1 oD vs xs R1 lx tD hD rv hP=>fin τ1 g1 s1 oD R1 lx tD ⟨vs,xs,hD,rv,hP⟩)
  ds _ st.g _ _ _ [] [] R0 (TM.lx.refl _) tI hIt tA ⟨0,rfl⟩ .nil (by simp;exact lec ‹_› (by rfl)) (RP.mono h (fun q hq=>by simpa using hq) fun _ f=>f)
theorem EndP.le {K:Value→Addr→Shared→Prop}{d:D}{g:G}{ρ:List (Option Slot)}(hle:TM.le τ τ')(h:EndP prog w s0 env l nt wr τ av ρ K d g):EndP prog w s0 env l nt wr τ' av ρ K d g:=
 fun v τ2 s2 C oC le rv R2 tC fC hm=>h v τ2 s2 C oC (hle.trans le) rv R2 tC (fC.le hle) hm
theorem endUse {Q:Flow→Shared→Prop}{E:Value→Shared→Prop}{d:D}{g:G}{ρ:List (Option Slot)}{i:Nat}{x:Str}{p:Pos}(hx:nt[i]? =some x)(hw:wr x=true)
  (h: ∀av' τ' s',TM.le τ τ'→Rel prog w s0 env l nt wr τ' av' ((St.mk ρ g).set i (.val d)) s'→Q .next s'):
  EndP prog w s0 env l nt wr τ av ρ (fun v C s2=>compPost (model prog w) A E (some (assign (.Name x p) env)) (fun _ s'=>Q .next s') v C (.ok .next) s2) d g:=by
 intro v τ2 s2 C oC le rv R2 tC fC hm
 refine wpAny_assign_Name (bV R2 (sl:=.val d) hx hw rv fun h' tk R3=>?_)
 obtain ⟨mm,hmm⟩:=hm
 obtain ⟨o,es,ep,ho,r⟩:=hmm
 have e:=Option.some.inj (ho.symm.trans (R2.itO _ _ tC))
 subst e
 refine ⟨mm,⟨_,es,ep,R3.itO _ _ tC,r⟩,fun h'' hs=>?_⟩
 exact h _ _ _ (setT_le2 le fC) (R3.turnIt (tk:=tk) tC hs.extBut (.inl rfl))
theorem endPlain {Q E:Value→Shared→Prop}{d:D}{g:G}{ρ:List (Option Slot)}(h:OkP prog w s0 nt env l wr av τ Q (d,⟨ρ,g⟩)):
  EndP prog w s0 env l nt wr τ av ρ (fun v C s2=>compPost (model prog w) A E none Q v C (.ok .next) s2) d g:=by
 intro v τ2 s2 C oC le rv R2 tC fC hm
 refine x11 hm fun mm hmm=>?_
 refine ⟨mm,hmm,fun h' hs=>?_⟩
 exact h v _ _ (setT_le2 le fC) (rv.sub (bv tC).sub) (R2.turnIt (tk:=s2.toks) tC hs.extBut (.inl rfl))
end
section
variable {prog:Program}{w:World}{s0:Shared}{ft:FT}{m:Nat}{nt:List Str}{ns:List (Str×NameKind)}{mg mb:Str→Option Value}
theorem iZ {τ:TM}{v:Value}{ds:List D}{h:Heap}(hB: ∀a o,τ a=.frz o→h.get? a=some o)(hr:Rep prog w τ v (.lst ds)):Src prog w τ h v ds:=by
 cases hr with | lst a b c=>exact .inl ⟨_,_,_,rfl,hB _ _ a,.inl a,b,c⟩
theorem dw {d:D}{ds:List D}(h:dG d=some ds):d=.lst ds∧ds.length≤1000:=by
 cases d with
 | lst es=>
  have h:(if es.length≤1000 then some es else none)=some ds:=h
  by_cases hl:es.length≤1000
  ·rw [if_pos hl] at h;cases h;exact ⟨rfl,hl⟩
  ·rw [if_neg hl] at h;cases h
 | _=>cases h
structure SC (prog:Program)(w:World)(s0:Shared)(ft:FT)(m:Nat)(nt:List Str)(ns:List (Str×NameKind))(elt:PySem.Expr)(gens:List Comprehension)(scope:Scope)(pos:Pos)(X:E):Prop where
 run: ∀{env:Env} {l:List Env} {wr:Str→Bool} {A:Around} {av:Nat→Option Value} {τ:TM} {st:St} {s:Shared} {use:Option (Value→Sem Unit)} {Q Er:Value→Shared→Prop},
  EnvNs env ns→Cx A l (m + 1)→Rel prog w s0 env l nt wr τ av st s→RP (ev ft X st) (fun p=>EndP prog w s0 env l nt wr τ av p.2.ρ (fun v C s2=>compPost (model prog w) A Er use Q v C (.ok .next) s2) p.1 p.2.g) (FlP w s0 l τ Er)→
  wpAny (model prog w) A (comprehension (.ListComp elt gens scope pos) scope env (firstIterPos gens pos) (newList []) (firstAsync gens) (firstIter gens env) use) Q Er s
theorem cy {elt:PySem.Expr}{gens:List Comprehension}{scope:Scope}{pos:Pos}{X:E}(h:SC prog w s0 ft m nt ns elt gens scope pos X):SE prog w s0 ft m nt ns (.ListComp elt gens scope pos) X:=by
 refine ⟨?_⟩
 intro env l wr A av τ st s Q Er hE hC R hq
 rw [eval_ListComp]
 exact h.run (use:=none) hE hC R (hq.mono (fun p hp=>endPlain hp) fun _ f=>f)
theorem ci {elt target iter:PySem.Expr}{ifs:List PySem.Expr}{pos:Pos}{scope:Scope}{pat:List Nat}{conds:List E}{X Y:E}(K:CompOk nt ns scope pat)(hs:SE prog w s0 ft m nt ns iter Y)
  (hp:Pat nt (fun x=>scope.names.lookup x==some .local) target pat) (hT:ST prog w s0 ft m nt scope.names ifs conds) (hX:SE prog w s0 ft m nt scope.names elt X)
  (hf: ∀env x,foldedSetIterable iter env x=pure x):SC prog w s0 ft m nt ns elt [⟨target,iter,ifs,0⟩] scope pos (.compE pat Y conds X):=by
 refine ⟨?_⟩
 intro env l wr A av τ st s use Q Er hE hC R h
 refine wpAny_comprehension_free rfl (hf env) (K.closure hE) K.kind K.locals (hs.seq (fun τ (p:D×St)=>EndP prog w s0 env l nt wr τ av p.2.ρ (fun v C s2=>compPost (model prog w) A Er use Q v C (.ok .next) s2) p.1 p.2.g) (fun le _=>EndP.le le) hE hC R h fun p v τ1 s1 le1 rv R1 hp1=>?_)
 refine x12 hp1.ofOpt fun ds hd hp1=>?_
 refine x02 (dw hd) fun e hl=>?_
 rw [e] at rv
 refine iO hC hE R1 K (iZ R1.hB rv) hl hp hT hX (RP.bind hp1 |>.mono (fun q hq=>hq) fun _ f=>f)
theorem Rel.srcV {env:Env}{l:List Env}{wr:Str→Bool}{av:Nat→Option Value}{τ:TM}{st:St}{s:Shared}(R:Rel prog w s0 env l nt wr τ av st s){i:Nat}{x:Str}{ds:List D}(hx:nt[i]? =some x)(hv:Vis env x)(h:bL st i=some (.lst ds)):
  ∃v,av i=some v∧Has env s.heap x v∧Src prog w τ s.heap v ds:=by
 unfold bL at h
 cases hg:st.get i with
 | none=>rw [hg] at h;cases h
 | some sl=>
  refine x13 (R.vars i x sl hx hg hv) fun v e1 e2 e3=>?_
  rw [hg] at h
  refine ⟨v,e1,e2,?_⟩
  cases sl with
  | val d'=>cases h;exact iZ R.hB e3
  | own d'=>
   cases h
   obtain ⟨a,o,rfl,t,ho,vs,c1,c2⟩:=e3
   exact .inl ⟨a,o,vs,rfl,ho,.inr (.inr (by rw [t];rfl)),c1,c2⟩
  | lent d'=>
   cases h
   obtain ⟨a,o,rfl,t,ho,vs,c1,c2⟩:=e3
   exact .inl ⟨a,o,vs,rfl,ho,.inr (.inl t),c1,c2⟩
theorem sc_compV {elt target:PySem.Expr}{ifs:List PySem.Expr}{p pos:Pos}{scope:Scope}{pat:List Nat}{conds:List E}{X:E}{k:Nat}{x:Str}(K:CompOk nt ns scope pat)
  (hx:nt[k]? =some x) (hv:bN (ns.lookup x)=true) (h1:(x==("__debug__":Str))=false) (h2:(x==("__classdict__":Str))=false)
  (hp:Pat nt (fun x=>scope.names.lookup x==some .local) target pat) (hT:ST prog w s0 ft m nt scope.names ifs conds) (hX:SE prog w s0 ft m nt scope.names elt X):
  SC prog w s0 ft m nt ns elt [⟨target,.Name x p,ifs,0⟩] scope pos (.compV pat k conds X):=by
 refine ⟨?_⟩
 intro env l wr A av τ st s use Q Er hE hC R h
 refine x12 h.ofOpt fun c hc hq1=>?_
 refine x12 hq1.ofOpt fun ds hd hq2=>?_
 refine x02 (dw hd) fun hce hl=>?_
 rw [hce] at hc
 refine x13 (R.srcV hx (hE.vis hv) hc) fun v e1 e2 e3=>?_
 exact wpAny_comprehension_free rfl (fun _=>rfl) (K.closure hE) K.kind K.locals (aM R.kind e2 (iO hC hE R K e3 hl hp hT hX (RP.bind hq2 |>.mono (fun q hq=>hq) fun _ f=>f)) h1 h2)
end
section
variable {prog:Program}{w:World}{s0:Shared}{env env':Env}{l:List Env}{nt:List Str}{ns ns':List (Str×NameKind)}{wr wr':Str→Bool}{τ τ' τ0 τc:TM}{av:Nat→Option Value}{st:St}{s s':Shared}{scope:Scope}{pat:List Nat}{g:G}
variable {ft:FT}{m:Nat}{A:Around}{kX vX:E}
noncomputable def dcF (ft:FT)(v:Nat)(k e:E)(it:D→D→Option D)(ρ:List (Option Slot)):D→St→Res (List D×St):=fun d s=>
 (ev ft k (s.set v (.val d))).bind fun a=>(ev ft e a.2).bind fun b=>(Res.ofOpt (it a.1 b.1)).bind fun x=>.ok ([x],{b.2 with ρ:=ρ})
noncomputable def Emit (prog:Program)(w:World)(Acc:Obj→TM→List D→Prop)(it:D→D→Option D):Prop:=
 ∀{A:Around} {l:List Env} {m:Nat} {τ:TM} {s:Shared} {Ac:Addr} {o:Obj} {xs:List D} {kv vv:Value} {a b x:D} {Q:Unit→Shared→Prop} {E:Value→Shared→Prop},Cx A l (m + 1)→(∀a o,τ a=.frz o→s.heap.get? a=some o)→
  s.heap.get? Ac=some o→Acc o τ xs→xs.length≤1000→Rep prog w τ kv a→Rep prog w τ vv b→it a b=some x→
  (∀h' tk o',Heap.SameBut Ac s.heap h'→h'.get? Ac=some o'→Acc o' τ (xs++[x])→Q () {s with heap:=h',toks:=tk})→wpAny (model prog w) A (dictSet Ac kv vv) Q E s
theorem comp_dict_loop {kx vx iter:PySem.Expr}{xn:Str}{px pos:Pos}{v:Nat}{ρ0:List (Option Slot)}{g0:G}{s00:Shared}{I Ac:Addr}{Rz:Result→Shared→Prop}{P:List D→G→Prop}{F:Int→Prop}{Acc:Obj→TM→List D→Prop}{itf:D→D→Option D}
  (mono: ∀{o:Obj} {τ τ':TM} {xs:List D},TM.sub τ τ'→Acc o τ xs→Acc o τ' xs) (emit:Emit prog w Acc itf)
  (hC:Cx A l (m + 1)) (hN:EnvNs env' ns') (hp:nt[v]? =some xn) (hw:wr' xn=true) (hK:SE prog w s0 ft m nt ns' kx kX) (hV:SE prog w s0 ft m nt ns' vx vX)
  (R0:Rel prog w s0 env' l nt wr' τ0 av ⟨ρ0,g0⟩ s00) (hv:OutV nt env' τ0 ⟨ρ0,g0⟩) (hIA:I≠Ac)
  (fin: ∀τ1 g1 s' oD xs,Rel prog w s0 env' l nt wr' τ1 av ⟨ρ0,g1⟩ s'→TM.lx τ0 τ1→τ1 Ac=.it oD→Acc oD τ1 xs→xs.length≤1000→P xs g1→Rz (.ok .next) s'):
  ∀(ds:List D) (τ1:TM) (g1:G) (s':Shared) (oI oD:Obj) (xs:List D),Rel prog w s0 env' l nt wr' τ1 av ⟨ρ0,g1⟩ s'→TM.lx τ0 τ1→τ1 I=.it oI→ItO prog w τ1 oI ds→τ1 Ac=.it oD→Acc oD τ1 xs→
   xs.length + ds.length≤1000→RP (cC (dcF ft v kX vX itf ρ0) ds ⟨ρ0,g1⟩) (fun q=>P (xs++q.1) q.2.g) F→
   codeAny (model prog w) A (.compLoop (.DictComp kx vx [⟨.Name xn px,iter,[],0⟩] scope pos) 0 (.ref I) (.ref Ac) env') Rz s':=by
 refine lind ?_ fun d ds ih=>?_
 ·intro τ1 g1 s' oI oD xs R lx hI hit hA hD hz h
  refine codeAny_of_tree ?_
  show wpAny _ A ((compTurn (.DictComp kx vx [⟨.Name xn px,iter,[],0⟩] scope pos) 0 (.ref I) (.ref Ac) env').onRaise (fun x=>do noteFrame x env';theTreesLotGoes x)) _ _ s'
  refine wpAny_noted ?_
  rw [compTurn_dict]
  refine wpAny_bind (wpAny_standAt (wpAny_bind (fU R.obj hC.handled (R.itO _ _ hI) hit fun h' he=>wpAny_pure ?_)))
  have h:P (xs++[]) g1:=h
  rw [List.append_nil] at h
  refine fin (aL τ1 I .no) g1 _ oD xs (R.turnIt (tk:=s'.toks) hI he (.inl rfl)) (lx.trans (bv hI)) ?_ (mono (bv hI).sub hD) (by assumption) h
  rw [az _ _ (Ne.symm hIA)];exact hA
 ·intro τ1 g1 s' oI oD xs R lx hI hit hA hD hz h
  refine codeAny_of_tree ?_
  show wpAny _ A ((compTurn (.DictComp kx vx [⟨.Name xn px,iter,[],0⟩] scope pos) 0 (.ref I) (.ref Ac) env').onRaise (fun x=>do noteFrame x env';theTreesLotGoes x)) _ _ s'
  refine wpAny_noted ?_
  rw [compTurn_dict]
  refine wpAny_bind (wpAny_standAt (wpAny_bind (fu R.obj hI (R.itO _ _ hI) hit fun x h' tk oI' hs hg rd hit'=>?_)))
  have R2:=R.turnIt (tk:=tk) hI hs.extBut (t:=.it oI') (.inr ⟨oI',.inl rfl,hg⟩)
  have lx2:=lx.trans (bv (t:=.it oI') hI)
  have hI2:aL τ1 I (.it oI') I=.it oI':=ax ..
  have hA2:aL τ1 I (.it oI') Ac=.it oD:=(az _ _ (Ne.symm hIA)).trans hA
  have hit2:=hit'.set (t:=.it oI') hI
  have rd2:Rep prog w (aL τ1 I (.it oI')) x d:=rd.sub (bv (t:=.it oI') hI).sub
  have hD2:=mono (bv (t:=.it oI') hI).sub hD
  refine wpAny_bind (go_it (s:={s' with heap:=h',toks:=tk}) hg hit' ?_)
  have h:=RP.calm (F':=fun _=>False) h
  unfold dcF at h
  refine wpAny_bind (wpAny_assign_Name (bV R2 (sl:=.val d) hp hw rd2 fun h1 tk1 R3=>?_))
  refine wpAny_bind (wpAny_tests_nil ?_)
  simp only [if_true]
  have hz':xs.length + (ds.length + 1)≤1000:=hz
  refine wpAny_bind (wpAny_bind (hK.run hN hC R3 (h.bind.mono (fun p hp y τ4 s4 le4 ry R4=>?_) fun ln (f:False)=>f.elim)))
  refine wpAny_bind (wpAny_holding (hV.run hN hC R4 (hp.bind.mono (fun q hq z τ5 s5 le5 rz R5=>?_) fun ln (f:False)=>f.elim)))
  refine x12 (RP.ofOpt hq) fun it hit hq=>?_
  have lx5:=(lx2.trans le4.lx).trans le5.lx
  have hA5:=le5.it _ _ (le4.it _ _ hA2)
  have hI5:=le5.it _ _ (le4.it _ _ hI2)
  have oA:=R5.itO _ _ hA5
  refine wpAny_bind (wpAny_standAt (wpAny_holding (emit hC R5.hB oA (mono (le4.trans le5).sub hD2) (by exact nl [_,_] [(.a N0 (.s N1),.n 1000)] N0 (.n 1000) rfl hz') (ry.mono le5) rz hit fun h6 tk6 o6 hs6 ho6 hD6=>wpAny_pure ⟨rfl,?_⟩)))
  have R6:=R5.turnIt (tk:=tk6) hA5 hs6.extBut (t:=.it o6) (.inr ⟨_,.inl rfl,ho6⟩)
  have lx6:=lx5.trans (bv (t:=.it o6) hA5)
  have hI6:aL τ5 Ac (.it o6) I=.it oI':=(az _ _ hIA).trans hI5
  have hq:RP (cC (dcF ft v kX vX itf ρ0) ds ⟨ρ0,q.2.g⟩) (fun q'=>P ((xs++[it])++q'.1) q'.2.g) F:=RP.mono (RP.bind hq) (fun q' hq=>by have hq:P (xs++([it]++q'.1)) q'.2.g:=hq;simpa using hq) fun _ f=>f
  exact ih _ q.2.g _ oI' _ (xs++[it]) (R0.renew R6 lx6.sub lx6.pin hv) lx6 hI6 ((hit2.mono (le4.trans le5)).set hA5) (ax ..) (mono (bv (t:=.it o6) hA5).sub hD6) (by simp;exact nl [_,_] [(.a N0 (.s N1),.n 1000)] (.a (.s N0) N1) (.n 1000) rfl hz') hq
theorem comp_dict {kx vx iter:PySem.Expr}{xn:Str}{px pos:Pos}{v:Nat}{Q E:Value→Shared→Prop}{x:Value}{ds:List D}{F:Int→Prop}{Acc:Obj→TM→List D→Prop}{itf:D→D→Option D}(G':List D→G→Prop)
  (mono: ∀{o:Obj} {τ τ':TM} {xs:List D},TM.sub τ τ'→Acc o τ xs→Acc o τ' xs) (emit:Emit prog w Acc itf) (new: ∀τ,Acc {cls:=.type "dict",data:=.dict #[]} τ [])
  (hC:Cx A l (m + 1)) (hE:EnvNs env ns) (R:Rel prog w s0 env l nt wr τ av st s) (K:CompOk nt ns scope [v]) (src:Src prog w τ s.heap x ds) (hlen:ds.length≤1000)
  (hp:nt[v]? =some xn) (hw:(scope.names.lookup xn==some .local)=true) (hK:SE prog w s0 ft m nt scope.names kx kX) (hV:SE prog w s0 ft m nt scope.names vx vX)
  (hEnd: ∀{τ1 τ2:TM} {oD:Obj} {xs:List D} {g1:G} {Ac C:Addr} {oC:Obj} {s2:Shared},Acc oD τ1 xs→xs.length≤1000→G' xs g1→TM.sub τ1 τ2→TM.le τ τ2→τ2 Ac=.frz oD→s.heap.objs.size≤Ac→Rel prog w s0 env l nt wr τ2 av ⟨st.ρ,g1⟩ s2→τ2 C=.it oC→τ C=.no→(∃mm,s2.heap.Ns C mm)→
   compPost (model prog w) A E none Q (.ref Ac) C (.ok .next) s2)
  (h:RP (cC (dcF ft v kX vX itf (st.enter [v]).ρ) ds (st.enter [v])) (fun q=>G' q.1 q.2.g) F):
  wpAny (model prog w) A (pyIter x) (fun it s₂=>wpAny (model prog w) A newDict (fun acc s₃=>wpAny (model prog w) A (newFunctionEnv scope env.globals (cu env scope.names []) [] env.qual none .none (some env)) (fun cenv s₄=>
   codeAny (model prog w) A (.compStart (.DictComp kx vx [⟨.Name xn px,iter,[],0⟩] scope pos) 0 it acc {cenv with scope:=relabel scope env}) (compPost (model prog w) A E none Q acc cenv.locals) s₄) E s₃) E s₂) E s:=by
 refine gU (acc0:={cls:=.type "dict",data:=.dict #[]}) (fun τ1 oD g1=> ∃xs,Acc oD τ1 xs∧xs.length≤1000∧G' xs g1)
  hE R K src (fun s Q h=>wpAny_newObj_type h) rfl codeAny_compStart_dict (fun R0 hv hIA tI hIt tA fin=>?_) fun ⟨xs,hA,hl,hG⟩ sub le tA la R2 tC fC hm=>hEnd hA hl hG sub le tA la R2 tC fC hm
 exact comp_dict_loop (Acc:=Acc) (P:=G') (F:=F) (iter:=iter) (pos:=pos) (scope:=scope) mono emit hC (K.envNs hE _) hp hw hK hV R0 hv hIA (fun τ1 g1 s1 oD xs R1 lx tD hA hl hG=>fin τ1 g1 s1 oD R1 lx tD ⟨xs,hA,hl,hG⟩)
  ds _ st.g _ _ _ [] R0 (TM.lx.refl _) tI hIt tA (new _) (by simp;assumption) (RP.mono h (fun q hq=>by simpa using hq) fun _ f=>f)
theorem ij {x:Str}{d:D}: ∀{kds:List (Str×D)} {kvs:List (Str×Value)} (v:Value),kvs.map (·.1)=kds.map (·.1)→(kvs.map (·.1)).Nodup→(stored kvs x v).map (·.1)=(cz x d kds).map (·.1)
 | [],kvs,v,he,_=>by
  cases kvs with
  | nil=>rfl
  | cons a r=>simp at he
 | (y,e)::r,kvs,v,he,hn=>by
  cases kvs with
  | nil=>simp at he
  | cons a t=>
   obtain ⟨y',v'⟩:=a
   simp only [List.map_cons,List.cons.injEq] at he
   obtain ⟨rfl,he⟩:=he
   simp only [List.map_cons,List.nodup_cons] at hn
   have ih:=ij (x:=x) (d:=d) v he hn.2
   by_cases hx:x=y'
   ·obtain rfl:=hx.symm
    rw [show cz y' d ((y',e)::r)=(y',d)::r from if_pos rfl,List.map_cons]
    unfold stored
    rw [if_pos (by simp)]
    simp only [List.map_cons,if_pos rfl]
    congr 1
    rw [←he]
    rw [List.map_map]
    exact List.map_congr_left fun b _=>by simp only [Function.comp];split <;> rfl
   ·rw [show cz x d ((y',e)::r)=(y',e)::cz x d r from if_neg hx,List.map_cons,←ih]
    unfold stored
    have hd:decide (y'=x)=false:=by simpa using Ne.symm hx
    simp only [List.any_cons,hd,Bool.false_or]
    split
    ·simp only [List.map_cons,List.map_map]
     congr 1
     rw [if_neg (Ne.symm hx)]
    ·simp
theorem ii {x:Str}{d:D}{v:Value}(rv:Rep prog w τ v d): ∀{kds:List (Str×D)} {kvs:List (Str×Value)},kvs.map (·.1)=kds.map (·.1)→(kvs.map (·.1)).Nodup→RepL prog w τ (kvs.map (·.2)) (kds.map (·.2))→
  RepL prog w τ ((stored kvs x v).map (·.2)) ((cz x d kds).map (·.2))
 | [],kvs,he,_,_=>by
  cases kvs with
  | nil=>exact RepL.cons rv .nil
  | cons a r=>simp at he
 | (y,e)::r,kvs,he,hn,rl=>by
  cases kvs with
  | nil=>simp at he
  | cons a t=>
   obtain ⟨y',v'⟩:=a
   simp only [List.map_cons,List.cons.injEq] at he
   obtain ⟨rfl,he⟩:=he
   simp only [List.map_cons,List.nodup_cons] at hn
   simp only [List.map_cons] at rl
   cases rl with
   | cons r1 r2=>
   have ih:=ii (x:=x) rv he hn.2 r2
   by_cases hx:x=y'
   ·subst hx
    rw [show cz x d ((x,e)::r)=(x,d)::r from if_pos rfl,List.map_cons]
    unfold stored
    rw [if_pos (by simp)]
    simp only [List.map_cons,if_pos rfl]
    refine .cons rv ?_
    have:(t.map fun a=>if a.1=x then (a.1,v) else a)=t:=by
     refine (List.map_congr_left fun b hb=>?_).trans (List.map_id t)
     rw [if_neg (fun q:b.1=x=>hn.1 (by rw [←q];exact List.mem_map_of_mem hb))];rfl
    first
     | (rw [this];exact r2)
     | (simp only [this];exact r2)
   ·rw [show cz x d ((y',e)::r)=(y',e)::cz x d r from if_neg hx,List.map_cons]
    unfold stored at ih ⊢
    have hd:decide (y'=x)=false:=by simpa using Ne.symm hx
    simp only [List.any_cons,hd,Bool.false_or]
    split
    ·rename_i hany
     rw [if_pos hany] at ih
     simp only [List.map_cons]
     rw [if_neg (Ne.symm hx)]
     exact .cons r1 ih
    ·rename_i hany
     rw [if_neg hany] at ih
     exact .cons r1 ih
end
section
variable {prog:Program}{w:World}{s0:Shared}{env env':Env}{l:List Env}{nt:List Str}{ns ns':List (Str×NameKind)}{wr wr':Str→Bool}{τ τ' τ0 τc:TM}{av:Nat→Option Value}{st:St}{s s':Shared}{scope:Scope}{pat:List Nat}{g:G}
variable {ft:FT}{m:Nat}{A:Around}{kX vX:E}
theorem jm (x:Str)(d:D): ∀kds:List (Str×D),(cz x d kds).length≤kds.length + 1
 | []=>Nat.le_refl _
 | (y,e)::r=>by
  show (if x=y then (y,d)::r else (y,e)::cz x d r).length≤r.length + 1 + 1
  have:=jm x d r
  split <;> simp;assumption
theorem io (xs:List D)(y:Str)(z:D):cY (xs++[.tup [.str y,z]])=cz y z (cY xs):=by
 unfold cY;rw [List.foldl_append];rfl
theorem foldl_len {α β:Type}(f:List β→α→List β)(hf: ∀acc x,(f acc x).length≤acc.length + 1): ∀(xs:List α) (acc:List β),(xs.foldl f acc).length≤acc.length + xs.length
 | [],acc=>by simp
 | x::r,acc=>by
  rw [List.foldl_cons]
  have:=foldl_len f hf r (f acc x)
  have:=hf acc x
  simp only [List.length_cons];omega
theorem pairsOf_length (xs:List D):(cY xs).length≤xs.length:=by
 unfold cY
 have:=foldl_len (fun (acc:List (Str×D)) x=>match x with | D.tup [.str y,z]=>cz y z acc | _=>acc) (fun acc x=>by
  split
  ·exact jm _ _ _
  ·exact Nat.le_succ _) xs []
 simp only [List.length_nil,Nat.zero_add] at this
 exact this
noncomputable def AccS (prog:Program)(w:World)(o:Obj)(τ:TM)(xs:List D):Prop:=
 ∃kvs,DictObj prog w o kvs∧kvs.map (·.1)=(cY xs).map (·.1)∧RepL prog w τ (kvs.map (·.2)) ((cY xs).map (·.2))
theorem AccS.mono {o:Obj}{xs:List D}(h:TM.sub τ τ')(z:AccS prog w o τ xs):AccS prog w o τ' xs:=let ⟨k,a,b,c⟩:=z;⟨k,a,b,c.sub h⟩
theorem DictObj.nodup {o:Obj}{kvs:List (Str×Value)}(h:DictObj prog w o kvs):(kvs.map (·.1)).Nodup:=let ⟨_,_,_,_,_,_,h⟩:=h;h
theorem fA {h:Heap}{a:Addr}{kvs:List (Str×Value)}(z:h.DictOf (strKind prog w) a kvs): ∃o,h.get? a=some o∧DictObj prog w o kvs:=
 let ⟨o,es,ep,ho,e,hd,hk,hp,hn⟩:=z;⟨o,ho,e,es,ep,hd,hk,hp,hn⟩
theorem accS_new:AccS prog w {cls:=.type "dict",data:=.dict #[]} τ []:=by
 refine ⟨[],⟨⟨rfl,rfl,rfl⟩, #[],0,rfl,?_,.nil,List.nodup_nil⟩,rfl,.nil⟩
 intro e he;simp at he
theorem pairItem_inv {a b x:D}(h:gN a b=some x): ∃y,a=.str y∧x=.tup [.str y,b]:=by
 cases a with
 | str y=>cases h;exact ⟨_,rfl,rfl⟩
 | _=>cases h
theorem emitS:Emit prog w (AccS prog w) gN:=by
 intro A l m τ s Ac o xs kv vv a b x Q E hC hB ho hA hl rk rv hi hQ
 obtain ⟨y,rfl,rfl⟩:=pairItem_inv hi
 cases rk with
 | str y t=>
  obtain ⟨kvs,hD,he,hr⟩:=hA
  have l1:kvs.length=(cY xs).length:=by have:=congrArg List.length he;simpa using this
  have l2:=pairsOf_length xs
  refine wpAny_dictSet_pairs (knd:=strKind prog w) (kvs:=kvs) (k:=y) (strKind_is _ _ _ _) (hD.mapOf ho) (fun h' hm hs=>?_) (by simp only [sizeLine];exact nl [_,_,_] [(N0,N1),(N1,N2),(N2,.n 1000)] N0 (.n 16777216) rfl (Nat.le_of_eq l1) l2 hl)
  refine x12 (fA hm) fun o' ho' hD'=>?_
  refine hQ h' _ o' hs ho' ⟨_,hD',?_,?_⟩
  ·rw [io];exact ij vv he hD.nodup
  ·rw [io];exact ii rv he hD.nodup hr
noncomputable def HeldT (prog:Program)(w:World)(τ:TM)(x:List Str×Addr×Value):Prop:= ∃o' items n,τ x.2.1=.frz o'∧o'.cls=.type "tuple"∧o'.data=.seq items n∧PySem.ItemsAre (strKind prog w) x.1 items.toList
noncomputable def AccT (prog:Program)(w:World)(o:Obj)(τ:TM)(xs:List D):Prop:=
 ∃kxs:List (List Str×Addr×Value),o.ExactDict∧ ∃es ep,o.data=.dict es ep∧es.toList=kxs.map (entryOfKey (tupleKind (strKind prog w)))∧
  (∀x∈kxs,HeldT prog w τ x)∧(kxs.map (·.1)).Nodup∧aR xs=kxs.map fun x=>D.tup (x.1.map .str)
theorem AccT.mono {o:Obj}{xs:List D}(h:TM.sub τ τ')(z:AccT prog w o τ xs):AccT prog w o τ' xs:=
 let ⟨k,a,es,ep,b,c,d,e,f⟩:=z;⟨k,a,es,ep,b,c,fun x hx=>let ⟨o',it,n,p,q⟩:=d x hx;⟨o',it,n,h.frz _ _ p,q⟩,e,f⟩
theorem accT_new:AccT prog w {cls:=.type "dict",data:=.dict #[]} τ []:=⟨[],⟨rfl,rfl,rfl⟩, #[],0,rfl,rfl,by simp,List.nodup_nil,rfl⟩
theorem keyItem_inv {a b x:D}(h:i7 a b=some x): ∃p q,a=.tup [.str p,.str q]∧x=.tup [.str p,.str q]:=by
 cases a with
 | tup l=>cases l with
  | nil=>cases h
  | cons d l=>cases d with
   | str p=>cases l with
    | nil=>cases h
    | cons d l=>cases d with
     | str q=>cases l with
      | nil=>cases h;exact ⟨_,_,rfl,rfl⟩
      | cons=>cases h
     | _=>cases h
   | _=>cases h
 | _=>cases h
theorem fw (xs:List D)(x:D):aR (xs++[x])=if (aR xs).any (x.beq ·) then aR xs else aR xs++[x]:=by
 unfold aR;rw [List.foldl_append];rfl
theorem beq_strs: ∀(a b:List Str),D.beqs (a.map .str) (b.map .str)=decide (a=b)
 | [],[]=>(decide_eq_true rfl).symm
 | [],_::_=>(decide_eq_false (fun h=>by cases h)).symm
 | _::_,[]=>(decide_eq_false (fun h=>by cases h)).symm
 | x::a,y::b=>by
  show (x==y&&D.beqs (a.map .str) (b.map .str))=_
  rw [beq_strs a b]
  by_cases h:x=y
  ·subst h;simp
  ·simp [h]
theorem gh (xs:List D):(aR xs).length≤xs.length:=by
 unfold aR
 have key: ∀(xs acc:List D),(xs.foldl (fun acc x=>if acc.any (x.beq ·) then acc else acc++[x]) acc).length≤acc.length + xs.length:=by
  intro xs
  induction xs with
  | nil=>intro acc;simp
  | cons x r ih=>
   intro acc
   rw [List.foldl_cons]
   refine Nat.le_trans (ih _) ?_
   split <;> simp <;> exact nl [_,_] [] (.a (.s N0) N1) (.a N0 (.s N1)) rfl
 simpa using key xs []
theorem held_stored {kxs:List (List Str×Addr×Value)}{k:List Str}{a:Addr}{v:Value}(hf: ∀x∈kxs,HeldT prog w τ x)(hk:HeldT prog w τ (k,a,v)): ∀x∈storedH kxs k a v,HeldT prog w τ x:=by
 intro x hx
 unfold storedH at hx
 split at hx
 ·refine x12 (List.mem_map.1 hx) fun y hy e=>?_
  have:HeldT prog w τ (putAt k v y):=by
   unfold putAt
   split
   ·exact hf y hy
   ·exact hf y hy
  exact e▸this
 ·exact (List.mem_append.1 hx).elim (hf x) fun h=>List.mem_singleton.1 h▸hk
theorem at_any {kxs:List (List Str×Addr×Value)}{k:List Str}:(kxs.map fun x=>D.tup (x.1.map D.str)).any (fun d=>(D.tup (k.map .str)).beq d)=(atKey kxs k).isSome:=by
 unfold atKey
 rw [Option.isSome_map,List.any_map]
 induction kxs with
 | nil=>rfl
 | cons y r ih=>
  rw [List.any_cons,List.find?_cons,ih]
  have e:((D.tup (k.map .str)).beq (D.tup (y.1.map .str)))=decide (y.1=k):=by
   exact (beq_strs _ _).trans (decide_eq_decide.2 eq_comm)
  show (((D.tup (k.map .str)).beq (D.tup (y.1.map .str)))||_)=_
  rw [e]
  cases decide (y.1=k) <;> rfl
theorem distinct_stored {kxs:List (List Str×Addr×Value)}{k:List Str}{a:Addr}{v:Value}{xs:List D}(h:aR xs=kxs.map fun x=>D.tup (x.1.map .str)):
  aR (xs++[.tup (k.map .str)])=(storedH kxs k a v).map fun x=>D.tup (x.1.map .str):=by
 rw [fw,h,at_any]
 unfold storedH
 split
 ·rw [List.map_map]
  exact List.map_congr_left fun y _=>by simp only [Function.comp,putAt];split <;> rfl
 ·rw [List.map_append];rfl
theorem Rep.strs2 {v:Value}{p q:Str}(h:Rep prog w τ v (.tup [.str p,.str q])): ∃a o t1 t2,v=.ref a∧τ a=.frz o∧SeqObj "tuple" o [.str p t1,.str q t2]:=by
 cases h.tup_inv with | mk a o vs e ha hs hv=>
 refine x23 hv.cons_inv fun v1 us e1 r1 hv=>x23 hv.cons_inv fun v2 us2 e2 r2 hv=>x11 r1.str_inv fun t1 f1=>x11 r2.str_inv fun t2 f2=>?_
 rw [e1,e2,hv.nil_inv,f1,f2] at hs
 exact ⟨a,o,t1,t2,e,ha,hs⟩
theorem emitT:Emit prog w (AccT prog w) i7:=by
 intro A l m τ s Ac o xs kv vv a b x Q E hC hB ho hA hl rk rv hi hQ
 refine x22 (keyItem_inv hi) fun p q e1 e2=>?_
 rw [e1] at rk
 rw [e2] at hQ
 clear e1 e2 hi rv
 refine x43 rk.strs2 fun ka ko t1 t2 e ha hs=>?_
 rw [e]
 refine x12 hA fun kxs hX h=>?_
 refine x25 h fun es ep hd he hf hn hdis=>?_
 refine x11 hs.data fun nn hsd=>?_
 have items:PySem.ItemsAre (strKind prog w) [p,q] ([Value.str p t1,Value.str q t2].toArray).toList:=.cons (strKind_is _ _ _ _) (.cons (strKind_is _ _ _ _) .nil)
 have l2:kxs.length≤xs.length:=by have:=gh xs;rwa [hdis,List.length_map] at this
 refine wpAny_dictSet_heap (knd:=tupleKind (strKind prog w)) (k:=[p,q]) (xs:=kxs) (show A.units < cLine by have:=hC.u;exact nl [_] [(.s (.a N0 (.n 64)),.n 9900)] (.s N0) (.n 9900) rfl this) ⟨ko,_,nn,hB _ _ ha,hs.cls,hsd,items⟩
  ⟨o,es,ep,ho,hX,hd,he,fun x hx=>x33 (hf x hx) fun o' it n p q r=>⟨o',it,n,hB _ _ p,q,r⟩,hn⟩ (fun h' hm hs'=>?_) (Nat.le_trans (Nat.le_trans l2 hl) (by decide))
 exact x36 hm fun o' es' ep' ho' hX' hd' he' hi' hn'=>hQ h' _ o' hs' ho' ⟨_,hX',es',ep',hd',he',held_stored hf ⟨ko,_,nn,ha,hs.cls,hsd,items⟩,hn',distinct_stored (k:=[p,q]) hdis⟩
theorem meets_len_any {o:Obj}{es:Array DictEntry}{ep:Nat}(d:Addr)(hd:(d==sysModules)=false)(hdat:o.data=.dict es ep):
  MeetsIn prog w (Builtin.«dict.__len__» ⟨[.ref d],[]⟩) (fun _ R s=>s.heap.get? d=some o∧R (.ok (.ret (.int es.size s.toks))) {s with toks:=s.toks + 1}):=
 .of_wp fun A R s ⟨ho,h⟩=>by
  show wpAny _ _ (dictSize d >>= _) _ _ s
  unfold dictSize
  refine wpAny_bind (wpAny_bind (wpAny_dictEntries ho hdat (wpAny_pure ?_)))
  show wpAny _ _ (Builtin.Dict.pendingCount d >>= _) _ _ s
  refine wpAny_bind (wpAny_pendingCount_other hd ?_)
  refine wpAny_ret_mkInt ?_
  rw [Nat.add_zero];exact h
theorem len_any {E:Value→Shared→Prop}{o:Obj}{es:Array DictEntry}{ep:Nat}{d:Addr}{Q:Value→Shared→Prop}(hd:(d==sysModules)=false)(ho:s.heap.get? d=some o)(hX:o.ExactDict)(hdat:o.data=.dict es ep)(hz:es.size≤100000)
  (h: ∀t tk,Q (.int es.size t) {s with toks:=tk}):wpAny (model prog w) A (call (.builtin "len") [.ref d]) Q E s:=by
 have hT:s.TypeIs (.ref d) "dict":=⟨o,ho,hX.1⟩
 exact call_len_slot (n:=es.size) hT F.slot_dict_len (fun Q' hq=>call_meetsIn F.slot_dict_len hT F.entry_dict_len (F.args_dict_len_1 _) (meets_len_any d hd hdat) ⟨ho,hq⟩) (by exact fun e=>nz [_] [(.s Z0,.n 0),(.n 0,Z0)] rfl e (Int.natCast_nonneg _)) (by exact fun e=>nz [_] [(.n 9223372036854775808,Z0),(Z0,.n 100000)] rfl e (Int.ofNat_le.2 hz)) (h _ _)
end
section
variable {prog:Program}{w:World}{s0:Shared}{ft:FT}{m:Nat}{nt:List Str}{ns:List (Str×NameKind)}{mg mb:Str→Option Value}
theorem gd (HB:Base w s0 mg mb){e:PySem.Expr}{Y:E}{p pos:Pos}(hx:ns.lookup ("range":Str)=some .globalImplicit)(he:SE prog w s0 ft m nt ns e Y)(hst: ∀env,starEach [e] env=[(false,eval e env)])
  {env:Env} {l:List Env} {wr:Str→Bool} {A:Around} {av:Nat→Option Value} {τ:TM} {st:St} {s:Shared} {β:Type} {k:D×St→Res β} (P:TM→β→Prop)
  {Q Er:Value→Shared→Prop} (hP: ∀{τ τ'},TM.le τ τ'→ ∀b,P τ b→P τ' b) (hE:EnvNs env ns) (hC:Cx A l (m + 1)) (R:Rel prog w s0 env l nt wr τ av st s)
  (hbad: ∀p,(∀n,p.1≠ .int n)→k p=.bad) (h:RP ((ev ft Y st).bind k) (P τ) (FlP w s0 l τ Er))
  (c: ∀n st1 τ1 s1 r t u v z,TM.le τ τ1→Rel prog w s0 env l nt wr τ1 av st1 s1→IsRange s1.heap r 0 n 1 t u v→z=(Value.ref r)→RP (k (.int n,st1)) (P τ1) (FlP w s0 l τ1 Er)→Q z s1):
  wpAny (model prog w) A (eval (.Call (.Name ("range":Str) p) [e] [] pos) env) Q Er s:=by
 refine wpAny_Call_NameR (dA HB R (hE.glob hx) HB.range ?_ (by decide))
 rw [dg (hst env)]
 refine PySem.callWith_type1 (he.seq P hP hE hC R h fun q v τ1 s1 le1 rv R1 hq=>?_)
 obtain ⟨d,st1⟩:=q
 by_cases hd: ∃n,d=.int n
 ·obtain ⟨n,rfl⟩:=hd
  cases rv with
  | int _ t=>
   refine call_range_1 (c n st1 τ1 _ s1.heap.objs.size _ t _ _ le1 (R1.grow (h':=s1.heap.push _) fun _ _ e=>Heap.get?_push_of_some _ e) (Heap.get?_push_size _ rfl) rfl hq)
 ·rw [hbad (d,st1) fun n q=>hd ⟨n,q⟩] at hq
  exact hq.elim
theorem g9 {n:Int}(h:c9 n=true):(cP n).length≤1000:=by
 simp only [c9,Bool.and_eq_true,decide_eq_true_eq] at h
 simp only [cP,List.length_map,List.length_range];exact Int.toNat_le.2 (ni [_] [(Z0,.n 1000)] Z0 (.n 1000) rfl h.2)
theorem sc_compR (HB:Base w s0 mg mb){elt e:PySem.Expr}{xn:Str}{px p p2 pos:Pos}{ifs:List PySem.Expr}{scope:Scope}{v:Nat}{conds:List E}{X Y:E}(K:CompOk nt ns scope [v])
  (hr:ns.lookup ("range":Str)=some .globalImplicit) (hs:SE prog w s0 ft m nt ns e Y) (hst: ∀env,starEach [e] env=[(false,eval e env)])
  (hp:Pat nt (fun x=>scope.names.lookup x==some .local) (.Name xn px) [v]) (hT:ST prog w s0 ft m nt scope.names ifs conds) (hX:SE prog w s0 ft m nt scope.names elt X):
  SC prog w s0 ft m nt ns elt [⟨.Name xn px,.Call (.Name ("range":Str) p) [e] [] p2,ifs,0⟩] scope pos (.compR v Y conds X):=by
 refine ⟨?_⟩
 intro env l wr A av τ st s use Q Er hE hC R h
 refine wpAny_comprehension_free rfl (fun _=>rfl) (K.closure hE) K.kind K.locals (gd HB hr hs hst (fun τ (p:D×St)=>EndP prog w s0 env l nt wr τ av p.2.ρ (fun v C s2=>compPost (model prog w) A Er use Q v C (.ok .next) s2) p.1 p.2.g) (fun le _=>EndP.le le) hE hC R ?_ h fun n st1 τ1 s1 r t u v z le1 R1 hr ez hq=>?_)
 ·rintro ⟨d,st⟩ hd;cases d <;> first | rfl | exact absurd rfl (hd _)
 ·subst ez
  dsimp only at hq
  split at hq
  ·rename_i hn
   exact iO hC hE R1 K (.inr ⟨r,n,t,u,v,rfl,hr,hn,rfl⟩) (g9 hn) hp hT hX (RP.bind hq |>.mono (fun q hq=>hq) fun _ f=>f)
  ·exact hq.elim
theorem hJ (kx vx gens scope pos)(env:Env):eval (.DictComp kx vx gens scope pos) env=comprehension (.DictComp kx vx gens scope pos) scope env (firstIterPos gens pos) newDict (firstAsync gens) (firstIter gens env):=rfl
theorem Rel.sysLt (HB:Base w s0 mg mb){env:Env}{l:List Env}{wr:Str→Bool}{av:Nat→Option Value}{τ:TM}{st:St}{s:Shared}(R:Rel prog w s0 env l nt wr τ av st s){a:Addr}(h:s.heap.objs.size≤a):(a==sysModules)=false:=by
 refine x11 HB.sys fun o ho=>?_
 refine beq_eq_false_iff_ne.mpr fun e=>absurd (Heap.lt_size (R.old _ _ ho)) ?_
 rw [←e];exact Nat.not_lt.mpr h
theorem se_dcomp (HB:Base w s0 mg mb){kx vx iter:PySem.Expr}{xn:Str}{px pos:Pos}{scope:Scope}{v:Nat}{kX vX Y:E}(K:CompOk nt ns scope [v])(hs:SE prog w s0 ft m nt ns iter Y)
  (hp:nt[v]? =some xn) (hw:(scope.names.lookup xn==some .local)=true) (hK:SE prog w s0 ft m nt scope.names kx kX) (hV:SE prog w s0 ft m nt scope.names vx vX)
  (hf: ∀env x,foldedSetIterable iter env x=pure x):SE prog w s0 ft m nt ns (.DictComp kx vx [⟨.Name xn px,iter,[],0⟩] scope pos) (.dcomp v Y kX vX):=by
 refine ⟨?_⟩
 intro env l wr A av τ st s Q Er hE hC R h
 rw [hJ]
 refine wpAny_comprehension_free (use:=none) rfl (hf env) (K.closure hE) K.kind K.locals (hs.seqP hE hC R h fun p v τ1 s1 le1 rv R1 hp1=>?_)
 refine x12 hp1.ofOpt fun ds hd hp1=>?_
 refine x02 (dw hd) fun e hl=>?_
 rw [e] at rv
 refine comp_dict (Acc:=AccS prog w) (fun xs g=>OkP prog w s0 nt env l wr av τ1 Q (.dct (cY xs),⟨p.2.ρ,g⟩)) AccS.mono emitS (fun _=>accS_new) hC hE R1 K (iZ R1.hB rv) hl hp hw hK hV
  (fun ⟨kvs,hD,he,hr⟩ _ hG sub le tA la R2 tC fC hm=>endPlain hG _ _ _ _ _ le (.dct tA hD (R1.sysLt HB la) he rfl (hr.sub sub)) R2 tC (.of fC) hm) (RP.bind hp1)
theorem se_lenDC (HB:Base w s0 mg mb){kx vx e:PySem.Expr}{xn:Str}{px p p1 p2 pos pos2:Pos}{scope:Scope}{v:Nat}{kX vX Y:E}(K:CompOk nt ns scope [v])(hlx:ns.lookup ("len":Str)=some .globalImplicit)
  (hr:ns.lookup ("range":Str)=some .globalImplicit) (hs:SE prog w s0 ft m nt ns e Y) (hst: ∀env,starEach [e] env=[(false,eval e env)])
  (hp:nt[v]? =some xn) (hw:(scope.names.lookup xn==some .local)=true) (hK:SE prog w s0 ft m nt scope.names kx kX) (hV:SE prog w s0 ft m nt scope.names vx vX):
  SE prog w s0 ft m nt ns (.Call (.Name ("len":Str) p1) [.DictComp kx vx [⟨.Name xn px,.Call (.Name ("range":Str) p) [e] [] p2,[],0⟩] scope pos] [] pos2) (.lenDC v Y kX vX):=by
 refine ⟨?_⟩
 intro env l wr A av τ st s Q Er hE hC R h
 refine wpAny_Call_NameR (dA HB R (hE.glob hlx) HB.len ?_ (by decide))
 rw [dg rfl]
 refine PySem.callWith_builtin1 ?_
 rw [hJ]
 refine wpAny_comprehension_free (use:=none) rfl (fun _=>rfl) (K.closure hE) K.kind K.locals (gd HB hr hs hst (fun τ=>OkP prog w s0 nt env l wr av τ Q) (fun le b=>OkP.le le) hE hC R ?_ h fun n st1 τ1 s1 r t u v z le1 R1 hr ez hq=>?_)
 ·rintro ⟨d,st⟩ hd;cases d <;> first | rfl | exact absurd rfl (hd _)
 ·subst ez
  dsimp only at hq
  split at hq
  ·rename_i hn
   refine comp_dict (Acc:=AccT prog w) (fun xs g=>OkP prog w s0 nt env l wr av τ1 Q (.int (aR xs).length,⟨st1.ρ,g⟩)) AccT.mono emitT (fun _=>accT_new) hC hE R1 K (.inr ⟨r,n,t,u,v,rfl,hr,hn,rfl⟩) (g9 hn) hp hw hK hV
    (fun {τ1' τ2 oD xs g1 Ac C oC s2} hA hl hG sub le tA la R2 tC fC hm=>?_) (RP.bind hq)
   obtain ⟨kxs,hX,es,ep,hd,he,hf,hnd,hdis⟩:=hA
   obtain ⟨mm,hmm⟩:=hm
   refine ⟨mm,hmm,fun h' hs=>?_⟩
   have R3:=R2.turnIt (tk:=s2.toks) tC hs.extBut (t:=.no) (.inl rfl)
   have le3:=cR (t:=.no) le fC
   have tA3:=(bv (t:=.no) tC).frz _ _ tA
   have l1:es.size=(aR xs).length:=by rw [hdis,List.length_map,←Array.length_toList,he,List.length_map]
   have l2:=gh xs
   refine len_any (R1.sysLt HB la) (R3.hB _ _ tA3) hX hd (by exact nl [_,_,_] [(N0,N1),(N1,N2),(N2,.n 1000)] N0 (.n 100000) rfl (Nat.le_of_eq l1) l2 hl) fun t tk=>?_
   rw [l1]
   exact hG _ _ _ le3 (.int _ t) (R3.toks tk)
  ·exact hq.elim
theorem se_listR (HB:Base w s0 mg mb){e:PySem.Expr}{p p1 p2 pos:Pos}{Y:E}(hlx:ns.lookup ("list":Str)=some .globalImplicit)(hr:ns.lookup ("range":Str)=some .globalImplicit)(hs:SE prog w s0 ft m nt ns e Y)(hst: ∀env,starEach [e] env=[(false,eval e env)]):
  SE prog w s0 ft m nt ns (.Call (.Name ("list":Str) p1) [.Call (.Name ("range":Str) p) [e] [] p2] [] pos) (.listR Y):=by
 refine ⟨?_⟩
 intro env l wr A av τ st s Q Er hE hC R h
 refine wpAny_Call_NameR (dA HB R (hE.glob hlx) HB.list ?_ (by decide))
 rw [dg rfl]
 refine PySem.callWith_type1 (gd HB hr hs hst (fun τ=>OkP prog w s0 nt env l wr av τ Q) (fun le b=>OkP.le le) hE hC R ?_ h fun n st1 τ1 s1 r t u v z le1 R1 hr ez hq=>?_)
 ·rintro ⟨d,st⟩ hd;cases d <;> first | rfl | exact absurd rfl (hd _)
 ·subst ez
  dsimp only at hq
  split at hq
  ·rename_i hn
   have hn':=hn
   simp only [c9,Bool.and_eq_true,decide_eq_true_eq] at hn
   have hsz:Builtin.Range.rangeSize 0 n 1=(n.toNat:Int):=by
    simp only [Builtin.Range.rangeSize]
    split <;> (try split) <;> (try omega)
   refine call_list_range hC.handled hr ?_ hsz (by exact Int.toNat_le.2 (ni [_] [(Z0,.n 1000)] Z0 (.n 16777216) rfl hn.2)) fun h' tk acc' c' hk hS' hacc=>?_
   ·simp only [Builtin.Range.small,hsz,Builtin.Range.rangeFitsLong]
    simp
    omega
   ·have R2:=R1.grow (h':=h') (tk:=tk) hk
    have R3:=R2.tag R1.fresh hS' (t:=.frz {cls:=.type "list",dict:=none,data:=.seq acc' c',slots:= #[]}) (.inl rfl)
    have le3:=ce (t:=.frz {cls:=.type "list",dict:=none,data:=.seq acc' c',slots:= #[]}) R1.fresh
    refine hq _ _ _ le3 (.lst (vs:=acc'.toList) (ax ..) ⟨c',by simp⟩ ?_) R3
    have key: ∀(k:Nat) (vs:List Value) (i:Nat),vs.length=k→(∀(j:Nat) v,vs[j]? =some v→ ∃t,v=Value.int (0 + ((i + j:Nat):Int) * 1) t)→ ∀{τ:TM},RepL prog w τ vs ((List.range' i k).map fun i=>D.int (i:Nat)):=by
     intro k
     induction k with
     | zero=>intro vs i hl _ τ;cases vs with | nil=>exact .nil | cons a b=>simp at hl
     | succ k ih=>
      intro vs i hl hv τ
      cases vs with
      | nil=>simp at hl
      | cons a b=>
       rw [List.range'_succ,List.map_cons]
       refine x11 (hv 0 a rfl) fun t e=>?_
       have:a=.int (i:Nat) t:=by rw [e];congr 1;simp
       rw [this]
       refine .cons (.int _ _) (ih b (i + 1) (by simpa using hl) fun j v hj=>?_)
       obtain ⟨t,e⟩:=hv (j + 1) v (by simpa using hj)
       exact ⟨t,by rw [e];congr 3;exact Int.le_antisymm (ni [_,_,_,_,_,_] [(Z0,.a Z1 Z2),(.a Z3 Z4,Z5),(Z2,.s Z4),(.s Z1,Z3)] Z0 Z5 rfl (Int.le_of_eq (Int.natCast_add _ _)) (Int.le_of_eq (Int.natCast_add _ _).symm) (Int.le_of_eq (Int.natCast_add _ _)) (Int.le_of_eq (Int.natCast_add _ _).symm)) (ni [_,_,_,_,_,_] [(Z0,.a Z1 Z2),(.a Z3 Z4,Z5),(Z1,.s Z3),(.s Z2,Z4)] Z0 Z5 rfl (Int.le_of_eq (Int.natCast_add _ _)) (Int.le_of_eq (Int.natCast_add _ _).symm) (Int.le_of_eq (Int.natCast_add _ _)) (Int.le_of_eq (Int.natCast_add _ _).symm))⟩
    have:=key n.toNat acc'.toList 0 (by simp [hacc.1]) (fun j v hj=>by
     obtain ⟨t,e⟩:=hacc.2 j v (by rw [←Array.getElem?_toList];exact hj)
     exact ⟨t,by rw [e];simp⟩) (τ:=aL τ1 s1.heap.objs.size (.frz {cls:=.type "list",dict:=none,data:=.seq acc' c',slots:= #[]}))
    rw [←List.range_eq_range'] at this
    exact this
  ·exact hq.elim
theorem keys_rep: ∀(kvs:List (Str×Value)) (kds:List (Str×D)) (vs:List Value),kvs.map (·.1)=kds.map (·.1)→vs.length=kvs.length→(∀(j:Nat) v,vs[j]? =some v→ ∃k x,kvs[j]? =some (k,x)∧(strKind prog w).is k v=true)→ ∀{τ:TM},RepL prog w τ vs (kds.map fun p=>D.str p.1):=by
 intro kvs
 induction kvs with
 | nil=>
  intro kds vs he hl _ τ
  cases kds with
  | nil=>cases vs with | nil=>exact .nil | cons a b=>simp at hl
  | cons a b=>simp at he
 | cons a r ih=>
  intro kds vs he hl hv τ
  cases kds with
  | nil=>simp at he
  | cons b t=>
   cases vs with
   | nil=>simp at hl
   | cons c u=>
    simp only [List.map_cons,List.cons.injEq] at he
    refine x22 (hv 0 c rfl) fun k x e hi=>?_
    obtain ⟨tk,rfl⟩:=Value.isStrOf_shape hi
    simp only [List.getElem?_cons_zero,Option.some.injEq] at e
    have e1:b.1=k:=by rw [←he.1,e]
    rw [List.map_cons,e1]
    exact .cons (.str _ _) (ih t u he.2 (by simpa using hl) fun j v hj=>hv (j + 1) v (by simpa using hj))
theorem se_listV (HB:Base w s0 mg mb){x:Str}{k:Nat}{p p1 pos:Pos}(hlx:ns.lookup ("list":Str)=some .globalImplicit)(hx:nt[k]? =some x)(hv:bN (ns.lookup x)=true)(h1:(x==("__debug__":Str))=false)(h2:(x==("__classdict__":Str))=false):
  SE prog w s0 ft m nt ns (.Call (.Name ("list":Str) p1) [.Name x p] [] pos) (.listV k):=by
 refine ⟨?_⟩
 intro env l wr A av τ st s Q Er hE hC R h
 refine wpAny_Call_NameR (dA HB R (hE.glob hlx) HB.list ?_ (by decide))
 rw [dg rfl]
 refine x12 h.ofOpt fun kds hk h=>?_
 refine x02 (RP.guard h) fun hz h=>?_
 refine x13 (R.any HB hx (hE.vis hv) (dct_any hk)) fun v' f1 f2 f3=>?_
 refine PySem.callWith_type1 (aM R.kind f2 ?_ h1 h2)
 obtain ⟨a,o,rfl,ho,hsys,kvs,hD,he,h3⟩:=f3.dct R.hB
 obtain ⟨hex,es,ep,hd,hk,hp,hn⟩:=hD
 have l1:kvs.length=kds.length:=by have:=congrArg List.length he;simpa using this
 refine kdl_call (kdl_dict (knd:=strKind prog w) (kvs:=kvs) (ep:=ep) hsys) hC.handled (by first | exact ⟨o,es,ho,hex,hd,hk,hp,hn⟩ | exact ⟨o,es,ho,hex,hk,hp,hn,hd⟩) (by simp only [sizeLine];exact nl [_,_] [(N0,N1),(N1,.n 1000)] N0 (.n 16777216) rfl (Nat.le_of_eq l1) hz) fun h' tk acc' c' hkp hS' hacc=>?_
 have R2:=R.grow (h':=h') (tk:=tk) hkp
 have R3:=R2.tag R.fresh hS' (t:=.frz {cls:=.type "list",dict:=none,data:=.seq acc' c',slots:= #[]}) (.inl rfl)
 have le3:=ce (t:=.frz {cls:=.type "list",dict:=none,data:=.seq acc' c',slots:= #[]}) R.fresh
 exact h _ _ _ le3 (.lst (vs:=acc'.toList) (ax ..) ⟨c',by simp⟩ (keys_rep kvs kds acc'.toList he (by simp [hacc.1]) fun j v hj=>hacc.2 j v (by rw [←Array.getElem?_toList];exact hj))) R3
end
theorem hO (elt t1 i1 t2 i2:PySem.Expr)(scope:Scope)(pos:Pos)(it acc:Value)(env:Env):
  compTurn (.ListComp elt [⟨t1,i1,[],0⟩,⟨t2,i2,[],0⟩] scope pos) 0 it acc env=(standAt i1.pos >>= fun _=>pyNext it >>= fun r=>match r with
   | none=>pure (.done .next)
   | some v=>letOwnedTupleGo t1 it v >>= fun _=>assign t1 env v >>= fun _=>eval i2 env >>= fun x=>standAt i2.pos >>= fun _=>foldedSetIterable i2 env x >>= fun x=>
    holding [x] (pyIter x) >>= fun it2=>runOwn (.compStart (.ListComp elt [⟨t1,i1,[],0⟩,⟨t2,i2,[],0⟩] scope pos) 1 it2 acc env) env >>= fun _=>
     again (.compLoop (.ListComp elt [⟨t1,i1,[],0⟩,⟨t2,i2,[],0⟩] scope pos) 0 it acc env)):=by rfl
theorem hM (elt t1 i1 t2 i2:PySem.Expr)(scope:Scope)(pos:Pos)(it acc:Value)(env:Env):
  compTurn (.ListComp elt [⟨t1,i1,[],0⟩,⟨t2,i2,[],0⟩] scope pos) 1 it acc env=(standAt i2.pos >>= fun _=>pyNext it >>= fun r=>match r with
   | none=>pure (.done .next)
   | some v=>letOwnedTupleGo t2 it v >>= fun _=>assign t2 env v >>= fun _=>
    (eval elt env >>= fun x=>call (.builtin "list.append") [acc,x] >>= fun _=>pure ()) >>= fun _=>
     again (.compLoop (.ListComp elt [⟨t1,i1,[],0⟩,⟨t2,i2,[],0⟩] scope pos) 1 it acc env)):=by rfl
section
variable {prog:Program}{w:World}{A:Around}{E:Value→Shared→Prop}{R:Result→Shared→Prop}{s:Shared}
theorem gG {elt t1 i1 t2 i2:PySem.Expr}{scope:Scope}{pos:Pos}{it acc:Value}{env:Env}
  (h0:codeAny (model prog w) A (.compLoop (.ListComp elt [⟨t1,i1,[],0⟩,⟨t2,i2,[],0⟩] scope pos) 1 it acc env) R s)
  (h:wpAny (model prog w) A (pyIter it) (fun it' s'=>codeAny (model prog w) A (.compLoop (.ListComp elt [⟨t1,i1,[],0⟩,⟨t2,i2,[],0⟩] scope pos) 1 it' acc env) R s')
   (notedBy (model prog w) A env fun x s'=>R (.error x) s') s):
  codeAny (model prog w) A (.compStart (.ListComp elt [⟨t1,i1,[],0⟩,⟨t2,i2,[],0⟩] scope pos) 1 it acc env) R s:=by
 refine codeAny_of_tree ?_
 show wpAny _ _ ((compStart (.ListComp elt [⟨t1,i1,[],0⟩,⟨t2,i2,[],0⟩] scope pos) 1 it acc env).onRaise (fun x=>do noteFrame x env;standAt theWindowsPlace)) _ _ s
 refine wpAny_notedAt ?_
 unfold compStart
 show wpAny _ _ (ask >>= _) _ _ s
 refine wpAny_bind (wpAny_askSetting (wpAny_ite ?_))
 split
 ·first
   | exact wpAny_bind (wpAny_pure (wpAny_pure (And.intro rfl h0)))
   | exact wpAny_pure (And.intro rfl h0)
 ·first
   | exact wpAny_bind (wpAny_rule (wpAny_bind (wpAny_standAt (wpAny_bind (wpAny_mono h (fun it' s' h'=>wpAny_pure (And.intro rfl h')) fun _ _ x=>x)))))
   | (refine wpAny_bind (wpAny_rule ?_);show wpAny _ _ (standAt i2.pos >>= _) _ _ s;exact wpAny_bind (wpAny_standAt (wpAny_bind (wpAny_mono h (fun it' s' h'=>wpAny_pure (And.intro rfl h')) fun _ _ x=>x))))
end
section
variable {prog:Program}{w:World}{s0:Shared}{env env':Env}{l:List Env}{nt:List Str}{ns ns':List (Str×NameKind)}{wr wr':Str→Bool}{τ τ' τ0 τc:TM}{av:Nat→Option Value}{st:St}{s s':Shared}{scope:Scope}{pat:List Nat}{g:G}
variable {ft:FT}{m:Nat}{A:Around}
theorem clear_set {st:St}{i:Nat}{sl:Slot}(h:st.get i=none)(hi:i < st.ρ.length):(st.set i sl).clear i=st:=by
 obtain ⟨ρ,g⟩:=st
 unfold St.set St.clear
 simp only [List.set_set]
 congr 1
 unfold St.get at h
 simp only at h hi
 refine List.ext_getElem? fun j=>?_
 rw [List.getElem?_set]
 split
 ·rename_i e;subst e
  rw [List.getElem?_eq_getElem hi] at h ⊢
  simp only [Option.join_some] at h
  simp [hi,h]
 ·rfl
theorem flatD_inv {d:D}{ds zs:List D}(h:gT (d::ds)=some zs): ∃es zs',d=.lst es∧es.length≤1000∧gT ds=some zs'∧zs=es++zs':=by
 exact x12 (Option.bind_eq_some_iff.mp h) fun es hes h=>x12 (Option.map_eq_some_iff.mp h) fun zs' hzs e=>⟨es,zs',(dw hes).1,(dw hes).2,hzs,e.symm⟩
theorem two_inner {t1 i1 i2:PySem.Expr}{x2:Str}{p2 p3 pos:Pos}{v2:Nat}{I Ac:Addr}(hC:Cx A l (m + 1))(hx2:nt[v2]? =some x2)(hw2:wr' x2=true)(hvis:Vis env' x2)
  (hd1:(x2==("__debug__":Str))=false) (hd2:(x2==("__classdict__":Str))=false) (hIA:I≠Ac) {st1:St} (hn:st1.get v2=none) {Rz:Result→Shared→Prop}:
  ∀(es:List D) (τ1:TM) (av1:Nat→Option Value) (s':Shared) (oI oD:Obj) (vs:List Value) (xs:List D),Rel prog w s0 env' l nt wr' τ1 av1 st1 s'→τ1 I=.it oI→ItO prog w τ1 oI es→τ1 Ac=.it oD→SeqObj "list" oD vs→RepL prog w τ1 vs xs→
   xs.length + es.length≤1001000→
   (∀τ2 av2 s2 oD2 vs2,Rel prog w s0 env' l nt wr' τ2 av2 st1 s2→TM.lx τ1 τ2→(∀a,a≠I→a≠Ac→ ∀o,τ1 a=.it o→τ2 a=.it o)→τ2 Ac=.it oD2→SeqObj "list" oD2 vs2→RepL prog w τ2 vs2 (xs++es)→Rz (.ok .next) s2)→
   codeAny (model prog w) A (.compLoop (.ListComp (.Name x2 p3) [⟨t1,i1,[],0⟩,⟨.Name x2 p2,i2,[],0⟩] scope pos) 1 (.ref I) (.ref Ac) env') Rz s':=by
 refine lind ?_ fun d es ih=>?_
 ·intro τ1 av1 s' oI oD vs xs R hI hit hA hD rv hz fin
  refine codeAny_of_tree ?_
  show wpAny _ A ((compTurn (.ListComp (.Name x2 p3) [⟨t1,i1,[],0⟩,⟨.Name x2 p2,i2,[],0⟩] scope pos) 1 (.ref I) (.ref Ac) env').onRaise (fun x=>do noteFrame x env';theTreesLotGoes x)) _ _ s'
  refine wpAny_noted ?_
  rw [hM]
  refine wpAny_bind (wpAny_standAt (wpAny_bind (fU R.obj hC.handled (R.itO _ _ hI) hit fun h' he=>wpAny_pure ?_)))
  refine fin (aL τ1 I .no) av1 _ oD vs (R.turnIt (tk:=s'.toks) hI he (.inl rfl)) (bv hI) (fun a h1 h2 o e=>(az _ _ h1).trans e) ((az _ _ (Ne.symm hIA)).trans hA) hD ?_
  rw [List.append_nil];exact rv.set hI
 ·intro τ1 av1 s' oI oD vs xs R hI hit hA hD rv hz fin
  refine codeAny_of_tree ?_
  show wpAny _ A ((compTurn (.ListComp (.Name x2 p3) [⟨t1,i1,[],0⟩,⟨.Name x2 p2,i2,[],0⟩] scope pos) 1 (.ref I) (.ref Ac) env').onRaise (fun x=>do noteFrame x env';theTreesLotGoes x)) _ _ s'
  refine wpAny_noted ?_
  rw [hM]
  refine wpAny_bind (wpAny_standAt (wpAny_bind (fu R.obj hI (R.itO _ _ hI) hit fun v h' tk oI' hs hg rd hit'=>?_)))
  have R2:=R.turnIt (tk:=tk) hI hs.extBut (t:=.it oI') (.inr ⟨oI',.inl rfl,hg⟩)
  have lx2:=bv (t:=.it oI') hI
  have hA2:aL τ1 I (.it oI') Ac=.it oD:=(az _ _ (Ne.symm hIA)).trans hA
  have hit2:=hit'.set (t:=.it oI') hI
  have rd2:Rep prog w (aL τ1 I (.it oI')) v d:=rd.sub lx2.sub
  have rv2:=rv.set (t:=.it oI') hI
  refine wpAny_bind (go_it (s:={s' with heap:=h',toks:=tk}) hg hit' ?_)
  refine wpAny_bind (wpAny_assign_Name (bV R2 (sl:=.val d) hx2 hw2 rd2 fun h1 tk1 R3=>?_))
  have hlt:v2 < st1.ρ.length:=by rw [R.len];exact (List.getElem?_eq_some_iff.mp hx2).1
  obtain ⟨v',e1,e2,e3⟩:=R3.vars v2 x2 (.val d) hx2 (by rw [St.get_set _ _ _ _ hlt,if_pos rfl]) hvis
  refine wpAny_bind (wpAny_bind (aM R3.kind e2 ?_ hd1 hd2))
  have R4:=R3.drop v2
  rw [clear_set hn hlt] at R4
  have oA:=R4.itO _ _ hA2
  have hD':=hD
  obtain ⟨n,hDn⟩:=hD'
  rw [hDn] at oA
  have hl:=rv.length
  have hz':xs.length + (es.length + 1)≤1001000:=hz
  refine wpAny_bind (wpAny_list_append_plain (items:=vs.toArray) ⟨n,oA⟩ (fun h6 hp6 hs6=>wpAny_pure (wpAny_pure ⟨rfl,?_⟩)) (by simp only [List.size_toArray,hl,sizeLine];exact nl [_,_] [(.a N0 (.s N1),.n 1001000)] N0 (.n 16777216) rfl hz'))
  obtain ⟨n6,ho6⟩:=hp6
  have R6:=R4.turnIt (tk:=tk1) hA2 hs6.extBut (t:=.it _) (.inr ⟨_,.inl rfl,ho6⟩)
  have lx6:=lx2.trans (bv (t:=.it {cls:=.type "list",data:=.seq (vs.toArray.push v') n6}) hA2)
  have hI6:aL (aL τ1 I (.it oI')) Ac (.it {cls:=.type "list",data:=.seq (vs.toArray.push v') n6}) I=.it oI':=(az _ _ hIA).trans (ax ..)
  refine ih _ _ _ oI' _ (vs++[v']) (xs++[d]) R6 hI6 (hit2.set hA2) (ax ..) ⟨n6,by simp⟩ ((rv2.snoc e3).set hA2) (by simp;exact nl [_,_] [(.a N0 (.s N1),.n 1001000)] (.a (.s N0) N1) (.n 1001000) rfl hz') fun τ2 av2 s2 oD2 vs2 Rz lz nz tz dz rz=>?_
  refine fin τ2 av2 s2 oD2 vs2 Rz (lx6.trans lz) (fun a h1 h2 o e=>nz a h1 h2 o ?_) tz dz (by simpa using rz)
  rw [az _ _ h2,az _ _ h1];exact e
theorem compStart_two {elt t1 i1 t2 i2:PySem.Expr}{pos:Pos}{acc:Value}{R:Result→Shared→Prop}{J:Addr}{oJ:Obj}{ds:List D}(z:ItO prog w τ oJ ds)(ho:s.heap.get? J=some oJ)
  (h0:codeAny (model prog w) A (.compLoop (.ListComp elt [⟨t1,i1,[],0⟩,⟨t2,i2,[],0⟩] scope pos) 1 (.ref J) acc env) R s):
  codeAny (model prog w) A (.compStart (.ListComp elt [⟨t1,i1,[],0⟩,⟨t2,i2,[],0⟩] scope pos) 1 (.ref J) acc env) R s:=gG h0 (iter_self ho z h0)
theorem two_outer {i1:PySem.Expr}{x1 x2:Str}{p1 p2 p3 p4 pos:Pos}{v1 v2:Nat}{I Ac:Addr}{ρ0:List (Option Slot)}{g0:G}{s00:Shared}(hC:Cx A l (m + 1))(hx1:nt[v1]? =some x1)(hw1:wr' x1=true)(hvis1:Vis env' x1)(hx2:nt[v2]? =some x2)(hw2:wr' x2=true)(hvis2:Vis env' x2)
  (hd1:(x1==("__debug__":Str))=false) (hd2:(x1==("__classdict__":Str))=false) (hd3:(x2==("__debug__":Str))=false) (hd4:(x2==("__classdict__":Str))=false) (h12:v1≠v2)
  (R0:Rel prog w s0 env' l nt wr' τ0 av ⟨ρ0,g0⟩ s00) (hv:OutV nt env' τ0 ⟨ρ0,g0⟩) (hn2:(St.mk ρ0 g0).get v2=none) (hIA:I≠Ac) {Rz:Result→Shared→Prop}:
  ∀(ds:List D) (τ1:TM) (s':Shared) (oI oD:Obj) (vs:List Value) (xs zs:List D),Rel prog w s0 env' l nt wr' τ1 av ⟨ρ0,g0⟩ s'→TM.lx τ0 τ1→τ1 I=.it oI→ItO prog w τ1 oI ds→τ1 Ac=.it oD→SeqObj "list" oD vs→RepL prog w τ1 vs xs→
   xs.length + 1000 * ds.length≤1000000→gT ds=some zs→
   (∀τ2 s2 oD2 vs2,Rel prog w s0 env' l nt wr' τ2 av ⟨ρ0,g0⟩ s2→TM.lx τ0 τ2→τ2 Ac=.it oD2→SeqObj "list" oD2 vs2→RepL prog w τ2 vs2 (xs++zs)→Rz (.ok .next) s2)→
   codeAny (model prog w) A (.compLoop (.ListComp (.Name x2 p3) [⟨.Name x1 p1,i1,[],0⟩,⟨.Name x2 p2,.Name x1 p4,[],0⟩] scope pos) 0 (.ref I) (.ref Ac) env') Rz s':=by
 refine lind ?_ fun d ds ih=>?_
 ·intro τ1 s' oI oD vs xs zs R lx hI hit hA hD rv hz hf fin
  refine codeAny_of_tree ?_
  show wpAny _ A ((compTurn (.ListComp (.Name x2 p3) [⟨.Name x1 p1,i1,[],0⟩,⟨.Name x2 p2,.Name x1 p4,[],0⟩] scope pos) 0 (.ref I) (.ref Ac) env').onRaise (fun x=>do noteFrame x env';theTreesLotGoes x)) _ _ s'
  refine wpAny_noted ?_
  rw [hO]
  refine wpAny_bind (wpAny_standAt (wpAny_bind (fU R.obj hC.handled (R.itO _ _ hI) hit fun h' he=>wpAny_pure ?_)))
  cases hf
  refine fin (aL τ1 I .no) _ oD vs (R.turnIt (tk:=s'.toks) hI he (.inl rfl)) (lx.trans (bv hI)) ((az _ _ (Ne.symm hIA)).trans hA) hD ?_
  rw [List.append_nil];exact rv.set hI
 ·intro τ1 s' oI oD vs xs zs R lx hI hit hA hD rv hz hf fin
  refine x24 (flatD_inv hf) fun es zs' ed hle hzs ez=>?_
  refine codeAny_of_tree ?_
  show wpAny _ A ((compTurn (.ListComp (.Name x2 p3) [⟨.Name x1 p1,i1,[],0⟩,⟨.Name x2 p2,.Name x1 p4,[],0⟩] scope pos) 0 (.ref I) (.ref Ac) env').onRaise (fun x=>do noteFrame x env';theTreesLotGoes x)) _ _ s'
  refine wpAny_noted ?_
  rw [hO]
  refine wpAny_bind (wpAny_standAt (wpAny_bind (fu R.obj hI (R.itO _ _ hI) hit fun v h' tk oI' hs hg rd hit'=>?_)))
  have R2:=R.turnIt (tk:=tk) hI hs.extBut (t:=.it oI') (.inr ⟨oI',.inl rfl,hg⟩)
  have lx2:=bv (t:=.it oI') hI
  have hA2:aL τ1 I (.it oI') Ac=.it oD:=(az _ _ (Ne.symm hIA)).trans hA
  have hit2:=hit'.set (t:=.it oI') hI
  have rd2:Rep prog w (aL τ1 I (.it oI')) v (.lst es):=ed▸rd.sub lx2.sub
  have rv2:=rv.set (t:=.it oI') hI
  refine wpAny_bind (go_it (s:={s' with heap:=h',toks:=tk}) hg hit' ?_)
  refine wpAny_bind (wpAny_assign_Name (bV R2 (sl:=.val (.lst es)) hx1 hw1 rd2 fun h1 tk1 R3=>?_))
  have hlt:v1 < ρ0.length:=by have:=R.len;simp only at this;rw [this];exact (List.getElem?_eq_some_iff.mp hx1).1
  refine x13 (R3.vars v1 x1 (.val (.lst es)) hx1 (by rw [St.get_set _ _ _ _ hlt,if_pos rfl]) hvis1) fun v' e1 e2 e3=>?_
  refine wpAny_bind (aM R3.kind e2 ?_ hd1 hd2)
  refine wpAny_bind (wpAny_standAt (wpAny_bind (wpAny_pure (wpAny_bind (wpAny_holding ?_)))))
  cases Rep.lst_inv e3 with | mk la lo lvs ev ha hb hc=>
  rw [ev]
  refine wpAny_pyIter_list (hb.isList (R3.hB _ _ ha)) ?_
  have R4a:=R3.grow (h':=h1.push {cls:=.type "list_iterator",data:=.fields #[.ref la,.int 0 0]}) (tk:=tk1) fun _ _ e=>Heap.get?_push_of_some _ e
  have n4:=R3.fresh
  have R4:=R4a.tag (t:=.it {cls:=.type "list_iterator",data:=.fields #[.ref la,.int 0 0]}) n4 (Heap.get?_push_size _ rfl) (.inr (.inr rfl))
  have le4:=ce (t:=.it {cls:=.type "list_iterator",data:=.fields #[.ref la,.int 0 0]}) n4
  have nJA:h1.objs.size≠Ac:=fun e=>Tag.noConfusion ((e▸n4:aL τ1 I (.it oI') Ac=.no).symm.trans hA2)
  have nJI:h1.objs.size≠I:=fun e=>Tag.noConfusion ((e▸n4:aL τ1 I (.it oI') I=.no).symm.trans (ax ..))
  have hz':xs.length + 1000 * (ds.length + 1)≤1000000:=hz
  have hitJ:ItO prog w (aL (aL τ1 I (.it oI')) h1.objs.size (.it {cls:=.type "list_iterator",data:=.fields #[.ref la,.int 0 0]})) {cls:=.type "list_iterator",data:=.fields #[.ref la,.int 0 0]} es:=
   .inl ⟨la,0,lo,lvs,es,rfl,rfl,.inl (le4.frz _ _ ha),hb,hc.mono le4,rfl⟩
  refine wpAny_bind (wpAny_runOwn (compStart_two hitJ (R4.itO _ _ (ax ..)) ?_))
  refine two_inner (t1:=.Name x1 p1) (i1:=i1) (i2:=.Name x1 p4) (p2:=p2) (p3:=p3) (pos:=pos) (scope:=scope) (st1:=(St.mk ρ0 g0).set v1 (.val (.lst es))) (A:=A) hC hx2 hw2 hvis2 hd3 hd4 nJA
   (by rw [St.get_set _ _ _ _ hlt,if_neg h12];exact hn2)
   es _ _ _ _ oD vs xs R4 (ax ..) hitJ (le4.it _ _ hA2) hD (rv2.mono le4) (by exact nl [_,_,_] [(.a N0 (.m 1000 (.s N1)),.n 1000000),(N2,.n 1000)] (.a N0 N2) (.n 1001000) rfl hz' hle) fun τ5 av5 s5 oD5 vs5 R5 lx5 n5 tA5 hD5 rv5=>wpAny_pure ⟨rfl,?_⟩
  ·have lx6:=((lx.trans lx2).trans le4.lx).trans lx5
   have hI5:=n5 I (Ne.symm nJI) hIA oI' (le4.it _ _ (ax ..))
   refine ih τ5 s5 oI' oD5 vs5 (xs++es) zs' (R0.renew R5 lx6.sub lx6.pin hv) lx6 hI5 ?_ tA5 hD5 rv5 (by simp;exact nl [_,_,_] [(.a N0 (.m 1000 (.s N1)),.n 1000000),(N2,.n 1000)] (.a (.a N0 N2) (.m 1000 N1)) (.n 1000000) rfl hz' hle) hzs fun τ2 s2 oD2 vs2 R9 l9 t9 d9 r9=>fin τ2 s2 oD2 vs2 R9 l9 t9 d9 (by rw [ez,←List.append_assoc];exact r9)
   have hz:=hit2.mono le4
   rcases hz with ⟨l',i',lo',vs',all',q1,q2,q3,q4,q5,q6⟩ | z
   ·exact .inl ⟨l',i',lo',vs',all',q1,q2,q3.imp (lx5.frz _ _) (lx5.pin _ _),q4,q5.sub lx5.sub,q6⟩
   ·exact .inr z
end
section
variable {prog:Program}{w:World}{s0:Shared}{ft:FT}{m:Nat}{nt:List Str}{ns:List (Str×NameKind)}{mg mb:Str→Option Value}
theorem sc_comp2 {iter:PySem.Expr}{x1 x2:Str}{p1 p2 p3 p4 pos:Pos}{scope:Scope}{v1 v2:Nat}{Y:E}(K:CompOk nt ns scope [v1,v2])(hs:SE prog w s0 ft m nt ns iter Y)
  (hx1:nt[v1]? =some x1) (hw1:scope.names.lookup x1=some .local) (hx2:nt[v2]? =some x2) (hw2:scope.names.lookup x2=some .local)
  (hd1:(x1==("__debug__":Str))=false) (hd2:(x1==("__classdict__":Str))=false) (hd3:(x2==("__debug__":Str))=false) (hd4:(x2==("__classdict__":Str))=false) (h12:v1≠v2)
  (hf: ∀env x,foldedSetIterable iter env x=pure x):SC prog w s0 ft m nt ns (.Name x2 p3) [⟨.Name x1 p1,iter,[],0⟩,⟨.Name x2 p2,.Name x1 p4,[],0⟩] scope pos (.comp2 v1 Y v2):=by
 refine ⟨?_⟩
 intro env l wr A av τ st s use Q Er hE hC R h
 refine wpAny_comprehension_free rfl (hf env) (K.closure hE) K.kind K.locals (hs.seq (fun τ (p:D×St)=>EndP prog w s0 env l nt wr τ av p.2.ρ (fun v C s2=>compPost (model prog w) A Er use Q v C (.ok .next) s2) p.1 p.2.g) (fun le _=>EndP.le le) hE hC R h fun p v τ1 s1 le1 rv R1 hp1=>?_)
 refine x12 hp1.ofOpt fun ds hd hp1=>?_
 refine x12 hp1.ofOpt fun zs hzs hp1=>?_
 refine x02 (dw hd) fun e hl=>?_
 rw [e] at rv
 refine gU (acc0:={cls:=.type "list",data:=.seq ([]:List Value).toArray}) (fun τ1' oD g1=> ∃vs,SeqObj "list" oD vs∧RepL prog w τ1' vs zs∧g1=p.2.g)
  hE R1 K (iZ R1.hB rv) (fun s Q h=>wpAny_newObj_type h) rfl codeAny_compStart_list (fun {C τ0 s00 I Ac oI Rz} R0 hv hIA tI hIt tA fin=>?_)
  fun {τ1' τ2 oD g1 Ac C oC s2} ⟨vs,hD,rv,hg⟩ sub le tA _ R2 tC fC hm=>?_
 ·refine two_outer (i1:=iter) (p1:=p1) (p2:=p2) (p3:=p3) (p4:=p4) (pos:=pos) (scope:=scope) hC hx1 (by simpa using hw1) ?_ hx2 (by simpa using hw2) ?_ hd1 hd2 hd3 hd4 h12 R0 hv ?_ hIA
   ds _ _ _ _ [] [] zs R0 (TM.lx.refl _) tI hIt tA ⟨0,rfl⟩ .nil (by simp;exact nl [_] [(.m 1000 N0,.m 1000 (.n 1000))] (.m 1000 N0) (.n 1000000) rfl (Nat.mul_le_mul_left 1000 hl)) hzs fun τ2 s2 oD2 vs2 R9 l9 t9 d9 r9=>fin τ2 p.2.g s2 oD2 R9 l9 t9 ⟨vs2,d9,by simpa using r9,rfl⟩
  ·left;rw [b9,hw1];rfl
  ·left;rw [b9,hw2];rfl
  ·cases hg:(St.mk (p.2.enter [v1,v2]).ρ p.2.g).get v2 with
   | none=>rfl
   | some sl=>
    have:=(iK (st:=p.2) (pat:=[v1,v2]) (i:=v2) hg).1
    simp at this
 ·subst hg
  exact hp1 _ _ _ _ _ le (.lst tA hD (rv.sub sub)) R2 tC (.of fC) hm
end
theorem clipAt_le (n:Nat)(i:Int):clipAt n i≤n:=Int.toNat_le.2 (Int.max_le.2 ⟨Int.natCast_nonneg n,Int.min_le_right _ _⟩)
theorem jk (vs:List Value)(lo hi:Option Int):slicePick vs.toArray lo hi none=(sliceL vs lo hi).toArray:=by
 rw [slicePick_plain]
 simp only [sliceL,c8,dJ,List.size_toArray]
theorem clampLo_le (n:Nat)(lo:Option Int):c8 n lo≤n:=by
 cases lo with
 | none=>exact Nat.zero_le n
 | some i=>exact clipAt_le n i
theorem clampHi_le (n:Nat)(hi:Option Int):dJ n hi≤n:=by
 cases hi with
 | none=>exact Nat.le_refl n
 | some i=>exact clipAt_le n i
theorem picked_eq (x:Str)(l u:Option (Int×Tok)):slicePicked x l u none=(List.range (dJ x.length (u.map (·.1)) - c8 x.length (l.map (·.1)))).map (c8 x.length (l.map (·.1)) + ·):=by
 unfold slicePicked Builtin.Str.strSliceIndices
 simp only [Option.map_none,Option.getD_none]
 rw [←sliceRange_one]
 congr 1
 ·cases l with
  | none=>simp [c8]
  | some p=>
   simp only [Option.map_some,c8,Option.elim]
   rw [clipAt_cast];simp
 ·cases u with
  | none=>simp [dJ]
  | some p=>
   simp only [Option.map_some,dJ,Option.elim]
   rw [clipAt_cast];simp
theorem made_str {x:Str}{t:Tok}{l u:Option (Int×Tok)}{Q:Value→Shared→Prop}{s:Shared}(hx:x.length≤1000)
  (h: ∀t tk,Q (.str ⟨(sliceL x.cps.toList (l.map (·.1)) (u.map (·.1))).toArray⟩ t) {s with toks:=tk}):(sliceMade x t l u none).post Q s:=by
 unfold sliceMade
 rw [picked_eq]
 have hlen:x.cps.toList.length=x.length:=by simp [Str.length]
 split
 ·rename_i hc
  simp only [Option.map_none,Option.getD_none,beq_self_eq_true,Bool.true_and,List.length_map,List.length_range,beq_iff_eq] at hc
  have h1:=clampLo_le x.length (l.map (·.1))
  have h2:=clampHi_le x.length (u.map (·.1))
  have h3:c8 x.length (l.map (·.1))=0:=by omega
  have e:sliceL x.cps.toList (l.map (·.1)) (u.map (·.1))=x.cps.toList:=by
   unfold sliceL
   rw [hlen,hc,h3]
   simp only [List.drop_zero]
   exact List.take_of_length_le (Nat.le_refl _)
  have:=h t s.toks
  rw [e] at this
  exact this
 ·have e:((List.range (dJ x.length (u.map (·.1)) - c8 x.length (l.map (·.1)))).map (c8 x.length (l.map (·.1)) + ·)).filterMap (x.cps[·]?)=sliceL x.cps.toList (l.map (·.1)) (u.map (·.1)):=by
   rw [pick_run]
   unfold sliceL
   rw [hlen]
  rw [e]
  refine ⟨?_,h _ _⟩
  show (sliceL x.cps.toList (l.map (·.1)) (u.map (·.1))).toArray.size≤sizeLine
  rw [List.size_toArray]
  unfold sliceL
  rw [List.length_take,List.length_drop,hlen]
  simp only [sizeLine];exact nl [_,_,_] [(N0,N1),(N1,N2),(N2,.n 1000)] N0 (.n 16777216) rfl (Nat.min_le_right _ _) (Nat.sub_le _ _) hx
section
variable {prog:Program}{w:World}{A:Around}{E:Value→Shared→Prop}{s:Shared}
theorem jf {sl:Addr}{b n:Nat}{u:Tok}{Q:Int×Int×Nat→Shared→Prop}(hs:s.heap.IsSliceOf sl .none (.int b u) .none)(hb:b < n)(h:Q ((0:Int),1,b) s):
  wpAny (model prog w) A (Builtin.Slice.sliceApplied (.ref sl) (pure (n:Int))) Q E s:=by
 obtain ⟨os,hos,hcs,hds⟩:=id hs
 unfold Builtin.Slice.sliceApplied Builtin.Slice.sliceFields
 refine wpAny_bind (wpAny_bind (wpAny_field hos hds (x:=.none) rfl (wpAny_bind (wpAny_field hos hds (x:=.int b u) rfl (wpAny_bind (wpAny_field hos hds (x:=.none) rfl (wpAny_pure ?_)))))))
 refine wpAny_bind (slicePart_none ?_)
 show wpAny _ _ (if ((1:Int)==0)=true then _ else _) _ _ s
 rw [if_neg (by decide)]
 refine wpAny_bind (slicePart_none (wpAny_bind (slicePart_int (wpAny_bind (wpAny_pure ?_)))))
 show wpAny _ _ (match Builtin.Slice.sliceAdjust none (some (b:Int)) 1 (n:Int) with | (lo,hi)=>pure (lo,(1:Int),Builtin.Slice.slicePlaces lo hi 1)) _ _ s
 have e1:Builtin.Slice.sliceAdjust none (some (b:Int)) 1 (n:Int)=((0:Int),(b:Int)):=by
  unfold Builtin.Slice.sliceAdjust
  have h1: ¬((1:Int) < 0):=by decide
  have h2: ¬((b:Int) < 0):=by exact fun e=>nz [_] [(.s Z0,.n 0),(.n 0,Z0)] rfl e (Int.natCast_nonneg _)
  simp only [h1,h2,if_false]
  congr 1
  omega
 rw [e1]
 show wpAny _ _ (pure ((0:Int),(1:Int),Builtin.Slice.slicePlaces (0:Int) (b:Int) 1)) _ _ s
 have e2:Builtin.Slice.slicePlaces (0:Int) (b:Int) 1=b:=by
  unfold Builtin.Slice.slicePlaces
  have h1:(1:Int) > 0:=Int.le_refl _
  simp only [h1,if_true,Int.ediv_one]
  split <;> omega
 rw [e2]
 exact wpAny_pure h
theorem iH {t sl:Addr}{items:Array Value}{b:Nat}{u:Tok}{Q:Value→Shared→Prop}(ht:IsTup s.heap t items)(hs:s.heap.IsSliceOf sl .none (.int b u) .none)(hb:b < items.size)
  (h:Q (.ref s.heap.objs.size) {s with heap:=s.heap.push {cls:=.type "tuple",data:=.seq (items.toList.take b).toArray}})
  (hsz:items.size≤1000):wpAny (model prog w) A (getItem (.ref t) (.ref sl)) Q E s:=by
 have hdrop:sizeOk (.seq (items.toList.take b).toArray):=by
  show (items.toList.take b).toArray.size≤sizeLine
  rw [List.size_toArray,List.length_take,Array.length_toList]
  simp only [sizeLine];exact nl [_,_] [(N0,N1),(N1,.n 1000)] N0 (.n 16777216) rfl (Nat.min_le_right _ _) hsz
 obtain ⟨os,hos,hcs,hds⟩:=id hs
 have hTs:s.TypeIs (.ref sl) "slice":=⟨os,hos,hcs⟩
 unfold getItem
 try with_reducible refine wpAny_holding ?_
 first | refine wpAny_bind (wpAny_pure ?_) | skip
 refine wpAny_bind (wpAny_sequenceKey ht.typeIs (by decide) ?_)
 refine wpAny_bind (wpAny_callSpecial?_slot (name:=so "__getitem__") ht.typeIs slot_tuple_getitem
  (wpAny_call_entry slot_tuple_getitem ht.typeIs entry_tuple_getitem ?_ (args_tuple_getitem _ _)))
 show wpAny _ _ (Builtin.Tuple.tupleItemsOf (.ref t) >>= _) _ _ s
 refine wpAny_bind (tupleItemsOf_ ht ?_)
 refine wpAny_bind (wpAny_typeOf hTs ?_)
 rw [if_pos (by decide)]
 refine wpAny_bind (jf hs hb ?_)
 have hno: ¬(((0:Int)==0&&(1:Int)==1&&b==items.size)=true):=by
  have:(b==items.size)=false:=by rw [beq_eq_false_iff_ne];exact Nat.ne_of_lt ‹_›
  rw [this];simp
 show wpAny _ _ (if ((0:Int)==0&&(1:Int)==1&&b==items.size)=true then _ else _) _ _ s
 rw [if_neg hno]
 have hp:((List.range b).filterMap fun (k:Nat)=>items[((0:Int) + (k:Int) * 1).toNat]?).toArray=(items.toList.take b).toArray:=by
  have e:(fun (k:Nat)=>items[((0:Int) + (k:Int) * 1).toNat]?)=fun k=>items[0 + k]? :=by
   funext k
   have:((0:Int) + (k:Int) * 1).toNat=0 + k:=Nat.add_comm _ _
   rw [this]
  rw [e]
  have:=pick_run items 0 b
  rw [List.filterMap_map] at this
  have e2:((fun x=>items[x]?)∘fun x=>0 + x)=fun k=>items[0 + k]? :=rfl
  rw [e2] at this
  rw [this,List.drop_zero]
 rw [hp]
 first
  | exact wpAny_bind (m:=Builtin.Tuple.tupleExact _) (wpAny_newObj_type (wpAny_pure ⟨_,rfl,wpAny_pure h⟩) hdrop)
  | exact wpAny_bind (m:=Builtin.Tuple.tupleExact _) (wpAny_newObj_type (wpAny_bind (wpAny_pure (wpAny_pure ⟨_,rfl,wpAny_pure h⟩))) hdrop)
  | exact wpAny_bind (wpAny_bind (m:=Builtin.Tuple.tupleExact _) (wpAny_newObj_type (wpAny_pure (wpAny_pure ⟨_,rfl,wpAny_pure h⟩)) hdrop))
  | exact wpAny_bind (wpAny_bind (m:=Builtin.Tuple.tupleExact _) (wpAny_newObj_type (wpAny_pure ⟨_,rfl,wpAny_pure h⟩) hdrop))
end
section
variable {prog:Program}{w:World}{s0:Shared}{ft:FT}{m:Nat}{nt:List Str}{ns:List (Str×NameKind)}{mg mb:Str→Option Value}
theorem RepL.sliceL {τ:TM}{vs:List Value}{ds:List D}(h:RepL prog w τ vs ds)(lo hi:Option Int):RepL prog w τ (Mine.sliceL vs lo hi) (Mine.sliceL ds lo hi):=by
 unfold Mine.sliceL
 rw [h.length]
 exact (h.drop _).take _
structure SO (prog:Program)(w:World)(s0:Shared)(ft:FT)(m:Nat)(nt:List Str)(ns:List (Str×NameKind))(x:Option PySem.Expr)(X:Option E):Prop where
 run: ∀{env:Env} {l:List Env} {wr:Str→Bool} {A:Around} {av:Nat→Option Value} {τ:TM} {st:St} {s:Shared} {Q:Value→Shared→Prop} {Er:Value→Shared→Prop},
  EnvNs env ns→Cx A l (m + 1)→Rel prog w s0 env l nt wr τ av st s→RP (evO ft X st) (fun p=> ∀v τ' s',TM.le τ τ'→(∃pt:Option (Int×Tok),v=partValue pt∧pt.map (·.1)=p.1)→Rel prog w s0 env l nt wr τ' av p.2 s'→Q v s') (FlP w s0 l τ Er)→
  wpAny (model prog w) A (evalPart x env) Q Er s
theorem cX:SO prog w s0 ft m nt ns none none:=⟨fun _ _ R h=>by
 rw [evalPart_none];exact wpAny_pure (h .none _ _ (TM.le.refl _) ⟨none,rfl,rfl⟩ R)⟩
theorem bz {e:PySem.Expr}{X:E}(hX:SE prog w s0 ft m nt ns e X):SO prog w s0 ft m nt ns (some e) (some X):=by
 refine ⟨?_⟩
 intro env l wr A av τ st s Q Er hE hC R h
 rw [evalPart_some]
 refine hX.run hE hC R (h.bind.mono (fun p hp v τ1 s1 le1 rv R1=>?_) fun _ f=>f)
 refine x12 (RP.intM hp) fun i ed hp=>x02 (RP.ifI hp) fun _ hp=>?_
 rw [ed] at rv
 cases rv with
 | int _ t=>exact hp _ τ1 s1 le1 ⟨some (i,t),rfl,rfl⟩ R1
theorem part_is {pt:Option (Int×Tok)}:IsPart (partValue pt) (pt.map (·.1)):=by
 cases pt with
 | none=>exact .none
 | some p=>exact .int _ _
noncomputable def slcT:Res (D×St)→String
 | .ok (.lst _,_)=>"list"
 | .ok (.tup _,_)=>"tuple"
 | _=>"str"
theorem slcT_look (r:Res (D×St)): ∃id:String,typeLookup (.type (slcT r)) "__getitem__"=pure (some (.builtin id)):=by
 have a: ∃id:String,typeLookup (.type "str") "__getitem__"=pure (some (.builtin id)):=⟨_,F.slot_str_getitem.lookup⟩
 cases r with
 | ok p=>
  obtain ⟨d,s⟩:=p
  cases d with
  | lst=>exact ⟨_,list_getitem_lookup⟩
  | tup=>exact ⟨_,slot_tuple_getitem.lookup⟩
  | _=>exact a
 | _=>exact a
theorem RP.eq {α:Type}{r:Res α}{P:α→Prop}{F:Int→Prop}(h:RP r P F):RP r (fun a=>r=.ok a∧P a) F:=by
 cases r with
 | ok a=>exact ⟨rfl,h⟩
 | _=>exact h
noncomputable def eB (s:Shared)(pl pu:Option (Int×Tok)):Shared:={s with heap:=s.heap.push {cls:=.type "slice",data:=.fields #[partValue pl,partValue pu,.none]}}
section
variable {env:Env}{l:List Env}{wr:Str→Bool}{av:Nat→Option Value}{τ:TM}{st:St}{s:Shared}{pl pu:Option (Int×Tok)}{A:Around}{Er Q:Value→Shared→Prop}{v:Value}{d3:D}
theorem jE (R:Rel prog w s0 env l nt wr τ av st s):Rel prog w s0 env l nt wr τ av st (eB s pl pu):=R.grow (h':=_) (tk:=_) fun _ _ e=>Heap.get?_push_of_some _ e
theorem slc_str {x:Str}(rv:Rep prog w τ v (.str x))(R:Rel prog w s0 env l nt wr τ av st s)(hd:co (.str x) (pl.map (·.1)) (pu.map (·.1))=some d3)(hq:OkP prog w s0 nt env l wr av τ Q (d3,st)):
  Shared.TypeIs (eB s pl pu) v "str"∧wpAny (model prog w) A (getItem v (.ref s.heap.objs.size)) Q Er (eB s pl pu):=by
 cases rv with
 | str _ t=>
  refine x02 (dH hd) fun hz e=>?_
  rw [e] at hq
  exact ⟨typeIs_str _ x t,wpAny_getItem_str_slice (l:=pl) (u:=pu) (st:=none) ⟨_,Heap.get?_push_size _ rfl,rfl,rfl⟩ rfl (made_str hz fun t tk=>hq _ τ _ (TM.le.refl _) (.str _ t) ((jE R).toks tk))⟩
theorem slc_lst {ds:List D}(rv:Rep prog w τ v (.lst ds))(R:Rel prog w s0 env l nt wr τ av st s)(hd:co (.lst ds) (pl.map (·.1)) (pu.map (·.1))=some d3)(hq:OkP prog w s0 nt env l wr av τ Q (d3,st)):
  Shared.TypeIs (eB s pl pu) v "list"∧wpAny (model prog w) A (getItem v (.ref s.heap.objs.size)) Q Er (eB s pl pu):=by
 cases rv with
 | lst ha hb hc=>
  rename_i a o vs
  refine x02 (dH hd) fun hz e=>?_
  rw [e] at hq
  have R4:=jE (pl:=pl) (pu:=pu) R
  have hl:(eB s pl pu).heap.IsList a vs.toArray:=hb.isList (R4.hB _ _ ha)
  have hs:vs.toArray.size≤sizeLine:=by rw [List.size_toArray,hc.length];exact Nat.le_trans hz (by decide)
  refine ⟨hl.typeIs,wpAny_getItem_list_slice (lo:=pl.map (·.1)) (hi:=pu.map (·.1)) (st:=none) hl (Heap.IsSliceOf.new ..) part_is part_is .none (by simp) ?_ hs⟩
  rw [jk]
  exact x02 (R4.alloc (o:={cls:=.type "list",data:=.seq (sliceL vs (pl.map (·.1)) (pu.map (·.1))).toArray}) rfl (t:=.frz _) (.inl rfl)) fun R5 le5=>hq _ _ _ le5 (.lst (ax ..) ⟨0,rfl⟩ ((hc.sliceL _ _).mono le5)) R5
theorem slc_tup {ds:List D}(rv:Rep prog w τ v (.tup ds))(R:Rel prog w s0 env l nt wr τ av st s)(hd:co (.tup ds) (pl.map (·.1)) (pu.map (·.1))=some d3)(hq:OkP prog w s0 nt env l wr av τ Q (d3,st)):
  Shared.TypeIs (eB s pl pu) v "tuple"∧wpAny (model prog w) A (getItem v (.ref s.heap.objs.size)) Q Er (eB s pl pu):=by
 cases rv with
 | tup ha hb hc=>
  rename_i a o vs
  cases pl with
  | some q=>cases hd
  | none=>
   cases pu with
   | none=>cases hd
   | some q=>
    obtain ⟨k,tk⟩:=q
    refine x02 (dH hd) fun hz e=>?_
    rw [e] at hq
    simp only [Bool.and_eq_true,decide_eq_true_eq] at hz
    have R4:=jE (pl:=none) (pu:=some (k,tk)) R
    have hT:IsTup (eB s none (some (k,tk))).heap a vs.toArray:=hb.isTup (R4.hB _ _ ha)
    have hk:((k.toNat:Nat):Int)=k:=Int.toNat_of_nonneg hz.1.1
    have hs:vs.toArray.size=ds.length:=by rw [List.size_toArray,hc.length]
    refine ⟨hT.typeIs,iH (b:=k.toNat) (u:=tk) hT (by rw [hk];exact Heap.IsSliceOf.new ..) (hs▸(Int.toNat_lt hz.1.1).2 hz.1.2) ?_ (hs▸hz.2)⟩
    exact x02 (R4.alloc (o:={cls:=.type "tuple",data:=.seq (vs.take k.toNat).toArray}) rfl (t:=.frz _) (.inl rfl)) fun R5 le5=>hq _ _ _ le5 (.tup (ax ..) ⟨0,rfl⟩ ((hc.take k.toNat).mono le5)) R5
theorem slc_all {d:D}{st1:St}(rv:Rep prog w τ v d)(R:Rel prog w s0 env l nt wr τ av st s)(hd:co d (pl.map (·.1)) (pu.map (·.1))=some d3)(hq:OkP prog w s0 nt env l wr av τ Q (d3,st)):
  Shared.TypeIs (eB s pl pu) v (slcT (.ok (d,st1)))∧wpAny (model prog w) A (getItem v (.ref s.heap.objs.size)) Q Er (eB s pl pu):=by
 cases d with
 | str x=>exact slc_str rv R hd hq
 | lst ds=>exact slc_lst rv R hd hq
 | tup ds=>exact slc_tup rv R hd hq
 | _=>cases hd
end
theorem cx {value:PySem.Expr}{lower upper:Option PySem.Expr}{p pos:Pos}{X:E}{lo hi:Option E}(hX:SE prog w s0 ft m nt ns value X)(hlo:SO prog w s0 ft m nt ns lower lo)(hhi:SO prog w s0 ft m nt ns upper hi)
  (ht: ∀o r,letTemporaryGo value o r=pure ()):SE prog w s0 ft m nt ns (.Subscript value (.Slice lower upper none p) pos) (.slc X lo hi):=by
 refine ⟨?_⟩
 intro env l wr A av τ st s Q Er hE hC R h
 have h:RP ((ev ft X st).bind fun p=>(evO ft lo p.2).bind fun q=>(evO ft hi q.2).bind fun r=>(Res.ofOpt (co p.1 q.1 r.1)).bind fun d=>.ok (d,r.2)) _ _:=h
 refine x11 (slcT_look (ev ft X st)) fun id hl=>wpAny_Subscript_Slice (T:=slcT (ev ft X st)) hl (hX.run hE hC R (h.bind.eq.mono (fun p hp v τ1 s1 le1 rv R1=>?_) fun _ f=>f)) ht
 refine x02 hp fun hv h=>?_
 have h1:=RP.mono h (fun _ q=>OkP.le le1 q) (fun _=>FlP.le (Er:=Er) le1)
 refine wpAny_Slice (hlo.run hE hC R1 (h1.bind.mono (fun q hq vl τ2 s2 le2 hpl R2=>?_) fun _ f=>f))
 have hq:=RP.mono hq (fun _ q=>OkP.le le2 q) (fun _=>FlP.le (Er:=Er) le2)
 refine hhi.run hE hC R2 (hq.bind.mono (fun r hr vu τ3 s3 le3 hpu R3=>?_) fun _ f=>f)
 have hr:=RP.mono hr (fun _ q=>OkP.le le3 q) (fun _=>FlP.le (Er:=Er) le3)
 refine x12 hr.ofOpt fun d3 hd3 hr=>x12 hpl fun pl e1 e2=>x12 hpu fun pu e3 e4=>?_
 rw [evalPart_none,e1,e3,hv]
 rw [←e2,←e4] at hd3
 exact wpAny_pure (slc_all (rv.mono (le2.trans le3)) R3 hd3 hr)
theorem se_call (HB:Base w s0 mg mb){x:Str}{p pos:Pos}{e:PySem.Expr}{rest:List PySem.Expr}{f:Fn}{Xs:List E}{fa:Addr}(hx:ns.lookup x=some .globalImplicit)(hd:(x==("__debug__":Str))=false)
  (hf:mg x=some (.ref fa)∧ ∃o fd,s0.heap.get? fa=some o∧o.data=.func fd) (HF:FnOk prog w s0 m fa (ft f)) (hl:SL prog w s0 ft m nt ns (e::rest) Xs)
  (hst: ∀env,starEach (e::rest) env=(false,eval e env)::starEach rest env):SE prog w s0 ft m nt ns (.Call (.Name x p) (e::rest) [] pos) (.call f Xs):=by
 refine ⟨?_⟩
 intro env l wr A av τ st s Q Er hE hC R h
 obtain ⟨hg,o,fd,ho,hdat⟩:=hf
 refine wpAny_Call_NameR (d8 HB R (hE.glob hx) hg ?_ hd)
 refine callWith_def (o:=o) hdat (hl.run hE hC R (h.bind.mono (fun q hq vs τ1 s1 le1 rv R1=>?_) fun _ f=>f)) (hst env)
 refine ⟨R1.old _ _ ho,gJ HF hC R1 rv (RP.mono hq (fun _ z=>OkP.le le1 z) fun _=>FlP.le le1)⟩
end
noncomputable def bf (ns:List (Str×NameKind))(x:Str):Bool:=ns.lookup x==some .local||ns.lookup x==some .cell
noncomputable def OkS (prog:Program)(w:World)(s0:Shared)(nt:List Str)(env:Env)(l:List Env)(wr:Str→Bool)(τ:TM)(Q:Flow→Shared→Prop):Fl×St→Prop:=fun p=>
 ∀av' τ' s',TM.le τ τ'→Rel prog w s0 env l nt wr τ' av' p.2 s'→match p.1 with
  | .next=>Q .next s'
  | .ret d=> ∀v,Rep prog w τ' v d→Q (.ret v) s'
structure SS (prog:Program)(w:World)(s0:Shared)(ft:FT)(m:Nat)(nt:List Str)(ns:List (Str×NameKind))(stmt:PySem.Stmt)(S:S):Prop where
 run: ∀{env:Env} {l:List Env} {A:Around} {av:Nat→Option Value} {τ:TM} {st:St} {s:Shared} {Q:Flow→Shared→Prop} {Er:Value→Shared→Prop},
  EnvNs env ns→Cx A (env::l) (m + 1)→Rel prog w s0 env (env::l) nt (bf ns) τ av st s→RP (ex ft S st) (OkS prog w s0 nt env (env::l) (bf ns) τ Q) (FlP w s0 (env::l) τ Er)→wpAny (model prog w) A (exec stmt env) Q Er s
structure SSL (prog:Program)(w:World)(s0:Shared)(ft:FT)(m:Nat)(nt:List Str)(ns:List (Str×NameKind))(stmts:List PySem.Stmt)(Ss:List S):Prop where
 run: ∀{env:Env} {l:List Env} {A:Around} {av:Nat→Option Value} {τ:TM} {st:St} {s:Shared} {Q:Flow→Shared→Prop} {Er:Value→Shared→Prop},
  EnvNs env ns→Cx A (env::l) (m + 1)→Rel prog w s0 env (env::l) nt (bf ns) τ av st s→RP (exs ft Ss st) (OkS prog w s0 nt env (env::l) (bf ns) τ Q) (FlP w s0 (env::l) τ Er)→wpAny (model prog w) A (execs stmts env) Q Er s
section
variable {prog:Program}{w:World}{s0:Shared}{ft:FT}{m:Nat}{nt:List Str}{ns:List (Str×NameKind)}{mg mb:Str→Option Value}
theorem OkS.le {env:Env}{l:List Env}{wr:Str→Bool}{τ τ':TM}{Q:Flow→Shared→Prop}(h:TM.le τ τ'){p:Fl×St}(z:OkS prog w s0 nt env l wr τ Q p):OkS prog w s0 nt env l wr τ' Q p:=
 fun av' τ1 s' le R=>z av' τ1 s' (h.trans le) R
theorem ai:SSL prog w s0 ft m nt ns [] []:=⟨fun {env l A av τ st s Q Er} _ _ R h=>wpAny_execs_nil (h av τ s (TM.le.refl _) R)⟩
theorem ae {a:PySem.Stmt}{r:List PySem.Stmt}{X:S}{Xs:List S}(ha:SS prog w s0 ft m nt ns a X)(hr:SSL prog w s0 ft m nt ns r Xs):SSL prog w s0 ft m nt ns (a::r) (X::Xs):=by
 refine ⟨?_⟩
 intro env l A av τ st s Q Er hE hC R h
 refine wpAny_execs_cons (ha.run hE hC R (h.bind.mono (fun p hp av' τ1 s1 le1 R1=>?_) fun _ f=>f))
 obtain ⟨f,st1⟩:=p
 cases f with
 | next=>exact hr.run hE hC R1 (hp.mono (fun _ q=>OkS.le le1 q) fun _=>FlP.le le1)
 | ret d=>intro v rv;exact hp av' τ1 s1 le1 R1 v rv
theorem aE {x:Str}{value:PySem.Expr}{p pos:Pos}{i:Nat}{X:E}(hX:SE prog w s0 ft m nt ns value X)(hx:nt[i]? =some x)(hw:bf ns x=true)
  (hs: ∀env,swapsWith value (some (.Name x p)) pos.line env=pure false):SS prog w s0 ft m nt ns (.Assign [.Name x p] value pos) (.assign i X):=by
 refine ⟨?_⟩
 intro env l A av τ st s Q Er hE hC R h
 refine wpAny_Assign_Name (hX.run hE hC R (h.bind.mono (fun p hp v τ1 s1 le1 rv R1=>?_) fun _ f=>f)) (hs env)
 exact bV R1 (sl:=.val p.1) hx hw rv fun h' tk R2=>hp _ τ1 _ le1 R2
theorem iT {env:Env}(h:env.scope.kind=.function):env.blockKind=.function:=by
 unfold Env.blockKind;rw [h];rfl
theorem ss_assignK {x:Str}{elt:PySem.Expr}{gens:List Comprehension}{scope:Scope}{cp p pos:Pos}{i:Nat}{X:E}(hX:SC prog w s0 ft m nt ns elt gens scope cp X)(hx:nt[i]? =some x)(hw:bf ns x=true)
  (hs:ns.lookup x=some .cell):SS prog w s0 ft m nt ns (.Assign [.Name x p] (.ListComp elt gens scope cp) pos) (.assign i X):=by
 refine ⟨?_⟩
 intro env l A av τ st s Q Er hE hC R h
 refine wpAny_Assign_Name ((cy hX).run hE hC R (h.bind.mono (fun p hp v τ1 s1 le1 rv R1=>?_) fun _ f=>f)) ?_
 ·exact bV R1 (sl:=.val p.1) hx hw rv fun h' tk R2=>hp _ τ1 _ le1 R2
 ·have hk:=(hE x _ hs).1
  unfold swapsWith
  simp only [hk]
  have:(some NameKind.cell==some NameKind.local)=false:=by decide
  simp only [this,Bool.and_false,Bool.false_and]
theorem ey {x:Str}{elt:PySem.Expr}{gens:List Comprehension}{scope:Scope}{cp p pos:Pos}{i:Nat}{X:E}(hX:SC prog w s0 ft m nt ns elt gens scope cp X)(hx:nt[i]? =some x)
  (hs:ns.lookup x=some .local) (hl:(p.line==cp.line)=true) (hn:(!(scope.names.any fun (n,k)=>n==x&&(k== .local||k== .cell)))=true):SS prog w s0 ft m nt ns (.Assign [.Name x p] (.ListComp elt gens scope cp) pos) (.assign i X):=by
 refine ⟨?_⟩
 intro env l A av τ st s Q Er hE hC R h
 have hk:=hE x _ hs
 have hb:=iT R.kind
 have hsw:swapsWith (.ListComp elt gens scope cp) (some (.Name x p)) pos.line env=pure true:=by
  unfold swapsWith
  have hl':(p.line==(PySem.Expr.ListComp elt gens scope cp).pos.line)=true:=hl
  simp only [hk,hb,hl',hn]
  rfl
 rw [exec_Assign_Name_used _ _ _ _ hsw]
 refine wpAny_bind (wpAny_standAt (wpAny_bind ?_))
 show wpAny _ A (do let _ ←comprehension (.ListComp elt gens scope cp) scope env (firstIterPos gens cp) (newList []) (firstAsync gens) (firstIter gens env) (some (assign (.Name x p) env))) _ _ s
 refine wpAny_bind (wpAny_mono (hX.run (use:=some (assign (.Name x p) env)) (Q:=fun _ s'=>Q .next s') hE hC R (h.bind.mono (fun p hp=>endUse hx (by unfold bf;rw [hs];rfl) fun av' τ' s' le R'=>hp av' τ' s' le R') fun _ f=>f)) (fun _ s' hq=>wpAny_pure (wpAny_pure hq)) fun _ _ e=>e)
theorem aP {e:PySem.Expr}{pos:Pos}{X:E}(hX:SE prog w s0 ft m nt ns e X):SS prog w s0 ft m nt ns (.Return (some e) pos) (.ret X):=by
 refine ⟨?_⟩
 intro env l A av τ st s Q Er hE hC R h
 exact wpAny_Return_some (hX.run hE hC R (h.bind.mono (fun p hp v τ1 s1 le1 rv R1=>hp av τ1 s1 le1 R1 v rv) fun _ f=>f))
theorem ss_ret0 {pos:Pos}:SS prog w s0 ft m nt ns (.Return none pos) (.ret (.cst .none)):=by
 refine ⟨?_⟩
 intro env l A av τ st s Q Er hE hC R h
 exact wpAny_Return_none (h av τ s (TM.le.refl _) R .none .none)
theorem aJ {c:PySem.Expr}{a b:List PySem.Stmt}{pos:Pos}{X:E}{As Bs:List S}(hc:SB prog w s0 ft m nt ns c X)(ha:SSL prog w s0 ft m nt ns a As)(hb:SSL prog w s0 ft m nt ns b Bs):SS prog w s0 ft m nt ns (.If c a b pos) (.ife X As Bs):=by
 refine ⟨?_⟩
 intro env l A av τ st s Q Er hE hC R h
 have h:RP ((ev ft X st).bind fun p=>(Res.ofOpt (bY p.1)).bind fun t=>match t with
  | true=>exs ft As p.2
  | false=>exs ft Bs p.2) _ _:=h
 refine wpAny_If (hc.run hE hC R ?_)
 revert h
 cases ev ft X st with
 | bad=>intro h;exact h
 | flt n=>intro h;exact h
 | ok p=>
  intro h
  refine x12 (RP.ofOpt h) fun b' hb' h1=>?_
  show RP ((Res.ofOpt (bY p.1)).bind fun b=>Res.ok (D.bool b,p.2)) _ _
  rw [hb']
  intro b'' τ1 s1 e1 le1 R1
  cases e1
  have h2:=RP.mono h1 (fun _ q=>OkS.le le1 q) (fun _=>FlP.le (Er:=Er) le1)
  cases b' with
  | true=>exact ha.run hE hC R1 h2
  | false=>exact hb.run hE hC R1 h2
theorem ss_ex {e:PySem.Expr}{pos:Pos}{X:E}(hX:SE prog w s0 ft m nt ns e X)(hs: ∀env,swapsWith e none pos.line env=pure false):SS prog w s0 ft m nt ns (.Expr e pos) (.ex X):=by
 refine ⟨?_⟩
 intro env l A av τ st s Q Er hE hC R h
 refine wpAny_Expr (hX.run hE hC R (h.bind.mono (fun p hp v τ1 s1 le1 rv R1=>?_) fun _ f=>f)) (by unfold interactive;rw [R.kind];rfl) (hs env)
 obtain ⟨d,st1⟩:=p
 cases d <;> try exact hp.elim
 cases rv
 exact hp av τ1 s1 le1 R1
theorem cW {es:List PySem.Expr}{k:_}{p pos:Pos}{value:PySem.Expr}{is:List Nat}{X:E}(hX:SE prog w s0 ft m nt ns value X)(hp:PatL nt (bf ns) es is)
  (hs: ∀env,swapsWithSole [.Tuple es k p] value pos.line env=pure false) (hw: ∀env,swappedStores [.Tuple es k p] value env=pure none):SS prog w s0 ft m nt ns (.Assign [.Tuple es k p] value pos) (.tupA is X):=by
 refine ⟨?_⟩
 intro env l A av τ st s Q Er hE hC R h
 refine Assign_Tuple (hX.run hE hC R (h.bind.mono (fun p hq v τ1 s1 le1 rv R1=>?_) fun _ f=>f)) (hs env) (hw env)
 refine x12 (RP.tupM hq) fun ds ed hq=>x12 (RP.ofOpt hq) fun st' hst hq=>?_
 rw [ed] at rv
 cases rv with
 | tup ha hb hc=>
  refine x02 (hp.facts env) fun h1 h2=>?_
  refine assign_Tuple_tuple hC.handled (hb.isTup (R1.hB _ _ ha)) ?_ h2 fun h' he=>?_
  ·rw [h1,fb hst,←hc.length];simp
  ·exact gm hp (R1.grow (h':=h') (tk:=s1.toks) fun b o e=>he b o (Nat.ne_of_lt (Heap.lt_size e)) e) hc hst fun av' h'' tk R'=>hq av' τ1 _ le1 R'
theorem own_new {env:Env}{l:List Env}{av:Nat→Option Value}{τ:TM}{st:St}{s:Shared}{M:Model}{A:Around}{E:Value→Shared→Prop}{Q:Unit→Shared→Prop}{wr:Str→Bool}(R:Rel prog w s0 env l nt wr τ av st s){i:Nat}{x:Str}{a:Addr}{o:Obj}{d:D}(hx:nt[i]? =some x)(hw:wr x=true)
  (ha:τ a=.no) (ho:s.heap.get? a=some o) (hc:Cont prog w τ o d) (h: ∀av' h' tk,Rel prog w s0 env l nt wr (aL τ a (.own i)) av' (st.set i (.own d)) {s with heap:=h',toks:=tk}→TM.le τ (aL τ a (.own i))→Q () {s with heap:=h',toks:=tk}):
  wpAny M A (storeName env x (.ref a)) Q E s:=by
 have le:=ce (t:=.own i) ha
 have R1:=R.tag (t:=.own i) ha ho (.inr (.inl ⟨i,rfl⟩))
 exact bV R1 (sl:=.own d) hx hw ⟨a,o,rfl,ax ..,ho,hc.mono le⟩ fun h' tk R2=>h _ h' tk R2 le
theorem fG {x:Str}{es:List PySem.Expr}{lp p pos:Pos}{i:Nat}{Xs:List E}(hX:SL prog w s0 ft m nt ns es Xs)(hx:nt[i]? =some x)(hw:bf ns x=true):SS prog w s0 ft m nt ns (.Assign [.Name x p] (.List es lp) pos) (.ownL i Xs):=by
 refine ⟨?_⟩
 intro env l A av τ st s Q Er hE hC R h
 refine wpAny_Assign_Name (PyProof.Rows.List_ (hX.run hE hC R (h.bind.mono (fun p hp vs τ1 s1 le1 rv R1=>?_) fun _ f=>f))) rfl
 split at hp
 ·rename_i hz
  have R2:=R1.grow (h':=s1.heap.push {cls:=.type "list",data:=.seq vs.toArray}) (tk:=s1.toks) fun _ _ e=>Heap.get?_push_of_some _ e
  have hl:=rv.length
  refine wpAny_newObj_type ?_ ?_
  ·exact own_new (d:=.lst p.1) R2 hx hw R1.fresh (Heap.get?_push_size _ rfl) ⟨vs,⟨0,rfl⟩,rv⟩ fun av' h' tk R3 le3=>hp av' _ _ (le1.trans le3) R3
  ·show vs.toArray.size≤sizeLine
   simp only [List.size_toArray,sizeLine];exact nl [_,_] [(N0,N1),(N1,.n 1000)] N0 (.n 16777216) rfl (Nat.le_of_eq hl) hz
 ·exact hp.elim
theorem ss_ownD {x:Str}{lp p pos:Pos}{i:Nat}(hx:nt[i]? =some x)(hw:bf ns x=true):SS prog w s0 ft m nt ns (.Assign [.Name x p] (.Dict [] [] lp) pos) (.ownD i):=by
 refine ⟨?_⟩
 intro env l A av τ st s Q Er hE hC R h
 refine wpAny_Assign_Name (wpAny_Dict_empty ?_) rfl
 have R2:=R.grow (h':=s.heap.push {cls:=.type "dict",data:=.dict #[]}) (tk:=s.toks) fun _ _ e=>Heap.get?_push_of_some _ e
 refine own_new (d:=.dct []) R2 hx hw R.fresh (Heap.get?_push_size _ rfl) ⟨[],⟨⟨rfl,rfl,rfl⟩, #[],0,rfl,?_,.nil,List.nodup_nil⟩,rfl,.nil⟩ fun av' h' tk R3 le3=>h av' _ _ le3 R3
 intro e he;simp at he
end
noncomputable def f4 (ft:FT):Init→St→Res (Slot×St)
 | .v e,st=>(ev ft e st).bind fun p=>.ok (.val p.1,p.2)
 | .l es,st=>(evs ft es st).bind fun p=>if p.1.length≤1000 then .ok (.own (.lst p.1),p.2) else .bad
 | .d,st=>.ok (.own (.dct []),st)
theorem inits_cons (ft:FT)(i:Nat)(I:Init)(r:List (Nat×Init))(st:St):cV ft ((i,I)::r) st=(f4 ft I st).bind fun p=>(cV ft r p.2).bind fun q=>.ok ((i,p.1)::q.1,q.2):=by
 cases I with
 | v e=>show (ev ft e st).bind _=((ev ft e st).bind _).bind _;cases ev ft e st <;> rfl
 | l es=>
  show (evs ft es st).bind _=((evs ft es st).bind _).bind _
  cases evs ft es st with
  | ok p=>
   show (if _ then _ else _)=Res.bind (if _ then _ else _) _
   by_cases h:p.1.length≤1000
   ·rw [if_pos h,if_pos h]
   ·rw [if_neg h,if_neg h]
  | _=>rfl
 | d=>rfl
noncomputable def Pre (prog:Program)(w:World)(τ:TM)(v:Value):Slot→Prop
 | .val d=>Rep prog w τ v d
 | .own d=> ∃a o,v=.ref a∧τ a=.it o∧Cont prog w τ o d
 | .lent _=>False
structure SI (prog:Program)(w:World)(s0:Shared)(ft:FT)(m:Nat)(nt:List Str)(ns:List (Str×NameKind))(e:PySem.Expr)(I:Init):Prop where
 run: ∀{env:Env} {l:List Env} {wr:Str→Bool} {A:Around} {av:Nat→Option Value} {τ:TM} {st:St} {s:Shared} {Q:Value→Shared→Prop} {Er:Value→Shared→Prop},
  EnvNs env ns→Cx A l (m + 1)→Rel prog w s0 env l nt wr τ av st s→RP (f4 ft I st) (fun p=> ∀v τ' s',TM.le τ τ'→Pre prog w τ' v p.1→(∀a d,v=.ref a→p.1=.own d→Nt τ a)→Rel prog w s0 env l nt wr τ' av p.2 s'→Q v s') (FlP w s0 l τ Er)→
  wpAny (model prog w) A (eval e env) Q Er s
section
variable {prog:Program}{w:World}{s0:Shared}{ft:FT}{m:Nat}{nt:List Str}{ns:List (Str×NameKind)}{mg mb:Str→Option Value}
theorem Pre.le {τ τ':TM}{v:Value}{sl:Slot}(h:TM.le τ τ')(z:Pre prog w τ v sl):Pre prog w τ' v sl:=by
 cases sl with
 | val d=>exact Rep.mono h z
 | own d=>obtain ⟨a,o,e,t,c⟩:=z;exact ⟨a,o,e,h.it _ _ t,c.mono h⟩
 | lent d=>exact z
theorem si_v {e:PySem.Expr}{X:E}(hX:SE prog w s0 ft m nt ns e X):SI prog w s0 ft m nt ns e (.v X):=by
 refine ⟨?_⟩
 intro env l wr A av τ st s Q Er hE hC R h
 simp only [f4] at h
 exact hX.run hE hC R (h.bind.mono (fun p hp v τ1 s1 le1 rv R1=>hp v τ1 s1 le1 rv (fun _ _ _ e=>by cases e) R1) fun _ f=>f)
theorem si_l {es:List PySem.Expr}{lp:Pos}{Xs:List E}(hX:SL prog w s0 ft m nt ns es Xs):SI prog w s0 ft m nt ns (.List es lp) (.l Xs):=by
 refine ⟨?_⟩
 intro env l wr A av τ st s Q Er hE hC R h
 simp only [f4] at h
 refine PyProof.Rows.List_ (hX.run hE hC R (h.bind.mono (fun p hp vs τ1 s1 le1 rv R1=>?_) fun _ f=>f))
 split at hp
 ·rename_i hz
  have hl:=rv.length
  refine wpAny_newObj_type ?_ (by show vs.toArray.size≤sizeLine;simp only [List.size_toArray,sizeLine];exact nl [_,_] [(N0,N1),(N1,.n 1000)] N0 (.n 16777216) rfl (Nat.le_of_eq hl) hz)
  refine x02 (R1.alloc (o:={cls:=.type "list",data:=.seq vs.toArray}) rfl (t:=.it _) (.inr (.inr rfl))) fun R' le=>?_
  exact hp _ _ _ (le1.trans le) ⟨_,_,rfl,ax ..,vs,⟨0,rfl⟩,rv.mono le⟩ (fun a d e _=>by cases e;exact (Nt.of R1.fresh).le le1) R'
 ·exact hp.elim
theorem si_d {lp:Pos}:SI prog w s0 ft m nt ns (.Dict [] [] lp) .d:=by
 refine ⟨?_⟩
 intro env l wr A av τ st s Q Er hE hC R h
 simp only [f4] at h
 refine wpAny_Dict_empty ?_
 refine x02 (R.alloc (o:={cls:=.type "dict",data:=.dict #[]}) rfl (t:=.it _) (.inr (.inr rfl))) fun R' le=>?_
 refine h _ _ _ le ⟨_,_,rfl,ax ..,[],⟨⟨rfl,rfl,rfl⟩, #[],0,rfl,?_,.nil,List.nodup_nil⟩,rfl,.nil⟩ (fun a d e _=>by cases e;exact Nt.of R.fresh) R'
 intro e he;simp at he
theorem store_pre {M:Model}{A:Around}{E:Value→Shared→Prop}{env:Env}{l:List Env}{wr:Str→Bool}{av:Nat→Option Value}{τ:TM}{st:St}{s:Shared}(R:Rel prog w s0 env l nt wr τ av st s){i:Nat}{x:Str}{v:Value}{sl:Slot}{Q:Unit→Shared→Prop}
  (hx:nt[i]? =some x) (hw:wr x=true) (hp:Pre prog w τ v sl)
  (hQ: ∀av' τ' s',Rel prog w s0 env l nt wr τ' av' (st.set i sl) s'→TM.lx τ τ'→(∀a o,(∀d,sl=.own d→v≠ .ref a)→τ a=.it o→τ' a=.it o)→(∀a t,τ' a=t→τ a=t∨ ∃d,sl=.own d∧v=.ref a)→Q () s'):wpAny M A (bindName env x v) Q E s:=by
 refine bindName_ ?_
 cases sl with
 | val d=>exact bV R (sl:=.val d) hx hw hp fun h' tk R2=>hQ _ τ _ R2 (TM.lx.refl _) (fun _ _ _ e=>e) fun a t e=>.inl e
 | own d=>
  obtain ⟨a,o,rfl,t,c⟩:=hp
  have R1:=R.turnIt (tk:=s.toks) t (Heap.SameBut.refl a s.heap).extBut (t:=.own i) (.inr ⟨o,.inr (.inr ⟨i,rfl⟩),R.itO _ _ t⟩)
  have lx:=bv (t:=.own i) t
  have con:Cont prog w (aL τ a (.own i)) o d:=by
   cases d <;> simp only [Cont] at c ⊢
   ·refine x12 c fun vs x y=>?_;exact ⟨vs,x,y.sub lx.sub⟩
   ·refine x13 c fun vs x e y=>?_;exact ⟨vs,x,e,y.sub lx.sub⟩
  refine bV R1 (sl:=.own d) hx hw ⟨a,o,rfl,ax ..,R.itO _ _ t,con⟩ fun h' tk R2=>hQ _ _ _ R2 lx (fun b o' h e=>?_) fun b t' e=>?_
  ·exact (az _ _ fun q=>h d rfl (by rw [q])).trans e
  ·by_cases q:b=a
   ·obtain rfl:=q.symm;exact .inr ⟨d,rfl,rfl⟩
   ·rw [az _ _ q] at e;exact .inl e
 | lent d=>exact hp.elim
theorem set_comm {st:St}{i j:Nat}{a b:Slot}(h:i≠j):(st.set j b).set i a=(st.set i a).set j b:=by
 unfold St.set
 simp only
 rw [List.set_comm _ _ (Ne.symm h)]
theorem inits_two (ft:FT)(i j:Nat)(I1 I2:Init)(st:St):cV ft [(i,I1),(j,I2)] st=(f4 ft I1 st).bind fun p=>((f4 ft I2 p.2).bind fun p=>(Res.ok (([]:List (Nat×Slot)),p.2)).bind fun q=>.ok ((j,p.1)::q.1,q.2)).bind fun q=>.ok ((i,p.1)::q.1,q.2):=
 (inits_cons ft i I1 _ st).trans (congrArg (Res.bind _) (funext fun p=>congrArg (Res.bind · _) (inits_cons ft j I2 [] p.2)))
theorem tupO_eq {i j:Nat}(r:Res (Slot×St))(f:St→Res (Slot×St)):
  ((r.bind fun p=>((f p.2).bind fun p=>(Res.ok (([]:List (Nat×Slot)),p.2)).bind fun q=>.ok ((j,p.1)::q.1,q.2)).bind fun q=>.ok ((i,p.1)::q.1,q.2)).bind fun p=>.ok (Fl.next,p.1.foldl (fun s q=>s.set q.1 q.2) p.2))=
   r.bind fun p=>(f p.2).bind fun q=>.ok (Fl.next,(q.2.set i p.1).set j q.1):=by
 cases r with
 | ok p=>show ((Res.bind (f p.2) _).bind _).bind _=(Res.bind (f p.2) _);cases f p.2 <;> rfl
 | _=>rfl
noncomputable def isSt:PySem.Expr→Bool | .Starred .. =>true | _=>false
theorem sw2 {x y:Str}{e1 e2:PySem.Expr}{k k2:_}{p1 p2 p p':Pos}(h1:isSt e1=false)(h2:isSt e2=false)(hl:(p2.line==p1.line)=true)(hxy:((List.eraseDups [x,y]).length==2)=true)
  (hf:(foldedForSure 8 e1&&foldedForSure 8 e2)=false) (hc:(constantsAlone 8 e1&&constantsAlone 8 e2)=false):
  ∀env:Env,env.blockKind=.function→env.kindOf x=some .local→env.kindOf y=some .local→swappedStores [.Tuple [.Name x p1,.Name y p2] k p] (.Tuple [e1,e2] k2 p') env=pure (some [x,y]):=by
 intro env hb hx hy
 delta swappedStores
 refine (if_neg (by rw [hb];intro h;exact absurd h (by decide: ¬(false=true)))).trans ?_
 refine (if_neg (c:=(isSt e1||(isSt e2||false))=true) (by rw [h1,h2];decide)).trans ?_
 have k1:(env.kindOf x==some NameKind.local&&p1.line==p1.line)=true:=by rw [hx,beq_self_eq_true p1.line];rfl
 have k2:(env.kindOf y==some NameKind.local&&p2.line==p1.line)=true:=by rw [hy,hl];rfl
 have hn: ∀f:PySem.Expr→Option Str,f (.Name x p1)=some x→f (.Name y p2)=some y→List.filterMap f [.Name x p1,.Name y p2]=[x,y]:=fun f a b=>
  (List.filterMap_cons_some a).trans (congrArg (x:: ·) (List.filterMap_cons_some b))
 refine (congrArg (fun ns:List Str=>ite ((ns.length != 2||ns.eraseDups.length != ns.length)=true) (pure none:Sem (Option (List Str))) (ite ((foldedForSure 8 e1&&(foldedForSure 8 e2&&true))=true) (pure none) (ite ((constantsAlone 8 e1&&(constantsAlone 8 e2&&true))=true) (unsupported "assign.tuple-of-constant-expressions:order-of-the-stores" >>= fun _=>pure (some ns)) (pure (some ns))))) (hn _ (if_pos k1) (if_pos k2))).trans ?_
 refine (if_neg ?_).trans ((if_neg ?_).trans (if_neg ?_))
 ·show ¬(false|| !((List.eraseDups [x,y]).length==2))=true
  rw [hxy];decide
 ·rw [Bool.and_true,hf];decide
 ·rw [Bool.and_true,hc];decide
set_option maxHeartbeats 200000 in
theorem fE {x y:Str}{e1 e2:PySem.Expr}{k k2:_}{p1 p2 p p' pos:Pos}{i j:Nat}{I1 I2:Init}(h1:SI prog w s0 ft m nt ns e1 I1)(h2:SI prog w s0 ft m nt ns e2 I2)(hx:nt[i]? =some x)(hy:nt[j]? =some y)(hij:i≠j)
  (hlx:ns.lookup x=some .local) (hly:ns.lookup y=some .local) (hst: ∀env,starEach (e1::[e2]) env=(false,eval e1 env)::starEach [e2] env) (hst2: ∀env,starEach (e2::[]) env=(false,eval e2 env)::starEach [] env)
  (hs: ∀env,swapsWithSole [.Tuple [.Name x p1,.Name y p2] k p] (.Tuple [e1,e2] k2 p') pos.line env=pure false)
  (hw: ∀env:Env,env.blockKind=.function→env.kindOf x=some .local→env.kindOf y=some .local→swappedStores [.Tuple [.Name x p1,.Name y p2] k p] (.Tuple [e1,e2] k2 p') env=pure (some [x,y])):
  SS prog w s0 ft m nt ns (.Assign [.Tuple [.Name x p1,.Name y p2] k p] (.Tuple [e1,e2] k2 p') pos) (.tupO [(i,I1),(j,I2)]):=by
 refine ⟨?_⟩
 intro env l A av τ st s Q Er hE hC R h
 have h:RP ((cV ft [(i,I1),(j,I2)] st).bind fun p=>.ok (Fl.next,p.1.foldl (fun s q=>s.set q.1 q.2) p.2)) _ _:=h
 have wx:bf ns x=true:=by unfold bf;rw [hlx];rfl
 have wy:bf ns y=true:=by unfold bf;rw [hly];rfl
 refine Assign_Tuple_swapped (names:=[x,y]) ?_ (hs env) (hw env (iT R.kind) (hE x _ hlx) (hE y _ hly))
 rw [inits_two,tupO_eq] at h
 refine PyProof.Rows.Tuple_ ?_
 refine PyProof.Rows.spliced_more (h1.run hE hC R (h.bind.mono (fun a ha v1 τ1 s1 le1 pr1 f1 R1=>?_) fun _ f=>f)) (hst env)
 have ha:=RP.mono ha (fun _ q=>q) (fun _=>FlP.le (Er:=Er) le1)
 refine PyProof.Rows.spliced_more (h2.run hE hC R1 (ha.bind.mono (fun b hq v2 τ2 s2 le2 pr2 f2 R2=>?_) fun _ f=>f)) (hst2 env)
 refine PyProof.Rows.spliced_none ?_
 have pr1':=pr1.le le2
 refine wpAny_newObj_type ?_ (by show ([v1,v2]:List Value).toArray.size≤sizeLine;simp [sizeLine])
 refine x02 (R2.alloc (o:={cls:=.type "tuple",data:=.seq ([v1,v2]:List Value).toArray}) rfl (t:=.frz _) (.inl rfl)) fun R3 le3=>?_
 have ht:IsTup ((s2.heap.push {cls:=.type "tuple",data:=.seq ([v1,v2]:List Value).toArray})) s2.heap.objs.size ([v1,v2]:List Value).toArray:=⟨_,Heap.get?_push_size _ rfl,rfl,0,rfl⟩
 have eL:([x,y]:List Str).length=([v1,v2]:List Value).toArray.size:=rfl
 rw [eL]
 refine unpackItems_tuple (s:={s2 with heap:=s2.heap.push {cls:=.type "tuple",data:=.seq ([v1,v2]:List Value).toArray}}) hC.handled ht fun h' he=>?_
 have R4:=R3.grow (h':=h') (tk:=s2.toks) fun b o e=>he b o (Nat.ne_of_lt (Heap.lt_size e)) e
 show wpAny _ _ (assignInOrder [fun v=>bindName env y v,fun v=>bindName env x v] [v2,v1]) _ _ _
 have q1:=pr1'.le le3
 have q2:=pr2.le le3
 refine wpAny_bind (wpAny_holding (store_pre R4 hy wy q2 fun av5 τ5 s5 R5 lx5 it5 bk5=>?_))
 have q3:Pre prog w τ5 v1 a.1:=by
  cases ea:a.1 with
  | val d=>rw [ea] at q1;exact Rep.sub lx5.sub q1
  | lent d=>rw [ea] at q1;exact q1
  | own d=>
   rw [ea] at q1
   obtain ⟨c,o,e,t,hcn⟩:=q1
   refine ⟨c,o,e,it5 c o (fun d' e' e''=>?_) t,?_⟩
   ·have:=(f2 c d' e'' e').2.2.1
    rw [ea] at pr1
    obtain ⟨c2,o2,g1,g2,_⟩:=pr1
    rw [e] at g1;cases g1
    exact this o2 g2
   ·cases d <;> simp only [Cont] at hcn ⊢
    ·refine x12 hcn fun vs x y=>?_;exact ⟨vs,x,y.sub lx5.sub⟩
    ·refine x13 hcn fun vs x e y=>?_;exact ⟨vs,x,e,y.sub lx5.sub⟩
 refine wpAny_bind (wpAny_holding (store_pre R5 hx wx q3 fun av6 τ6 s6 R6 lx6 it6 bk6=>wpAny_pure ?_))
 have le6:TM.le τ τ6:=by
  have le4:=(le1.trans le2).trans le3
  have lx:=(le4.lx.trans lx5).trans lx6
  refine ⟨lx.frz,lx.pin,fun c o e=>?_,lx.pot,lx.bld⟩
  refine it6 c o (fun d e' e''=>(f1 c d e'' e').2.2.1 o e) (it5 c o (fun d e' e''=>(f2 c d e'' e').2.2.1 o (le1.it _ _ e)) (le4.it _ _ e))
 rw [set_comm hij] at R6
 exact hq av6 τ6 s6 le6 R6
end
section
variable {prog:Program}{w:World}{s0:Shared}{ft:FT}{m:Nat}{nt:List Str}{ns:List (Str×NameKind)}{mg mb:Str→Option Value}
variable {env:Env}{l:List Env}{wr:Str→Bool}{av:Nat→Option Value}{τ:TM}{st:St}{s:Shared}
theorem d5 {i:Nat}{ds:List D}(h:cZ st i=some ds):st.get i=some (.own (.lst ds)):=by
 delta cZ at h
 revert h
 cases st.get i with
 | none=>intro h;cases h
 | some sl=>cases sl with
  | own d=>cases d with
   | lst e=>intro h;cases h;rfl
   | _=>intro h;cases h
  | _=>intro h;cases h
theorem jv {i:Nat}{ds:List (Str×D)}(h:gs st i=some ds):st.get i=some (.own (.dct ds)):=by
 delta gs at h
 revert h
 cases st.get i with
 | none=>intro h;cases h
 | some sl=>cases sl with
  | own d=>cases d with
   | dct e=>intro h;cases h;rfl
   | _=>intro h;cases h
  | _=>intro h;cases h
theorem Rel.ownAt (R:Rel prog w s0 env l nt wr τ av st s){i:Nat}{x:Str}{d:D}(hx:nt[i]? =some x)(hv:Vis env x)(h:st.get i=some (.own d)):
  ∃a o,av i=some (.ref a)∧Has env s.heap x (.ref a)∧τ a=.own i∧s.heap.get? a=some o∧Cont prog w τ o d:=by
 obtain ⟨v,e1,e2,a,o,rfl,t,ho,c⟩:=R.vars i x _ hx h hv
 exact ⟨a,o,e1,e2,t,ho,c⟩
theorem Rel.modOwn (R:Rel prog w s0 env l nt wr τ av st s){i:Nat}{x:Str}{d d':D}{a:Addr}{o':Obj}{h':Heap}{tk:Nat}(hx:nt[i]? =some x)(hv:Vis env x)(h:st.get i=some (.own d))(ha:av i=some (.ref a))(t:τ a=.own i)
  (hs:Heap.SameBut a s.heap h') (ho:h'.get? a=some o') (hc:Cont prog w τ o' d'):Rel prog w s0 env l nt wr τ av (st.set i (.own d')) {s with heap:=h',toks:=tk}:=by
 have hn:(st.clear i).get i=none:=by rw [St.get_clear,if_pos rfl]
 have R1:=(R.drop i).turnOwn t hs ho hn (tk:=tk)
 refine x13 (R.vars i x _ hx h hv) fun v e1 e2 _=>?_
 rw [ha] at e1;cases e1
 have ne: ∀{b:Addr} {t':Tag},τ b=t'→t'≠ .own i→b≠a:=fun e n q=>n (by rw [←e,q,t])
 have hh:Has env h' x (.ref a):=by
  rcases e2 with ⟨hl,m,hm,hv⟩ | ⟨hl,c,hc,hv⟩
  ·exact .inl ⟨hl,m,hm.sameBut hs (ne R.loc (by simp)),hv⟩
  ·refine .inr ⟨hl,c,hc,hv.sameBut hs ?_⟩
   rcases R.celT x c hl hc with q | ⟨o,q⟩
   ·exact ne q (by simp)
   ·exact ne q (by simp)
 have R2:=R1.put (sl:=.own d') hx ha hh ⟨a,o',rfl,t,ho,hc⟩
 rw [St.set_clear] at R2
 exact R2
theorem fF {x:Str}{i value:PySem.Expr}{p p2 pos:Pos}{k:Nat}{X Y:E}(hX:SE prog w s0 ft m nt ns i X)(hY:SE prog w s0 ft m nt ns value Y)(hx:nt[k]? =some x)(hv:bN (ns.lookup x)=true)(h1:(x==("__debug__":Str))=false)(h2:(x==("__classdict__":Str))=false)
  (hs: ∀env,swapsWith value (some (.Subscript (.Name x p) i p2)) pos.line env=pure false):SS prog w s0 ft m nt ns (.Assign [.Subscript (.Name x p) i p2] value pos) (.setK k X Y):=by
 refine ⟨?_⟩
 intro env l A av τ st s Q Er hE hC R h
 refine wpAny_Assign_Subscript (hY.run hE hC R (h.bind.mono (fun q hq v τ1 s1 le1 rv R1=>?_) fun _ f=>f)) (hs env)
 have hq:=RP.mono hq (fun _ q=>q) (fun _=>FlP.le (Er:=Er) le1)
 refine x12 (RP.ofOpt hq) fun kv0 hk0 hq=>?_
 refine x25 (R1.ownAt hx (hE.vis hv) (jv hk0)) fun a o e1 e2 t ho c=>?_
 refine aM R1.kind e2 (hX.run hE hC R1 (hq.bind.mono (fun r hr iv τ2 s2 le2 ri R2=>?_) fun _ f=>f)) h1 h2
 refine x12 (RP.ofOpt hr) fun kvs hk hr=>?_
 refine x12 (RP.strM hr) fun y ed hr=>x02 (RP.ifI hr) fun hz hr=>?_
 refine x25 (R2.ownAt hx (hE.vis hv) (jv hk)) fun a' o' e1' _ t' ho' c'=>?_
 have ea:a'=a:=Value.ref.inj (Option.some.inj (e1'.symm.trans e1))
 rw [ea] at t' ho'
 rw [ed] at ri
 refine x11 ri.str_inv fun tk ev=>x13 c' fun kv hD he hrl=>?_
 rw [ev]
 have l1:kv.length=kvs.length:=by have:=congrArg List.length he;simpa using this
 refine wpAny_setItem_pairs (knd:=strKind prog w) (kvs:=kv) (k:=y) (strKind_is _ _ _ _) (hD.mapOf ho') (fun h' hm hs'=>?_) (by simp only [sizeLine];exact nl [_,_] [(N0,N1),(N1,.n 1000)] N0 (.n 16777216) rfl (Nat.le_of_eq l1) hz)
 refine x12 (fA hm) fun o2 ho2 hD2=>?_
 exact hr _ _ _ (le1.trans le2) (R2.modOwn (d':=.dct (cz y q.1 kvs)) (tk:=s2.toks + 1) hx (hE.vis hv) (jv hk) e1 t' hs' ho2 ⟨_,hD2,ij v he hD.nodup,ii (rv.mono le2) he hD.nodup hrl⟩)
theorem b7 {env:Env}(h:env.scope.kind=.function):interactive env=false:=by
 unfold interactive;rw [h];rfl
theorem call_seq1 {A:Around}{E:Value→Shared→Prop}{o e:PySem.Expr}{name:Str}{id:String}{apos pos:Pos}{Q:Value→Shared→Prop}{x:Str}{p:Pos}(ho:o=.Name x p)(slot:PySem.Slot "list" name id)(ty:typeOf (.builtin id)=pure (.type "method_descriptor"))
  (hst:starEach [e] env=[(false,eval e env)]) (hline:(apos.endLine==pos.line)=true)
  (h:wpAny (model prog w) A (eval o env) (fun ov s₁=> ∃a its n,ov=.ref a∧IsL s₁.heap a its n∧wpAny (model prog w) A (callWith pos (.builtin id) [.ref a] [(false,eval e env)] []) Q E s₁) E s):
  wpAny (model prog w) A (eval (.Call (.Attribute o name apos) [e] [] pos) env) Q E s:=by
 refine wpAny_Call_method1_late (by subst ho;rfl) hline (by rw [hst];rfl) (wpAny_mono h (fun ov s₁ h₁=>?_) fun _ _ x=>x)
 obtain ⟨a,its,n,rfl,hl,hc⟩:=h₁
 exact ⟨"list",id,F.plainAttrs_list,slot,ty,⟨_,hl,rfl⟩,(fun b e=>by cases e;exact ⟨_,hl,rfl⟩),hc⟩
theorem iC {its its2:Array Value}{n:Nat}{f:Array Value→Array Value}(h:f its=its2): ∃n',Obj.mapSeq f {cls:=.type "list",dict:=none,data:=.seq its n,slots:= #[]}={cls:=.type "list",dict:=none,data:=.seq its2 n',slots:= #[]}:=by
 subst h
 exact ⟨_,rfl⟩
theorem dr {x:Str}{e:PySem.Expr}{p apos cpos pos:Pos}{k:Nat}{X:E}(hX:SE prog w s0 ft m nt ns e X)(hx:nt[k]? =some x)(hv:bN (ns.lookup x)=true)(h1:(x==("__debug__":Str))=false)(h2:(x==("__classdict__":Str))=false)
  (hst: ∀env,starEach [e] env=[(false,eval e env)]) (hline:(apos.endLine==cpos.line)=true):
  SS prog w s0 ft m nt ns (.Expr (.Call (.Attribute (.Name x p) "append" apos) [e] [] cpos) pos) (.app k X):=by
 refine ⟨?_⟩
 intro env l A av τ st s Q Er hE hC R h
 refine x12 h.ofOpt fun ds0 hk0 h=>?_
 obtain ⟨a,o,e1,e2,t,ho,vs0,c,rv0⟩:=R.ownAt hx (hE.vis hv) (d5 hk0)
 obtain ⟨n0,rfl⟩:=c
 refine wpAny_Expr (call_seq1 rfl F.slot_list_append F.type_list_append (hst env) hline (aM R.kind e2 ⟨a,_,_,rfl,ho,?_⟩ h1 h2)) (b7 R.kind) rfl
 refine P.append_list (hX.run hE hC R (h.bind.mono (fun q hq v τ1 s1 le1 rv R1=>?_) fun _ f=>f))
 refine x12 (RP.ofOpt hq) fun ds hk hq=>?_
 split at hq
 ·rename_i hz
  obtain ⟨a',o',e1',e2',t',ho',vs,c',rvs⟩:=R1.ownAt hx (hE.vis hv) (d5 hk)
  rw [e1] at e1';cases e1'
  obtain ⟨n,rfl⟩:=c'
  have hl:=rvs.length
  refine ⟨vs.toArray,n,by simp only [List.size_toArray,sizeLine];exact nl [_,_] [(N0,N1),(N1,.n 1000)] N0 (.n 16777216) rfl (Nat.le_of_eq hl) hz,ho',?_⟩
  obtain ⟨n',en⟩:=iC (its:=vs.toArray) (its2:=(vs++[v]).toArray) (n:=n) (f:=fun xs=>xs.push v) (by simp)
  have hget:(s1.heap.update a (Obj.mapSeq fun xs=>xs.push v)).get? a=some {cls:=.type "list",dict:=none,data:=.seq (vs++[v]).toArray n',slots:= #[]}:=by
   rw [Heap.get?_update_self _ ho' (by rw [en];rfl),en]
  have R2:=R1.modOwn (d':=.lst (ds++[q.1])) (tk:=s1.toks) hx (hE.vis hv) (d5 hk) e1 t' (Heap.SameBut.update ..) hget ⟨vs++[v],⟨n',rfl⟩,rvs.snoc rv⟩
  exact hq _ _ _ le1 R2
 ·exact hq.elim
theorem RP.lstI {d:D}{c:List D→Prop} [DecidablePred c] {α:Type}{G:List D→α}{P:α→Prop}{N:Int→Prop}(h:RP (match d with | .lst x=>if c x then .ok (G x) else .bad | _=>.bad) P N): ∃x,d=.lst x∧c x∧P (G x):=by
 cases d with
 | lst x=>exact ⟨x,rfl,RP.ifI h⟩
 | _=>exact h.elim
theorem own_grow {env:Env}{l:List Env}{wr:Str→Bool}{τ1:TM}{av:Nat→Option Value}{st1:St}{s1:Shared}(R1:Rel prog w s0 env l nt wr τ1 av st1 s1){x:Str}{k:Nat}(hx:nt[k]? =some x)(hv:Vis env x){ds es:List D}(hk:cZ st1 k=some ds){a:Addr}(e1:av k=some (.ref a)){v:Value}(rv:Rep prog w τ1 v (.lst es)):
  ∃b n nb vs us n',v=.ref b∧IsL s1.heap a vs.toArray n∧IsL s1.heap b us.toArray nb∧(vs.length=ds.length∧us.length=es.length)∧τ1 a=.own k∧
   (s1.heap.update a (Obj.mapSeq fun xs=>xs++us.toArray)).get? a=some {cls:=.type "list",dict:=none,data:=.seq (vs++us).toArray n',slots:= #[]}∧RepL prog w τ1 (vs++us) (ds++es)∧
   Rel prog w s0 env l nt wr τ1 av (st1.set k (.own (.lst (ds++es)))) {s1 with heap:=s1.heap.update a (Obj.mapSeq fun xs=>xs++us.toArray)}:=by
 refine x25 (R1.ownAt hx hv (d5 hk)) fun a' o' e1' _ t' ho' c=>?_
 have ea:a'=a:=Value.ref.inj (Option.some.inj (e1'.symm.trans e1))
 rw [ea] at t' ho'
 refine x12 c fun vs c' rvs=>x11 c' fun n eo=>?_
 rw [eo] at ho'
 cases rv.lst_inv with | mk b ob us ev hb hbo hbv=>
 refine x11 hbo fun nb eb=>?_
 rw [eb] at hb
 refine x11 (iC (its:=vs.toArray) (its2:=(vs++us).toArray) (n:=n) (f:=fun xs=>xs++us.toArray) (by simp)) fun n' en=>?_
 have hget:(s1.heap.update a (Obj.mapSeq fun xs=>xs++us.toArray)).get? a=some {cls:=.type "list",dict:=none,data:=.seq (vs++us).toArray n',slots:= #[]}:=by
  rw [Heap.get?_update_self _ ho' (by rw [en];rfl),en]
 exact ⟨b,n,nb,vs,us,n',ev,ho',R1.hB _ _ hb,⟨rvs.length,hbv.length⟩,t',hget,rvs.append hbv,
  R1.modOwn (d':=.lst (ds++es)) (tk:=s1.toks) hx hv (d5 hk) e1 t' (Heap.SameBut.update ..) hget ⟨vs++us,⟨n',rfl⟩,rvs.append hbv⟩⟩
theorem ss_ext {x:Str}{e:PySem.Expr}{p apos cpos pos:Pos}{k:Nat}{X:E}(hX:SE prog w s0 ft m nt ns e X)(hx:nt[k]? =some x)(hv:bN (ns.lookup x)=true)(h1:(x==("__debug__":Str))=false)(h2:(x==("__classdict__":Str))=false)
  (hst: ∀env,starEach [e] env=[(false,eval e env)]) (hline:(apos.endLine==cpos.line)=true):
  SS prog w s0 ft m nt ns (.Expr (.Call (.Attribute (.Name x p) "extend" apos) [e] [] cpos) pos) (.ext k X):=by
 refine ⟨?_⟩
 intro env l A av τ st s Q Er hE hC R h
 refine x12 h.ofOpt fun ds0 hk0 h=>?_
 refine x25 (R.ownAt hx (hE.vis hv) (d5 hk0)) fun a o e1 e2 _ ho c=>x12 c fun vs0 c _=>x11 c fun n0 eo=>?_
 rw [eo] at ho
 refine wpAny_Expr (call_seq1 rfl F.slot_list_extend F.type_list_extend (hst env) hline (aM R.kind e2 ⟨a,_,_,rfl,ho,?_⟩ h1 h2)) (b7 R.kind) rfl
 refine P.extend_list (hX.run hE hC R (h.bind.mono (fun q hq v τ1 s1 le1 rv R1=>?_) fun _ f=>f))
 refine x12 (RP.ofOpt hq) fun ds hk hq=>x13 (RP.lstI hq) fun es ed hz hq=>?_
 rw [ed] at rv
 refine x68 (own_grow R1 hx (hE.vis hv) hk e1 rv) fun b n nb vs us n' ev ha hb hl _ _ _ R2=>?_
 have z1:vs.toArray.size + us.toArray.size≤1000:=by rw [List.size_toArray,List.size_toArray,hl.1,hl.2];exact hz
 exact ⟨b,vs.toArray,us.toArray,n,nb,lec (Nat.le_trans (Nat.le_add_right _ _) z1) rfl,lec z1 rfl,extend_door (lec z1 rfl),ev,ha,hb,hq _ _ _ le1 R2⟩
theorem iadd_list {A:Around}{E:Value→Shared→Prop}{a b:Addr}{its its2:Array Value}{n n2:Nat}{Q:Value→Shared→Prop}(ha:IsL s.heap a its n)(hb:IsL s.heap b its2 n2)(hz:its.size + its2.size≤10000)
  (h:Q (.ref a) {s with heap:=s.heap.update a (Obj.mapSeq fun x=>x++its2)}):wpAny (model prog w) A (inplaceOp .Add (.ref a) (.ref b)) Q E s:=by
 have hTa:s.TypeIs (.ref a) "list":=⟨_,ha,rfl⟩
 have hTb:s.TypeIs (.ref b) "list":=⟨_,hb,rfl⟩
 have seq:isSeqSlot (some (.builtin "list.__iadd__"))=true:=by decide +kernel
 have lk:typeLookup (.type "list") (dunderI "add")=pure (some (.builtin "list.__iadd__")):=F.slot_list_iadd.lookup
 have hfi:fillsInplaceSlot (.type "list") "add" (Operator.Add== .Add)=pure false:=by
  unfold fillsInplaceSlot
  show (typeLookup (.type "list") (dunderI "add") >>= fun fi=>pure (fi.isSome&& !isSeqSlot fi))=pure false
  rw [lk]
  rw [pure_bind,seq];rfl
 have hsi:seqSlot? (.type "list") (dunderI "add")=pure (some (.builtin "list.__iadd__")):=PySem.seqSlot_of lk seq
 unfold inplaceOp
 refine wpAny_holding ?_
 refine wpAny_bind (wpAny_typeOf hTa (wpAny_bind (wpAny_of_eq hfi ?_)))
 show wpAny _ A (if false=true then _ else _) Q E s
 rw [if_neg Bool.false_ne_true]
 refine wpAny_bind (wpAny_binaryOp1_none (nm:="add") hTa hTb noFill_list_add ?_)
 refine wpAny_bind (wpAny_of_eq hsi ?_)
 refine wpAny_bind (wpAny_rule ?_)
 have cm:=call_meets (prog:=prog) (w:=w) (A:=A) (Q:=Q) (E:=E) F.slot_list_iadd hTa F.entry_list_iadd (F.args_list_iadd_2 _ _) (AutoSeq1.list___iadd___list_list_0 a its n b its2 n2 (extend_door (by simp only [sizeLine];exact lec ‹_› (by rfl))) (by simp only [sizeLine];exact nl [_,_] [(.a N0 N1,.n 10000)] N0 (.n 16777216) rfl hz) (by simp only [sizeLine];exact lec ‹_› (by rfl))) ⟨ha,hb,h⟩
 exact cm
theorem ss_aug {x:Str}{e:PySem.Expr}{p pos:Pos}{k:Nat}{X:E}(hX:SE prog w s0 ft m nt ns e X)(hx:nt[k]? =some x)(hv:bN (ns.lookup x)=true)(hw:bf ns x=true)(h2:(x==("__classdict__":Str))=false):
  SS prog w s0 ft m nt ns (.AugAssign (.Name x p) .Add e pos) (.aug k X):=by
 refine ⟨?_⟩
 intro env l A av τ st s Q Er hE hC R h
 refine x12 h.ofOpt fun ds0 hk0 h=>?_
 refine x25 (R.ownAt hx (hE.vis hv) (d5 hk0)) fun a o e1 e2 t ho c0=>?_
 refine wpAny_AugAssign_Name (has_loadName R.kind e2 (hX.run hE hC R (h.bind.mono (fun q hq v τ1 s1 le1 rv R1=>?_) fun _ f=>f)) h2)
 refine x12 (RP.ofOpt hq) fun ds hk hq=>x13 (RP.lstI hq) fun es ed hz hq=>?_
 rw [ed] at rv
 refine x68 (own_grow R1 hx (hE.vis hv) hk e1 rv) fun b n nb vs us n' ev ha hb hl t' hget rvu R2=>?_
 rw [ev]
 refine iadd_list ha hb (by rw [List.size_toArray,List.size_toArray,hl.1,hl.2];exact lec hz rfl) ?_
 refine bV R2 (sl:=.own (.lst (ds++es))) hx hw ⟨a,_,rfl,t',hget,vs++us,⟨n',rfl⟩,rvu⟩ fun h' tk R3=>?_
 have es:(q.2.set k (.own (.lst (ds++es)))).set k (.own (.lst (ds++es)))=q.2.set k (.own (.lst (ds++es))):=by unfold St.set;simp
 rw [es] at R3
 exact hq _ _ _ le1 R3
end
noncomputable def g8 (s:Shared)(e T:Addr):Prop:= ∃oe vs,s.heap.get? e=some oe∧oe.data=.fields vs∧1 < vs.size∧vs[1]? =some (.ref T)
section
variable {w:World}{s0 s:Shared}{l outer:List Env}{τ:TM}{ln:Int}{e:Addr}{env:Env}
theorem frs_fun {h:Heap}: ∀{l:List Env},(∀e∈l,e.scope.kind≠ .module∧ ∃L o,e.frame=some L∧h.get? L=some o∧ ∀vs,o.data≠ .fields vs)→h.FunFrames {} l
 | [],_=>trivial
 | a::r,hf=>by
  obtain ⟨k,L,o,e1,e2,e3⟩:=hf a List.mem_cons_self
  exact ⟨k,⟨L,o,e1,by simp [Heap.get?],e2,e3⟩,frs_fun fun e he=>hf e (List.mem_cons_of_mem _ he)⟩
theorem eD {l:List Env}{a:Addr}(h:a∈bQ l): ∃e∈l,e.frame=some a:=by
 unfold bQ at h
 refine x12 (List.mem_filterMap.mp h) fun e he h=>?_
 exact ⟨e,he,h⟩
theorem Infl.step {x:Value}(z:Infl w s0 l τ ln x s){h':Heap}{tk:Nat}(ts:List Addr)(ht: ∀T∈ts,offTag τ T∧(∀o,s.heap.get? T=some o→ ∃vs,o.data=.fields vs))
  (k1: ∀b o,b∉ts→b∉bQ l→s.heap.get? b=some o→h'.get? b=some o) (k2: ∀b o,b∉ts→s.heap.get? b=some o→ ∃sl,h'.get? b=some {o with slots:=sl})
  (exc: ∃e dx tb,x=.ref e∧ExcAt w h' e dx ln tb∧dx∉bQ l∧offTag τ e∧(tb=.none∨ ∃T fl,offTag τ T∧TbIs h' e tb fl T∧(fl=.none∨ ∃env L,l.head?=some env∧env.frame=some L∧fl=rawInt L))):
  Infl w s0 l τ ln x {s with heap:=h',toks:=tk} where
 rest:=⟨z.rest.1,z.rest.2,z.rest.3⟩
 keep a o h hn:=k1 a o (fun hm=>by have:=(ht a hm).1 o;rcases h with h | h;exact this.1 h;exact this.2 h) hn (z.keep a o h hn)
 slots a o h:=by
  obtain ⟨sl,hs⟩:=z.slots a o h
  obtain ⟨sl',hs'⟩:=k2 a _ (fun hm=>by have:=(ht a hm).1 o;rcases h with h | h;exact this.1 h;exact this.2 h) hs
  exact ⟨sl',hs'⟩
 frs e he:=by
  obtain ⟨k,L,o,e1,e2,e3⟩:=z.frs e he
  obtain ⟨sl,hs⟩:=k2 L o (fun hm=>by obtain ⟨vs,hv⟩:=(ht L hm).2 o e2;exact e3 vs hv) e2
  exact ⟨k,L,_,e1,hs,e3⟩
 exc:=exc
inductive ExcR (w:World)(h:Heap)(l:List Env)(τ:TM)(ln:Int)(e:Addr):Prop where
 | mk (dx:Addr) (tb:Value) (hx:ExcAt w h e dx ln tb) (hdx:dx∉bQ l) (ho:offTag τ e) (htb:tb=.none∨ ∃T fl,offTag τ T∧TbIs h e tb fl T∧(fl=.none∨ ∃env L,l.head?=some env∧env.frame=some L∧fl=rawInt L))
theorem Infl.excR (z:Infl w s0 l τ ln (.ref e) s):ExcR w s.heap l τ ln e:=by
 refine x35 z.exc fun e' dx tb ex hx hdx ho htb=>?_
 rw [←Value.ref.inj ex] at hx ho htb
 exact ⟨dx,tb,hx,hdx,ho,htb⟩
inductive ExcT (w:World)(h:Heap)(l:List Env)(τ:TM)(ln:Int)(e T:Addr):Prop where
 | mk (dx:Addr) (vs:Array Value) (sl:Array (Option Value)) (oT:Obj) (tvs:Array Value) (fl:Value) (hobj:h.get? e=some ⟨.ref 51,some dx,.fields vs,sl⟩) (h1s:1 < vs.size) (h1:vs[1]? =some (.ref T))
  (hdic: ∃t1 t2 v t3 n,h.get? dx=some (dictOf [⟨PyData.keyHash w.params "text",.str "text" t1,v⟩,⟨PyData.keyHash w.params "line",.str "line" t2,.int ln t3⟩] n)) (hdx:dx∉bQ l) (ho:offTag τ e)
  (hoT:offTag τ T) (hne:T≠e) (hT:h.get? T=some oT) (hdT:oT.data=.fields tvs) (h3:tvs[3]? =some fl)
theorem Infl.excT (z:Infl w s0 l τ ln (.ref e) s){T:Addr}(hT:g8 s e T):ExcT w s.heap l τ ln e T:=by
 obtain ⟨dx,tb,⟨⟨vs,sl,hobj,h1s,h1v⟩,hdic⟩,hdx,ho,htb⟩:=z.excR
 obtain ⟨oe,ves,he,hed,hsz,h1⟩:=hT
 have e1:=Option.some.inj (he.symm.trans hobj)
 rw [e1] at hed
 injection hed with e2
 rw [e2,h1] at h1v
 have e3:=Option.some.inj h1v
 rw [←e3] at htb
 rcases htb with q | ⟨T',fl,hoT,⟨q,hne,oT,tvs,hoT',hdT,h3⟩,_⟩
 ·cases q
 ·rw [←Value.ref.inj q] at hoT hne hoT'
  exact ⟨dx,vs,sl,oT,tvs,fl,hobj,h1s,by rw [e2];exact h1,hdic,hdx,ho,hoT,hne,hoT',hdT,h3⟩
theorem dP {M:Model}{A:Around}{E:Value→Shared→Prop}(z:Infl w s0 l τ ln (.ref e) s){T:Addr}(hT:g8 s e T){v:Value}(hv:v=.none∨ ∃env L,l.head?=some env∧env.frame=some L∧v=rawInt L)
  {Q:Unit→Shared→Prop} (hQ: ∀s',Infl w s0 l τ ln (.ref e) s'→g8 s' e T→(∃oT ts,s'.heap.get? T=some oT∧oT.data=.fields ts∧ts[3]? =some v)→Q () s'):wpAny M A (setField (.ref T) 3 v) Q E s:=by
 obtain ⟨dx,ves,sl,oT,tvs,fl,hobj,h1s,h1,hdic,hdx,ho,hoT,hne,hoT',hdT,h3⟩:=z.excT hT
 have h3s:3 < tvs.size:=(Array.getElem?_eq_some_iff.mp h3).1
 have hd':=Obj.data_mapFields hdT (·.setIfInBounds 3 v)
 have hself:=Heap.get?_update_self (Obj.mapFields (·.setIfInBounds 3 v)) hoT' (Obj.isFreed_of_fields hd')
 have h3':(tvs.setIfInBounds 3 v)[3]? =some v:=by simp [h3s]
 have oth: ∀{b:Addr} {o:Obj},b∉[T]→s.heap.get? b=some o→(s.heap.update T (Obj.mapFields (·.setIfInBounds 3 v))).get? b=some o:=fun hb ho=>(Heap.get?_update_other _ _ (fun q=>hb (by rw [q];exact List.mem_singleton.mpr rfl))).trans ho
 have hnl:e∉[T]:=fun q=>hne (List.mem_singleton.mp q).symm
 refine wpAny_setField hoT' hdT h3s (hQ _ (z.step (tk:=s.toks) [T] (fun T' hm=>?_) (fun b o hb _ ho=>oth hb ho) (fun b o hb ho=>⟨o.slots,oth hb ho⟩) ?_) ⟨_,_,oth hnl hobj,rfl,h1s,h1⟩ ⟨_,_,hself,hd',h3'⟩)
 ·rw [List.mem_singleton.mp hm]
  exact ⟨hoT,fun o h=>by rw [hoT'] at h;rw [←Option.some.inj h];exact ⟨_,hdT⟩⟩
 ·refine x51 hdic fun t1 t2 v2 t3 n hd2=>?_
  refine ⟨e,dx,_,rfl,⟨⟨ves,sl,oth hnl hobj,h1s,h1⟩,t1,t2,v2,t3,n,oth (fun q=>?_) hd2⟩,hdx,ho,.inr ⟨T,v,hoT,⟨rfl,hne,_,_,hself,hd',h3'⟩,hv⟩⟩
  rw [List.mem_singleton.mp q,hoT'] at hd2
  rw [Option.some.inj hd2] at hdT
  cases hdT
theorem infl_entry {M:Model}{A:Around}{E:Value→Shared→Prop}(hfr:A.frames=some (env::outer)){L:Addr}(hf:env.frame=some L)(z:Infl w s0 (env::outer) τ ln (.ref e) s){head:Value}{b:Bool}
  {Q:Unit→Shared→Prop} (hQ: ∀s' T,Infl w s0 (env::outer) τ ln (.ref e) s'→g8 s' e T→Q () s'):
  wpAny M A (do let a ←frameOf env;let pl ←entryPlaceOf L b;let b ←EntryCells.newEntry head a .none (rawInt L) .none pl;setField (.ref e) 1 b) Q E s:=by
 obtain ⟨dx,tb,hx,hdx,ho,htb⟩:=z.excR
 obtain ⟨⟨vs,sl,hobj,h1s,h1v⟩,hdic⟩:=hx
 have hene:e∉bQ (env::outer):=fun hm=>by
  refine x12 (eD hm) fun c hc hc2=>?_
  obtain ⟨_,L',o,e1,e2,e3⟩:=z.frs c hc
  rw [hc2] at e1
  rw [←Option.some.inj e1,hobj] at e2
  exact e3 vs (by rw [←Option.some.inj e2])
 refine wpAny_bind (wpAny_frameOf_fun (base:={}) hfr (frs_fun z.frs) hf fun h₁ hs₁=>?_)
 refine wpAny_bind (wpAny_entryPlaceOf fun pl hpl=>?_)
 unfold EntryCells.newEntry newFields
 refine wpAny_bind (wpAny_newObj_type ?_ (hpl.sizeOk5 _ _ _ _ _))
 have he₁:h₁.get? e=some ⟨.ref 51,some dx,.fields vs,sl⟩:=(hs₁.2.1 e hene).trans hobj
 have he₂:=Heap.get?_push_of_some (h:=h₁) {cls:=.type "traceback",dict:=none,data:=.fields ([head,.ref L,.none,rawInt L,.none]++(if pl.isEmpty then List.replicate 6 Value.none else pl)).toArray} he₁
 refine wpAny_setField he₂ rfl h1s ?_
 have hTe:h₁.objs.size≠e:=Nat.ne_of_gt (Heap.lt_size he₁)
 have hsz:h₁.objs.size=s.heap.objs.size:=hs₁.1
 have hoT:offTag τ h₁.objs.size:=fun o=>by
  constructor <;> intro q
  ·refine x11 (z.slots _ o (.inl q)) fun sl hs=>?_;exact absurd (Heap.lt_size hs) (by rw [hsz];exact Nat.lt_irrefl _)
  ·refine x11 (z.slots _ o (.inr q)) fun sl hs=>?_;exact absurd (Heap.lt_size hs) (by rw [hsz];exact Nat.lt_irrefl _)
 have hd₃:=Obj.data_mapFields (o:=⟨.ref 51,some dx,.fields vs,sl⟩) (vs:=vs) rfl (·.setIfInBounds 1 (Value.ref h₁.objs.size))
 have he₃:=Heap.get?_update_self (Obj.mapFields (·.setIfInBounds 1 (Value.ref h₁.objs.size))) he₂ (Obj.isFreed_of_fields hd₃)
 have hT₃:=(Heap.get?_update_other (h₁.push {cls:=.type "traceback",dict:=none,data:=.fields ([head,.ref L,.none,rawInt L,.none]++(if pl.isEmpty then List.replicate 6 Value.none else pl)).toArray})
  (Obj.mapFields (·.setIfInBounds 1 (Value.ref h₁.objs.size))) (Ne.symm hTe)).trans (Heap.get?_push_size h₁ rfl)
 refine hQ _ h₁.objs.size ?_ ⟨_,_,he₃,hd₃,by simpa using h1s,by simp [h1s]⟩
 refine z.step (tk:=s.toks) [e,h₁.objs.size] (fun T' hm=>?_) (fun b o hb hn ho'=>?_) (fun b o hb ho'=>?_) ?_
 ·rcases List.mem_cons.mp hm with q | hm
  ·rw [q];exact ⟨ho,fun o h=>by rw [hobj] at h;rw [←Option.some.inj h];exact ⟨_,rfl⟩⟩
  ·rw [List.mem_singleton.mp hm];exact ⟨hoT,fun o h=>absurd (Heap.lt_size h) (by rw [hsz];exact Nat.lt_irrefl _)⟩
 ·exact (Heap.get?_update_other _ _ (fun q=>hb (by rw [←q];exact List.mem_cons_self))).trans (Heap.get?_push_of_some _ ((hs₁.2.1 b hn).trans ho'))
 ·refine x11 (hs₁.2.2 b o ho') fun sl' hs'=>?_
  exact ⟨sl',(Heap.get?_update_other _ _ (fun q=>hb (by rw [←q];exact List.mem_cons_self))).trans (Heap.get?_push_of_some _ hs')⟩
 ·refine ⟨e,dx,.ref h₁.objs.size,rfl,⟨⟨vs.setIfInBounds 1 (.ref h₁.objs.size),sl,?_,by simpa using h1s,by simp [h1s]⟩,?_⟩,hdx,ho,.inr ⟨h₁.objs.size,rawInt L,hoT,⟨rfl,hTe,_,_,hT₃,rfl,by simp⟩,.inr ⟨env,L,rfl,hf,rfl⟩⟩⟩
  ·exact he₃
  ·refine x51 hdic fun t1 t2 v2 t3 n hd2=>?_
   have hde:dx≠e:=fun q=>by rw [q,hobj] at hd2;cases hd2
   exact ⟨t1,t2,v2,t3,n,(Heap.get?_update_other _ _ (Ne.symm hde)).trans (Heap.get?_push_of_some _ ((hs₁.2.1 dx hdx).trans hd2))⟩
theorem iG {M:Model}{A:Around}{E:Value→Shared→Prop}(hfr:A.frames=some (env::outer))(z:Infl w s0 (env::outer) τ ln (.ref e) s)
  {Q:Unit→Shared→Prop} (hQ: ∀s' T,Infl w s0 (env::outer) τ ln (.ref e) s'→g8 s' e T→Q () s'):wpAny M A (noteFrame (.ref e) env) Q E s:=by
 obtain ⟨_,L,o,hf,_,_⟩:=z.frs env List.mem_cons_self
 obtain ⟨dx,tb,hx,hdx,ho,htb⟩:=z.excR
 obtain ⟨⟨vs,sl,hobj,h1s,h1v⟩,hdic⟩:=hx
 unfold noteFrame
 rw [hf]
 refine wpAny_bind (wpAny_field hobj rfl h1v ?_)
 rcases htb with rfl | ⟨T,fl,hoT,⟨rfl,hne,oT,tvs,hoT',hdT,h3⟩,hfl⟩
 ·rw [if_neg (by simp)]
  exact infl_entry hfr hf z hQ
 ·rw [if_pos (show (Value.ref T != Value.none)=true from by simp)]
  refine wpAny_bind (wpAny_field hoT' hdT h3 ?_)
  have hT:g8 s e T:=⟨_,_,hobj,rfl,h1s,h1v⟩
  split
  ·exact wpAny_pure (hQ _ T z hT)
  ·refine wpAny_bind (dP z hT (.inl rfl) fun s' z' hT' _=>?_)
   exact infl_entry hfr hf z' hQ
theorem infl_noted {M:Model}{A:Around}{Er:Value→Shared→Prop}{x:Value}(hfr:A.frames=some (env::outer))(z:Infl w s0 (env::outer) τ ln x s)(hQ: ∀s' e T,x=.ref e→Infl w s0 (env::outer) τ ln x s'→g8 s' e T→Er x s'):notedBy M A env Er x s:=by
 obtain ⟨e,dx,tb,rfl,_⟩:=z.exc
 exact iG hfr z fun s' T z' hT=>hQ s' e T rfl z' hT
theorem fg {M:Model}{A:Around}{E:Value→Shared→Prop}{T:Addr}(hT:g8 s e T){f:Option Addr}{Q:Unit→Shared→Prop}(h:wpAny M A (setField (.ref T) 3 (f.elim .none fun f=>rawInt f)) Q E s):wpAny M A (setFlight (.ref e) f) Q E s:=by
 obtain ⟨oe,vs,he,hd,hsz,h1⟩:=hT
 unfold setFlight
 refine wpAny_bind (wpAny_field he hd h1 ?_)
 rw [if_pos (show (Value.ref T != Value.none)=true from by simp)]
 exact h
theorem infl_came {M:Model}{A:Around}{Er:Value→Shared→Prop}{T:Addr}(z:Infl w s0 (env::outer) τ ln (.ref e) s)(hT:g8 s e T)(hQ: ∀s',Infl w s0 (env::outer) τ ln (.ref e) s'→Er (.ref e) s'):cameBackBy M A env Er (.ref e) s:=by
 obtain ⟨_,L,o,hf,_,_⟩:=z.frs env List.mem_cons_self
 have hT':=hT
 obtain ⟨oe,vs,he,hd,hsz,h1⟩:=hT'
 unfold cameBackBy
 refine wpAny_bind (wpAny_field he hd h1 ?_)
 rw [if_neg (show ¬((Value.ref T==Value.none)=true) from by simp)]
 refine fg hT ?_
 rw [hf]
 exact dP z hT (.inr ⟨env,L,rfl,hf,rfl⟩) fun s' z' _ _=>hQ s' z'
theorem infl_leave {M:Model}{A:Around}{E:Value→Shared→Prop}{x:Value}{τ':TM}(hfr:A.frames=some (env::outer))(z:Infl w s0 (env::outer) τ ln x s)(hle:TM.lx τ' τ)(hL: ∀L,env.frame=some L→ ∀o,τ L≠ .frz o∧τ L≠ .pin o)
  {Q:Unit→Shared→Prop} (hQ: ∀s',Infl w s0 outer τ' ln x s'→Q () s'):wpAny M A (leaving env x) Q E s:=by
 obtain ⟨e,dx,tb,rfl,_⟩:=z.exc
 unfold leaving
 refine wpAny_bind (iG hfr z fun s1 T z1 hT1=>fg hT1 (dP z1 hT1 (.inl rfl) fun s2 z2 hT2 hfl2=>hQ s2 ?_))
 have tg: ∀{a:Addr} {o:Obj},τ' a=.frz o∨τ' a=.pin o→τ a=.frz o∨τ a=.pin o:=fun h=>h.imp (hle.frz _ _) (hle.pin _ _)
 have off: ∀{a:Addr},offTag τ a→offTag τ' a:=fun h o=>⟨fun q=>(h o).1 (hle.frz _ _ q),fun q=>(h o).2 (hle.pin _ _ q)⟩
 refine ⟨z2.rest,fun a o h hn=>z2.keep a o (tg h) fun hm=>?_,fun a o h=>z2.slots a o (tg h),fun c hc=>z2.frs c (List.mem_cons_of_mem _ hc),?_⟩
 ·refine x12 (eD hm) fun c hc hc2=>?_
  rcases List.mem_cons.mp hc with q | hc
  ·have:=hL a (by rw [←q];exact hc2) o
   rcases tg h with q | q
   ·exact this.1 q
   ·exact this.2 q
  ·exact hn (List.mem_filterMap.mpr ⟨c,hc,hc2⟩)
 ·obtain ⟨dx,vs,sl,oT,tvs,fl,hobj,h1s,h1,hdic,hdx,ho,hoT,hne,hT,hdT,h3⟩:=z2.excT hT2
  refine x23 hfl2 fun oT2 ts2 g1 g2 g3=>?_
  refine ⟨e,dx,_,rfl,⟨⟨vs,sl,hobj,h1s,h1⟩,hdic⟩,fun hm=>hdx ?_,off ho,.inr ⟨T,.none,off hoT,⟨rfl,hne,oT2,ts2,g1,g2,g3⟩,.inl rfl⟩⟩
  refine x12 (eD hm) fun c hc hc2=>?_
  exact List.mem_filterMap.mpr ⟨c,List.mem_cons_of_mem _ hc,hc2⟩
end
section
variable {prog:Program}{w:World}{s0:Shared}{env:Env}{l:List Env}{nt:List Str}{ns:List (Str×NameKind)}{wr:Str→Bool}{τ τ':TM}{av:Nat→Option Value}{st:St}{s s':Shared}{ft:FT}{m:Nat}{mg mb:Str→Option Value}
theorem Rel.heapT (R:Rel prog w s0 env l nt wr τ av st s){h':Heap}{tk:Nat}(k: ∀b o,τ b≠ .no→s.heap.get? b=some o→h'.get? b=some o):Rel prog w s0 env l nt wr τ av st {s with heap:=h',toks:=tk}:=by
 have kk: ∀{b:Addr} {t:Tag} {o:Obj},τ b=t→t≠ .no→s.heap.get? b=some o→h'.get? b=some o:=fun e n q=>k _ _ (by rw [e];exact n) q
 refine {rest:=⟨R.rest.1,R.rest.2,R.rest.3⟩,base:=R.base,ex:=fun a h=>?_,obj:=fun a o h=>?_,itO:=fun a o h=>kk h (by simp) (R.itO a o h),kind:=R.kind,glb:=R.glb,ns:=?_,loc:=R.loc,wrk:=fun x hx=>?_,celT:=R.celT,vars:=fun i x sl h1 h2 h3=>?_,g:=?_,frs:=R.frs,len:=R.len,ntd:=R.ntd}
 ·refine x11 (R.ex a h) fun o e=>?_;exact ⟨o,k _ _ h e⟩
 ·have e:=R.obj a o h
  rcases h with h | h
  ·exact kk h (by simp) e
  ·exact kk h (by simp) e
 ·refine x11 R.ns fun m hm=>?_;exact ⟨m,hm.at' fun o e=>kk R.loc (by simp) e⟩
 ·exact (R.wrk x hx).imp id fun ⟨y,c,v,e,⟨o,h1,h2⟩,g⟩=>⟨y,c,v,e,⟨o,kk g (by simp) h1,h2⟩,g⟩
 ·refine x13 (R.vars i x sl h1 h2 h3) fun v e1 e2 e3=>?_
  refine ⟨v,e1,?_,e3.heap fun b o t q=>?_⟩
  ·rcases e2 with ⟨hl,m,hm,hv⟩ | ⟨hl,c,hc,o,h1,h2⟩
   ·exact .inl ⟨hl,m,hm.at' fun o e=>kk R.loc (by simp) e,hv⟩
   ·refine .inr ⟨hl,c,hc,o,?_,h2⟩
    rcases R.celT x c hl hc with q | ⟨o,q⟩
    ·exact kk q (by simp) h1
    ·exact kk q (by simp) h1
  ·rcases t with t | t
   ·exact kk t (by simp) q
   ·exact kk t (by simp) q
 ·exact R.g.heap fun a o h q=>k _ _ (fun e=>by rw [e] at h;cases h) q
theorem Rel.untag (R:Rel prog w s0 env l nt wr τ av st s){a:Addr}{o:Obj}(ha:τ a=.it o):Rel prog w s0 env l nt wr (aL τ a .no) av st s:=
 R.turnIt (tk:=s.toks) ha (Heap.SameBut.refl a s.heap).extBut (.inl rfl)
theorem loop_err {A:Around}{Er:Value→Shared→Prop}{N:Value→Shared→Prop}(hN: ∀e s',cameBackBy (model prog w) A env Er e s'→N e s')(hfr:A.frames=some (env::l))(le:TM.le τ τ'){n:Int}(h:FlP w s0 (env::l) τ Er n):
  FlP w s0 (env::l) τ' (notedBy (model prog w) A env N) n:=by
 intro x s1 i
 refine infl_noted hfr (i.le le) fun s2 e T ex i2 hT=>?_
 subst ex
 exact hN _ _ (infl_came i2 hT fun s3 i3=>h _ _ i3)
theorem for_turn {A:Around}{R:Result→Shared→Prop}{target:PySem.Expr}{it:Value}{body:List PySem.Stmt}{env:Env}(I:Nat→Shared→Prop)
  (turn: ∀n s,I n s→ ∀(P:Option Value→Shared→Prop) (F:Flow→Shared→Prop) (N:Value→Shared→Prop),(∀s1,R (.ok .next) s1→P none s1)→
   (∀v s1,wpAny (model prog w) A (letOwnedTupleGo target it v) (fun _ s2=>wpAny (model prog w) A (assign target env v) (fun _ s3=>wpAny (model prog w) A (execs body env) F N s3) N s2) N s1→P (some v) s1)→
   (∀m s3,m < n→I m s3→F .next s3)→(∀v s3,R (.ok (.ret v)) s3→F (.ret v) s3)→(∀e s',notedBy (model prog w) A env (fun e s'=>R (.error e) s') e s'→N e s')→wpAny (model prog w) A (pyNext it) P N s)
  (n:Nat) {s:Shared} (h:I n s):codeAny (model prog w) A (.forLoop target it body [] env) R s:=
 codeAny_forLoop_any I (fun n s hI=>turn n s hI _ _ _ (fun _ h=>wpAny_execs_nil h) (fun _ _ h=>h) (fun m _ a b=>⟨m,a,b⟩) (fun _ _ h=>h) (fun _ _ h=>h)) n h
inductive ListInv (prog:Program)(w:World)(s0:Shared)(env:Env)(l:List Env)(nt:List Str)(wr:Str→Bool)(τ:TM)(I:Addr)(H:List D→St→Prop)(n:Nat)(s:Shared):Prop
 | mk {ds:List D} {τ1:TM} {av:Nat→Option Value} {st:St} {o:Obj} (hn:n=ds.length) (le:TM.le τ τ1) (R:Rel prog w s0 env l nt wr τ1 av st s) (hI:τ1 I=.it o) (hit:ItO prog w τ1 o ds) (h:H ds st):ListInv prog w s0 env l nt wr τ I H n s
theorem range_iter {A:Around}{E:Value→Shared→Prop}{r:Addr}{n:Int}{t u v:Tok}(hr:IsRange s.heap r 0 n 1 t u v)(hn:c9 n=true){Q:Value→Shared→Prop}
  (hQ: ∀o,o.isFreed=false→(∀τ,ItO prog w τ o (cP n))→Q (.ref s.heap.objs.size) {s with heap:=s.heap.push o}):wpAny (model prog w) A (pyIter (.ref r)) Q E s:=by
 simp only [c9,Bool.and_eq_true,decide_eq_true_eq] at hn
 have hsz:Builtin.Range.rangeSize 0 n 1=n:=by
  simp only [Builtin.Range.rangeSize]
  split <;> (try split) <;> (try omega)
 refine wpAny_pyIter_range hr ?_ ?_
 ·simp only [Builtin.Range.small,hsz,Builtin.Range.rangeFitsLong]
  simp
  exact ⟨⟨ni [_] [(.n 0,Z0)] (.n (-9223372036854775808)) Z0 rfl hn.1,ni [_] [(Z0,.n 1000)] (.s Z0) (.n 9223372036854775808) rfl hn.2⟩,.inr (⟨ni [_] [(.n 0,Z0)] (.n (-9223372036854775808)) Z0 rfl hn.1,ni [_] [(Z0,.n 1000)] (.s Z0) (.n 9223372036854775808) rfl hn.2⟩)⟩
 ·rw [hsz]
  refine hQ _ rfl fun τ=>.inr ⟨0,n.toNat,?_,?_⟩
  ·have:((n.toNat:Nat):Int)=n:=by omega
   rw [this]
  ·unfold cP
   exact List.map_congr_left fun j _=>by rw [Int.zero_add]
theorem loop_list {A:Around}{target:PySem.Expr}{pat:List Nat}{body:List PySem.Stmt}{Bs:List S}{I:Addr}{Q:Flow→Shared→Prop}{Er:Value→Shared→Prop}{R:Result→Shared→Prop}
  (hE:EnvNs env ns) (hC:Cx A (env::l) (m + 1)) (hp:Pat nt (bf ns) target pat) (hB:SSL prog w s0 ft m nt ns body Bs) (hI0:τ I=.no)
  (hok: ∀f s',Q f s'→R (.ok f) s') (her: ∀e s',cameBackBy (model prog w) A env Er e s'→R (.error e) s') {ds:List D} {τ1:TM} {av1:Nat→Option Value} {st1:St} {s1:Shared} {oI:Obj}
  (le:TM.le τ τ1) (R1:Rel prog w s0 env (env::l) nt (bf ns) τ1 av1 st1 s1) (hI:τ1 I=.it oI) (hit:ItO prog w τ1 oI ds)
  (h:RP (cr (fun d s=>(Res.ofOpt (bb s pat d)).bind fun s1=>exs ft Bs s1) ds st1) (OkS prog w s0 nt env (env::l) (bf ns) τ Q) (FlP w s0 (env::l) τ Er)):
  codeAny (model prog w) A (.forLoop target (.ref I) body [] env) R s1:=by
 refine for_turn (ListInv prog w s0 env (env::l) nt (bf ns) τ I fun ds st=>RP (cr (fun d s=>(Res.ofOpt (bb s pat d)).bind fun s1=>exs ft Bs s1) ds st) (OkS prog w s0 nt env (env::l) (bf ns) τ Q) (FlP w s0 (env::l) τ Er))
  (fun n s2 i P F N hP hS hF hr hN=>?_) _ ⟨rfl,le,R1,hI,hit,h⟩
 clear h hit hI R1 le
 cases i with | mk hn le R1 hI hit h=>
 rename_i ds τ1 av1 st1 oI
 cases ds with
 | nil=>exact fU R1.obj hC.handled (R1.itO _ _ hI) hit fun h' he=>hP _ (hok _ _ (h av1 _ _ (cR le hI0) (R1.turnIt (tk:=s2.toks) hI he (.inl rfl))))
 | cons d ds=>
  refine fu R1.obj hI (R1.itO _ _ hI) hit fun v h' tk oI' hs hg rd hit'=>hS _ _ ?_
  have R2:=R1.turnIt (tk:=tk) hI hs.extBut (t:=.it oI') (.inr ⟨oI',.inl rfl,hg⟩)
  have le2:=cR (t:=.it oI') le hI0
  refine go_it (s:={s2 with heap:=h',toks:=tk}) hg hit' ?_
  refine x12 (RP.ofOpt (RP.bind (show RP (((Res.ofOpt (bb st1 pat d)).bind fun s1=>exs ft Bs s1).bind _) _ _ from h))) fun s2 ht h=>?_
  refine gY hC.handled hp R2 (rd.sub (bv (t:=.it oI') hI).sub) ht fun av3 h3 tk3 R3=>hB.run hE hC R3 (h.mono (fun p hq av4 τ4 s4 le4 R4=>?_) fun ln hf x s' i=>hN _ _ (loop_err her hC.frames le2 hf x s' i))
  obtain ⟨f,st4⟩:=p
  cases f with
  | next=>exact hF ds.length _ (hn▸Nat.lt_succ_self _) ⟨rfl,le2.trans le4,R4,le4.it _ _ (ax ..),(hit'.set (t:=.it oI') hI).mono le4,hq⟩
  | ret dv=>exact fun v rv=>hr _ _ (hok _ _ (hq av4 τ4 s4 (le2.trans le4) R4 v rv))
theorem dE {target iter:PySem.Expr}{body:List PySem.Stmt}{pos:Pos}{pat:List Nat}{X:E}{Bs:List S}(hX:SE prog w s0 ft m nt ns iter X)(hp:Pat nt (bf ns) target pat)(hB:SSL prog w s0 ft m nt ns body Bs)
  (hf: ∀env x,foldedSetIterable iter env x=pure x):SS prog w s0 ft m nt ns (.For target iter body [] pos) (.forL pat X Bs):=by
 refine ⟨?_⟩
 intro env l A av τ st s Q Er hE hC R h
 refine wpAny_For (hX.run hE hC R (h.bind.mono (fun p hq v τ1 s1 le1 rv R1=>?_) fun _ f=>f)) (hf env)
 have hq:=RP.mono hq (fun _ q=>OkS.le le1 q) (fun _=>FlP.le (Er:=Er) le1)
 refine x12 (RP.ofOpt hq) fun ds hd hq=>?_
 refine x02 (dw hd) fun e hl=>?_
 rw [e] at rv
 cases rv with
 | lst ha hb hc=>
 rename_i a o vs
 refine wpAny_pyIter_list (hb.isList (R1.hB _ _ ha)) ?_
 refine x02 (R1.alloc (o:={cls:=.type "list_iterator",data:=.fields #[.ref a,.int 0 0]}) rfl (t:=.it _) (.inr (.inr rfl))) fun R2 le2=>?_
 exact loop_list (Q:=Q) (Er:=Er) hE hC hp hB R1.fresh (fun _ _ h=>h) (fun _ _ h=>h) le2 R2 (ax ..) (.inl ⟨a,0,o,vs,ds,rfl,rfl,.inl (le2.frz _ _ ha),hb,hc.mono le2,rfl⟩) hq
theorem ss_forR (HB:Base w s0 mg mb){x:Str}{e:PySem.Expr}{body:List PySem.Stmt}{px p p2 pos:Pos}{v:Nat}{X:E}{Bs:List S}(hr:ns.lookup ("range":Str)=some .globalImplicit)(hX:SE prog w s0 ft m nt ns e X)(hst: ∀env,starEach [e] env=[(false,eval e env)])
  (hx:nt[v]? =some x) (hw:bf ns x=true) (hB:SSL prog w s0 ft m nt ns body Bs):SS prog w s0 ft m nt ns (.For (.Name x px) (.Call (.Name ("range":Str) p) [e] [] p2) body [] pos) (.forR v X Bs):=by
 refine ⟨?_⟩
 intro env l A av τ st s Q Er hE hC R h
 refine wpAny_For (gd HB hr hX hst (fun τ=>OkS prog w s0 nt env (env::l) (bf ns) τ Q) (fun le b=>OkS.le le) hE hC R ?_ h fun n st1 τ1 s1 r t u v' z le1 R1 hr ez hq=>?_) (fun _=>rfl)
 ·rintro ⟨d,st⟩ hd;cases d <;> first | rfl | exact absurd rfl (hd _)
 ·subst ez
  dsimp only at hq
  split at hq
  ·rename_i hn
   refine range_iter hr hn fun oI fI hit=>?_
   refine x02 (R1.alloc fI (t:=.it oI) (.inr (.inr rfl))) fun R2 le2=>?_
   exact loop_list (pat:=[v]) (Q:=Q) (Er:=Er) hE hC (.name hx hw) hB R1.fresh (fun _ _ h=>h) (fun _ _ h=>h) le2 R2 (ax ..) (hit _) hq
  ·exact hq.elim
end
section
variable {prog:Program}{w:World}{s0:Shared}{env:Env}{l:List Env}{nt:List Str}{ns:List (Str×NameKind)}{wr:Str→Bool}{τ τ':TM}{av:Nat→Option Value}{st:St}{s s':Shared}{ft:FT}{m:Nat}{mg mb:Str→Option Value}
noncomputable def enumF (ft:FT)(v1 v2:Nat)(Bs:List S):D→St→Res (Fl×St):=fun d s=>match d with
 | .tup [a,b]=>exs ft Bs ((s.set v1 (.val a)).set v2 (.val b))
 | _=>.bad
noncomputable def enumL (i:Nat)(ds:List D):List D:=(ds.zipIdx i).map fun q=>.tup [.int q.2,q.1]
theorem Rel.relay {av1:Nat→Option Value}{st1:St}{s1:Shared}{τ1:TM}{e it:Addr}{oe oi oE oI oT:Obj}{h₂:Heap}{tk:Nat}(R:Rel prog w s0 env (env::l) nt (bf ns) τ1 av1 st1 s1)(le:TM.le τ τ1)(he0:τ e=.no)(hi0:τ it=.no)(hne:e≠it)(te:τ1 e=.it oe)(ti:τ1 it=.it oi)
  (he:h₂.get? e=some oE) (hi:h₂.get? it=some oI) (ht:h₂.get? s1.heap.objs.size=some oT) (hk: ∀b o,b≠e→b≠it→s1.heap.get? b=some o→h₂.get? b=some o):
  ∃τ5,TM.le τ τ5∧τ5 e=.it oE∧τ5 it=.it oI∧τ5 s1.heap.objs.size=.frz oT∧Rel prog w s0 env (env::l) nt (bf ns) τ5 av1 st1 {s1 with heap:=h₂,toks:=tk}:=by
 have net:s1.heap.objs.size≠e:=fun q=>by have:=R.fresh;rw [q,te] at this;cases this
 have nit:s1.heap.objs.size≠it:=fun q=>by have:=R.fresh;rw [q,ti] at this;cases this
 have R1:=(R.untag te).untag (a:=it) (o:=oi) ((az _ _ (Ne.symm hne)).trans ti)
 have R2:=R1.heapT (h':=h₂) (tk:=tk) fun b o hb ho=>by
  by_cases q1:b=it
  ·rw [q1,ax] at hb;exact absurd rfl hb
  ·rw [az _ _ q1] at hb
   by_cases q2:b=e
   ·rw [q2,ax] at hb;exact absurd rfl hb
   ·exact hk b o q2 q1 ho
 have R3:=R2.tag (by rw [az _ _ hne,ax]) he (.inr (.inr rfl))
 have R4:=R3.tag ((az _ _ (Ne.symm hne)).trans (ax ..)) hi (.inr (.inr rfl))
 have n3:aL (aL (aL (aL τ1 e .no) it .no) e (.it oE)) it (.it oI) s1.heap.objs.size=.no:=by
  rw [az _ _ nit,az _ _ net,az _ _ nit,az _ _ net];exact R.fresh
 have R5:=R4.tag n3 ht (t:=.frz oT) (.inl rfl)
 refine ⟨_,(cR (t:=.it oI) (cR (t:=.it oE) (cR (t:=.no) (cR (t:=.no) le he0) hi0) he0) hi0).trans (ce (t:=.frz oT) n3),?_,?_,ax ..,R5⟩
 ·rw [az _ _ (Ne.symm net),az _ _ hne,ax]
 ·rw [az _ _ (Ne.symm nit),ax]
inductive EnumInv (prog:Program)(w:World)(s0:Shared)(env:Env)(l:List Env)(nt:List Str)(wr:Str→Bool)(τ:TM)(e it la:Addr)(k:Nat)(H:Nat→St→Prop)(n:Nat)(s:Shared):Prop
 | mk {i:Nat} {τ1:TM} {av:Nat→Option Value} {st:St} {oe oi:Obj} {old:Value} (hn:n=k - i) (hi:i≤k) (le:TM.le τ τ1) (R:Rel prog w s0 env l nt wr τ1 av st s) (te:τ1 e=.it oe) (ti:τ1 it=.it oi)
   (hen:IsEnum s.heap e it ((i:Nat):Int) old) (hit:s.heap.IsListIter it la i) (h:H i st):EnumInv prog w s0 env l nt wr τ e it la k H n s
theorem loop_enum {A:Around}{x1 x2:Str}{p1 p2 pt:Pos}{k:_}{v1 v2:Nat}{body:List PySem.Stmt}{Bs:List S}{e it la:Addr}{lo:Obj}{vs:List Value}{all:List D}{Q:Flow→Shared→Prop}{Er:Value→Shared→Prop}{R:Result→Shared→Prop}
  (hE:EnvNs env ns) (hC:Cx A (env::l) (m + 1)) (hx1:nt[v1]? =some x1) (hw1:bf ns x1=true) (hx2:nt[v2]? =some x2) (hw2:bf ns x2=true) (hB:SSL prog w s0 ft m nt ns body Bs) (he0:τ e=.no) (hi0:τ it=.no) (hne:e≠it)
  (hla:τ la=.frz lo) (hlo:SeqObj "list" lo vs) (hvs:RepL prog w τ vs all) (hok: ∀f s',Q f s'→R (.ok f) s') (her: ∀e s',cameBackBy (model prog w) A env Er e s'→R (.error e) s')
  {i:Nat} {τ1:TM} {av1:Nat→Option Value} {st1:St} {s1:Shared} {oe oi:Obj} {old:Value} (hi:i≤all.length) (le:TM.le τ τ1) (R1:Rel prog w s0 env (env::l) nt (bf ns) τ1 av1 st1 s1) (te:τ1 e=.it oe) (ti:τ1 it=.it oi)
  (hen:IsEnum s1.heap e it ((i:Nat):Int) old) (hit:s1.heap.IsListIter it la i)
  (h:RP (cr (enumF ft v1 v2 Bs) (enumL i (all.drop i)) st1) (OkS prog w s0 nt env (env::l) (bf ns) τ Q) (FlP w s0 (env::l) τ Er)):
  codeAny (model prog w) A (.forLoop (.Tuple [.Name x1 p1,.Name x2 p2] k pt) (.ref e) body [] env) R s1:=by
 refine for_turn (EnumInv prog w s0 env (env::l) nt (bf ns) τ e it la all.length fun i st=>RP (cr (enumF ft v1 v2 Bs) (enumL i (all.drop i)) st) (OkS prog w s0 nt env (env::l) (bf ns) τ Q) (FlP w s0 (env::l) τ Er))
  (fun n s1 iv P F N hP hS hF hr hN=>?_) _ ⟨rfl,hi,le,R1,te,ti,hen,hit,h⟩
 clear h hit hen ti te R1 le hi
 cases iv with | mk hn hi le R1 te ti hen hit h=>
 rename_i i τ1 av1 st1 oe oi old
 have hll:s1.heap.IsList la vs.toArray:=hlo.isList (R1.hB _ _ (le.frz _ _ hla))
 have hlen:=hvs.length
 by_cases hlt:i < all.length
 ·have hd:all.drop i=all[i]::all.drop (i + 1):=List.drop_eq_getElem_cons hlt
  refine x12 (hvs.get (n:=i) (List.getElem?_eq_getElem hlt)) fun v hv rv=>?_
  refine wpAny_pyNext_enum_item (x:=v) hen hit hll (by rw [List.getElem?_toArray];exact hv) hne fun h₁ heo hit₁ ht₁ hz₁ hk₁=>hS _ _ ?_
  refine wpAny_letOwnedTupleGo_enum heo fun h₂ he₂ (hs₂:Heap.SameBut e h₁ h₂)=>?_
  have ht₂:h₂.get? s1.heap.objs.size=some {cls:=.type "tuple",data:=.seq #[.int i s1.toks,v]}:=(hs₂.2 _ (Ne.symm (Nat.ne_of_lt (Heap.lt_size hen)))).trans ht₁
  refine x12 hit₁ fun oi' hoi' hr'=>?_
  refine x15 (R1.relay (tk:=s1.toks + 1) le he0 hi0 hne te ti he₂ ((hs₂.2 _ (Ne.symm hne)).trans hoi') ht₂ fun b o q2 q1 ho=>(hs₂.2 _ q2).trans (hk₁ b o q2 q1 ho)) fun τ5 le5 te5 ti5 tt5 R5=>?_
  rw [hd] at h
  have h:RP ((enumF ft v1 v2 Bs (.tup [.int i,all[i]]) st1).bind fun p=>match p.1 with
    | .next=>cr (enumF ft v1 v2 Bs) (enumL (i + 1) (all.drop (i + 1))) p.2
    | .ret v=>.ok (.ret v,p.2)) (OkS prog w s0 nt env (env::l) (bf ns) τ Q) (FlP w s0 (env::l) τ Er):=h
  refine gY (pat:=[v1,v2]) (d:=.tup [.int i,all[i]]) hC.handled (.tup (.cons hx1 hw1 (.cons hx2 hw2 .nil))) R5 (.tup tt5 ⟨0,rfl⟩ (.cons (.int _ _) (.cons (rv.mono le5) .nil))) rfl fun av6 h6 tk6 R6=>?_
  refine hB.run hE hC R6 (h.bind.mono (fun p hq av7 τ7 s7 le7 R7=>?_) fun ln hf x s' i=>hN _ _ (loop_err her hC.frames le5 hf x s' i))
  obtain ⟨f,st7⟩:=p
  cases f with
  | next=>exact hF (all.length - (i + 1)) _ (hn▸Nat.sub_lt_sub_left hlt (Nat.lt_succ_self i)) ⟨rfl,hlt,le5.trans le7,R7,le7.it _ _ te5,le7.it _ _ ti5,R7.itO _ _ (le7.it _ _ te5),⟨oi',R7.itO _ _ (le7.it _ _ ti5),hr'⟩,hq⟩
  | ret dv=>exact fun v rv=>hr _ _ (hok _ _ (hq av7 τ7 s7 (le5.trans le7) R7 v rv))
 ·rw [List.drop_eq_nil_of_le (Nat.le_of_not_lt hlt)] at h
  exact wpAny_pyNext_enum_end hC.handled hen hit hll (Array.getElem?_eq_none (by rw [List.size_toArray,hlen];exact Nat.le_of_not_lt hlt)) fun h₁ he₁=>hP _ (hok _ _ (h av1 _ _ (cR le hi0) (R1.turnIt (tk:=s1.toks) ti he₁ (.inl rfl))))
theorem ss_forE (HB:Base w s0 mg mb){x1 x2:Str}{e:PySem.Expr}{body:List PySem.Stmt}{p1 p2 pt p p3 pos:Pos}{k:_}{v1 v2:Nat}{X:E}{Bs:List S}(hr:ns.lookup ("enumerate":Str)=some .globalImplicit)(hX:SE prog w s0 ft m nt ns e X)(hst: ∀env,starEach [e] env=[(false,eval e env)])
  (hx1:nt[v1]? =some x1) (hw1:bf ns x1=true) (hx2:nt[v2]? =some x2) (hw2:bf ns x2=true) (hB:SSL prog w s0 ft m nt ns body Bs):
  SS prog w s0 ft m nt ns (.For (.Tuple [.Name x1 p1,.Name x2 p2] k pt) (.Call (.Name ("enumerate":Str) p) [e] [] p3) body [] pos) (.forE v1 v2 X Bs):=by
 refine ⟨?_⟩
 intro env l A av τ st s Q Er hE hC R h
 refine wpAny_For (wpAny_Call_NameR (dA HB R (hE.glob hr) HB.enum ?_ (by decide))) (fun _=>rfl)
 rw [dg (hst env)]
 refine PySem.callWith_type1 (hX.run hE hC R (h.bind.mono (fun q hq v τ1 s1 le1 rv R1=>?_) fun _ f=>f))
 have hq:=RP.mono hq (fun _ q=>OkS.le le1 q) (fun _=>FlP.le (Er:=Er) le1)
 refine x12 (RP.ofOpt hq) fun ds hd hq=>?_
 refine x02 (dw hd) fun e' hl=>?_
 rw [e'] at rv
 cases rv with
 | lst ha hb hc=>
 rename_i a o vs
 have hb':=hb
 obtain ⟨n,hbe⟩:=hb'
 obtain rfl:=hbe.symm
 refine call_enumerate_1 (R1.hB _ _ ha) fun h' hen hit hz hk=>?_
 have R2:=R1.grow (h':=h') (tk:=s1.toks) hk
 have ni:=R1.fresh
 have ne1:τ1 (s1.heap.objs.size + 1)=.no:=by
  cases q:τ1 (s1.heap.objs.size + 1) with
  | no=>rfl
  | _=>
   obtain ⟨o,e⟩:=R1.ex (s1.heap.objs.size + 1) (by rw [q];simp)
   exact absurd (Heap.lt_size e) (Nat.not_lt.mpr (Nat.le_succ _))
 obtain ⟨oi,hoi,hir⟩:=id hit
 have R3:=R2.tag ni hoi (t:=.it oi) (.inr (.inr rfl))
 have nn:s1.heap.objs.size + 1≠s1.heap.objs.size:=Nat.succ_ne_self _
 have R4:=R3.tag (a:=s1.heap.objs.size + 1) ((az _ _ nn).trans ne1) hen (t:=.it _) (.inr (.inr rfl))
 have le4:=cR (t:=.it {cls:=.type "enumerate",dict:=none,data:=.fields #[.none,.bool false,.ref s1.heap.objs.size,rawInt 0,.none,.none],slots:= #[]}) (ce (t:=.it oi) ni) ne1
 refine wpAny_pyIter_enum hen ?_
 exact loop_enum (all:=ds) (it:=s1.heap.objs.size) (Q:=Q) (Er:=Er) hE hC hx1 hw1 hx2 hw2 hB ne1 ni nn ha hb hc (fun _ _ h=>h) (fun _ _ h=>h) (i:=0) (Nat.zero_le _) le4 R4 (ax ..) ((az _ _ (Ne.symm nn)).trans (ax ..)) hen hit hq
end
noncomputable def gb (s0:Shared)(fa:Addr)(body:List PySem.Stmt)(scope:Scope)(params:List Str):Prop:=
 ∃o fd,s0.heap.get? fa=some o∧o.data=.func fd∧fd.body=.stmts body∧fd.scope=scope∧fd.closure=[]∧fd.globals=mainGlobals∧fd.builtins=builtinsNs∧s0.heap.CodeRec fd.code fd.qualname∧
  ∀vals:List Value,vals.length=params.length→bindArgs fd ⟨vals,[]⟩=pure (params.zip vals)
noncomputable def bJ (nt:List Str)(scope:Scope)(f:FnIR):Bool:=
 scope.kind== .function&& !scope.isCoroutine&& !scope.isGenerator&&decide (nt.length=f.nv)&&decide (f.np≤f.nv)&&scope.names.all (fun x=>x.2 != .free)&&
 (nt.take f.np).all (fun x=>scope.names.lookup x==some .local||scope.names.lookup x==some .cell)&&decide nt.Nodup
section
variable {prog:Program}{w:World}{s0:Shared}{l:List Env}{nt:List Str}{τ τ':TM}{av:Nat→Option Value}{st:St}{s s':Shared}{ft:FT}{m:Nat}{mg mb:Str→Option Value}
theorem dK {x:Str}: ∀{names:List (Str×NameKind)} {n:Nat} {acc:List (Str×Addr)},((x,NameKind.cell)∈names∨(acc.lookup x).isSome=true)→((cellsFrom n names acc).lookup x).isSome=true
 | [],n,acc,h=>by
  rcases h with h | h
  ·cases h
  ·exact h
 | (y,k)::r,n,acc,h=>by
  unfold cellsFrom
  by_cases hk:k=.cell
  ·subst hk
   simp only [beq_self_eq_true,if_true]
   refine dK ?_
   by_cases hx:x=y
   ·subst hx;right;simp
   ·rcases h with h | h
    ·rcases List.mem_cons.mp h with h | h
     ·injection h with h _;exact absurd h hx
     ·exact .inl h
    ·right
     have hb:(x==y)=false:=by simpa using hx
     simp only [List.lookup_cons,hb];exact h
  ·have hb:(k==NameKind.cell)=false:=by simpa using hk
   simp only [hb,Bool.false_eq_true,if_false]
   refine dK ?_
   rcases h with h | h
   ·rcases List.mem_cons.mp h with h | h
    ·injection h with _ h;exact absurd h.symm hk
    ·exact .inl h
   ·exact .inr h
theorem iU {kindOf:Str→Option NameKind}{x:Str}{v:Value}(hk:kindOf x=some .local): ∀{binds:List (Str×Value)} {m:Str→Option Value},(binds.map (·.1)).Nodup→((x,v)∈binds∨(m x=some v∧x∉binds.map (·.1)))→bindL kindOf binds m x=some v
 | [],m,_,h=>by
  rcases h with h | h
  ·cases h
  ·exact h.1
 | (y,u)::r,m,hn,h=>by
  unfold bindL
  simp only [List.map_cons,List.nodup_cons] at hn
  refine iU hk hn.2 ?_
  rcases h with h | h
  ·rcases List.mem_cons.mp h with h | h
   ·injection h with h1 h2
    subst h1 h2
    right
    rw [if_pos hk]
    exact ⟨if_pos rfl,hn.1⟩
   ·exact .inl h
  ·simp only [List.map_cons,List.mem_cons,not_or] at h
   right
   refine ⟨?_,h.2.2⟩
   split
   ·show (if x=y then some u else m x)=some v
    rw [if_neg h.2.1];exact h.1
   ·exact h.1
theorem bindC_get {kindOf:Str→Option NameKind}{x:Str}{v:Value}(hk:kindOf x≠some .local): ∀{binds:List (Str×Value)} {m:Str→Option Value},(binds.map (·.1)).Nodup→((x,v)∈binds∨(m x=some v∧x∉binds.map (·.1)))→bindC kindOf binds m x=some v
 | [],m,_,h=>by
  rcases h with h | h
  ·cases h
  ·exact h.1
 | (y,u)::r,m,hn,h=>by
  unfold bindC
  simp only [List.map_cons,List.nodup_cons] at hn
  refine bindC_get hk hn.2 ?_
  rcases h with h | h
  ·rcases List.mem_cons.mp h with h | h
   ·injection h with h1 h2
    subst h1 h2
    right
    rw [if_neg hk]
    exact ⟨if_pos rfl,hn.1⟩
   ·exact .inl h
  ·simp only [List.map_cons,List.mem_cons,not_or] at h
   right
   refine ⟨?_,h.2.2⟩
   split
   ·exact h.1
   ·show (if x=y then some u else m x)=some v
    rw [if_neg h.2.1];exact h.1
noncomputable def cE (τ:TM)(L:Addr)(cs:List (Str×Addr)):TM:=fun a=>if a=L then .loc else match cs.find? (fun p=>decide (p.2=a)&&(cs.lookup p.1==some a)) with
 | some p=>.cel p.1
 | none=>τ a
theorem find_addr {cs:List (Str×Addr)}{q:Str×Addr→Bool}(ap:cs.Pairwise fun x y=>x.2≠y.2){x:Str}{c:Addr}(h:(x,c)∈cs)(hq:q (x,c)=true):cs.find? (fun p=>decide (p.2=c)&&q p)=some (x,c):=by
 induction cs with
 | nil=>cases h
 | cons p r ih=>
  rw [List.pairwise_cons] at ap
  rcases List.mem_cons.mp h with e | e
  ·subst e;simp [hq]
  ·have:p.2≠c:=ap.1 _ e
   rw [List.find?_cons]
   simp only [this,decide_false,Bool.false_and]
   exact ih ap.2 e
theorem entry_cel {L:Addr}{cs:List (Str×Addr)}(ap:cs.Pairwise fun x y=>x.2≠y.2)(ab: ∀n c,(n,c)∈cs→L < c){x:Str}{c:Addr}(h:cs.lookup x=some c):cE τ L cs c=.cel x:=by
 have hm:=mem_of_lookup h
 unfold cE
 rw [if_neg (Nat.ne_of_gt (ab _ _ hm))]
 have:=find_addr (q:=fun p=>cs.lookup p.1==some c) ap hm (by simp [h])
 rw [this]
theorem entry_old {L:Addr}{cs:List (Str×Addr)}(ab: ∀n c,(n,c)∈cs→L < c){a:Addr}(h:a < L):cE τ L cs a=τ a:=by
 unfold cE
 rw [if_neg (Nat.ne_of_lt h)]
 have:cs.find? (fun p=>decide (p.2=a)&&(cs.lookup p.1==some a))=none:=by
  rw [List.find?_eq_none]
  intro p hp q
  simp only [Bool.and_eq_true,decide_eq_true_eq] at q
  replace q:=q.1
  have:=ab p.1 p.2 hp
  rw [q] at this
  exact absurd h (Nat.lt_asymm this)
 rw [this]
theorem gk {L:Addr}{cs:List (Str×Addr)}(a:Addr):(a=L∧cE τ L cs a=.loc)∨(∃x,cs.lookup x=some a∧cE τ L cs a=.cel x)∨cE τ L cs a=τ a:=by
 unfold cE
 by_cases h:a=L
 ·exact .inl ⟨h,if_pos h⟩
 ·rw [if_neg h]
  cases q:cs.find? (fun p=>decide (p.2=a)&&(cs.lookup p.1==some a)) with
  | none=>exact .inr (.inr rfl)
  | some p=>
   have hd:=List.find?_some q
   simp only [Bool.and_eq_true,decide_eq_true_eq,beq_iff_eq] at hd
   exact .inr (.inl ⟨p.1,hd.2,rfl⟩)
noncomputable def noEnt:Tag→Bool
 | .loc=>false
 | .cel _=>false
 | _=>true
theorem jF {L:Addr}{cs:List (Str×Addr)}{a:Addr}{t:Tag}(h:cE τ L cs a=t)(n:noEnt t=true):τ a=t:=by
 rcases gk (τ:=τ) (L:=L) (cs:=cs) a with ⟨_,e⟩ | ⟨x,_,e⟩ | e
 ·exact absurd (h.symm.trans e▸n:noEnt .loc=true) Bool.false_ne_true
 ·exact absurd (h.symm.trans e▸n:noEnt (.cel x)=true) Bool.false_ne_true
 ·exact e.symm.trans h
theorem entry_g {L:Addr}{cs:List (Str×Addr)}{a:Addr}(h:ct (cE τ L cs a)=true):cE τ L cs a=τ a:=by
 rcases gk (τ:=τ) (L:=L) (cs:=cs) a with ⟨_,e⟩ | ⟨x,_,e⟩ | e
 ·rw [e] at h;cases h
 ·rw [e] at h;cases h
 ·exact e
theorem args_get {ds:List D}{k i:Nat}{g:G}{sl:Slot}(h:(St.mk (ds.map (fun d=>some (.val d))++List.replicate k none) g).get i=some sl): ∃d,ds[i]? =some d∧sl=.val d:=by
 unfold St.get at h
 by_cases q:i < ds.length
 ·rw [List.getElem?_append_left (by rw [List.length_map];exact q),List.getElem?_map,List.getElem?_eq_getElem q] at h
  exact ⟨ds[i],List.getElem?_eq_getElem q,(Option.some.inj h).symm⟩
 ·rw [List.getElem?_append_right (by rw [List.length_map];exact Nat.le_of_not_lt q),List.getElem?_replicate] at h
  split at h <;> cases h
theorem Rel.toC' {env:Env}{l':List Env}{wr:Str→Bool}(R:Rel prog w s0 env l' nt wr τ av st s){s1:Shared}{g1:G}{τc:TM}(Z:CRel prog w s0 l τc g1 s1)(lx:TM.lx τc τ):CRel prog w s0 l τ st.g s where
 rest:=R.rest
 base:=R.base
 ex:=R.ex
 obj:=R.obj
 itO:=R.itO
 g:=R.g
 frs e he:=by
  obtain ⟨x,L,b,o',t,n⟩:=Z.frs e he
  exact ⟨x,L,b,o',lx.pin _ _ t,n⟩
theorem fn_env {ns:List (Str×NameKind)}{f:FnIR}{body:List PySem.Stmt}(hB:SSL prog w s0 ft m nt ns body f.body){env:Env}{l:List Env}{A:Around}{τ:TM}{s s₁:Shared}{vs:List Value}{ds:List D}{g:G}{K:Result→Shared→Prop}
  (eloc:env.locals=s.heap.objs.size) (efr:env.frame=some s.heap.objs.size) (ecel:env.cells=cellsFrom (s.heap.objs.size + 1) ns []) (ekind: ∀x,env.kindOf x=ns.lookup x) (esk:env.scope.kind=.function) (eg:env.globals=mainGlobals∧env.builtins=builtinsNs)
  (hC:Cx A l (m + 2)) (Z:CRel prog w s0 l τ g s) (rv:RepL prog w τ vs ds) (hl:ds.length=f.np) (hlen:nt.length=f.nv) (hnp:f.np≤f.nv) (hfree: ∀x∈ns,x.2≠ .free) (hnd:nt.Nodup) (hnd':(((nt.take f.np).zip vs).map (·.1)).Nodup)
  (I:InCallC s env.locals (bindL env.kindOf ((nt.take f.np).zip vs) fun _=>none) env.cells (bindC env.kindOf ((nt.take f.np).zip vs) fun _=>none) s₁)
  (h:RP ((exs ft f.body ⟨ds.map (fun d=>some (.val d))++List.replicate (f.nv - f.np) none,g⟩).bind fun p=>match p.1 with | .next=>.ok (.none,p.2.g) | .ret d=>.ok (d,p.2.g)) (fun p=> ∀v τ' s',TM.le τ τ'→Rep prog w τ' v p.1→CRel prog w s0 l τ' p.2 s'→K (.ok (.ret v)) s') (fun ln=> ∀x s',Infl w s0 l τ ln x s'→K (.error x) s')):
  wpAny (model prog w) (A.deeper env) (execs body env) (fun f s'=>K (.ok (.ret (match f with | .ret v=>v | _=>.none))) s')
   (fun e s'=>wpAny (model prog w) (A.deeper env) (leaving env e) (fun _ s''=>K (.error e) s'') (fun e' s''=>K (.error e') s'') s') s₁:=by
 have ab:=I.above
 rw [eloc] at ab
 have lt: ∀{a:Addr},τ a≠ .no→a < s.heap.objs.size:=fun h=>by refine x11 (Z.ex _ h) fun o e=>?_;exact Heap.lt_size e
 have same: ∀{a:Addr} {t:Tag},τ a=t→t≠ .no→cE τ s.heap.objs.size env.cells a=t:=fun e n=>(entry_old ab (lt (by rw [e];exact n))).trans e
 have le:TM.le τ (cE τ s.heap.objs.size env.cells):=⟨fun a o e=>same e (by simp),fun a o e=>same e (by simp),fun a o e=>same e (by simp),fun a e=>same e (by simp),fun a i e=>same e (by simp)⟩
 have celSome: ∀{x:Str},ns.lookup x=some .cell→ ∃c,env.cells.lookup x=some c:=fun h=>by rw [ecel];exact Option.isSome_iff_exists.mp (dK (.inl (mem_of_lookup h)))
 have keep:=I.toInCall.keep
 have hE:EnvNs env ns:=by
  intro x k hx
  cases k with
  | «local»=>exact (ekind x).trans hx
  | cell=>exact ⟨(ekind x).trans hx,by refine x11 (celSome hx) fun c hc=>?_;rw [hc];rfl⟩
  | free=>exact absurd rfl (hfree _ (mem_of_lookup hx))
  | globalImplicit=>exact (ekind x).trans hx
  | globalExplicit=>trivial
 refine x21 I.toInCall.same fun h1 tk1 es1=>?_
 subst es1
 have R:Rel prog w s0 env (env::l) nt (bf ns) (cE τ s.heap.objs.size env.cells) (fun i=>vs[i]?) ⟨ds.map (fun d=>some (.val d))++List.replicate (f.nv - f.np) none,g⟩ {s with heap:=h1,toks:=tk1}:=by
  refine {rest:=⟨Z.rest.1,Z.rest.2,Z.rest.3⟩,base:=fun a o e=>le.frz _ _ (Z.base a o e),ex:=fun a ha=>?_,obj:=fun a o ha=>keep _ _ (Z.obj a o (ha.imp (jF · rfl) (jF · rfl))),itO:=fun a o ha=>keep _ _ (Z.itO a o (jF ha rfl)),kind:=esk,glb:=eg,ns:=⟨_,I.toInCall.ns⟩,loc:=by rw [eloc];exact if_pos rfl,wrk:=fun x hx=>?_,celT:=fun x c h1 h2=>.inl (entry_cel I.apart ab h2),vars:=fun i x sl h1 h2 h3=>?_,g:=?_,frs:=fun e he=>?_,len:=?_,ntd:=hnd}
  ·rcases gk (τ:=τ) (L:=s.heap.objs.size) (cs:=env.cells) a with ⟨rfl,_⟩ | ⟨x,hx,_⟩ | e
   ·obtain ⟨o,_,_,ho,_⟩:=I.toInCall.ns;rw [eloc] at ho;exact ⟨o,ho⟩
   ·obtain ⟨o,ho,_⟩:=I.cell x a hx
    exact ⟨o,ho⟩
   ·rw [e] at ha
    refine x11 (Z.ex a ha) fun o ho=>?_
    exact ⟨o,keep _ _ ho⟩
  ·rcases Bool.or_eq_true_iff.1 hx with hx | hx
   ·exact .inl ((ekind x).trans (beq_iff_eq.1 hx))
   ·have hx:=beq_iff_eq.1 hx
    refine x11 (celSome hx) fun c hc=>?_
    exact .inr ⟨(ekind x).trans hx,c,_,hc,I.cell _ _ hc,entry_cel I.apart ab hc⟩
  ·refine x12 (args_get h2) fun d hd e=>x12 (rv.get hd) fun v hv r=>?_
   rw [e]
   have hi:i < f.np:=hl▸(List.getElem?_eq_some_iff.1 hd).1
   have hxi:(nt.take f.np)[i]? =some x:=by rw [List.getElem?_take,if_pos hi];exact h1
   have hmem:(x,v)∈(nt.take f.np).zip vs:=by
    refine List.mem_of_getElem? (i:=i) ?_
    rw [List.getElem?_zip_eq_some];exact ⟨hxi,hv⟩
   refine ⟨v,hv,?_,r.mono le⟩
   rcases h3 with h3 | h3
   ·exact .inl ⟨h3,_,I.toInCall.ns,iU h3 hnd' (.inl hmem)⟩
   ·refine .inr ⟨h3,?_⟩
    rcases h3 with h3 | h3
    ·refine x11 (celSome ((ekind x).symm.trans h3)) fun c hc=>?_
     refine ⟨c,hc,?_⟩
     have:=I.cell _ _ hc
     rw [bindC_get (by rw [h3];simp) hnd' (.inl hmem)] at this
     exact this
    ·exact absurd rfl (hfree _ (mem_of_lookup ((ekind x).symm.trans h3)))
  ·refine (Z.g.heap fun a o _ e=>keep _ _ e).tag le.sub (fun a ha=>?_) fun a ha=>?_
   ·exact entry_old ab (lt fun e=>by rw [e] at ha;cases ha)
   ·exact entry_g ha
  ·rcases List.mem_cons.mp he with rfl | he
   ·exact ⟨by rw [esk];simp,_,efr,.inl eloc.symm⟩
   ·obtain ⟨a,L,b,o,t,n⟩:=Z.frs e he
    exact ⟨a,L,b,.inr ⟨o,le.pin _ _ t,n⟩⟩
  ·simp only [List.length_append,List.length_map,List.length_replicate];omega
 have hC':Cx (A.deeper env) (env::l) (m + 1):=by
  refine ⟨hC.handled,?_,?_,?_⟩
  ·show A.frames.map (env:: ·)=_;rw [hC.frames];rfl
  ·show A.depth + 1 + 4 * (m + 1) < _;have:=hC.depth;exact nl [_,_] [(.s (.a N0 (.m 4 (.a N1 (.n 2)))),.n 1000)] (.s (.a (.s N0) (.m 4 (.s N1)))) (.n 1000) rfl this
  ·show A.units + 3 + 64 + 12 * (m + 1) < _;have:=hC.units;exact nl [_,_] [(.s (.a (.a N0 (.n 64)) (.m 12 (.a N1 (.n 2)))),.n 9900)] (.s (.a (.a (.a N0 (.n 3)) (.n 64)) (.m 12 (.s N1)))) (.n 9900) rfl this
 refine hB.run hE hC' R (h.bind.mono (fun p hp av' τ2 s2 le2 R2=>?_) fun ln hfl x s2 i=>?_)
 ·have C2:=R2.toC' Z (le.trans le2).lx
  obtain ⟨fl,st2⟩:=p
  cases fl with
  | next=>exact hp .none τ2 s2 (le.trans le2) .none C2
  | ret d=>intro v rv;exact hp v τ2 s2 (le.trans le2) rv C2
 ·refine infl_leave (by show A.frames.map (env:: ·)=_;rw [hC.frames];rfl) i le.lx (fun L hL o=>?_) fun s3 i3=>hfl _ _ i3
  rw [efr] at hL;cases hL
  have:cE τ s.heap.objs.size env.cells s.heap.objs.size=.loc:=if_pos rfl
  rw [this];simp
theorem bR (HB:Base w s0 mg mb){fa:Addr}{body:List PySem.Stmt}{scope:Scope}{f:FnIR}(hf:gb s0 fa body scope (nt.take f.np))(hc:bJ nt scope f=true)(hB:SSL prog w s0 ft m nt scope.names body f.body):FnOk prog w s0 (m + 2) fa (aG ft f):=by
 intro A l τ s vs ds g K hC Z rv h
 simp only [bJ,Bool.and_eq_true,Bool.not_eq_true',decide_eq_true_eq,List.all_eq_true] at hc
 obtain ⟨⟨⟨⟨⟨⟨⟨hk,hco⟩,hgen⟩,hlen⟩,hnp⟩,hfree⟩,hpar⟩,hnd⟩:=hc
 have hk:scope.kind=.function:=by simpa using hk
 have hfree: ∀x∈scope.names,x.2≠ .free:=fun x hx=>by have:=hfree x hx;simpa using this
 obtain ⟨o,fd,ho,hdat,hbody,hscope,hclo,hglob,hblt,hcd,hbind⟩:=hf
 unfold aG at h
 have old: ∀b o,s0.heap.get? b=some o→s.heap.get? b=some o:=fun b o e=>Z.obj b o (.inl (Z.base b o e))
 split at h
 ·rename_i hl
  have hvl:vs.length=(nt.take f.np).length:=by rw [rv.length,hl,List.length_take];omega
  have hz:((nt.take f.np).zip vs).map (·.1)=nt.take f.np:=by rw [List.map_fst_zip];exact nl [_,_] [(N0,N1)] N0 N1 rfl (Nat.le_of_eq hvl.symm)
  have hnd':(((nt.take f.np).zip vs).map (·.1)).Nodup:=by rw [hz];exact List.Nodup.sublist (List.take_sublist _ _) hnd
  subst hscope
  refine codeAny_call_cells (hC.depth |> fun h=>by exact nl [_,_] [(.s (.a N0 (.m 4 (.a N1 (.n 2)))),.n 1000)] (.s N0) (.n 1000) rfl h) (old _ _ ho) hdat (HB.nol.keeps old) (hcd.keeps old) hbody (hbind vs hvl) hclo (fun x hx=>?_) (fun s₁ I=>?_) hco hgen hk
  ·have hx1:x.1∈nt.take f.np:=by rw [←hz];exact List.mem_map_of_mem hx
   have:=hpar _ hx1
   simp only [Bool.or_eq_true,beq_iff_eq] at this
   refine this.imp id fun h=>⟨h,dK (.inl (mem_of_lookup h))⟩
  ·exact fn_env (ns:=fd.scope.names) hB rfl rfl rfl (fun _=>rfl) hk ⟨hglob,hblt⟩ hC Z rv hl hlen hnp hfree hnd hnd' I h
 ·exact h.elim
end
section
variable {prog:Program}{w:World}{s0:Shared}{ft:FT}{m:Nat}{nt:List Str}{ns:List (Str×NameKind)}{mg mb:Str→Option Value}
theorem notLong {x:Str}(h:x.length≤1000):Builtin.Str.tooLong x.length=false:=by
 unfold Builtin.Str.tooLong
 simp only [sizeLine]
 simp;exact lec ‹_› (by rfl)
theorem RP.strI {d:D}{F:Str→Str}{st:St}{P:D×St→Prop}{N:Int→Prop}(h:RP (match d with | .str x=>if (F x).length≤1000 then .ok (.str (F x),st) else .bad | _=>.bad) P N): ∃x,d=.str x∧(F x).length≤1000∧P (.str (F x),st):=by
 cases d with
 | str x=>exact ⟨x,rfl,RP.ifI h⟩
 | _=>exact h.elim
theorem RP.strG {d:D}{G:Str→D}{st:St}{P:D×St→Prop}{N:Int→Prop}(h:RP (match d with | .str x=>.ok (G x,st) | _=>.bad) P N): ∃x,d=.str x∧P (G x,st):=by
 cases d with
 | str x=>exact ⟨x,rfl,h⟩
 | _=>exact h.elim
theorem se_lower {e:PySem.Expr}{apos pos:Pos}{X:E}(hX:SE prog w s0 ft m nt ns e X)(hb: ∀env,attributeBase e "lower" env (eval e env)=eval e env)(hline:(apos.endLine==pos.line)=true):SE prog w s0 ft m nt ns (.Call (.Attribute e "lower" apos) [] [] pos) (.lower X):=by
 refine ⟨?_⟩
 intro env l wr A av τ st s Q Er hE hC R h
 refine Call_method0 (hb env) hline (hX.run hE hC R (h.bind.mono (fun p hp v τ1 s1 le1 rv R1=>?_) fun _ f=>f))
 refine x13 (RP.strI hp) fun x ed hz hp=>?_
 rw [ed] at rv
 cases rv with
 | str _ t=>exact PySem.SB.lower (notLong hz) (hp _ τ1 _ le1 (.str _ _) (R1.toks _))
theorem se_upper {e:PySem.Expr}{apos pos:Pos}{X:E}(hX:SE prog w s0 ft m nt ns e X)(hb: ∀env,attributeBase e "upper" env (eval e env)=eval e env)(hline:(apos.endLine==pos.line)=true):SE prog w s0 ft m nt ns (.Call (.Attribute e "upper" apos) [] [] pos) (.upper X):=by
 refine ⟨?_⟩
 intro env l wr A av τ st s Q Er hE hC R h
 refine Call_method0 (hb env) hline (hX.run hE hC R (h.bind.mono (fun p hp v τ1 s1 le1 rv R1=>?_) fun _ f=>f))
 refine x13 (RP.strI hp) fun x ed hz hp=>?_
 rw [ed] at rv
 cases rv with
 | str _ t=>exact PySem.SB.upper (notLong hz) (hp _ τ1 _ le1 (.str _ _) (R1.toks _))
theorem se_getV (HB:Base w s0 mg mb){x:Str}{a b:PySem.Expr}{k:Nat}{p apos pos:Pos}{X Y:E}(hX:SE prog w s0 ft m nt ns a X)(hY:SE prog w s0 ft m nt ns b Y)(hx:nt[k]? =some x)(hv:bN (ns.lookup x)=true)(h1:(x==("__debug__":Str))=false)(h2:(x==("__classdict__":Str))=false)
  (hst: ∀env,starEach [a,b] env=[(false,eval a env),(false,eval b env)]) (hline:(apos.endLine==pos.line)=true):
  SE prog w s0 ft m nt ns (.Call (.Attribute (.Name x p) "get" apos) [a,b] [] pos) (.getV k X Y):=by
 refine ⟨?_⟩
 intro env l wr A av τ st s Q Er hE hC R h
 refine x12 h.ofOpt fun kv0 hc0 h=>?_
 refine x13 (R.any HB hx (hE.vis hv) (dct_any hc0)) fun v' f1 f2 f3=>?_
 refine x24 (f3.dct R.hB) fun d o ev ho hsys h'=>x13 h' fun kvs hD he hr=>?_
 refine wpAny_Call_method2_late rfl hline (by rw [hst env];rfl) (aM R.kind f2 ?_ h1 h2)
 rw [ev]
 refine ⟨"dict","dict.get",F.plainAttrs_dict,F.slot_dict_get,F.type_dict_get,⟨o,ho,hD.1.1⟩,fun a e=>⟨o,by cases e;exact ho,hD.1.2.1⟩,?_⟩
 refine wpAny_dict_get2 (knd:=strKind prog w) hsys (hX.run hE hC R (h.bind.mono (fun q hq v τ1 s1 le1 rv R1=>?_) fun _ f=>f))
 have hq:=RP.mono hq (fun _ z=>OkP.le le1 z) (fun _=>FlP.le (Er:=Er) le1)
 refine hY.run hE hC R1 (hq.bind.mono (fun r hr2 v2 τ2 s2 le2 rv2 R2=>?_) fun _ f=>f)
 have hr2:=RP.mono hr2 (fun _ z=>OkP.le le2 z) (fun _=>FlP.le (Er:=Er) le2)
 refine x12 (RP.ofOpt hr2) fun kds hk hr2=>x12 (RP.strG hr2) fun y ed hr2=>?_
 rw [ed] at rv
 refine x11 rv.str_inv fun t e=>?_
 rw [e]
 refine x13 (R2.any HB hx (hE.vis hv) (dct_any hk)) fun v3 g1 g2 g3=>?_
 have e3:v3=.ref d:=Option.some.inj (g1.symm.trans (f1.trans (congrArg some ev)))
 rw [e3] at g3
 refine x24 (g3.dct R2.hB) fun d' o' ed ho' hsys' h'=>x13 h' fun kvs' hD' he' hr'=>?_
 have ed:d'=d:=by cases ed;rfl
 rw [ed] at ho'
 refine ⟨y,_,strKind_is _ _ _ _,(hD'.mapOf ho').mapOf,?_⟩
 have va:=jr he' hr' y
 refine hr2 _ τ2 _ (TM.le.refl _) ?_ (R2.toks _)
 cases hlk:aX y kds with
 | none=>rw [hlk] at va;simp only at va;rw [va];exact rv2
 | some dv=>rw [hlk] at va;refine x12 va fun v5 e5 r5=>?_;rw [e5];exact r5
end
noncomputable def top (i:Nat):PySem.Stmt:=(PySem.Challenge.pw_pp0051_01.main.body[i]?).getD (.Pass ⟨0,0,0,0⟩)
set_option backward.match.sparseCases false in
noncomputable def cb (s:PySem.Stmt)(i:Nat):PySem.Stmt:=match s with
 | .ClassDef (body:=b) .. =>(b[i]?).getD (.Pass ⟨0,0,0,0⟩)
 | _=>.Pass ⟨0,0,0,0⟩
set_option backward.match.sparseCases false in
noncomputable def aN:PySem.Stmt→List PySem.Stmt
 | .FunctionDef (body:=b) .. =>b
 | _=>[]
set_option backward.match.sparseCases false in
noncomputable def au:PySem.Stmt→Scope
 | .FunctionDef (scope:=b) .. =>b
 | _=>default
noncomputable def Fnc (prog:Program)(w:World)(s0:Shared)(ft:FT)(m:Nat)(mg:Str→Option Value)(x:Str)(f:Fn):Prop:=
 ∃fa,(mg x=some (.ref fa)∧ ∃o fd,s0.heap.get? fa=some o∧o.data=.func fd)∧FnOk prog w s0 m fa (ft f)
section
variable {prog:Program}{w:World}{s0:Shared}{ft:FT}{m:Nat}{nt:List Str}{ns:List (Str×NameKind)}{mg mb:Str→Option Value}
theorem ss_ifeL {x:Str}{c:PySem.Expr}{es1 es2:List PySem.Expr}{ip p1 p2 p pos:Pos}{i:Nat}{X:E}{As Bs:List E}(hc:SB prog w s0 ft m nt ns c X)(h1:SL prog w s0 ft m nt ns es1 As)(h2:SL prog w s0 ft m nt ns es2 Bs)(hx:nt[i]? =some x)(hw:bf ns x=true):
  SS prog w s0 ft m nt ns (.Assign [.Name x p] (.IfExp c (.List es1 p1) (.List es2 p2) ip) pos) (.ife X [.ownL i As] [.ownL i Bs]):=by
 refine ⟨?_⟩
 intro env l A av τ st s Q Er hE hC R h
 have h:RP ((ev ft X st).bind fun p=>(Res.ofOpt (bY p.1)).bind fun t=>match t with
  | true=>exs ft [.ownL i As] p.2
  | false=>exs ft [.ownL i Bs] p.2) _ _:=h
 have one: ∀{es:List PySem.Expr} {p1:Pos} {Xs:List E} {τ1:TM} {st1:St} {s1:Shared},SL prog w s0 ft m nt ns es Xs→TM.le τ τ1→Rel prog w s0 env (env::l) nt (bf ns) τ1 av st1 s1→RP (exs ft [.ownL i Xs] st1) (OkS prog w s0 nt env (env::l) (bf ns) τ Q) (FlP w s0 (env::l) τ1 Er)→
   wpAny (model prog w) A (eval (.List es p1) env) (fun v s₁=>wpAny (model prog w) A (storeName env x v) (fun _=>Q .next) Er s₁) Er s1:=by
  intro es p1 Xs τ1 st1 s1 hX le R1 hq
  have hq:=hq.bind
  refine PyProof.Rows.List_ (hX.run hE hC R1 (hq.bind.mono (fun p hp vs τ2 s2 le2 rv R2=>?_) fun _ f=>f))
  split at hp
  ·rename_i hz
   have hl:=rv.length
   have R3:=R2.grow (h':=s2.heap.push {cls:=.type "list",data:=.seq vs.toArray}) (tk:=s2.toks) fun _ _ e=>Heap.get?_push_of_some _ e
   refine wpAny_newObj_type ?_ (by show vs.toArray.size≤sizeLine;simp only [List.size_toArray,sizeLine];exact nl [_,_] [(N0,N1),(N1,.n 1000)] N0 (.n 16777216) rfl (Nat.le_of_eq hl) hz)
   exact own_new (d:=.lst p.1) R3 hx hw R2.fresh (Heap.get?_push_size _ rfl) ⟨vs,⟨0,rfl⟩,rv⟩ fun av' h' tk R4 le4=>hp av' _ _ ((le.trans le2).trans le4) R4
  ·exact hp.elim
 refine wpAny_Assign_Name (wpAny_IfExp (hc.run hE hC R ?_)) rfl
 revert h
 cases ev ft X st with
 | bad=>intro h;exact h
 | flt n=>intro h;exact h
 | ok p=>
  intro h
  refine x12 (RP.ofOpt h) fun b' hb' h1'=>?_
  show RP ((Res.ofOpt (bY p.1)).bind fun b=>Res.ok (D.bool b,p.2)) _ _
  rw [hb']
  intro b'' τ1 s1 e1 le1 R1
  cases e1
  have h2':=RP.mono h1' (fun _ q=>q) (fun _=>FlP.le (Er:=Er) le1)
  cases b' with
  | true=>exact one h1 le1 R1 h2'
  | false=>exact one h2 le1 R1 h2'
theorem aK (HB:Base w s0 mg mb){x:Str}{f:Fn}(F:Fnc prog w s0 ft m mg x f){p pos:Pos}{e:PySem.Expr}{rest:List PySem.Expr}{Xs:List E}(hx:ns.lookup x=some .globalImplicit)(hd:(x==("__debug__":Str))=false)(hl:SL prog w s0 ft m nt ns (e::rest) Xs)
  (hst: ∀env,starEach (e::rest) env=(false,eval e env)::starEach rest env):SE prog w s0 ft m nt ns (.Call (.Name x p) (e::rest) [] pos) (.call f Xs):=by
 obtain ⟨fa,hf,HF⟩:=F
 exact se_call HB hx hd hf HF hl hst
end
section
variable {prog:Program}{w:World}{s0:Shared}{ft:FT}{m:Nat}{mg mb:Str→Option Value}
theorem a_formal_names:SSL prog w s0 ft m nt_formal_names (au (top 5)).names (aN (top 5)) ir_formal_names.body:=
 (ae (aJ (aw (ba (an (aa rfl rfl rfl rfl) aj (fun _ _=>rfl)) al)) (ae (aP (an (aa rfl rfl rfl rfl) aj (fun _ _=>rfl))) ai) ai) (ae (aJ (aw (ba (an (aa rfl rfl rfl rfl) aj (fun _ _=>rfl)) al)) (ae (aP (bq (ac (an (an (aa rfl rfl rfl rfl) aj (fun _ _=>rfl)) aj (fun _ _=>rfl)) ak (fun _=>rfl)))) ai) ai) (ae (aP (bq (ac (an (aa rfl rfl rfl rfl) aj (fun _ _=>rfl)) ak (fun _=>rfl)))) ai)))
theorem a_default_of:SSL prog w s0 ft m nt_default_of (au (top 6)).names (aN (top 6)) ir_default_of.body:=
 (ae (aJ (aw (ba (an (aa rfl rfl rfl rfl) aj (fun _ _=>rfl)) al)) (ae (aP (an (aa rfl rfl rfl rfl) aj (fun _ _=>rfl))) ai) ai) (ae (aJ (aw (ba (an (aa rfl rfl rfl rfl) aj (fun _ _=>rfl)) al)) (ae (aP (an (aa rfl rfl rfl rfl) aj (fun _ _=>rfl))) ai) ai) (ae (aP bA) ai)))
theorem a_types_told (HB:Base w s0 mg mb):SSL prog w s0 ft m nt_types_told (au (top 8)).names (aN (top 8)) ir_types_told.body:=
 (ae (cW (an (aa rfl rfl rfl rfl) aj (fun _ _=>rfl)) (.cons rfl rfl (.cons rfl rfl (.cons rfl rfl (.cons rfl rfl .nil)))) (fun _=>rfl) (fun _=>rfl)) (ae (fG ak rfl rfl) (ae (dE (aa rfl rfl rfl rfl) (.tup (.cons rfl rfl (.cons rfl rfl (.cons rfl rfl (.cons rfl rfl .nil))))) (ae (ss_ext (se_mul (bq (ac (aa rfl rfl rfl rfl) ak (fun _=>rfl))) (bC HB rfl (aa rfl rfl rfl rfl) (fun _=>rfl))) rfl rfl rfl rfl (fun _=>rfl) rfl) ai) (fun _ _=>rfl)) (ae (aP (bG (cH rfl rfl rfl rfl HB.sys) (bq (ac (aC (ac al (ac (aa rfl rfl rfl rfl) ak (fun _=>rfl)) (fun _=>rfl))) ak (fun _=>rfl))))) ai))))
theorem a_operator_node:SSL prog w s0 ft m nt_operator_node (au (top 17)).names (aN (top 17)) ir_operator_node.body:=
 (ae (aJ (aw (ba (cx (aa rfl rfl rfl rfl) cX (bz aj) (fun _ _=>rfl)) al)) (ae (aP (aC (ac al (ac (cx (aa rfl rfl rfl rfl) (bz aj) (bz eC) (fun _ _=>rfl)) ak (fun _=>rfl)) (fun _=>rfl)))) ai) ai) (ae (aP (aC (ac al (ac (aa rfl rfl rfl rfl) ak (fun _=>rfl)) (fun _=>rfl)))) ai))
theorem a_unit_name:SSL prog w s0 ft m nt_unit_name (au (top 20)).names (aN (top 20)) ir_unit_name.body:=
 (ae (aJ (aw (ba (an (aa rfl rfl rfl rfl) aj (fun _ _=>rfl)) al)) (ae (aP (an (an (aa rfl rfl rfl rfl) aj (fun _ _=>rfl)) aj (fun _ _=>rfl))) ai) ai) (ae (aP (an (aa rfl rfl rfl rfl) aj (fun _ _=>rfl))) ai))
theorem a_unit_sort:SSL prog w s0 ft m nt_unit_sort (au (top 21)).names (aN (top 21)) ir_unit_sort.body:=
 (ae (aJ (aw (ba (an (aa rfl rfl rfl rfl) aj (fun _ _=>rfl)) al)) (ae (aP (an (an (aa rfl rfl rfl rfl) aj (fun _ _=>rfl)) aj (fun _ _=>rfl))) ai) ai) (ae (aP al) ai))
theorem a_formal (HB:Base w s0 mg mb)(F_take:Fnc prog w s0 ft m mg (so "_law_take") .take):SSL prog w s0 ft m nt_formal (au (top 26)).names (aN (top 26)) ir_formal.body:=
 (ae (aE (an (se_heads HB rfl) (aK HB F_take rfl rfl (ac (aa rfl rfl rfl rfl) (ac aj ak (fun _=>rfl)) (fun _=>rfl)) (fun _=>rfl)) (fun _ _=>rfl)) rfl rfl (fun _=>rfl)) (ae (fE (si_v (an al (aK HB F_take rfl rfl (ac (aa rfl rfl rfl rfl) (ac aj ak (fun _=>rfl)) (fun _=>rfl)) (fun _=>rfl)) (fun _ _=>rfl))) (si_v (an al (aK HB F_take rfl rfl (ac (aa rfl rfl rfl rfl) (ac aj ak (fun _=>rfl)) (fun _=>rfl)) (fun _=>rfl)) (fun _ _=>rfl))) rfl rfl (by decide) rfl rfl (fun _=>rfl) (fun _=>rfl) (fun _=>rfl) (sw2 rfl rfl rfl rfl rfl rfl)) (ae (aE (cO (aw (ba (aa rfl rfl rfl rfl) al)) (bG aj (aK HB F_take rfl rfl (ac (aa rfl rfl rfl rfl) (ac aj ak (fun _=>rfl)) (fun _=>rfl)) (fun _=>rfl))) (aK HB F_take rfl rfl (ac (aa rfl rfl rfl rfl) (ac aj ak (fun _=>rfl)) (fun _=>rfl)) (fun _=>rfl))) rfl rfl (fun _=>rfl)) (ae (fE (si_l (ac (aC (ac (bq (ac al ak (fun _=>rfl))) (ac al (ac (aC (ac al (ac (aa rfl rfl rfl rfl) ak (fun _=>rfl)) (fun _=>rfl))) (ac bA ak (fun _=>rfl)) (fun _=>rfl)) (fun _=>rfl)) (fun _=>rfl))) ak (fun _=>rfl))) (si_v (aa rfl rfl rfl rfl)) rfl rfl (by decide) rfl rfl (fun _=>rfl) (fun _=>rfl) (fun _=>rfl) (sw2 rfl rfl rfl rfl rfl rfl)) (ae (aJ (aw (ba (aa rfl rfl rfl rfl) aj)) (ae (fE (si_l (ac (aC (ac (bq (ac al (ac al ak (fun _=>rfl)) (fun _=>rfl))) (ac al (ac (aC (ac al (ac (aa rfl rfl rfl rfl) ak (fun _=>rfl)) (fun _=>rfl))) (ac bA ak (fun _=>rfl)) (fun _=>rfl)) (fun _=>rfl)) (fun _=>rfl))) ak (fun _=>rfl))) (si_v (bG (aa rfl rfl rfl rfl) (aa rfl rfl rfl rfl))) rfl rfl (by decide) rfl rfl (fun _=>rfl) (fun _=>rfl) (fun _=>rfl) (sw2 rfl rfl rfl rfl rfl rfl)) ai) (ae (aJ (aw (ba (aa rfl rfl rfl rfl) aj)) (ae (dr (aC (ac (bq (ac al ak (fun _=>rfl))) (ac al (ac (aC (ac al (ac (aa rfl rfl rfl rfl) ak (fun _=>rfl)) (fun _=>rfl))) (ac bA ak (fun _=>rfl)) (fun _=>rfl)) (fun _=>rfl)) (fun _=>rfl))) rfl rfl rfl rfl (fun _=>rfl) rfl) (ae (aE (bG (aa rfl rfl rfl rfl) (aa rfl rfl rfl rfl)) rfl rfl (fun _=>rfl)) ai)) ai) ai)) (ae (aE (cO (aw (ba (aa rfl rfl rfl rfl) al)) (an al (aK HB F_take rfl rfl (ac (aa rfl rfl rfl rfl) (ac aj ak (fun _=>rfl)) (fun _=>rfl)) (fun _=>rfl)) (fun _ _=>rfl)) (an al (aK HB F_take rfl rfl (ac (aa rfl rfl rfl rfl) (ac aj ak (fun _=>rfl)) (fun _=>rfl)) (fun _=>rfl)) (fun _ _=>rfl))) rfl rfl (fun _=>rfl)) (ae (aE (aC (ac al (ac (aa rfl rfl rfl rfl) (ac (cH rfl rfl rfl rfl HB.sys) (ac (aC (ac al (ac (aa rfl rfl rfl rfl) ak (fun _=>rfl)) (fun _=>rfl))) ak (fun _=>rfl)) (fun _=>rfl)) (fun _=>rfl)) (fun _=>rfl))) rfl rfl (fun _=>rfl)) (ae (aJ (aw (ba (aa rfl rfl rfl rfl) al)) (ae (aE (aC (ac al (ac (aa rfl rfl rfl rfl) (ac (cH rfl rfl rfl rfl HB.sys) (ac bA ak (fun _=>rfl)) (fun _=>rfl)) (fun _=>rfl)) (fun _=>rfl))) rfl rfl (fun _=>rfl)) ai) ai) (ae (aE (an (aC (ac bA (ac al (ac (aC (ac al (ac al ak (fun _=>rfl)) (fun _=>rfl))) ak (fun _=>rfl)) (fun _=>rfl)) (fun _=>rfl))) (aK HB F_take rfl rfl (ac (aa rfl rfl rfl rfl) (ac aj ak (fun _=>rfl)) (fun _=>rfl)) (fun _=>rfl)) (fun _ _=>rfl)) rfl rfl (fun _=>rfl)) (ae (aP (aC (ac (aC (ac al (ac (aa rfl rfl rfl rfl) (ac (aa rfl rfl rfl rfl) (ac (aa rfl rfl rfl rfl) ak (fun _=>rfl)) (fun _=>rfl)) (fun _=>rfl)) (fun _=>rfl))) (ac (bG (aa rfl rfl rfl rfl) (aa rfl rfl rfl rfl)) ak (fun _=>rfl)) (fun _=>rfl)))) ai))))))))))
theorem a_row (HB:Base w s0 mg mb)(F_take:Fnc prog w s0 ft m mg (so "_law_take") .take):SSL prog w s0 ft m nt_row (au (top 27)).names (aN (top 27)) ir_row.body:=
 (ae (aJ (aw (bj (cx (aa rfl rfl rfl rfl) cX (bz aj) (fun _ _=>rfl)) al)) (ae (aP (aC (ac (cO (aw (ba (aa rfl rfl rfl rfl) al)) bA (bq (ac (aC (ac al (ac (aa rfl rfl rfl rfl) ak (fun _=>rfl)) (fun _=>rfl))) ak (fun _=>rfl)))) (ac (aC (ac al (ac (aa rfl rfl rfl rfl) ak (fun _=>rfl)) (fun _=>rfl))) (ac (aa rfl rfl rfl rfl) ak (fun _=>rfl)) (fun _=>rfl)) (fun _=>rfl)))) ai) ai) (ae (aE (cO (aw (ba (aK HB F_take rfl rfl (ac (aa rfl rfl rfl rfl) (ac aj ak (fun _=>rfl)) (fun _=>rfl)) (fun _=>rfl)) aj)) (se_upper (cx (aa rfl rfl rfl rfl) (bz aj) (bz eC) (fun _ _=>rfl)) (fun _=>rfl) rfl) (cx (aa rfl rfl rfl rfl) (bz aj) (bz eC) (fun _ _=>rfl))) rfl rfl (fun _=>rfl)) (ae (aP (aC (ac (bq (ac (aC (ac al (ac (aa rfl rfl rfl rfl) ak (fun _=>rfl)) (fun _=>rfl))) ak (fun _=>rfl))) (ac (aC (ac al (ac (aa rfl rfl rfl rfl) ak (fun _=>rfl)) (fun _=>rfl))) (ac (aa rfl rfl rfl rfl) ak (fun _=>rfl)) (fun _=>rfl)) (fun _=>rfl)))) ai)))
theorem a_actuals (HB:Base w s0 mg mb)(F_row:Fnc prog w s0 ft m mg (so "_law_row") .row)(F_take:Fnc prog w s0 ft m mg (so "_law_take") .take):SSL prog w s0 ft m nt_actuals (au (top 28)).names (aN (top 28)) ir_actuals.body:=
 (ae (fE (si_l ak) (si_v cf) rfl rfl (by decide) rfl rfl (fun _=>rfl) (fun _=>rfl) (fun _=>rfl) (sw2 rfl rfl rfl rfl rfl rfl)) (ae (ss_forE HB rfl (aa rfl rfl rfl rfl) (fun _=>rfl) rfl rfl rfl rfl (ae (aE (aK HB F_take rfl rfl (ac (aa rfl rfl rfl rfl) (ac aj ak (fun _=>rfl)) (fun _=>rfl)) (fun _=>rfl)) rfl rfl (fun _=>rfl)) (ae (aE (se_or2 (aa rfl rfl rfl rfl) (se_gt (aa rfl rfl rfl rfl) aj)) rfl rfl (fun _=>rfl)) (ae (aJ (dV (bk (aw (se_lt (aa rfl rfl rfl rfl) aj)) (bk (aw (fR (an (aa rfl rfl rfl rfl) aj (fun _ _=>rfl)))) bW))) (ae (dr (aK HB F_row rfl rfl (ac (aa rfl rfl rfl rfl) (ac (cO (sb_plain (aa rfl rfl rfl rfl) (fun _ _=>rfl)) (an (an (aa rfl rfl rfl rfl) aj (fun _ _=>rfl)) aj (fun _ _=>rfl)) al) (ac (bG al (an al (aa rfl rfl rfl rfl) (fun _ _=>rfl))) ak (fun _=>rfl)) (fun _=>rfl)) (fun _=>rfl)) (fun _=>rfl)) rfl rfl rfl rfl (fun _=>rfl) rfl) ai) ai) ai)))) (ae (aE (aK HB F_take rfl rfl (ac (aa rfl rfl rfl rfl) (ac aj ak (fun _=>rfl)) (fun _=>rfl)) (fun _=>rfl)) rfl rfl (fun _=>rfl)) (ae (aJ (aw (ba (aa rfl rfl rfl rfl) aj)) (ae (dr (aK HB F_row rfl rfl (ac (aa rfl rfl rfl rfl) (ac al (ac al ak (fun _=>rfl)) (fun _=>rfl)) (fun _=>rfl)) (fun _=>rfl)) rfl rfl rfl rfl (fun _=>rfl) rfl) ai) (ae (aJ (aw (ba (aa rfl rfl rfl rfl) aj)) (ae (dr (aK HB F_row rfl rfl (ac (aa rfl rfl rfl rfl) (ac al (ac al ak (fun _=>rfl)) (fun _=>rfl)) (fun _=>rfl)) (fun _=>rfl)) rfl rfl rfl rfl (fun _=>rfl) rfl) ai) (ae (aJ (aw (ba (aa rfl rfl rfl rfl) aj)) (ae (dr (aK HB F_row rfl rfl (ac (aa rfl rfl rfl rfl) (ac (an (an (an (aa rfl rfl rfl rfl) (aK HB F_take rfl rfl (ac (aa rfl rfl rfl rfl) (ac (bC HB rfl (aa rfl rfl rfl rfl) (fun _=>rfl)) ak (fun _=>rfl)) (fun _=>rfl)) (fun _=>rfl)) (fun _ _=>rfl)) aj (fun _ _=>rfl)) aj (fun _ _=>rfl)) (ac al ak (fun _=>rfl)) (fun _=>rfl)) (fun _=>rfl)) (fun _=>rfl)) rfl rfl rfl rfl (fun _=>rfl) rfl) ai) ai) ai)) ai)) (ae (aP (cH rfl rfl rfl rfl HB.sys)) ai)))))
theorem a_due (HB:Base w s0 mg mb):SSL prog w s0 ft m nt_due (au (top 29)).names (aN (top 29)) ir_due.body:=
 (ae (ss_assignK (ci (bZ (by decide +kernel)) (aa rfl rfl rfl rfl) (.name rfl rfl) cw (an (an (aa rfl rfl rfl rfl) aj (fun _ _=>rfl)) aj (fun _ _=>rfl)) (fun _ _=>rfl)) rfl rfl rfl) (ae (ey (sc_compR HB (bZ (by decide +kernel)) rfl (bC HB rfl (aa rfl rfl rfl rfl) (fun _=>rfl)) (fun _=>rfl) (.name rfl rfl) (d6 (aw (fR (an (an (aa rfl rfl rfl rfl) (aa rfl rfl rfl rfl) (fun _ _=>rfl)) aj (fun _ _=>rfl)))) cw) (aa rfl rfl rfl rfl)) rfl rfl rfl rfl) (ae (aJ (dV (bk (aw (bj (aa rfl rfl rfl rfl) (se_listR HB rfl rfl (bC HB rfl (aa rfl rfl rfl rfl) (fun _=>rfl)) (fun _=>rfl)))) (bk (aw (se_gt (bC HB rfl (aa rfl rfl rfl rfl) (fun _=>rfl)) (bC HB rfl (aa rfl rfl rfl rfl) (fun _=>rfl)))) bW))) (ae (aP bA) ai) ai) (ae (aJ (aw (se_lt (se_lenDC HB (bZ (by decide +kernel)) rfl rfl (bC HB rfl (aa rfl rfl rfl rfl) (fun _=>rfl)) (fun _=>rfl) rfl rfl (aC (ac (an (aa rfl rfl rfl rfl) (aa rfl rfl rfl rfl) (fun _ _=>rfl)) (ac (an (aa rfl rfl rfl rfl) (aa rfl rfl rfl rfl) (fun _ _=>rfl)) ak (fun _=>rfl)) (fun _=>rfl))) aj) (bC HB rfl (aa rfl rfl rfl rfl) (fun _=>rfl)))) (ae (aP bA) ai) ai) (ae (dE (cx (aa rfl rfl rfl rfl) (bz (bC HB rfl (aa rfl rfl rfl rfl) (fun _=>rfl))) cX (fun _ _=>rfl)) (.tup (.cons rfl rfl (.cons rfl rfl (.cons rfl rfl .nil)))) (ae (aJ (aw (bj (bC HB rfl (cy (ci (bZ (by decide +kernel)) (aa rfl rfl rfl rfl) (.name rfl rfl) (d6 (aw (ba (aa rfl rfl rfl rfl) (aa rfl rfl rfl rfl))) cw) aj (fun _ _=>rfl))) (fun _=>rfl)) aj)) (ae (aP bA) ai) ai) ai) (fun _ _=>rfl)) (ae (fG ak rfl rfl) (ae (ss_forE HB rfl (aa rfl rfl rfl rfl) (fun _=>rfl) rfl rfl rfl rfl (ae (ss_ifeL (aw (se_lt (aa rfl rfl rfl rfl) (bC HB rfl (aa rfl rfl rfl rfl) (fun _=>rfl)))) (ac (an (an (aa rfl rfl rfl rfl) (aa rfl rfl rfl rfl) (fun _ _=>rfl)) aj (fun _ _=>rfl)) ak (fun _=>rfl)) ak rfl rfl) (ae (ss_aug (cy (ci (bZ (by decide +kernel)) (cx (aa rfl rfl rfl rfl) (bz (bC HB rfl (aa rfl rfl rfl rfl) (fun _=>rfl))) cX (fun _ _=>rfl)) (.tup (.cons rfl rfl (.cons rfl rfl (.cons rfl rfl .nil)))) (d6 (aw (ba (aa rfl rfl rfl rfl) (aa rfl rfl rfl rfl))) cw) (aa rfl rfl rfl rfl) (fun _ _=>rfl))) rfl rfl rfl rfl) (ae (aE (an (an (aa rfl rfl rfl rfl) (aa rfl rfl rfl rfl) (fun _ _=>rfl)) aj (fun _ _=>rfl)) rfl rfl (fun _=>rfl)) (ae (aJ (dV (bk (aw (se_gt (se_lenV HB rfl rfl rfl rfl rfl) aj)) (bk (sb_and (fq (aw (se_eqV HB rfl rfl rfl rfl (bq ak))) (fq (aw (fR (aa rfl rfl rfl rfl))) fx))) bW))) (ae (aP bA) ai) ai) (ae (aJ (sb_and (fq (aw (se_eqV HB rfl rfl rfl rfl (bq ak))) (fq (aw (ba (aa rfl rfl rfl rfl) al)) fx))) (ae (fG (ac (cO (aw (ba (cx (aa rfl rfl rfl rfl) cX (bz aj) (fun _ _=>rfl)) al)) (aC (ac al (ac (cx (aa rfl rfl rfl rfl) (bz aj) (bz eC) (fun _ _=>rfl)) ak (fun _=>rfl)) (fun _=>rfl))) (aC (ac al (ac (aa rfl rfl rfl rfl) ak (fun _=>rfl)) (fun _=>rfl)))) ak (fun _=>rfl)) rfl rfl) ai) ai) (ae (dr (cO (aw (bj (cH rfl rfl rfl rfl HB.sys) (bq ak))) (aC (ac al (ac (se_ixV HB rfl rfl rfl rfl aj (fun _ _=>rfl)) ak (fun _=>rfl)) (fun _=>rfl))) (aC (ac al (ac (aa rfl rfl rfl rfl) ak (fun _=>rfl)) (fun _=>rfl)))) rfl rfl rfl rfl (fun _=>rfl) rfl) ai))))))) (ae (aP (cH rfl rfl rfl rfl HB.sys)) ai))))))))
theorem a_plain (HB:Base w s0 mg mb):SSL prog w s0 ft m nt_plain (au (top 30)).names (aN (top 30)) ir_plain.body:=
 (ae (aJ (aw (bj (cy (ci (bZ (by decide +kernel)) (an (aa rfl rfl rfl rfl) aj (fun _ _=>rfl)) (.tup (.cons rfl rfl (.cons rfl rfl (.cons rfl rfl (.cons rfl rfl .nil))))) (d6 (aw (bj (an (se_getV HB (an (aa rfl rfl rfl rfl) aj (fun _ _=>rfl)) (aC (ac aj (ac aj ak (fun _=>rfl)) (fun _=>rfl))) rfl rfl rfl rfl (fun _=>rfl) rfl) aj (fun _ _=>rfl)) (aa rfl rfl rfl rfl))) cw) (aa rfl rfl rfl rfl) (fun _ _=>rfl))) (bq ak))) (ae (aP bA) ai) ai) (ae (ey (ci (bZ (by decide +kernel)) (an (aa rfl rfl rfl rfl) aj (fun _ _=>rfl)) (.tup (.cons rfl rfl (.cons rfl rfl (.cons rfl rfl (.cons rfl rfl .nil))))) cw (aC (ac (aa rfl rfl rfl rfl) (ac (aa rfl rfl rfl rfl) (ac (an (an (aa rfl rfl rfl rfl) (an (aa rfl rfl rfl rfl) aj (fun _ _=>rfl)) (fun _ _=>rfl)) aj (fun _ _=>rfl)) (ac (aa rfl rfl rfl rfl) ak (fun _=>rfl)) (fun _=>rfl)) (fun _=>rfl)) (fun _=>rfl))) (fun _ _=>rfl)) rfl rfl rfl rfl) (ae (aJ (aw (fR (an (aa rfl rfl rfl rfl) aj (fun _ _=>rfl)))) (ae (aP (aC (ac (an (aa rfl rfl rfl rfl) aj (fun _ _=>rfl)) (ac (aa rfl rfl rfl rfl) (ac (aa rfl rfl rfl rfl) (ac bA ak (fun _=>rfl)) (fun _=>rfl)) (fun _=>rfl)) (fun _=>rfl)))) ai) ai) (ae (aP (aC (ac (an (aa rfl rfl rfl rfl) aj (fun _ _=>rfl)) (ac (aa rfl rfl rfl rfl) (ac (aa rfl rfl rfl rfl) (ac (an (se_getV HB (an (an (aa rfl rfl rfl rfl) aj (fun _ _=>rfl)) aj (fun _ _=>rfl)) (aC (ac aj (ac aj ak (fun _=>rfl)) (fun _=>rfl))) rfl rfl rfl rfl (fun _=>rfl) rfl) aj (fun _ _=>rfl)) ak (fun _=>rfl)) (fun _=>rfl)) (fun _=>rfl)) (fun _=>rfl)))) ai))))
theorem a_is_laid (HB:Base w s0 mg mb)(F_plain:Fnc prog w s0 ft m mg (so "_law_plain") .plain):SSL prog w s0 ft m nt_is_laid (au (top 31)).names (aN (top 31)) ir_is_laid.body:=
 (ae (fE si_d si_d rfl rfl (by decide) rfl rfl (fun _=>rfl) (fun _=>rfl) (fun _=>rfl) (sw2 rfl rfl rfl rfl rfl rfl)) (ae (dE (cx (aa rfl rfl rfl rfl) cX (bz eC) (fun _ _=>rfl)) (.tup (.cons rfl rfl (.cons rfl rfl .nil))) (ae (aJ (aw (ba (an (aa rfl rfl rfl rfl) aj (fun _ _=>rfl)) al)) (ae (aJ (dV (bk (aw (bj (aa rfl rfl rfl rfl) al)) (bk (aw (bj (an (aa rfl rfl rfl rfl) aj (fun _ _=>rfl)) (aC (ac al (ac (an (an (aa rfl rfl rfl rfl) aj (fun _ _=>rfl)) aj (fun _ _=>rfl)) (ac bA ak (fun _=>rfl)) (fun _=>rfl)) (fun _=>rfl))))) bW))) (ae (aP cf) ai) ai) (ae (fF (an (aa rfl rfl rfl rfl) aj (fun _ _=>rfl)) (aC (ac (an (aa rfl rfl rfl rfl) aj (fun _ _=>rfl)) (ac (an (an (aa rfl rfl rfl rfl) aj (fun _ _=>rfl)) aj (fun _ _=>rfl)) ak (fun _=>rfl)) (fun _=>rfl))) rfl rfl rfl rfl (fun _=>rfl)) ai)) (ae (aJ (dV (bk (aw (bj (aa rfl rfl rfl rfl) al)) (bk (aw (bj (cx (aa rfl rfl rfl rfl) cX (bz aj) (fun _ _=>rfl)) (aC (ac al (ac (an (aa rfl rfl rfl rfl) aj (fun _ _=>rfl)) (ac al ak (fun _=>rfl)) (fun _=>rfl)) (fun _=>rfl))))) bW))) (ae (aP cf) ai) ai) (ae (fF (an (aa rfl rfl rfl rfl) aj (fun _ _=>rfl)) (aa rfl rfl rfl rfl) rfl rfl rfl rfl (fun _=>rfl)) ai))) ai) (fun _ _=>rfl)) (ae (aE (bG (se_listV HB rfl rfl rfl rfl rfl) (se_listV HB rfl rfl rfl rfl rfl)) rfl rfl (fun _=>rfl)) (ae (aJ (dV (bk (aw (bj (bC HB rfl (aa rfl rfl rfl rfl) (fun _=>rfl)) (se_sub (bC HB rfl (aa rfl rfl rfl rfl) (fun _=>rfl)) aj))) (bk (aw (bj (cy (ci (bZ (by decide +kernel)) (aa rfl rfl rfl rfl) (.name rfl rfl) (d6 (aw (se_ninn al (aa rfl rfl rfl rfl) rfl)) cw) (aa rfl rfl rfl rfl) (fun _ _=>rfl))) (bq ak))) bW))) (ae (aP cf) ai) ai) (ae (aJ (aw (bj (se_lenV HB rfl rfl rfl rfl rfl) (bC HB rfl (cy (ci (bZ (by decide +kernel)) (aa rfl rfl rfl rfl) (.tup (.cons rfl rfl (.cons rfl rfl .nil))) (d6 (aw (ba (aa rfl rfl rfl rfl) al)) cw) aj (fun _ _=>rfl))) (fun _=>rfl)))) (ae (aP cf) ai) ai) (ae (ss_forE HB rfl (aa rfl rfl rfl rfl) (fun _=>rfl) rfl rfl rfl rfl (ae (cW (aa rfl rfl rfl rfl) (.cons rfl rfl (.cons rfl rfl (.cons rfl rfl (.cons rfl rfl .nil)))) (fun _=>rfl) (fun _=>rfl)) (ae (cW (an (aa rfl rfl rfl rfl) (aa rfl rfl rfl rfl) (fun _ _=>rfl)) (.cons rfl rfl (.cons rfl rfl .nil)) (fun _=>rfl) (fun _=>rfl)) (ae (aE (an (an (an (an (aa rfl rfl rfl rfl) eC (fun _ _=>rfl)) aj (fun _ _=>rfl)) aj (fun _ _=>rfl)) (aa rfl rfl rfl rfl) (fun _ _=>rfl)) rfl rfl (fun _=>rfl)) (ae (aJ (aw (ba (aa rfl rfl rfl rfl) al)) (ae (aE (se_getV HB (an (an (aa rfl rfl rfl rfl) aj (fun _ _=>rfl)) aj (fun _ _=>rfl)) (aa rfl rfl rfl rfl) rfl rfl rfl rfl (fun _=>rfl) rfl) rfl rfl (fun _=>rfl)) (ae (aJ (dV (bk (aw (bj (an (aa rfl rfl rfl rfl) aj (fun _ _=>rfl)) (aa rfl rfl rfl rfl))) (bk (aw (bj (an (aa rfl rfl rfl rfl) aj (fun _ _=>rfl)) (aa rfl rfl rfl rfl))) (bk (aw (bj (an (an (aa rfl rfl rfl rfl) aj (fun _ _=>rfl)) aj (fun _ _=>rfl)) (an (aa rfl rfl rfl rfl) aj (fun _ _=>rfl)))) (bk (aw (bj (an (aa rfl rfl rfl rfl) aj (fun _ _=>rfl)) (aC (ac al (ac (an (aa rfl rfl rfl rfl) aj (fun _ _=>rfl)) ak (fun _=>rfl)) (fun _=>rfl))))) bW))))) (ae (aP cf) ai) ai) (ae (aJ (aw (bj (aK HB F_plain rfl rfl (ac (an (aa rfl rfl rfl rfl) aj (fun _ _=>rfl)) (ac (an (aa rfl rfl rfl rfl) aj (fun _ _=>rfl)) (ac (cH rfl rfl rfl rfl HB.sys) (ac (aa rfl rfl rfl rfl) ak (fun _=>rfl)) (fun _=>rfl)) (fun _=>rfl)) (fun _=>rfl)) (fun _=>rfl)) (aa rfl rfl rfl rfl))) (ae (aP cf) ai) ai) (ae (aE (an (aa rfl rfl rfl rfl) aj (fun _ _=>rfl)) rfl rfl (fun _=>rfl)) ai)))) ai) (ae (aJ (aw (bj (aa rfl rfl rfl rfl) (aC (ac al (ac (aa rfl rfl rfl rfl) (ac al (ac (an (aa rfl rfl rfl rfl) aj (fun _ _=>rfl)) (ac (aa rfl rfl rfl rfl) (ac (aa rfl rfl rfl rfl) ak (fun _=>rfl)) (fun _=>rfl)) (fun _=>rfl)) (fun _=>rfl)) (fun _=>rfl)) (fun _=>rfl))))) (ae (aP cf) ai) ai) ai)))))) (ae (aP cf) ai)))))))
end
section
variable {prog:Program}{w:World}{s0:Shared}{ft:FT}{m:Nat}{nt:List Str}{ns:List (Str×NameKind)}{mg mb:Str→Option Value}
variable {env:Env}{l:List Env}{wr:Str→Bool}{av:Nat→Option Value}{τ:TM}{st:St}{s:Shared}
theorem ga_of {K:Frag}{C:Addr}{n:Str}(h:plainGet K C n=true):findIn K (.ref C) "__getattribute__"=some (some (.builtin "object.__getattribute__")):=(plainGet_of h).1
theorem fo (R:Rel prog w s0 env l nt wr τ av st s){k:Nat}{x:Str}{d:D}(hx:nt[k]? =some x)(hv:Vis env x)(h:a8 st k=some d): ∃v,av k=some v∧Has env s.heap x v∧Rep prog w τ v d:=by
 unfold a8 at h
 split at h
 ·rename_i e
  cases h
  refine x13 (R.vars k x _ hx e hv) fun v e1 e2 e3=>?_
  exact ⟨v,e1,e2,e3⟩
 ·cases h
theorem dc {A:Around}{E:Value→Shared→Prop}{K:Frag}{C x dx:Addr}{es:List DictEntry}{n:Nat}{name:Str}{v:Value}{expr:Bool}{Q:Value→Shared→Prop}(X:K.In s.heap)(h1:s.heap.get? x=some (instObj C dx))(h2:s.heap.get? dx=some (dictOf es n))
  (hg:plainGet K C ""=true) (hd:hasDictIn K C=true) (hf:findIn K (.ref C) name=some none) (hl:getL name es=some (some v)) (hv:handedIn v=true) (h:Q v {s with toks:=s.toks + 1}):wpAny (model prog w) A (getAttr (.ref x) name expr) Q E s:=
 get_value X ⟨h1,rfl,rfl,h2⟩ (ga_of hg) (findObj_own hd hf rfl (show lookIn name (dictOf es n)=some (some v) from hl)) hv h
theorem dB {A:Around}{E:Value→Shared→Prop}{x name:Str}{p pos:Pos}{v:Value}{Q:Value→Shared→Prop}(R:Rel prog w s0 env l nt wr τ av st s)(hh:Has env s.heap x v)(h1:(x==("__debug__":Str))=false)(h2:(x==("__classdict__":Str))=false)
  (h:wpAny (model prog w) A (getAttr v name true) Q E s):wpAny (model prog w) A (eval (.Attribute (.Name x p) name pos) env) Q E s:=
 Attribute_any_ (aM R.kind hh h h1 h2) rfl
theorem d7 (R:Rel prog w s0 env l nt wr τ av st s){b:Bld}{i:BInfo}{a:Addr}(hb:st.g.bld=some b)(hbl:τ a=.bld i):BldLive prog w τ s.heap i b:=by
 refine x22 (R.g.bld _ hb) fun a' i' hbl' L=>?_
 obtain ⟨_,rfl⟩:=R.g.bldU _ _ _ _ hbl hbl'
 exact L
inductive BldV (w:World)(s:Shared)(env:Env)(τ:TM)(av:Nat→Option Value)(k:Nat)(x:Str):Prop where
 | mk (a:Addr) (i:BInfo) (K:Frag) (t1 t2 t3 t4:Tok) (n:Nat) (f1:av k=some (.ref a)) (f2:Has env s.heap x (.ref a)) (hbl:τ a=.bld i) (hK:K.In s.heap) (X:ClsOk K) (hat:s.heap.get? a=some (instObj 157 i.bd))
  (hbd:s.heap.get? i.bd=some (dictOf [⟨PyData.keyHash w.params "naming",.str "naming" t1,.ref i.nm⟩,⟨PyData.keyHash w.params "steps",.str "steps" t2,.ref i.stl⟩,⟨PyData.keyHash w.params "inner",.str "inner" t3,.ref i.inl⟩,⟨PyData.keyHash w.params "table",.str "table" t4,.ref i.tb⟩] n))
theorem Rep.bld_inv {prog:Program}{w:World}{τ:TM}{v:Value}(h:Rep prog w τ v (.hnd 1)): ∃a i,v=.ref a∧τ a=.bld i:=by cases h with | bld e=>exact ⟨_,_,rfl,e⟩
theorem Rep.nam_inv {prog:Program}{w:World}{τ:TM}{v:Value}(h:Rep prog w τ v (.hnd 2)): ∃b i,v=.ref i.nm∧τ b=.bld i:=by cases h with | nam e q=>exact ⟨_,_,by rw [q],e⟩
theorem eh (HB:Base w s0 mg mb)(R:Rel prog w s0 env l nt wr τ av st s){k:Nat}{x:Str}(hx:nt[k]? =some x)(hv:Vis env x)(h:a8 st k=some (.hnd 1)):BldV w s env τ av k x:=by
 refine x13 (fo R hx hv h) fun v f1 f2 f3=>?_
 obtain ⟨a,i,rfl,hbl⟩:=f3.bld_inv
 refine x12 HB.cls fun K hK X=>?_
 obtain ⟨hat,⟨t1,t2,t3,t4,n,hbd⟩,_,_⟩:=R.g.bldO _ _ hbl
 exact ⟨a,i,K,t1,t2,t3,t4,n,f1,f2,hbl,hK.keeps R.old,X,hat,R.hB _ _ hbd⟩
inductive NamV (prog:Program)(w:World)(s:Shared)(env:Env)(τ:TM)(x:Str)(b:Bld):Prop where
 | mk (a:Addr) (i:BInfo) (K:Frag) (t1 t2 t3 t4:Tok) (n:Nat) (f2:Has env s.heap x (.ref i.nm)) (hbl:τ a=.bld i) (hK:K.In s.heap) (X:ClsOk K) (hnm:s.heap.get? i.nm=some (instObj 77 i.nmd)) (L:BldLive prog w τ s.heap i b)
  (hnd:s.heap.get? i.nmd=some (dictOf [⟨PyData.keyHash w.params "number",.str "number" t1,.int b.number t3⟩,⟨PyData.keyHash w.params "count",.str "count" t2,.int b.count t4⟩] n))
theorem nam_var (HB:Base w s0 mg mb)(R:Rel prog w s0 env l nt wr τ av st s){k:Nat}{x:Str}{b:Bld}(hx:nt[k]? =some x)(hv:Vis env x)(h:a8 st k=some (.hnd 2))(hb:st.g.bld=some b):NamV prog w s env τ x b:=by
 refine x13 (fo R hx hv h) fun v f1 f2 f3=>?_
 obtain ⟨a,i,rfl,hbl⟩:=f3.nam_inv
 refine x12 HB.cls fun K hK X=>?_
 obtain ⟨_,_,hnm,_⟩:=R.g.bldO _ _ hbl
 have L:=d7 R hb hbl
 refine x51 L.nmd fun t1 t2 t3 t4 n hnd=>?_
 exact ⟨a,i,K,t1,t2,t3,t4,n,f2,hbl,hK.keeps R.old,X,R.hB _ _ hnm,L,hnd⟩
theorem se_number (HB:Base w s0 mg mb){x:Str}{k:Nat}{p pos:Pos}(hx:nt[k]? =some x)(hv:bN (ns.lookup x)=true)(h1:(x==("__debug__":Str))=false)(h2:(x==("__classdict__":Str))=false):SE prog w s0 ft m nt ns (.Attribute (.Name x p) "number" pos) (.number k):=by
 refine ⟨?_⟩
 intro env l wr A av τ st s Q Er hE hC R h
 refine x12 h.ofOpt fun _ hk h=>?_
 refine x12 h.ofOpt fun b hb h=>?_
 obtain ⟨a,i,K,t1,t2,t3,t4,n,f2,hbl,hK,X,hnm,L,hnd⟩:=nam_var HB R hx (hE.vis hv) (bP hk) hb
 exact dB R f2 h1 h2 (dc hK hnm hnd X.ga2 X.hd2 X.number rfl rfl (h _ τ _ (TM.le.refl _) (.int _ t3) (R.toks _)))
theorem se_count (HB:Base w s0 mg mb){x:Str}{k:Nat}{p pos:Pos}(hx:nt[k]? =some x)(hv:bN (ns.lookup x)=true)(h1:(x==("__debug__":Str))=false)(h2:(x==("__classdict__":Str))=false):SE prog w s0 ft m nt ns (.Attribute (.Name x p) "count" pos) (.count k):=by
 refine ⟨?_⟩
 intro env l wr A av τ st s Q Er hE hC R h
 refine x12 h.ofOpt fun _ hk h=>?_
 refine x12 h.ofOpt fun b hb h=>?_
 obtain ⟨a,i,K,t1,t2,t3,t4,n,f2,hbl,hK,X,hnm,L,hnd⟩:=nam_var HB R hx (hE.vis hv) (bP hk) hb
 exact dB R f2 h1 h2 (dc hK hnm hnd X.ga2 X.hd2 X.count rfl rfl (h _ τ _ (TM.le.refl _) (.int _ t4) (R.toks _)))
theorem se_table (HB:Base w s0 mg mb){x:Str}{k:Nat}{p pos:Pos}(hx:nt[k]? =some x)(hv:bN (ns.lookup x)=true)(h1:(x==("__debug__":Str))=false)(h2:(x==("__classdict__":Str))=false):SE prog w s0 ft m nt ns (.Attribute (.Name x p) "table" pos) (.table k):=by
 refine ⟨?_⟩
 intro env l wr A av τ st s Q Er hE hC R h
 refine x12 h.ofOpt fun _ hk h=>?_
 obtain ⟨a,i,K,t1,t2,t3,t4,n,f1,f2,hbl,hK,X,hat,hbd⟩:=eh HB R hx (hE.vis hv) (bP hk)
 obtain ⟨_,_,_,⟨n',htb⟩,htbs⟩:=R.g.bldO _ _ hbl
 exact dB R f2 h1 h2 (dc hK hat hbd X.ga1 X.hd1 X.table rfl rfl (h _ τ _ (TM.le.refl _) (.dct (kvs:=[]) (ds:=[]) htb ⟨⟨rfl,rfl,rfl⟩, #[],n',rfl,(fun e he=>by simp at he),.nil,List.nodup_nil⟩ htbs rfl rfl .nil) (R.toks _)))
end
set_option backward.match.sparseCases false in
noncomputable def gA:Fn→Addr×Str
 | .nfresh=>(77,so "fresh")
 | .lay=>(157,so "lay")
 | .mark=>(157,so "mark")
 | _=>(0,so "")
noncomputable def Mth (prog:Program)(w:World)(s0:Shared)(ft:FT)(m:Nat)(f:Fn):Prop:=
 ∃fa K,K.In s0.heap∧plainGet K (gA f).1 ""=true∧findIn K (.ref (gA f).1) (gA f).2=some (some (.ref fa))∧typeIn K (.ref fa)=some (.type "function")∧(∃o fd,s0.heap.get? fa=some o∧o.data=.func fd)∧FnOk prog w s0 m fa (ft f)
section
variable {prog:Program}{w:World}{s0:Shared}{ft:FT}{m:Nat}{nt:List Str}{ns:List (Str×NameKind)}{mg mb:Str→Option Value}
variable {env:Env}{l:List Env}{wr:Str→Bool}{av:Nat→Option Value}{τ τ':TM}{st:St}{s:Shared}
theorem Rel.modG (R:Rel prog w s0 env l nt wr τ av st s){h':Heap}{g':G}{mm:Str→Option Value}{tk:Nat}(hm:s.heap.Ns env.locals mm)(hm':h'.Ns env.locals mm)(k: ∀b o,ct (τ b)=false→b≠env.locals→τ b≠ .no→s.heap.get? b=some o→h'.get? b=some o)
  (hex: ∀b,ct (τ b)=true→ ∃o,h'.get? b=some o) (hg:GRel prog w τ h' g'):Rel prog w s0 env l nt wr τ av {st with g:=g'} {s with heap:=h',toks:=tk}:=by
 have nl: ∀{b:Addr} {t:Tag},τ b=t→t≠ .loc→b≠env.locals:=fun e n q=>n (by rw [←e,q,R.loc])
 have kk: ∀{b:Addr} {t:Tag} {o:Obj},τ b=t→ct t=false→t≠ .loc→t≠ .no→s.heap.get? b=some o→h'.get? b=some o:=fun e g n n2 q=>k _ _ (by rw [e];exact g) (nl e n) (by rw [e];exact n2) q
 refine {rest:=⟨R.rest.1,R.rest.2,R.rest.3⟩,base:=R.base,ex:=fun a h=>?_,obj:=fun a o h=>?_,itO:=fun a o h=>kk h rfl (by simp) (by simp) (R.itO a o h),kind:=R.kind,glb:=R.glb,ns:=⟨_,hm'⟩,loc:=R.loc,wrk:=fun x hx=>?_,celT:=R.celT,vars:=fun i x sl h1 h2 h3=>?_,g:=hg,frs:=R.frs,len:=R.len,ntd:=R.ntd}
 ·by_cases q:ct (τ a)=true
  ·exact hex a q
  ·by_cases ql:a=env.locals
   ·subst ql;obtain ⟨o,_,_,ho,_⟩:=hm';exact ⟨o,ho⟩
   ·refine x11 (R.ex a h) fun o e=>?_;exact ⟨o,k _ _ (by simpa using q) ql h e⟩
 ·have e:=R.obj a o h
  rcases h with h | h
  ·exact kk h rfl (by simp) (by simp) e
  ·exact kk h rfl (by simp) (by simp) e
 ·exact (R.wrk x hx).imp id fun ⟨y,c,v,e,⟨o,h1,h2⟩,g⟩=>⟨y,c,v,e,⟨o,kk g rfl (by simp) (by simp) h1,h2⟩,g⟩
 ·refine x13 (R.vars i x sl h1 h2 h3) fun v e1 e2 e3=>?_
  refine ⟨v,e1,?_,e3.heap fun b o t q=>?_⟩
  ·rcases e2 with ⟨hl,m,hm2,hv⟩ | ⟨hl,c,hc,o,h1,h2⟩
   ·rw [Ns.fun hm2 hm] at hv;exact .inl ⟨hl,mm,hm',hv⟩
   ·refine .inr ⟨hl,c,hc,o,?_,h2⟩
    rcases R.celT x c hl hc with q | ⟨o,q⟩
    ·exact kk q rfl (by simp) (by simp) h1
    ·exact kk q rfl (by simp) (by simp) h1
  ·rcases t with t | t
   ·exact kk t rfl (by simp) (by simp) q
   ·exact kk t rfl (by simp) (by simp) q
theorem Rel.modB (R:Rel prog w s0 env l nt wr τ av st s){h':Heap}{b b':Bld}{c:Addr}{i:BInfo}{a:Addr}{tk:Nat}(hb:st.g.bld=some b)(hbl:τ a=.bld i)(L:BldLive prog w τ s.heap i b)(hc:c=i.nmd∨c=i.stl∨c=i.inl)(hs:Heap.SameBut c s.heap h')(L':BldLive prog w τ h' i b'):
  Rel prog w s0 env l nt wr τ av {st with g:={st.g with bld:=some b'}} {s with heap:=h',toks:=tk}:=by
 refine x11 R.ns fun mm hm=>?_
 have tc:τ c=.nmd∨τ c=.stl∨τ c=.inl:=by
  rcases hc with rfl | rfl | rfl
  ·exact .inl L.nmdT
  ·exact .inr (.inl L.stlT)
  ·exact .inr (.inr L.inlT)
 have gc:ct (τ c)=true:=by rcases tc with h | h | h <;> rw [h] <;> rfl
 have nl:env.locals≠c:=fun q=>by rw [←q,R.loc] at gc;cases gc
 have ex': ∃o,h'.get? c=some o:=by
  rcases hc with rfl | rfl | rfl
  ·refine x51 L'.nmd fun _ _ _ _ _ h=>?_;exact ⟨_,h⟩
  ·refine x22 L'.stl fun o _ h _=>?_;exact ⟨_,h⟩
  ·refine x22 L'.inl fun o _ h _=>?_;exact ⟨_,h⟩
 refine R.modG hm (hm.sameBut hs nl) (fun b o hg _ _ ho=>(hs.2 _ fun q=>by rw [q,gc] at hg;cases hg).trans ho) (fun b hg=>?_) ?_
 ·by_cases q:b=c
  ·subst q;exact ex'
  ·obtain ⟨o,e⟩:=R.ex b (fun e=>by rw [e] at hg;cases hg);exact ⟨o,(hs.2 _ q).trans e⟩
 ·refine ⟨?_,R.g.potU,R.g.used,R.g.bldU,fun a' i' e=>?_,fun b2 e=>?_⟩
  ·refine x43 R.g.pot fun p o cc t e ho r=>?_
   exact ⟨p,o,cc,t,e,(hs.2 _ fun q=>by rw [q] at e;rcases tc with h | h | h <;> rw [h] at e <;> cases e).trans ho,r⟩
  ·obtain ⟨x,y,u,v,z⟩:=R.g.bldO a' i' e
   exact ⟨(hs.2 _ fun q=>by rw [q] at e;rcases tc with h | h | h <;> rw [h] at e <;> cases e).trans x,y,u,v,z⟩
  ·cases e;exact ⟨a,i,hbl,L'⟩
theorem attr_list {A:Around}{E:Value→Shared→Prop}{x name cb:Str}{id:String}{e:PySem.Expr}{p p2 apos pos:Pos}{Q:Value→Shared→Prop}{v:Value}(R:Rel prog w s0 env l nt wr τ av st s)(hh:Has env s.heap x v)(h1:(x==("__debug__":Str))=false)(h2:(x==("__classdict__":Str))=false)
  (slot:PySem.Slot "list" cb id) (ty:typeOf (.builtin id)=pure (.type "method_descriptor")) (hst:starEach [e] env=[(false,eval e env)]) (hline:(apos.endLine==pos.line)=true)
  (h:wpAny (model prog w) A (getAttr v name true) (fun ov s₁=> ∃a its n,ov=.ref a∧IsL s₁.heap a its n∧wpAny (model prog w) A (callWith pos (.builtin id) [.ref a] [(false,eval e env)] []) Q E s₁) E s):
  wpAny (model prog w) A (eval (.Call (.Attribute (.Attribute (.Name x p) name p2) cb apos) [e] [] pos) env) Q E s:=by
 refine wpAny_Call_method1_late rfl hline (by rw [hst];rfl) (dB R hh h1 h2 (wpAny_mono h (fun ov s₁ h₁=>?_) fun _ _ x=>x))
 obtain ⟨a,its,n,rfl,hl,hc⟩:=h₁
 exact ⟨"list",id,F.plainAttrs_list,slot,ty,⟨_,hl,rfl⟩,(fun b e=>by cases e;exact ⟨_,hl,rfl⟩),hc⟩
theorem BldLive.nmdKeep {τ:TM}{h h':Heap}{i:BInfo}{b:Bld}{c:Addr}(L:BldLive prog w τ h i b)(hs:Heap.SameBut c h h')(n:i.nmd≠c): ∃t1 t2 t3 t4 n,h'.get? i.nmd=some (dictOf [⟨PyData.keyHash w.params "number",.str "number" t1,.int b.number t3⟩,⟨PyData.keyHash w.params "count",.str "count" t2,.int b.count t4⟩] n):=by
 refine x51 L.nmd fun u1 u2 u3 u4 nn hh=>?_
 exact ⟨u1,u2,u3,u4,nn,(hs.2 _ n).trans hh⟩
theorem BldLive.stlKeep {τ:TM}{h h':Heap}{i:BInfo}{b:Bld}{c:Addr}(L:BldLive prog w τ h i b)(hs:Heap.SameBut c h h')(n:i.stl≠c): ∃o vs,h'.get? i.stl=some o∧SeqObj "list" o vs∧RepL prog w τ vs b.steps:=by
 refine x22 L.stl fun o us hh r=>?_
 exact ⟨o,us,(hs.2 _ n).trans hh,r⟩
theorem BldLive.inlKeep {τ:TM}{h h':Heap}{i:BInfo}{b:Bld}{c:Addr}(L:BldLive prog w τ h i b)(hs:Heap.SameBut c h h')(n:i.inl≠c): ∃o vs,h'.get? i.inl=some o∧SeqObj "list" o vs∧RepL prog w τ vs b.inner:=by
 refine x22 L.inl fun o us hh r=>?_
 exact ⟨o,us,(hs.2 _ n).trans hh,r⟩
theorem jM {τ:TM}{a c:Addr}{t t':Tag}(e:τ a=t)(e':τ c=t')(n:t≠t'):a≠c:=fun q=>n (by rw [←e,←e',q])
theorem push_got {h:Heap}{a:Addr}{vs:List Value}{n:Nat}{v:Value}(ho:h.get? a=some {cls:=.type "list",dict:=none,data:=.seq vs.toArray n,slots:= #[]}): ∃n',(h.update a (Obj.mapSeq fun xs=>xs.push v)).get? a=some {cls:=.type "list",dict:=none,data:=.seq (vs++[v]).toArray n',slots:= #[]}:=by
 obtain ⟨n',en⟩:=iC (its:=vs.toArray) (its2:=(vs++[v]).toArray) (n:=n) (f:=fun xs=>xs.push v) (by simp)
 exact ⟨n',by rw [Heap.get?_update_self _ ho (by rw [en];rfl),en]⟩
theorem ss_stepsApp (HB:Base w s0 mg mb){x:Str}{e:PySem.Expr}{p p2 apos cpos pos:Pos}{k:Nat}{X:E}(hX:SE prog w s0 ft m nt ns e X)(hx:nt[k]? =some x)(hv:bN (ns.lookup x)=true)(h1:(x==("__debug__":Str))=false)(h2:(x==("__classdict__":Str))=false)
  (hst: ∀env,starEach [e] env=[(false,eval e env)]) (hline:(apos.endLine==cpos.line)=true):
  SS prog w s0 ft m nt ns (.Expr (.Call (.Attribute (.Attribute (.Name x p) "steps" p2) "append" apos) [e] [] cpos) pos) (.stepsApp k X):=by
 refine ⟨?_⟩
 intro env l A av τ st s Q Er hE hC R h
 refine x12 h.ofOpt fun _ hk h=>?_
 refine x12 h.ofOpt fun b0 hb0 h=>?_
 obtain ⟨a,i,K,t1,t2,t3,t4,n,f1,f2,hbl,hK,X',hat,hbd⟩:=eh HB R hx (hE.vis hv) (bP hk)
 obtain ⟨o0,vs0,ho0,⟨n0,rfl⟩,_⟩:=(d7 R hb0 hbl).stl
 refine wpAny_Expr (attr_list R f2 h1 h2 F.slot_list_append F.type_list_append (hst env) hline (dc hK hat hbd X'.ga1 X'.hd1 X'.steps rfl rfl ⟨i.stl,_,n0,rfl,ho0,?_⟩)) (b7 R.kind) rfl
 refine P.append_list (hX.run hE hC (R.toks _) (h.bind.mono (fun q hq v τ1 s1 le1 rv R1=>?_) fun _ f=>f))
 refine x12 (RP.ofOpt hq) fun b1 hb1 hq=>?_
 refine x02 (RP.guard hq) fun hz hq=>?_
 have hbl1:=le1.bld _ _ hbl
 have L1:=d7 R1 hb1 hbl1
 obtain ⟨o1,vs,ho1,⟨n1,rfl⟩,rvs⟩:=L1.stl
 have hl:=rvs.length
 refine ⟨vs.toArray,n1,by simp only [List.size_toArray,sizeLine];exact nl [_,_] [(N0,N1),(N1,.n 1000)] N0 (.n 16777216) rfl (Nat.le_of_eq hl) hz,ho1,?_⟩
 refine x11 (push_got (v:=v) ho1) fun n' hget=>?_
 have hsb:Heap.SameBut i.stl s1.heap (s1.heap.update i.stl (Obj.mapSeq fun xs=>xs.push v)):=Heap.SameBut.update ..
 exact hq av τ1 _ le1 (R1.modB (tk:=s1.toks) (c:=i.stl) hb1 hbl1 L1 (.inr (.inl rfl)) hsb (b':={b1 with steps:=b1.steps++[q.1]})
  {nmdT:=L1.nmdT,stlT:=L1.stlT,inlT:=L1.inlT,nmd:=L1.nmdKeep hsb (jM L1.nmdT L1.stlT (by simp)),stl:=⟨_,vs++[v],hget,⟨n',rfl⟩,rvs.snoc rv⟩,
    inl:=L1.inlKeep hsb (jM L1.inlT L1.stlT (by simp))})
theorem jj (HB:Base w s0 mg mb){x:Str}{e:PySem.Expr}{p p2 apos cpos pos:Pos}{k:Nat}{X:E}(hX:SE prog w s0 ft m nt ns e X)(hx:nt[k]? =some x)(hv:bN (ns.lookup x)=true)(h1:(x==("__debug__":Str))=false)(h2:(x==("__classdict__":Str))=false)
  (hst: ∀env,starEach [e] env=[(false,eval e env)]) (hline:(apos.endLine==cpos.line)=true):
  SS prog w s0 ft m nt ns (.Expr (.Call (.Attribute (.Attribute (.Name x p) "inner" p2) "append" apos) [e] [] cpos) pos) (.innerApp k X):=by
 refine ⟨?_⟩
 intro env l A av τ st s Q Er hE hC R h
 refine x12 h.ofOpt fun _ hk h=>?_
 refine x12 h.ofOpt fun b0 hb0 h=>?_
 obtain ⟨a,i,K,t1,t2,t3,t4,n,f1,f2,hbl,hK,X',hat,hbd⟩:=eh HB R hx (hE.vis hv) (bP hk)
 obtain ⟨o0,vs0,ho0,⟨n0,rfl⟩,_⟩:=(d7 R hb0 hbl).inl
 refine wpAny_Expr (attr_list R f2 h1 h2 F.slot_list_append F.type_list_append (hst env) hline (dc hK hat hbd X'.ga1 X'.hd1 X'.inner rfl rfl ⟨i.inl,_,n0,rfl,ho0,?_⟩)) (b7 R.kind) rfl
 refine P.append_list (hX.run hE hC (R.toks _) (h.bind.mono (fun q hq v τ1 s1 le1 rv R1=>?_) fun _ f=>f))
 refine x12 (RP.ofOpt hq) fun b1 hb1 hq=>?_
 refine x02 (RP.guard hq) fun hz hq=>?_
 have hbl1:=le1.bld _ _ hbl
 have L1:=d7 R1 hb1 hbl1
 obtain ⟨o1,vs,ho1,⟨n1,rfl⟩,rvs⟩:=L1.inl
 have hl:=rvs.length
 refine ⟨vs.toArray,n1,by simp only [List.size_toArray,sizeLine];exact nl [_,_] [(N0,N1),(N1,.n 1000)] N0 (.n 16777216) rfl (Nat.le_of_eq hl) hz,ho1,?_⟩
 refine x11 (push_got (v:=v) ho1) fun n' hget=>?_
 have hsb:Heap.SameBut i.inl s1.heap (s1.heap.update i.inl (Obj.mapSeq fun xs=>xs.push v)):=Heap.SameBut.update ..
 exact hq av τ1 _ le1 (R1.modB (tk:=s1.toks) (c:=i.inl) hb1 hbl1 L1 (.inr (.inr rfl)) hsb (b':={b1 with inner:=b1.inner++[q.1]})
  {nmdT:=L1.nmdT,stlT:=L1.stlT,inlT:=L1.inlT,nmd:=L1.nmdKeep hsb (jM L1.nmdT L1.inlT (by simp)),inl:=⟨_,vs++[v],hget,⟨n',rfl⟩,rvs.snoc rv⟩,
    stl:=L1.stlKeep hsb (jM L1.stlT L1.inlT (by simp))})
end
section
variable {prog:Program}{w:World}{s0:Shared}{ft:FT}{m:Nat}{nt:List Str}{ns:List (Str×NameKind)}{mg mb:Str→Option Value}
variable {env:Env}{l:List Env}{wr:Str→Bool}{av:Nat→Option Value}{τ τ':TM}{st:St}{s:Shared}
theorem Rel.freezeStl (HB:Base w s0 mg mb)(R:Rel prog w s0 env l nt wr τ av st s){b:Bld}{i:BInfo}{a:Addr}(hb:st.g.bld=some b)(hbl:τ a=.bld i):
  ∃τ',TM.le τ τ'∧Rep prog w τ' (.ref i.stl) (.lst b.steps)∧Rel prog w s0 env l nt wr τ' av {st with g:={st.g with bld:=none}} s:=by
 have L:=d7 R hb hbl
 refine x23 L.stl fun o vs ho hs rv=>?_
 have t:=L.stlT
 have ne: ∀{b:Addr} {t':Tag},τ b=t'→t'≠ .stl→b≠i.stl:=fun e n q=>n (by rw [←e,q,t])
 have keep: ∀{b:Addr} {t':Tag},τ b=t'→t'≠ .stl→aL τ i.stl (.frz o) b=t':=fun e n=>(az _ _ (ne e n)).trans e
 have le:TM.le τ (aL τ i.stl (.frz o)):=⟨fun b o e=>keep e (by simp),fun b o e=>keep e (by simp),fun b o e=>keep e (by simp),fun b e=>keep e (by simp),fun b i e=>keep e (by simp)⟩
 have back: ∀{b:Addr} {t':Tag},aL τ i.stl (.frz o) b=t'→(∀o',t'≠ .frz o')→τ b=t':=fun {b t'} e n=>by
  by_cases q:b=i.stl
  ·subst q;rw [ax] at e;exact absurd e.symm (n o)
  ·rwa [az _ _ q] at e
 refine ⟨_,le,.lst (ax ..) hs (rv.mono le),?_⟩
 refine {rest:=R.rest,base:=fun b o e=>le.frz _ _ (R.base b o e),ex:=fun b h=>?_,obj:=fun b o' h=>?_,itO:=fun b o' h=>R.itO b o' (back h (by simp)),kind:=R.kind,glb:=R.glb,ns:=R.ns,loc:=keep R.loc (by simp),wrk:=fun x hx=>?_,celT:=fun x c h h'=>?_,vars:=fun j y sl h1 h2 h3=>?_,g:=?_,frs:=fun e he=>?_,len:=R.len,ntd:=R.ntd}
 ·by_cases q:b=i.stl
  ·subst q;exact ⟨o,ho⟩
  ·rw [az _ _ q] at h;exact R.ex b h
 ·by_cases q:b=i.stl
  ·subst q
   rw [ax] at h
   rcases h with h | h
   ·cases h;exact ho
   ·cases h
  ·rw [az _ _ q] at h;exact R.obj b o' h
 ·exact (R.wrk x hx).imp id fun ⟨y,c,v,e,f,g⟩=>⟨y,c,v,e,f,keep g (by simp)⟩
 ·exact (R.celT x c h h').imp (fun e=>keep e (by simp)) fun ⟨o,e⟩=>⟨o,keep e (by simp)⟩
 ·refine x13 (R.vars j y sl h1 h2 h3) fun v e1 e2 e3=>?_
  exact ⟨v,e1,e2,e3.tag le fun a' e=>keep e (by simp)⟩
 ·refine ⟨?_,fun a a' e e'=>R.g.potU a a' (back e (by simp)) (back e' (by simp)),fun hu a i e=>R.g.used hu a i (back e (by simp)),fun a i a' i' e e'=>R.g.bldU a i a' i' (back e (by simp)) (back e' (by simp)),
   fun a i e=>(R.g.bldO a i (back e (by simp))).tag le.sub,fun b e=>by cases e⟩
  refine x44 R.g.pot fun p o' c t' e ho' r1 r2=>?_
  exact ⟨p,o',c,t',keep e (by simp),ho',r1,r2.mono le⟩
 ·obtain ⟨a1,L,a2,a3⟩:=R.frs e he
  exact ⟨a1,L,a2,a3.imp id fun ⟨o,q1,q2⟩=>⟨o,keep q1 (by simp),q2⟩⟩
theorem se_steps (HB:Base w s0 mg mb){x:Str}{k:Nat}{p pos:Pos}(hx:nt[k]? =some x)(hv:bN (ns.lookup x)=true)(h1:(x==("__debug__":Str))=false)(h2:(x==("__classdict__":Str))=false):SE prog w s0 ft m nt ns (.Attribute (.Name x p) "steps" pos) (.steps k):=by
 refine ⟨?_⟩
 intro env l wr A av τ st s Q Er hE hC R h
 refine x12 h.ofOpt fun _ hk h=>?_
 refine x12 h.ofOpt fun b hb h=>?_
 obtain ⟨a,i,K,t1,t2,t3,t4,n,f1,f2,hbl,hK,X',hat,hbd⟩:=eh HB R hx (hE.vis hv) (bP hk)
 refine x13 ((R.toks (s.toks + 1)).freezeStl HB hb hbl) fun τ' le rp R'=>?_
 exact dB R f2 h1 h2 (dc hK hat hbd X'.ga1 X'.hd1 X'.steps rfl rfl (h _ τ' _ le rp R'))
theorem se_innerPlus (HB:Base w s0 mg mb){x:Str}{es:List PySem.Expr}{k:Nat}{p p2 lp pos:Pos}{Xs:List E}(hx:nt[k]? =some x)(hv:bN (ns.lookup x)=true)(h1:(x==("__debug__":Str))=false)(h2:(x==("__classdict__":Str))=false)(hX:SL prog w s0 ft m nt ns es Xs):
  SE prog w s0 ft m nt ns (.BinOp (.Attribute (.Name x p) "inner" p2) .Add (.List es lp) pos) (.innerPlus k Xs):=by
 refine ⟨?_⟩
 intro env l wr A av τ st s Q Er hE hC R h
 refine x12 h.ofOpt fun _ hk h=>?_
 obtain ⟨a,i,K,t1,t2,t3,t4,n,f1,f2,hbl,hK,X',hat,hbd⟩:=eh HB R hx (hE.vis hv) (bP hk)
 refine wpAny_BinOp (dB R f2 h1 h2 (dc hK hat hbd X'.ga1 X'.hd1 X'.inner rfl rfl ?_))
 refine PyProof.Rows.List_ (hX.run hE hC (R.toks _) (h.bind.mono (fun q hq vs τ1 s1 le1 rv R1=>?_) fun _ f=>f))
 refine x12 (RP.ofOpt hq) fun b hb hq=>?_
 refine x02 (RP.guard hq) fun hz hq=>?_
 obtain ⟨o1,us,ho1,⟨n1,rfl⟩,rus⟩:=(d7 R1 hb (le1.bld _ _ hbl)).inl
 have hl:=rus.length
 have hl2:=rv.length
 refine wpAny_newObj_type ?_ (by show vs.toArray.size≤sizeLine;simp only [List.size_toArray,sizeLine];exact nl [_,_,_] [(N0,N1),(.a N2 N1,.n 1000)] N0 (.n 16777216) rfl (Nat.le_of_eq hl2) hz)
 refine x02 (R1.alloc (o:={cls:=.type "list",data:=.seq vs.toArray}) rfl (t:=.frz _) (.inl rfl)) fun R2 le2=>?_
 have ho2:(s1.heap.push {cls:=.type "list",data:=.seq vs.toArray}).get? s1.heap.objs.size=some {cls:=.type "list",data:=.seq vs.toArray}:=Heap.get?_push_size _ rfl
 have ho1':=Heap.get?_push_of_some {cls:=.type "list",data:=.seq vs.toArray} ho1
 refine concat_meets ⟨_,ho1',rfl⟩ ⟨_,ho2,rfl⟩ noFill_list_add seq_list_add PySem.F.slot_list_add PySem.F.entry_list_add (PySem.F.args_list_add_2 _ _) (list_addW i.inl s1.heap.objs.size us.toArray vs.toArray n1 0 none none #[] #[] (by simp only [List.size_toArray];rw [sizeLine_eq];exact nl [_,_,_,_] [(N0,N1),(N2,N3),(.a N3 N1,.n 1000)] (.a N2 N0) (.n 16777216) rfl (Nat.le_of_eq hl2) (Nat.le_of_eq hl) hz)) ⟨ho1',ho2,?_⟩
 rw [List.append_toArray]
 refine x02 (R2.alloc (o:={cls:=.type "list",data:=.seq (us++vs).toArray}) rfl (t:=.frz _) (.inl rfl)) fun R3 le3=>?_
 exact hq _ _ _ ((le1.trans le2).trans le3) (.lst (ax ..) ⟨_,rfl⟩ (((rus.mono le2).append (rv.mono le2)).mono le3)) R3
theorem iR {A:Around}{E:Value→Shared→Prop}{o:PySem.Expr}{name:Str}{apos pos:Pos}{args:List PySem.Expr}{Q:Value→Shared→Prop}{f:Addr}{x:Addr}{K:Frag}{C:Addr}{dx:Addr}{es:List DictEntry}{n:Nat}
  (hbase:attributeBase o name env (eval o env)=eval o env)
  (hfew:((backTo pos (starEach args env)).all (fun x=> !x.1)&&(backToKw pos (keywordEach [] env)).all (fun x=>x.1.isSome)&&decide (args.length + ([]:List Keyword).length + (if ([]:List Keyword).isEmpty then 0 else 1) < 30))=true) (hline:(apos.endLine==pos.line)=true)
  (h:wpAny (model prog w) A (eval o env) (fun ov s₁=>ov=.ref x∧K.In s₁.heap∧s₁.heap.get? x=some (instObj C dx)∧s₁.heap.get? dx=some (dictOf es n)∧plainGet K C ""=true∧findIn K (.ref C) name=some (some (.ref f))∧typeIn K (.ref f)=some (.type "function")∧getL name es=some none∧
   wpAny (model prog w) A (callWith pos (.ref f) [.ref x] (backTo pos (starEach args env)) []) Q E s₁) E s):
  wpAny (model prog w) A (eval (.Call (.Attribute o name apos) args [] pos) env) Q E s:=by
 rw [arm_eval_Call,hbase]
 refine wpAny_bind (wpAny_mono h (fun ov s₁ h₁=>?_) fun _ _ e=>e)
 obtain ⟨rfl,X,i1,i2,hg,hf,ht,hl,hc⟩:=h₁
 refine wpAny_bind (wpAny_standAt ?_)
 have hform:methodCallForm (args.length + ([]:List Keyword).length) (backTo pos (starEach args env)) (backToKw pos (keywordEach [] env))=true:=hfew
 have hpos:methodCallPos true o env apos pos=pure pos:=by unfold methodCallPos;simp [hline]
 unfold methodCall
 rw [hform]
 refine wpAny_bind (wpAny_holding (method_fn (od:=some (dictOf es n)) X ⟨i1,rfl,rfl,i2⟩ (plainGet_of hg).1 (plainGet_of hg).2 hf ht ?_ ?_))
 ·show (lookIn name (dictOf es n)).map _=_
  rw [lookIn_dict,hl];rfl
 ·exact wpAny_bind (wpAny_of_eq hpos hc)
end
theorem evs_two {β:Type}(ft:FT)(a c:E)(st:St)(K:List D→St→Res β):((evs ft [a,c] st).bind fun p=>K p.1 p.2)=(ev ft a st).bind fun p=>(ev ft c p.2).bind fun q=>K [p.1,q.1] q.2:=by
 show ((ev ft a st).bind _).bind _=_
 cases ev ft a st with
 | ok p=>show ((Res.bind (ev ft c p.2) _).bind _).bind _=Res.bind (ev ft c p.2) _;cases ev ft c p.2 <;> rfl
 | _=>rfl
theorem rp_two {β:Type}{ft:FT}{a c:E}{st:St}(K:List D→St→Res β){P:β→Prop}{F:Int→Prop}(h:RP ((ev ft a st).bind fun p=>(ev ft c p.2).bind fun q=>K [p.1,q.1] q.2) P F):RP ((evs ft [a,c] st).bind fun p=>K p.1 p.2) P F:=by
 rw [evs_two ft a c st K];exact h
section
variable {prog:Program}{w:World}{s0:Shared}{ft:FT}{m:Nat}{nt:List Str}{ns:List (Str×NameKind)}{mg mb:Str→Option Value}
theorem se_mark (HB:Base w s0 mg mb)(F:Mth prog w s0 ft m .mark){x:Str}{k:Nat}{p apos pos:Pos}{e1 e2:PySem.Expr}{X Y:E}(hx:nt[k]? =some x)(hv:bN (ns.lookup x)=true)(h1:(x==("__debug__":Str))=false)(h2:(x==("__classdict__":Str))=false)
  (hl:SL prog w s0 ft m nt ns [e1,e2] [X,Y]) (hst: ∀env,starEach (e1::[e2]) env=(false,eval e1 env)::starEach [e2] env)
  (hfew: ∀env,((backTo pos (starEach [e1,e2] env)).all (fun x=> !x.1)&&(backToKw pos (keywordEach [] env)).all (fun x=>x.1.isSome)&&decide ([e1,e2].length + ([]:List Keyword).length + (if ([]:List Keyword).isEmpty then 0 else 1) < 30))=true) (hline:(apos.endLine==pos.line)=true):
  SE prog w s0 ft m nt ns (.Call (.Attribute (.Name x p) "mark" apos) [e1,e2] [] pos) (.mark k X Y):=by
 refine ⟨?_⟩
 intro env l wr A av τ st s Q Er hE hC R h
 refine x12 h.ofOpt fun _ hk h=>?_
 have h:=rp_two (fun ds st'=>(ft .mark (.hnd 1::ds) st'.g).bind fun r=>Res.ok (r.1,{st' with g:=r.2})) h
 obtain ⟨fa,K,hK,hpg,hf,ht,⟨o,fd,ho,hdat⟩,HF⟩:=F
 obtain ⟨a,i,K',t1,t2,t3,t4,n,f1,f2,hbl,hK',X',hat,hbd⟩:=eh HB R hx (hE.vis hv) (bP hk)
 refine iR (name:="mark") (K:=K) (C:=157) (x:=a) rfl (hfew env) hline (aM R.kind f2 ⟨rfl,hK.keeps R.old,hat,hbd,hpg,hf,ht,rfl,?_⟩ h1 h2)
 refine callWith_meth (h₀:=s0.heap) hdat ho (hl.run hE hC R (h.bind.mono (fun q hq vs τ1 s1 le1 rv R1=>?_) fun _ f=>f)) (hst env)
 refine ⟨R1.old,gJ (vs:=.ref a::vs) HF hC R1 (.cons (.bld (le1.bld _ _ hbl)) rv) (RP.mono hq (fun _ z=>OkP.le le1 z) fun _=>FlP.le le1)⟩
theorem ss_lay (HB:Base w s0 mg mb)(F:Mth prog w s0 ft m .lay){x:Str}{k:Nat}{p apos cpos pos:Pos}{e1 e2:PySem.Expr}{X Y:E}(hx:nt[k]? =some x)(hv:bN (ns.lookup x)=true)(h1:(x==("__debug__":Str))=false)(h2:(x==("__classdict__":Str))=false)
  (hl:SL prog w s0 ft m nt ns [e1,e2] [X,Y]) (hst: ∀env,starEach (e1::[e2]) env=(false,eval e1 env)::starEach [e2] env)
  (hfew: ∀env,((backTo cpos (starEach [e1,e2] env)).all (fun x=> !x.1)&&(backToKw cpos (keywordEach [] env)).all (fun x=>x.1.isSome)&&decide ([e1,e2].length + ([]:List Keyword).length + (if ([]:List Keyword).isEmpty then 0 else 1) < 30))=true) (hline:(apos.endLine==cpos.line)=true):
  SS prog w s0 ft m nt ns (.Expr (.Call (.Attribute (.Name x p) "lay" apos) [e1,e2] [] cpos) pos) (.lay k X Y):=by
 refine ⟨?_⟩
 intro env l A av τ st s Q Er hE hC R h
 refine x12 h.ofOpt fun _ hk h=>?_
 have h:=rp_two (fun ds st'=>(ft .lay (.hnd 1::ds) st'.g).bind fun r=>match r.1 with
   | .none=>Res.ok (Fl.next,{st' with g:=r.2})
   | _=>.bad) h
 obtain ⟨fa,K,hK,hpg,hf,ht,⟨o,fd,ho,hdat⟩,HF⟩:=F
 obtain ⟨a,i,K',t1,t2,t3,t4,n,f1,f2,hbl,hK',X',hat,hbd⟩:=eh HB R hx (hE.vis hv) (bP hk)
 refine wpAny_Expr ?_ (b7 R.kind) rfl
 refine iR (name:="lay") (K:=K) (C:=157) (x:=a) rfl (hfew env) hline (aM R.kind f2 ⟨rfl,hK.keeps R.old,hat,hbd,hpg,hf,ht,rfl,?_⟩ h1 h2)
 refine callWith_meth (h₀:=s0.heap) hdat ho (hl.run hE hC R (h.bind.mono (fun q hq vs τ1 s1 le1 rv R1=>?_) fun _ f=>f)) (hst env)
 refine ⟨R1.old,gJ (vs:=.ref a::vs) HF hC R1 (.cons (.bld (le1.bld _ _ hbl)) rv) ?_⟩
 have hq:=RP.mono hq (fun _ z=>OkS.le le1 z) (fun _=>FlP.le (Er:=Er) le1)
 revert hq
 cases ft .lay (.hnd 1::q.1) q.2.g with
 | bad=>exact fun h=>h
 | flt n=>exact fun h=>h
 | ok r=>
  intro hq v τ2 s2 le2 rv2 R2
  refine x02 (RP.non hq) fun hd hq=>?_
  rw [hd] at rv2
  obtain rfl:=rv2.none_inv
  exact hq av τ2 s2 le2 R2
theorem ju (HB:Base w s0 mg mb)(F:Mth prog w s0 ft m .nfresh){x:Str}{k:Nat}{p p2 apos pos:Pos}{e:PySem.Expr}{X:E}(hx:nt[k]? =some x)(hv:bN (ns.lookup x)=true)(h1:(x==("__debug__":Str))=false)(h2:(x==("__classdict__":Str))=false)
  (hX:SE prog w s0 ft m nt ns e X) (hst: ∀env,starEach (e::[]) env=(false,eval e env)::starEach [] env) (hline:(apos.endLine==pos.line)=true):
  SE prog w s0 ft m nt ns (.Call (.Attribute (.Attribute (.Name x p) "naming" p2) "fresh" apos) [e] [] pos) (.fresh k X):=by
 refine ⟨?_⟩
 intro env l wr A av τ st s Q Er hE hC R h
 refine x12 h.ofOpt fun _ hk h=>?_
 refine x12 h.ofOpt fun b hb h=>?_
 obtain ⟨fa,K,hK,hpg,hf,ht,⟨o,fd,ho,hdat⟩,HF⟩:=F
 obtain ⟨a,i,K',t1,t2,t3,t4,n,f1,f2,hbl,hK',X',hat,hbd⟩:=eh HB R hx (hE.vis hv) (bP hk)
 obtain ⟨_,_,hnm,_,_⟩:=R.g.bldO _ _ hbl
 refine x51 ((d7 R hb hbl).nmd) fun u1 u2 u3 u4 n2 hnd=>?_
 have he:starEach [e] env=[(false,eval e env)]:=by rw [hst env];rfl
 refine iR (name:="fresh") (K:=K) (C:=77) (x:=i.nm) rfl (by rw [he];rfl) hline (dB R f2 h1 h2 (dc hK' hat hbd X'.ga1 X'.hd1 X'.naming rfl rfl ⟨rfl,hK.keeps R.old,R.hB _ _ hnm,hnd,hpg,hf,ht,rfl,?_⟩))
 refine callWith_meth (h₀:=s0.heap) hdat ho (PyProof.Rows.spliced_more (hX.run hE hC (R.toks _) (h.bind.mono (fun q hq v τ1 s1 le1 rv R1=>?_) fun _ f=>f)) (hst env)) (hst env)
 refine PyProof.Rows.spliced_none ⟨R1.old,gJ (vs:=[.ref i.nm,v]) HF hC R1 (.cons (.nam (le1.bld _ _ hbl) rfl) (.cons rv .nil)) (RP.mono hq (fun _ z=>OkP.le le1 z) fun _=>FlP.le le1)⟩
end
noncomputable def gy (h:Heap)(L dx:Addr):List (Addr×Obj):=(List.range h.objs.size).filterMap fun b=>if b=L∨b=dx then none else (h.get? b).map (b, ·)
theorem objsBut_mem {h:Heap}{L dx b:Addr}{o:Obj}(hb:h.get? b=some o)(h1:b≠L)(h2:b≠dx):(b,o)∈gy h L dx:=by
 unfold gy
 refine List.mem_filterMap.mpr ⟨b,List.mem_range.mpr (Heap.lt_size hb),?_⟩
 rw [if_neg (by simp [h1,h2]),hb];rfl
theorem objsBut_is {h:Heap}{L dx:Addr}{p:Addr×Obj}(hp:p∈gy h L dx):h.get? p.1=some p.2∧p.1≠L∧p.1≠dx:=by
 unfold gy at hp
 refine x12 (List.mem_filterMap.mp hp) fun b _ hq=>?_
 split at hq
 ·cases hq
 ·rename_i hn
  simp only [not_or] at hn
  cases e:h.get? b with
  | none=>rw [e] at hq;cases hq
  | some o=>rw [e] at hq;cases hq;exact ⟨e,hn⟩
section
variable {prog:Program}{w:World}{s0:Shared}{ft:FT}{m:Nat}{nt:List Str}{ns:List (Str×NameKind)}{mg mb:Str→Option Value}
theorem dO (name:Str)(hsh:Int)(key v:Value): ∀es:List DictEntry,(putL name hsh key v es).length≤es.length + 1
 | []=>by simp [putL]
 | e::r=>by
  unfold putL
  have:=dO name hsh key v r
  split <;> simp only [List.length_cons] <;> omega
theorem set_attr {A:Around}{E:Value→Shared→Prop}{s:Shared}{K:Frag}{C x dx L:Addr}{mm:Str→Option Value}{es:List DictEntry}{n:Nat}{name:Str}{v:Value}{Q:Unit→Shared→Prop}(X:K.In s.heap)(hL:s.heap.Ns L mm)(hLd:L≠dx)(h1:s.heap.get? x=some (instObj C dx))(h2:s.heap.get? dx=some (dictOf es n))
  (hs:findIn K (.ref C) "__setattr__"=some (some (.builtin "object.__setattr__"))) (hp:plainOver K C=true) (ht:takerIn K C name=some none) (hd:hasDictIn K C=true) (hl:(getL name es).isSome=true) (hz:es.length≤900)
  (h: ∀h',h'.Ns L mm→h'.get? dx=some (dictOf (putL name (PyData.keyHash w.params name) (.str name (s.toks + 1)) v es) (putN name es n))→(∀b o,b≠L→b≠dx→s.heap.get? b=some o→h'.get? b=some o)→Q () {s with heap:=h',toks:=s.toks + 2}):
  wpAny (model prog w) A (setAttr (.ref x) name v) Q E s:=by
 have F:Fr {} L s.heap mm:=⟨hL,fun b o e=>by simp [Heap.get?] at e,Nat.zero_le _⟩
 have N:News {} L s.heap ([]++(dx,dictOf es n)::gy s.heap L dx):=by
  intro p hp
  rcases List.mem_cons.mp hp with rfl | hp
  ·exact ⟨h2,Ne.symm hLd,by simp [Heap.get?]⟩
  ·refine x03 (objsBut_is hp) fun a b _=>?_
   exact ⟨a,b,by simp [Heap.get?]⟩
 have I:InstAt s.heap x (instObj C dx) C (some (dictOf es n)):=⟨h1,rfl,rfl,h2⟩
 refine set_plain X I hs (osa_dict (s:={s with toks:=s.toks + 1}) F N X I rfl hp ht hd hl (fun _ h=>nomatch h) (fun p hp=>(objsBut_is hp).2.2) (by rw [putName_dict]) rfl (Nat.le_trans (dO _ _ _ _ _) (Nat.lt_of_le_of_lt ‹_› (by decide))) fun h' F' N'=>?_)
 refine h h' F'.ns (N' _ (List.mem_append_right _ List.mem_cons_self)).1 fun b o hb1 hb2 ho=>(N' (b,o) ?_).1
 exact List.mem_append_right _ (List.mem_cons_of_mem _ (objsBut_mem ho hb1 hb2))
theorem ss_incCount (HB:Base w s0 mg mb){x:Str}{p p2 pv pos:Pos}{k kv:Nat}(hx:nt[k]? =some x)(hv:bN (ns.lookup x)=true)(h1:(x==("__debug__":Str))=false)(h2:(x==("__classdict__":Str))=false):
  SS prog w s0 ft m nt ns (.AugAssign (.Attribute (.Name x p) "count" p2) .Add (.Constant (.int 1) kv pv) pos) (.incCount k):=by
 refine ⟨?_⟩
 intro env l A av τ st s Q Er hE hC R h
 refine x12 h.ofOpt fun _ hk h=>?_
 refine x12 h.ofOpt fun b hb h=>?_
 refine x02 (RP.guard h) fun hz h=>?_
 obtain ⟨a,i,K,t1,t2,t3,t4,n,f2,hbl,hK,X,hnm,L,hnd⟩:=nam_var HB R hx (hE.vis hv) (bP hk) hb
 refine wpAny_AugAssign_AttributeAny (aM R.kind f2 (dc hK hnm hnd X.ga2 X.hd2 X.count rfl rfl ?_) h1 h2)
 refine wpAny_Constant_int (wpAny_iadd_int ?_)
 refine x11 R.ns fun mm hmm=>?_
 have nl:env.locals≠i.nmd:=fun q=>by have:=R.loc;rw [q,L.nmdT] at this;cases this
 refine set_attr (K:=K) hK hmm nl hnm hnd X.sa2 X.po2 X.tk2 X.hd2 rfl (by simp) fun h' hns hdic hkeep=>?_
 have ne: ∀{c:Addr} {t:Tag},τ c=t→t≠ .nmd→c≠i.nmd:=fun e n q=>n (by rw [←e,q,L.nmdT])
 have nloc: ∀{c:Addr} {t:Tag},τ c=t→t≠ .loc→c≠env.locals:=fun e n q=>n (by rw [←e,q,R.loc])
 have L':BldLive prog w τ h' i {b with count:=b.count + 1}:=by
  refine ⟨L.nmdT,⟨t1,t2,t3,_,n,hdic.trans rfl⟩,L.stlT,?_,L.inlT,?_⟩
  ·refine x22 L.stl fun o vs ho r=>?_
   exact ⟨o,vs,hkeep _ _ (nloc L.stlT (by simp)) (ne L.stlT (by simp)) ho,r⟩
  ·refine x22 L.inl fun o vs ho r=>?_
   exact ⟨o,vs,hkeep _ _ (nloc L.inlT (by simp)) (ne L.inlT (by simp)) ho,r⟩
 have gl: ∀{c:Addr},ct (τ c)=true→c≠env.locals:=fun h q=>by rw [q,R.loc] at h;cases h
 refine h av τ _ (TM.le.refl _) (R.modG hmm hns (fun c o hg hl hn ho=>hkeep c o hl (fun q=>by rw [q,L.nmdT] at hg;cases hg) ho) (fun c hg=>?_) ?_)
 ·by_cases q:c=i.nmd
  ·subst q;exact ⟨_,hdic⟩
  ·obtain ⟨o,e⟩:=R.ex c (fun e=>by rw [e] at hg;cases hg);exact ⟨o,hkeep _ _ (gl hg) q e⟩
 ·refine ⟨?_,R.g.potU,R.g.used,R.g.bldU,fun a' i' e=>?_,fun b2 e=>?_⟩
  ·refine x43 R.g.pot fun p o cc t e ho r=>?_
   exact ⟨p,o,cc,t,e,hkeep _ _ (nloc e (by simp)) (ne e (by simp)) ho,r⟩
  ·obtain ⟨x,y,u,v,z⟩:=R.g.bldO a' i' e
   exact ⟨hkeep _ _ (nloc e (by simp)) (ne e (by simp)) x,y,u,v,z⟩
  ·cases e;exact ⟨_,i,hbl,L'⟩
end
noncomputable def LayAt (prog:Program)(w:World)(s0:Shared)(mg:Str→Option Value):Prop:= ∃a o kvs fa,mg "LAYERS"=some (.ref a)∧s0.heap.get? a=some o∧DictObj prog w o kvs∧mg "lay_formal_sub"=some (.ref fa)∧valueAt kvs (so "fsub")=some (.ref fa)
section
variable {prog:Program}{w:World}{s0:Shared}{ft:FT}{m:Nat}{nt:List Str}{ns:List (Str×NameKind)}{mg mb:Str→Option Value}
theorem se_callL (HB:Base w s0 mg mb)(F:Fnc prog w s0 ft m mg (so "lay_formal_sub") .lay_formal_sub)(HL:LayAt prog w s0 mg){p p2 pos:Pos}{i e:PySem.Expr}{rest:List PySem.Expr}{X:E}{Xs:List E}(hx:ns.lookup ("LAYERS":Str)=some .globalImplicit)(hX:SE prog w s0 ft m nt ns i X)
  (hs: ∀a b,subscripted i false a b=operate [a,b] (getItem a b)) (hl:SL prog w s0 ft m nt ns (e::rest) Xs) (hst: ∀env,starEach (e::rest) env=(false,eval e env)::starEach rest env):
  SE prog w s0 ft m nt ns (.Call (.Subscript (.Name ("LAYERS":Str) p) i p2) (e::rest) [] pos) (.callL X Xs):=by
 refine ⟨?_⟩
 intro env l wr A av τ st s Q Er hE hC R h
 obtain ⟨fa,⟨hg,o,fd,ho,hdat⟩,HF⟩:=F
 obtain ⟨la,lo,kvs,fa',hlg,hlo,hD,hfa,hval⟩:=HL
 have e1:fa'=fa:=Value.ref.inj (Option.some.inj (hfa.symm.trans hg))
 rw [e1] at hval
 refine Call_ ?_ rfl
 refine PyProof.Rows.Subscript_ (d8 HB R (hE.glob hx) hlg (hX.run hE hC R (h.bind.mono (fun q hq v τ1 s1 le1 rv R1=>?_) fun _ f=>f)) (by decide))
 refine x12 (RP.strM hq) fun x ed hq=>x02 (RP.ifI hq) fun ex hq=>?_
 have hq:=RP.mono hq (fun _ z=>OkP.le le1 z) (fun _=>FlP.le (Er:=Er) le1)
 rw [ed,ex] at rv
 refine x11 rv.str_inv fun tk ev=>?_
 rw [ev]
 have hd:=hD.mapOf (R1.old _ _ hlo)
 refine tail_any hd.typeIs slot_dict_getitem.lookup (wpAny_getItem_of (knd:=PySem.strKind prog w) (k:=so "fsub") (by simp [PySem.strKind,Value.isStrOf]) hd.mapOf hval ?_) (hs _ _)
 refine callWith_def (o:=o) hdat (hl.run hE hC (R1.toks _) (hq.bind.mono (fun r hr vs τ2 s2 le2 rvs R2=>?_) fun _ f=>f)) (hst env)
 exact ⟨R2.old _ _ ho,gJ HF hC R2 rvs (RP.mono hr (fun _ z=>OkP.le le2 z) fun _=>FlP.le le2)⟩
end
noncomputable def cq (scope:Scope)(params:List Str):Bool:=scope.kind== .function&& !scope.isCoroutine&& !scope.isGenerator&&scope.names.all (fun x=>x.2 != .cell&&x.2 != .free)&&params.all (fun x=>scope.names.lookup x==some .local)&&decide params.Nodup
structure Frame0 (env:Env)(scope:Scope)(h0 h1:Heap)(params:List Str)(vals:List Value):Prop where
 kind:env.scope.kind=.function
 kindOf: ∀x,env.kindOf x=scope.names.lookup x
 glb:env.globals=mainGlobals∧env.builtins=builtinsNs
 loc:env.locals=h0.objs.size
 keep: ∀b o,h0.get? b=some o→h1.get? b=some o
 arg: ∃m,h1.Ns env.locals m∧ ∀(i:Nat) (x:Str) (v:Value),params[i]? =some x→vals[i]? =some v→env.kindOf x=some .local∧m x=some v
section
variable {prog:Program}{w:World}{s0:Shared}{mg mb:Str→Option Value}
theorem enter (HB:Base w s0 mg mb){A:Around}{s:Shared}{fa:Addr}{body:List PySem.Stmt}{scope:Scope}{params:List Str}{vals:List Value}{R:Result→Shared→Prop}(hf:gb s0 fa body scope params)(hc:cq scope params=true)(hl:vals.length=params.length)(old: ∀b o,s0.heap.get? b=some o→s.heap.get? b=some o)
  (hroom:A.depth < recursionLimit)
  (h: ∀env h1 tk E',Frame0 env scope s.heap h1 params vals→wpAny (model prog w) (A.deeper env) (execs body env) (fun f s'=>R (.ok (.ret (match f with | .ret v=>v | _=>.none))) s') E' {s with heap:=h1,toks:=tk}):
  codeAny (model prog w) A (.call (.ref fa) ⟨vals,[]⟩) R s:=by
 simp only [cq,Bool.and_eq_true,Bool.not_eq_true',decide_eq_true_eq,List.all_eq_true] at hc
 obtain ⟨⟨⟨⟨⟨hk,hco⟩,hgen⟩,hfree⟩,hpar⟩,hnd⟩:=hc
 have hk:scope.kind=.function:=by simpa using hk
 have hpar: ∀x∈params,scope.names.lookup x=some .local:=fun x hx=>by have:=hpar x hx;simpa using this
 obtain ⟨o,fd,ho,hdat,hbody,hscope,hclo,hglob,hblt,hcd,hbind⟩:=hf
 have hz:(params.zip vals).map (·.1)=params:=by rw [List.map_fst_zip];exact nl [_,_] [(N0,N1)] N0 N1 rfl (Nat.le_of_eq hl.symm)
 have hnd':((params.zip vals).map (·.1)).Nodup:=by rw [hz];exact hnd
 subst hscope
 refine codeAny_call_cells hroom (old _ _ ho) hdat (HB.nol.keeps old) (hcd.keeps old) hbody (hbind vals hl) hclo (fun x hx=>?_) (fun s₁ I=>?_) hco hgen hk
 ·have hx1:x.1∈params:=by rw [←hz];exact List.mem_map_of_mem hx
  exact .inl (hpar _ hx1)
 ·generalize hen:callEnvC fd s.heap.objs.size fa=env at I ⊢
  have ekind: ∀x,env.kindOf x=fd.scope.names.lookup x:=fun x=>by rw [←hen];rfl
  refine x21 I.toInCall.same fun h1 tk1 es1=>?_
  subst es1
  refine h env h1 tk1 _ ⟨by rw [←hen];exact hk,ekind,by rw [←hen];exact ⟨hglob,hblt⟩,by rw [←hen];rfl,I.toInCall.keep,_,I.toInCall.ns,fun i x v hx hv=>?_⟩
  have hmem:(x,v)∈params.zip vals:=by
   refine List.mem_of_getElem? (i:=i) ?_
   rw [List.getElem?_zip_eq_some];exact ⟨hx,hv⟩
  have hl:=(ekind x).trans (hpar x (List.mem_of_getElem? hx))
  exact ⟨hl,iU hl hnd' (.inl hmem)⟩
end
section
variable {prog:Program}{w:World}{s0:Shared}{mg mb:Str→Option Value}
theorem jN {A:Around}{E:Value→Shared→Prop}{s:Shared}{env:Env}{K:Frag}{C x dx:Addr}{name sf:Str}{e:PySem.Expr}{p p2 pos:Pos}{Q:Flow→Shared→Prop}
  (hk:env.scope.kind=.function) (h1:(sf==("__debug__":Str))=false) (h2:(sf==("__classdict__":Str))=false)
  (hs:swapsWith e (some (.Attribute (.Name sf p) name p2)) pos.line env=pure false)
  (hg:findIn K (.ref C) "__setattr__"=some (some (.builtin "object.__setattr__"))) (hp:plainOver K C=true) (ht:takerIn K C name=some none) (hd:hasDictIn K C=true)
  (h:wpAny (model prog w) A (eval e env) (fun v s1=> ∃es n mm,K.In s1.heap∧Has env s1.heap sf (.ref x)∧s1.heap.Ns env.locals mm∧env.locals≠dx∧s1.heap.get? x=some (instObj C dx)∧s1.heap.get? dx=some (dictOf es n)∧(getL name es).isSome=true∧es.length≤900∧
   ∀h',h'.Ns env.locals mm→h'.get? dx=some (dictOf (putL name (PyData.keyHash w.params name) (.str name (s1.toks + 1)) v es) (putN name es n))→(∀b o,b≠env.locals→b≠dx→s1.heap.get? b=some o→h'.get? b=some o)→Q .next {s1 with heap:=h',toks:=s1.toks + 2}) E s):
  wpAny (model prog w) A (exec (.Assign [.Attribute (.Name sf p) name p2] e pos) env) Q E s:=by
 refine plainObj_wpAny_Assign_Attribute (wpAny_mono h (fun v s1 z=>?_) fun _ _ z=>z) hs
 obtain ⟨es,n,mm,hK,hh,hns,hne,hx,hdx,hl,hz,hQ⟩:=z
 exact aM hk hh (set_attr hK hns hne hx hdx hg hp ht hd hl hz hQ) h1 h2
structure InitOk (K:Frag)(i1 i2:Addr):Prop where
 f1:findIn K (.ref 157) "__init__"=some (some (.ref i1))
 t1:typeIn K (.ref i1)=some (.type "function")
 f2:findIn K (.ref 77) "__init__"=some (some (.ref i2))
 t2:typeIn K (.ref i2)=some (.type "function")
theorem init_naming (HB:Base w s0 mg mb){K:Frag}(X:ClsOk K){A:Around}{s:Shared}{fa:Addr}{p1 p2 p3 p4 q1 q2 q3 q4:Pos}{k0:Nat}{scope:Scope}{x dx:Addr}{i:Int}{tk:Tok}{R:Result→Shared→Prop}
  (hf:gb s0 fa [.Assign [.Attribute (.Name ("self":Str) p1) "number" p2] (.Name ("number":Str) p3) p4,.Assign [.Attribute (.Name ("self":Str) q1) "count" q2] (.Constant (.int 0) k0 q3) q4] scope ["self","number"])
  (hc:cq scope ["self","number"]=true) (old: ∀b o,s0.heap.get? b=some o→s.heap.get? b=some o) (hK:K.In s0.heap) (hn:s0.heap.get? dx=none) (hroom:A.depth < recursionLimit) (hx:s.heap.get? x=some (instObj 77 dx)) (hd:s.heap.get? dx=some (dictOf [] 0))
  (h: ∀h' tk' t1 t2 t3 t4 n,h'.get? dx=some (dictOf [⟨PyData.keyHash w.params "number",.str "number" t1,.int i t3⟩,⟨PyData.keyHash w.params "count",.str "count" t2,.int 0 t4⟩] n)→(∀b o,b≠dx→s.heap.get? b=some o→h'.get? b=some o)→
   R (.ok (.ret .none)) {s with heap:=h',toks:=tk'}):
  codeAny (model prog w) A (.call (.ref fa) ⟨[.ref x,.int i tk],[]⟩) R s:=by
 refine enter HB hf hc rfl old hroom fun env h1 tk1 E' F=>?_
 have lt: ∀{b:Addr} {o:Obj},s.heap.get? b=some o→b≠env.locals:=fun e q=>by have:=Heap.lt_size e;rw [q,F.loc] at this;exact absurd this (Nat.lt_irrefl _)
 refine x12 F.arg fun mm hmm harg=>?_
 have a0:=harg 0 "self" (.ref x) rfl rfl
 have a1:=harg 1 "number" (.int i tk) rfl rfl
 have dl:=Ne.symm (lt hd)
 have xd:x≠dx:=fun q=>by rw [q,hd] at hx;cases hx
 refine wpAny_execs_cons (jN (K:=K) (C:=77) (x:=x) (dx:=dx) F.kind (by decide) (by decide) rfl X.sa2 X.po2 X.tk3 X.hd2 (aM F.kind (.inl ⟨a1.1,_,hmm,a1.2⟩) ?_ (by decide) (by decide)))
 refine ⟨[],0,mm,(hK.keeps old).keeps F.keep,.inl ⟨a0.1,_,hmm,a0.2⟩,hmm,dl,F.keep _ _ hx,F.keep _ _ hd,rfl,by simp,fun h2 n2 d2 k2=>?_⟩
 have k02: ∀b o,b≠dx→s.heap.get? b=some o→h2.get? b=some o:=fun b o hb e=>k2 b o (lt e) hb (F.keep _ _ e)
 have K2:K.In h2:=fun b o e=>by
  exact k02 b o (fun q=>by rw [q] at e;rw [hK _ _ e] at hn;cases hn) (old _ _ (hK b o e))
 refine wpAny_execs_cons (jN (K:=K) (C:=77) (x:=x) (dx:=dx) F.kind (by decide) (by decide) rfl X.sa2 X.po2 X.tk2 X.hd2 (wpAny_Constant_int ?_))
 refine ⟨_,_,mm,K2,.inl ⟨a0.1,_,n2,a0.2⟩,n2,dl,k02 _ _ xd hx,d2,rfl,Nat.le_trans (dO _ _ _ _ _) (by simp),fun h3 n3 d3 k3=>wpAny_execs_nil ?_⟩
 exact h h3 _ _ _ _ _ _ d3 fun b o hb e=>k3 b o (lt e) hb (k02 b o hb e)
end
section
variable {prog:Program}{w:World}{s0:Shared}{mg mb:Str→Option Value}
theorem new_inst {A:Around}{E:Value→Shared→Prop}{s:Shared}{K:Frag}{C fI:Addr}{vals:List Value}{Q:Value→Shared→Prop}(X:K.In s.heap)(hm:makesIn K C=true)(hi:findIn K (.ref C) "__init__"=some (some (.ref fI)))(hf:typeIn K (.ref fI)=some (.type "function"))
  (h:codeAny (model prog w) (A.under (.builtin "type.__call__" ⟨.ref C::vals,[]⟩)) (.call (.ref fI) ⟨.ref (s.heap.objs.size + 1)::vals,[]⟩) (InitBack (s.heap.objs.size + 1) fun r s'=>match r with | .ok (.ret v)=>Q v s' | .ok _=>False | .error e=>E e s')
   {s with heap:=(s.heap.push emptyDict).push (instObj C s.heap.objs.size)}):wpAny (model prog w) A (call (.ref C) vals) Q E s:=by
 obtain ⟨hh,g,d,t,os⟩:=s
 exact wpAny_call (make_core (makes_of X hm) (looks_findIn X hi) (fun self=>bind_fn X self hf) (.inl rfl) h)
theorem mk_weight (C:Addr)(rest:List Value):(Code.builtin "type.__call__" ⟨.ref C::rest,[]⟩).weight=1:=by kernel_rfl
theorem gO (A:Around)(C:Addr)(rest:List Value):(A.under (.builtin "type.__call__" ⟨.ref C::rest,[]⟩)).depth=A.depth + 1:=congrArg (A.depth + ·) (mk_weight C rest)
theorem pushed {h:Heap}{C:Addr}:((h.push emptyDict).push (instObj C h.objs.size)).get? (h.objs.size + 1)=some (instObj C h.objs.size)∧((h.push emptyDict).push (instObj C h.objs.size)).get? h.objs.size=some (dictOf [] 0)∧ ∀b o,h.get? b=some o→((h.push emptyDict).push (instObj C h.objs.size)).get? b=some o:=
 ⟨by heap_get,by heap_get,fun _ _ e=>Heap.get?_push_of_some _ (Heap.get?_push_of_some _ e)⟩
theorem glob_load0 {M:Model}{A:Around}{E:Value→Shared→Prop}{s:Shared}(HB:Base w s0 mg mb){env:Env}{scope:Scope}{h0 h1:Heap}{params:List Str}{vals:List Value}(F:Frame0 env scope h0 h1 params vals)(old: ∀b o,s0.heap.get? b=some o→s.heap.get? b=some o){x:Str}{pos:Pos}{v:Value}{Q:Value→Shared→Prop}
  (hk:scope.names.lookup x=some .globalImplicit) (hv:mg x=some v) (hQ:Q v s) (hd:(x==("__debug__":Str))=false):wpAny M A (eval (.Name x pos) env) Q E s:=by
 refine Calls.Name_function_global F.kind ((F.kindOf x).trans hk) (Calls.loadGlobal_global (mg:=mg) ?_ hv hQ) hd
 rw [F.glb.1];exact HB.g.keeps old
theorem new_naming (HB:Base w s0 mg mb){K:Frag}(X:ClsOk K)(hK:K.In s0.heap){i1 fa:Addr}(I:InitOk K i1 fa){A:Around}{E:Value→Shared→Prop}{s:Shared}{p1 p2 p3 p4 q1 q2 q3 q4:Pos}{k0:Nat}{scope:Scope}{i:Int}{tk:Tok}{Q:Value→Shared→Prop}
  (hf:gb s0 fa [.Assign [.Attribute (.Name ("self":Str) p1) "number" p2] (.Name ("number":Str) p3) p4,.Assign [.Attribute (.Name ("self":Str) q1) "count" q2] (.Constant (.int 0) k0 q3) q4] scope ["self","number"])
  (hc:cq scope ["self","number"]=true) (old: ∀b o,s0.heap.get? b=some o→s.heap.get? b=some o) (hroom:A.depth + 1 < recursionLimit)
  (h: ∀h' tk' t1 t2 t3 t4 n,h'.get? s.heap.objs.size=some (dictOf [⟨PyData.keyHash w.params "number",.str "number" t1,.int i t3⟩,⟨PyData.keyHash w.params "count",.str "count" t2,.int 0 t4⟩] n)→h'.get? (s.heap.objs.size + 1)=some (instObj 77 s.heap.objs.size)→
   (∀b o,s.heap.get? b=some o→h'.get? b=some o)→Q (.ref (s.heap.objs.size + 1)) {s with heap:=h',toks:=tk'}):
  wpAny (model prog w) A (call (.ref 77) [.int i tk]) Q E s:=by
 refine x03 (pushed (h:=s.heap) (C:=77)) fun e1 e2 e3=>?_
 have no:s.heap.get? s.heap.objs.size=none:=by
  cases q:s.heap.get? s.heap.objs.size with
  | none=>rfl
  | some o=>exact absurd (Heap.lt_size q) (Nat.lt_irrefl _)
 refine new_inst (hK.keeps old) X.mk2 I.f2 I.t2 (init_naming HB X hf hc (fun b o e=>e3 b o (old b o e)) hK ?_ (by rw [gO];exact hroom) e1 e2 fun h' tk' t1 t2 t3 t4 n d k=>?_)
 ·cases q:s0.heap.get? s.heap.objs.size with
  | none=>rfl
  | some o=>rw [old _ _ q] at no;cases no
 ·refine ⟨rfl,h h' tk' t1 t2 t3 t4 n d (k _ _ (Nat.succ_ne_self _) e1) fun b o e=>k b o (fun q=>?_) (e3 b o e)⟩
  rw [q,no] at e;cases e
end
section
variable {prog:Program}{w:World}{s0:Shared}{mg mb:Str→Option Value}
structure NewB (w:World)(h h':Heap)(i:Int)(bx:Addr)(b:BInfo):Prop where
 keep: ∀b o,h.get? b=some o→h'.get? b=some o
 at_:h'.get? bx=some (instObj 157 b.bd)
 bd: ∃t1 t2 t3 t4 n,h'.get? b.bd=some (dictOf [⟨PyData.keyHash w.params "naming",.str "naming" t1,.ref b.nm⟩,⟨PyData.keyHash w.params "steps",.str "steps" t2,.ref b.stl⟩,
  ⟨PyData.keyHash w.params "inner",.str "inner" t3,.ref b.inl⟩,⟨PyData.keyHash w.params "table",.str "table" t4,.ref b.tb⟩] n)
 nm:h'.get? b.nm=some (instObj 77 b.nmd)
 nmd: ∃t1 t2 t3 t4 n,h'.get? b.nmd=some (dictOf [⟨PyData.keyHash w.params "number",.str "number" t1,.int i t3⟩,⟨PyData.keyHash w.params "count",.str "count" t2,.int 0 t4⟩] n)
 stl:h'.get? b.stl=some {cls:=.type "list",data:=.seq #[]}
 inl:h'.get? b.inl=some {cls:=.type "list",data:=.seq #[]}
 tb:h'.get? b.tb=some (dictOf [] 0)
 new: ∀a∈[bx,b.bd,b.nm,b.nmd,b.stl,b.inl,b.tb],h.objs.size≤a
 dist:b.stl≠b.inl∧bx≠b.nm∧b.bd≠b.nmd∧b.bd≠b.tb∧b.nmd≠b.tb
theorem fK {name:Str}{hsh:Int}{key v:Value}{es:List DictEntry}{n:Nat}(h:es.length≤n):(putL name hsh key v es).length≤n + 1:=Nat.le_trans (dO _ _ _ _ _) (Nat.succ_le_succ h)
structure BInv (env:Env)(mm:Str→Option Value)(h0 h:Heap)(N:Addr)(es:List DictEntry)(n:Nat):Prop where
 keep: ∀b o,h0.get? b=some o→h.get? b=some o
 at_:h.get? (N + 1)=some (instObj 157 N)
 d:h.get? N=some (dictOf es n)
 ns:h.Ns env.locals mm
theorem row_new {K:Frag}(X:ClsOk K){A:Around}{E:Value→Shared→Prop}{s:Shared}{env:Env}{mm:Str→Option Value}{h0:Heap}{N:Addr}{es:List DictEntry}{n:Nat}{name:Str}{e:PySem.Expr}{ob:Obj}{p p2 pos:Pos}{Q:Flow→Shared→Prop}(hfr:ob.isFreed=false)
  (hk:env.scope.kind=.function) (hK:K.In h0) (g: ∀h:Heap,h.Ns env.locals mm→Has env h "self" (.ref (N + 1))) (ne: ∀b o,h0.get? b=some o→b≠env.locals∧b≠N) (ln:env.locals≠N) (xl:N + 1≠env.locals)
  (B:BInv env mm h0 s.heap N es n) (ht:takerIn K 157 name=some none) (hl:(getL name es).isSome=true) (hz:es.length≤900)
  (hs:swapsWith e (some (.Attribute (.Name "self" p) name p2)) pos.line env=pure false)
  (he: ∀{Q:Value→Shared→Prop},Q (.ref s.heap.objs.size) {s with heap:=s.heap.push ob}→wpAny (model prog w) A (eval e env) Q E s)
  (h: ∀h' tk sl t,BInv env mm h0 h' N (putL name (PyData.keyHash w.params name) (.str name t) (.ref sl) es) (putN name es n)→h'.get? sl=some ob→(∀b o,s.heap.get? b=some o→b < sl∧(b≠env.locals→b≠N→h'.get? b=some o))→env.locals < sl→Q .next {s with heap:=h',toks:=tk}):
  wpAny (model prog w) A (exec (.Assign [.Attribute (.Name "self" p) name p2] e pos) env) Q E s:=by
 refine jN (K:=K) (C:=157) (x:=N + 1) (dx:=N) hk (by decide) (by decide) hs X.sa1 X.po1 ht X.hd1 (he ?_)
 have P: ∀{b:Addr} {o:Obj},s.heap.get? b=some o→(s.heap.push ob).get? b=some o:=fun e=>Heap.get?_push_of_some _ e
 have n1:=B.ns.keeps fun _ _ e=>P e
 refine ⟨es,n,mm,hK.keeps fun b o e=>P (B.keep _ _ e),g _ n1,n1,ln,P B.at_,P B.d,hl,hz,fun h' n2 d2 k2=>?_⟩
 have lt: ∀{b:Addr} {o:Obj},s.heap.get? b=some o→b < s.heap.objs.size:=fun e=>Heap.lt_size e
 have ll:env.locals < s.heap.objs.size:=by obtain ⟨o,_,_,ho,_⟩:=B.ns;exact lt ho
 exact h h' _ _ _ ⟨fun b o e=>k2 b o (ne b o e).1 (ne b o e).2 (P (B.keep b o e)),k2 _ _ xl (Nat.succ_ne_self _) (P B.at_),d2,n2⟩ (k2 _ _ (Nat.ne_of_gt ll) (Nat.ne_of_gt (lt B.d)) (Heap.get?_push_size _ hfr)) (fun b o e=>⟨lt e,fun x y=>k2 b o x y (P e)⟩) ll
theorem new_builder (HB:Base w s0 mg mb){K:Frag}(X:ClsOk K)(hK:K.In s0.heap){i1 i2:Addr}(I:InitOk K i1 i2){A:Around}{E:Value→Shared→Prop}{s:Shared}{p1 p2 p3 p4 q1 q2 q3 q4:Pos}{k0:Nat}{sc1 sc2:Scope}{i:Int}{tk:Tok}{Q:Value→Shared→Prop}
  {a1 a2 a3 a4 a5 a6 b1 b2 b3 b4 c1 c2 c3 c4 d1 d2 d3 d4:Pos}
  (hf2:gb s0 i2 [.Assign [.Attribute (.Name ("self":Str) p1) "number" p2] (.Name ("number":Str) p3) p4,.Assign [.Attribute (.Name ("self":Str) q1) "count" q2] (.Constant (.int 0) k0 q3) q4] sc2 ["self","number"])
  (hc2:cq sc2 ["self","number"]=true)
  (hf1:gb s0 i1 [.Assign [.Attribute (.Name ("self":Str) a1) "naming" a2] (.Call (.Name ("Naming":Str) a3) [.Name ("number":Str) a4] [] a5) a6,
   .Assign [.Attribute (.Name ("self":Str) b1) "steps" b2] (.List [] b3) b4,.Assign [.Attribute (.Name ("self":Str) c1) "inner" c2] (.List [] c3) c4,.Assign [.Attribute (.Name ("self":Str) d1) "table" d2] (.Dict [] [] d3) d4] sc1 ["self","number"])
  (hc1:cq sc1 ["self","number"]=true) (hn:sc1.names.lookup ("Naming":Str)=some .globalImplicit) (hg:mg "Naming"=some (.ref 77)) (hkp:keepIn K (.ref 77)=true)
  (old: ∀b o,s0.heap.get? b=some o→s.heap.get? b=some o) (hroom:A.depth + 4 < recursionLimit)
  (h: ∀h' tk' bx b,NewB w s.heap h' i bx b→Q (.ref bx) {s with heap:=h',toks:=tk'}):
  wpAny (model prog w) A (call (.ref 157) [.int i tk]) Q E s:=by
 refine x03 (pushed (h:=s.heap) (C:=157)) fun e1 e2 e3=>?_
 generalize hN:s.heap.objs.size=N at e1 e2 e3
 have ltN: ∀{b:Addr} {o:Obj},s.heap.get? b=some o→b < N:=fun e=>hN▸Heap.lt_size e
 refine new_inst (hK.keeps old) X.mk1 I.f1 I.t1 ?_
 rw [hN]
 refine enter HB hf1 hc1 rfl (fun b o e=>e3 b o (old b o e)) (by rw [gO];exact nl [_] [(.s (.a N0 (.n 4)),.n 1000)] (.s (.s N0)) (.n 1000) rfl hroom) fun env h1 tk1 E' F=>?_
 refine x12 F.arg fun mm hmm harg=>?_
 have g0:=harg 0 "self" (.ref (N + 1)) rfl rfl
 have g1:=harg 1 "number" (.int i tk) rfl rfl
 have f1:=F.keep _ _ e1
 have f2:=F.keep _ _ e2
 have k1: ∀b o,s.heap.get? b=some o→h1.get? b=some o:=fun b o e=>F.keep _ _ (e3 b o e)
 have o1: ∀b o,s0.heap.get? b=some o→h1.get? b=some o:=fun b o e=>k1 b o (old b o e)
 have loc:env.locals=N + 2:=by
  rw [F.loc];show ((s.heap.push emptyDict).push _).objs.size=_
  rw [Heap.size_push,Heap.size_push,hN]
 refine wpAny_execs_cons (jN (K:=K) (C:=157) (x:=N + 1) (dx:=N) F.kind (by decide) (by decide) rfl X.sa1 X.po1 X.tkn X.hd1 ?_)
 refine Call_ (glob_load0 HB F o1 hn hg ?_ (by decide)) rfl
 refine callWith_K (h₀:=s0.heap) hK hkp (PyProof.Rows.spliced_more (aM F.kind (.inl ⟨g1.1,_,hmm,g1.2⟩) (PyProof.Rows.spliced_none ⟨hK.keeps o1,?_⟩) (by decide) (by decide)) rfl) rfl rfl
 refine new_naming HB X hK I hf2 hc2 o1 (by show (A.under _).depth + 1 + 1 < _;rw [gO];exact Nat.le_of_lt ‹_›) fun h2 tk2 t1 t2 t3 t4 n2 m1 m2 k2=>?_
 have lk: ∀{h:Heap} {b:Addr} {o:Obj},h.get? b=some o→b < h.objs.size:=fun e=>Heap.lt_size e
 have ns:s0.heap.get? N=none:=by
  cases q:s0.heap.get? N with
  | none=>rfl
  | some o=>exact absurd (ltN (old _ _ q)) (Nat.lt_irrefl _)
 have ns2: ∀{b:Addr} {o:Obj},s.heap.get? b=some o→b≠env.locals∧b≠N:=fun e=>by have:=ltN e;rw [loc];exact ⟨Nat.ne_of_lt (Nat.lt_trans this (Nat.lt_add_of_pos_right (by decide))),Nat.ne_of_lt this⟩
 have ln:env.locals≠N:=by rw [loc];simp
 have xn:N + 1≠N:=Nat.succ_ne_self _
 have xl:N + 1≠env.locals:=by rw [loc];simp
 have ll:env.locals < h1.objs.size:=by obtain ⟨o,_,_,ho,_⟩:=hmm;exact lk ho
 have lN:N < h1.objs.size:=lk f2
 simp only at m1 m2 k2 ⊢
 generalize hnd:h1.objs.size=nd at m1 m2 k2 ll lN ⊢
 have dn:nd≠env.locals∧nd≠N∧nd + 1≠env.locals∧nd + 1≠N:=⟨Nat.ne_of_gt ll,Nat.ne_of_gt lN,Nat.ne_of_gt (Nat.lt_succ_of_lt ll),Nat.ne_of_gt (Nat.lt_succ_of_lt lN)⟩
 refine ⟨[],0,mm,hK.keeps fun b o e=>k2 _ _ (o1 b o e),.inl ⟨g0.1,_,hmm.keeps k2,g0.2⟩,hmm.keeps k2,ln,k2 _ _ f1,k2 _ _ f2,rfl,by simp,fun h3 n3 d3 k3=>?_⟩
 have w3: ∀b o,s.heap.get? b=some o→h3.get? b=some o:=fun b o e=>k3 _ _ (ns2 e).1 (ns2 e).2 (k2 _ _ (k1 _ _ e))
 have nn:nd + 1≠nd:=Nat.succ_ne_self _
 have m1':=k3 _ _ dn.1 dn.2.1 m1
 have m2':=k3 _ _ dn.2.2.1 dn.2.2.2 m2
 have f1':=k3 _ _ xl xn (k2 _ _ f1)
 have G: ∀h:Heap,h.Ns env.locals mm→Has env h "self" (.ref (N + 1)):=fun _ q=>.inl ⟨g0.1,_,q,g0.2⟩
 refine wpAny_execs_cons (row_new X rfl F.kind (hK.keeps old) G (fun _ _=>ns2) ln xl ⟨w3,f1',d3,n3⟩ X.tks rfl (Nat.le_trans (fK (n:=0) (Nat.le_refl _)) (by decide)) rfl (fun z=>PyProof.Rows.List_ (PyProof.Rows.spliced_none (wpAny_newObj_type z (Nat.zero_le _)))) fun h4 _ sl _ B4 s4 k4 l4=>?_)
 refine wpAny_execs_cons (row_new X rfl F.kind (hK.keeps old) G (fun _ _=>ns2) ln xl B4 X.tki rfl (Nat.le_trans (fK (fK (n:=0) (Nat.le_refl _))) (by decide)) rfl (fun z=>PyProof.Rows.List_ (PyProof.Rows.spliced_none (wpAny_newObj_type z (Nat.zero_le _)))) fun h5 _ il _ B5 s5 k5 l5=>?_)
 refine wpAny_execs_cons (row_new X rfl F.kind (hK.keeps old) G (fun _ _=>ns2) ln xl B5 X.tkt rfl (Nat.le_trans (fK (fK (fK (n:=0) (Nat.le_refl _)))) (by decide)) rfl (fun z=>wpAny_Dict_empty z) fun h6 _ tb _ B6 s6 k6 l6=>wpAny_execs_nil ?_)
 have W5: ∀b o,b≠env.locals→b≠N→h3.get? b=some o→h5.get? b=some o:=fun b o x y e=>(k5 _ _ ((k4 _ _ e).2 x y)).2 x y
 have W6: ∀b o,b≠env.locals→b≠N→h3.get? b=some o→h6.get? b=some o:=fun b o x y e=>(k6 _ _ (W5 _ _ x y e)).2 x y
 have q5:=(k5 _ _ s4).2 (Nat.ne_of_gt l4) (Nat.ne_of_gt (k4 _ _ d3).1)
 have Ns:=(k4 _ _ d3).1
 have Ni:=(k5 _ _ B4.d).1
 have Nt:=(k6 _ _ B5.d).1
 refine ⟨rfl,h h6 _ (N + 1) ⟨N,nd + 1,nd,sl,il,tb⟩ ⟨B6.keep,B6.at_,⟨_,_,_,_,_,B6.d⟩,W6 _ _ dn.2.2.1 dn.2.2.2 m2',⟨_,_,_,_,_,W6 _ _ dn.1 dn.2.1 m1'⟩,
  (k6 _ _ q5).2 (Nat.ne_of_gt l4) (Nat.ne_of_gt Ns),(k6 _ _ s5).2 (Nat.ne_of_gt l5) (Nat.ne_of_gt Ni),s6,?_,?_⟩⟩
 ·rw [hN]
  exact List.forall_mem_cons.2 ⟨Nat.le_succ _,List.forall_mem_cons.2 ⟨Nat.le_refl _,List.forall_mem_cons.2 ⟨Nat.le_of_lt (Nat.lt_succ_of_lt lN),List.forall_mem_cons.2 ⟨Nat.le_of_lt lN,List.forall_mem_cons.2 ⟨Nat.le_of_lt Ns,List.forall_mem_cons.2 ⟨Nat.le_of_lt Ni,List.forall_mem_cons.2 ⟨Nat.le_of_lt Nt,List.forall_mem_nil _⟩⟩⟩⟩⟩⟩⟩
 ·refine ⟨Nat.ne_of_lt (k5 _ _ s4).1,fun q=>dn.2.1 ?_,dn.2.1.symm,Nat.ne_of_lt Nt,Nat.ne_of_lt (k6 _ _ (W5 _ _ dn.1 dn.2.1 m1')).1⟩
  exact (Nat.succ.inj q).symm
end
section
variable {prog:Program}{w:World}{s0:Shared}{ft:FT}{m:Nat}{nt:List Str}{ns:List (Str×NameKind)}{mg mb:Str→Option Value}
variable {env:Env}{l:List Env}{wr:Str→Bool}{av:Nat→Option Value}{τ:TM}{st:St}{s:Shared}
noncomputable def dN (τ:TM)(T:List (Addr×Tag)):TM:=fun a=>(T.lookup a).getD (τ a)
theorem lookup_mem {T:List (Addr×Tag)}: ∀{a:Addr} {t:Tag},T.lookup a=some t→(a,t)∈T:=by
 induction T with
 | nil=>intro a t h;cases h
 | cons p r ih=>
  intro a t h
  rw [List.lookup_cons] at h
  split at h
  ·rename_i e
   rw [eq_of_beq e,←Option.some.inj h];exact List.mem_cons_self
  ·exact List.mem_cons_of_mem _ (ih h)
theorem setL_cases {τ:TM}{T:List (Addr×Tag)}(a:Addr):(∃t,(a,t)∈T∧dN τ T a=t)∨dN τ T a=τ a:=by
 unfold dN
 cases h:T.lookup a with
 | none=>exact .inr rfl
 | some t=>exact .inl ⟨t,lookup_mem h,rfl⟩
theorem setL_mem {τ:TM}{T:List (Addr×Tag)}(hn:(T.map (·.1)).Nodup){a:Addr}{t:Tag}(h:(a,t)∈T):dN τ T a=t:=by
 unfold dN
 have:T.lookup a=some t:=by
  induction T with
  | nil=>cases h
  | cons p r ih=>
   rw [List.lookup_cons]
   rcases List.mem_cons.mp h with e | h'
   ·rw [←e];simp
   ·have hne:(a==p.1)=false:=by
     rw [beq_eq_false_iff_ne]
     intro q
     exact (List.nodup_cons.mp hn).1 (by show p.1∈_;rw [←q];exact List.mem_map_of_mem (f:=(·.1)) h')
    rw [hne];exact ih (List.nodup_cons.mp hn).2 h'
 rw [this];rfl
theorem nodup7 {a b c d e f g:Addr}(h1:a≠b∧a≠c∧a≠d∧a≠e∧a≠f∧a≠g)(h2:b≠c∧b≠d∧b≠e∧b≠f∧b≠g)(h3:c≠d∧c≠e∧c≠f∧c≠g)(h4:d≠e∧d≠f∧d≠g)(h5:e≠f∧e≠g)(h6:f≠g):[a,b,c,d,e,f,g].Nodup:=by
 simp only [List.nodup_cons,List.mem_cons,List.not_mem_nil,or_false,not_or,List.nodup_nil,not_false_eq_true,and_true]
 exact ⟨h1,h2,h3,h4,h5,h6⟩
noncomputable def NewT (h:Heap)(bx:Addr)(b:BInfo)(a:Addr)(t:Tag):Prop:= ∃o,h.get? a=some o∧(t=.frz o∨t=.nmd∨t=.stl∨t=.inl∨(t=.bld b∧a=bx))
theorem NewT.frz {h:Heap}{bx a:Addr}{b:BInfo}{o:Obj}(z:NewT h bx b a (.frz o)):h.get? a=some o:=by
 obtain ⟨o',e,z⟩:=z
 rcases z with z | z | z | z | ⟨z,_⟩ <;> cases z
 exact e
theorem NewT.no {h:Heap}{bx a:Addr}{b:BInfo}{t:Tag}(z:NewT h bx b a t):(∀o,t≠ .pin o)∧(∀o,t≠ .it o)∧t≠ .pot:=by
 obtain ⟨o',e,z⟩:=z
 rcases z with rfl | rfl | rfl | rfl | ⟨rfl,_⟩ <;> exact ⟨(fun _ q=>by cases q),(fun _ q=>by cases q),fun q=>by cases q⟩
theorem NewT.bld {h:Heap}{bx a:Addr}{b j:BInfo}(z:NewT h bx b a (.bld j)):a=bx∧j=b:=by
 obtain ⟨o',e,z⟩:=z
 rcases z with z | z | z | z | ⟨z,q⟩ <;> cases z
 exact ⟨q,rfl⟩
theorem cT {h:Heap}{a c:Addr}{oa oc:Obj}(e1:h.get? a=some oa)(e2:h.get? c=some oc)(n:oa≠oc):a≠c:=fun q=>n (by rw [q,e2] at e1;exact (Option.some.inj e1).symm)
theorem newB_nodup {h h':Heap}{i:Int}{bx:Addr}{b:BInfo}(Z:NewB w h h' i bx b):[bx,b.bd,b.nm,b.nmd,b.stl,b.inl,b.tb].Nodup:=by
 refine x51 Z.bd fun t1 t2 t3 t4 n hbd=>?_
 refine x51 Z.nmd fun u1 u2 u3 u4 n' hnd=>?_
 have dI: ∀{C d:Addr} {es:List DictEntry} {n:Nat},instObj C d≠dictOf es n:=fun q=>by cases q
 have dL: ∀{es:List DictEntry} {n:Nat},({cls:=.type "list",data:=.seq #[]}:Obj)≠dictOf es n:=fun q=>by have:=congrArg Obj.cls q;injection this with t;exact absurd t (by decide)
 have IL: ∀{C d:Addr},instObj C d≠{cls:=.type "list",data:=.seq #[]}:=fun q=>by cases q
 exact nodup7 ⟨cT Z.at_ hbd dI,Z.dist.2.1,cT Z.at_ hnd dI,cT Z.at_ Z.stl IL,cT Z.at_ Z.inl IL,cT Z.at_ Z.tb dI⟩
  ⟨cT hbd Z.nm dI.symm,Z.dist.2.2.1,cT hbd Z.stl dL.symm,cT hbd Z.inl dL.symm,Z.dist.2.2.2.1⟩ ⟨cT Z.nm hnd dI,cT Z.nm Z.stl IL,cT Z.nm Z.inl IL,cT Z.nm Z.tb dI⟩
  ⟨cT hnd Z.stl dL.symm,cT hnd Z.inl dL.symm,Z.dist.2.2.2.2⟩ ⟨Z.dist.1,cT Z.stl Z.tb dL⟩ (cT Z.inl Z.tb dL)
theorem Rel.withBld (HB:Base w s0 mg mb)(R:Rel prog w s0 env l nt wr τ av st s)(hu:st.g.used=false){i:Int}{bx:Addr}{b:BInfo}{h':Heap}{tk:Nat}(Z:NewB w s.heap h' i bx b):
  ∃τ',TM.le τ τ'∧τ' bx=.bld b∧Rel prog w s0 env l nt wr τ' av {st with g:={st.g with used:=true,bld:=some ⟨i,0,[],[]⟩}} {s with heap:=h',toks:=tk}:=by
 refine x51 Z.bd fun t1 t2 t3 t4 n hbd=>?_
 refine x51 Z.nmd fun u1 u2 u3 u4 n' hnd=>?_
 have R1:=R.grow (h':=h') (tk:=tk) Z.keep
 have nd:=newB_nodup Z
 generalize hod:dictOf _ n=od at hbd
 generalize hT:[(bx,Tag.bld b),(b.bd,.frz od),(b.nm,.frz (instObj 77 b.nmd)),(b.nmd,.nmd),(b.stl,.stl),(b.inl,.inl),(b.tb,.frz (dictOf [] 0))]=T
 have nT:(T.map (·.1)).Nodup:=by rw [←hT];exact nd
 have inT: ∀q∈T,NewT h' bx b q.1 q.2:=by
  rw [←hT]
  exact List.forall_mem_cons.mpr ⟨⟨_,Z.at_,.inr (.inr (.inr (.inr ⟨rfl,rfl⟩)))⟩,List.forall_mem_cons.mpr ⟨⟨_,hbd,.inl rfl⟩,List.forall_mem_cons.mpr ⟨⟨_,Z.nm,.inl rfl⟩,List.forall_mem_cons.mpr ⟨⟨_,hnd,.inr (.inl rfl)⟩,
   List.forall_mem_cons.mpr ⟨⟨_,Z.stl,.inr (.inr (.inl rfl))⟩,List.forall_mem_cons.mpr ⟨⟨_,Z.inl,.inr (.inr (.inr (.inl rfl)))⟩,List.forall_mem_cons.mpr ⟨⟨_,Z.tb,.inl rfl⟩,fun _ h=>nomatch h⟩⟩⟩⟩⟩⟩⟩
 have old: ∀{a:Addr} {t:Tag},(a,t)∈T→τ a=.no:=fun {a t} hm=>by
  have h2:=Z.new a (by have:=List.mem_map_of_mem (f:=(·.1)) hm;rw [←hT] at this;exact this)
  refine Classical.byContradiction fun q=>?_
  refine x11 (R.ex a q) fun o e=>?_
  exact absurd (Heap.lt_size e) (Nat.not_lt_of_le h2)
 have v: ∀{a:Addr} {t:Tag},(a,t)∈T→dN τ T a=t:=fun hm=>setL_mem nT hm
 have sm: ∀{a:Addr} {t:Tag},τ a=t→t≠ .no→dN τ T a=t:=fun {a t} e n=>by
  rcases setL_cases (τ:=τ) (T:=T) a with ⟨t',hm,_⟩ | q
  ·exact absurd (e.symm.trans (old hm)) n
  ·exact q.trans e
 have vx:dN τ T bx=.bld b:=v (by rw [←hT];exact .head _)
 have vtb:dN τ T b.tb=.frz (dictOf [] 0):=v (by rw [←hT];exact .tail _ (.tail _ (.tail _ (.tail _ (.tail _ (.tail _ (.head _)))))))
 have otb:τ b.tb=.no:=old (t:=.frz (dictOf [] 0)) (by rw [←hT];exact .tail _ (.tail _ (.tail _ (.tail _ (.tail _ (.tail _ (.head _)))))))
 have vbd:dN τ T b.bd=.frz od:=v (by rw [←hT];exact .tail _ (.head _))
 have vnm:dN τ T b.nm=.frz (instObj 77 b.nmd):=v (by rw [←hT];exact .tail _ (.tail _ (.head _)))
 have vnd:dN τ T b.nmd=.nmd:=v (by rw [←hT];exact .tail _ (.tail _ (.tail _ (.head _))))
 have vst:dN τ T b.stl=.stl:=v (by rw [←hT];exact .tail _ (.tail _ (.tail _ (.tail _ (.head _)))))
 have vin:dN τ T b.inl=.inl:=v (by rw [←hT];exact .tail _ (.tail _ (.tail _ (.tail _ (.tail _ (.head _))))))
 have back: ∀{a:Addr} {t:Tag},dN τ T a=t→NewT h' bx b a t∨τ a=t:=fun {a t} e=>by
  rcases setL_cases (τ:=τ) (T:=T) a with ⟨t',hm,q⟩ | q
  ·exact .inl (by rw [←e,q];exact inT _ hm)
  ·exact .inr (by rw [←q,e])
 clear inT v nT hT
 generalize dN τ T=τ' at *
 have le:TM.le τ τ':=⟨fun a o e=>sm e (by simp),fun a o e=>sm e (by simp),fun a o e=>sm e (by simp),fun a e=>sm e (by simp),fun a i e=>sm e (by simp)⟩
 have pback: ∀a,τ' a=.pot→τ a=.pot:=fun a ha=>(back ha).elim (fun z=>absurd rfl z.no.2.2) id
 have bback: ∀a j,τ' a=.bld j→a=bx∧j=b:=fun a j ha=>(back ha).elim (fun z=>z.bld) fun q=>absurd q (R.g.used hu a j)
 refine ⟨τ',le,vx,?_⟩
 refine {rest:=R1.rest,base:=fun b o e=>le.frz _ _ (R1.base b o e),ex:=fun a ha=>?_,obj:=fun a o' ha=>?_,itO:=fun a o' ha=>(back ha).elim (fun z=>absurd rfl (z.no.2.1 _)) fun q=>R1.itO a o' q,kind:=R1.kind,glb:=R1.glb,ns:=R1.ns,loc:=sm R1.loc (by simp),wrk:=fun x hx=>?_,celT:=fun x c h h'=>?_,vars:=fun j y sl h1 h2 h3=>?_,g:=?_,frs:=fun e he=>?_,len:=R1.len,ntd:=R1.ntd}
 ·rcases back (a:=a) rfl with ⟨o,e,_⟩ | q
  ·exact ⟨o,e⟩
  ·exact R1.ex a (by rw [q];exact ha)
 ·rcases ha with ha | ha
  ·exact (back ha).elim (fun z=>z.frz) fun q=>R1.obj a o' (.inl q)
  ·exact (back ha).elim (fun z=>absurd rfl (z.no.1 _)) fun q=>R1.obj a o' (.inr q)
 ·exact (R1.wrk x hx).imp id fun ⟨y,c,v,e,f,g⟩=>⟨y,c,v,e,f,sm g (by simp)⟩
 ·exact (R1.celT x c h h').imp (fun e=>sm e (by simp)) fun ⟨o,e⟩=>⟨o,sm e (by simp)⟩
 ·refine x13 (R1.vars j y sl h1 h2 h3) fun v e1 e2 e3=>?_
  exact ⟨v,e1,e2,e3.tag le fun a' e=>sm e (by simp)⟩
 ·refine ⟨?_,fun a a' e e'=>R1.g.potU a a' (pback a e) (pback a' e'),fun h=>Bool.noConfusion h,fun a j a' j' e e'=>?_,fun a j e=>?_,fun b0 e0=>?_⟩
  ·refine x44 R1.g.pot fun p o' c t' e ho' r1 r2=>?_
   exact ⟨p,o',c,t',sm e (by simp),ho',r1,r2.mono le⟩
  ·have x:=bback _ _ e
   have y:=bback _ _ e'
   exact ⟨x.1.trans y.1.symm,x.2.trans y.2.symm⟩
  ·refine x02 (bback _ _ e) fun q1 q2=>?_
   rw [q1,q2]
   exact ⟨Z.at_,⟨t1,t2,t3,t4,n,by rw [vbd,←hod]⟩,vnm,⟨0,vtb⟩,R.notSys HB.sys fun o=>by rw [otb];simp⟩
  ·cases e0
   exact ⟨bx,b,vx,vnd,⟨u1,u2,u3,u4,n',hnd⟩,vst,⟨_,[],Z.stl,⟨0,rfl⟩,.nil⟩,vin,⟨_,[],Z.inl,⟨0,rfl⟩,.nil⟩⟩
 ·obtain ⟨a1,L,a2,a3⟩:=R1.frs e he
  exact ⟨a1,L,a2,a3.imp id fun ⟨o,q1,q2⟩=>⟨o,sm q1 (by simp),q2⟩⟩
end
noncomputable def NewBOk (prog:Program)(w:World)(s0:Shared)(mg:Str→Option Value):Prop:=(∃K:Frag,K.In s0.heap∧keepIn K (.ref 157)=true)∧mg "Builder"=some (.ref 157)∧
 ∀{A:Around} {E:Value→Shared→Prop} {s:Shared} {i:Int} {tk:Tok} {Q:Value→Shared→Prop},(∀b o,s0.heap.get? b=some o→s.heap.get? b=some o)→A.depth + 4 < recursionLimit→
  (∀h' tk' bx b,NewB w s.heap h' i bx b→Q (.ref bx) {s with heap:=h',toks:=tk'})→wpAny (model prog w) A (call (.ref 157) [.int i tk]) Q E s
section
variable {prog:Program}{w:World}{s0:Shared}{ft:FT}{m:Nat}{nt:List Str}{ns:List (Str×NameKind)}{mg mb:Str→Option Value}
theorem se_newB (HB:Base w s0 mg mb)(HN:NewBOk prog w s0 mg){p pos:Pos}{e:PySem.Expr}{X:E}(hx:ns.lookup ("Builder":Str)=some .globalImplicit)(hX:SE prog w s0 ft m nt ns e X)
  (hst: ∀env,starEach (e::[]) env=(false,eval e env)::starEach [] env):SE prog w s0 ft m nt ns (.Call (.Name ("Builder":Str) p) [e] [] pos) (.newB X):=by
 refine ⟨?_⟩
 intro env l wr A av τ st s Q Er hE hC R h
 obtain ⟨⟨K,hK,hkp⟩,hg,HN⟩:=HN
 refine Call_ (d8 HB R (hE.glob hx) hg ?_ (by decide)) rfl
 refine callWith_K (h₀:=s0.heap) hK hkp (PyProof.Rows.spliced_more (hX.run hE hC R (h.bind.mono (fun q hq v τ1 s1 le1 rv R1=>PyProof.Rows.spliced_none ⟨hK.keeps R1.old,?_⟩) fun _ f=>f)) (hst env)) (hst env) rfl
 obtain ⟨d,st1⟩:=q
 simp only at hq
 split at hq
 ·rename_i n hu
  cases rv with
  | int _ tk=>
  refine HN R1.old (by have:=hC.depth;exact nl [_,_] [(.s (.a N0 (.m 4 (.s N1))),.n 1000)] (.s (.a N0 (.n 4))) (.n 1000) rfl this) fun h' tk' bx b Z=>?_
  refine x13 (R1.withBld HB hu (tk:=tk') Z) fun τ2 le2 e2 R2=>?_
  exact hq (.ref bx) τ2 _ (le1.trans le2) (.bld e2) R2
 ·exact hq.elim
end
end Mine
end
section
open PySem PySem.W PyProof.Rows PySem.Spec PySem.Builtin.ObjectAttr
open PySem.Str renaming ofString → so
namespace Mine
noncomputable def refusePure (l:List Value):Prop:= ∀self,refuseLoop self "__setattr__" l=pure ()
section
variable {prog:Program}{w:World}{A:Around}{s:Shared}{K:Frag}{x C:Addr}{R:Result→Shared→Prop}
theorem osaE_open {ox:Obj}{od:Option Obj}{name:Str}{tk:Tok}{v:Value}{cd:ClassData}(X:K.In s.heap)(I:InstAt s.heap x ox C od)(hc:clsIn K C=some cd)(ho:refusePure cd.mro)(hob:cd.mro.contains (.type "object")=true)(ht:takerIn K C name=some none)
  (h: ∀b,wpAny (model prog w) A.in1 (storeInOwnDict (.ref x) (.ref C) (.str name tk) name v b)
   (fun fin s'=>match fin with | .done f=>R (.ok f) s' | .again c'=>c'.quiet=true∧codeAny (model prog w) A c' R s') (fun e s'=>R (.error e) s') s):
  codeAny (model prog w) A (.call (.builtin "object.__setattr__") ⟨[.ref x,.str name tk,v],[]⟩) R s:=by
 have SF:=PySem.F.store_object
 have ne:cd.mro.isEmpty=false:=by cases q:cd.mro with | nil=>rw [q] at hob;cases hob | cons _ _=>rfl
 have sub:Looks (model prog w) s.heap (isInstance (.ref x) (.type "object")) true:=I.type.andThen (looks_mroIn X (by unfold mroIn;rw [hc,Option.bind_some,if_neg (by rw [ne];decide),hob]))
 refine codeAny_call_builtin SF.slot.plain SF.entry (@check_slot (model prog w) _ _ s "object.__setattr__" "object" "__setattr__" (.ref x) [.str name tk,v] [] _ SF.kind SF.split sub (SF.args (.ref x) (.str name tk) v) ?_)
 refine x12 (Option.bind_eq_some_iff.mp ht) fun attr ha hr=>?_
 have hm:Looks (model prog w) s.heap (mroOf (.ref C)) cd.mro:=(looks_clsIn X hc).andThen .now
 have L3:Looks (model prog w) s.heap (storeTaker? attr) none:=by
  cases attr with
  | none=>cases hr;exact .now
  | some a=>
   refine x12 (Option.map_eq_some_iff.mp hr) fun b hb hbe=>?_
   refine (looks_takesIn X hb).andThen ?_
   cases b
   ·exact .now
   ·cases hbe
 rw [osa_eq,refuse_eq]
 refine wpAny_bind (wpAny_bind (I.type.here (wpAny_bind (hm.here ?_))))
 rw [ho]
 refine wpAny_pure (wpAny_bind (I.type.here (wpAny_bind ((looks_findIn X ha).here (wpAny_bind (L3.here ?_))))))
 exact h _
theorem storeIn {es:List DictEntry}{n:Nat}{dx:Addr}{name:Str}{tk:Tok}{v:Value}{E:Value→Shared→Prop}{Q:Fin→Shared→Prop}(D:s.heap.get? dx=some (dictOf es n))(hl:(getL name es).isSome=true)(hz:es.length≤900)
  (h: ∀h',h'.get? dx=some (dictOf (putL name (PyData.keyHash w.params name) (.str name s.toks) v es) (putN name es n))→(∀b o,b≠dx→s.heap.get? b=some o→h'.get? b=some o)→Q (.done (.ret .none)) {s with heap:=h',toks:=s.toks + 1}):
  wpAny (model prog w) A (storeInDict dx (.str name tk) name v) Q E s:=by
 have D':(s.heap.update dx (Obj.putName name (PyData.keyHash w.params name) (.str name s.toks) v)).get? dx=some (dictOf (putL name (PyData.keyHash w.params name) (.str name s.toks) v es) (putN name es n)):=by
  rw [Heap.get?_update_self _ D (by rw [putName_dict];rfl),putName_dict]
 refine wpAny_bind (wpAny_pure (wpAny_bind ?_))
 unfold nsSet
 refine wpAny_bind (wpAny_bind (wpAny_askSetting (wpAny_pure (wpAny_bind (wpAny_mkText (wpAny_bind (wpAny_loadPart D ?_)))))))
 have hl':(lookIn name (dictOf es n)).isSome=true:=hl
 unfold lookIn dictOf at hl'
 dsimp only at hl'
 have c:(!es.toArray.any (·.key.isStr name)&&es.toArray.any (·.refKey))=false:=by
  rw [←Array.any_toList,←Array.any_toList]
  split at hl'
  ·rename_i en he
   rw [List.any_eq_true.mpr ⟨en,List.mem_of_find?_eq_some he,List.find?_some he⟩];rfl
  ·split at hl'
   ·cases hl'
   ·rename_i z;rw [Bool.not_eq_true] at z;rw [z,Bool.and_false]
 dsimp only [dictOf]
 rw [aRefKeyMayBeTheName_at,c]
 refine wpAny_updatePart D ?_
 refine wpAny_bind (wpAny_lookBehind D' (pastItsLine_dict (by have:=dO name (PyData.keyHash w.params name) (.str name s.toks) v es;rw [List.size_toArray,sizeLine_eq];exact nl [_,_] [(N0,.s N1),(N1,.n 900)] N0 (.n 16777217) rfl this hz)) ?_)
 exact wpAny_pure (h _ D' fun b o hb e=>(Heap.get?_update_other _ _ (Ne.symm hb)).trans e)
end
structure FltCls (K:Frag)(C:Addr):Prop where
 cd: ∃cd,clsIn K C=some cd∧refusePure cd.mro∧cd.mro.contains (.type "object")=true∧cd.hasDict=true
 sa:findIn K (.ref C) "__setattr__"=some (some (.builtin "object.__setattr__"))
section
variable {prog:Program}{w:World}{A:Around}{E:Value→Shared→Prop}{s:Shared}{K:Frag}{x C:Addr}
theorem flt_set1 {vs:Array Value}{sl:Array (Option Value)}{name:Str}{v:Value}{Q:Unit→Shared→Prop}(X:K.In s.heap)(Z:FltCls K C)(ht:takerIn K C name=some none)(hx:s.heap.get? x=some ⟨.ref C,none,.fields vs,sl⟩)
  (h: ∀h' dx,s.heap.objs.size≤dx→h'.get? dx=some (dictOf (putL name (PyData.keyHash w.params name) (.str name (s.toks + 1)) v []) (putN name [] 0))→h'.get? x=some ⟨.ref C,some dx,.fields vs,sl⟩→(∀b o,b≠x→s.heap.get? b=some o→h'.get? b=some o)→
   Q () {s with heap:=h',toks:=s.toks + 2}):
  wpAny (model prog w) A (setAttr (.ref x) name v) Q E s:=by
 refine x14 Z.cd fun cd hc hr hob hdct=>?_
 have I:InstAt s.heap x ⟨.ref C,none,.fields vs,sl⟩ C none:=⟨hx,rfl,rfl,trivial⟩
 refine set_plain X I Z.sa (osaE_open (s:={s with toks:=s.toks + 1}) X I hc hr hob ht fun b=>?_)
 refine wpAny_bind (wpAny_pure (wpAny_bind (wpAny_bind (wpAny_loadPart hx (wpAny_bind (Looks.here (s:={s with toks:=s.toks + 1}) (looks_clsIn X hc) ?_))))))
 rw [hdct]
 refine wpAny_bind (m:=alloc _) (wpAny_alloc (wpAny_bind (wpAny_update (Heap.get?_push_of_some _ hx) (wpAny_pure (a:=some s.heap.objs.size) ?_))))
 have lt:=Heap.lt_size hx
 have hx':((s.heap.push emptyDict).update x fun o=>{o with dict:=some s.heap.objs.size}).get? x=some ⟨.ref C,some s.heap.objs.size,.fields vs,sl⟩:=by
  rw [Heap.get?_update_self _ (Heap.get?_push_of_some _ hx) rfl]
 have hd':((s.heap.push emptyDict).update x fun o=>{o with dict:=some s.heap.objs.size}).get? s.heap.objs.size=some (dictOf [] 0):=by
  rw [Heap.get?_update_other _ _ (Nat.ne_of_lt lt)];exact Heap.get?_push_size _ rfl
 refine storeIn (s:={s with heap:=(s.heap.push emptyDict).update x fun o=>{o with dict:=some s.heap.objs.size},toks:=s.toks + 1}) hd' rfl (by simp) fun h' d' k'=>?_
 refine h h' s.heap.objs.size (Nat.le_refl _) d' (k' _ _ (Nat.ne_of_lt lt) hx') fun b o hb e=>k' _ _ (Nat.ne_of_lt (Heap.lt_size e)) ?_
 rw [Heap.get?_update_other _ _ (Ne.symm hb)];exact Heap.get?_push_of_some _ e
theorem flt_set2 {vs:Array Value}{sl:Array (Option Value)}{name:Str}{v:Value}{dx:Addr}{es:List DictEntry}{n:Nat}{Q:Unit→Shared→Prop}(X:K.In s.heap)(Z:FltCls K C)(ht:takerIn K C name=some none)(hx:s.heap.get? x=some ⟨.ref C,some dx,.fields vs,sl⟩)
  (hd:s.heap.get? dx=some (dictOf es n)) (hl:(getL name es).isSome=true) (hz:es.length≤900)
  (h: ∀h',h'.get? dx=some (dictOf (putL name (PyData.keyHash w.params name) (.str name (s.toks + 1)) v es) (putN name es n))→(∀b o,b≠dx→s.heap.get? b=some o→h'.get? b=some o)→
   Q () {s with heap:=h',toks:=s.toks + 2}):
  wpAny (model prog w) A (setAttr (.ref x) name v) Q E s:=by
 refine x14 Z.cd fun cd hc hr hob hdct=>?_
 have I:InstAt s.heap x ⟨.ref C,some dx,.fields vs,sl⟩ C (some (dictOf es n)):=⟨hx,rfl,rfl,hd⟩
 refine set_plain X I Z.sa (osaE_open (s:={s with toks:=s.toks + 1}) X I hc hr hob ht fun b=>?_)
 refine wpAny_bind (wpAny_pure (wpAny_bind (wpAny_bind (wpAny_loadPart hx (wpAny_bind (Looks.here (s:={s with toks:=s.toks + 1}) (looks_clsIn X hc) ?_))))))
 rw [hdct]
 refine wpAny_pure (a:=some dx) ?_
 exact storeIn (s:={s with toks:=s.toks + 1}) hd hl hz h
end
end Mine
end
section
open PySem PySem.W PyProof.Rows PySem.Spec
open PySem.Str renaming ofString → so
namespace Mine
open Sem (wp)
structure BmOk (bm:List Value):Prop where
 exc:bm.contains (.type "Exception")=true
 base:bm.contains (.type "BaseException")=true
 noAttr:bm.contains (.type "AttributeError")=false
 noName:bm.contains (.type "NameError")=false
section
variable {prog:Program}{w:World}{A:Around}{R:Result→Shared→Prop}{h:Heap}{g:Array GenState}{d:Drawn}{t:Nat}{os:OsState}
variable {nm q:Str}{C N:Addr}{bs bm:List Value}{hdct:Bool}{sn:List Str}{sub:List Value}{ab:Bool}{col:Option Bool}{dd:Option Addr}{k0 k1 k2 k3 k5:Option Value}
theorem flt_check_new {M:Model}{E:Value→Shared→Prop}(B:BmOk bm){rest:List Value}{Q:Unit→Shared→Prop}(hC:h.get? C=some (excClassObj nm q C N bs bm hdct sn sub ab col dd k0 k1 k2 k3 k5 "Exception.__new__"))
  (hq:Q () ⟨h,g,d,t,os⟩):wpAny M A (checkBuiltinCall "Exception.__new__" ⟨.ref C::rest,[]⟩) Q E ⟨h,g,d,t,os⟩:=by
 have hcont:(Value.ref C::bm).contains (.type "Exception")=true:=by rw [List.contains_cons,B.exc,Bool.or_true]
 have F:=PySem.F.excBase_Exception
 have hstar:=F.noStar
 simp only [checkBuiltinCall,F.newKind,F.newSplit,F.newRow]
 repeat (first | refine wpAny_loadPart_at hC ?_ | (refine wpAny_isSubtype_exc hC ?_;rw [hcont]) | refine wpAny_staticBase_exc hC ?_ | refine wpAny_madeBy_exc hC ?_ | simp only [bne_self_eq_false,Bool.false_eq_true,if_false] | wp_step)
 exact hq
theorem flt_new (B:BmOk bm){rest:List Value}(hC:h.get? C=some (excClassObj nm q C N bs bm hdct sn sub ab col dd k0 k1 k2 k3 k5 "Exception.__new__"))
  (hq:R (.ok (.ret (.ref (h.objs.size + 1)))) ⟨(h.push {cls:=.type "tuple",data:=.seq rest.toArray}).push
   {cls:=.ref C,data:=.fields #[.ref h.objs.size,.none,.none,.none,.bool false,.none]},g,d,t,os⟩) (hrest:rest.length≤sizeLine):
  codeAny (model prog w) A (.builtin "Exception.__new__" ⟨.ref C::rest,[]⟩) R ⟨h,g,d,t,os⟩:=by
 have F:=PySem.F.excBase_Exception
 have hends:=F.ends
 have hcB:(Value.ref C::bm).contains (.type "Exception")=true:=by rw [List.contains_cons,B.exc,Bool.or_true]
 have hcA:(Value.ref C::bm).contains (.type "AttributeError")=false:=by rw [List.contains_cons,B.noAttr];rfl
 have hcN:(Value.ref C::bm).contains (.type "NameError")=false:=by rw [List.contains_cons,B.noName];rfl
 refine codeAny_builtinAt F.entry ?_
 unfold Builtin.«BaseException.__new__»
 refine PySem.wpAt_bind ?_
 show PySem.wpAt _ _ _ (stack >>= _) _ _ _
 refine PySem.wpAt_bind (PySem.wpAt_stack fun p below=>PySem.wpAt_of_wpAny ?_)
 wp_walk
 refine PySem.wpAt_of_wpAny ?_
 rw [F.owner]
 repeat (first | with_reducible refine wpAny_madeHere_exc F.canon hC ?_ | with_reducible refine wpAny_loadPart_at hC ?_ | (with_reducible refine wpAny_isSubtype_exc hC ?_;first | rw [hcB] | rw [hcA] | rw [hcN]) | wp_step)
 show R _ _
 rw [Heap.size_push]
 exact hq
theorem flt_call {K:Frag}{fI:Addr}{E:Value→Shared→Prop}(B:BmOk bm){rest:List Value}{Q:Value→Shared→Prop}(X:K.In h)(hi:findIn K (.ref C) "__init__"=some (some (.ref fI)))(hf:typeIn K (.ref fI)=some (.type "function"))(hC:h.get? C=some (excClassObj nm q C N bs bm hdct sn sub ab col dd k0 k1 k2 k3 k5 "Exception.__new__"))(hrest:rest.length≤sizeLine)
  (hq:codeAny (model prog w) (A.under (.builtin "type.__call__" ⟨.ref C::rest,[]⟩)) (.call (.ref fI) ⟨.ref (h.objs.size + 1)::rest,[]⟩) (InitBack (h.objs.size + 1) fun r s'=>match r with | .ok (.ret v)=>Q v s' | .ok _=>False | .error e=>E e s')
   ⟨(h.push {cls:=.type "tuple",data:=.seq rest.toArray}).push {cls:=.ref C,data:=.fields #[.ref h.objs.size,.none,.none,.none,.bool false,.none]},g,d,t,os⟩):
  wpAny (model prog w) A (call (.ref C) rest) Q E ⟨h,g,d,t,os⟩:=by
 have F:=PySem.F.excBase_Exception
 have f1:=tc_lookup
 have f2:=tc_bind (.ref C)
 have hT:(⟨h,g,d,t,os⟩:Shared).TypeIs (.ref C) "type":=⟨_,hC,rfl⟩
 refine wpAny_call (codeAny_of_tree ?_)
 show wpAny _ _ (callAny (.ref C) _) _ _ _
 repeat (any_goals (first | assumption | with_reducible refine wpAny_loadPart_at hC ?_ | wp_step))
 refine ⟨rfl,?_⟩
 refine codeAny_call_builtin_at (Code.quiet_builtin _ (by decide +kernel)) entry_typeCall (wpAny_check_type_call_sub hC ?_)
 repeat (first | with_reducible refine wpAny_loadPart_at hC ?_ | with_reducible refine wpAny_madeBy_exc hC ?_ | wp_step)
 refine codeAny_call_builtin_code (Code.quiet_builtin _ F.quiet) (flt_check_new B hC ?_)
 refine flt_new B hC ?_ hrest
 show wpAny _ _ _ _ _ _
 have k: ∀b o,h.get? b=some o→((h.push {cls:=.type "tuple",data:=.seq rest.toArray}).push
   {cls:=.ref C,data:=.fields #[.ref h.objs.size,.none,.none,.none,.bool false,.none]}).get? b=some o:=fun b o e=>Heap.get?_push_of_some _ (Heap.get?_push_of_some _ e)
 have hC₁:=k _ _ hC
 have hget:((h.push {cls:=.type "tuple",data:=.seq rest.toArray}).push
   {cls:=.ref C,data:=.fields #[.ref h.objs.size,.none,.none,.none,.bool false,.none]}).get? (h.objs.size + 1)=some
   {cls:=.ref C,data:=.fields #[.ref h.objs.size,.none,.none,.none,.bool false,.none]}:=by heap_get
 have hcC:(Value.ref C::bm).contains (.ref C)=true:=by simp
 have t1:Looks (model prog w) ((h.push {cls:=.type "tuple",data:=.seq rest.toArray}).push
   {cls:=.ref C,data:=.fields #[.ref h.objs.size,.none,.none,.none,.bool false,.none]}) (typeOf (.ref (h.objs.size + 1))) (.ref C):=(Looks.ld hget).andThen .now
 have i1:=(looks_findIn (M:=model prog w) X hi).keeps k
 have b1:=(bind_fn (M:=model prog w) X (.ref (h.objs.size + 1)) hf).keeps k
 unfold isInstance
 repeat (first | with_reducible refine wpAny_loadPart_at hget ?_ | wp_step)
 show wpAny _ _ (isSubtype (.ref C) (.ref C)) _ _ _
 refine wpAny_isSubtype_exc hC₁ ?_
 rw [hcC]
 simp only [Bool.not_true,Bool.false_eq_true,if_false]
 refine wpAny_bind (wpAny_holding ?_)
 unfold callSpecial? specialOf
 refine wpAny_bind (wpAny_bind (Looks.here (s:=⟨_,g,d,t,os⟩) t1 (Looks.here (s:=⟨_,g,d,t,os⟩) i1 (wpAny_holding (wpAny_bind (Looks.here (s:=⟨_,g,d,t,os⟩) b1 ?_))))))
 refine wpAny_bind (wpAny_call (codeAny_mono hq fun r s' z=>?_))
 rcases r with e | (v | _ | _ | _) <;> first | exact z | exact z.elim | skip
 obtain ⟨rfl,z⟩:=z
 exact wpAny_pure (wpAny_pure z)
end
structure FltOk (K:Frag):Prop where
 obj: ∃nm q N bs hdct sn sub ab col dd k0 k1 k2 k3 k5 bm,K.lookup 51=some (excClassObj nm q 51 N bs bm hdct sn sub ab col dd k0 k1 k2 k3 k5 "Exception.__new__")∧BmOk bm
 flt:FltCls K 51
 i1:findIn K (.ref 51) "__init__"=some (some (.ref 48))
 t1:typeIn K (.ref 48)=some (.type "function")
 tkt:takerIn K 51 "text"=some none
 tkl:takerIn K 51 "line"=some none
 rd:readsIn K 31 (.type "type")=true
 fc:findCls K (.ref 31) (.type "type") "__init__"=some (.val (.ref 28))
 ga:specialIn K (.ref 31) "__getattribute__"=some (some (.builtin "type.__getattribute__"))
 fe:findCls K (.type "Exception") (.type "type") "__init__"=some (.val (.builtin "Exception.__init__"))
 keep:keepIn K (.ref 51)=true
 k28: ∃o fd,K.lookup 28=some o∧o.data=.func fd
section
variable {prog:Program}{w:World}{A:Around}{E:Value→Shared→Prop}{s:Shared}{K:Frag}{env:Env}
theorem method_T {T:String}{name:Str}{v:Value}{pl:Sem Bool}{Q:Value×List Value→Shared→Prop}(X:K.In s.heap)(ht:typeOf (.type T)=pure (.type "type"))(hs:Manifest.isStub T=false)
  (e:findCls K (.type T) (.type "type") name=some (.val v)) (hh:handedIn v=true) (h:Q (v,[]) {s with toks:=s.toks + 1}):wpAny (model prog w) A (getMethod (.type T) name pl) Q E s:=by
 have hstub:opaqueClassAbove (.type T)=pure none:=by unfold opaqueClassAbove;dsimp only;rw [hs];rfl
 have L0:Looks (model prog w) s.heap (typeOf (.type T)) (.type "type"):=Looks.of_pure ht
 have hg:findIn K (.type "type") "__getattribute__"=some (some (.builtin "type.__getattribute__")):=type_tga
 unfold getMethod specialOf
 refine wpAny_bind (wpAny_bind (L0.here ((looks_findIn X hg).here ?_)))
 dsimp only
 rw [if_pos canon_tga]
 refine wpAny_bind (wpAny_mono (Q:=fun v=>Q (v,[])) (E:=E) ?_ (fun _ _ z=>wpAny_pure z) fun _ _ z=>z)
 have LO:Looks (model prog w) s.heap (opaqueClassAbove (.type T)) none:=Looks.of_pure hstub
 refine cls_open X LO L0 hg (looks_hook X (r:=none) (by rfl)) (by show subIn K _ _=_;rfl) e
  (wpAny_pure (by show wpAny _ _ (handedOut v) _ _ _;rw [handedOut_of hh];exact wpAny_pure h))
theorem call_get {o:PySem.Expr}{name:Str}{apos pos:Pos}{args:List PySem.Expr}{Q:Value→Shared→Prop}
  (hbase:attributeBase o name env (eval o env)=eval o env)
  (hfew:((backTo pos (starEach args env)).all (fun x=> !x.1)&&(backToKw pos (keywordEach [] env)).all (fun x=>x.1.isSome)&&decide (args.length + ([]:List Keyword).length + (if ([]:List Keyword).isEmpty then 0 else 1) < 30))=true) (hline:(apos.endLine==pos.line)=true)
  (h:wpAny (model prog w) A (eval o env) (fun ov s₁=> ∀pl,wpAny (model prog w) A (getMethod ov name pl) (fun p s₂=>wpAny (model prog w) A (callWith pos p.1 p.2 (backTo pos (starEach args env)) []) Q E s₂) E s₁) E s):
  wpAny (model prog w) A (eval (.Call (.Attribute o name apos) args [] pos) env) Q E s:=by
 rw [arm_eval_Call,hbase]
 refine wpAny_bind (wpAny_mono h (fun ov s₁ h₁=>?_) fun _ _ e=>e)
 refine wpAny_bind (wpAny_standAt ?_)
 have hform:methodCallForm (args.length + ([]:List Keyword).length) (backTo pos (starEach args env)) (backToKw pos (keywordEach [] env))=true:=hfew
 have hpos:methodCallPos true o env apos pos=pure pos:=by unfold methodCallPos;simp [hline]
 unfold methodCall
 rw [hform]
 refine wpAny_bind (wpAny_holding (wpAny_mono (h₁ _) (fun p s₂ h₂=>?_) fun _ _ e=>e))
 exact wpAny_bind (wpAny_of_eq hpos h₂)
theorem blt_load0 {M:Model}{mg mb:Str→Option Value}{s0:Shared}(HB:Base w s0 mg mb){scope:Scope}{h0 h1:Heap}{params:List Str}{vals:List Value}(F:Frame0 env scope h0 h1 params vals)(old: ∀b o,s0.heap.get? b=some o→s.heap.get? b=some o){x:Str}{pos:Pos}{v:Value}{Q:Value→Shared→Prop}
  (hk:scope.names.lookup x=some .globalImplicit) (hv:mg x=none∧mb x=some v) (hQ:Q v s) (hd:(x==("__debug__":Str))=false):wpAny M A (eval (.Name x pos) env) Q E s:=by
 refine Calls.Name_function_global F.kind ((F.kindOf x).trans hk) (Calls.loadGlobal_builtin (mg:=mg) (mb:=mb) ?_ hv.1 ?_ hv.2 hQ) hd
 ·rw [F.glb.1];exact HB.g.keeps old
 ·rw [F.glb.2];exact HB.b.keeps old
theorem flt_check_init {M:Model}{h:Heap}{g:Array GenState}{d:Drawn}{t:Nat}{os:OsState}{nm q:Str}{C N:Addr}{bs bm:List Value}{hdct:Bool}{sn:List Str}{sub:List Value}{ab:Bool}{col:Option Bool}{dd:Option Addr}{k0 k1 k2 k3 k5:Option Value}
  (B:BmOk bm) {e:Addr} {oe:Obj} {rest:List Value} {Q:Unit→Shared→Prop}
  (hC:h.get? C=some (excClassObj nm q C N bs bm hdct sn sub ab col dd k0 k1 k2 k3 k5 "Exception.__new__")) (he:h.get? e=some oe) (hcls:oe.cls=.ref C) (hq:Q () ⟨h,g,d,t,os⟩):
  wpAny M A (checkBuiltinCall "Exception.__init__" ⟨.ref e::rest,[]⟩) Q E ⟨h,g,d,t,os⟩:=by
 have F:=PySem.F.excBase_Exception
 have hcB:(Value.ref C::bm).contains (.type "Exception")=true:=by rw [List.contains_cons,B.exc,Bool.or_true]
 have hshort:=F.noStar
 simp only [checkBuiltinCall,F.initKind,F.initSplit,F.initRow]
 repeat (first | (with_reducible refine wpAny_loadPart_at he ?_;rw [hcls]) | with_reducible refine wpAny_loadPart_at hC ?_ | (with_reducible refine wpAny_isSubtype_exc hC ?_;rw [hcB]) | wp_step)
 refine wpAny_onRaise ?_
 rw [show ∀(a b:String) (n:Nat),Bind.check ⟨.positional,"*","Exception",.self,[⟨"args",.varPos,false⟩]⟩ a b n (List.map (fun x=>x.fst) ({pos:=Value.ref e::rest}:Args).kw)=pure () from
  fun a b n=>check_star_args _ _ _ _ _ _]
 exact wpAny_pure hq
theorem exc_init {x t0 C:Addr}{vs:Array Value}{sl:Array (Option Value)}{v:Value}{Q:Value→Shared→Prop}{nm q:Str}{N:Addr}{bs bm:List Value}{hdct:Bool}{sn:List Str}{sub:List Value}{ab:Bool}{col:Option Bool}{dd:Option Addr}{k0 k1 k2 k3 k5:Option Value}(B:BmOk bm)
  (hC:s.heap.get? C=some (excClassObj nm q C N bs bm hdct sn sub ab col dd k0 k1 k2 k3 k5 "Exception.__new__")) (hx:s.heap.get? x=some ⟨.ref C,none,.fields vs,sl⟩) (h0:vs[0]? =some (.ref t0))
  (h: ∀h' t1,h'.get? x=some ⟨.ref C,none,.fields (vs.setIfInBounds 0 (.ref t1)),sl⟩→(∀b o,b≠x→s.heap.get? b=some o→h'.get? b=some o)→Q .none {s with heap:=h'}):
  wpAny (model prog w) A (call (.builtin "Exception.__init__") [.ref x,v]) Q E s:=by
 have F:=PySem.F.excBase_Exception
 obtain ⟨h₀,g,d,tk,os⟩:=s
 refine wpAny_call (codeAny_call_builtin F.init.plain F.initEntry (flt_check_init B hC hx rfl ?_))
 unfold Builtin.«BaseException.__init__»
 dsimp only
 rw [if_neg (by simp)]
 unfold newTuple Builtin.BaseException.bexcPut
 have hsz:0 < vs.size:=(Array.getElem?_eq_some_iff.mp h0).1
 have he₁:=Heap.get?_push_of_some (h:=h₀) {cls:=.type "tuple",data:=.seq [v].toArray} hx
 refine wpAny_bind (wpAny_newObj_type (wpAny_bind (wpAny_bind (wpAny_field he₁ rfl h0 (wpAny_bind (wpAny_setField he₁ rfl hsz ?_))))) (by size_fits))
 refine wpAny_letGo (wpAny_pure ?_)
 refine h _ h₀.objs.size ?_ fun b o hb e=>?_
 ·rw [Heap.get?_update_self _ he₁ rfl];rfl
 ·rw [Heap.get?_update_other _ _ (Ne.symm hb)];exact Heap.get?_push_of_some _ e
end
section
variable {prog:Program}{w:World}{s0:Shared}{mg mb:Str→Option Value}
theorem init_ada (HB:Base w s0 mg mb){K:Frag}(X:FltOk K)(hK:K.In s0.heap){A:Around}{s:Shared}{p1 p2 p3 p4 p5 p6 q1 q2 q3 q4:Pos}{scope:Scope}{x t0:Addr}{vs:Array Value}{sl:Array (Option Value)}{v:Value}{R:Result→Shared→Prop}
  (hf:gb s0 28 [.Expr (.Call (.Attribute (.Name ("Exception":Str) p1) "__init__" p2) [.Name ("self":Str) p3,.Name ("text":Str) p4] [] p5) p6,.Assign [.Attribute (.Name ("self":Str) q1) "text" q2] (.Name ("text":Str) q3) q4] scope ["self","text"])
  (hc:cq scope ["self","text"]=true) (hn:scope.names.lookup ("Exception":Str)=some .globalImplicit) (hl:(p2.endLine==p5.line)=true) (hbl:mg "Exception"=none∧mb "Exception"=some (.type "Exception"))
  (old: ∀b o,s0.heap.get? b=some o→s.heap.get? b=some o) (hroom:A.depth < recursionLimit) (hx:s.heap.get? x=some ⟨.ref 51,none,.fields vs,sl⟩) (hx0:s0.heap.get? x=none) (h0:vs[0]? =some (.ref t0))
  (h: ∀h' tk' dx t1 t2 n,s.heap.objs.size≤dx→h'.get? x=some ⟨.ref 51,some dx,.fields (vs.setIfInBounds 0 (.ref t2)),sl⟩→h'.get? dx=some (dictOf [⟨PyData.keyHash w.params "text",.str "text" t1,v⟩] n)→(∀b o,b≠x→s.heap.get? b=some o→h'.get? b=some o)→
   R (.ok (.ret .none)) {s with heap:=h',toks:=tk'}):
  codeAny (model prog w) A (.call (.ref 28) ⟨[.ref x,v],[]⟩) R s:=by
 obtain ⟨nm,q,N,bs,hdct,sn,sub,ab,col,dd,k0,k1,k2,k3,k5,bm,hobj,B⟩:=X.obj
 refine enter HB hf hc rfl old hroom fun env h1 tk1 E' F=>?_
 have lt: ∀{b:Addr} {o:Obj},s.heap.get? b=some o→b≠env.locals:=fun e q=>by have:=Heap.lt_size e;rw [q,F.loc] at this;exact absurd this (Nat.lt_irrefl _)
 refine x12 F.arg fun mm hmm harg=>?_
 have a0:=harg 0 "self" (.ref x) rfl rfl
 have a1:=harg 1 "text" v rfl rfl
 have old1: ∀b o,s0.heap.get? b=some o→h1.get? b=some o:=fun b o e=>F.keep _ _ (old b o e)
 have hx1:=F.keep _ _ hx
 have nx: ∀{b:Addr} {o:Obj},s0.heap.get? b=some o→b≠x:=fun e q=>by rw [q,hx0] at e;cases e
 refine wpAny_execs_cons (wpAny_Expr (call_get rfl rfl hl (blt_load0 HB F old1 hn hbl (fun pl=>?_) (by decide))) (b7 F.kind) rfl)
 refine method_T (hK.keeps old1) rfl (by decide +kernel) X.fe rfl ?_
 refine callWith_method1 (PyProof.Rows.spliced_more (aM F.kind (.inl ⟨a0.1,_,hmm,a0.2⟩) (PyProof.Rows.spliced_more (aM F.kind (.inl ⟨a1.1,_,hmm,a1.2⟩) (PyProof.Rows.spliced_none ?_) (by decide) (by decide)) rfl) (by decide) (by decide)) rfl) rfl rfl
 refine exc_init B (hK.keeps old1 _ _ hobj) hx1 h0 fun h2 t2 x2 k2=>?_
 have old2: ∀b o,s0.heap.get? b=some o→h2.get? b=some o:=fun b o e=>k2 _ _ (nx e) (old1 b o e)
 have xl:env.locals≠x:=Ne.symm (lt hx)
 have hmm2:h2.Ns env.locals mm:=by
  obtain ⟨o,es,ep,ho,r⟩:=hmm
  exact ⟨o,es,ep,k2 _ _ xl ho,r⟩
 refine wpAny_execs_cons (plainObj_wpAny_Assign_Attribute (aM F.kind (.inl ⟨a1.1,_,hmm2,a1.2⟩) (aM F.kind (.inl ⟨a0.1,_,hmm2,a0.2⟩) ?_ (by decide) (by decide)) (by decide) (by decide)) rfl)
 refine flt_set1 (hK.keeps old2) X.flt X.tkt x2 fun h3 dx ld d3 x3 k3=>wpAny_execs_nil ?_
 have hs2:s.heap.objs.size≤dx:=by
  obtain ⟨o,_,_,ho,_⟩:=hmm2
  have:=Heap.lt_size ho
  rw [F.loc] at this
  have ld':h2.objs.size≤dx:=ld
  exact Nat.le_trans (Nat.le_of_lt this) ld'
 exact h h3 _ dx _ t2 _ hs2 x3 d3 fun b o hb e=>k3 _ _ hb (k2 _ _ hb (F.keep _ _ e))
end
structure FltTop (s0:Shared)(mg mb:Str→Option Value)(K:Frag):Prop where
 ok:FltOk K
 inn:K.In s0.heap
 exc:mg "Exception"=none∧mb "Exception"=some (.type "Exception")
 ada:mg "AdaError"=some (.ref 31)
 flt:mg "CheckFault"=some (.ref 51)
 f28: ∃p1 p2 p3 p4 p5 p6 q1 q2 q3 q4 scope,gb s0 28 [.Expr (.Call (.Attribute (.Name ("Exception":Str) p1) "__init__" p2) [.Name ("self":Str) p3,.Name ("text":Str) p4] [] p5) p6,.Assign [.Attribute (.Name ("self":Str) q1) "text" q2] (.Name ("text":Str) q3) q4] scope ["self","text"]∧
  cq scope ["self","text"]=true∧scope.names.lookup ("Exception":Str)=some .globalImplicit∧(p2.endLine==p5.line)=true
 f48: ∃p1 p2 p3 p4 p5 p6 q1 q2 q3 q4 scope,gb s0 48 [.Expr (.Call (.Attribute (.Name ("AdaError":Str) p1) "__init__" p2) [.Name ("self":Str) p3,.Name ("text":Str) p4] [] p5) p6,.Assign [.Attribute (.Name ("self":Str) q1) "line" q2] (.Name ("line":Str) q3) q4] scope ["self","line","text"]∧
  cq scope ["self","line","text"]=true∧scope.names.lookup ("AdaError":Str)=some .globalImplicit∧(p2.endLine==p5.line)=true
section
variable {prog:Program}{w:World}{s0:Shared}{mg mb:Str→Option Value}{K:Frag}
theorem init_flt (HB:Base w s0 mg mb)(T:FltTop s0 mg mb K){A:Around}{s:Shared}{x t0:Addr}{vs:Array Value}{sl:Array (Option Value)}{ln v:Value}{R:Result→Shared→Prop}
  (old: ∀b o,s0.heap.get? b=some o→s.heap.get? b=some o) (hroom:A.depth + 1 < recursionLimit) (hx:s.heap.get? x=some ⟨.ref 51,none,.fields vs,sl⟩) (hx0:s0.heap.get? x=none) (h0:vs[0]? =some (.ref t0))
  (h: ∀h' tk' dx t1 t2 t3 n,s.heap.objs.size≤dx→h'.get? x=some ⟨.ref 51,some dx,.fields (vs.setIfInBounds 0 (.ref t2)),sl⟩→
   h'.get? dx=some (dictOf [⟨PyData.keyHash w.params "text",.str "text" t1,v⟩,⟨PyData.keyHash w.params "line",.str "line" t3,ln⟩] n)→(∀b o,b≠x→s.heap.get? b=some o→h'.get? b=some o)→
   R (.ok (.ret .none)) {s with heap:=h',toks:=tk'}):
  codeAny (model prog w) A (.call (.ref 48) ⟨[.ref x,ln,v],[]⟩) R s:=by
 obtain ⟨X,hK,hbl,hada,hflt,⟨a1,a2,a3,a4,a5,a6,b1,b2,b3,b4,sc1,hf1,hc1,hn1,hl1⟩,⟨p1,p2,p3,p4,p5,p6,q1,q2,q3,q4,scope,hf,hc,hn,hl⟩⟩:=T
 refine enter HB hf hc rfl old (Nat.le_of_lt ‹_›) fun env h1 tk1 E' F=>?_
 have lt: ∀{b:Addr} {o:Obj},s.heap.get? b=some o→b≠env.locals:=fun e q=>by have:=Heap.lt_size e;rw [q,F.loc] at this;exact absurd this (Nat.lt_irrefl _)
 refine x12 F.arg fun mm hmm harg=>?_
 have c0:=harg 0 "self" (.ref x) rfl rfl
 have c1:=harg 1 "line" ln rfl rfl
 have c2:=harg 2 "text" v rfl rfl
 have old1: ∀b o,s0.heap.get? b=some o→h1.get? b=some o:=fun b o e=>F.keep _ _ (old b o e)
 have hx1:=F.keep _ _ hx
 have nx: ∀{b:Addr} {o:Obj},s0.heap.get? b=some o→b≠x:=fun e q=>by rw [q,hx0] at e;cases e
 refine wpAny_execs_cons (wpAny_Expr (call_get rfl rfl hl (glob_load0 HB F old1 hn hada (fun pl=>?_) (by decide))) (b7 F.kind) rfl)
 refine method_cls (hK.keeps old1) X.ga (cls_value (hK.keeps old1) X.rd X.fc rfl ?_)
 obtain ⟨o28,fd28,ho28,hdat28,_⟩:=hf1
 have hf1:gb s0 28 _ sc1 ["self","text"]:=⟨o28,fd28,ho28,hdat28,‹_›⟩
 refine callWith_meth (h₀:=s0.heap) hdat28 ho28 (PyProof.Rows.spliced_more (aM F.kind (.inl ⟨c0.1,_,hmm,c0.2⟩) (PyProof.Rows.spliced_more (aM F.kind (.inl ⟨c2.1,_,hmm,c2.2⟩) (PyProof.Rows.spliced_none ⟨old1,?_⟩) (by decide) (by decide)) rfl) (by decide) (by decide)) rfl) rfl
 refine wpAny_call (init_ada HB X hK hf1 hc1 hn1 hl1 hbl old1 (by show A.depth + 1 < _;assumption) hx1 hx0 h0 fun h2 tk2 dx t1 t2 n ld x2 d2 k2=>?_)
 have old2: ∀b o,s0.heap.get? b=some o→h2.get? b=some o:=fun b o e=>k2 _ _ (nx e) (old1 b o e)
 have xl:env.locals≠x:=Ne.symm (lt hx)
 have hmm2:h2.Ns env.locals mm:=by
  obtain ⟨o,es,ep,ho,r⟩:=hmm
  exact ⟨o,es,ep,k2 _ _ xl ho,r⟩
 have lL:s.heap.objs.size < h1.objs.size:=by
  obtain ⟨o,_,_,ho,_⟩:=hmm
  have:=Heap.lt_size ho
  rwa [F.loc] at this
 have ld':h1.objs.size≤dx:=ld
 refine wpAny_execs_cons (plainObj_wpAny_Assign_Attribute (aM F.kind (.inl ⟨c1.1,_,hmm2,c1.2⟩) (aM F.kind (.inl ⟨c0.1,_,hmm2,c0.2⟩) ?_ (by decide) (by decide)) (by decide) (by decide)) rfl)
 refine flt_set2 (hK.keeps old2) X.flt X.tkl x2 d2 rfl (by simp) fun h3 d3 k3=>wpAny_execs_nil ?_
 have dl: ∀{b:Addr} {o:Obj},h1.get? b=some o→b≠dx:=fun e q=>by have:=Heap.lt_size e;rw [q] at this;exact absurd this (Nat.not_lt_of_le ld')
 have xd:x≠dx:=dl hx1
 exact h h3 _ dx _ t2 _ _ (by exact nl [_,_,_] [(.s N0,N1),(N1,N2)] N0 N2 rfl lL ld') (k3 _ _ xd x2) d3 fun b o hb e=>k3 _ _ (dl (F.keep _ _ e)) (k2 _ _ hb (F.keep _ _ e))
theorem new_fault (HB:Base w s0 mg mb)(T:FltTop s0 mg mb K){A:Around}{E:Value→Shared→Prop}{s:Shared}{ln v:Value}{Q:Value→Shared→Prop}
  (old: ∀b o,s0.heap.get? b=some o→s.heap.get? b=some o) (hroom:A.depth + 2 < recursionLimit)
  (h: ∀h' tk' x dx t1 t2 t3 n,s.heap.objs.size≤x→s.heap.objs.size≤dx→h'.get? x=some ⟨.ref 51,some dx,.fields #[.ref t2,.none,.none,.none,.bool false,.none], #[]⟩→
   h'.get? dx=some (dictOf [⟨PyData.keyHash w.params "text",.str "text" t1,v⟩,⟨PyData.keyHash w.params "line",.str "line" t3,ln⟩] n)→(∀b o,s.heap.get? b=some o→h'.get? b=some o)→
   Q (.ref x) {s with heap:=h',toks:=tk'}):
  wpAny (model prog w) A (call (.ref 51) [ln,v]) Q E s:=by
 obtain ⟨nm,q,N,bs,hdct,sn,sub,ab,col,dd,k0,k1,k2,k3,k5,bm,hobj,B⟩:=T.ok.obj
 have hK:=T.inn.keeps old
 obtain ⟨h0,g,d,t,os⟩:=s
 refine flt_call B hK T.ok.i1 T.ok.t1 (hK _ _ hobj) (by size_fits) ?_
 have e1:((h0.push {cls:=.type "tuple",data:=.seq [ln,v].toArray}).push {cls:=.ref 51,data:=.fields #[.ref h0.objs.size,.none,.none,.none,.bool false,.none]}).get? (h0.objs.size + 1)=some
   ⟨.ref 51,none,.fields #[.ref h0.objs.size,.none,.none,.none,.bool false,.none], #[]⟩:=by heap_get
 have k: ∀b o,h0.get? b=some o→((h0.push {cls:=.type "tuple",data:=.seq [ln,v].toArray}).push {cls:=.ref 51,data:=.fields #[.ref h0.objs.size,.none,.none,.none,.bool false,.none]}).get? b=some o:=
  fun b o e=>Heap.get?_push_of_some _ (Heap.get?_push_of_some _ e)
 refine init_flt (t0:=h0.objs.size) HB T (fun b o e=>k _ _ (old b o e)) (by rw [gO];assumption) e1 ?_ rfl fun h' tk' dx t1 t2 t3 n ld x2 d2 k2=>⟨rfl,?_⟩
 ·cases q:s0.heap.get? (h0.objs.size + 1) with
  | none=>rfl
  | some o=>exact absurd (Heap.lt_size (old _ _ q)) (Nat.not_lt_of_le (Nat.le_succ _))
 ·refine h h' tk' _ dx t1 t2 t3 n (Nat.le_succ _) ?_ x2 d2 fun b o e=>k2 _ _ (Nat.ne_of_lt (Nat.lt_succ_of_lt (Heap.lt_size e))) (k _ _ e)
  simp only [Heap.size_push] at ld
  exact Nat.le_trans (Nat.le_add_right _ 2) ld
end
section
variable {M:Model}{A:Around}{E:Value→Shared→Prop}{env:Env}
variable {nm q:Str}{C N:Addr}{bs bm:List Value}{hdct:Bool}{sn:List Str}{sub:List Value}{ab:Bool}{col:Option Bool}{dd:Option Addr}{k0 k1 k2 k3 k5:Option Value}{newId:String}
theorem raise_made {s:Shared}{x:Sem Value}{Q:Flow→Shared→Prop}(hbase:bm.contains (.type "BaseException")=true)(hh:A.handled=none)
  (h:wpAny M A x (fun v s₁=> ∃e t dx,v=.ref e∧s₁.heap.get? C=some (excClassObj nm q C N bs bm hdct sn sub ab col dd k0 k1 k2 k3 k5 newId)∧
   s₁.heap.get? e=some ⟨.ref C,some dx,.fields #[.ref t,.none,.none,.none,.bool false,.none], #[]⟩∧E (.ref e) s₁) E s):
  wpAny M A (raiseStmt env (some x) none) Q E s:=by
 have hcB:(Value.ref C::bm).contains (.type "BaseException")=true:=by rw [List.contains_cons,hbase,Bool.or_true]
 unfold raiseStmt
 refine wpAny_bind (wpAny_mono h (fun v s₁ h₁=>?_) fun _ _ x=>x)
 obtain ⟨e,t,dx,rfl,hC,he,hE⟩:=h₁
 obtain ⟨hp,g,d,tk,os⟩:=s₁
 repeat (first | with_reducible refine wpAny_loadPart_at he ?_ | with_reducible refine wpAny_loadPart_at hC ?_ | (with_reducible refine wpAny_isSubtype_exc hC ?_;rw [hcB]) | wp_step)
 exact wpAny_raiseNew_none hh hE
end
section
variable {prog:Program}{w:World}{s0:Shared}{ft:FT}{m:Nat}{nt:List Str}{ns:List (Str×NameKind)}{mg mb:Str→Option Value}
theorem Rel.infl {env:Env}{l:List Env}{wr:Str→Bool}{av:Nat→Option Value}{τ:TM}{st:St}{s:Shared}(R:Rel prog w s0 env (env::l) nt wr τ av st s){h':Heap}{tk':Nat}{x dx:Addr}{t1 t2 t3:Tok}{t0:Addr}{n:Nat}{v:Value}{ln:Int}(lx:s.heap.objs.size≤x)(ld:s.heap.objs.size≤dx)
  (hx:h'.get? x=some ⟨.ref 51,some dx,.fields #[.ref t0,.none,.none,.none,.bool false,.none], #[]⟩)
  (hd:h'.get? dx=some (dictOf [⟨PyData.keyHash w.params "text",.str "text" t1,v⟩,⟨PyData.keyHash w.params "line",.str "line" t3,.int ln t2⟩] n)) (k: ∀b o,s.heap.get? b=some o→h'.get? b=some o):
  Infl w s0 (env::l) τ ln (.ref x) {s with heap:=h',toks:=tk'}:=by
 have fr: ∀e∈env::l,e.scope.kind≠ .module∧ ∃L o,e.frame=some L∧s.heap.get? L=some o∧ ∀vs,o.data≠ .fields vs:=fun e he=>by
  obtain ⟨a,L,b,c⟩:=R.frs e he
  refine ⟨a,L,?_⟩
  rcases c with rfl | ⟨o,t,n⟩
  ·obtain ⟨m,o,es,ep,ho,hdat,_⟩:=R.ns
   exact ⟨o,b,ho,fun vs q=>by rw [hdat] at q;cases q⟩
  ·exact ⟨o,b,R.obj _ _ (.inr t),n⟩
 refine ⟨⟨R.rest.1,R.rest.2,R.rest.3⟩,fun a o h _=>k _ _ (R.obj a o h),fun a o h=>⟨o.slots,k _ _ (R.obj a o h)⟩,fun e he=>?_,x,dx,.none,rfl,⟨⟨_,_,hx,(by show 1 < 6;decide),rfl⟩,t1,t3,v,t2,n,hd⟩,fun hm=>?_,fun o=>?_,.inl rfl⟩
 ·obtain ⟨a,L,o,b,c,d⟩:=fr e he
  exact ⟨a,L,o,b,k _ _ c,d⟩
 ·refine x12 (eD hm) fun e he hf=>?_
  obtain ⟨a,L,o,b,c,d⟩:=fr e he
  rw [hf] at b;cases b
  exact absurd (Heap.lt_size c) (Nat.not_lt_of_le ld)
 ·constructor <;> intro q
  ·exact absurd (Heap.lt_size (R.obj x o (.inl q))) (Nat.not_lt_of_le lx)
  ·exact absurd (Heap.lt_size (R.obj x o (.inr q))) (Nat.not_lt_of_le lx)
theorem dD (HB:Base w s0 mg mb){K:Frag}(T:FltTop s0 mg mb K){e:PySem.Expr}{X:E}{p cpos spos pos:Pos}{txt:Str}{kk:Nat}(hx:ns.lookup ("CheckFault":Str)=some .globalImplicit)(hX:SE prog w s0 ft m nt ns e X)
  (hst: ∀env,starEach (e::[.Constant (.str txt) kk spos]) env=(false,eval e env)::starEach [.Constant (.str txt) kk spos] env):
  SS prog w s0 ft m nt ns (.Raise (some (.Call (.Name ("CheckFault":Str) p) [e,.Constant (.str txt) kk spos] [] cpos)) none pos) (.rais X):=by
 refine ⟨?_⟩
 intro env l A av τ st s Q Er hE hC R h
 obtain ⟨nm,q,N,bs,hdct,sn,sub,ab,col,dd,k0,k1,k2,k3,k5,bm,hobj,B⟩:=T.ok.obj
 rw [arm_exec_Raise]
 refine wpAny_bind (wpAny_standAt (raise_made (C:=51) (nm:=nm) (q:=q) (N:=N) (bs:=bs) (bm:=bm) (hdct:=hdct) (sn:=sn) (sub:=sub) (ab:=ab) (col:=col) (dd:=dd) (k0:=k0) (k1:=k1) (k2:=k2) (k3:=k3) (k5:=k5) (newId:="Exception.__new__") B.base hC.handled ?_))
 refine wpAny_bind (wpAny_mono (Call_ (d8 HB R (hE.glob hx) T.flt (callWith_K (h₀:=s0.heap) T.inn T.ok.keep (PyProof.Rows.spliced_more (hX.run hE hC R (h.bind.mono (fun q hq v τ1 s1 le1 rv R1=>PyProof.Rows.spliced_more (wpAny_Constant_str (PyProof.Rows.spliced_none ⟨T.inn.keeps R1.old,?_⟩)) rfl) fun _ f=>f)) (hst env)) (hst env) rfl) (by decide)) rfl) (fun v s3 h3=>wpAny_bind (wpAny_standAt (wpAny_pure h3))) fun _ _ z=>z)
 refine x12 (RP.intM hq) fun n ed hq=>?_
 rw [ed] at rv
 cases rv with
 | int _ tk=>
 refine new_fault HB T (fun b o e=>R1.old b o e) (by have:=hC.depth;exact nl [_,_] [(.s (.a N0 (.m 4 (.s N1))),.n 1000)] (.s (.a N0 (.n 2))) (.n 1000) rfl this) fun h' tk' x dx t1 t2 t3 n' lx ld x2 d2 k'=>?_
 exact ⟨x,t2,dx,rfl,k' _ _ (R1.old _ _ (T.inn _ _ hobj)),x2,hq _ _ ((R1.infl lx ld x2 d2 k').le le1)⟩
end
section
variable {prog:Program}{w:World}{s0:Shared}{ft:FT}{m:Nat}{nt:List Str}{ns:List (Str×NameKind)}{mg mb:Str→Option Value}
variable {env:Env}{l:List Env}{wr:Str→Bool}{av:Nat→Option Value}{τ:TM}{st:St}{s:Shared}
theorem pot_var (HB:Base w s0 mg mb)(R:Rel prog w s0 env l nt wr τ av st s){k:Nat}{x:Str}(hx:nt[k]? =some x)(hv:Vis env x)(h:a8 st k=some (.hnd 0)):
  ∃a o c t,av k=some (.ref a)∧Has env s.heap x (.ref a)∧τ a=.pot∧s.heap.get? a=some o∧DictObj prog w o [("cells",.ref c),("at",.int st.g.pat t)]∧Rep prog w τ (.ref c) (.lst (st.g.cells.map .int)):=by
 refine x13 (fo R hx hv h) fun v f1 f2 f3=>?_
 cases f3 with
 | pot hp=>
 rename_i a
 refine x44 R.g.pot fun a' o c t e ho hD r=>?_
 have:=R.g.potU _ _ hp e
 subst this
 exact ⟨a,o,c,t,f1,f2,e,ho,hD,r⟩
theorem fQ (HB:Base w s0 mg mb){x:Str}{k kk:Nat}{p p2 pos:Pos}(hx:nt[k]? =some x)(hv:bN (ns.lookup x)=true)(h1:(x==("__debug__":Str))=false)(h2:(x==("__classdict__":Str))=false):SE prog w s0 ft m nt ns (.Subscript (.Name x p) (.Constant (.str "at") kk p2) pos) (.potAt k):=by
 refine ⟨?_⟩
 intro env l wr A av τ st s Q Er hE hC R h
 refine x12 h.ofOpt fun _ hk h=>?_
 have hk:=bP hk
 refine x46 (pot_var HB R hx (hE.vis hv) hk) fun a o c t f1 f2 e ho hD r=>?_
 refine PyProof.Rows.Subscript_ (aM R.kind f2 (wpAny_Constant_str ?_) h1 h2)
 have hd:=hD.mapOf ho
 refine tail_any hd.typeIs slot_dict_getitem.lookup (wpAny_getItem_of (knd:=PySem.strKind prog w) (k:=so "at") (by simp [PySem.strKind,Value.isStrOf]) hd.mapOf rfl ?_) rfl
 exact h _ τ _ (TM.le.refl _) (.int _ _) (R.toks _)
theorem jl (HB:Base w s0 mg mb){x:Str}{k kk:Nat}{p p2 pos:Pos}(hx:nt[k]? =some x)(hv:bN (ns.lookup x)=true)(h1:(x==("__debug__":Str))=false)(h2:(x==("__classdict__":Str))=false):SE prog w s0 ft m nt ns (.Subscript (.Name x p) (.Constant (.str "cells") kk p2) pos) (.potCells k):=by
 refine ⟨?_⟩
 intro env l wr A av τ st s Q Er hE hC R h
 refine x12 h.ofOpt fun _ hk h=>?_
 have hk:=bP hk
 refine x46 (pot_var HB R hx (hE.vis hv) hk) fun a o c t f1 f2 e ho hD r=>?_
 refine PyProof.Rows.Subscript_ (aM R.kind f2 (wpAny_Constant_str ?_) h1 h2)
 have hd:=hD.mapOf ho
 refine tail_any hd.typeIs slot_dict_getitem.lookup (wpAny_getItem_of (knd:=PySem.strKind prog w) (k:=so "cells") (by simp [PySem.strKind,Value.isStrOf]) hd.mapOf rfl ?_) rfl
 exact h _ τ _ (TM.le.refl _) r (R.toks _)
theorem ss_potInc (HB:Base w s0 mg mb){x:Str}{k kk kv:Nat}{p p2 p3 pv pos:Pos}(hx:nt[k]? =some x)(hv:bN (ns.lookup x)=true)(h1:(x==("__debug__":Str))=false)(h2:(x==("__classdict__":Str))=false):
  SS prog w s0 ft m nt ns (.AugAssign (.Subscript (.Name x p) (.Constant (.str "at") kk p2) p3) .Add (.Constant (.int 1) kv pv) pos) (.potInc k):=by
 refine ⟨?_⟩
 intro env l A av τ st s Q Er hE hC R h
 refine x12 h.ofOpt fun _ hk h=>?_
 have hk:=bP hk
 refine x46 (pot_var HB R hx (hE.vis hv) hk) fun a o c t f1 f2 e ho hD r=>?_
 have hd:=hD.mapOf ho
 refine wpAny_AugAssign_SubscriptAny (aM R.kind f2 (wpAny_Constant_str ?_) h1 h2)
 refine wpAny_getItem_of (knd:=PySem.strKind prog w) (k:=so "at") (by simp [PySem.strKind,Value.isStrOf]) hd.mapOf rfl ?_
 refine wpAny_Constant_int (wpAny_iadd_int ?_)
 refine wpAny_setItem_pairs (knd:=strKind prog w) (k:=so "at") (by simp [PySem.strKind,Value.isStrOf]) hd (fun h' hm hs'=>?_) (by simp [sizeLine])
 refine x12 (fA hm) fun o2 ho2 hD2=>?_
 refine x11 R.ns fun mm hmm=>?_
 have nl:env.locals≠a:=fun q=>by have:=R.loc;rw [q,e] at this;cases this
 refine h av τ _ (TM.le.refl _) (R.modG hmm (hmm.sameBut hs' nl) (fun b o hg _ _ ho=>(hs'.2 _ fun q=>by rw [q,e] at hg;cases hg).trans ho) (fun b hg=>?_) ?_)
 ·by_cases q:b=a
  ·subst q;exact ⟨_,ho2⟩
  ·obtain ⟨o,e⟩:=R.ex b (fun e=>by rw [e] at hg;cases hg);exact ⟨o,(hs'.2 _ q).trans e⟩
 ·refine ⟨⟨a,o2,c,_,e,ho2,hD2,r⟩,R.g.potU,R.g.used,R.g.bldU,fun a' i' e'=>?_,fun b2 e2=>?_⟩
  ·obtain ⟨x,y,u,v,z⟩:=R.g.bldO a' i' e'
   exact ⟨(hs'.2 _ fun q=>by rw [q,e] at e';cases e').trans x,y,u,v,z⟩
  ·refine x22 (R.g.bld b2 e2) fun a' i' x L=>?_
   refine ⟨a',i',x,L.nmdT,?_,L.stlT,?_,L.inlT,?_⟩
   ·refine x51 L.nmd fun u1 u2 u3 u4 nn hh=>?_
    exact ⟨u1,u2,u3,u4,nn,(hs'.2 _ fun q=>by have:=L.nmdT;rw [q,e] at this;cases this).trans hh⟩
   ·refine x23 L.stl fun o3 vs hh r1 r2=>?_
    exact ⟨o3,vs,(hs'.2 _ fun q=>by have:=L.stlT;rw [q,e] at this;cases this).trans hh,r1,r2⟩
   ·refine x23 L.inl fun o3 vs hh r1 r2=>?_
    exact ⟨o3,vs,(hs'.2 _ fun q=>by have:=L.inlT;rw [q,e] at this;cases this).trans hh,r1,r2⟩
end
section
variable {prog:Program}{w:World}{s0:Shared}{ft:FT}{m:Nat}{mg mb:Str→Option Value}
theorem a_take (HB:Base w s0 mg mb):SSL prog w s0 ft m nt_take (au (top 25)).names (aN (top 25)) ir_take.body:=
 ae (ss_potInc HB rfl rfl rfl rfl) (ae (aJ (aw (se_gt (fQ HB rfl rfl rfl rfl) (bC HB rfl (jl HB rfl rfl rfl rfl) (fun _=>rfl))))
  (ae (aP (se_mod (bG (fQ HB rfl rfl rfl rfl) (se_fdiv (se_mul (fQ HB rfl rfl rfl rfl) (fQ HB rfl rfl rfl rfl)) aj)) (aa rfl rfl rfl rfl))) ai) ai)
  (ae (aP (se_mod (an (jl HB rfl rfl rfl rfl) (se_sub (fQ HB rfl rfl rfl rfl) aj) (fun _ _=>rfl)) (aa rfl rfl rfl rfl))) ai))
end
section
variable {prog:Program}{w:World}{s0:Shared}{ft:FT}{m:Nat}{mg mb:Str→Option Value}
theorem a_choice_name (HB:Base w s0 mg mb){K:Frag}(HT:FltTop s0 mg mb K):SSL prog w s0 ft m nt_choice_name (au (top 7)).names (aN (top 7)) ir_choice_name.body:=
 (ae (aJ (aw (ba (an (aa rfl rfl rfl rfl) aj (fun _ _=>rfl)) al)) (ae (aP (an (aa rfl rfl rfl rfl) aj (fun _ _=>rfl))) ai) ai) (ae (aJ (aw (ba (an (aa rfl rfl rfl rfl) aj (fun _ _=>rfl)) al)) (ae (aP (bG (bG al (se_lower (an (aa rfl rfl rfl rfl) aj (fun _ _=>rfl)) (fun _=>rfl) rfl)) al)) ai) ai) (ae (dD HB HT rfl (aa rfl rfl rfl rfl) (fun _=>rfl)) ai)))
theorem a_formal_keys (HB:Base w s0 mg mb){K:Frag}(HT:FltTop s0 mg mb K)(F_formal_names:Fnc prog w s0 ft m mg (so "formal_names") .formal_names)(F_default_of:Fnc prog w s0 ft m mg (so "default_of") .default_of)(F_types_told:Fnc prog w s0 ft m mg (so "types_told") .types_told):SSL prog w s0 ft m nt_formal_keys (au (top 9)).names (aN (top 9)) ir_formal_keys.body:=
 (ae (fG ak rfl rfl) (ae (ss_ownD rfl rfl) (ae (ss_ownD rfl rfl) (ae (dE (aa rfl rfl rfl rfl) (.name rfl rfl) (ae (fG ak rfl rfl) (ae (dE (aK HB F_formal_names rfl rfl (ac (aa rfl rfl rfl rfl) ak (fun _=>rfl)) (fun _=>rfl)) (.name rfl rfl) (ae (ey (sc_compV (bZ (by decide +kernel)) rfl rfl rfl rfl (.name rfl rfl) (d6 (aw (se_inn (aa rfl rfl rfl rfl) (cy (ci (bZ (by decide +kernel)) (an (aa rfl rfl rfl rfl) aj (fun _ _=>rfl)) (.name rfl rfl) cw (se_ixV HB rfl rfl rfl rfl (aa rfl rfl rfl rfl) (fun _ _=>rfl)) (fun _ _=>rfl))) rfl)) cw) (aa rfl rfl rfl rfl)) rfl rfl rfl rfl) (ae (dE (aa rfl rfl rfl rfl) (.tup (.cons rfl rfl (.cons rfl rfl .nil))) (ae (aJ (dV (bk (aw (bj (an (aa rfl rfl rfl rfl) aj (fun _ _=>rfl)) al)) (bk (aw (bj (an (aa rfl rfl rfl rfl) aj (fun _ _=>rfl)) al)) (bk (aw (ba (aK HB F_types_told rfl rfl (ac (aa rfl rfl rfl rfl) ak (fun _=>rfl)) (fun _=>rfl)) (aK HB F_types_told rfl rfl (ac (aa rfl rfl rfl rfl) ak (fun _=>rfl)) (fun _=>rfl)))) bW)))) (ae (dD HB HT rfl (aa rfl rfl rfl rfl) (fun _=>rfl)) ai) ai) ai) (fun _ _=>rfl)) (ae (aE (cO (aw (ba (aa rfl rfl rfl rfl) (bq ak))) (aa rfl rfl rfl rfl) (bG (bG (aa rfl rfl rfl rfl) al) (se_strI HB rfl (bC HB rfl (aa rfl rfl rfl rfl) (fun _=>rfl)) (fun _=>rfl)))) rfl rfl (fun _=>rfl)) (ae (aJ (aw (se_inV HB rfl rfl rfl rfl (aa rfl rfl rfl rfl))) (ae (dD HB HT rfl (aa rfl rfl rfl rfl) (fun _=>rfl)) ai) ai) (ae (fF (aa rfl rfl rfl rfl) (aa rfl rfl rfl rfl) rfl rfl rfl rfl (fun _=>rfl)) (ae (fF (aa rfl rfl rfl rfl) (aK HB F_default_of rfl rfl (ac (aa rfl rfl rfl rfl) ak (fun _=>rfl)) (fun _=>rfl)) rfl rfl rfl rfl (fun _=>rfl)) (ae (dr (aa rfl rfl rfl rfl) rfl rfl rfl rfl (fun _=>rfl) rfl) ai))))))) (fun _ _=>rfl)) (ae (dr (aC (ac (aa rfl rfl rfl rfl) (ac (cH rfl rfl rfl rfl HB.sys) ak (fun _=>rfl)) (fun _=>rfl))) rfl rfl rfl rfl (fun _=>rfl) rfl) ai))) (fun _ _=>rfl)) (ae (aP (aC (ac (cy (sc_compV (bZ (by decide +kernel)) rfl rfl rfl rfl (.tup (.cons rfl rfl (.cons rfl rfl .nil))) cw (cH rfl rfl rfl rfl HB.sys))) (ac (cH rfl rfl rfl rfl HB.sys) (ac (cH rfl rfl rfl rfl HB.sys) ak (fun _=>rfl)) (fun _=>rfl)) (fun _=>rfl)))) ai)))))
theorem a_match_formals (HB:Base w s0 mg mb){K:Frag}(HT:FltTop s0 mg mb K)(F_choice_name:Fnc prog w s0 ft m mg (so "choice_name") .choice_name)(F_formal_keys:Fnc prog w s0 ft m mg (so "formal_keys") .formal_keys):SSL prog w s0 ft m nt_match_formals (au (top 10)).names (aN (top 10)) ir_match_formals.body:=
 (ae (cW (aK HB F_formal_keys rfl rfl (ac (aa rfl rfl rfl rfl) (ac (aa rfl rfl rfl rfl) ak (fun _=>rfl)) (fun _=>rfl)) (fun _=>rfl)) (.cons rfl rfl (.cons rfl rfl (.cons rfl rfl .nil))) (fun _=>rfl) (fun _=>rfl)) (ae (ey (sc_comp2 (bZ (by decide +kernel)) (aa rfl rfl rfl rfl) rfl rfl rfl rfl rfl rfl rfl rfl (by decide) (fun _ _=>rfl)) rfl rfl rfl rfl) (ae (ss_ownD rfl rfl) (ae (aE cf rfl rfl (fun _=>rfl)) (ae (ss_forR HB rfl (bC HB rfl (aa rfl rfl rfl rfl) (fun _=>rfl)) (fun _=>rfl) rfl rfl (ae (cW (an (aa rfl rfl rfl rfl) (aa rfl rfl rfl rfl) (fun _ _=>rfl)) (.cons rfl rfl (.cons rfl rfl .nil)) (fun _=>rfl) (fun _=>rfl)) (ae (aJ (aw (fR (aa rfl rfl rfl rfl))) (ae (aJ (sb_plain (aa rfl rfl rfl rfl) (fun _ _=>rfl)) (ae (dD HB HT rfl (aa rfl rfl rfl rfl) (fun _=>rfl)) ai) ai) (ae (aJ (aw (se_ge (aa rfl rfl rfl rfl) (bC HB rfl (aa rfl rfl rfl rfl) (fun _=>rfl)))) (ae (dD HB HT rfl (aa rfl rfl rfl rfl) (fun _=>rfl)) ai) ai) (ae (aE (bq (ac (an (aa rfl rfl rfl rfl) (aa rfl rfl rfl rfl) (fun _ _=>rfl)) ak (fun _=>rfl))) rfl rfl (fun _=>rfl)) ai))) (ae (aE cf rfl rfl (fun _=>rfl)) (ae (ey (ci (bZ (by decide +kernel)) (aa rfl rfl rfl rfl) (.name rfl rfl) cw (aK HB F_choice_name rfl rfl (ac (aa rfl rfl rfl rfl) (ac (aa rfl rfl rfl rfl) ak (fun _=>rfl)) (fun _=>rfl)) (fun _=>rfl)) (fun _ _=>rfl)) rfl rfl rfl rfl) ai))) (ae (dE (aa rfl rfl rfl rfl) (.name rfl rfl) (ae (aJ (sb_and (fq (aw (se_isNN (aa rfl rfl rfl rfl))) (fq (aw (bj (bC HB rfl (cy (ci (bZ (by decide +kernel)) (aa rfl rfl rfl rfl) (.name rfl rfl) (d6 (aw (ba (an (aa rfl rfl rfl rfl) (aa rfl rfl rfl rfl) (fun _ _=>rfl)) (aa rfl rfl rfl rfl))) cw) (aa rfl rfl rfl rfl) (fun _ _=>rfl))) (fun _=>rfl)) aj)) fx))) (ae (dD HB HT rfl (aa rfl rfl rfl rfl) (fun _=>rfl)) ai) ai) (ae (aJ (aw (se_inV HB rfl rfl rfl rfl (aa rfl rfl rfl rfl))) (ae (dD HB HT rfl (aa rfl rfl rfl rfl) (fun _=>rfl)) ai) ai) (ae (fF (aa rfl rfl rfl rfl) (aC (ac al (ac (aa rfl rfl rfl rfl) ak (fun _=>rfl)) (fun _=>rfl))) rfl rfl rfl rfl (fun _=>rfl)) ai))) (fun _ _=>rfl)) ai)))) (ae (dE (aa rfl rfl rfl rfl) (.name rfl rfl) (ae (aJ (aw (se_ninV HB rfl rfl rfl rfl (aa rfl rfl rfl rfl))) (ae (aJ (aw (fR (an (aa rfl rfl rfl rfl) (aa rfl rfl rfl rfl) (fun _ _=>rfl)))) (ae (dD HB HT rfl (aa rfl rfl rfl rfl) (fun _=>rfl)) ai) ai) (ae (fF (aa rfl rfl rfl rfl) (cO (aw (ba (an (aa rfl rfl rfl rfl) (aa rfl rfl rfl rfl) (fun _ _=>rfl)) al)) (aC (ac al ak (fun _=>rfl))) (aC (ac al (ac (an (aa rfl rfl rfl rfl) (aa rfl rfl rfl rfl) (fun _ _=>rfl)) ak (fun _=>rfl)) (fun _=>rfl)))) rfl rfl rfl rfl (fun _=>rfl)) ai)) ai) ai) (fun _ _=>rfl)) (ae (aP (cH rfl rfl rfl rfl HB.sys)) ai)))))))
theorem a_fresh_mark (HB:Base w s0 mg mb)(F_fresh_mark:Fnc prog w s0 ft m mg (so "fresh_mark") .fresh_mark):SSL prog w s0 ft m nt_fresh_mark (au (top 11)).names (aN (top 11)) ir_fresh_mark.body:=
 (ae (aJ (sb_and (fq (aw (ba (an (aa rfl rfl rfl rfl) aj (fun _ _=>rfl)) al)) (fq (aw (se_inn (an (aa rfl rfl rfl rfl) aj (fun _ _=>rfl)) (aa rfl rfl rfl rfl) rfl)) fx))) (ae (aP (aC (ac al (ac (an (aa rfl rfl rfl rfl) (an (aa rfl rfl rfl rfl) aj (fun _ _=>rfl)) (fun _ _=>rfl)) ak (fun _=>rfl)) (fun _=>rfl)))) ai) ai) (ae (aJ (dV (bk (aw (ba (an (aa rfl rfl rfl rfl) aj (fun _ _=>rfl)) al)) (bk (aw (ba (an (aa rfl rfl rfl rfl) aj (fun _ _=>rfl)) al)) bW))) (ae (aP (bG (aC (ac (an (aa rfl rfl rfl rfl) aj (fun _ _=>rfl)) (ac (aK HB F_fresh_mark rfl rfl (ac (an (aa rfl rfl rfl rfl) aj (fun _ _=>rfl)) (ac (aa rfl rfl rfl rfl) ak (fun _=>rfl)) (fun _=>rfl)) (fun _=>rfl)) ak (fun _=>rfl)) (fun _=>rfl))) (cx (aa rfl rfl rfl rfl) (bz aj) cX (fun _ _=>rfl)))) ai) ai) (ae (aP (aa rfl rfl rfl rfl)) ai)))
theorem a_fresh_spec (HB:Base w s0 mg mb)(F_mark:Mth prog w s0 ft m .mark):SSL prog w s0 ft m nt_fresh_spec (au (top 15)).names (aN (top 15)) ir_fresh_spec.body:=
 (ae (cW (aa rfl rfl rfl rfl) (.cons rfl rfl (.cons rfl rfl (.cons rfl rfl (.cons rfl rfl .nil)))) (fun _=>rfl) (fun _=>rfl)) (ae (fG ak rfl rfl) (ae (dE (aa rfl rfl rfl rfl) (.tup (.cons rfl rfl (.cons rfl rfl (.cons rfl rfl (.cons rfl rfl .nil))))) (ae (dr (aC (ac (aa rfl rfl rfl rfl) (ac (aa rfl rfl rfl rfl) (ac (se_mark HB F_mark rfl rfl rfl rfl (ac (aa rfl rfl rfl rfl) (ac (aa rfl rfl rfl rfl) ak (fun _=>rfl)) (fun _=>rfl)) (fun _=>rfl) (fun _=>rfl) rfl) (ac bA ak (fun _=>rfl)) (fun _=>rfl)) (fun _=>rfl)) (fun _=>rfl))) rfl rfl rfl rfl (fun _=>rfl) rfl) ai) (fun _ _=>rfl)) (ae (aJ (aw (se_isNN (aa rfl rfl rfl rfl))) (ae (aE (se_mark HB F_mark rfl rfl rfl rfl (ac (aa rfl rfl rfl rfl) (ac (aa rfl rfl rfl rfl) ak (fun _=>rfl)) (fun _=>rfl)) (fun _=>rfl) (fun _=>rfl) rfl) rfl rfl (fun _=>rfl)) ai) ai) (ae (aP (aC (ac (aa rfl rfl rfl rfl) (ac (aa rfl rfl rfl rfl) (ac (cH rfl rfl rfl rfl HB.sys) (ac (aa rfl rfl rfl rfl) ak (fun _=>rfl)) (fun _=>rfl)) (fun _=>rfl)) (fun _=>rfl)))) ai)))))
theorem jJ (HB:Base w s0 mg mb)(F_lay:Mth prog w s0 ft m .lay)(F_fresh_spec:Fnc prog w s0 ft m mg (so "fresh_spec") .fresh_spec)(F_nfresh:Mth prog w s0 ft m .nfresh)(F_operator_node:Fnc prog w s0 ft m mg (so "operator_node") .operator_node):SSL prog w s0 ft m nt_lay_formal_sub (au (top 16)).names (aN (top 16)) ir_lay_formal_sub.body:=
 (ae (cW (aa rfl rfl rfl rfl) (.cons rfl rfl (.cons rfl rfl (.cons rfl rfl (.cons rfl rfl .nil)))) (fun _=>rfl) (fun _=>rfl)) (ae (aE (an (aa rfl rfl rfl rfl) aj (fun _ _=>rfl)) rfl rfl (fun _=>rfl)) (ae (aE (an (aa rfl rfl rfl rfl) (aa rfl rfl rfl rfl) (fun _ _=>rfl)) rfl rfl (fun _=>rfl)) (ae (aJ (aw (ba (an (aa rfl rfl rfl rfl) aj (fun _ _=>rfl)) al)) (ae (jj HB (aC (ac al (ac (aa rfl rfl rfl rfl) (ac al (ac (aa rfl rfl rfl rfl) (ac (aa rfl rfl rfl rfl) (ac (an (aa rfl rfl rfl rfl) aj (fun _ _=>rfl)) ak (fun _=>rfl)) (fun _=>rfl)) (fun _=>rfl)) (fun _=>rfl)) (fun _=>rfl)) (fun _=>rfl))) rfl rfl rfl rfl (fun _=>rfl) rfl) (ae ss_ret0 ai)) ai) (ae (aE (cO (aw (ba (an (aa rfl rfl rfl rfl) aj (fun _ _=>rfl)) al)) (aK HB F_operator_node rfl rfl (ac (aa rfl rfl rfl rfl) ak (fun _=>rfl)) (fun _=>rfl)) (an (aa rfl rfl rfl rfl) aj (fun _ _=>rfl))) rfl rfl (fun _=>rfl)) (ae (aE (ju HB F_nfresh rfl rfl rfl rfl (aa rfl rfl rfl rfl) (fun _=>rfl) rfl) rfl rfl (fun _=>rfl)) (ae (ss_lay HB F_lay rfl rfl rfl rfl (ac al (ac (aC (ac al (ac (aa rfl rfl rfl rfl) (ac al (ac (aa rfl rfl rfl rfl) (ac (aK HB F_fresh_spec rfl rfl (ac (aa rfl rfl rfl rfl) (ac (aa rfl rfl rfl rfl) (ac (aa rfl rfl rfl rfl) (ac (aa rfl rfl rfl rfl) ak (fun _=>rfl)) (fun _=>rfl)) (fun _=>rfl)) (fun _=>rfl)) (fun _=>rfl)) (ac (aa rfl rfl rfl rfl) ak (fun _=>rfl)) (fun _=>rfl)) (fun _=>rfl)) (fun _=>rfl)) (fun _=>rfl)) (fun _=>rfl))) ak (fun _=>rfl)) (fun _=>rfl)) (fun _=>rfl) (fun _=>rfl) rfl) (ae (jj HB (aC (ac al (ac (aa rfl rfl rfl rfl) (ac al (ac (aa rfl rfl rfl rfl) (ac (aa rfl rfl rfl rfl) (ac (aC (ac al (ac (aa rfl rfl rfl rfl) ak (fun _=>rfl)) (fun _=>rfl))) ak (fun _=>rfl)) (fun _=>rfl)) (fun _=>rfl)) (fun _=>rfl)) (fun _=>rfl)) (fun _=>rfl))) rfl rfl rfl rfl (fun _=>rfl) rfl) ai))))))))
theorem a_instantiate (HB:Base w s0 mg mb){K:Frag}(HT:FltTop s0 mg mb K)(HN:NewBOk prog w s0 mg)(HL:LayAt prog w s0 mg)(F_unit_name:Fnc prog w s0 ft m mg (so "unit_name") .unit_name)(F_lay:Mth prog w s0 ft m .lay)(F_nfresh:Mth prog w s0 ft m .nfresh)(F_lay_formal_sub:Fnc prog w s0 ft m mg (so "lay_formal_sub") .lay_formal_sub)(F_formal_keys:Fnc prog w s0 ft m mg (so "formal_keys") .formal_keys)(F_match_formals:Fnc prog w s0 ft m mg (so "match_formals") .match_formals)(F_unit_sort:Fnc prog w s0 ft m mg (so "unit_sort") .unit_sort):SSL prog w s0 ft m nt_instantiate (au (top 22)).names (aN (top 22)) ir_instantiate.body:=
 (ae (cW (aa rfl rfl rfl rfl) (.cons rfl rfl (.cons rfl rfl (.cons rfl rfl (.cons rfl rfl (.cons rfl rfl (.cons rfl rfl .nil)))))) (fun _=>rfl) (fun _=>rfl)) (ae (aE (an (aa rfl rfl rfl rfl) aj (fun _ _=>rfl)) rfl rfl (fun _=>rfl)) (ae (aJ (aw (bj (aK HB F_unit_sort rfl rfl (ac (aa rfl rfl rfl rfl) ak (fun _=>rfl)) (fun _=>rfl)) (aa rfl rfl rfl rfl))) (ae (dD HB HT rfl (aa rfl rfl rfl rfl) (fun _=>rfl)) ai) ai) (ae (aE (aK HB F_match_formals rfl rfl (ac (an (aa rfl rfl rfl rfl) aj (fun _ _=>rfl)) (ac (aa rfl rfl rfl rfl) (ac (aa rfl rfl rfl rfl) ak (fun _=>rfl)) (fun _=>rfl)) (fun _=>rfl)) (fun _=>rfl)) rfl rfl (fun _=>rfl)) (ae (cW (aK HB F_formal_keys rfl rfl (ac (an (aa rfl rfl rfl rfl) aj (fun _ _=>rfl)) (ac (aa rfl rfl rfl rfl) ak (fun _=>rfl)) (fun _=>rfl)) (fun _=>rfl)) (.cons rfl rfl (.cons rfl rfl (.cons rfl rfl .nil))) (fun _=>rfl) (fun _=>rfl)) (ae (aE (se_newB HB HN rfl (aa rfl rfl rfl rfl) (fun _=>rfl)) rfl rfl (fun _=>rfl)) (ae (ss_forR HB rfl (bC HB rfl (an (aa rfl rfl rfl rfl) aj (fun _ _=>rfl)) (fun _=>rfl)) (fun _=>rfl) rfl rfl (ae (ss_ex (se_callL HB F_lay_formal_sub HL rfl (an (an (an (aa rfl rfl rfl rfl) aj (fun _ _=>rfl)) (aa rfl rfl rfl rfl) (fun _ _=>rfl)) aj (fun _ _=>rfl)) (fun _ _=>rfl) (ac (aa rfl rfl rfl rfl) (ac (an (an (aa rfl rfl rfl rfl) aj (fun _ _=>rfl)) (aa rfl rfl rfl rfl) (fun _ _=>rfl)) (ac (se_dcomp HB (bZ (by decide +kernel)) (an (aa rfl rfl rfl rfl) (aa rfl rfl rfl rfl) (fun _ _=>rfl)) rfl rfl (an (aa rfl rfl rfl rfl) (aa rfl rfl rfl rfl) (fun _ _=>rfl)) (an (aa rfl rfl rfl rfl) (aa rfl rfl rfl rfl) (fun _ _=>rfl)) (fun _ _=>rfl)) ak (fun _=>rfl)) (fun _=>rfl)) (fun _=>rfl)) (fun _=>rfl)) (fun _=>rfl)) ai)) (ae (aE (ju HB F_nfresh rfl rfl rfl rfl al (fun _=>rfl) rfl) rfl rfl (fun _=>rfl)) (ae (ss_lay HB F_lay rfl rfl rfl rfl (ac al (ac (aC (ac al (ac (aa rfl rfl rfl rfl) (ac (aa rfl rfl rfl rfl) (ac (se_innerPlus HB rfl rfl rfl rfl (ac (aa rfl rfl rfl rfl) ak (fun _=>rfl))) (ac (bq ak) ak (fun _=>rfl)) (fun _=>rfl)) (fun _=>rfl)) (fun _=>rfl)) (fun _=>rfl))) ak (fun _=>rfl)) (fun _=>rfl)) (fun _=>rfl) (fun _=>rfl) rfl) (ae (aJ (aw (se_isNN (aa rfl rfl rfl rfl))) (ae (ss_lay HB F_lay rfl rfl rfl rfl (ac al (ac (aC (ac al (ac (aa rfl rfl rfl rfl) (ac (aa rfl rfl rfl rfl) (ac (bq (ac (aa rfl rfl rfl rfl) ak (fun _=>rfl))) (ac (bq ak) (ac (bq ak) ak (fun _=>rfl)) (fun _=>rfl)) (fun _=>rfl)) (fun _=>rfl)) (fun _=>rfl)) (fun _=>rfl))) ak (fun _=>rfl)) (fun _=>rfl)) (fun _=>rfl) (fun _=>rfl) rfl) ai) ai) (ae (aE (aC (ac al (ac (aa rfl rfl rfl rfl) (ac (aa rfl rfl rfl rfl) (ac (aC (ac al (ac (aC (ac al (ac (aa rfl rfl rfl rfl) ak (fun _=>rfl)) (fun _=>rfl))) (ac (aK HB F_unit_name rfl rfl (ac (aa rfl rfl rfl rfl) ak (fun _=>rfl)) (fun _=>rfl)) ak (fun _=>rfl)) (fun _=>rfl)) (fun _=>rfl))) ak (fun _=>rfl)) (fun _=>rfl)) (fun _=>rfl)) (fun _=>rfl))) rfl rfl (fun _=>rfl)) (ae (aP (aC (ac (se_steps HB rfl rfl rfl rfl) (ac (aa rfl rfl rfl rfl) ak (fun _=>rfl)) (fun _=>rfl)))) ai))))))))))))
end
section
variable {prog:Program}{w:World}{s0:Shared}{ft:FT}{m:Nat}{mg mb:Str→Option Value}
theorem a_nfresh (HB:Base w s0 mg mb):SSL prog w s0 ft m nt_nfresh (au (cb (top 4) 1)).names (aN (cb (top 4) 1)) ir_nfresh.body:=
 (ae (ss_incCount HB rfl rfl rfl rfl) (ae (aE (cO (aw (ba (cx (aa rfl rfl rfl rfl) cX (bz aj) (fun _ _=>rfl)) al)) al (aa rfl rfl rfl rfl)) rfl rfl (fun _=>rfl)) (ae (aP (bG (bG (bG (bG (aa rfl rfl rfl rfl) al) (se_strI HB rfl (se_number HB rfl rfl rfl rfl) (fun _=>rfl))) al) (se_strI HB rfl (se_count HB rfl rfl rfl rfl) (fun _=>rfl)))) ai)))
theorem a_lay (HB:Base w s0 mg mb):SSL prog w s0 ft m nt_lay (au (cb (top 12) 1)).names (aN (cb (top 12) 1)) ir_lay.body:=
 (ae (ss_stepsApp HB (aC (ac (aa rfl rfl rfl rfl) (ac (aa rfl rfl rfl rfl) ak (fun _=>rfl)) (fun _=>rfl))) rfl rfl rfl rfl (fun _=>rfl) rfl) ai)
theorem a_mark (HB:Base w s0 mg mb)(F_lay:Mth prog w s0 ft m .lay)(F_fresh_mark:Fnc prog w s0 ft m mg (so "fresh_mark") .fresh_mark)(F_nfresh:Mth prog w s0 ft m .nfresh):SSL prog w s0 ft m nt_mark (au (cb (top 12) 2)).names (aN (cb (top 12) 2)) ir_mark.body:=
 (ae (aE (ju HB F_nfresh rfl rfl rfl rfl al (fun _=>rfl) rfl) rfl rfl (fun _=>rfl)) (ae (ss_lay HB F_lay rfl rfl rfl rfl (ac al (ac (aC (ac al (ac (aa rfl rfl rfl rfl) (ac (aa rfl rfl rfl rfl) (ac (aC (ac al (ac (aK HB F_fresh_mark rfl rfl (ac (aa rfl rfl rfl rfl) (ac (se_table HB rfl rfl rfl rfl) ak (fun _=>rfl)) (fun _=>rfl)) (fun _=>rfl)) (ac bA ak (fun _=>rfl)) (fun _=>rfl)) (fun _=>rfl))) ak (fun _=>rfl)) (fun _=>rfl)) (fun _=>rfl)) (fun _=>rfl))) ak (fun _=>rfl)) (fun _=>rfl)) (fun _=>rfl) (fun _=>rfl) rfl) (ae (aP (aC (ac al (ac (aa rfl rfl rfl rfl) ak (fun _=>rfl)) (fun _=>rfl)))) ai)))
end
noncomputable def lawBody:List PySem.Stmt:=aN (top 32)
noncomputable def iS:List PySem.Stmt:=(lawBody.drop 1).take 10
noncomputable def gj:List PySem.Stmt:=lawBody.drop 12
section
variable {prog:Program}{w:World}{s0:Shared}{ft:FT}{m:Nat}{mg mb:Str→Option Value}
theorem a_law1 (HB:Base w s0 mg mb)(F_due:Fnc prog w s0 ft m mg (so "_law_due") .due)(F_take:Fnc prog w s0 ft m mg (so "_law_take") .take)(F_actuals:Fnc prog w s0 ft m mg (so "_law_actuals") .actuals)(F_formal:Fnc prog w s0 ft m mg (so "_law_formal") .formal):SSL prog w s0 ft m ir (au (top 32)).names iS fL:=
 (ae (fE (si_l ak) (si_l ak) rfl rfl (by decide) rfl rfl (fun _=>rfl) (fun _=>rfl) (fun _=>rfl) (sw2 rfl rfl rfl rfl rfl rfl)) (ae (ss_forR HB rfl (bG aj (aK HB F_take rfl rfl (ac (aa rfl rfl rfl rfl) (ac aj ak (fun _=>rfl)) (fun _=>rfl)) (fun _=>rfl))) (fun _=>rfl) rfl rfl (ae (cW (aK HB F_formal rfl rfl (ac (aa rfl rfl rfl rfl) (ac (bG aj (aa rfl rfl rfl rfl)) ak (fun _=>rfl)) (fun _=>rfl)) (fun _=>rfl)) (.cons rfl rfl (.cons rfl rfl .nil)) (fun _=>rfl) (fun _=>rfl)) (ae (dr (aa rfl rfl rfl rfl) rfl rfl rfl rfl (fun _=>rfl) rfl) (ae (dr (aa rfl rfl rfl rfl) rfl rfl rfl rfl (fun _=>rfl) rfl) ai)))) (ae (aE (aK HB F_actuals rfl rfl (ac (aa rfl rfl rfl rfl) (ac (cH rfl rfl rfl rfl HB.sys) ak (fun _=>rfl)) (fun _=>rfl)) (fun _=>rfl)) rfl rfl (fun _=>rfl)) (ae (aE (an (aC (ac al (ac al (ac al ak (fun _=>rfl)) (fun _=>rfl)) (fun _=>rfl))) (aK HB F_take rfl rfl (ac (aa rfl rfl rfl rfl) (ac aj ak (fun _=>rfl)) (fun _=>rfl)) (fun _=>rfl)) (fun _ _=>rfl)) rfl rfl (fun _=>rfl)) (ae (aE (aC (ac al (ac aj (ac al (ac (bq ak) (ac (bq ak) ak (fun _=>rfl)) (fun _=>rfl)) (fun _=>rfl)) (fun _=>rfl)) (fun _=>rfl))) rfl rfl (fun _=>rfl)) (ae (aJ (aw (bj (aa rfl rfl rfl rfl) al)) (ae (aE (aC (ac al (ac aj (ac (aC (ac (aa rfl rfl rfl rfl) (ac al (ac (bq ak) (ac (cO (aw (ba (aa rfl rfl rfl rfl) al)) bA (aC (ac al (ac al ak (fun _=>rfl)) (fun _=>rfl)))) ak (fun _=>rfl)) (fun _=>rfl)) (fun _=>rfl)) (fun _=>rfl))) ak (fun _=>rfl)) (fun _=>rfl)) (fun _=>rfl))) rfl rfl (fun _=>rfl)) ai) ai) (ae (aE (cO (aw (ba (aK HB F_take rfl rfl (ac (aa rfl rfl rfl rfl) (ac aj ak (fun _=>rfl)) (fun _=>rfl)) (fun _=>rfl)) aj)) al (aa rfl rfl rfl rfl)) rfl rfl (fun _=>rfl)) (ae (aE (bG aj (aK HB F_take rfl rfl (ac (aa rfl rfl rfl rfl) (ac aj ak (fun _=>rfl)) (fun _=>rfl)) (fun _=>rfl))) rfl rfl (fun _=>rfl)) (ae (aE (cO (aw (ba (aa rfl rfl rfl rfl) (aa rfl rfl rfl rfl))) (aK HB F_due rfl rfl (ac (cH rfl rfl rfl rfl HB.sys) (ac (cH rfl rfl rfl rfl HB.sys) (ac (aa rfl rfl rfl rfl) ak (fun _=>rfl)) (fun _=>rfl)) (fun _=>rfl)) (fun _=>rfl)) bA) rfl rfl (fun _=>rfl)) (ae (aE (aC (ac al (ac (aa rfl rfl rfl rfl) (ac (aa rfl rfl rfl rfl) (ac al (ac (aC (ac al (ac al ak (fun _=>rfl)) (fun _=>rfl))) (ac (cy (ci (bZ (by decide +kernel)) (aa rfl rfl rfl rfl) (.tup (.cons rfl rfl (.cons rfl rfl (.cons rfl rfl .nil)))) cw (aC (ac (aa rfl rfl rfl rfl) (ac (aa rfl rfl rfl rfl) ak (fun _=>rfl)) (fun _=>rfl))) (fun _ _=>rfl))) ak (fun _=>rfl)) (fun _=>rfl)) (fun _=>rfl)) (fun _=>rfl)) (fun _=>rfl)) (fun _=>rfl))) rfl rfl (fun _=>rfl)) ai))))))))))
theorem a_law3 (HB:Base w s0 mg mb)(F_is_laid:Fnc prog w s0 ft m mg (so "_law_is_laid") .is_laid):SSL prog w s0 ft m ir (au (top 32)).names gj eV:=
 (ae (aJ (dV (bk (aw (fR (aa rfl rfl rfl rfl))) (bk (aw (bj (cx (aa rfl rfl rfl rfl) cX (bz aj) (fun _ _=>rfl)) (aC (ac al (ac (aa rfl rfl rfl rfl) (ac al ak (fun _=>rfl)) (fun _=>rfl)) (fun _=>rfl))))) (bk (aw (bj (an (an (aa rfl rfl rfl rfl) aj (fun _ _=>rfl)) aj (fun _ _=>rfl)) al)) (bk (aw (bj (an (an (aa rfl rfl rfl rfl) aj (fun _ _=>rfl)) aj (fun _ _=>rfl)) al)) bW))))) (ae (aP cf) ai) ai) (ae (cW (an (aa rfl rfl rfl rfl) eC (fun _ _=>rfl)) (.cons rfl rfl (.cons rfl rfl .nil)) (fun _=>rfl) (fun _=>rfl)) (ae (aJ (dV (bk (aw (bj (aa rfl rfl rfl rfl) al)) (bk (aw (bj (an (an (aa rfl rfl rfl rfl) aj (fun _ _=>rfl)) aj (fun _ _=>rfl)) (aC (ac al (ac (an (aa rfl rfl rfl rfl) aj (fun _ _=>rfl)) ak (fun _=>rfl)) (fun _=>rfl))))) (bk (aw (se_ninn al (an (aa rfl rfl rfl rfl) aj (fun _ _=>rfl)) rfl)) (bk (aw (se_inn (an (aa rfl rfl rfl rfl) aj (fun _ _=>rfl)) (cy (ci (bZ (by decide +kernel)) (cx (aa rfl rfl rfl rfl) cX (bz eC) (fun _ _=>rfl)) (.tup (.cons rfl rfl (.cons rfl rfl .nil))) cw (an (aa rfl rfl rfl rfl) aj (fun _ _=>rfl)) (fun _ _=>rfl))) rfl)) bW))))) (ae (aP cf) ai) ai) (ae (aJ (dV (bk (aw (bj (aa rfl rfl rfl rfl) (aC (ac al (ac (aa rfl rfl rfl rfl) (ac (an (aa rfl rfl rfl rfl) aj (fun _ _=>rfl)) (ac (an (aa rfl rfl rfl rfl) aj (fun _ _=>rfl)) (ac (bq ak) ak (fun _=>rfl)) (fun _=>rfl)) (fun _=>rfl)) (fun _=>rfl)) (fun _=>rfl))))) (bk (aw (bj (bC HB rfl (an (aa rfl rfl rfl rfl) aj (fun _ _=>rfl)) (fun _=>rfl)) (bG (se_lenV HB rfl rfl rfl rfl rfl) aj))) (bk (aw (bj (an (an (aa rfl rfl rfl rfl) aj (fun _ _=>rfl)) eC (fun _ _=>rfl)) (aa rfl rfl rfl rfl))) bW)))) (ae (aP cf) ai) ai) (ae (aP (aK HB F_is_laid rfl rfl (ac (aa rfl rfl rfl rfl) (ac (cH rfl rfl rfl rfl HB.sys) (ac (aa rfl rfl rfl rfl) ak (fun _=>rfl)) (fun _=>rfl)) (fun _=>rfl)) (fun _=>rfl))) ai)))))
end
noncomputable def funcD:Data→Option FuncData
 | .func fd=>some fd
 | _=>none
noncomputable def fldD:Data→Option (Array Value)
 | .fields vs=>some vs
 | _=>none
noncomputable def dictD:Data→Option (Array DictEntry)
 | .dict es _=>some es
 | _=>none
noncomputable def strV:Value→Option Str
 | .str x _=>some x
 | _=>none
noncomputable def refV:Value→Option Addr
 | .ref c=>some c
 | _=>none
theorem funcD_inv {d:Data}{fd:FuncData}(h:funcD d=some fd):d=.func fd:=by
 unfold funcD at h;split at h
 ·cases h;rfl
 ·cases h
theorem fldD_inv {d:Data}{vs:Array Value}(h:fldD d=some vs):d=.fields vs:=by
 unfold fldD at h;split at h
 ·cases h;rfl
 ·cases h
theorem dictD_inv {d:Data}{es:Array DictEntry}(h:dictD d=some es): ∃ep,d=.dict es ep:=by
 unfold dictD at h;split at h
 ·cases h;exact ⟨_,rfl⟩
 ·cases h
theorem strV_inv {v:Value}{x:Str}(h:strV v=some x): ∃t,v=.str x t:=by
 unfold strV at h;split at h
 ·cases h;exact ⟨_,rfl⟩
 ·cases h
theorem refV_inv {v:Value}{a:Addr}(h:refV v=some a):v=.ref a:=by
 unfold refV at h;split at h
 ·cases h;rfl
 ·cases h
noncomputable def cN (K:Frag)(fa:Addr):FuncData:=((K.lookup fa).bind fun o=>funcD o.data).getD {name:="",qualname:="",params:=⟨[],[],none,[],[],none,[]⟩,body:=.stmts [],scope:=default,globals:=0,closure:=[],defaults:=.none,kwdefaults:=.none,pyModule:=.none,code:=.none}
noncomputable def isFn (K:Frag)(fa:Addr):Bool:=((K.lookup fa).bind fun o=>funcD o.data).isSome
noncomputable def codeOk (K:Frag)(cd:Value)(q:Str):Bool:=((refV cd).bind fun c=>(K.lookup c).bind fun o=>(fldD o.data).bind fun vs=>(vs[1]?).bind strV).any (· ==q)
theorem isFn_look {K:Frag}{fa:Addr}(h:isFn K fa=true): ∃o fd,K.lookup fa=some o∧o.data=.func fd:=
 x11 (Option.isSome_iff_exists.mp h) fun fd q=>x12 (Option.bind_eq_some_iff.mp q) fun o e r=>⟨o,fd,e,funcD_inv r⟩
theorem codeOk_inv {K:Frag}{cd:Value}{q:Str}(h:codeOk K cd q=true): ∃c o vs t,cd=.ref c∧K.lookup c=some o∧o.data=.fields vs∧vs[1]? =some (.str q t):=by
 refine x12 ((Option.any_eq_true _ _).1 h) fun y e hy=>?_
 refine x12 (Option.bind_eq_some_iff.mp e) fun c e1 e=>?_
 refine x12 (Option.bind_eq_some_iff.mp e) fun o e2 e=>?_
 refine x12 (Option.bind_eq_some_iff.mp e) fun vs e3 e=>?_
 refine x12 (Option.bind_eq_some_iff.mp e) fun v e4 e=>?_
 refine x11 (strV_inv e) fun t e5=>?_
 exact ⟨c,o,vs,t,refV_inv e1,e2,fldD_inv e3,by rw [e4,e5,eq_of_beq hy]⟩
theorem fdOf_eq {K:Frag}{fa:Addr}{o:Obj}{fd:FuncData}(e:K.lookup fa=some o)(hd:o.data=.func fd):cN K fa=fd:=by
 delta cN;rw [e];show Option.getD (funcD o.data) _=fd;rw [hd];rfl
structure FnK (K:Frag)(fa:Addr)(body:List PySem.Stmt)(scope:Scope)(params:List Str):Prop where
 h1:isFn K fa=true
 h2:(cN K fa).body=.stmts body
 h3:(cN K fa).scope=scope
 h4:(cN K fa).closure=[]
 h5:(cN K fa).globals=mainGlobals
 h6:(cN K fa).builtins=builtinsNs
 h7:codeOk K (cN K fa).code (cN K fa).qualname=true
 h8: ∀vals:List Value,vals.length=params.length→bindArgs (cN K fa) ⟨vals,[]⟩=pure (params.zip vals)
noncomputable def fkT (K:Frag)(fa:Addr):=(isFn K fa,(cN K fa).body,(cN K fa).scope,(cN K fa).closure,(cN K fa).globals,(cN K fa).builtins,codeOk K (cN K fa).code (cN K fa).qualname)
theorem FnK.of {K:Frag}{fa:Addr}{body:List PySem.Stmt}{scope:Scope}{params:List Str}(h:fkT K fa=(true,.stmts body,scope,[],mainGlobals,builtinsNs,true))(h8: ∀vals:List Value,vals.length=params.length→bindArgs (cN K fa) ⟨vals,[]⟩=pure (params.zip vals)):FnK K fa body scope params:=
 ⟨congrArg (·.1) h,congrArg (·.2.1) h,congrArg (·.2.2.1) h,congrArg (·.2.2.2.1) h,congrArg (·.2.2.2.2.1) h,congrArg (·.2.2.2.2.2.1) h,congrArg (·.2.2.2.2.2.2) h,h8⟩
theorem FnK.of1 {K:Frag}{fa:Addr}{body:List PySem.Stmt}{scope:Scope}{p:Str}(h:fkT K fa=(true,.stmts body,scope,[],mainGlobals,builtinsNs,true))(h8: ∀a,bindArgs (cN K fa) ⟨[a],[]⟩=pure [(p,a)]):FnK K fa body scope [p]:=
 .of h fun v h=>by
  apply bK h;intro a v h;apply jA h;exact h8 a
theorem FnK.of2 {K:Frag}{fa:Addr}{body:List PySem.Stmt}{scope:Scope}{p q:Str}(h:fkT K fa=(true,.stmts body,scope,[],mainGlobals,builtinsNs,true))(h8: ∀a b,bindArgs (cN K fa) ⟨[a,b],[]⟩=pure [(p,a),(q,b)]):FnK K fa body scope [p,q]:=
 .of h fun v h=>by
  apply bK h;intro a v h;apply bK h;intro b v h;apply jA h;exact h8 a b
theorem FnK.of3 {K:Frag}{fa:Addr}{body:List PySem.Stmt}{scope:Scope}{p q r:Str}(h:fkT K fa=(true,.stmts body,scope,[],mainGlobals,builtinsNs,true))(h8: ∀a b c,bindArgs (cN K fa) ⟨[a,b,c],[]⟩=pure [(p,a),(q,b),(r,c)]):FnK K fa body scope [p,q,r]:=
 .of h fun v h=>by
  apply bK h;intro a v h;apply bK h;intro b v h;apply bK h;intro c v h;apply jA h;exact h8 a b c
theorem FnK.of4 {K:Frag}{fa:Addr}{body:List PySem.Stmt}{scope:Scope}{p q r t:Str}(h:fkT K fa=(true,.stmts body,scope,[],mainGlobals,builtinsNs,true))(h8: ∀a b c d,bindArgs (cN K fa) ⟨[a,b,c,d],[]⟩=pure [(p,a),(q,b),(r,c),(t,d)]):FnK K fa body scope [p,q,r,t]:=
 .of h fun v h=>by
  apply bK h;intro a v h;apply bK h;intro b v h;apply bK h;intro c v h;apply bK h;intro d v h;apply jA h;exact h8 a b c d
theorem FnK.at {K:Frag}{s0:Shared}{fa:Addr}{body:List PySem.Stmt}{scope:Scope}{params:List Str}(H:FnK K fa body scope params)(X:K.In s0.heap):gb s0 fa body scope params:=by
 obtain ⟨h1,h2,h3,h4,h5,h6,h7,h8⟩:=H
 refine x11 (isFn_look h1) fun o q=>?_
 refine x12 q fun fd e hd=>?_
 rw [fdOf_eq e hd] at h2 h3 h4 h5 h6 h7 h8
 refine x44 (codeOk_inv h7) fun c o' vs t a1 a2 a3 a4=>?_
 exact ⟨o,fd,X _ _ e,hd,h2,h3,h4,h5,h6,⟨c,o',vs,t,a1,X _ _ a2,a3,a4⟩,h8⟩
structure FltRead (K:Frag):Prop where
 ga:findIn K (.ref 51) "__getattribute__"=some (some (.builtin "BaseException.__getattribute__"))
 gx:findIn K (.ref 51) "__getattr__"=some none
 sub:mroIn K 51 (.type "BaseException")=some true
 line:findIn K (.ref 51) "line"=some none
 hd:hasDictIn K 51=true
noncomputable def glK (K:Frag)(x:Str):Option Value:=((K.lookup 3).bind fun o=>dictD o.data).bind fun es=>nsFind es x
noncomputable def isDictK (K:Frag):Bool:=((K.lookup 3).bind fun o=>dictD o.data).isSome
noncomputable def glTab:List (Str×Option Value):=[("len",none),("range",none),("str",none),("list",none),("enumerate",none),("_law_heads",some (.ref 224)),("Exception",none),("AdaError",some (.ref 31)),("CheckFault",some (.ref 51)),("Naming",some (.ref 77)),("Builder",some (.ref 157)),("LAYERS",some (.ref 204)),("formal_names",some (.ref 88)),("default_of",some (.ref 95)),("choice_name",some (.ref 102)),("types_told",some (.ref 109)),("formal_keys",some (.ref 114)),("match_formals",some (.ref 119)),("fresh_mark",some (.ref 126)),("fresh_spec",some (.ref 182)),("lay_formal_sub",some (.ref 189)),("operator_node",some (.ref 196)),("unit_name",some (.ref 211)),("unit_sort",some (.ref 218)),("instantiate",some (.ref 223)),("_law_take",some (.ref 231)),("_law_formal",some (.ref 238)),("_law_row",some (.ref 245)),("_law_actuals",some (.ref 252)),("_law_due",some (.ref 257)),("_law_plain",some (.ref 262)),("_law_is_laid",some (.ref 267))]
noncomputable def layEs (P:Params):List DictEntry:=[⟨PyData.keyHash P "ftype",.str "ftype" 481,.ref 168⟩,⟨PyData.keyHash P "fobject",.str "fobject" 482,.ref 175⟩,⟨PyData.keyHash P "fsub",.str "fsub" 483,.ref 189⟩,⟨PyData.keyHash P "fpack",.str "fpack" 484,.ref 203⟩]
structure MthK (K:Frag)(f:Fn)(fa:Addr):Prop where
 h1:plainGet K (gA f).1 ""=true
 h2:findIn K (.ref (gA f).1) (gA f).2=some (some (.ref fa))
 h3:typeIn K (.ref fa)=some (.type "function")
structure KOk (P:Params)(K:Frag):Prop where
 dic:isDictK K=true
 gl:glTab.map (fun q=>glK K q.1)=glTab.map (·.2)
 cls:ClsOk K
 heads:K.lookup 224=some {cls:=.type "tuple",data:=.seq #[.str "\"-\"" 512,.str "\"mod\"" 513,.str "\"-\"" 514,.str "pick" 515] 0}
 lays:K.lookup 204=some (dictOf (layEs P) 4)
 flt:FltOk K
 rd:FltRead K
 init:InitOk K 140 67
 kb:keepIn K (.ref 157)=true
 kn:keepIn K (.ref 77)=true
 m_nfresh:MthK K .nfresh 74
 m_lay:MthK K .lay 147
 m_mark:MthK K .mark 154
 at_formal_names:FnK K 88 (aN (top 5)) (au (top 5)) (nt_formal_names.take ir_formal_names.np)
 at_default_of:FnK K 95 (aN (top 6)) (au (top 6)) (nt_default_of.take ir_default_of.np)
 at_choice_name:FnK K 102 (aN (top 7)) (au (top 7)) (nt_choice_name.take ir_choice_name.np)
 at_types_told:FnK K 109 (aN (top 8)) (au (top 8)) (nt_types_told.take ir_types_told.np)
 at_formal_keys:FnK K 114 (aN (top 9)) (au (top 9)) (nt_formal_keys.take ir_formal_keys.np)
 at_match_formals:FnK K 119 (aN (top 10)) (au (top 10)) (nt_match_formals.take ir_match_formals.np)
 at_fresh_mark:FnK K 126 (aN (top 11)) (au (top 11)) (nt_fresh_mark.take ir_fresh_mark.np)
 at_fresh_spec:FnK K 182 (aN (top 15)) (au (top 15)) (nt_fresh_spec.take ir_fresh_spec.np)
 at_lay_formal_sub:FnK K 189 (aN (top 16)) (au (top 16)) (nt_lay_formal_sub.take ir_lay_formal_sub.np)
 at_operator_node:FnK K 196 (aN (top 17)) (au (top 17)) (nt_operator_node.take ir_operator_node.np)
 at_unit_name:FnK K 211 (aN (top 20)) (au (top 20)) (nt_unit_name.take ir_unit_name.np)
 at_unit_sort:FnK K 218 (aN (top 21)) (au (top 21)) (nt_unit_sort.take ir_unit_sort.np)
 at_instantiate:FnK K 223 (aN (top 22)) (au (top 22)) (nt_instantiate.take ir_instantiate.np)
 at_take:FnK K 231 (aN (top 25)) (au (top 25)) (nt_take.take ir_take.np)
 at_formal:FnK K 238 (aN (top 26)) (au (top 26)) (nt_formal.take ir_formal.np)
 at_row:FnK K 245 (aN (top 27)) (au (top 27)) (nt_row.take ir_row.np)
 at_actuals:FnK K 252 (aN (top 28)) (au (top 28)) (nt_actuals.take ir_actuals.np)
 at_due:FnK K 257 (aN (top 29)) (au (top 29)) (nt_due.take ir_due.np)
 at_plain:FnK K 262 (aN (top 30)) (au (top 30)) (nt_plain.take ir_plain.np)
 at_is_laid:FnK K 267 (aN (top 31)) (au (top 31)) (nt_is_laid.take ir_is_laid.np)
 at_nfresh:FnK K 74 (aN (cb (top 4) 1)) (au (cb (top 4) 1)) (nt_nfresh.take ir_nfresh.np)
 at_lay:FnK K 147 (aN (cb (top 12) 1)) (au (cb (top 12) 1)) (nt_lay.take ir_lay.np)
 at_mark:FnK K 154 (aN (cb (top 12) 2)) (au (cb (top 12) 2)) (nt_mark.take ir_mark.np)
 at_ada:FnK K 28 (aN (cb (top 1) 0)) (au (cb (top 1) 0)) ["self","text"]
 at_flt:FnK K 48 (aN (cb (top 2) 0)) (au (cb (top 2) 0)) ["self","line","text"]
 at_nam:FnK K 67 (aN (cb (top 4) 0)) (au (cb (top 4) 0)) ["self","number"]
 at_bld:FnK K 140 (aN (cb (top 12) 0)) (au (cb (top 12) 0)) ["self","number"]
theorem jH:bJ nt_formal_names (au (top 5)) ir_formal_names=true:=by decide +kernel
theorem chk_default_of:bJ nt_default_of (au (top 6)) ir_default_of=true:=by decide +kernel
theorem chk_choice_name:bJ nt_choice_name (au (top 7)) ir_choice_name=true:=by decide +kernel
theorem chk_types_told:bJ nt_types_told (au (top 8)) ir_types_told=true:=by decide +kernel
theorem chk_formal_keys:bJ nt_formal_keys (au (top 9)) ir_formal_keys=true:=by decide +kernel
theorem ji:bJ nt_match_formals (au (top 10)) ir_match_formals=true:=by decide +kernel
theorem chk_fresh_mark:bJ nt_fresh_mark (au (top 11)) ir_fresh_mark=true:=by decide +kernel
theorem chk_fresh_spec:bJ nt_fresh_spec (au (top 15)) ir_fresh_spec=true:=by decide +kernel
theorem iQ:bJ nt_lay_formal_sub (au (top 16)) ir_lay_formal_sub=true:=by decide +kernel
theorem jh:bJ nt_operator_node (au (top 17)) ir_operator_node=true:=by decide +kernel
theorem chk_unit_name:bJ nt_unit_name (au (top 20)) ir_unit_name=true:=by decide +kernel
theorem chk_unit_sort:bJ nt_unit_sort (au (top 21)) ir_unit_sort=true:=by decide +kernel
theorem chk_instantiate:bJ nt_instantiate (au (top 22)) ir_instantiate=true:=by decide +kernel
theorem chk_take:bJ nt_take (au (top 25)) ir_take=true:=by decide +kernel
theorem chk_formal:bJ nt_formal (au (top 26)) ir_formal=true:=by decide +kernel
theorem chk_row:bJ nt_row (au (top 27)) ir_row=true:=by decide +kernel
theorem chk_actuals:bJ nt_actuals (au (top 28)) ir_actuals=true:=by decide +kernel
theorem chk_due:bJ nt_due (au (top 29)) ir_due=true:=by decide +kernel
theorem chk_plain:bJ nt_plain (au (top 30)) ir_plain=true:=by decide +kernel
theorem chk_is_laid:bJ nt_is_laid (au (top 31)) ir_is_laid=true:=by decide +kernel
theorem chk_nfresh:bJ nt_nfresh (au (cb (top 4) 1)) ir_nfresh=true:=by decide +kernel
theorem chk_lay:bJ nt_lay (au (cb (top 12) 1)) ir_lay=true:=by decide +kernel
theorem chk_mark:bJ nt_mark (au (cb (top 12) 2)) ir_mark=true:=by decide +kernel
theorem mg_of {K:Frag}{h:Heap}{mg:Str→Option Value}(X:K.In h)(hn:h.Ns mainGlobals mg)(hd:isDictK K=true)(x:Str):mg x=glK K x:=by
 obtain ⟨o,es,ep,ho,hdat,_,hm⟩:=hn
 refine x11 (Option.isSome_iff_exists.mp hd) fun es' q=>?_
 refine x12 (Option.bind_eq_some_iff.mp q) fun o' e r=>?_
 refine x11 (dictD_inv r) fun ep' hd'=>?_
 have h1:=X _ _ e
 rw [show (3:Addr)=mainGlobals from rfl,ho] at h1
 cases h1
 rw [hdat] at hd'
 cases hd'
 exact (hm x).symm.trans (by delta glK;rw [q];rfl)
structure TopF (P:Params)(K:Frag)(s0:Shared)(mg mb:Str→Option Value):Prop where
 g:s0.heap.Ns mainGlobals mg
 b:s0.heap.Ns builtinsNs mb
 nol:s0.heap.NoLimit
 sys: ∃o,s0.heap.get? sysModules=some o
 bi: ∀x:Str,x≠"__name__"→mb x=bootBuiltins x
 inn:K.In s0.heap
 ok:KOk P K
theorem TopF.gl {P:Params}{K:Frag}{s0:Shared}{mg mb:Str→Option Value}(T:TopF P K s0 mg mb)(i:Nat){x:Str}{v:Option Value}(e:glTab[i]? =some (x,v)):mg x=v:=by
 rw [mg_of T.inn T.g T.ok.dic]
 exact (List.map_inj_left.mp T.ok.gl) _ (List.mem_of_getElem? e)
section
variable {prog:Program}{w:World}{s0:Shared}{mg mb:Str→Option Value}{K:Frag}
theorem aO (T:TopF w.params K s0 mg mb):Base w s0 mg mb where
 g:=T.g
 b:=T.b
 sys:=T.sys
 cls:=⟨_,T.inn,T.ok.cls⟩
 nol:=T.nol
 len:=⟨T.gl 0 rfl,(T.bi _ (by decide)).trans (by decide +kernel)⟩
 range:=⟨T.gl 1 rfl,(T.bi _ (by decide)).trans (by decide +kernel)⟩
 str:=⟨T.gl 2 rfl,(T.bi _ (by decide)).trans (by decide +kernel)⟩
 list:=⟨T.gl 3 rfl,(T.bi _ (by decide)).trans (by decide +kernel)⟩
 enum:=⟨T.gl 4 rfl,(T.bi _ (by decide)).trans (by decide +kernel)⟩
 heads:=⟨512,513,514,515,0,T.gl 5 rfl,T.inn _ _ T.ok.heads⟩
theorem iJ (T:TopF w.params K s0 mg mb):FltTop s0 mg mb K where
 ok:=T.ok.flt
 inn:=T.inn
 exc:=⟨T.gl 6 rfl,(T.bi _ (by decide)).trans (by decide +kernel)⟩
 ada:=T.gl 7 rfl
 flt:=T.gl 8 rfl
 f28:=⟨_,_,_,_,_,_,_,_,_,_,_,T.ok.at_ada.at T.inn,by decide +kernel,by decide +kernel,by decide +kernel⟩
 f48:=⟨_,_,_,_,_,_,_,_,_,_,_,T.ok.at_flt.at T.inn,by decide +kernel,by decide +kernel,by decide +kernel⟩
theorem newB_of (T:TopF w.params K s0 mg mb):NewBOk prog w s0 mg:=
 ⟨⟨_,T.inn,T.ok.kb⟩,T.gl 10 rfl,fun old hr h=>
  new_builder (aO T) T.ok.cls T.inn T.ok.init (T.ok.at_nam.at T.inn) (by decide +kernel) (T.ok.at_bld.at T.inn) (by decide +kernel) (by decide +kernel) (T.gl 9 rfl) T.ok.kn old hr h⟩
theorem lay_of (T:TopF w.params K s0 mg mb):LayAt prog w s0 mg:=by
 refine ⟨204,dictOf (layEs w.params) 4,[("ftype",.ref 168),("fobject",.ref 175),("fsub",.ref 189),("fpack",.ref 203)],189,T.gl 11 rfl,T.inn _ _ T.ok.lays,⟨⟨rfl,rfl,rfl⟩,(layEs w.params).toArray,4,rfl,?_,?_,by decide +kernel⟩,
  T.gl 20 rfl,by kernel_rfl⟩
 ·intro e he
  simp only [layEs,List.mem_toArray,List.mem_cons,List.not_mem_nil,or_false] at he
  rcases he with rfl | rfl | rfl | rfl <;> exact ⟨_,strKind_is _ _ _ _,rfl⟩
 ·exact .cons (strKind_is _ _ _ _) rfl (.cons (strKind_is _ _ _ _) rfl (.cons (strKind_is _ _ _ _) rfl (.cons (strKind_is _ _ _ _) rfl .nil)))
end
theorem FnOk.mono {prog:Program}{w:World}{s0:Shared}{m m':Nat}{fa:Addr}{F:List D→G→Res (D×G)}(h:FnOk prog w s0 m fa F)(hm:m≤m'):FnOk prog w s0 m' fa F:=
 fun hC=>h (hC.mono hm)
theorem fnOk_bad {prog:Program}{w:World}{s0:Shared}{m:Nat}{fa:Addr}:FnOk prog w s0 m fa (fun _ _=>.bad):=fun _ _ _ h=>h.elim
theorem isFn_obj {K:Frag}{s0:Shared}{fa:Addr}(X:K.In s0.heap)(h:isFn K fa=true): ∃o fd,s0.heap.get? fa=some o∧o.data=.func fd:=
 x11 (isFn_look h) fun o q=>x12 q fun fd e hd=>⟨o,fd,X _ _ e,hd⟩
section
variable {prog:Program}{w:World}{s0:Shared}{mg mb:Str→Option Value}{K:Frag}
theorem bo {ft:FT}{m:Nat}{x:Str}{fa:Addr}{f:Fn}{b:List PySem.Stmt}{sc:Scope}{ps:List Str}(T:TopF w.params K s0 mg mb)(i:Nat)(hm:glTab[i]? =some (x,some (.ref fa)))(hf:FnK K fa b sc ps)(H:FnOk prog w s0 m fa (ft f)):
  Fnc prog w s0 ft m mg x f:=⟨fa,⟨T.gl i hm,isFn_obj T.inn hf.h1⟩,H⟩
theorem fW {ft:FT}{m:Nat}{fa:Addr}{f:Fn}{b:List PySem.Stmt}{sc:Scope}{ps:List Str}(T:TopF w.params K s0 mg mb)(hm:MthK K f fa)(hf:FnK K fa b sc ps)(H:FnOk prog w s0 m fa (ft f)):
  Mth prog w s0 ft m f:=⟨fa,K,T.inn,hm.h1,hm.h2,hm.h3,isFn_obj T.inn hf.h1,H⟩
theorem i0 (T:TopF w.params K s0 mg mb):FnOk prog w s0 2 231 (t0 .take):=
 bR (ft:=tb) (m:=0) (aO T) (T.ok.at_take.at T.inn) chk_take (a_take (aO T))
theorem ok_formal_names (T:TopF w.params K s0 mg mb):FnOk prog w s0 4 88 (t1 .formal_names):=
 bR (ft:=t0) (m:=2) (aO T) (T.ok.at_formal_names.at T.inn) jH (a_formal_names)
theorem ok_default_of (T:TopF w.params K s0 mg mb):FnOk prog w s0 4 95 (t1 .default_of):=
 bR (ft:=t0) (m:=2) (aO T) (T.ok.at_default_of.at T.inn) chk_default_of (a_default_of)
theorem ok_choice_name (T:TopF w.params K s0 mg mb):FnOk prog w s0 4 102 (t1 .choice_name):=
 bR (ft:=t0) (m:=2) (aO T) (T.ok.at_choice_name.at T.inn) chk_choice_name (a_choice_name (aO T) (iJ T))
theorem ok_types_told (T:TopF w.params K s0 mg mb):FnOk prog w s0 4 109 (t1 .types_told):=
 bR (ft:=t0) (m:=2) (aO T) (T.ok.at_types_told.at T.inn) chk_types_told (a_types_told (aO T))
theorem jw (T:TopF w.params K s0 mg mb):FnOk prog w s0 4 196 (t1 .operator_node):=
 bR (ft:=t0) (m:=2) (aO T) (T.ok.at_operator_node.at T.inn) jh (a_operator_node)
theorem ok_unit_name (T:TopF w.params K s0 mg mb):FnOk prog w s0 4 211 (t1 .unit_name):=
 bR (ft:=t0) (m:=2) (aO T) (T.ok.at_unit_name.at T.inn) chk_unit_name (a_unit_name)
theorem ok_unit_sort (T:TopF w.params K s0 mg mb):FnOk prog w s0 4 218 (t1 .unit_sort):=
 bR (ft:=t0) (m:=2) (aO T) (T.ok.at_unit_sort.at T.inn) chk_unit_sort (a_unit_sort)
theorem ok_formal (T:TopF w.params K s0 mg mb):FnOk prog w s0 4 238 (t1 .formal):=
 bR (ft:=t0) (m:=2) (aO T) (T.ok.at_formal.at T.inn) chk_formal (a_formal (aO T) (bo T 25 rfl T.ok.at_take (FnOk.mono (i0 T) (by decide))))
theorem ok_row (T:TopF w.params K s0 mg mb):FnOk prog w s0 4 245 (t1 .row):=
 bR (ft:=t0) (m:=2) (aO T) (T.ok.at_row.at T.inn) chk_row (a_row (aO T) (bo T 25 rfl T.ok.at_take (FnOk.mono (i0 T) (by decide))))
theorem ok_plain (T:TopF w.params K s0 mg mb):FnOk prog w s0 4 262 (t1 .plain):=
 bR (ft:=t0) (m:=2) (aO T) (T.ok.at_plain.at T.inn) chk_plain (a_plain (aO T))
theorem ok_due (T:TopF w.params K s0 mg mb):FnOk prog w s0 4 257 (t1 .due):=
 bR (ft:=t0) (m:=2) (aO T) (T.ok.at_due.at T.inn) chk_due (a_due (aO T))
theorem ok_fresh_mark (T:TopF w.params K s0 mg mb):FnOk prog w s0 4 126 (t1 .fresh_mark):=
 bR (ft:=t0) (m:=2) (aO T) (T.ok.at_fresh_mark.at T.inn) chk_fresh_mark (a_fresh_mark (aO T) (bo T 18 rfl T.ok.at_fresh_mark fnOk_bad))
theorem iq (T:TopF w.params K s0 mg mb):FnOk prog w s0 4 74 (t1 .nfresh):=
 bR (ft:=t0) (m:=2) (aO T) (T.ok.at_nfresh.at T.inn) chk_nfresh (a_nfresh (aO T))
theorem ok_lay (T:TopF w.params K s0 mg mb):FnOk prog w s0 4 147 (t1 .lay):=
 bR (ft:=t0) (m:=2) (aO T) (T.ok.at_lay.at T.inn) chk_lay (a_lay (aO T))
theorem gw (T:TopF w.params K s0 mg mb):FnOk prog w s0 6 114 (t2 .formal_keys):=
 bR (ft:=t1) (m:=4) (aO T) (T.ok.at_formal_keys.at T.inn) chk_formal_keys (a_formal_keys (aO T) (iJ T) (bo T 12 rfl T.ok.at_formal_names (FnOk.mono (ok_formal_names T) (by decide))) (bo T 13 rfl T.ok.at_default_of (FnOk.mono (ok_default_of T) (by decide))) (bo T 15 rfl T.ok.at_types_told (FnOk.mono (ok_types_told T) (by decide))))
theorem ok_actuals (T:TopF w.params K s0 mg mb):FnOk prog w s0 6 252 (t2 .actuals):=
 bR (ft:=t1) (m:=4) (aO T) (T.ok.at_actuals.at T.inn) chk_actuals (a_actuals (aO T) (bo T 27 rfl T.ok.at_row (FnOk.mono (ok_row T) (by decide))) (bo T 25 rfl T.ok.at_take (FnOk.mono (i0 T) (by decide))))
theorem ok_is_laid (T:TopF w.params K s0 mg mb):FnOk prog w s0 6 267 (t2 .is_laid):=
 bR (ft:=t1) (m:=4) (aO T) (T.ok.at_is_laid.at T.inn) chk_is_laid (a_is_laid (aO T) (bo T 30 rfl T.ok.at_plain (FnOk.mono (ok_plain T) (by decide))))
theorem ok_mark (T:TopF w.params K s0 mg mb):FnOk prog w s0 6 154 (t2 .mark):=
 bR (ft:=t1) (m:=4) (aO T) (T.ok.at_mark.at T.inn) chk_mark (a_mark (aO T) (fW T T.ok.m_lay T.ok.at_lay (FnOk.mono (ok_lay T) (by decide))) (bo T 18 rfl T.ok.at_fresh_mark (FnOk.mono (ok_fresh_mark T) (by decide))) (fW T T.ok.m_nfresh T.ok.at_nfresh (FnOk.mono (iq T) (by decide))))
theorem jx (T:TopF w.params K s0 mg mb):FnOk prog w s0 8 119 (t3 .match_formals):=
 bR (ft:=t2) (m:=6) (aO T) (T.ok.at_match_formals.at T.inn) ji (a_match_formals (aO T) (iJ T) (bo T 14 rfl T.ok.at_choice_name (FnOk.mono (ok_choice_name T) (by decide))) (bo T 16 rfl T.ok.at_formal_keys (FnOk.mono (gw T) (by decide))))
theorem ok_fresh_spec (T:TopF w.params K s0 mg mb):FnOk prog w s0 8 182 (t3 .fresh_spec):=
 bR (ft:=t2) (m:=6) (aO T) (T.ok.at_fresh_spec.at T.inn) chk_fresh_spec (a_fresh_spec (aO T) (fW T T.ok.m_mark T.ok.at_mark (FnOk.mono (ok_mark T) (by decide))))
theorem jg (T:TopF w.params K s0 mg mb):FnOk prog w s0 10 189 (t4 .lay_formal_sub):=
 bR (ft:=t3) (m:=8) (aO T) (T.ok.at_lay_formal_sub.at T.inn) iQ (jJ (aO T) (fW T T.ok.m_lay T.ok.at_lay (FnOk.mono (ok_lay T) (by decide))) (bo T 19 rfl T.ok.at_fresh_spec (FnOk.mono (ok_fresh_spec T) (by decide))) (fW T T.ok.m_nfresh T.ok.at_nfresh (FnOk.mono (iq T) (by decide))) (bo T 21 rfl T.ok.at_operator_node (FnOk.mono (jw T) (by decide))))
theorem ok_instantiate (T:TopF w.params K s0 mg mb):FnOk prog w s0 12 223 (t5 .instantiate):=
 bR (ft:=t4) (m:=10) (aO T) (T.ok.at_instantiate.at T.inn) chk_instantiate (a_instantiate (aO T) (iJ T) (newB_of T) (lay_of T) (bo T 22 rfl T.ok.at_unit_name (FnOk.mono (ok_unit_name T) (by decide))) (fW T T.ok.m_lay T.ok.at_lay (FnOk.mono (ok_lay T) (by decide))) (fW T T.ok.m_nfresh T.ok.at_nfresh (FnOk.mono (iq T) (by decide))) (bo T 20 rfl T.ok.at_lay_formal_sub (FnOk.mono (jg T) (by decide))) (bo T 16 rfl T.ok.at_formal_keys (FnOk.mono (gw T) (by decide))) (bo T 17 rfl T.ok.at_match_formals (FnOk.mono (jx T) (by decide))) (bo T 23 rfl T.ok.at_unit_sort (FnOk.mono (ok_unit_sort T) (by decide))))
end
section
variable {prog:Program}{w:World}{A:Around}{E:Value→Shared→Prop}{s:Shared}{env:Env}
theorem pot_row {a:Addr}{vs:List Value}{p p2 p3 pos c1 c2 c3 c4:Pos}{k1 k2 k3 k4:Nat}{Q:Value→Shared→Prop}(hk:env.scope.kind=.function)(hs:Has env s.heap "script" (.ref a))(hl:s.heap.IsList a vs.toArray)(hz:vs.length≤1000)
  (h: ∀h' tk d c o t,s.heap.objs.size≤d→s.heap.objs.size≤c→h'.get? d=some o→DictObj prog w o [("cells",.ref c),("at",.int 0 t)]→h'.get? c=some {cls:=.type "list",data:=.seq (sliceL vs none (some 60)).toArray}→
   (∀b o,s.heap.get? b=some o→h'.get? b=some o)→Q (.ref d) {s with heap:=h',toks:=tk}):
  wpAny (model prog w) A (eval (.Dict [some (.Constant (.str "cells") k1 c1),some (.Constant (.str "at") k2 c2)] [.Subscript (.Name "script" p) (.Slice none (some (.Constant (.int 60) k3 c3)) none p2) p3,.Constant (.int 0) k4 c4] pos) env) Q E s:=by
 refine wpAny_Dict_walk (knd:=strKind prog w) rfl rfl (by simp) (by simp) ?_
 have k0: ∀b o,s.heap.get? b=some o→(s.heap.push {cls:=.type "dict",data:=.dict #[]}).get? b=some o:=fun b o e=>Heap.get?_push_of_some _ e
 have d0:(s.heap.push {cls:=.type "dict",data:=.dict #[]}).get? s.heap.objs.size=some {cls:=.type "dict",data:=.dict #[]}:=Heap.get?_push_size _ rfl
 refine pairTrees_cons_walk (wpAny_Constant_str ?_)
 refine wpAny_Subscript_Slice (T:="list") list_getitem_lookup (aM hk (hs.keeps k0) ?_ (by decide) (by decide)) (fun _ _=>rfl)
 refine wpAny_Slice ?_
 rw [evalPart_none]
 refine wpAny_pure ?_
 refine evalPart_some_step (wpAny_Constant_int (wpAny_pure ?_))
 dsimp only
 generalize s.toks + 1=tk1
 have push1: ∀(o:Obj) b ob,s.heap.get? b=some ob→((s.heap.push {cls:=.type "dict",data:=.dict #[]}).push o).get? b=some ob:=fun o b ob e=>Heap.get?_push_of_some _ (k0 _ _ e)
 have hl1:(Heap.push (s.heap.push {cls:=.type "dict",data:=.dict #[]}) {cls:=.type "slice",data:=.fields #[.none,.int 60 tk1,.none]}).IsList a vs.toArray:=by
  obtain ⟨o,e1,e2⟩:=hl
  exact ⟨o,push1 _ _ _ e1,e2⟩
 refine ⟨hl1.typeIs,?_⟩
 refine wpAny_getItem_list_slice (lo:=none) (hi:=some 60) (st:=none) hl1 (Heap.IsSliceOf.new (l:=.none) (u:=.int 60 tk1) (st:=.none) ..) .none (part_is (pt:=some (60,tk1))) .none (by simp) ?_ (by simp only [List.size_toArray,sizeLine];exact lec ‹_› (by rfl))
 rw [jk]
 refine pairTrees_cons_walk (wpAny_Constant_str (wpAny_Constant_int (pairTrees_nil_walk ?_)))
 have lt: ∀(o1 o2:Obj),∀b ob,s.heap.get? b=some ob→(((s.heap.push {cls:=.type "dict",data:=.dict #[]}).push o1).push o2).get? b=some ob:=fun o1 o2 b ob e=>Heap.get?_push_of_some _ (push1 _ _ _ e)
 have ld: ∀(o1 o2:Obj),(((s.heap.push {cls:=.type "dict",data:=.dict #[]}).push o1).push o2).get? s.heap.objs.size=some {cls:=.type "dict",data:=.dict #[]}:=fun o1 o2=>Heap.get?_push_of_some _ (Heap.get?_push_of_some _ d0)
 refine ⟨[("cells",_),("at",_)],⟨strKind_is _ _ _ _,rfl,strKind_is _ _ _ _,rfl,trivial⟩,?_,fun h' hm hs'=>?_⟩
 ·exact ⟨_, #[],0,ld _ _,⟨rfl,rfl,rfl⟩,rfl,(fun e he=>by simp at he),.nil,List.nodup_nil⟩
 ·refine x12 (fA hm) fun o ho hD=>?_
  refine h h' _ s.heap.objs.size _ o _ (Nat.le_refl _) ?_ ho hD ?_ fun b ob e=>(hs'.2 _ (Nat.ne_of_lt (Heap.lt_size e))).trans (lt _ _ _ _ e)
  ·simp only [Heap.size_push];exact Nat.le_add_right _ 2
  ·refine (hs'.2 _ ?_).trans (Heap.get?_push_size _ rfl)
   simp only [Heap.size_push];exact Nat.ne_of_gt (Nat.lt_add_of_pos_right (by decide:0 < 2))
end
section
variable {prog:Program}{w:World}{A:Around}{E:Value→Shared→Prop}{s:Shared}{K:Frag}{x C:Addr}
theorem flt_get {ox:Obj}{od:Option Obj}{name:Str}{v:Value}{expr:Bool}{Q:Value→Shared→Prop}(X:K.In s.heap)(I:InstAt s.heap x ox C od)(hga:findIn K (.ref C) "__getattribute__"=some (some (.builtin "BaseException.__getattribute__")))(hgx:findIn K (.ref C) "__getattr__"=some none)
  (hsub:mroIn K C (.type "BaseException")=some true) (hf:findObj K C od name=some (.value v)) (hh:handedIn v=true) (h:Q v {s with toks:=s.toks + 1}):wpAny (model prog w) A (getAttr (.ref x) name expr) Q E s:=by
 have FB:=PySem.F.attr_Exception
 have L0:Looks (model prog w) s.heap (typeOf (.ref x)) (.ref C):=I.type
 refine wpAny_bind (wpAny_mkText (wpAny_holding (wpAny_bind (L0 _ _ _ _ (fun _ _ e=>e) (wpAny_bind (looks_findIn X hga _ _ _ _ (fun _ _ e=>e) ?_))))))
 dsimp only
 rw [show (onTheHeap (.ref C)&&Value.builtin "BaseException.__getattribute__"==Value.builtin "object.__getattribute__")=false from by rw [show (Value.builtin "BaseException.__getattribute__"==Value.builtin "object.__getattribute__")=false from by decide +kernel,Bool.and_false],if_neg (by decide)]
 refine wpAny_bind ((looks_findIn X hgx) _ _ _ _ (fun _ _ e=>e) (wpAny_bind (wpAny_attempt (wpAny_holding ?_))))
 unfold callGetattribute
 rw [show (expr&&onTheHeap (Value.builtin "BaseException.__getattribute__"))=false from Bool.and_false _,if_neg (by decide)]
 unfold boundAndCalled
 rw [FB.ga.bind]
 refine wpAny_bind (wpAny_pure ?_)
 show wpAny _ _ (call (.builtin "BaseException.__getattribute__") [.ref x,.str name s.toks]) _ _ _
 refine wpAny_call ?_
 refine codeAny_call_builtin FB.ga.plain PySem.F.entry_bexc_ga ?_
 refine @check_slot (model prog w) _ _ {s with toks:=s.toks + 1} "BaseException.__getattribute__" "BaseException" "__getattribute__" (.ref x) [.str name s.toks] [] _ (by decide +kernel) (by decide +kernel) (L0.andThen (looks_mroIn X hsub)) (PySem.F.args_bexc_ga (.ref x) (.str name s.toks)) ?_
 unfold Builtin.«object.__getattribute__»
 have L1:=looks_find (M:=model prog w) X I hf
 refine wpAny_bind (wpAny_of_eq (a:=(Value.ref x,[Value.str name s.toks])) (by rfl) ?_)
 refine wpAny_bind (wpAny_of_eq (a:=name) (by rfl) (wpAny_bind (L0 _ _ _ _ (fun _ _ e=>e) (wpAny_bind (L1 _ _ _ _ (fun _ _ e=>e) ?_)))))
 refine wpAny_pure ?_
 show wpAny _ _ (handedOut v) _ _ _
 rw [handedOut_of hh];exact wpAny_pure h
end
section
variable {prog:Program}{w:World}{s0:Shared}{mg mb:Str→Option Value}
theorem gg {M:Model}{A:Around}{Γ:PySem.Ctx}{env:Env}{b:List PySem.Stmt}{Q:Flow→Shared→Prop}{E:Value→Shared→Prop}(hΓ:Γ.In A): ∀{a:List PySem.Stmt} {p:Pos} {s:Shared},
  Sem.wp M Γ (execs a env) (fun f _ s'=>match f with | .next=>wpAny M A (execs b env) Q E s' | f=>Q f s') (fun e _ s'=>E e s') p s→Sem.wp M Γ (execs (a++b) env) (fun f _ s'=>Q f s') (fun e _ s'=>E e s') p s
 | [],p,s,h=>h Γ p hΓ
 | x::r,p,s,h=>by
  rw [List.cons_append,execs_cons,Sem.wp_bind']
  rw [execs_cons,Sem.wp_bind'] at h
  refine Sem.wp_mono M Γ _ (fun f p' s' h'=>?_) (fun _ _ _ h'=>h') _ _ h
  cases f with
  | next=>exact gg hΓ h'
  | _=>exact h'
theorem execs_append {M:Model}{A:Around}{E:Value→Shared→Prop}{s:Shared}{env:Env}{a b:List PySem.Stmt}{Q:Flow→Shared→Prop}(h:wpAny M A (execs a env) (fun f s'=>match f with | .next=>wpAny M A (execs b env) Q E s' | f=>Q f s') E s):wpAny M A (execs (a++b) env) Q E s:=
 fun Γ p hΓ=>gg hΓ (h Γ p hΓ)
theorem catch_flt {A:Around}{E:Value→Shared→Prop}{s:Shared}{env:Env}{K:Frag}(T:FltTop s0 mg mb K){e:Addr}{t:PySem.Expr}{n:Str}{b₀:PySem.Stmt}{suite:List PySem.Stmt}{pos:Pos}{rest:List ExceptHandler}{Q:Flow→Shared→Prop}
  (h:wpAny (model prog w) (A.mark (some (.ref e))) (eval t env) (fun c s₁=>c=.ref 51∧(∀b o,s0.heap.get? b=some o→s₁.heap.get? b=some o)∧(∃oe,s₁.heap.get? e=some oe∧oe.cls=.ref 51)∧
   wpAny (model prog w) (A.mark (some (.ref e))) (setFlight (.ref e) none) (fun _ s₂=>
     wpAny (model prog w) (A.mark (some (.ref e))) (storeName env n (.ref e)) (fun _ s₃=>
      wpAny (model prog w) (A.mark (some (.ref e))) (execs (b₀::suite) env)
       (fun f s₄=>wpAny (model prog w) A (do bindName env n .none;unbindBehindTheSuite env n pos) (fun _ s₅=>Q f s₅) E s₄)
       (AsSuiteRaised (model prog w) (A.mark (some (.ref e))) env n pos (notedBy (model prog w) (A.mark (some (.ref e))) env (cameBackBy (model prog w) A env E))) s₃) (notedBy (model prog w) (A.mark (some (.ref e))) env (cameBackBy (model prog w) A env E)) s₂) (notedBy (model prog w) (A.mark (some (.ref e))) env (cameBackBy (model prog w) A env E)) s₁) (notedBy (model prog w) (A.mark (some (.ref e))) env (cameBackBy (model prog w) A env E)) s):
  wpAny (model prog w) A (handleBy (.ref e) env (.ExceptHandler (some t) (some n) (b₀::suite) pos::rest)) Q E s:=by
 refine wpAny_handleBy_cons (codeAny_handlers_test (wpAny_mono h (fun c s₁ h₁=>?_) fun _ _ y=>y)) (by intro q;cases q)
 obtain ⟨rfl,old,⟨oe,he,hcls⟩,hk⟩:=h₁
 obtain ⟨nm,q,N,bs,hdct,sn,sub,ab,col,dd,k0,k1,k2,k3,k5,bm,hobj,B⟩:=T.ok.obj
 have hC:=old _ _ (T.inn _ _ hobj)
 obtain ⟨hh,g,d,tk,os⟩:=s₁
 exact wpAny_excMatches_sub_self hC he hcls B.base (codeAny_handlers_suite_as hk)
end
section
variable {prog:Program}{w:World}{s0:Shared}{ft:FT}{m:Nat}{nt:List Str}{ns:List (Str×NameKind)}{mg mb:Str→Option Value}
theorem call_fnT {env:Env}{l:List Env}{wr:Str→Bool}{τ:TM}{av:Nat→Option Value}{st:St}{s:Shared}{fa:Addr}{F:List D→G→Res (D×G)}(HF:FnOk prog w s0 m fa F){A:Around}(hC:Cx A l (m + 1))(R:Rel prog w s0 env l nt wr τ av st s){vs:List Value}{ds:List D}(rv:RepL prog w τ vs ds){Q Er:Value→Shared→Prop}
  (h:RP ((F ds st.g).bind fun q=>.ok (q.1,{st with g:=q.2})) (OkP prog w s0 nt env l wr av τ Q) (FlP w s0 l (aQ τ s.heap) Er)):wpAny (model prog w) A (call (.ref fa) vs) Q Er s:=by
 refine wpAny_call (HF (hC.mono (Nat.le_succ m)) R.callee (rv.sub (dQ _)) (h.bind.mono (fun p hp v τ' s' le' r' C'=>?_) fun ln hf x s' i=>hf x s' i))
 exact hp v (bS τ τ') s' (gX le') (r'.sub (gV R le')) (R.back le' C')
theorem inst_stmt (HB:Base w s0 mg mb){x:Str}{np cpos pos tp:Pos}{k:_}{es:List PySem.Expr}{e:PySem.Expr}{rest:List PySem.Expr}{f:Fn}{Xs:List E}{is:List Nat}(F:Fnc prog w s0 ft m mg x f)(hx:ns.lookup x=some .globalImplicit)(hd:(x==("__debug__":Str))=false)
  (hl:SL prog w s0 ft m nt ns (e::rest) Xs) (hst: ∀env,starEach (e::rest) env=(false,eval e env)::starEach rest env) (hp:PatL nt (bf ns) es is)
  (hs: ∀env,swapsWithSole [.Tuple es k tp] (.Call (.Name x np) (e::rest) [] cpos) pos.line env=pure false) (hw: ∀env,swappedStores [.Tuple es k tp] (.Call (.Name x np) (e::rest) [] cpos) env=pure none)
  {env:Env} {l:List Env} {A:Around} {av:Nat→Option Value} {τ:TM} {st:St} {s:Shared} {Q:Flow→Shared→Prop} {Er:Value→Shared→Prop} (hE:EnvNs env ns) (hC:Cx A (env::l) (m + 1)) (R:Rel prog w s0 env (env::l) nt (bf ns) τ av st s)
  {ds:List D} {st1:St} (hev:evs ft Xs st=.ok (ds,st1))
  (h:match ft f ds st1.g with
   | .ok (.tup rs,g)=> ∃st',({st1 with g:=g}:St).sets is rs=some st'∧ ∀av' τ' s',TM.le τ τ'→Rel prog w s0 env (env::l) nt (bf ns) τ' av' st' s'→Q .next s'
   | .flt n=> ∀τ1 av1 s1,TM.le τ τ1→Rel prog w s0 env (env::l) nt (bf ns) τ1 av1 st1 s1→ ∀x s',Infl w s0 (env::l) (aQ τ1 s1.heap) n x s'→Er x s'
   | _=>False):
  wpAny (model prog w) A (exec (.Assign [.Tuple es k tp] (.Call (.Name x np) (e::rest) [] cpos) pos) env) Q Er s:=by
 obtain ⟨fa,⟨hg,o,fd,ho,hdat⟩,HF⟩:=F
 refine Assign_Tuple (wpAny_Call_NameR (d8 HB R (hE.glob hx) hg ?_ hd)) (hs env) (hw env)
 refine callWith_def (o:=o) hdat (hl.run hE hC R ?_) (hst env)
 rw [hev]
 intro vs τ1 s1 le1 rv R1
 refine ⟨R1.old _ _ ho,call_fnT HF hC R1 rv ?_⟩
 revert h
 cases ft f ds st1.g with
 | bad=>exact fun h=>h.elim
 | flt n=>exact fun h x s' i=>h τ1 av s1 le1 R1 x s' i
 | ok q=>
  obtain ⟨d,g⟩:=q
  intro h v τ2 s2 le2 rv2 R2
  cases d <;> try exact h.elim
  refine x12 h fun st' hsets hq=>?_
  cases rv2 with
  | tup ha hb hc=>
   refine x02 (hp.facts env) fun h1 h2=>?_
   refine assign_Tuple_tuple hC.handled (hb.isTup (R2.hB _ _ ha)) ?_ h2 fun h' he=>?_
   ·rw [h1,fb hsets,←hc.length];simp
   ·exact gm hp (R2.grow (h':=h') (tk:=s2.toks) fun b o e=>he b o (Nat.ne_of_lt (Heap.lt_size e)) e) hc hsets fun av' h'' tk R'=>hq av' τ2 _ (le1.trans le2) R'
end
section
variable {prog:Program}{w:World}{s0:Shared}{mg mb:Str→Option Value}
theorem frames_one {env:Env}{b:Addr}(hfl:env.frame=some env.locals)(hm:b∈bQ [env]):b=env.locals:=by
 refine x12 (eD hm) fun c hc hf=>?_
 rw [List.mem_singleton.mp hc,hfl] at hf
 exact (Option.some.inj hf).symm
theorem law_vars {env:Env}{wr:Str→Bool}{τ:TM}{av:Nat→Option Value}{st:St}{s1:Shared}{n:Int}(R:Rel prog w s0 env [env] ir wr τ av st s1)(hdu:env.kindOf "due"=some .local)(hli:env.kindOf "line"=some .local)(h12:a8 st 12=some .none)(h11:a8 st 11=some (.int n)):
  ∃mm tl,(∀{x:Value} {s4:Shared},Infl w s0 [env] (aQ τ s1.heap) n x s4→s4.heap.Ns env.locals mm)∧mm "due"=some .none∧mm "line"=some (.int n tl):=by
 obtain ⟨mm,oL,es,ep,hoL,hdL,hsk,hfind⟩:=R.ns
 have hm1:s1.heap.Ns env.locals mm:=⟨oL,es,ep,hoL,hdL,hsk,hfind⟩
 have val: ∀{x:Str} {v:Value},env.kindOf x=some .local→Has env s1.heap x v→mm x=some v:=fun {x v} hk f2=>by
  rcases f2 with ⟨_,m',hm',hv⟩ | ⟨hl,_⟩
  ·rw [Ns.fun hm1 hm',hv]
  ·rw [hk] at hl;rcases hl with hl | hl <;> cases hl
 refine x13 (fo R (k:=12) (x:="due") rfl (.inl hdu) h12) fun v _ f2 f3=>?_
 refine x13 (fo R (k:=11) (x:="line") rfl (.inl hli) h11) fun v' _ f2' f3'=>?_
 refine x11 f3'.int_inv fun t e=>?_
 exact ⟨mm,t,fun z=>by
  obtain ⟨sl,hs⟩:=z.slots env.locals oL (.inr (dR hoL (by rw [R.loc];rfl)))
  exact ⟨_,es,ep,hs,hdL,hsk,hfind⟩,by rw [val hdu f2,f3.none_inv],by rw [val hli f2',e]⟩
theorem law_catch (HB:Base w s0 mg mb){K:Frag}(T:FltTop s0 mg mb K)(FR:FltRead K){env:Env}{A:Around}{E:Value→Shared→Prop}{Q:Flow→Shared→Prop}{p1 p2 p3 p4 p5 p6 p7 p8 p9 p10 p11:Pos}{k1:Nat}{wr:Str→Bool}{τ:TM}{av:Nat→Option Value}{st:St}{s1 s':Shared}{n:Int}{x:Value}
  (hk:env.scope.kind=.function) (hdu:env.kindOf "due"=some .local) (hli:env.kindOf "line"=some .local) (hfa:env.kindOf "fault"=some .local) (hcf:env.kindOf "CheckFault"=some .globalImplicit) (hfl:env.frame=some env.locals) (hfr:A.frames=some [env])
  (R:Rel prog w s0 env [env] ir wr τ av st s1) (z:Infl w s0 [env] (aQ τ s1.heap) n x s') (h12:a8 st 12=some .none) (h11:a8 st 11=some (.int n))
  (hQ: ∀s5,(∀b o,s0.heap.get? b=some o→s5.heap.get? b=some o)→Rest s0 s5→Q (.ret (.bool true)) s5):
  wpAny (model prog w) A (noteFrame x env) (fun _ s₂=>wpAny (model prog w) A (setFlight x none) (fun _ s₃=>wpAny (model prog w) A (handleBy x env [.ExceptHandler (some (.Name ("CheckFault":Str) p1)) (some "fault")
   [.Return (some (.BoolOp .And [.Compare (.Name ("due":Str) p2) [.Is] [.Constant .none k1 p3] p4,.Compare (.Attribute (.Name ("fault":Str) p5) "line" p6) [.Eq] [.Name ("line":Str) p7] p8] p9)) p10] p11]) Q E s₃) E s₂) E s':=by
 obtain ⟨e,dx0,tb0,rfl,_⟩:=z.exc
 refine iG hfr z fun s2 T2 z2 hT2=>fg hT2 (dP z2 hT2 (.inl rfl) fun s3 z3 hT3 _=>?_)
 have noL: ∀{b:Addr} {o:Obj},s0.heap.get? b=some o→b∉bQ [env]:=fun e hm=>by
  have:=R.base _ _ e
  rw [frames_one hfl hm,R.loc] at this
  cases this
 have oldz: ∀{s4:Shared},Infl w s0 [env] (aQ τ s1.heap) n (.ref e) s4→ ∀b o,s0.heap.get? b=some o→s4.heap.get? b=some o:=fun z b o h=>z.keep b o (.inl (aT (R.base b o h) rfl)) (noL h)
 refine x23 (law_vars R hdu hli h12 h11) fun mm tl nsz vdu vli=>?_
 have kd:(env.scope.kind== .class||(env.scope.kind== .module&&env.locals != env.globals))=false:=by rw [hk];rfl
 refine catch_flt T (Calls.Name_function_global hk hcf (Calls.loadGlobal_global (mg:=mg) ?_ T.flt ?_) (by decide))
 ·rw [R.glb.1];exact HB.g.keeps (oldz z3)
 obtain ⟨dx,tb,⟨⟨vs,sl,hobj,_⟩,_⟩,_⟩:=z3.excR
 refine ⟨rfl,oldz z3,⟨_,hobj,rfl⟩,?_⟩
 refine fg hT3 (dP z3 hT3 (.inl rfl) fun s4 z4 hT4 _=>?_)
 refine wpAny_storeName_local hfa (nsz z4) (fun h5 hm5 hs5=>?_) kd
 obtain ⟨dx4,tb4,⟨⟨vs4,sl4,hobj4,_,_⟩,t1,t2,v,t3,nn,hdic4⟩,hdx4,ho4,_⟩:=z4.excR
 have nL: ∀{b:Addr} {o:Obj},(∀es' ep',o.data≠ .dict es' ep')→s4.heap.get? b=some o→b≠env.locals:=fun hn h q=>by
  obtain ⟨o',es',ep',ho',hd',_⟩:=nsz z4
  rw [q,ho'] at h
  exact hn es' ep' (by rw [←Option.some.inj h];exact hd')
 have eL:e≠env.locals:=nL (fun _ _ h=>by cases h) hobj4
 have dL:dx4≠env.locals:=fun q=>hdx4 (by rw [q];exact List.mem_filterMap.mpr ⟨env,List.mem_singleton.mpr rfl,hfl⟩)
 have old5: ∀b o,s0.heap.get? b=some o→h5.get? b=some o:=fun b o h=>(hs5.2 _ fun q=>noL h (by rw [q];exact List.mem_filterMap.mpr ⟨env,List.mem_singleton.mpr rfl,hfl⟩)).trans (oldz z4 b o h)
 have K5:K.In h5:=T.inn.keeps old5
 have I5:InstAt h5 e ⟨.ref 51,some dx4,.fields vs4,sl4⟩ 51 (some (dictOf [⟨PyData.keyHash w.params "text",.str "text" t1,v⟩,⟨PyData.keyHash w.params "line",.str "line" t2,.int n t3⟩] nn)):=⟨(hs5.2 _ eL).trans hobj4,rfl,rfl,(hs5.2 _ dL).trans hdic4⟩
 have ld: ∀{xx:Str} {vv:Value},env.kindOf xx=some .local→(if xx="fault" then some (.ref e) else mm xx)=some vv→Has env h5 xx vv:=fun hl hv=>.inl ⟨hl,_,hm5,hv⟩
 refine wpAny_execs_cons (wpAny_Return_some (PyProof.Rows.BoolOp_and (wpAny_Compare1 (aM hk (ld hdu ((if_neg (by decide)).trans vdu)) (wpAny_Constant_none (is_none_gen ?_)) (by decide) (by decide)) rfl)))
 refine wpAny_truthy_bool ?_
 refine PyProof.Rows.BoolOp_one (wpAny_Compare1 (Attribute_any_ (aM hk (ld hfa (if_pos rfl)) ?_ (by decide) (by decide)) rfl) rfl)
 refine flt_get K5 I5 FR.ga FR.gx FR.sub (findObj_own FR.hd FR.line rfl rfl) rfl ?_
 refine aM hk (ld hli ((if_neg (by decide)).trans vli)) ?_ (by decide) (by decide)
 refine PyProof.Rows.eq_int ?_
 rw [beq_self_eq_true]
 refine wpAny_nameGoes hfa hm5 kd fun h6 m6 hm6 hs6=>?_
 exact hQ _ (fun b o h=>(hs6.2 _ fun q=>noL h (by rw [q];exact List.mem_filterMap.mpr ⟨env,List.mem_singleton.mpr rfl,hfl⟩)).trans (old5 b o h)) ⟨z4.rest.1,z4.rest.2,z4.rest.3⟩
end
noncomputable def tryS:PySem.Stmt:=(lawBody[11]?).getD (.Pass ⟨0,0,0,0⟩)
section
variable {prog:Program}{w:World}{s0:Shared}{mg mb:Str→Option Value}{K:Frag}
theorem law_run (T:TopF w.params K s0 mg mb){env:Env}{A:Around}{E:Value→Shared→Prop}{Q:Flow→Shared→Prop}{τ:TM}{av:Nat→Option Value}{s:Shared}{cells:List Int}
  (hE:EnvNs env (au (top 32)).names) (hC:Cx A [env] 13) (hfl:env.frame=some env.locals) (R:Rel prog w s0 env [env] ir (bf (au (top 32)).names) τ av (law0 cells) s) (hrun:RunLaw cells)
  (hQ: ∀s5,(∀b o,s0.heap.get? b=some o→s5.heap.get? b=some o)→Rest s0 s5→Q (.ret (.bool true)) s5):wpAny (model prog w) A (execs (iS++(tryS::gj)) env) Q E s:=by
 have HB:=aO T
 refine execs_append ((a_law1 (ft:=t5) (m:=12) HB (bo T 29 rfl T.ok.at_due (FnOk.mono (ok_due T) (by decide))) (bo T 25 rfl T.ok.at_take (FnOk.mono (i0 T) (by decide)))
  (bo T 28 rfl T.ok.at_actuals (FnOk.mono (ok_actuals T) (by decide))) (bo T 26 rfl T.ok.at_formal (FnOk.mono (ok_formal T) (by decide)))).run hE hC R ?_)
 cases hrun with | mk h1 h2 h3=>
 rw [h1]
 intro av1 τ1 s1 le1 R1
 show wpAny _ _ (execs (tryS::gj) env) Q E s1
 refine wpAny_execs_cons (wpAny_Try_except (wpAny_execs_cons (inst_stmt (ft:=t5) (m:=12) HB (x:="instantiate") (f:=.instantiate) (is:=[17,18]) (Xs:=lawArgs) (bo T 24 rfl T.ok.at_instantiate (ok_instantiate T)) rfl rfl
  (ac (aC (ac al (ac aj (ac (cH rfl rfl rfl rfl HB.sys) (ac (aa rfl rfl rfl rfl) ak (fun _=>rfl)) (fun _=>rfl)) (fun _=>rfl)) (fun _=>rfl))) (ac bA (ac (aa rfl rfl rfl rfl) (ac aj ak (fun _=>rfl)) (fun _=>rfl)) (fun _=>rfl)) (fun _=>rfl))
  (fun _=>rfl) (.cons rfl rfl (.cons rfl rfl .nil)) (fun _=>rfl) (fun _=>rfl) hE hC R1 h2 ?_)))
 generalize t5 .instantiate _ _=r at h3
 cases h3 with
 | ok h4=>
  refine ⟨_,rfl,fun av3 τ3 s3 le3 R3=>wpAny_execs_nil (wpAny_execs_nil ?_)⟩
  refine (a_law3 (ft:=t5) (m:=12) HB (bo T 31 rfl T.ok.at_is_laid (FnOk.mono (ok_is_laid T) (by decide)))).run hE hC R3 ?_
  rw [h4]
  intro av4 τ4 s4 le4 R4 v rv
  cases rv
  exact hQ s4 R4.old R4.rest
 | flt h4 h5=>
  intro τ2 av2 s2 le2 R2 x s' z
  refine law_catch HB (iJ T) T.ok.rd R2.kind (hE "due" .local (by decide +kernel)) (hE "line" .local (by decide +kernel)) (hE "fault" .local (by decide +kernel)) (hE "CheckFault" .globalImplicit (by decide +kernel)) hfl hC.frames R2 z h4 h5 fun s5 old5 r5=>?_
  exact hQ s5 old5 r5
end
noncomputable def potS:PySem.Stmt:=(lawBody[0]?).getD (.Pass ⟨0,0,0,0⟩)
theorem lawBody_is:lawBody=potS::(iS++(tryS::gj)):=by kernel_rfl
theorem repL_ints {prog:Program}{w:World}{τ:TM}{vs:List Value}{ns:List Int}(h:IntsAre vs ns):RepL prog w τ vs (ns.map .int):=by
 induction h with
 | nil=>exact .nil
 | cons n t _ ih=>exact .cons (.int n t) ih
theorem law_noc (x:Str):(au (top 32)).names.lookup x≠some .cell∧(au (top 32)).names.lookup x≠some .free:=by
 have h:((au (top 32)).names.all fun p=>p.2 != .cell&&p.2 != .free)=true:=by decide +kernel
 rw [List.all_eq_true] at h
 exact ⟨fun q=>absurd (h _ (mem_of_lookup q)) (Bool.false_ne_true),fun q=>absurd (h _ (mem_of_lookup q)) (Bool.false_ne_true)⟩
theorem EnvNs.of {env:Env}{ns:List (Str×NameKind)}(e: ∀x,env.kindOf x=ns.lookup x)(noc: ∀x,ns.lookup x≠some .cell∧ns.lookup x≠some .free):EnvNs env ns:=by
 intro x k hx
 have hk:=(e x).trans hx
 cases k with
 | «local»=>exact hk
 | cell=>exact absurd hx (noc x).1
 | free=>exact absurd hx (noc x).2
 | globalImplicit=>exact hk
 | globalExplicit=>trivial
theorem law0_get {cells:List Int}{i:Nat}{sl:Slot}(h:(law0 cells).get i=some sl):i=1∧sl=.val (.hnd 0):=by
 unfold law0 St.get at h
 cases i with
 | zero=>cases h
 | succ i=>
  cases i with
  | zero=>cases h;exact ⟨rfl,rfl⟩
  | succ i=>
   simp only [List.cons_append,List.nil_append,List.getElem?_cons_succ,List.getElem?_replicate] at h
   split at h <;> cases h
noncomputable def lawTg (L d c:Addr)(X:Obj)(f:Addr→Option Obj)(b:Addr):Tag:=if b=L then .loc else if b=d then .pot else if b=c then .frz X else match f b with | some o=>.frz o | none=>.no
section
variable {L d c:Addr}{X:Obj}{f:Addr→Option Obj}{b:Addr}
theorem lawTg.cs {P:Tag→Prop}(p1:b=L→P .loc)(p2:b=d→P .pot)(p3:b=c→P (.frz X))(p4: ∀o,f b=some o→P (.frz o))(p5:P .no):P (lawTg L d c X f b):=by
 unfold lawTg
 split
 ·exact p1 ‹_›
 ·split
  ·exact p2 ‹_›
  ·split
   ·exact p3 ‹_›
   ·split
    ·exact p4 _ ‹_›
    ·exact p5
theorem lawTg.ex:lawTg L d c X f b≠ .no→b=L∨b=d∨b=c∨ ∃o,f b=some o:=
 lawTg.cs (P:=fun t=>t≠ .no→_) (fun e _=>.inl e) (fun e _=>.inr (.inl e)) (fun e _=>.inr (.inr (.inl e))) (fun o e _=>.inr (.inr (.inr ⟨o,e⟩))) fun h=>absurd rfl h
theorem lawTg.obj {o:Obj}:lawTg L d c X f b=.frz o∨lawTg L d c X f b=.pin o→b=c∧X=o∨f b=some o:=
 lawTg.cs (P:=fun t=>t=.frz o∨t=.pin o→b=c∧X=o∨f b=some o) (fun _ h=>by rcases h with h | h <;> cases h) (fun _ h=>by rcases h with h | h <;> cases h)
  (fun e h=>h.elim (fun h=>.inl ⟨e,Tag.frzI h⟩) fun h=>by cases h) (fun _ e h=>h.elim (fun h=>.inr (Tag.frzI h▸e)) fun h=>by cases h) fun h=>by rcases h with h | h <;> cases h
theorem lawTg.it {o:Obj}:lawTg L d c X f b≠ .it o:=lawTg.cs (P:=fun t=>t≠ .it o) (fun _=>nofun) (fun _=>nofun) (fun _=>nofun) (fun _ _=>nofun) nofun
theorem lawTg.bld {i}:lawTg L d c X f b≠ .bld i:=lawTg.cs (P:=fun t=>t≠ .bld i) (fun _=>nofun) (fun _=>nofun) (fun _=>nofun) (fun _ _=>nofun) nofun
theorem lawTg.pot:lawTg L d c X f b=.pot→b=d:=lawTg.cs (P:=fun t=>t=.pot→b=d) (fun _=>nofun) (fun e _=>e) (fun _=>nofun) (fun _ _=>nofun) nofun
theorem lawTg.pot' (h:d≠L):lawTg L d c X f d=.pot:=(if_neg h).trans (if_pos rfl)
theorem lawTg.frz' (h:c≠L)(h':c≠d):lawTg L d c X f c=.frz X:=(if_neg h).trans ((if_neg h').trans (if_pos rfl))
theorem lawTg.old {o:Obj}(h:b≠L)(h1:b≠d)(h2:b≠c)(e:f b=some o):lawTg L d c X f b=.frz o:=(if_neg h).trans ((if_neg h1).trans ((if_neg h2).trans (by rw [e])))
end
section
variable {prog:Program}{w:World}{s0:Shared}{mg mb:Str→Option Value}{K:Frag}
theorem law_env (T:TopF w.params K s0 mg mb){env:Env}{A:Around}{E:Value→Shared→Prop}{Q:Flow→Shared→Prop}{m:Str→Option Value}{s:Shared}{a:Addr}{vs:List Value}{ns:List Int}
  (ek:env.scope.kind=.function) (efr:env.frame=some env.locals) (eg:env.globals=mainGlobals∧env.builtins=builtinsNs) (ekind: ∀x,env.kindOf x=(au (top 32)).names.lookup x)
  (hC:Cx A [env] 13) (F:Fr s0.heap env.locals s.heap m) (hr:Rest s0 s) (hs:m "script"=some (.ref a)) (hl:s0.heap.IsList a vs.toArray) (hi:IntsAre vs ns) (hz:ns.length≤63)
  (hrun:RunLaw (ns.take 60)) (hQ: ∀s5,(∀b o,s0.heap.get? b=some o→s5.heap.get? b=some o)→Rest s0 s5→Q (.ret (.bool true)) s5):
  wpAny (model prog w) A (execs lawBody env) Q E s:=by
 have noc: ∀x,env.kindOf x≠some .cell∧env.kindOf x≠some .free:=fun x=>ekind x▸law_noc x
 have hlen:vs.length=ns.length:=by have:=(repL_ints (prog:=prog) (w:=w) (τ:=fun _=>.no) hi).length;simpa using this
 have ksc:env.kindOf "script"=some .local:=(ekind _).trans (by decide +kernel)
 have kpo:env.kindOf "pot"=some .local:=(ekind _).trans (by decide +kernel)
 rw [lawBody_is]
 refine wpAny_execs_cons (wpAny_Assign_Name (pot_row ek (.inl ⟨ksc,_,F.ns,hs⟩) (by obtain ⟨o,e1,e2⟩:=hl;exact ⟨o,F.keep _ _ e1,e2⟩) (by exact nl [_,_] [(N0,N1),(N1,.n 63)] N0 (.n 1000) rfl (Nat.le_of_eq hlen) hz) fun h1 tk d c o t ld lc hd1 hD hc1 k1=>?_) rfl)
 have kd:(env.scope.kind== .class||(env.scope.kind== .module&&env.locals != env.globals))=false:=by rw [ek];rfl
 obtain ⟨oL,eL1,eL2,hoL,_⟩:=F.ns
 have ltL:=Heap.lt_size hoL
 have dL:d≠env.locals:=Nat.ne_of_gt (Nat.lt_of_lt_of_le ltL ld)
 have cL:c≠env.locals:=Nat.ne_of_gt (Nat.lt_of_lt_of_le ltL lc)
 have cd':c≠d:=fun q=>by
  subst q
  rw [hd1] at hc1
  cases hc1
  obtain ⟨⟨x,_⟩,_⟩:=hD
  injection x with y;exact absurd y (by decide)
 refine wpAny_storeName_local kpo (F.ns.keeps k1) (fun h2 hm2 hs2=>?_) kd
 have hd2:=(hs2.2 _ dL).trans hd1
 have hc2:=(hs2.2 _ cL).trans hc1
 have old: ∀b o,s0.heap.get? b=some o→b≠env.locals∧b≠d∧b≠c∧h2.get? b=some o:=fun b o e=>by
  have l0:=Nat.lt_of_lt_of_le (Heap.lt_size e) F.above
  have e1:=F.keep _ _ e
  have l1:=Heap.lt_size e1
  exact ⟨Nat.ne_of_lt l0,Nat.ne_of_lt (Nat.lt_of_lt_of_le l1 ld),Nat.ne_of_lt (Nat.lt_of_lt_of_le l1 lc),(hs2.2 _ (Nat.ne_of_lt l0)).trans (k1 _ _ e1)⟩
 refine law_run (τ:=lawTg env.locals d c {cls:=.type "list",data:=.seq (sliceL vs none (some 60)).toArray} s0.heap.get?)
  (av:=fun i=>if i=1 then some (.ref d) else none) T (.of ekind law_noc) hC efr ?_ hrun hQ
 refine {rest:=⟨hr.1,hr.2,hr.3⟩,base:=fun b o e=>(old b o e).elim fun n1 h=>h.elim fun n2 h=>lawTg.old n1 n2 h.1 e,ex:=fun b hb=>?_,obj:=fun b o' hb=>(lawTg.obj hb).elim (fun h=>h.1▸h.2▸hc2) fun e=>(old _ _ e).2.2.2,itO:=fun b o' hb=>absurd hb lawTg.it,kind:=ek,glb:=eg,ns:=⟨_,hm2⟩,loc:=if_pos rfl,wrk:=fun x hx=>(Bool.or_eq_true_iff.1 hx).elim (fun hx=>.inl ((ekind x).trans (beq_iff_eq.1 hx))) fun hx=>absurd (beq_iff_eq.1 hx) (law_noc x).1,celT:=fun x c' hx _=>absurd hx (fun q=>q.elim (noc x).1 (noc x).2),vars:=fun i x sl h1 h2' h3=>?_,g:=?_,frs:=fun e he=>?_,len:=rfl,ntd:=by decide +kernel}
 ·rcases lawTg.ex hb with e | e | e | ⟨o,e⟩
  ·obtain ⟨o,_,_,ho,_⟩:=hm2;exact ⟨o,e▸ho⟩
  ·exact ⟨_,e▸hd2⟩
  ·exact ⟨_,e▸hc2⟩
  ·exact ⟨o,(old _ _ e).2.2.2⟩
 ·refine (law0_get h2').elim fun e1 e2=>?_
  rw [e1] at h1 ⊢
  rw [e2]
  have hx:"pot"=x:=by cases h1;rfl
  rw [←hx]
  exact ⟨_,if_pos rfl,.inl ⟨kpo,_,hm2,if_pos rfl⟩,.pot (lawTg.pot' dL)⟩
 ·refine ⟨⟨d,o,c,t,lawTg.pot' dL,hd2,hD,.lst (lawTg.frz' cL cd') ⟨0,rfl⟩ ?_⟩,fun a a' e e'=>(lawTg.pot e).trans (lawTg.pot e').symm,fun _ a i e=>lawTg.bld e,
   fun a i _ _ e=>absurd e lawTg.bld,fun a i e=>absurd e lawTg.bld,fun b e=>by cases e⟩
  show RepL prog w _ (sliceL vs none (some 60)) ((ns.take 60).map .int)
  have e60:sliceL vs none (some 60)=vs.take 60:=by
   show List.take (clipAt vs.length (60:Nat)) vs=vs.take 60
   rw [clipAt_nat,List.take_eq_take_min.symm]
  rw [e60,List.map_take]
  exact (repL_ints hi).take 60
 ·rw [List.mem_singleton.1 he]
  exact ⟨by rw [ek];decide,_,efr,.inl rfl⟩
theorem law_all (T:TopF w.params K s0 mg mb){name:Str}{L fa:Addr}{cd:Value}{A:Around}{E:Value→Shared→Prop}{Q:Flow→Shared→Prop}{m:Str→Option Value}{s:Shared}{a:Addr}{vs:List Value}{ns:List Int}
  (hC:Cx A [envOf name (au (top 32)) L fa cd] 13) (F:Fr s0.heap L s.heap m) (hr:Rest s0 s) (hs:m "script"=some (.ref a)) (hl:s0.heap.IsList a vs.toArray) (hi:IntsAre vs ns) (hz:ns.length≤63)
  (hrun:RunLaw (ns.take 60)) (hQ: ∀s5,(∀b o,s0.heap.get? b=some o→s5.heap.get? b=some o)→Rest s0 s5→Q (.ret (.bool true)) s5):
  wpAny (model prog w) A (execs lawBody (envOf name (au (top 32)) L fa cd)) Q E s:=
 law_env T (show (au (top 32)).kind=.function by decide +kernel) rfl ⟨rfl,rfl⟩ (fun _=>rfl) hC F hr hs hl hi hz hrun hQ
end
end Mine
end
section
open PySem
open PySem.Str renaming ofString → so
namespace Mine.Pl
theorem gu (a b:Int):opD .add (.int a) (.int b)=some (.int (a + b)):=rfl
theorem op_sub (a b:Int):opD .sub (.int a) (.int b)=some (.int (a - b)):=rfl
theorem op_gt (a b:Int):opD .gt (.int a) (.int b)=some (.bool (decide (b < a))):=rfl
theorem op_lt (a b:Int):opD .lt (.int a) (.int b)=some (.bool (decide (a < b))):=rfl
theorem op_ge (a b:Int):opD .ge (.int a) (.int b)=some (.bool (decide (b≤a))):=rfl
theorem op_mul {a b:Int}(h:bl a=true)(h':bl b=true):opD .mul (.int a) (.int b)=some (.int (a * b)):=if_pos (by rw [h,h'];rfl)
theorem op_fdiv {a b:Int}(h:0 < b)(h':b < 1000):opD .fdiv (.int a) (.int b)=some (.int (a.fdiv b)):=if_pos (by rw [decide_eq_true h,decide_eq_true h'];rfl)
theorem op_mod {a b:Int}(h:0 < b)(h':b < 1000):opD .mod (.int a) (.int b)=some (.int (a.fmod b)):=if_pos (by rw [decide_eq_true h,decide_eq_true h'];rfl)
theorem dt {a:Int}(h: -1000000 < a)(h':a < 1000000):bl a=true:=by simp [bl];exact ⟨ni [_] [(.s (.n (-1000000)),Z0)] (.s (.n (-4611686018427387904))) Z0 rfl h,ni [_] [(.s Z0,.n 1000000)] (.s Z0) (.n 4611686018427387904) rfl h'⟩
structure Gp (c:Int)(g:G):Prop where
 lo:0≤g.pat
 hi:g.pat≤c
 len:g.cells.length≤60
 used:g.used=false
 bld:g.bld=none
theorem Gp.mono {c c':Int}{g:G}(h:Gp c g)(k:c≤c'):Gp c' g:=⟨h.1,Int.le_trans h.2 k,h.3,h.4,h.5⟩
theorem Gp.up {c:Int}{g:G}(h:Gp c g):Gp (c + 1) {g with pat:=g.pat + 1}:=⟨by have:=h.1;show 0≤g.pat + 1;exact Int.add_nonneg ‹_› (by decide),by have:=h.2;show g.pat + 1≤c + 1;exact ni [_,_] [(Z0,Z1)] (.s Z0) (.s Z1) rfl this,h.3,h.4,h.5⟩
variable {ft:FT}{st s1 s2 s3:St}
theorem aA {α β:Type}{r:Res α}{f:α→Res β}{a:α}{R:Res β}(h:r=.ok a)(h2:f a=R):r.bind f=R:=by rw [h];exact h2
theorem aI {α β:Type}{o:Option α}{f:α→Res β}{a:α}{R:Res β}(h:o=some a)(h2:f a=R):(Res.ofOpt o).bind f=R:=by rw [h];exact h2
theorem bindX {α β:Type}{r:Res α}{f:α→Res β}{n:Int}(h:r=.flt n):r.bind f=.flt n:=by rw [h]
theorem ad {i:Nat}{d:D}(h:a8 st i=some d):ev ft (.var i) st=.ok (d,st):=aI h rfl
theorem jd {i:Nat}{d:D}(h:st.get i=some (.val d)):ev ft (.fz i) st=.ok (d,st):=by show (match st.get i with | some (.val d)=>Res.ok (d,st) | some (.own d)=>.ok (d,st.set i (.val d)) | _=>.bad)=_;rw [h]
theorem dM {i:Nat}{d:D}(h:st.get i=some (.own d)):ev ft (.fz i) st=.ok (d,st.set i (.val d)):=by show (match st.get i with | some (.val d)=>Res.ok (d,st) | some (.own d)=>.ok (d,st.set i (.val d)) | _=>.bad)=_;rw [h]
theorem ag {d:D}:ev ft (.cst d) st=.ok (d,st):=rfl
theorem E_glob {x:Str}{d:D}:ev ft (.glob x d) st=.ok (d,st):=rfl
theorem ay {e i:E}{a b d:D}(h1:ev ft e st=.ok (a,s1))(h2:ev ft i s1=.ok (b,s2))(h3:ixD a b=some d):ev ft (.ix e i) st=.ok (d,s2):=aA h1 (aA h2 (aI h3 rfl))
theorem E_ixV {k:Nat}{i:E}{a b c d:D}(h0:bL st k=some c)(h1:ev ft i st=.ok (b,s1))(h2:bL s1 k=some a)(h3:ixD a b=some d):ev ft (.ixV k i) st=.ok (d,s1):=aI h0 (aA h1 (aI h2 (aI h3 rfl)))
theorem cG:evO ft none st=.ok (none,st):=rfl
theorem bI {e:E}{i:Int}(h:ev ft e st=.ok (.int i,s1))(hs:bl i=true):evO ft (some e) st=.ok (some i,s1):=aA h (if_pos hs)
theorem cK {e:E}{lo hi:Option E}{a d:D}{x y:Option Int}(h1:ev ft e st=.ok (a,s1))(h2:evO ft lo s1=.ok (x,s2))(h3:evO ft hi s2=.ok (y,s3))(h4:co a x y=some d):ev ft (.slc e lo hi) st=.ok (d,s3):=aA h1 (aA h2 (aA h3 (aI h4 rfl)))
theorem bD {o:Op}{l r:E}{a b d:D}(h1:ev ft l st=.ok (a,s1))(h2:ev ft r s1=.ok (b,s2))(h3:opD o a b=some d):ev ft (.op o l r) st=.ok (d,s2):=aA h1 (aA h2 (aI h3 rfl))
theorem aV {l r:E}{a b:D}{t:Bool}(h1:ev ft l st=.ok (a,s1))(h2:ev ft r s1=.ok (b,s2))(h3:eqD a b=some t):ev ft (.op .eq l r) st=.ok (.bool t,s2):=bD h1 h2 (congrArg (Option.map _) h3)
theorem bw {l r:E}{a b:D}{t:Bool}(h1:ev ft l st=.ok (a,s1))(h2:ev ft r s1=.ok (b,s2))(h3:eqD a b=some t):ev ft (.op .ne l r) st=.ok (.bool !t,s2):=bD h1 h2 (congrArg (Option.map _) h3)
theorem E_eqV {k:Nat}{r:E}{b c d:D}{t:Bool}(h0:bL st k=some c)(h1:ev ft r st=.ok (b,s1))(h2:bL s1 k=some d)(h3:eqD d b=some t):ev ft (.eqV k r) st=.ok (.bool t,s1):=aI h0 (aA h1 (aI h2 (aI h3 rfl)))
theorem eM {e:E}{a:D}(h1:ev ft e st=.ok (a,s1)):ev ft (.isN e) st=.ok (.bool (cg a),s1):=aA h1 rfl
theorem gM {e:E}{a:D}(h1:ev ft e st=.ok (a,s1)):ev ft (.isNN e) st=.ok (.bool (!cg a),s1):=aA h1 rfl
theorem E_inV {l:E}{k:Nat}{a c:D}{t:Bool}(h1:ev ft l st=.ok (a,s1))(h2:bL s1 k=some c)(h3:inD a c=some t):ev ft (.inV l k) st=.ok (.bool t,s1):=aA h1 (aI h2 (aI h3 rfl))
theorem E_ninV {l:E}{k:Nat}{a c:D}{t:Bool}(h1:ev ft l st=.ok (a,s1))(h2:bL s1 k=some c)(h3:inD a c=some t):ev ft (.ninV l k) st=.ok (.bool !t,s1):=aA h1 (aI h2 (aI h3 rfl))
theorem E_inn {l r:E}{a c:D}{t:Bool}(h1:ev ft l st=.ok (a,s1))(h2:ev ft r s1=.ok (c,s2))(h3:inD a c=some t):ev ft (.inn l r) st=.ok (.bool t,s2):=aA h1 (aA h2 (aI h3 rfl))
theorem E_ninn {l r:E}{a c:D}{t:Bool}(h1:ev ft l st=.ok (a,s1))(h2:ev ft r s1=.ok (c,s2))(h3:inD a c=some t):ev ft (.ninn l r) st=.ok (.bool !t,s2):=aA h1 (aA h2 (aI h3 rfl))
theorem fD:br ft [] st=.ok (.bool true,st):=rfl
theorem A_t {e:E}{r:List E}{R:Res (D×St)}(h1:ev ft e st=.ok (.bool true,s1))(h2:br ft r s1=R):br ft (e::r) st=R:=aA h1 h2
theorem A_f {e:E}{r:List E}(h1:ev ft e st=.ok (.bool false,s1)):br ft (e::r) st=.ok (.bool false,s1):=aA h1 rfl
theorem eK:dm ft [] st=.ok (.bool false,st):=rfl
theorem R_t {e:E}{r:List E}(h1:ev ft e st=.ok (.bool true,s1)):dm ft (e::r) st=.ok (.bool true,s1):=aA h1 rfl
theorem R_f {e:E}{r:List E}{R:Res (D×St)}(h1:ev ft e st=.ok (.bool false,s1))(h2:dm ft r s1=R):dm ft (e::r) st=R:=aA h1 h2
theorem R_b {e:E}{r:List E}{t u:Bool}(h1:ev ft e st=.ok (.bool t,s1))(h2:t=false→dm ft r s1=.ok (.bool u,s1)):dm ft (e::r) st=.ok (.bool (t||u),s1):=by
 cases t
 ·exact R_f h1 (h2 rfl)
 ·exact R_t h1
theorem A_b {e:E}{r:List E}{t u:Bool}(h1:ev ft e st=.ok (.bool t,s1))(h2:t=true→br ft r s1=.ok (.bool u,s1)):br ft (e::r) st=.ok (.bool (t&&u),s1):=by
 cases t
 ·exact A_f h1
 ·exact A_t h1 (h2 rfl)
theorem E_and {es:List E}{R:Res (D×St)}(h:br ft es st=R):ev ft (.and es) st=R:=h
theorem eZ {es:List E}{R:Res (D×St)}(h:dm ft es st=R):ev ft (.or es) st=R:=h
theorem bT {c a b:E}{R:Res (D×St)}(h1:ev ft c st=.ok (.bool true,s1))(h2:ev ft a s1=R):ev ft (.ite c a b) st=R:=aA h1 h2
theorem bU {c a b:E}{R:Res (D×St)}(h1:ev ft c st=.ok (.bool false,s1))(h2:ev ft b s1=R):ev ft (.ite c a b) st=R:=aA h1 h2
theorem E_ite {c a b:E}{t:Bool}{R:Res (D×St)}(h1:ev ft c st=.ok (.bool t,s1))(h2:t=true→ev ft a s1=R)(h3:t=false→ev ft b s1=R):ev ft (.ite c a b) st=R:=by
 cases t
 ·exact bU h1 (h3 rfl)
 ·exact bT h1 (h2 rfl)
theorem ao:evs ft [] st=.ok ([],st):=rfl
theorem af {e:E}{r:List E}{a:D}{ds:List D}(h1:ev ft e st=.ok (a,s1))(h2:evs ft r s1=.ok (ds,s2)):evs ft (e::r) st=.ok (a::ds,s2):=aA h1 (aA h2 rfl)
theorem aF {es:List E}{ds:List D}(h:evs ft es st=.ok (ds,s1))(hl:ds.length≤1000):ev ft (.tup es) st=.ok (.tup ds,s1):=aA h (if_pos hl)
theorem cv {es:List E}{ds:List D}(h:evs ft es st=.ok (ds,s1))(hl:ds.length≤1000):ev ft (.lst es) st=.ok (.lst ds,s1):=aA h (if_pos hl)
theorem cM {e:E}{a:D}{n:Nat}(h:ev ft e st=.ok (a,s1))(hl:da a=some n)(hn:n≤100000):ev ft (.len e) st=.ok (.int n,s1):=aA h (aI hl (if_pos hn))
theorem E_lenV {k:Nat}{c:D}{n:Nat}(h:bL st k=some c)(hl:da c=some n)(hn:n≤100000):ev ft (.lenV k) st=.ok (.int n,st):=aI h (aI hl (if_pos hn))
theorem E_str {e:E}{i:Int}(h:ev ft e st=.ok (.int i,s1))(hs:bl i=true):ev ft (.str e) st=.ok (.str (strI i),s1):=aA h (if_pos hs)
theorem E_upper {e:E}{x:Str}(h:ev ft e st=.ok (.str x,s1))(hs:(gq x).length≤1000):ev ft (.upper e) st=.ok (.str (gq x),s1):=aA h (if_pos hs)
theorem E_getV {k:Nat}{a b:E}{x:Str}{d:D}{kv kvs:List (Str×D)}(h0:gi st k=some kv)(h1:ev ft a st=.ok (.str x,s1))(h2:ev ft b s1=.ok (d,s2))(h3:gi s2 k=some kvs):ev ft (.getV k a b) st=.ok ((aX x kvs).getD d,s2):=aI h0 (aA h1 (aA h2 (aI h3 rfl)))
theorem E_listV {k:Nat}{kvs:List (Str×D)}(h:bL st k=some (.dct kvs))(hl:kvs.length≤1000):ev ft (.listV k) st=.ok (.lst (kvs.map fun p=>.str p.1),st):=aI (by unfold gi;rw [h]) (if_pos hl)
theorem E_listR {e:E}{n:Int}(h:ev ft e st=.ok (.int n,s1))(hr:c9 n=true):ev ft (.listR e) st=.ok (.lst (cP n),s1):=aA h (if_pos hr)
theorem bt {f:Fn}{es:List E}{ds:List D}{d:D}{g:G}(h1:evs ft es st=.ok (ds,s1))(h2:ft f ds s1.g=.ok (d,g)):ev ft (.call f es) st=.ok (d,{s1 with g:=g}):=aA h1 (aA h2 rfl)
theorem E_callX {f:Fn}{es:List E}{ds:List D}{n:Int}(h1:evs ft es st=.ok (ds,s1))(h2:ft f ds s1.g=.flt n):ev ft (.call f es) st=.flt n:=aA h1 (bindX h2)
theorem E_callL {e:E}{es:List E}{ds:List D}{d:D}{g:G}(h0:ev ft e st=.ok (.str (so "fsub"),s1))(h1:evs ft es s1=.ok (ds,s2))(h2:ft .lay_formal_sub ds s2.g=.ok (d,g)):ev ft (.callL e es) st=.ok (d,{s2 with g:=g}):=aA h0 (aA h1 (aA h2 rfl))
theorem E_newB {e:E}{n:Int}(h:ev ft e st=.ok (.int n,s1))(hu:s1.g.used=false):ev ft (.newB e) st=.ok (.hnd 1,{s1 with g:={s1.g with used:=true,bld:=some ⟨n,0,[],[]⟩}}):=aA h (by simp only [hu])
theorem E_fresh {k:Nat}{e:E}{a d:D}{b:Bld}{g:G}(h0:a8 st k=some (.hnd 1))(hb:st.g.bld=some b)(h1:ev ft e st=.ok (a,s1))(h2:ft .nfresh [.hnd 2,a] s1.g=.ok (d,g)):ev ft (.fresh k e) st=.ok (d,{s1 with g:=g}):=aI (cQ h0) (aI hb (aA h1 (aA h2 rfl)))
theorem E_mark {k:Nat}{a c:E}{x y d:D}{g:G}(h0:a8 st k=some (.hnd 1))(h1:ev ft a st=.ok (x,s1))(h2:ev ft c s1=.ok (y,s2))(h3:ft .mark [.hnd 1,x,y] s2.g=.ok (d,g)):ev ft (.mark k a c) st=.ok (d,{s2 with g:=g}):=aI (cQ h0) (aA h1 (aA h2 (aA h3 rfl)))
theorem E_steps {k:Nat}{b:Bld}(h0:a8 st k=some (.hnd 1))(hb:st.g.bld=some b):ev ft (.steps k) st=.ok (.lst b.steps,{st with g:={st.g with bld:=none}}):=aI (cQ h0) (aI hb rfl)
theorem E_innerPlus {k:Nat}{es:List E}{ds:List D}{b:Bld}(h0:a8 st k=some (.hnd 1))(h1:evs ft es st=.ok (ds,s1))(hb:s1.g.bld=some b)(hl:b.inner.length + ds.length≤1000):ev ft (.innerPlus k es) st=.ok (.lst (b.inner++ds),s1):=aI (cQ h0) (aA h1 (aI hb (if_pos hl)))
theorem dj {α:Type}{emb:α→D}{F:D→St→Res (List D×St)}{st0:St}{h:α→List D}: ∀{xs:List α},(∀x∈xs,F (emb x) st0=.ok (h x,st0))→cC F (xs.map emb) st0=.ok ((xs.map h).flatten,st0)
 | [],_=>rfl
 | x::r,H=>by
  have h2:=dj (xs:=r) fun y hy=>H y (List.mem_cons_of_mem _ hy)
  show ((F (emb x) st0).calm.bind fun p=>(cC F (r.map emb) p.2).bind fun q=>.ok (p.1++q.1,q.2))=_
  exact aA (by rw [H x List.mem_cons_self];rfl) (aA h2 rfl)
theorem jC {α:Type}{emb:α→D}{xs:List α}(hl:xs.length≤1000):dG (.lst (xs.map emb))=some (xs.map emb):=if_pos (by rw [List.length_map];exact hl)
theorem iN {conds:List E}{elt:E}{sx st0:St}{h:List D}(e2:sx.g=st0.g)(t:Bool)(e3:br ft conds sx=.ok (.bool t,sx))(e4:t=true→ ∃d,ev ft elt sx=.ok (d,sx)∧h=[d])(e5:t=false→h=[]):
  ((br ft conds sx).bind fun t=>match t.1 with
   | .bool true=>(ev ft elt t.2).bind fun q=>.ok ([q.1],{q.2 with ρ:=st0.ρ})
   | _=>.ok ([],{t.2 with ρ:=st0.ρ}))=.ok (h,st0):=by
 refine aA e3 ?_
 cases t
 ·rw [e5 rfl];show Res.ok ([],{sx with ρ:=st0.ρ})=_;rw [e2]
 ·refine x12 (e4 rfl) fun d e6 e7=>?_
  refine aA e6 ?_
  show Res.ok ([d],({sx with ρ:=st0.ρ}:St))=_
  rw [e7,e2]
theorem cn {pat:List Nat}{src elt:E}{conds:List E}{α:Type}{emb:α→D}{xs:List α}{h:α→List D}(h0:ev ft src st=.ok (.lst (xs.map emb),s1))(hl:xs.length≤1000)
  (H: ∀x∈xs,∃sx,bb (s1.enter pat) pat (emb x)=some sx∧sx.g=s1.g∧ ∃t,br ft conds sx=.ok (.bool t,sx)∧(t=true→ ∃d,ev ft elt sx=.ok (d,sx)∧h x=[d])∧(t=false→h x=[])):
  ev ft (.compE pat src conds elt) st=.ok (.lst (xs.map h).flatten,s1):=
 aA h0 (aI (jC hl) (aA (dj (h:=h) fun x hx=>by
  obtain ⟨sx,e1,e2,t,e3,e4,e5⟩:=H x hx
  exact aI e1 (iN (st0:=s1.enter pat) e2 t e3 e4 e5)) rfl))
theorem E_compVp {pat:List Nat}{k:Nat}{elt:E}{conds:List E}{α:Type}{emb:α→D}{xs:List α}{h:α→List D}(h0:bL st k=some (.lst (xs.map emb)))(hl:xs.length≤1000)
  (H: ∀x∈xs,∃sx,bb (st.enter pat) pat (emb x)=some sx∧sx.g=st.g∧ ∃t,br ft conds sx=.ok (.bool t,sx)∧(t=true→ ∃d,ev ft elt sx=.ok (d,sx)∧h x=[d])∧(t=false→h x=[])):
  ev ft (.compV pat k conds elt) st=.ok (.lst (xs.map h).flatten,st):=
 aI h0 (aI (jC hl) (aA (dj (h:=h) fun x hx=>by
  obtain ⟨sx,e1,e2,t,e3,e4,e5⟩:=H x hx
  exact aI e1 (iN (st0:=st.enter pat) e2 t e3 e4 e5)) rfl))
theorem rng_ok {n:Nat}(h:n≤1000):c9 n=true:=by simp [c9];exact Int.ofNat_le.2 ‹_›
theorem rng_is (n:Nat):cP (n:Int)=(List.range n).map fun i:Nat=>D.int i:=by unfold cP;rw [Int.toNat_natCast]
theorem E_compRp {v:Nat}{src elt:E}{conds:List E}{n:Nat}{h:Nat→List D}(h0:ev ft src st=.ok (.int n,s1))(hl:n≤1000)
  (H: ∀i,i < n→ ∃t,br ft conds ((s1.enter [v]).set v (.val (.int i)))=.ok (.bool t,(s1.enter [v]).set v (.val (.int i)))∧(t=true→ ∃d,ev ft elt ((s1.enter [v]).set v (.val (.int i)))=.ok (d,(s1.enter [v]).set v (.val (.int i)))∧h i=[d])∧(t=false→h i=[])):
  ev ft (.compR v src conds elt) st=.ok (.lst ((List.range n).map h).flatten,s1):=
 aA h0 ((if_pos (rng_ok hl)).trans (by
  rw [rng_is]
  exact aA (dj (h:=h) fun x hx=>by
   refine x13 (H x (List.mem_range.mp hx)) fun t e3 e4 e5=>?_
   exact iN (st0:=s1.enter [v]) rfl t e3 e4 e5) rfl))
theorem one_flat {α β:Type}(h:α→β)(xs:List α):(xs.map fun x=>[h x]).flatten=xs.map h:=by
 induction xs with
 | nil=>rfl
 | cons x r ih=>rw [List.map_cons,List.flatten_cons,ih];rfl
theorem E_comp2 {a b:Nat}{src:E}{ds zs:List D}(h0:ev ft src st=.ok (.lst ds,s1))(hl:ds.length≤1000)(hz:gT ds=some zs):ev ft (.comp2 a src b) st=.ok (.lst zs,s1):=
 aA h0 (aI (if_pos hl) (aI hz rfl))
theorem E_dcomp {v:Nat}{src k e:E}{α:Type}{emb:α→D}{xs:List α}{h:α→D}(h0:ev ft src st=.ok (.lst (xs.map emb),s1))(hl:xs.length≤1000)
  (H: ∀x∈xs,∃a sa b sb,ev ft k ((s1.enter [v]).set v (.val (emb x)))=.ok (a,sa)∧ev ft e sa=.ok (b,sb)∧sb.g=s1.g∧gN a b=some (h x)):
  ev ft (.dcomp v src k e) st=.ok (.dct (cY (xs.map h)),s1):=
 aA h0 (aI (jC hl) ((aA (dj (h:=fun x=>[h x]) fun x hx=>by
  refine x44 (H x hx) fun a sa b sb e1 e2 e3 e4=>?_
  refine aA e1 (aA e2 (aI e4 ?_))
  show Res.ok ([h x],({sb with ρ:=(s1.enter [v]).ρ}:St))=_
  rw [e3];rfl) rfl).trans (by rw [one_flat];rfl)))
theorem E_lenDC {v:Nat}{src k e:E}{n:Nat}{h:Nat→D}(h0:ev ft src st=.ok (.int n,s1))(hl:n≤1000)
  (H: ∀i,i < n→ ∃a sa b sb,ev ft k ((s1.enter [v]).set v (.val (.int i)))=.ok (a,sa)∧ev ft e sa=.ok (b,sb)∧sb.g=s1.g∧i7 a b=some (h i)):
  ev ft (.lenDC v src k e) st=.ok (.int (aR ((List.range n).map h)).length,s1):=
 aA h0 ((if_pos (rng_ok hl)).trans (by
  rw [rng_is]
  refine (aA (dj (h:=fun i=>[h i]) fun x hx=>by
   refine x44 (H x (List.mem_range.mp hx)) fun a sa b sb e1 e2 e3 e4=>?_
   refine aA e1 (aA e2 (aI e4 ?_))
   show Res.ok ([h x],({sb with ρ:=(s1.enter [v]).ρ}:St))=_
   rw [e3];rfl) rfl).trans ?_
  rw [one_flat];rfl))
theorem aB {i:Nat}{e:E}{d:D}(h:ev ft e st=.ok (d,s1)):ex ft (.assign i e) st=.ok (.next,s1.set i (.val d)):=aA h rfl
theorem dT {i:Nat}{es:List E}{ds:List D}(h:evs ft es st=.ok (ds,s1))(hl:ds.length≤1000):ex ft (.ownL i es) st=.ok (.next,s1.set i (.own (.lst ds))):=aA h (if_pos hl)
theorem f9 {i:Nat}:ex ft (.ownD i) st=.ok (.next,st.set i (.own (.dct []))):=rfl
theorem dS {is:List Nat}{e:E}{ds:List D}(h:ev ft e st=.ok (.tup ds,s1))(hs:s1.sets is ds=some s2):ex ft (.tupA is e) st=.ok (.next,s2):=aA h (aI hs rfl)
theorem gK {is:List (Nat×Init)}{qs:List (Nat×Slot)}(h:cV ft is st=.ok (qs,s1)):ex ft (.tupO is) st=.ok (.next,qs.foldl (fun s q=>s.set q.1 q.2) s1):=aA h rfl
theorem jb:cV ft [] st=.ok ([],st):=rfl
theorem I_v {i:Nat}{e:E}{r:List (Nat×Init)}{d:D}{qs:List (Nat×Slot)}(h:ev ft e st=.ok (d,s1))(h2:cV ft r s1=.ok (qs,s2)):cV ft ((i,.v e)::r) st=.ok ((i,.val d)::qs,s2):=aA h (aA h2 rfl)
theorem I_l {i:Nat}{es:List E}{r:List (Nat×Init)}{ds:List D}{qs:List (Nat×Slot)}(h:evs ft es st=.ok (ds,s1))(hl:ds.length≤1000)(h2:cV ft r s1=.ok (qs,s2)):cV ft ((i,.l es)::r) st=.ok ((i,.own (.lst ds))::qs,s2):=aA h ((if_pos hl).trans (aA h2 rfl))
theorem I_d {i:Nat}{r:List (Nat×Init)}{qs:List (Nat×Slot)}(h2:cV ft r st=.ok (qs,s2)):cV ft ((i,.d)::r) st=.ok ((i,.own (.dct []))::qs,s2):=aA h2 rfl
theorem gL {k:Nat}{e1 e2:E}{d:D}{x:Str}{kv kvs:List (Str×D)}(h1:ev ft e2 st=.ok (d,s1))(h2:gs s1 k=some kv)(h3:ev ft e1 s1=.ok (.str x,s2))(h4:gs s2 k=some kvs)(hl:kvs.length≤1000):ex ft (.setK k e1 e2) st=.ok (.next,s2.set k (.own (.dct (cz x d kvs)))):=aA h1 (aI h2 (aA h3 (aI h4 (if_pos hl))))
theorem fB {k:Nat}{e:E}{d:D}{ds0 ds:List D}(h1:cZ st k=some ds0)(h2:ev ft e st=.ok (d,s1))(h3:cZ s1 k=some ds)(hl:ds.length≤1000):ex ft (.app k e) st=.ok (.next,s1.set k (.own (.lst (ds++[d])))):=aI h1 (aA h2 (aI h3 (if_pos hl)))
theorem X_aug {k:Nat}{e:E}{es ds0 ds:List D}(h1:cZ st k=some ds0)(h2:ev ft e st=.ok (.lst es,s1))(h3:cZ s1 k=some ds)(hl:ds.length + es.length≤1000):ex ft (.aug k e) st=.ok (.next,s1.set k (.own (.lst (ds++es)))):=aI h1 (aA h2 (aI h3 (if_pos hl)))
theorem aZ {c:E}{a b:List S}{R:Res (Fl×St)}(h1:ev ft c st=.ok (.bool true,s1))(h2:exs ft a s1=R):ex ft (.ife c a b) st=R:=aA h1 h2
theorem aD {c:E}{a b:List S}{R:Res (Fl×St)}(h1:ev ft c st=.ok (.bool false,s1))(h2:exs ft b s1=R):ex ft (.ife c a b) st=R:=aA h1 h2
theorem bE {e:E}{d:D}(h:ev ft e st=.ok (d,s1)):ex ft (.ret e) st=.ok (.ret d,s1):=aA h rfl
theorem f8 {e:E}{n:Int}(h:ev ft e st=.ok (.int n,s1)):ex ft (.rais e) st=.flt n:=aA h rfl
theorem X_ex {e:E}(h:ev ft e st=.ok (.none,s1)):ex ft (.ex e) st=.ok (.next,s1):=aA h rfl
theorem X_lay {k:Nat}{e1 e2:E}{x y:D}{g:G}(h0:a8 st k=some (.hnd 1))(h1:ev ft e1 st=.ok (x,s1))(h2:ev ft e2 s1=.ok (y,s2))(h3:ft .lay [.hnd 1,x,y] s2.g=.ok (.none,g)):ex ft (.lay k e1 e2) st=.ok (.next,{s2 with g:=g}):=aI (cQ h0) (aA h1 (aA h2 (aA h3 rfl)))
theorem X_innerApp {k:Nat}{e:E}{d:D}{b0 b:Bld}(h0:a8 st k=some (.hnd 1))(hb:st.g.bld=some b0)(h1:ev ft e st=.ok (d,s1))(h2:s1.g.bld=some b)(hl:b.inner.length≤1000):ex ft (.innerApp k e) st=.ok (.next,{s1 with g:={s1.g with bld:=some {b with inner:=b.inner++[d]}}}):=aI (cQ h0) (aI hb (aA h1 (aI h2 (if_pos hl))))
theorem X_potInc {k:Nat}(h0:a8 st k=some (.hnd 0)):ex ft (.potInc k) st=.ok (.next,{st with g:={st.g with pat:=st.g.pat + 1}}):=aI (cQ h0) rfl
theorem ar:exs ft [] st=.ok (.next,st):=rfl
theorem ah {s:S}{r:List S}{R:Res (Fl×St)}(h1:ex ft s st=.ok (.next,s1))(h2:exs ft r s1=R):exs ft (s::r) st=R:=aA h1 h2
theorem aW {s:S}{r:List S}{d:D}(h1:ex ft s st=.ok (.ret d,s1)):exs ft (s::r) st=.ok (.ret d,s1):=aA h1 rfl
theorem bp {s:S}{r:List S}{n:Int}(h1:ex ft s st=.flt n):exs ft (s::r) st=.flt n:=bindX h1
theorem bu {f:FnIR}{args:List D}{g:G}{d:D}(hl:args.length=f.np)(h:exs ft f.body ⟨args.map (fun d=>some (.val d))++List.replicate (f.nv - f.np) none,g⟩=.ok (.ret d,st)):aG ft f args g=.ok (d,st.g):=by
 unfold aG;rw [if_pos hl,h]
theorem run_next {f:FnIR}{args:List D}{g:G}(hl:args.length=f.np)(h:exs ft f.body ⟨args.map (fun d=>some (.val d))++List.replicate (f.nv - f.np) none,g⟩=.ok (.next,st)):aG ft f args g=.ok (.none,st.g):=by
 unfold aG;rw [if_pos hl,h]
theorem fH {f:FnIR}{args:List D}{g:G}{n:Int}(hl:args.length=f.np)(h:exs ft f.body ⟨args.map (fun d=>some (.val d))++List.replicate (f.nv - f.np) none,g⟩=.flt n):aG ft f args g=.flt n:=by
 unfold aG;rw [if_pos hl,h]
noncomputable def flStop (r:Res (Fl×St)):Bool:=match r with
 | .ok (.next,_)=>false
 | .bad=>false
 | _=>true
theorem iD {f:D→St→Res (Fl×St)}{d:D}{r:List D}{R:Res (Fl×St)}(h:f d st=R)(hs:flStop R=true):cr f (d::r) st=R:=by
 show (f d st).bind (fun p=>match p.1 with
  | .next=>cr f r p.2
  | .ret v=>.ok (.ret v,p.2))=R
 rw [h]
 cases R with
 | flt n=>rfl
 | bad=>cases hs
 | ok p=>
  obtain ⟨fl,s⟩:=p
  cases fl with
  | next=>cases hs
  | ret v=>rfl
theorem eT {f:D→St→Res (Fl×St)}{d:D}{r:List D}(h:f d st=.ok (.next,s1)):cr f (d::r) st=cr f r s1:=aA h rfl
theorem cA {α:Type}{emb:α→D}{f:D→St→Res (Fl×St)}(I:List α→St→Prop)(Post:Res (Fl×St)→Prop){xs:List α}
  (step: ∀p x q st,xs=p++x::q→I p st→(∃s1,f (emb x) st=.ok (.next,s1)∧I (p++[x]) s1)∨(∃R,f (emb x) st=R∧flStop R=true∧Post R)) (fin: ∀st,I xs st→Post (.ok (.next,st))) {st:St} (h:I [] st):Post (cr f (xs.map emb) st):=by
 have key: ∀(q p:List α) (st:St),xs=p++q→I p st→Post (cr f (q.map emb) st):=by
  intro q
  induction q with
  | nil=>intro p st e hI;rw [List.append_nil] at e;subst e;exact fin st hI
  | cons x q ih=>
   intro p st e hI
   rcases step p x q st e hI with ⟨s1,e1,h1⟩ | ⟨R,e1,e2,e3⟩
   ·rw [List.map_cons,eT e1]
    exact ih (p++[x]) s1 (by rw [e];simp) h1
   ·rw [List.map_cons,iD e1 e2];exact e3
 exact key xs [] st rfl h
theorem eJ {pat:List Nat}{it:E}{body:List S}{ds:List D}(h:ev ft it st=.ok (.lst ds,s1))(hl:ds.length≤1000):ex ft (.forL pat it body) st=cr (fun d s=>(Res.ofOpt (bb s pat d)).bind fun s1=>exs ft body s1) ds s1:=
 aA h (aI (if_pos hl) rfl)
theorem X_forR {v:Nat}{it:E}{body:List S}{n:Nat}(h:ev ft it st=.ok (.int n,s1))(hl:n≤1000):ex ft (.forR v it body) st=cr (fun d s=>exs ft body (s.set v (.val d))) ((List.range n).map fun i:Nat=>.int i) s1:=
 aA h ((if_pos (rng_ok hl)).trans (by rw [rng_is]))
theorem X_forE {v1 v2:Nat}{it:E}{body:List S}{ds:List D}(h:ev ft it st=.ok (.lst ds,s1))(hl:ds.length≤1000):ex ft (.forE v1 v2 it body) st=cr (fun d s=>match d with
    | .tup [a,b]=>exs ft body ((s.set v1 (.val a)).set v2 (.val b))
    | _=>.bad) (ds.zipIdx.map fun q=>.tup [.int q.2,q.1]) s1:=
 aA h (aI (if_pos hl) rfl)
theorem take_ok {g:G}{c:Int}(n:Int)(h:Gp c g)(hc:c≤900)(h0:0 < n)(h1:n < 1000):
  ∃k,0≤k∧k < n∧aG tb ir_take [.hnd 0,.int n] g=.ok (.int k,{g with pat:=g.pat + 1}):=by
 have hlo:=h.lo
 have hhi:=h.hi
 have hle:=h.len
 have s1:bl (g.pat + 1)=true:=dt (by exact ni [_] [(.n 0,Z0)] (.s (.n (-1000000))) (.s Z0) rfl hlo) (by exact ni [_,_] [(Z0,Z1),(Z1,.n 900)] (.s (.s Z0)) (.n 1000000) rfl hhi hc)
 have pa: ∀{ρ:List (Option Slot)} {g':G},ρ[0]? =some (some (.val (.hnd 0)))→ev tb (.potAt 0) ⟨ρ,g'⟩=.ok (.int g'.pat,⟨ρ,g'⟩):=fun e=>aI (cQ (by simp only [a8,St.get,e];rfl)) rfl
 have pc: ∀{ρ:List (Option Slot)} {g':G},ρ[0]? =some (some (.val (.hnd 0)))→ev tb (.potCells 0) ⟨ρ,g'⟩=.ok (.lst (g'.cells.map .int),⟨ρ,g'⟩):=fun e=>aI (cQ (by simp only [a8,St.get,e];rfl)) rfl
 have hcmp:ev tb (.op .gt (.potAt 0) (.len (.potCells 0))) ⟨[some (.val (.hnd 0)),some (.val (.int n))],{g with pat:=g.pat + 1}⟩=.ok (.bool (decide ((g.cells.length:Int) < g.pat + 1)),⟨[some (.val (.hnd 0)),some (.val (.int n))],{g with pat:=g.pat + 1}⟩):=
  bD (pa rfl) (cM (n:=g.cells.length) (pc rfl) (by exact congrArg some (List.length_map _)) (lec ‹_› (by rfl))) (op_gt _ _)
 by_cases hq:(g.cells.length:Int) < g.pat + 1
 ·rw [decide_eq_true hq] at hcmp
  refine ⟨_,Int.fmod_nonneg_of_pos _ h0,Int.fmod_lt_of_pos _ h0,bu (f:=ir_take) rfl (ah (X_potInc rfl) (aW (aZ hcmp (aW (bE (bD (bD (pa rfl) (bD (bD (pa rfl) (pa rfl) (op_mul s1 s1)) ag (op_fdiv (by decide) (by decide))) (gu _ _)) (ad rfl) (op_mod h0 h1)))))))⟩
 ·rw [decide_eq_false hq] at hcmp
  have e1:g.pat + 1 - 1=g.pat:=by exact Int.le_antisymm (ni [_] [] (.d (.s Z0) (.n 1)) Z0 rfl) (ni [_] [] Z0 (.d (.s Z0) (.n 1)) rfl)
  have hi:g.pat.toNat < g.cells.length:=by omega
  have e2:ixD (.lst (g.cells.map .int)) (.int (g.pat + 1 - 1))=some (.int (g.cells[g.pat.toNat])):=by
   rw [e1]
   simp only [ixD,dt (show -1000000 < g.pat by exact ni [_] [(.n 0,Z0)] (.s (.n (-1000000))) Z0 rfl hlo) (show g.pat < 1000000 by exact ni [_,_] [(.s Z0,Z1),(Z1,.n 60)] (.s Z0) (.n 1000000) rfl (Int.not_lt.1 hq) (Int.ofNat_le.2 hle)),if_true,dF,if_pos hlo,List.getElem?_map,List.getElem?_eq_getElem hi,Option.map_some]
  exact ⟨_,Int.fmod_nonneg_of_pos _ h0,Int.fmod_lt_of_pos _ h0,bu (f:=ir_take) rfl (ah (X_potInc rfl) (ah (aD hcmp ar) (aW (bE (bD (ay (pc rfl) (bD (pa rfl) ag (op_sub _ _)) e2) (ad rfl) (op_mod h0 h1))))))⟩
end Mine.Pl
end
section
open PySem PySem.W PyProof.Rows
set_option maxHeartbeats 4000000
open PySem.Str renaming ofString → so
namespace Mine.Pl
inductive Nm where
 | minus | mod | pick
 deriving DecidableEq
inductive Pm where
 | one (a:Bool) | two (a:Bool) | sep (a b:Bool)
inductive Gv where
 | t | u | no
 deriving DecidableEq
inductive Df where
 | none | box | other
 deriving DecidableEq
noncomputable def nmS:Nm→Str
 | .minus=>so "\"-\""
 | .mod=>so "\"mod\""
 | .pick=>so "pick"
noncomputable def tuS:Bool→Str
 | false=>so "t"
 | true=>so "u"
noncomputable def aq (x:Str):D:=.tup [.str (so "name"),.str x]
noncomputable def be:Pm→List D
 | .one a=>[.tup [.lst [.str (so "x")],.str (so "in"),aq (tuS a),.none]]
 | .two a=>[.tup [.lst [.str (so "x"),.str (so "y")],.str (so "in"),aq (tuS a),.none]]
 | .sep a b=>[.tup [.lst [.str (so "x")],.str (so "in"),aq (tuS a),.none],.tup [.lst [.str (so "y")],.str (so "in"),aq (tuS b),.none]]
noncomputable def ia:Pm→Str
 | .one a=>tuS a
 | .two a=>tuS a++tuS a
 | .sep a b=>tuS a++tuS b
noncomputable def gvS:Gv→Str
 | .t=>so "t"
 | .u=>so "u"
 | .no=>so "-"
noncomputable def ig:Gv→D
 | .no=>.none
 | g=>aq (gvS g)
noncomputable def e9:Gv→Str
 | .no=>so "procedure"
 | _=>so "function"
noncomputable def dfD:Df→D
 | .none=>.none
 | .box=>.str (so "box")
 | .other=>aq (so "other")
structure Fm where
 line:Int
 nm:Nm
 pm:Pm
 gv:Gv
 df:Df
noncomputable def a7 (f:Fm):D:=.tup [.str (e9 f.gv),.str (nmS f.nm),.lst (be f.pm),ig f.gv]
noncomputable def fmD (f:Fm):D:=.tup [.str (so "fsub"),.int f.line,a7 f,dfD f.df]
noncomputable def kdS (f:Fm):Str:=ia f.pm++gvS f.gv
theorem eq_int (a b:Int):eqD (.int a) (.int b)=some (decide (a=b)):=by
 have e:(a==b)=decide (a=b):=by by_cases h:a=b <;> simp [h]
 exact (gE (a:=.int a) (b:=.int b) rfl rfl (Nat.zero_le _) (Nat.zero_le _)).trans (congrArg some e)
theorem ieq_t {a b:Int}(h:a=b):eqD (.int a) (.int b)=some true:=by rw [eq_int,decide_eq_true h]
theorem gQ {a b:Int}(h:a≠b):eqD (.int a) (.int b)=some false:=by rw [eq_int,decide_eq_false h]
theorem two_of {k:Int}(h0:0≤k)(h1:k < 2):k=0∨k=1:=by
 apply AllB.at (n:=2) h0 h1;exact .s (.s .z (.inl rfl)) (.inr rfl)
theorem pick_tu {k:Int}(h0:0≤k)(h1:k < 2): ∃b,ixD (.str (so "tu")) (.int k)=some (.str (tuS b)):=by
 apply AllB.at (n:=2) h0 h1;exact .s (.s .z ⟨false,by kernel_rfl⟩) ⟨true,by kernel_rfl⟩
theorem dC {ρ:List (Option Slot)}{g:G}{c:Int}(n:Int)(h:Gp c g)(hc:c≤900)(h0:0 < n)(h1:n < 1000)(hρ:ρ[0]? =some (some (.val (.hnd 0)))){ft:FT}(hf:ft .take=aG tb ir_take):
  ∃k,0≤k∧k < n∧ev ft (.call .take [.var 0,.cst (.int n)]) ⟨ρ,g⟩=.ok (.int k,⟨ρ,{g with pat:=g.pat + 1}⟩):=by
 refine x13 (take_ok n h hc h0 h1) fun k a b e=>?_
 refine ⟨k,a,b,bt (s1:=⟨ρ,g⟩) (af (ad (d:=.hnd 0) (by simp only [a8,St.get,hρ,Option.join];rfl)) (af ag ao)) ?_⟩
 rw [hf];exact e
theorem am {n:Nat}(h:Nat.ble n 1000=true):n≤1000:=Nat.le_of_ble_eq_true h
noncomputable def fmS (line:Int)(nm:Nm)(t3 t4 t5 t6 t7 t8 t9 t10:Option Slot):List (Option Slot):=[some (.val (.hnd 0)),some (.val (.int line)),some (.val (.str (nmS nm))),t3,t4,t5,t6,t7,t8,t9,t10]
theorem head_pick {k:Int}(h0:0≤k)(h1:k < 4): ∃nm,ixD (.tup [.str (so "\"-\""),.str (so "\"mod\""),.str (so "\"-\""),.str (so "pick")]) (.int k)=some (.str (nmS nm)):=by
 apply AllB.at (n:=4) h0 h1;exact .s (.s (.s (.s .z ⟨.minus,by kernel_rfl⟩) ⟨.mod,by kernel_rfl⟩) ⟨.minus,by kernel_rfl⟩) ⟨.pick,by kernel_rfl⟩
theorem gtu {k:Int}(h0:0≤k)(h1:k < 2): ∃gv,ixD (.str (so "tu")) (.int k)=some (.str (gvS gv)):=by
 apply AllB.at (n:=2) h0 h1;exact .s (.s .z ⟨.t,by kernel_rfl⟩) ⟨.u,by kernel_rfl⟩
theorem gtn {k:Int}(h0:0≤k)(h1:k < 3): ∃gv,ixD (.str (so "tu-")) (.int k)=some (.str (gvS gv)):=by
 apply AllB.at (n:=3) h0 h1;exact .s (.s (.s .z ⟨.t,by kernel_rfl⟩) ⟨.u,by kernel_rfl⟩) ⟨.no,by kernel_rfl⟩
theorem df_pick {k:Int}(h0:0≤k)(h1:k < 3): ∃df,ixD (.tup [.none,.str (so "box"),aq (so "other")]) (.int k)=some (dfD df):=by
 apply AllB.at (n:=3) h0 h1;exact .s (.s (.s .z ⟨.none,by kernel_rfl⟩) ⟨.box,by kernel_rfl⟩) ⟨.other,by kernel_rfl⟩
theorem nm_mod (nm:Nm):eqD (.str (nmS nm)) (.str (so "\"mod\""))=some (decide (nm=.mod)):=by cases nm <;> kernel_rfl
theorem nm_pick (nm:Nm):eqD (.str (nmS nm)) (.str (so "pick"))=some (decide (nm=.pick)):=by cases nm <;> kernel_rfl
theorem tu_add (a b:Bool):opD .add (.str (tuS a)) (.str (tuS b))=some (.str (tuS a++tuS b)):=by cases a <;> cases b <;> kernel_rfl
theorem tk_len (pm:Pm)(gv:Gv):Nat.ble ((ia pm).length + (gvS gv).length) 1000=true:=by
 rcases pm with a | a | ⟨a,b⟩ <;> cases gv <;> cases a <;> (try cases b) <;> rfl
theorem fm_way {g:G}{c line:Int}{nm:Nm}{A B:Option Slot}(G:Gp c g)(hc:c≤900): ∃(w:Nat) (g4:Mine.G),w≤2∧Gp (c + 1) g4∧g4.cells=g.cells∧
  ex t0 (.assign 5 (.ite (.op .eq (.var 2) (.cst (.str (so "\"mod\"")))) (.op .add (.cst (.int 1)) (.call .take [(.var 0),(.cst (.int 2))])) (.call .take [(.var 0),(.cst (.int 3))]))) ⟨fmS line nm A B none none none none none none,g⟩=.ok (.next,⟨fmS line nm A B (some (.val (.int w))) none none none none none,g4⟩):=by
 have three: ∀{P:Int},0≤P→P < 3→ ∃w:Nat,w≤2∧P=w:=fun {P} p q=>⟨P.toNat,by exact Int.toNat_le.2 (ni [_] [(.s Z0,.n 3)] Z0 (.n 2) rfl q),(Int.toNat_of_nonneg ‹_›).symm⟩
 have hm:=nm_mod nm
 cases hd:decide (nm=.mod) <;> rw [hd] at hm
 ·obtain ⟨k,a,b,e⟩:=dC (ρ:=fmS line nm A B none none none none none none) 3 G hc (by decide) (by decide) rfl rfl (ft:=t0)
  obtain ⟨w,hw,rfl⟩:=three a b
  exact ⟨w,_,hw,G.up,rfl,aB (i:=5) (bU (aV (ad rfl) ag hm) e)⟩
 ·obtain ⟨k,a,b,e⟩:=dC (ρ:=fmS line nm A B none none none none none none) 2 G hc (by decide) (by decide) rfl rfl (ft:=t0)
  obtain ⟨w,hw,ew⟩:=three (P:=1 + k) (by exact ni [_] [(.n 0,Z0)] (.n 0) (.a (.n 1) Z0) rfl a) (by exact ni [_] [(.s Z0,.n 2)] (.s (.a (.n 1) Z0)) (.n 3) rfl b)
  exact ⟨w,_,hw,G.up,rfl,by rw [←ew];exact aB (i:=5) (bT (aV (ad rfl) ag hm) (bD ag e (gu _ _)))⟩
theorem fm_params {g4:G}{line:Int}{nm:Nm}{b₁ b₂:Bool}{w:Nat}(hw:w≤2): ∃pm:Pm,∀(r:List S) (R:Res (Fl×St)),exs t0 r ⟨fmS line nm (some (.val (.str (tuS b₁)))) (some (.val (.str (tuS b₂)))) (some (.val (.int w))) (some (.own (.lst (be pm)))) (some (.val (.str (ia pm)))) none none none,g4⟩=R→
   exs t0 ((ir_formal.body.drop 3).take 2++r) ⟨fmS line nm (some (.val (.str (tuS b₁)))) (some (.val (.str (tuS b₂)))) (some (.val (.int w))) none none none none none,g4⟩=R:=by
 have one: ∀(r:List S) (R:Res (Fl×St)),exs t0 (ir_formal.body.drop 4 |>.take 1 |>.append r) ⟨fmS line nm (some (.val (.str (tuS b₁)))) (some (.val (.str (tuS b₂)))) (some (.val (.int w))) (some (.own (.lst (be (.one b₁))))) (some (.val (.str (tuS b₁)))) none none none,g4⟩=R→
   exs t0 ((ir_formal.body.drop 3).take 2++r) ⟨fmS line nm (some (.val (.str (tuS b₁)))) (some (.val (.str (tuS b₂)))) (some (.val (.int w))) none none none none none,g4⟩=R:=fun r R hr=>
   ah (gK (I_l (i:=6) (af (aF (af (cv (af ag ao) (am rfl)) (af ag (af (aF (af ag (af (ad rfl) ao)) (am rfl)) (af ag ao)))) (am rfl)) ao) (am rfl) (I_v (i:=7) (ad rfl) jb))) hr
 match w,hw with
 | 0,_=>exact ⟨.one b₁,fun r R hr=>one r R (ah (aD (aV (ad rfl) ag (by kernel_rfl)) (ah (aD (aV (ad rfl) ag (by kernel_rfl)) ar) ar)) hr)⟩
 | 1,_=>
  refine ⟨.two b₁,fun r R hr=>one r R (ah (aZ (aV (ad rfl) ag (by kernel_rfl)) (ah (gK (I_l (i:=6) (af (aF (af (cv (af ag (af ag ao)) (am rfl)) (af ag (af (aF (af ag (af (ad rfl) ao)) (am rfl)) (af ag ao)))) (am rfl)) ao) (am rfl) (I_v (i:=7) (d:=.str (tuS b₁++tuS b₁)) (bD (ad rfl) (ad rfl) (by cases b₁ <;> kernel_rfl)) jb))) ar)) hr)⟩
 | 2,_=>
  refine ⟨.sep b₁ b₂,fun r R hr=>one r R (ah (aD (aV (ad rfl) ag (by kernel_rfl)) (ah (aZ (aV (ad rfl) ag (by kernel_rfl)) (ah (fB rfl (aF (af (cv (af ag ao) (am rfl)) (af ag (af (aF (af ag (af (ad rfl) ao)) (am rfl)) (af ag ao)))) (am rfl)) rfl (am rfl))
   (ah (aB (d:=.str (tuS b₁++tuS b₂)) (bD (ad rfl) (ad rfl) (tu_add _ _))) ar))) ar)) hr)⟩
theorem fm_gives {g:G}{c line:Int}{nm:Nm}{A B C D' E':Option Slot}(G:Gp c g)(hc:c≤900): ∃(gv:Gv) (g5:Mine.G),Gp (c + 1) g5∧g5.cells=g.cells∧
  ex t0 (.assign 8 (.ite (.op .eq (.var 2) (.cst (.str (so "pick")))) (.ix (.cst (.str (so "tu-"))) (.call .take [(.var 0),(.cst (.int 3))])) (.ix (.cst (.str (so "tu"))) (.call .take [(.var 0),(.cst (.int 2))])))) ⟨fmS line nm A B C D' E' none none none,g⟩=.ok (.next,⟨fmS line nm A B C D' E' (some (.val (.str (gvS gv)))) none none,g5⟩):=by
 have hm:=nm_pick nm
 cases hd:decide (nm=.pick) <;> rw [hd] at hm
 ·obtain ⟨k,a,b,e⟩:=dC (ρ:=fmS line nm A B C D' E' none none none) 2 G hc (by decide) (by decide) rfl rfl (ft:=t0)
  refine x11 (gtu a b) fun gv n=>?_
  exact ⟨gv,_,G.up,rfl,aB (i:=8) (bU (aV (ad rfl) ag hm) (ay ag e n))⟩
 ·obtain ⟨k,a,b,e⟩:=dC (ρ:=fmS line nm A B C D' E' none none none) 3 G hc (by decide) (by decide) rfl rfl (ft:=t0)
  refine x11 (gtn a b) fun gv n=>?_
  exact ⟨gv,_,G.up,rfl,aB (i:=8) (bT (aV (ad rfl) ag hm) (ay ag e n))⟩
theorem fm_spec {g5:G}{line:Int}{nm:Nm}{pm:Pm}{gv:Gv}{df:Df}{A B C E':Option Slot}{r:List S}{R:Res (Fl×St)}
  (hr:exs t0 r ⟨fmS line nm A B C (some (.val (.lst (be pm)))) E' (some (.val (.str (gvS gv)))) (some (.val (a7 ⟨line,nm,pm,gv,df⟩))) none,g5⟩=R):
  exs t0 ((ir_formal.body.drop 6).take 2++r) ⟨fmS line nm A B C (some (.own (.lst (be pm)))) E' (some (.val (.str (gvS gv)))) none none,g5⟩=R:=by
 have sp:=aB (ft:=t0) (i:=9) (aF (ds:=[.str (so "function"),.str (nmS nm),.lst (be pm),aq (gvS gv)]) (af ag (af (ad (st:=⟨fmS line nm A B C (some (.own (.lst (be pm)))) E' (some (.val (.str (gvS gv)))) none none,g5⟩) (i:=2) rfl) (af (dM (i:=6) rfl) (af (aF (af ag (af (ad (i:=8) rfl) ao)) (am rfl)) ao)))) (am rfl))
 refine ah sp ?_
 cases gv with
 | t=>exact ah (aD (aV (ad rfl) ag (by kernel_rfl)) ar) hr
 | u=>exact ah (aD (aV (ad rfl) ag (by kernel_rfl)) ar) hr
 | no=>exact ah (aZ (aV (ad rfl) ag (by kernel_rfl)) (ah (aB (aF (af ag (af (ad rfl) (af (jd rfl) (af ag ao)))) (am rfl))) ar)) hr
theorem formal_ok {g:G}{c line:Int}(h:Gp c g)(hc:c≤800): ∃(nm:Nm) (pm:Pm) (gv:Gv) (df:Df) (g':G),Gp (c + 8) g'∧g'.cells=g.cells∧
  aG t0 ir_formal [.hnd 0,.int line] g=.ok (.tup [fmD ⟨line,nm,pm,gv,df⟩,.str (kdS ⟨line,nm,pm,gv,df⟩)],g'):=by
 refine hideP fun P kP=>?_
 have hf:t0 .take=aG tb ir_take:=rfl
 obtain ⟨k1,a1,b1,e1⟩:=dC (ρ:=[some (.val (.hnd 0)),some (.val (.int line)),none,none,none,none,none,none,none,none,none]) 4 h (Int.le_trans ‹_› (by decide)) (by decide) (by decide) rfl hf
 obtain ⟨nm,n1⟩:=head_pick a1 b1
 have s1:=aB (i:=2) (ay (E_glob (x:=so "_law_heads")) e1 n1)
 have G1:=h.up
 obtain ⟨k2,a2,b2,e2⟩:=dC (ρ:=fmS line nm none none none none none none none none) 2 G1 (Int.lt_of_le_of_lt ‹_› (by decide)) (by decide) (by decide) rfl hf
 obtain ⟨b₁,n2⟩:=pick_tu a2 b2
 have G2:=G1.up
 obtain ⟨k3,a3,b3,e3⟩:=dC (ρ:=fmS line nm none none none none none none none none) 2 G2 (by exact ni [_] [(Z0,.n 800)] (.s (.s Z0)) (.n 900) rfl hc) (by decide) (by decide) rfl hf
 obtain ⟨b₂,n3⟩:=pick_tu a3 b3
 have s2:=gK (I_v (i:=3) (ay ag e2 n2) (I_v (i:=4) (ay ag e3 n3) jb))
 obtain ⟨w,g4,hw,G4,c4,s3⟩:=fm_way (line:=line) (nm:=nm) (A:=some (.val (.str (tuS b₁)))) (B:=some (.val (.str (tuS b₂)))) G2.up (by exact ni [_] [(Z0,.n 800)] (.s (.s (.s Z0))) (.n 900) rfl hc)
 obtain ⟨pm,s45⟩:=fm_params (g4:=g4) (line:=line) (nm:=nm) (b₁:=b₁) (b₂:=b₂) hw
 obtain ⟨gv,g5,G5,c5,s6⟩:=fm_gives (line:=line) (nm:=nm) (A:=some (.val (.str (tuS b₁)))) (B:=some (.val (.str (tuS b₂)))) (C:=some (.val (.int w))) (D':=some (.own (.lst (be pm)))) (E':=some (.val (.str (ia pm)))) G4 (by exact ni [_] [(Z0,.n 800)] (.s (.s (.s (.s Z0)))) (.n 900) rfl hc)
 obtain ⟨k6,a6,b6,e6⟩:=dC (ρ:=fmS line nm (some (.val (.str (tuS b₁)))) (some (.val (.str (tuS b₂)))) (some (.val (.int w))) (some (.val (.lst (be pm)))) (some (.val (.str (ia pm)))) (some (.val (.str (gvS gv)))) (some (.val (a7 ⟨line,nm,pm,gv,.none⟩))) none) 3 G5 (by exact ni [_] [(Z0,.n 800)] (.s (.s (.s (.s (.s Z0))))) (.n 900) rfl hc) (by decide) (by decide) rfl hf
 obtain ⟨df,n6⟩:=df_pick a6 b6
 have s9:=aB (i:=10) (ay (aF (af ag (af ag (af (aF (af ag (af ag ao)) (am rfl)) ao))) (am rfl)) e6 n6)
 exact kP ⟨nm,pm,gv,df,_,G5.up.mono (by exact ni [_] [] (.s (.s (.s (.s (.s (.s Z0)))))) (.a Z0 (.n 8)) rfl),c5.trans c4,bu (f:=ir_formal) rfl (ah s1 (ah s2 (ah s3 (s45 _ _ (ah s6 (fm_spec (df:=.none) (ah s9 (aW (bE (aF (af (aF (af ag (af (ad rfl) (af (ad rfl) (af (ad rfl) ao)))) (am rfl)) (af (bD (ad rfl) (ad rfl) (if_pos (am (tk_len pm gv)))) ao)) (am rfl)))))))))))⟩
inductive Wh where
 | minus | mod | pick | nobody
 deriving DecidableEq
noncomputable def nmW:Nm→Wh
 | .minus=>.minus
 | .mod=>.mod
 | .pick=>.pick
noncomputable def whS:Wh→Str
 | .minus=>so "\"-\""
 | .mod=>so "\"mod\""
 | .pick=>so "pick"
 | .nobody=>so "nobody"
theorem fO (n:Nm):whS (nmW n)=nmS n:=by cases n <;> rfl
noncomputable def chD:Wh→Bool→D
 | .minus,_=>.tup [.str (so "string"),.str (so "-")]
 | .mod,true=>.tup [.str (so "string"),.str (so "MOD")]
 | .mod,false=>.tup [.str (so "string"),.str (so "mod")]
 | .pick,_=>aq (so "pick")
 | .nobody,_=>aq (so "nobody")
structure Rw where
 w:Option Wh
 up:Bool
 act:Str
noncomputable def bH (r:Rw):D:=match r.w with
 | none=>.none
 | some w=>.lst [chD w r.up]
noncomputable def meS (r:Rw):Str:=match r.w with
 | none=>so ""
 | some w=>whS w
noncomputable def rwD (r:Rw):D:=.tup [bH r,aq r.act,.str (meS r)]
noncomputable def jK (r:Rw):Prop:=PyData.strOk r.act=true
theorem fp {st:St}{i:Nat}{d:D}(h:st.get i=some (.val d)):a8 st i=some d:=by unfold a8;rw [h]
theorem ie {ft:FT}{g:G}{x a:Str}{d:D}(h1:co (.str x) none (some 1)=some d)(h2:eqD d (.str (so "\""))=some false)(w:Option Wh)(h3: ∀st:St,st.get 1=some (.val (.str x))→ev ft (.ite (.op .eq (.var 1) (.cst (.str (so "")))) (.cst .none) (.lst [(.tup [(.cst (.str (so "name"))),(.var 1)])])) st=.ok (bH ⟨w,false,a⟩,st))(h4:meS ⟨w,false,a⟩=x):
  aG ft ir_row [.hnd 0,.str x,.str a] g=.ok (rwD ⟨w,false,a⟩,g):=by
 refine bu (f:=ir_row) (st:=⟨[some (.val (.hnd 0)),some (.val (.str x)),some (.val (.str a)),none],g⟩) rfl (aW (aZ (bw (cK (ad rfl) cG (bI ag (by decide)) h1) ag h2) (aW (bE (aF (af (h3 _ rfl) (af (aF (af ag (af (ad rfl) ao)) (am rfl)) (af (ad (by rw [h4];rfl)) ao))) (am rfl))))))
theorem row_quoted {g:G}{c:Int}{x a y:Str}(w:Wh)(h:Gp c g)(hc:c≤900)(h1: ∃d,co (.str x) none (some 1)=some d∧eqD d (.str (so "\""))=some true)(h2:co (.str x) (some 1) (some (-1))=some (.str y))(hy:(gq y).length≤1000)
  (h3:chD w true=.tup [.str (so "string"),.str (gq y)]) (h4:chD w false=.tup [.str (so "string"),.str y]) (h5:whS w=x):
  ∃up,aG t0 ir_row [.hnd 0,.str x,.str a] g=.ok (rwD ⟨some w,up,a⟩,{g with pat:=g.pat + 1}):=by
 obtain ⟨k,a0,a1,e⟩:=dC (ft:=t0) (ρ:=[some (.val (.hnd 0)),some (.val (.str x)),some (.val (.str a)),none]) 2 h hc (by decide) (by decide) rfl rfl
 refine x12 h1 fun d e1 e2=>?_
 have sl: ∀{g':G},ev t0 (.slc (.var 1) (some (.cst (.int 1))) (some (.cst (.int (-1))))) ⟨[some (.val (.hnd 0)),some (.val (.str x)),some (.val (.str a)),none],g'⟩=.ok (.str y,⟨[some (.val (.hnd 0)),some (.val (.str x)),some (.val (.str a)),none],g'⟩):=
  cK (ad rfl) (bI ag (by decide)) (bI ag (by decide)) h2
 have fin: ∀{z:Str} {up:Bool},chD w up=.tup [.str (so "string"),.str z]→ev t0 (.ite (.op .eq (.call .take [(.var 0),(.cst (.int 2))]) (.cst (.int 0))) (.upper (.slc (.var 1) (some (.cst (.int 1))) (some (.cst (.int (-1)))))) (.slc (.var 1) (some (.cst (.int 1))) (some (.cst (.int (-1))))))
   ⟨[some (.val (.hnd 0)),some (.val (.str x)),some (.val (.str a)),none],g⟩=.ok (.str z,⟨[some (.val (.hnd 0)),some (.val (.str x)),some (.val (.str a)),none],{g with pat:=g.pat + 1}⟩)→aG t0 ir_row [.hnd 0,.str x,.str a] g=.ok (rwD ⟨some w,up,a⟩,{g with pat:=g.pat + 1}):=by
  intro z up hz he
  refine bu (f:=ir_row) (st:=⟨[some (.val (.hnd 0)),some (.val (.str x)),some (.val (.str a)),some (.val (.str z))],{g with pat:=g.pat + 1}⟩) rfl (ah (aD (bw (cK (ad rfl) cG (bI ag (by decide)) e1) ag e2) ar) (ah (aB (i:=3) he) (aW (bE ?_))))
  have hr:rwD ⟨some w,up,a⟩=.tup [.lst [.tup [.str (so "string"),.str z]],aq a,.str x]:=by
   show D.tup [.lst [chD w up],aq a,.str (whS w)]=_
   rw [hz,h5]
  rw [hr]
  exact aF (af (cv (af (aF (af ag (af (ad rfl) ao)) (am rfl)) ao) (am rfl)) (af (aF (af ag (af (ad rfl) ao)) (am rfl)) (af (ad rfl) ao))) (am rfl)
 rcases two_of a0 a1 with rfl | rfl
 ·exact ⟨true,fin h3 (bT (aV e ag (by kernel_rfl)) (E_upper sl hy))⟩
 ·exact ⟨false,fin h4 (bU (aV e ag (by kernel_rfl)) sl)⟩
theorem row_ok {g:G}{c:Int}{x a:Str}(h:Gp c g)(hc:c≤900)(hx:x=so ""∨(∃n:Nm,x=nmS n)∨x=so "nobody"): ∃(r:Rw) (g':G),r.act=a∧Gp (c + 1) g'∧g'.cells=g.cells∧aG t0 ir_row [.hnd 0,.str x,.str a] g=.ok (rwD r,g'):=by
 rcases hx with rfl | ⟨n,rfl⟩ | rfl
 ·exact ⟨⟨none,false,a⟩,g,rfl,h.mono (Int.le_add_of_nonneg_right (by decide)),rfl,ie (d:=.str (so "")) (by kernel_rfl) (by kernel_rfl) none (fun st hs=>bT (aV (ad (fp hs)) ag (by kernel_rfl)) ag) rfl⟩
 ·cases n with
  | pick=>exact ⟨⟨some .pick,false,a⟩,g,rfl,h.mono (Int.le_add_of_nonneg_right (by decide)),rfl,ie (d:=.str (so "p")) (by kernel_rfl) (by kernel_rfl) (some .pick) (fun st hs=>bU (aV (ad (fp hs)) ag (by kernel_rfl)) (cv (af (aF (af ag (af (ad (fp hs)) ao)) (am rfl)) ao) (am rfl))) rfl⟩
  | minus=>
   obtain ⟨up,e⟩:=row_quoted (y:=so "-") (a:=a) .minus h hc ⟨.str (so "\""),by kernel_rfl,by kernel_rfl⟩ (by kernel_rfl) (by decide +kernel) (by kernel_rfl) (by kernel_rfl) (by kernel_rfl)
   exact ⟨_,_,rfl,h.up,rfl,e⟩
  | mod=>
   obtain ⟨up,e⟩:=row_quoted (y:=so "mod") (a:=a) .mod h hc ⟨.str (so "\""),by kernel_rfl,by kernel_rfl⟩ (by kernel_rfl) (by decide +kernel) (by kernel_rfl) (by kernel_rfl) (by kernel_rfl)
   exact ⟨_,_,rfl,h.up,rfl,e⟩
 ·exact ⟨⟨some .nobody,false,a⟩,g,rfl,h.mono (Int.le_add_of_nonneg_right (by decide)),rfl,ie (d:=.str (so "n")) (by kernel_rfl) (by kernel_rfl) (some .nobody) (fun st hs=>bU (aV (ad (fp hs)) ag (by kernel_rfl)) (cv (af (aF (af ag (af (ad (fp hs)) ao)) (am rfl)) ao) (am rfl))) rfl⟩
noncomputable def acS (i:Nat):Str:=(["fa","fb","fc","fd","fe"][i]?.map so).getD (so "extra")
theorem acS_ok (i:Nat):PyData.strOk (acS i)=true:=by
 match i with
 | 0 | 1 | 2 | 3 | 4=>decide +kernel
 | n + 5=>
  have:acS (n + 5)=so "extra":=rfl
  rw [this];decide +kernel
theorem acS_at {i:Nat}(h:i < 5): ∃d,ixD (.str (so "abcde")) (.int i)=some d∧opD .add (.str (so "f")) d=some (.str (acS i)):=by
 match i,h with
 | 0,_=>exact ⟨.str (so "a"),by kernel_rfl,by kernel_rfl⟩
 | 1,_=>exact ⟨.str (so "b"),by kernel_rfl,by kernel_rfl⟩
 | 2,_=>exact ⟨.str (so "c"),by kernel_rfl,by kernel_rfl⟩
 | 3,_=>exact ⟨.str (so "d"),by kernel_rfl,by kernel_rfl⟩
 | 4,_=>exact ⟨.str (so "e"),by kernel_rfl,by kernel_rfl⟩
theorem ix0 {a:D}{r:List D}:ixD (.tup (a::r)) (.int 0)=some a:=by kernel_rfl
theorem ix1 {a b:D}{r:List D}:ixD (.tup (a::b::r)) (.int 1)=some b:=by kernel_rfl
theorem ix2 {a b c:D}{r:List D}:ixD (.tup (a::b::c::r)) (.int 2)=some c:=by kernel_rfl
theorem ix3 {a b c d:D}{r:List D}:ixD (.tup (a::b::c::d::r)) (.int 3)=some d:=by kernel_rfl
theorem ix4 {a b c d e:D}{r:List D}:ixD (.tup (a::b::c::d::e::r)) (.int 4)=some e:=by kernel_rfl
theorem ix5 {a b c d e f:D}{r:List D}:ixD (.tup (a::b::c::d::e::f::r)) (.int 5)=some f:=by kernel_rfl
theorem zip_map {α:Type}(f:α→D)(xs:List α):((xs.map f).zipIdx.map fun q=>D.tup [.int q.2,q.1])=xs.zipIdx.map fun q=>D.tup [.int q.2,f q.1]:=by
 rw [List.zipIdx_map,List.map_map];rfl
theorem iX {α:Type}{xs p q:List (α×Nat)}{ys:List α}{x:α×Nat}(h:xs=ys.zipIdx)(e:xs=p++x::q):x.2=p.length∧x.2 < ys.length∧ys[x.2]? =some x.1:=by
 have h1:xs[p.length]? =some x:=by rw [e];simp
 rw [h,List.getElem?_zipIdx] at h1
 simp only [Option.map_eq_some_iff] at h1
 obtain ⟨y,h2,h3⟩:=h1
 subst h3
 obtain ⟨h4,_⟩:=List.getElem?_eq_some_iff.mp h2
 exact ⟨by simp,by simpa using h4,by simpa using h2⟩
noncomputable def actBody:List S:=[.assign 6 (.call .take [(.var 0),(.cst (.int 5))]),
 .assign 3 (.or [(.var 3),(.op .gt (.var 6) (.cst (.int 2)))]),
 .ife (.or [(.op .lt (.var 6) (.cst (.int 4))),(.isN (.ix (.var 5) (.cst (.int 3))))]) [.app 2 (.call .row [(.var 0),(.ite (.var 3) (.ix (.ix (.var 5) (.cst (.int 2))) (.cst (.int 1))) (.cst (.str (so "")))),(.op .add (.cst (.str (so "f"))) (.ix (.cst (.str (so "abcde"))) (.var 4)))])] []]
theorem act_turn {g:G}{c:Int}{F:D}{rows:List Rw}{b:Bool}{t4 t5 t6 t7:Option Slot}{i:Nat}{f:Fm}(h:Gp c g)(hc:c≤800)(hi:i < 5)(hr:rows.length≤100):
  ∃rows' b' g' u,(rows'=rows∨ ∃r,jK r∧rows'=rows++[r])∧Gp (c + 2) g'∧g'.cells=g.cells∧
  exs t1 actBody ⟨[some (.val (.hnd 0)),some (.val F),some (.own (.lst (rows.map rwD))),some (.val (.bool b)),some (.val (.int i)),some (.val (fmD f)),t6,t7],g⟩=.ok (.next,⟨[some (.val (.hnd 0)),some (.val F),some (.own (.lst (rows'.map rwD))),some (.val (.bool b')),some (.val (.int i)),some (.val (fmD f)),u,t7],g'⟩):=by
 obtain ⟨k,a0,a1,e⟩:=dC (ft:=t1) (ρ:=[some (.val (.hnd 0)),some (.val F),some (.own (.lst (rows.map rwD))),some (.val (.bool b)),some (.val (.int i)),some (.val (fmD f)),t6,t7]) 5 h (Int.le_trans ‹_› (by decide)) (by decide) (by decide) rfl rfl
 have G1:=h.up
 have s1:=aB (i:=6) e
 have s2:ex t1 (.assign 3 (.or [(.var 3),(.op .gt (.var 6) (.cst (.int 2)))])) ⟨[some (.val (.hnd 0)),some (.val F),some (.own (.lst (rows.map rwD))),some (.val (.bool b)),some (.val (.int i)),some (.val (fmD f)),some (.val (.int k)),t7],{g with pat:=g.pat + 1}⟩=
   .ok (.next,⟨[some (.val (.hnd 0)),some (.val F),some (.own (.lst (rows.map rwD))),some (.val (.bool (b||(decide (2 < k)||false)))),some (.val (.int i)),some (.val (fmD f)),some (.val (.int k)),t7],{g with pat:=g.pat + 1}⟩):=
  aB (i:=3) (eZ (R_b (ad rfl) fun _=>R_b (bD (ad rfl) ag (op_gt _ _)) fun _=>eK))
 generalize (b||(decide (2 < k)||false))=b' at s2
 have ht:ev t1 (.or [(.op .lt (.var 6) (.cst (.int 4))),(.isN (.ix (.var 5) (.cst (.int 3))))]) ⟨[some (.val (.hnd 0)),some (.val F),some (.own (.lst (rows.map rwD))),some (.val (.bool b')),some (.val (.int i)),some (.val (fmD f)),some (.val (.int k)),t7],{g with pat:=g.pat + 1}⟩=
   .ok (.bool (decide (k < 4)||(cg (dfD f.df)||false)),⟨[some (.val (.hnd 0)),some (.val F),some (.own (.lst (rows.map rwD))),some (.val (.bool b')),some (.val (.int i)),some (.val (fmD f)),some (.val (.int k)),t7],{g with pat:=g.pat + 1}⟩):=
  eZ (R_b (bD (ad rfl) ag (op_lt _ _)) fun _=>R_b (eM (ay (ad rfl) ag ix3)) fun _=>eK)
 cases hb:(decide (k < 4)||(cg (dfD f.df)||false)) with
 | false=>
  rw [hb] at ht
  exact ⟨rows,b',_,_,.inl rfl,G1.mono (Int.lt_add_of_pos_right _ (by decide)),rfl,ah s1 (ah s2 (ah (aD ht ar) ar))⟩
 | true=>
  rw [hb] at ht
  refine x12 (acS_at hi) fun d d1 d2=>?_
  have fin: ∀{x:Str},(x=so ""∨(∃n:Nm,x=nmS n)∨x=so "nobody")→ev t1 (.ite (.var 3) (.ix (.ix (.var 5) (.cst (.int 2))) (.cst (.int 1))) (.cst (.str (so "")))) ⟨[some (.val (.hnd 0)),some (.val F),some (.own (.lst (rows.map rwD))),some (.val (.bool b')),some (.val (.int i)),some (.val (fmD f)),some (.val (.int k)),t7],{g with pat:=g.pat + 1}⟩=
    .ok (.str x,⟨[some (.val (.hnd 0)),some (.val F),some (.own (.lst (rows.map rwD))),some (.val (.bool b')),some (.val (.int i)),some (.val (fmD f)),some (.val (.int k)),t7],{g with pat:=g.pat + 1}⟩)→(∃rows' b' g' u,(rows'=rows∨ ∃r,jK r∧rows'=rows++[r])∧Gp (c + 2) g'∧g'.cells=g.cells∧
     exs t1 actBody ⟨[some (.val (.hnd 0)),some (.val F),some (.own (.lst (rows.map rwD))),some (.val (.bool b)),some (.val (.int i)),some (.val (fmD f)),t6,t7],g⟩=.ok (.next,⟨[some (.val (.hnd 0)),some (.val F),some (.own (.lst (rows'.map rwD))),some (.val (.bool b')),some (.val (.int i)),some (.val (fmD f)),u,t7],g'⟩)):=by
   intro x hx he
   obtain ⟨r,g',ra,G2,c2,er⟩:=row_ok (a:=acS i) G1 (Int.lt_of_le_of_lt ‹_› (by decide)) hx
   have hrow:jK r:=by unfold jK;rw [ra];exact acS_ok i
   exact ⟨rows++[r],b',g',_,.inr ⟨r,hrow,rfl⟩,G2.mono (by exact ni [_] [] (.s (.s Z0)) (.a Z0 (.n 2)) rfl),c2,ah s1 (ah s2 (ah (aZ ht (ah (fB (d:=rwD r) (ds0:=rows.map rwD) (ds:=rows.map rwD) rfl (bt (af (ad rfl) (af he (af (bD ag (ay ag (ad rfl) d1) d2) ao))) er) rfl (by rw [List.length_map];exact lec ‹_› (by rfl))) ar)) (by rw [List.map_append];exact ar)))⟩
  cases b' with
  | true=>exact fin (.inr (.inl ⟨f.nm,rfl⟩)) (bT (ad rfl) (ay (ay (ad rfl) ag ix2) ag ix1))
  | false=>exact fin (.inl rfl) (bU (ad rfl) ag)
noncomputable def RowsOk (rows:List Rw):Prop:= ∀r∈rows,jK r
theorem RowsOk.snoc {rows:List Rw}{r:Rw}(h:RowsOk rows)(hr:jK r):RowsOk (rows++[r]):=fun x hx=>by
 rcases List.mem_append.mp hx with q | q
 ·exact h x q
 ·rw [List.mem_singleton.mp q];exact hr
noncomputable def actI (c:Int)(cs:List Int)(fs:List Fm)(p:List (Fm×Nat))(st:St):Prop:= ∃rows b g t4 t5 t6 t7,RowsOk rows∧rows.length≤p.length∧Gp (c + 2 * p.length) g∧g.cells=cs∧
 st=⟨[some (.val (.hnd 0)),some (.val (.lst (fs.map fmD))),some (.own (.lst (rows.map rwD))),some (.val (.bool b)),t4,t5,t6,t7],g⟩
theorem act_loop {g:G}{c:Int}{fs:List Fm}{b:Bool}{t4 t5 t6 t7:Option Slot}(h:Gp c g)(hc:c≤700)(hf:fs.length≤5):
  ∃st,actI c g.cells fs fs.zipIdx st∧ex t1 (.forE 4 5 (.var 1) actBody) ⟨[some (.val (.hnd 0)),some (.val (.lst (fs.map fmD))),some (.own (.lst [])),some (.val (.bool b)),t4,t5,t6,t7],g⟩=.ok (.next,st):=by
 rw [X_forE (ds:=fs.map fmD) (s1:=⟨[some (.val (.hnd 0)),some (.val (.lst (fs.map fmD))),some (.own (.lst [])),some (.val (.bool b)),t4,t5,t6,t7],g⟩) (ad rfl) (by rw [List.length_map];exact lec ‹_› (by rfl)),zip_map]
 refine cA (actI c g.cells fs) (fun R=> ∃st,actI c g.cells fs fs.zipIdx st∧R=.ok (.next,st)) (fun p x q st e hI=>.inl ?_) (fun st hI=>⟨st,hI,rfl⟩) ⟨[],b,g,_,_,_,_,(fun _ h=>by cases h),Nat.le_refl _,by simpa using h,rfl,rfl⟩
 obtain ⟨rows,b,g,t4,t5,t6,t7,hr,hl,hg,hcs,rfl⟩:=hI
 refine x03 (iX rfl e) fun e1 e2 e3=>?_
 obtain ⟨f,i⟩:=x
 simp only at e1 e2 e3
 obtain ⟨rows',b',g',u,hrows,hg',hcs',hx⟩:=act_turn (F:=.lst (fs.map fmD)) (rows:=rows) (b:=b) (t4:=none) (t5:=none) (t6:=t6) (t7:=t7) (i:=i) (f:=f) hg (by exact ni [_,_,_,_] [(.m 2 Z0,.m 2 Z1),(.m 2 (.s Z1),.m 2 Z2),(.m 2 Z2,.m 2 (.n 5)),(Z3,.n 700)] (.a Z3 (.m 2 Z0)) (.n 800) rfl (im 2 (Int.ofNat_le.2 (Nat.le_of_eq e1.symm)) rfl) (im 2 (Int.ofNat_lt.2 e2) rfl) (im 2 (Int.ofNat_le.2 hf) rfl) hc) (Nat.lt_of_lt_of_le ‹_› ‹_›) (by exact nl [_,_,_,_] [(N0,N1),(N1,N2),(.s N2,N3),(N3,.n 5)] N0 (.n 100) rfl hl (Nat.le_of_eq e1.symm) e2 hf)
 refine ⟨_,hx,rows',b',g',_,_,_,_,?_,?_,?_,hcs'.trans hcs,rfl⟩
 ·rcases hrows with rfl | ⟨r,h1,rfl⟩
  ·exact hr
  ·exact hr.snoc h1
 ·rcases hrows with rfl | ⟨r,h1,rfl⟩ <;> simp only [List.length_append,List.length_cons,List.length_nil] <;> omega
 ·simp only [List.length_append,List.length_cons,List.length_nil]
  exact hg'.mono (by exact ni [_,_,_] [(.m 2 (.s Z0),.m 2 Z1)] (.a (.a Z2 (.m 2 Z0)) (.n 2)) (.a Z2 (.m 2 Z1)) rfl (im 2 (Int.le_of_eq (Int.natCast_add _ _).symm) rfl))
theorem ca {α:Type}{f:α→D}{xs:List α}{k:Nat}{x:α}(h:xs[k]? =some x)(hk:k < 100000):ixD (.lst (xs.map f)) (.int k)=some (f x):=by
 exact (ixD_nat (dt (Int.lt_of_lt_of_le (by decide) (Int.natCast_nonneg k): -1000000 < (k:Int)) (show (k:Int) < 1000000 by exact ni [_] [(.s Z0,.n 100000)] (.s Z0) (.n 1000000) rfl (Int.ofNat_lt.2 hk)))).trans (by rw [List.getElem?_map,h];rfl)
theorem extra_ok:PyData.strOk (so "extra")=true:=by decide +kernel
inductive ActR (g:G)(c:Int)(fs:List Fm):Prop
 | mk {rows:List Rw} {g':G} (h1:RowsOk rows) (h2:rows.length≤6) (h3:Gp (c + 20) g') (h4:g'.cells=g.cells) (h5:aG t1 ir_actuals [.hnd 0,.lst (fs.map fmD)] g=.ok (.lst (rows.map rwD),g'))
theorem actuals_ok {g:G}{c:Int}{fs:List Fm}(h:Gp c g)(hc:c≤600)(hf:fs.length≤5)(h0:0 < fs.length):
  ActR g c fs:=by
 obtain ⟨st,⟨rows,b,g2,t4,t5,t6,t7,hr,hl,hg,hcs,rfl⟩,e1⟩:=act_loop (t4:=none) (t5:=none) (t6:=none) (t7:=none) (b:=false) h (Int.le_trans ‹_› (by decide)) hf
 simp only [List.length_zipIdx] at hl hg
 obtain ⟨k,a0,a1,e2⟩:=dC (ft:=t1) (ρ:=[some (.val (.hnd 0)),some (.val (.lst (fs.map fmD))),some (.own (.lst (rows.map rwD))),some (.val (.bool b)),t4,t5,t6,t7]) 6 hg (by exact ni [_,_] [(.m 2 Z0,.m 2 (.n 5)),(Z1,.n 600)] (.a Z1 (.m 2 Z0)) (.n 900) rfl (im 2 (Int.ofNat_le.2 hf) rfl) hc) (by decide) (by decide) rfl rfl
 have s2:=aB (i:=7) e2
 have G1:=hg.up
 have ret: ∀{rows':List Rw} {g':G},exs t1 [.ret (.fz 2)] ⟨[some (.val (.hnd 0)),some (.val (.lst (fs.map fmD))),some (.own (.lst (rows'.map rwD))),some (.val (.bool b)),t4,t5,t6,some (.val (.int k))],g'⟩=
   .ok (.ret (.lst (rows'.map rwD)),⟨[some (.val (.hnd 0)),some (.val (.lst (fs.map fmD))),some (.val (.lst (rows'.map rwD))),some (.val (.bool b)),t4,t5,t6,some (.val (.int k))],g'⟩):=aW (bE (dM rfl))
 have fin: ∀{rows':List Rw} {g':G},RowsOk rows'→rows'.length≤6→Gp (c + 20) g'→g'.cells=g.cells→(∀{r:List S} {R:Res (Fl×St)},exs t1 r ⟨[some (.val (.hnd 0)),some (.val (.lst (fs.map fmD))),some (.own (.lst (rows'.map rwD))),some (.val (.bool b)),t4,t5,t6,some (.val (.int k))],g'⟩=R→exs t1 ((ir_actuals.body.drop 3).take 1++r) ⟨[some (.val (.hnd 0)),some (.val (.lst (fs.map fmD))),some (.own (.lst (rows.map rwD))),some (.val (.bool b)),t4,t5,t6,some (.val (.int k))],{g2 with pat:=g2.pat + 1}⟩=R)→
   ActR g c fs:=by
  intro rows' g' h1 h2 h3 h4 h5
  exact ⟨h1,h2,h3,h4,bu (f:=ir_actuals) rfl (ah (gK (I_l (i:=2) ao (am rfl) (I_v (i:=3) ag jb))) (ah e1 (ah s2 (h5 ret))))⟩
 have more: ∀{x:Str} {g3:G} {ex:E},(x=so ""∨(∃n:Nm,x=nmS n)∨x=so "nobody")→Gp (c + 2 * fs.length + 1 + 1) g3→g3.cells=g.cells→
   ev t1 ex ⟨[some (.val (.hnd 0)),some (.val (.lst (fs.map fmD))),some (.own (.lst (rows.map rwD))),some (.val (.bool b)),t4,t5,t6,some (.val (.int k))],{g2 with pat:=g2.pat + 1}⟩=.ok (.str x,⟨[some (.val (.hnd 0)),some (.val (.lst (fs.map fmD))),some (.own (.lst (rows.map rwD))),some (.val (.bool b)),t4,t5,t6,some (.val (.int k))],g3⟩)→
   ∃rows' g',RowsOk rows'∧rows'.length≤6∧Gp (c + 20) g'∧g'.cells=g.cells∧Mine.ex t1 (.app 2 (.call .row [(.var 0),ex,(.cst (.str (so "extra")))])) ⟨[some (.val (.hnd 0)),some (.val (.lst (fs.map fmD))),some (.own (.lst (rows.map rwD))),some (.val (.bool b)),t4,t5,t6,some (.val (.int k))],{g2 with pat:=g2.pat + 1}⟩=
    .ok (.next,⟨[some (.val (.hnd 0)),some (.val (.lst (fs.map fmD))),some (.own (.lst (rows'.map rwD))),some (.val (.bool b)),t4,t5,t6,some (.val (.int k))],g'⟩):=by
  intro x g3 ee hx G3 c3 he
  obtain ⟨r,g',ra,G4,c4,er⟩:=row_ok (a:=so "extra") G3 (by exact ni [_,_] [(.m 2 Z0,.m 2 (.n 5)),(Z1,.n 600)] (.s (.s (.a Z1 (.m 2 Z0)))) (.n 900) rfl (im 2 (Int.ofNat_le.2 hf) rfl) hc) hx
  refine ⟨rows++[r],g',hr.snoc (by unfold jK;rw [ra];exact extra_ok),by simp only [List.length_append,List.length_cons,List.length_nil];exact nl [_,_] [(N0,N1),(N1,.n 5)] (.s N0) (.n 6) rfl hl hf,G4.mono (by exact ni [_,_] [(.m 2 Z0,.m 2 (.n 5))] (.s (.s (.s (.a Z1 (.m 2 Z0))))) (.a Z1 (.n 20)) rfl (im 2 (Int.ofNat_le.2 hf) rfl)),c4.trans c3,?_⟩
  have:=fB (ft:=t1) (k:=2) (d:=rwD r) (ds0:=rows.map rwD) (ds:=rows.map rwD) (st:=⟨[some (.val (.hnd 0)),some (.val (.lst (fs.map fmD))),some (.own (.lst (rows.map rwD))),some (.val (.bool b)),t4,t5,t6,some (.val (.int k))],{g2 with pat:=g2.pat + 1}⟩) (e:=.call .row [(.var 0),ee,(.cst (.str (so "extra")))]) rfl
   (bt (af (ad rfl) (af he (af ag ao))) er) rfl (by rw [List.length_map];exact nl [_,_] [(N0,N1),(N1,.n 5)] N0 (.n 1000) rfl hl hf)
  rw [this,List.map_append];rfl
 have g2c:({g2 with pat:=g2.pat + 1}:G).cells=g.cells:=hcs
 by_cases h3:k=3
 ·obtain ⟨rows',g',i1,i2,i3,i4,i5⟩:=more (x:=so "") (ex:=.cst (.str (so ""))) (.inl rfl) (G1.mono (Int.le_add_of_nonneg_right (by decide))) hcs ag
  exact fin i1 i2 i3 i4 fun h=>ah (aZ (aV (ad rfl) ag (ieq_t h3)) (ah i5 ar)) h
 by_cases h4:k=4
 ·obtain ⟨rows',g',i1,i2,i3,i4,i5⟩:=more (x:=so "nobody") (ex:=.cst (.str (so "nobody"))) (.inr (.inr rfl)) (G1.mono (Int.le_add_of_nonneg_right (by decide))) hcs ag
  exact fin i1 i2 i3 i4 fun h=>ah (aD (aV (ad rfl) ag (gQ h3)) (ah (aZ (aV (ad rfl) ag (ieq_t h4)) (ah i5 ar)) ar)) h
 by_cases h5:k=5
 ·obtain ⟨j,j0,j1,ej⟩:=take_ok (fs.length:Int) G1 (by exact ni [_,_] [(.m 2 Z0,.m 2 (.n 5)),(Z1,.n 600)] (.s (.a Z1 (.m 2 Z0))) (.n 900) rfl (im 2 (Int.ofNat_le.2 hf) rfl) hc) (Int.ofNat_le.2 ‹_›) (Int.ofNat_lt.2 (Nat.lt_of_le_of_lt ‹_› (by decide)))
  obtain ⟨n,rfl⟩: ∃n:Nat,j=n:=⟨j.toNat,(Int.toNat_of_nonneg ‹_›).symm⟩
  have hn:n < fs.length:=Int.ofNat_le.1 ‹_›
  have hget:fs[n]? =some fs[n]:=by simp
  obtain ⟨rows',g',i1,i2,i3,i4,i5⟩:=more (x:=nmS fs[n].nm) (ex:=.ix (.ix (.ix (.var 1) (.call .take [(.var 0),(.len (.var 1))])) (.cst (.int 2))) (.cst (.int 1))) (.inr (.inl ⟨_,rfl⟩)) G1.up hcs
   (ay (ay (ay (ad rfl) (bt (af (ad rfl) (af (cM (ad rfl) (n:=fs.length) (by exact congrArg some (List.length_map _)) (lec ‹_› (by rfl))) ao)) ej) (ca hget (by exact nl [_,_] [(.s N0,N1),(N1,.n 5)] (.s N0) (.n 100000) rfl hn hf))) ag ix2) ag ix1)
  exact fin i1 i2 i3 i4 fun h=>ah (aD (aV (ad rfl) ag (gQ h3)) (ah (aD (aV (ad rfl) ag (gQ h4)) (ah (aZ (aV (ad rfl) ag (ieq_t h5)) (ah i5 ar)) ar)) ar)) h
 exact fin hr (by exact nl [_,_] [(N0,N1),(N1,.n 5)] N0 (.n 6) rfl hl hf) (G1.mono (by exact ni [_,_] [(.m 2 Z0,.m 2 (.n 5))] (.s (.a Z1 (.m 2 Z0))) (.a Z1 (.n 20)) rfl (im 2 (Int.ofNat_le.2 hf) rfl))) hcs fun h=>ah (aD (aV (ad rfl) ag (gQ h3)) (ah (aD (aV (ad rfl) ag (gQ h4)) (ah (aD (aV (ad rfl) ag (gQ h5)) ar) ar)) ar)) h
noncomputable def eU (nm:Nm)(c:Nat):Str:=if c=0 then nmS nm else nmS nm++so " "++strI c
noncomputable def marksOf:Pm→List Bool
 | .one a=>[a]
 | .two a=>[a,a]
 | .sep a b=>[a,b]
noncomputable def jL (f:Fm):D:=.lst ((marksOf f.pm).map (fun b=>aq (tuS b))++[.tup [.str (so "result"),ig f.gv]])
noncomputable def bO (f f':Fm):Bool:=decide (marksOf f.pm=marksOf f'.pm)&&decide (f.gv=f'.gv)
noncomputable def dp (p:List Fm)(nm:Nm):Nat:=(p.filter fun y=>decide (y.nm=nm)).length
noncomputable def ck (p:List Fm)(f:Fm):Str:=eU f.nm (dp p f.nm)
noncomputable def g6:List Fm→List Fm→List (Fm×Str)
 | _,[]=>[]
 | p,f::r=>(f,ck p f)::g6 (p++[f]) r
noncomputable def ann (fs:List Fm):List (Fm×Str):=g6 [] fs
theorem annF_append (p a b:List Fm):g6 p (a++b)=g6 p a++g6 (p++a) b:=by
 induction a generalizing p with
 | nil=>show g6 p b=g6 (p++[]) b;rw [List.append_nil]
 | cons x r ih=>exact congrArg ((x,ck p x):: ·) ((ih _).trans (by rw [List.append_assoc];rfl))
theorem gZ (p:List Fm)(x:Fm):ann (p++[x])=ann p++[(x,ck p x)]:=annF_append [] p [x]
theorem annF_fst (p fs:List Fm):(g6 p fs).map (·.1)=fs:=by
 induction fs generalizing p with
 | nil=>rfl
 | cons x r ih=>exact congrArg (x:: ·) (ih _)
theorem eu (fs:List Fm):(ann fs).map (·.1)=fs:=annF_fst [] fs
theorem bB (fs:List Fm):(ann fs).length=fs.length:=by have:=congrArg List.length (eu fs);simpa using this
theorem gH (p:List Fm)(nm:Nm):dp p nm≤p.length:=List.length_filter_le _ _
theorem cntN_snoc (p:List Fm)(x:Fm)(nm:Nm):dp (p++[x]) nm=dp p nm + (if x.nm=nm then 1 else 0):=by
 unfold dp
 rw [List.filter_append,List.length_append]
 by_cases h:x.nm=nm <;> simp [h]
theorem key_inj: ∀{n n':Nm} {c c':Nat},c≤5→c'≤5→eU n c=eU n' c'→n=n'∧c=c':=by
 have h: ∀(n n':Nm) (c c':Fin 6),eU n c=eU n' c'→n=n'∧c=c':=by
  intro n n' c c'
  revert c c'
  cases n <;> cases n' <;> decide +kernel
 intro n n' c c' h1 h2 e
 have:=h n n' ⟨c,Nat.lt_succ_of_le ‹_›⟩ ⟨c',Nat.lt_succ_of_le ‹_›⟩ e
 exact ⟨this.1,by simpa using this.2⟩
theorem key_ok {n:Nm}{c:Nat}(h:c≤5):PyData.strOk (eU n c)=true:=by
 have h': ∀(n:Nm) (c:Fin 6),PyData.strOk (eU n c)=true:=by
  intro n;cases n <;> decide +kernel
 exact h' n ⟨c,Nat.lt_succ_of_le ‹_›⟩
theorem key_step {n:Nm}{c:Nat}(h:c≤5)(h0:0 < c): ∃d,opD .add (.str (nmS n)) (.str (so " "))=some d∧opD .add d (.str (strI c))=some (.str (eU n c)):=by
 have h': ∀(n:Nm) (c:Fin 6),0 < (c:Nat)→(nmS n).length + (so " ").length≤1000∧(nmS n++so " ").length + (strI (c:Nat)).length≤1000∧eU n c=nmS n++so " "++strI (c:Nat):=by
  intro n;cases n <;> decide +kernel
 obtain ⟨a,b,e⟩:=h' n ⟨c,Nat.lt_succ_of_le ‹_›⟩ h0
 exact ⟨.str (nmS n++so " "),if_pos a,(if_pos b).trans (by rw [e])⟩
theorem i6 (n:Nm):PyData.strOk (nmS n)=true:=by cases n <;> decide +kernel
theorem nm_inj {n n':Nm}(h:nmS n=nmS n'):n=n':=(key_inj (c:=0) (c':=0) (by decide) (by decide) (by simpa [eU] using h)).1
theorem ann_mem {fs:List Fm}{a:Fm×Str}(h:a∈ann fs): ∃p q,fs=p++a.1::q∧a.2=ck p a.1:=by
 have key: ∀(p r:List Fm),a∈g6 p r→ ∃u v,r=u++a.1::v∧a.2=ck (p++u) a.1:=by
  intro p r
  induction r generalizing p with
  | nil=>intro h;cases h
  | cons x r ih=>
   intro h
   rcases List.mem_cons.mp h with h | h
   ·subst h;exact ⟨[],r,rfl,by simp⟩
   ·refine x22 (ih (p++[x]) h) fun u v e e2=>?_
    exact ⟨x::u,v,by rw [e];rfl,by rw [e2];simp⟩
 refine x22 (key [] fs h) fun u v e e2=>?_
 exact ⟨u,v,e,by simpa using e2⟩
theorem ck_new {p:List Fm}{x:Fm}(hp:p.length < 5):ck p x∉(ann p).map (·.2):=by
 intro h
 refine x12 (List.mem_map.mp h) fun a ha e=>?_
 refine x22 (ann_mem ha) fun u v e1 e2=>?_
 rw [e2] at e
 unfold ck at e
 have hu:u.length < p.length:=by rw [e1];simp
 have l1:=gH u a.1.nm
 have l2:=gH p x.nm
 obtain ⟨n1,n2⟩:=key_inj (by exact nl [_,_,_] [(N0,N1),(.s N1,N2),(.s N2,.n 5)] N0 (.n 5) rfl l1 hu hp) (by exact nl [_,_] [(N0,N1),(.s N1,.n 5)] N0 (.n 5) rfl l2 hp) e
 have:dp p x.nm=dp (u++[a.1]) x.nm + dp v x.nm:=by
  unfold dp;rw [e1];simp [List.filter_append,List.filter_cons];split <;> simp <;> exact Nat.le_antisymm (nl [_,_] [] (.a N0 (.s N1)) (.a (.s N0) N1) rfl) (nl [_,_] [] (.a (.s N0) N1) (.a N0 (.s N1)) rfl)
 rw [this,cntN_snoc,if_pos n1,n1] at n2
 exact nf [_,_] [(.a (.s N0) N1,N0)] rfl (Nat.le_of_eq n2.symm)
theorem fv {fs:List Fm}(h:fs.length≤5):((ann fs).map (·.2)).Nodup:=by
 have key: ∀(n:Nat) (fs:List Fm),fs.length=n→n≤5→((ann fs).map (·.2)).Nodup:=by
  intro n
  induction n with
  | zero=>intro fs h _;rw [List.length_eq_zero_iff.mp h];exact List.nodup_nil
  | succ n ih=>
   intro fs h hn
   obtain ⟨p,x,rfl⟩: ∃p x,fs=p++[x]:=⟨fs.dropLast,fs.getLast (by intro q;rw [q] at h;cases h),(List.dropLast_concat_getLast _).symm⟩
   have hp:p.length=n:=by simpa using h
   rw [gZ,List.map_append,List.nodup_append]
   refine ⟨ih p hp (Nat.le_of_lt ‹_›),by simp,fun a ha b hb=>?_⟩
   simp only [List.map_cons,List.map_nil,List.mem_singleton] at hb
   subst hb
   rintro rfl
   exact ck_new (by exact nl [_,_] [(N0,N1),(.s N1,.n 5)] (.s N0) (.n 5) rfl (Nat.le_of_eq hp) hn) ha
 exact key _ fs rfl h
theorem dZ {x:Str}{d:D}: ∀{l:List (Str×D)},x∉l.map (·.1)→cz x d l=l++[(x,d)]
 | [],_=>rfl
 | (y,e)::r,h=>by
  simp only [List.map_cons,List.mem_cons,not_or] at h
  exact (if_neg h.1).trans (congrArg ((y,e):: ·) (dZ h.2))
theorem iE {x:Str}: ∀{l:List (Str×D)},x∉l.map (·.1)→aX x l=none
 | [],_=>rfl
 | (y,e)::r,h=>by
  simp only [List.map_cons,List.mem_cons,not_or] at h
  exact (if_neg h.1).trans (iE h.2)
theorem c6 {x:Str}{d:D}: ∀{l:List (Str×D)},(l.map (·.1)).Nodup→(x,d)∈l→aX x l=some d
 | [],_,h=>by cases h
 | (y,e)::r,hn,h=>by
  simp only [List.map_cons,List.nodup_cons] at hn
  rcases List.mem_cons.mp h with h1 | h1
  ·cases h1;exact if_pos rfl
  ·have hne: ¬x=y:=by
    rintro rfl
    exact hn.1 (List.mem_map_of_mem (f:=(·.1)) h1)
   exact (if_neg hne).trans (c6 hn.2 h1)
theorem fj {x:Str}{l:List (Str×D)}(h:x∉l.map (·.1)):inD (.str x) (.dct l)=some false:=congrArg (fun o:Option D=>some o.isSome) (iE h)
theorem jn {x:Str}{l:List (Str×D)}(h:x∈l.map (·.1)):inD (.str x) (.dct l)=some true:=by
 have: ∀{l:List (Str×D)},x∈l.map (·.1)→(aX x l).isSome=true:=by
  intro l
  induction l with
  | nil=>intro h;cases h
  | cons a r ih=>
   intro h
   show (if x=a.1 then some a.2 else aX x r).isSome=true
   split
   ·rfl
   ·rename_i hne
    rcases List.mem_cons.mp h with q | q
    ·exact absurd q hne
    ·exact ih q
 exact congrArg some (this h)
set_option backward.match.sparseCases false in
noncomputable def fm:S→List S
 | .forL _ _ b=>b
 | .forE _ _ _ b=>b
 | .forR _ _ b=>b
 | _=>[]
theorem names_ok {f:Fm}{g:G}:aG t0 ir_formal_names [fmD f] g=.ok (.lst [.str (nmS f.nm)],g):=
 bu (f:=ir_formal_names) (st:=⟨[some (.val (fmD f))],g⟩) rfl (ah (aD (aV (ay (ad rfl) ag ix0) ag (by kernel_rfl)) ar) (aW (aZ (aV (ay (ad rfl) ag ix0) ag (by kernel_rfl)) (aW (bE (cv (af (ay (ay (ad rfl) ag ix2) ag ix1) ao) (am rfl)))))))
theorem default_ok {f:Fm}{g:G}:aG t0 ir_default_of [fmD f] g=.ok (dfD f.df,g):=
 bu (f:=ir_default_of) (st:=⟨[some (.val (fmD f))],g⟩) rfl (ah (aD (aV (ay (ad rfl) ag ix0) ag (by kernel_rfl)) ar) (aW (aZ (aV (ay (ad rfl) ag ix0) ag (by kernel_rfl)) (aW (bE (ay (ad rfl) ag ix3))))))
theorem told_ok {f:Fm}{g:G}:aG t0 ir_types_told [fmD f] g=.ok (jL f,g):=by
 obtain ⟨line,nm,pm,gv,df⟩:=f
 cases pm <;> kernel_rfl
noncomputable def allPm:List Pm:=[.one false,.one true,.two false,.two true,.sep false false,.sep false true,.sep true false,.sep true true]
noncomputable def allGv:List Gv:=[.t,.u,.no]
noncomputable def allNm:List Nm:=[.minus,.mod,.pick]
noncomputable def allDf:List Df:=[.none,.box,.other]
theorem pm_all (p:Pm):p∈allPm:=by
 rcases p with a | a | ⟨a,b⟩ <;> cases a <;> (try cases b) <;> simp [allPm]
theorem gv_all (g:Gv):g∈allGv:=by cases g <;> simp [allGv]
theorem nm_all (g:Nm):g∈allNm:=by cases g <;> simp [allNm]
theorem df_all (g:Df):g∈allDf:=by cases g <;> simp [allDf]
theorem gr {f:Pm→Gv→Bool}(h:(allPm.all fun p=>allGv.all fun g=>f p g)=true)(p:Pm)(g:Gv):f p g=true:=
 List.all_eq_true.mp (List.all_eq_true.mp h p (pm_all p)) g (gv_all g)
theorem told_eq (f f':Fm):eqD (jL f) (jL f')=some (bO f f'):=by
 have h:=gr (f:=fun p g=>allPm.all fun p'=>allGv.all fun g'=>eqD (jL ⟨0,.minus,p,g,.none⟩) (jL ⟨0,.minus,p',g',.none⟩)==some (bO ⟨0,.minus,p,g,.none⟩ ⟨0,.minus,p',g',.none⟩)) (by decide +kernel) f.pm f.gv
 exact eq_of_beq (gr h f'.pm f'.gv)
theorem fm_cmp (f:Fm):(fmD f).cmpOk=true∧(fmD f).depth≤5:=by
 have h:(allNm.all fun n=>allDf.all fun d=>allPm.all fun p=>allGv.all fun g=>D.cmpOks [D.str (so "fsub"),a7 ⟨0,n,p,g,d⟩,dfD d]&&Nat.ble (D.depths [D.str (so "fsub"),a7 ⟨0,n,p,g,d⟩,dfD d]) 4)=true:=by decide +kernel
 have h1:=Bool.and_eq_true_iff.mp (gr (List.all_eq_true.mp (List.all_eq_true.mp h f.nm (nm_all _)) f.df (df_all _)) f.pm f.gv)
 have a:D.cmpOks [D.str (so "fsub"),a7 f,dfD f.df]=true:=h1.1
 have b:D.depths [D.str (so "fsub"),a7 f,dfD f.df]≤4:=Nat.le_of_ble_eq_true h1.2
 have a':=Bool.and_eq_true_iff.1 a
 exact ⟨Bool.and_eq_true_iff.2 ⟨a'.1,a'.2⟩,Nat.succ_le_succ (Nat.max_le.2 ⟨Nat.zero_le _,b⟩)⟩
theorem dk {α:Type}(c:α→Bool)(e:α→D)(xs:List α):(xs.map fun a=>if c a=true then [e a] else []).flatten=(xs.filter c).map e:=by
 induction xs with
 | nil=>rfl
 | cons x r ih=>
  by_cases h:c x=true
  ·simp [h,ih]
  ·simp [h,ih]
noncomputable def bn (a:Fm×Str):D:=.tup [fmD a.1,.lst [.str a.2]]
noncomputable def bF (p:List Fm):List (Str×D):=(ann p).map fun a=>(a.2,.str (nmS a.1.nm))
noncomputable def cJ (p:List Fm):List (Str×D):=(ann p).map fun a=>(a.2,dfD a.1.df)
theorem fV (p:List Fm):(bF p).map (·.1)=(ann p).map (·.2):=by unfold bF;rw [List.map_map];rfl
theorem dfsKV_keys (p:List Fm):(cJ p).map (·.1)=(ann p).map (·.2):=by unfold cJ;rw [List.map_map];rfl
theorem jy {p:List Fm}{a:Fm×Str}(hp:p.length≤5)(h:a∈ann p):aX a.2 (bF p)=some (.str (nmS a.1.nm)):=
 c6 (by rw [fV];exact fv hp) (List.mem_map_of_mem (f:=fun a:Fm×Str=>(a.2,D.str (nmS a.1.nm))) h)
theorem dfs_at {p:List Fm}{a:Fm×Str}(hp:p.length≤5)(h:a∈ann p):aX a.2 (cJ p)=some (dfD a.1.df):=
 c6 (by rw [dfsKV_keys];exact fv hp) (List.mem_map_of_mem (f:=fun a:Fm×Str=>(a.2,dfD a.1.df)) h)
theorem in_one {x y:Str}(hx:PyData.strOk x=true)(hy:PyData.strOk y=true):inD (.str x) (.lst [.str y])=some (decide (y=x)):=by
 have e:(y==x)=decide (y=x):=by by_cases h:y=x <;> simp [h]
 exact (inD_of (a:=.str x) (ds:=[.str y]) hx (Bool.and_eq_true_iff.2 ⟨hy,rfl⟩) (Nat.zero_le _) (show max 0 0≤8 by decide)).trans (congrArg some ((Bool.or_false _).trans e))
theorem ann_strOk {p:List Fm}(hp:p.length≤5){a:Fm×Str}(h:a∈ann p):PyData.strOk a.2=true:=by
 refine x22 (ann_mem h) fun u v e1 e2=>?_
 rw [e2]
 have:=gH u a.1.nm
 have:u.length≤p.length:=by rw [e1];simp
 exact key_ok (by omega)
theorem rows_cmp {p:List Fm}(hp:p.length≤5): ∀{l:List (Fm×Str)},(∀a∈l,a∈ann p)→D.cmpOks (l.map bn)=true∧D.depths (l.map bn)≤6
 | [],_=>⟨rfl,Nat.zero_le _⟩
 | a::r,h=>by
  obtain ⟨i1,i2⟩:=rows_cmp hp (l:=r) fun b hb=>h b (List.mem_cons_of_mem _ hb)
  obtain ⟨c1,c2⟩:=fm_cmp a.1
  have k:=ann_strOk hp (h a List.mem_cons_self)
  exact ⟨Bool.and_eq_true_iff.2 ⟨Bool.and_eq_true_iff.2 ⟨c1,Bool.and_eq_true_iff.2 ⟨Bool.and_eq_true_iff.2 ⟨k,rfl⟩,rfl⟩⟩,i1⟩,Nat.max_le.2 ⟨Nat.succ_le_succ (Nat.max_le.2 ⟨c2,show max (max 0 0 + 1) 0≤5 by decide⟩),i2⟩⟩
theorem rows_nil {p:List Fm}(hp:p.length≤5){l:List (Fm×Str)}(h: ∀a∈l,a∈ann p):eqD (.lst (l.map bn)) (.lst [])=some l.isEmpty:=by
 refine x02 (rows_cmp hp h) fun a b=>?_
 have e:D.beq (.lst (l.map bn)) (.lst [])=l.isEmpty:=by cases l <;> rfl
 exact (gE (a:=.lst (l.map bn)) (b:=.lst []) a rfl (Nat.succ_le_succ (Nat.le_trans b (by decide))) (by decide)).trans (congrArg some e)
theorem dY {ft:FT}{st s1:St}{e:E}{t:Bool}(h:ev ft e st=.ok (.bool t,s1)):br ft [e] st=.ok (.bool t,s1):=by
 cases t
 ·exact A_f h
 ·exact A_t h fD
theorem R_one {ft:FT}{st s1:St}{e:E}{t:Bool}(h:ev ft e st=.ok (.bool t,s1)):dm ft [e] st=.ok (.bool t,s1):=by
 cases t
 ·exact R_f h eK
 ·exact R_t h
noncomputable def fY:List S:=fm ((ir_formal_keys.body[3]?).getD .dead)
noncomputable def ksl (F:D)(line:Int)(p:List Fm)(t:List (Option Slot)):List (Option Slot):=some (.val F)::some (.val (.int line))::some (.own (.lst ((ann p).map bn)))::some (.own (.dct (bF p)))::some (.own (.dct (cJ p)))::t
theorem filter_len (p:List Fm)(nm:Nm):((ann p).filter fun a=>decide (a.1.nm=nm)).length=dp p nm:=by
 unfold dp
 conv=>rhs;rw [←eu p,List.filter_map,List.length_map]
 rfl
theorem others_ok {F:D}{line:Int}{p:List Fm}{x:Fm}{t6 t8 t9 t10 t11 t12:Option Slot}{g:G}(hp:p.length≤5):
  ev t1 (.compV [8] 2 [(.inn (.var 7) (.compE [9] (.ix (.var 8) (.cst (.int 1))) [] (.ixV 3 (.var 9))))] (.var 8)) ⟨ksl F line p [some (.val (fmD x)),t6,some (.val (.str (nmS x.nm))),t8,t9,t10,t11,t12],g⟩=
   .ok (.lst (((ann p).filter fun a=>decide (a.1.nm=x.nm)).map bn),⟨ksl F line p [some (.val (fmD x)),t6,some (.val (.str (nmS x.nm))),t8,t9,t10,t11,t12],g⟩):=by
 rw [←dk]
 refine E_compVp (emb:=bn) (xs:=ann p) (h:=fun a=>if decide (a.1.nm=x.nm)=true then [bn a] else []) rfl (by rw [bB];exact lec ‹_› (by rfl)) fun a ha=>⟨_,rfl,rfl,decide (a.1.nm=x.nm),dY ?_,fun hq=>⟨bn a,ad rfl,if_pos hq⟩,fun hq=>if_neg (by rw [hq];simp)⟩
 have hs:=ann_strOk hp ha
 have hn:=jy hp ha
 have e:decide (nmS a.1.nm=nmS x.nm)=decide (a.1.nm=x.nm):=by
  by_cases q:a.1.nm=x.nm
  ·simp [q]
  ·rw [decide_eq_false q,decide_eq_false fun w=>q (nm_inj w)]
 rw [←e]
 refine E_inn (ad rfl) (cn (emb:=fun y:Str=>D.str y) (xs:=[a.2]) (h:=fun y=>[.str (nmS a.1.nm)]) (ay (ad rfl) ag ix1) (am rfl) fun y hy=>⟨_,rfl,rfl,true,fD,fun _=>?_,fun q=>by cases q⟩) (in_one (i6 _) (i6 _))
 rw [List.mem_singleton] at hy
 subst hy
 exact ⟨.str (nmS a.1.nm),E_ixV rfl (ad rfl) rfl hn,rfl⟩
theorem kinds_ok {F:D}{line:Int}{p:List Fm}{x:Fm}{t6 t7 t8 t9 t11 t12:Option Slot}{g:G}(l:List (Fm×Str))(hl:l.length≤100):
  (∃a∈l,bO x a.1=true)∧ex t1 (.forL [11,12] (.var 10) [.ife (.or [(.op .ne (.ix (.var 5) (.cst (.int 0))) (.cst (.str (so "fsub")))),(.op .ne (.ix (.var 11) (.cst (.int 0))) (.cst (.str (so "fsub")))),(.op .eq (.call .types_told [(.var 5)]) (.call .types_told [(.var 11)]))]) [.rais (.var 1)] []])
   ⟨ksl F line p [some (.val (fmD x)),t6,t7,t8,t9,some (.val (.lst (l.map bn))),t11,t12],g⟩=.flt line∨
  (∀a∈l,bO x a.1=false)∧ ∃u v,ex t1 (.forL [11,12] (.var 10) [.ife (.or [(.op .ne (.ix (.var 5) (.cst (.int 0))) (.cst (.str (so "fsub")))),(.op .ne (.ix (.var 11) (.cst (.int 0))) (.cst (.str (so "fsub")))),(.op .eq (.call .types_told [(.var 5)]) (.call .types_told [(.var 11)]))]) [.rais (.var 1)] []])
   ⟨ksl F line p [some (.val (fmD x)),t6,t7,t8,t9,some (.val (.lst (l.map bn))),t11,t12],g⟩=.ok (.next,⟨ksl F line p [some (.val (fmD x)),t6,t7,t8,t9,some (.val (.lst (l.map bn))),u,v],g⟩):=by
 rw [eJ (ds:=l.map bn) (s1:=⟨ksl F line p [some (.val (fmD x)),t6,t7,t8,t9,some (.val (.lst (l.map bn))),t11,t12],g⟩) (ad rfl) (by rw [List.length_map];exact lec ‹_› (by rfl))]
 refine cA (fun q st=>(∀a∈q,bO x a.1=false)∧ ∃u v,st=⟨ksl F line p [some (.val (fmD x)),t6,t7,t8,t9,some (.val (.lst (l.map bn))),u,v],g⟩)
  (fun R=>(∃a∈l,bO x a.1=true)∧R=.flt line∨(∀a∈l,bO x a.1=false)∧ ∃u v,R=.ok (.next,⟨ksl F line p [some (.val (fmD x)),t6,t7,t8,t9,some (.val (.lst (l.map bn))),u,v],g⟩)) ?_ (fun st h=>.inr ?_) ⟨(fun _ h=>by cases h),_,_,rfl⟩
 ·rintro q a r st e ⟨h1,u,v,rfl⟩
  have ht:ev t1 (.or [(.op .ne (.ix (.var 5) (.cst (.int 0))) (.cst (.str (so "fsub")))),(.op .ne (.ix (.var 11) (.cst (.int 0))) (.cst (.str (so "fsub")))),(.op .eq (.call .types_told [(.var 5)]) (.call .types_told [(.var 11)]))])
    ⟨ksl F line p [some (.val (fmD x)),t6,t7,t8,t9,some (.val (.lst (l.map bn))),some (.val (fmD a.1)),some (.val (.lst [.str a.2]))],g⟩=.ok (.bool (bO x a.1),⟨ksl F line p [some (.val (fmD x)),t6,t7,t8,t9,some (.val (.lst (l.map bn))),some (.val (fmD a.1)),some (.val (.lst [.str a.2]))],g⟩):=
   eZ (R_f (bw (t:=true) (ay (ad rfl) ag ix0) ag (by kernel_rfl)) (R_f (bw (t:=true) (ay (ad rfl) ag ix0) ag (by kernel_rfl)) (R_one (aV (bt (af (ad rfl) ao) told_ok) (bt (af (ad rfl) ao) told_ok) (told_eq x a.1)))))
  cases hs:bO x a.1 with
  | true=>
   rw [hs] at ht
   exact .inr ⟨.flt line,bp (aZ ht (bp (f8 (ad rfl)))),rfl,.inl ⟨⟨a,by rw [e];simp,hs⟩,rfl⟩⟩
  | false=>
   rw [hs] at ht
   refine .inl ⟨_,ah (aD ht ar) ar,fun b hb=>?_,_,_,rfl⟩
   rcases List.mem_append.mp hb with hb | hb
   ·exact h1 b hb
   ·rw [List.mem_singleton.mp hb];exact hs
 ·obtain ⟨h1,u,v,e⟩:=h
  exact ⟨h1,u,v,by rw [e]⟩
noncomputable def eF (p:List Fm)(x:Fm):Prop:= ∃y∈p,y.nm=x.nm∧bO x y=true
theorem keys_turn {F:D}{line:Int}{p:List Fm}{x:Fm}{t6 t7 t8 t9 t10 t11 t12:Option Slot}{g:G}(hp:p.length < 5):
  eF p x∧exs t1 fY ⟨ksl F line p [some (.val (fmD x)),t6,t7,t8,t9,t10,t11,t12],g⟩=.flt line∨
  ¬eF p x∧ ∃t,t.length=8∧exs t1 fY ⟨ksl F line p [some (.val (fmD x)),t6,t7,t8,t9,t10,t11,t12],g⟩=.ok (.next,⟨ksl F line (p++[x]) t,g⟩):=by
 have mem: ∀a,a∈(ann p).filter (fun a=>decide (a.1.nm=x.nm))→a∈ann p∧a.1.nm=x.nm:=fun a h=>by
  refine x02 (List.mem_filter.mp h) fun h1 h2=>?_
  exact ⟨h1,by simpa using h2⟩
 have dup:(∃a∈(ann p).filter (fun a=>decide (a.1.nm=x.nm)),bO x a.1=true)↔eF p x:=by
  constructor
  ·rintro ⟨a,ha,hs⟩
   refine x02 (mem a ha) fun h1 h2=>?_
   exact ⟨a.1,by rw [←eu p];exact List.mem_map_of_mem h1,h2,hs⟩
  ·rintro ⟨y,hy,hn,hs⟩
   rw [←eu p] at hy
   obtain ⟨a,ha,rfl⟩:=List.mem_map.mp hy
   exact ⟨a,List.mem_filter.mpr ⟨ha,by simpa using hn⟩,hs⟩
 have lf:=filter_len p x.nm
 have lc:=gH p x.nm
 have one: ∀(rest:List S) (R:Res (Fl×St)) (body:List S),(∃s1,exs t1 body ⟨ksl F line p [some (.val (fmD x)),some (.own (.lst [])),some (.val (.str (nmS x.nm))),t8,t9,t10,t11,t12],g⟩=.ok (.next,s1)∧exs t1 rest s1=R)→
   exs t1 (.ownL 6 []:: .forL [7] (.call .formal_names [(.var 5)]) body::rest) ⟨ksl F line p [some (.val (fmD x)),t6,t7,t8,t9,t10,t11,t12],g⟩=R:=by
  rintro rest R body ⟨s1,h1,h2⟩
  refine ah (dT (i:=6) ao (am rfl)) (ah ((eJ (ds:=[.str (nmS x.nm)]) (bt (af (ad rfl) ao) names_ok) (am rfl)).trans ((eT (s1:=s1) ?_).trans rfl)) h2)
  exact h1
 have oneX: ∀(rest:List S) (body:List S),(exs t1 body ⟨ksl F line p [some (.val (fmD x)),some (.own (.lst [])),some (.val (.str (nmS x.nm))),t8,t9,t10,t11,t12],g⟩=.flt line)→
   exs t1 (.ownL 6 []:: .forL [7] (.call .formal_names [(.var 5)]) body::rest) ⟨ksl F line p [some (.val (fmD x)),t6,t7,t8,t9,t10,t11,t12],g⟩=.flt line:=by
  intro rest body h1
  exact ah (dT (i:=6) ao (am rfl)) (bp ((eJ (ds:=[.str (nmS x.nm)]) (bt (af (ad rfl) ao) names_ok) (am rfl)).trans (iD (R:=.flt line) h1 rfl)))
 have s1:=aB (i:=10) (others_ok (F:=F) (line:=line) (x:=x) (t6:=some (.own (.lst []))) (t8:=t8) (t9:=t9) (t10:=t10) (t11:=t11) (t12:=t12) (g:=g) (Nat.le_of_lt hp))
 rcases kinds_ok (F:=F) (line:=line) (p:=p) (x:=x) (t6:=some (.own (.lst []))) (t7:=some (.val (.str (nmS x.nm)))) (t8:=t8) (t9:=t9) (t11:=t11) (t12:=t12) (g:=g) ((ann p).filter fun a=>decide (a.1.nm=x.nm)) (by exact nl [_,_,_] [(N0,N1),(N1,N2),(.s N2,.n 5)] N0 (.n 100) rfl (Nat.le_of_eq lf) lc hp) with ⟨h1,h2⟩ | ⟨h1,u,v,h2⟩
 ·exact .inl ⟨dup.mp h1,oneX _ _ (ah s1 (bp h2))⟩
 ·refine .inr ⟨fun h=>?_,?_⟩
  ·refine x12 (dup.mpr h) fun a ha hs=>?_
   rw [h1 a ha] at hs;cases hs
  ·have hkey:ev t1 (.ite (.op .eq (.var 10) (.lst [])) (.var 7) (.op .add (.op .add (.var 7) (.cst (.str (so " ")))) (.str (.len (.var 10)))))
     ⟨ksl F line p [some (.val (fmD x)),some (.own (.lst [])),some (.val (.str (nmS x.nm))),t8,t9,some (.val (.lst (((ann p).filter fun a=>decide (a.1.nm=x.nm)).map bn))),u,v],g⟩=
     .ok (.str (ck p x),⟨ksl F line p [some (.val (fmD x)),some (.own (.lst [])),some (.val (.str (nmS x.nm))),t8,t9,some (.val (.lst (((ann p).filter fun a=>decide (a.1.nm=x.nm)).map bn))),u,v],g⟩):=by
    refine E_ite (aV (ad rfl) (cv ao (am rfl)) (rows_nil (Nat.le_of_lt hp) fun a ha=>(mem a ha).1)) (fun he=>?_) fun he=>?_
    ·have:dp p x.nm=0:=by rw [←lf,List.isEmpty_iff.mp he];rfl
     have e:ck p x=nmS x.nm:=by unfold ck eU;rw [this];rfl
     rw [e];exact ad rfl
    ·have:0 < dp p x.nm:=by
      rw [←lf]
      cases hq:(ann p).filter (fun a=>decide (a.1.nm=x.nm)) with
      | nil=>rw [hq] at he;cases he
      | cons a r=>simp
     obtain ⟨d,d1,d2⟩:=key_step (n:=x.nm) (c:=dp p x.nm) (by exact nl [_,_] [(N0,N1),(.s N1,.n 5)] N0 (.n 5) rfl lc hp) this
     refine bD (bD (ad rfl) ag d1) (E_str (cM (n:=dp p x.nm) (ad rfl) (by simp only [da,List.length_map,lf]) (by exact nl [_,_] [(N0,N1),(.s N1,.n 5)] N0 (.n 100000) rfl lc hp)) (dt (Int.natCast_nonneg _) (by exact ni [_,_] [(Z0,Z1),(.s Z1,.n 5)] (.s Z0) (.n 1000000) rfl (Int.ofNat_le.2 lc) (Int.ofNat_lt.2 hp)))) d2
   have new:=ck_new (p:=p) (x:=x) hp
   have e1:cz (ck p x) (.str (nmS x.nm)) (bF p)=bF (p++[x]):=by
    rw [dZ (by rw [fV];exact new)];unfold bF;rw [gZ,List.map_append];rfl
   have e2:cz (ck p x) (dfD x.df) (cJ p)=cJ (p++[x]):=by
    rw [dZ (by rw [dfsKV_keys];exact new)];unfold cJ;rw [gZ,List.map_append];rfl
   have e3:(ann (p++[x])).map bn=(ann p).map bn++[.tup [fmD x,.lst [.str (ck p x)]]]:=by rw [gZ,List.map_append];rfl
   refine ⟨[some (.val (fmD x)),some (.val (.lst [.str (ck p x)])),some (.val (.str (nmS x.nm))),t8,some (.val (.str (ck p x))),some (.val (.lst (((ann p).filter fun a=>decide (a.1.nm=x.nm)).map bn))),u,v],rfl,?_⟩
   unfold ksl
   rw [e3,←e1,←e2]
   refine one _ _ _ ⟨_,ah s1 (ah h2 (ah (aB (i:=9) hkey) (ah (aD (E_inV (ad rfl) rfl (fj (by rw [fV];exact new))) ar) (ah (gL (ad rfl) rfl (ad rfl) rfl ?_) (ah (gL (bt (af (ad rfl) ao) default_ok) rfl (ad rfl) rfl ?_) (ah (fB rfl (ad rfl) rfl (am rfl)) ar)))))),
    ah (fB rfl (aF (af (ad rfl) (af (dM rfl) ao)) (am rfl)) rfl ?_) ar⟩
   ·unfold bF;rw [List.length_map,bB];exact Nat.le_trans (Nat.le_of_lt ‹_›) (by decide)
   ·unfold cJ;rw [List.length_map,bB];exact Nat.le_trans (Nat.le_of_lt ‹_›) (by decide)
   ·rw [List.length_map,bB];exact Nat.le_trans (Nat.le_of_lt ‹_›) (by decide)
noncomputable def dh (fs:List Fm):Prop:= ∀p x q,fs=p++x::q→ ¬eF p x
theorem len8 {α:Type}{t:List α}(h:t.length=8): ∃a b c d e f g h,t=[a,b,c,d,e,f,g,h]:=by
 apply bK h;intro a v h;apply bK h;intro b v h;apply bK h;intro c v h;apply bK h;intro d v h;apply bK h;intro e v h;apply bK h;intro f v h;apply bK h;intro g v h;apply bK h;intro i v h;apply jA h;exact ⟨a,b,c,d,e,f,g,i,rfl⟩
noncomputable def keysD (fs:List Fm):D:=.tup [.lst ((ann fs).map fun a=>.lst [.str a.2]),.dct (bF fs),.dct (cJ fs)]
theorem dup_snoc {p:List Fm}{x:Fm}(h1: ∀u x v,p=u++x::v→ ¬eF u x)(h2: ¬eF p x){u v:List Fm}{y:Fm}(e2:p++[x]=u++y::v): ¬eF u y:=by
 rcases List.append_eq_append_iff.mp e2 with ⟨w,e3,e4⟩ | ⟨w,e3,e4⟩
 ·cases w with
  | nil=>rw [List.nil_append] at e4;cases e4;rw [e3,List.append_nil];exact h2
  | cons z w=>
   simp only [List.cons_append,List.cons.injEq] at e4
   have:=congrArg List.length e4.2;simp at this
 ·cases w with
  | nil=>simp only [List.nil_append] at e4;cases e4;rw [List.append_nil] at e3;subst e3;exact h2
  | cons z w=>
   simp only [List.cons_append,List.cons.injEq] at e4
   obtain ⟨rfl,rfl⟩:=e4
   exact h1 u y w e3
inductive KsSt (F:D)(line:Int)(p:List Fm)(g:G)(st:St):Prop
 | mk {t:List (Option Slot)} (h:t.length=8) (e:st=⟨ksl F line p t,g⟩)
theorem keys_ok {fs:List Fm}{line:Int}{g:G}(hf:fs.length≤5):
  ¬dh fs∧aG t1 ir_formal_keys [.lst (fs.map fmD),.int line] g=.flt line∨dh fs∧aG t1 ir_formal_keys [.lst (fs.map fmD),.int line] g=.ok (keysD fs,g):=by
 have lp: ∀R,R=cr (fun d s=>(Res.ofOpt (bb s [5] d)).bind fun s1=>exs t1 fY s1) (fs.map fmD) ⟨ksl (.lst (fs.map fmD)) line [] [none,none,none,none,none,none,none,none],g⟩→
   (¬dh fs∧R=.flt line∨dh fs∧ ∃st,KsSt (.lst (fs.map fmD)) line fs g st∧R=.ok (.next,st)):=by
  intro R eR
  rw [eR]
  refine cA (fun p st=>(∀u x v,p=u++x::v→ ¬eF u x)∧KsSt (.lst (fs.map fmD)) line p g st) (fun R=> ¬dh fs∧R=.flt line∨dh fs∧ ∃st,KsSt (.lst (fs.map fmD)) line fs g st∧R=.ok (.next,st)) (fun p x q st e h=>?_) (fun st h=>.inr ⟨h.1,st,h.2,rfl⟩) ⟨(fun u x v e=>by cases u <;> cases e),⟨rfl,rfl⟩⟩
  cases h.2 with | mk ht es=>
  refine x81 (len8 ht) fun t5 t6 t7 t8 t9 t10 t11 t12 et=>?_
  rw [es,et]
  have hp:p.length < 5:=by rw [e] at hf;simp at hf;exact nl [_,_] [(.a N0 (.s N1),.n 5)] (.s N0) (.n 5) rfl hf
  rcases keys_turn (F:=.lst (fs.map fmD)) (line:=line) (p:=p) (x:=x) (t6:=t6) (t7:=t7) (t8:=t8) (t9:=t9) (t10:=t10) (t11:=t11) (t12:=t12) (g:=g) hp with ⟨h2,h3⟩ | ⟨h2,t',ht',h3⟩
  ·exact .inr ⟨.flt line,h3,rfl,.inl ⟨fun hn=>hn p x q e h2,rfl⟩⟩
  ·exact .inl ⟨_,h3,fun u y v e2=>dup_snoc h.1 h2 e2,⟨ht',rfl⟩⟩
 have hloop:ex t1 (.forL [5] (.var 0) fY) ⟨ksl (.lst (fs.map fmD)) line [] [none,none,none,none,none,none,none,none],g⟩=cr (fun d s=>(Res.ofOpt (bb s [5] d)).bind fun s1=>exs t1 fY s1) (fs.map fmD) ⟨ksl (.lst (fs.map fmD)) line [] [none,none,none,none,none,none,none,none],g⟩:=
  eJ (ad rfl) (by rw [List.length_map];exact lec ‹_› (by rfl))
 rcases lp _ hloop with ⟨h1,h2⟩ | ⟨h1,st,hs,h2⟩
 ·exact .inl ⟨h1,fH (f:=ir_formal_keys) rfl (ah (dT (i:=2) ao (am rfl)) (ah f9 (ah f9 (bp h2))))⟩
 ·cases hs with | mk ht es=>
  refine x81 (len8 ht) fun t5 t6 t7 t8 t9 t10 t11 t12 et=>?_
  rw [es,et] at h2
  have e:((ann fs).map fun a=>D.lst [.str a.2])=((ann fs).map fun a=>[D.lst [.str a.2]]).flatten:=by
   generalize ann fs=l
   induction l with
   | nil=>rfl
   | cons a r ih=>simp [ih]
  have hret: ∃ρ,exs t1 [.ret (.tup [(.compV [5,6] 2 [] (.fz 6)),(.fz 3),(.fz 4)])] ⟨ksl (.lst (fs.map fmD)) line fs [t5,t6,t7,t8,t9,t10,t11,t12],g⟩=.ok (.ret (keysD fs),⟨ρ,g⟩):=by
   unfold keysD
   rw [e]
   exact ⟨_,aW (bE (aF (af (E_compVp (emb:=bn) (xs:=ann fs) (h:=fun a=>[D.lst [.str a.2]]) rfl (by rw [bB];exact lec ‹_› (by rfl)) fun a ha=>⟨_,rfl,rfl,true,fD,fun _=>⟨_,jd rfl,rfl⟩,fun q=>by cases q⟩) (af (dM rfl) (af (dM rfl) ao))) (am rfl)))⟩
  obtain ⟨ρ,hret⟩:=hret
  exact .inr ⟨h1,bu (f:=ir_formal_keys) (st:=⟨ρ,g⟩) rfl (ah (dT (i:=2) ao (am rfl)) (ah f9 (ah f9 (ah h2 hret))))⟩
theorem wh_ok (w:Wh):PyData.strOk (whS w)=true:=by cases w <;> decide +kernel
theorem wh_inj {w w':Wh}(h:whS w=whS w'):w=w':=by
 have: ∀w w':Wh,whS w=whS w'→w=w':=by intro w w';cases w <;> cases w' <;> decide +kernel
 exact this w w' h
theorem eq_str {x y:Str}(hx:PyData.strOk x=true)(hy:PyData.strOk y=true):eqD (.str x) (.str y)=some (decide (x=y)):=by
 have e:(x==y)=decide (x=y):=by by_cases h:x=y <;> simp [h]
 exact (gE (a:=.str x) (b:=.str y) hx hy (Nat.zero_le _) (Nat.zero_le _)).trans (congrArg some e)
theorem choice_ok {w:Wh}{up:Bool}{line:Int}{g:G}:aG t0 ir_choice_name [chD w up,.int line] g=.ok (.str (whS w),g):=by
 cases w <;> cases up <;> kernel_rfl
noncomputable def b8 (fs:List Fm)(w:Wh):Nat:=(fs.filter fun f=>decide (nmW f.nm=w)).length
noncomputable def de (fs:List Fm)(i:Nat)(s:List (Str×Str)×Bool)(r:Rw):Option (List (Str×Str)×Bool):=match r.w with
 | none=>if s.2=true then none else match (ann fs)[i]? with
  | none=>none
  | some a=>if a.2∈s.1.map (·.1) then none else some (s.1++[(a.2,r.act)],s.2)
 | some w=>if b8 fs w=1 then (if whS w∈s.1.map (·.1) then none else some (s.1++[(whS w,r.act)],true)) else none
noncomputable def fdN (fs:List Fm)(rows:List Rw):Nat→Option (List (Str×Str)×Bool)
 | 0=>some ([],false)
 | i + 1=>(fdN fs rows i).bind fun s=>(rows[i]?).bind fun r=>de fs i s r
theorem fdN_s (fs:List Fm)(rows:List Rw)(i:Nat):fdN fs rows (i + 1)=(fdN fs rows i).bind fun s=>(rows[i]?).bind fun r=>de fs i s r:=rfl
theorem fdN_none {fs:List Fm}{rows:List Rw}{i n:Nat}(h:fdN fs rows i=none)(hn:i≤n):fdN fs rows n=none:=by
 induction n with
 | zero=>rw [Nat.le_zero.mp hn] at h;exact h
 | succ n ih=>
  by_cases q:i≤n
  ·rw [fdN_s,ih q];rfl
  ·have:i=n + 1:=by exact Nat.le_antisymm (nl [_,_] [(N0,.s N1)] N0 (.s N1) rfl hn) (nl [_,_] [(.s N0,N1)] (.s N0) N1 rfl (Nat.lt_of_not_le q))
   rw [←this];exact h
noncomputable def a9 (fd:List (Str×Str)):List (Str×D):=fd.map fun p=>(p.1,.tup [.str (so "actual"),aq p.2])
theorem eE (fd:List (Str×Str)):(a9 fd).map (·.1)=fd.map (·.1):=by unfold a9;rw [List.map_map];rfl
noncomputable def asD (r:Rw):D:=.tup [bH r,aq r.act]
noncomputable def msl (fs:List Fm)(rows:List Rw)(line:Int)(K:D)(fd:List (Str×Str))(b:Bool)(t6 t7:Option Slot)(t:List (Option Slot)):List (Option Slot):=
 some (.val (.lst (fs.map fmD)))::some (.val (.lst (rows.map asD)))::some (.val (.int line))::some (.val K)::some (.val (.dct (bF fs)))::some (.val (.dct (cJ fs)))::t6::t7::some (.val (.lst ((ann fs).map fun a=>.str a.2)))::some (.own (.dct (a9 fd)))::some (.val (.bool b))::t
noncomputable def m1Body:List S:=fm ((ir_match_formals.body[4]?).getD .dead)
noncomputable def m1In:List S:=fm ((m1Body[2]?).getD .dead)
theorem inFound {k:Str}{fd:List (Str×Str)}:inD (.str k) (.dct (a9 fd))=some (decide (k∈fd.map (·.1))):=by
 by_cases h:k∈fd.map (·.1)
 ·rw [jn (by rw [eE];exact h),decide_eq_true h]
 ·rw [fj (by rw [eE];exact h),decide_eq_false h]
theorem foundKV_put {k a:Str}{fd:List (Str×Str)}(h:k∉fd.map (·.1)):cz k (.tup [.str (so "actual"),aq a]) (a9 fd)=a9 (fd++[(k,a)]):=by
 rw [dZ (by rw [eE];exact h)];unfold a9;rw [List.map_append];rfl
theorem m1_in {fs:List Fm}{rows:List Rw}{line:Int}{K:D}{fd:List (Str×Str)}{b:Bool}{t6 t11 t15 t16:Option Slot}{r:Rw}{k:Str}{g:G}(hl:fd.length≤100)(hf:fs.length≤5)(hk:r.w≠none→ ∃w,r.w=some w∧k=whS w):
  exs t2 m1In ⟨msl fs rows line K fd b t6 (some (.val (.str k))) [t11,some (.val (bH r)),some (.val (aq r.act)),some (.val (.lst [.str k])),t15,t16],g⟩=
   if (∃w,r.w=some w∧b8 fs w≠1)∨k∈fd.map (·.1) then .flt line else .ok (.next,⟨msl fs rows line K (fd++[(k,r.act)]) b t6 (some (.val (.str k))) [t11,some (.val (bH r)),some (.val (aq r.act)),some (.val (.lst [.str k])),t15,t16],g⟩):=by
 have htest:ev t2 (.and [(.isNN (.var 12)),(.op .ne (.len (.compE [16] (.var 8) [(.op .eq (.ix (.var 4) (.var 16)) (.var 7))] (.var 16))) (.cst (.int 1)))])
   ⟨msl fs rows line K fd b t6 (some (.val (.str k))) [t11,some (.val (bH r)),some (.val (aq r.act)),some (.val (.lst [.str k])),t15,t16],g⟩=
   .ok (.bool (decide (∃w,r.w=some w∧b8 fs w≠1)),⟨msl fs rows line K fd b t6 (some (.val (.str k))) [t11,some (.val (bH r)),some (.val (aq r.act)),some (.val (.lst [.str k])),t15,t16],g⟩):=by
  cases hw:r.w with
  | none=>
   have e:bH r=.none:=by unfold bH;rw [hw]
   rw [decide_eq_false (by rintro ⟨w,h,_⟩;cases h),e]
   exact E_and (A_f (gM (a:=.none) (ad rfl)))
  | some w=>
   have e:bH r=.lst [chD w r.up]:=by unfold bH;rw [hw]
   obtain ⟨w',h1,h2⟩:=hk (by rw [hw];simp)
   rw [hw] at h1;cases h1;subst h2
   have hd:decide (∃w',some w=some w'∧b8 fs w'≠1)= !decide ((b8 fs w:Int)=1):=by
    by_cases q:b8 fs w=1
    ·rw [decide_eq_false (by rintro ⟨w',h,h'⟩;cases h;exact h' q)];simp [q]
    ·rw [decide_eq_true ⟨w,rfl,q⟩];simp;omega
   rw [hd,e]
   have hc:=cn (ft:=t2) (pat:=[16]) (src:=.var 8) (conds:=[(.op .eq (.ix (.var 4) (.var 16)) (.var 7))]) (elt:=.var 16) (emb:=fun a:Fm×Str=>D.str a.2) (xs:=ann fs) (h:=fun a=>if decide (nmW a.1.nm=w)=true then [D.str a.2] else [])
    (st:=⟨msl fs rows line K fd b t6 (some (.val (.str (whS w)))) [t11,some (.val (.lst [chD w r.up])),some (.val (aq r.act)),some (.val (.lst [.str (whS w)])),t15,t16],g⟩) (ad rfl) (by rw [bB];exact lec ‹_› (by rfl)) (fun a ha=>⟨_,rfl,rfl,decide (nmW a.1.nm=w),dY ?_,fun hq=>⟨.str a.2,ad rfl,if_pos hq⟩,fun hq=>if_neg (by rw [hq];simp)⟩)
   ·rw [dk] at hc
    have hlen:((ann fs).filter fun a=>decide (nmW a.1.nm=w)).length=b8 fs w:=by
     unfold b8
     conv=>rhs;rw [←eu fs,List.filter_map,List.length_map]
     rfl
    have hle:b8 fs w≤fs.length:=List.length_filter_le _ _
    exact E_and (A_t (gM (a:=.lst [chD w r.up]) (ad rfl)) (dY (bw (cM (n:=b8 fs w) hc (by simp only [da,List.length_map,hlen]) (by exact nl [_,_] [(N0,N1),(N1,.n 5)] N0 (.n 100000) rfl hle hf)) ag (eq_int _ _))))
   ·have e2:decide (nmS a.1.nm=whS w)=decide (nmW a.1.nm=w):=by
     by_cases q:nmW a.1.nm=w
     ·rw [decide_eq_true q,decide_eq_true (by rw [←q,fO])]
     ·rw [decide_eq_false q,decide_eq_false fun h=>q (wh_inj (by rw [fO];exact h))]
    rw [←e2]
    exact aV (ay (ad rfl) (ad rfl) (jy hf ha)) (ad rfl) (eq_str (i6 _) (wh_ok w))
 by_cases h1: ∃w,r.w=some w∧b8 fs w≠1
 ·rw [if_pos (.inl h1)]
  rw [decide_eq_true h1] at htest
  exact bp (aZ htest (bp (f8 (ad rfl))))
 ·rw [decide_eq_false h1] at htest
  by_cases h2:k∈fd.map (·.1)
  ·rw [if_pos (.inr h2)]
   refine ah (aD htest ar) (bp (aZ (E_inV (t:=true) (ad rfl) rfl ?_) (bp (f8 (ad rfl)))))
   rw [inFound,decide_eq_true h2]
  ·rw [if_neg (by rintro (h | h);exact h1 h;exact h2 h)]
   refine ah (aD htest ar) (ah (aD (E_inV (t:=false) (ad rfl) rfl ?_) ar) ?_)
   ·rw [inFound,decide_eq_false h2]
   ·unfold msl
    rw [←foundKV_put h2]
    exact ah (gL (aF (af ag (af (ad rfl) ao)) (am rfl)) rfl (ad rfl) rfl (by unfold a9;rw [List.length_map];exact lec ‹_› (by rfl))) ar
theorem ann_get {fs:List Fm}{i:Nat}(h:i < fs.length): ∃a,(ann fs)[i]? =some a:=⟨(ann fs)[i]'(by rw [bB];exact h),by simp⟩
theorem m1_turn {fs:List Fm}{rows:List Rw}{line:Int}{K:D}{fd:List (Str×Str)}{b:Bool}{t6 t7 t12 t13 t14 t15 t16:Option Slot}{i:Nat}{r:Rw}{g:G}(hl:fd.length≤100)(hf:fs.length≤5)(hi:rows[i]? =some r)(hr:i < 100):
  de fs i (fd,b) r=none∧exs t2 m1Body ⟨msl fs rows line K fd b t6 t7 [some (.val (.int i)),t12,t13,t14,t15,t16],g⟩=.flt line∨
  ∃fd' b' t,de fs i (fd,b) r=some (fd',b')∧t.length=6∧ ∃t7',exs t2 m1Body ⟨msl fs rows line K fd b t6 t7 [some (.val (.int i)),t12,t13,t14,t15,t16],g⟩=.ok (.next,⟨msl fs rows line K fd' b' t6 t7' t,g⟩):=by
 have s1:ex t2 (.tupA [12,13] (.ix (.var 1) (.var 11))) ⟨msl fs rows line K fd b t6 t7 [some (.val (.int i)),t12,t13,t14,t15,t16],g⟩=.ok (.next,⟨msl fs rows line K fd b t6 t7 [some (.val (.int i)),some (.val (bH r)),some (.val (aq r.act)),t14,t15,t16],g⟩):=
  dS (ay (ad rfl) (ad rfl) (ca hi (lec ‹_› (by rfl)))) rfl
 have last: ∀{k:Str} {b':Bool} {t7 t15 t16:Option Slot} {st0:St} {pre:List S},(r.w≠none→ ∃w,r.w=some w∧k=whS w)→
   (∀{q:List S} {R:Res (Fl×St)},exs t2 q ⟨msl fs rows line K fd b' t6 t7 [some (.val (.int i)),some (.val (bH r)),some (.val (aq r.act)),some (.val (.lst [.str k])),t15,t16],g⟩=R→exs t2 (pre++q) st0=R)→
   ((∃w,r.w=some w∧b8 fs w≠1)∨k∈fd.map (·.1))∧exs t2 (pre++[.forL [7] (.var 14) m1In]) st0=.flt line∨
   ¬((∃w,r.w=some w∧b8 fs w≠1)∨k∈fd.map (·.1))∧ ∃t7' t,t.length=6∧exs t2 (pre++[.forL [7] (.var 14) m1In]) st0=.ok (.next,⟨msl fs rows line K (fd++[(k,r.act)]) b' t6 t7' t,g⟩):=by
  intro k b' t7 t15 t16 st0 pre hk hpre
  have hm:=m1_in (rows:=rows) (line:=line) (K:=K) (fd:=fd) (b:=b') (t6:=t6) (t11:=some (.val (.int i))) (t15:=t15) (t16:=t16) (g:=g) hl hf hk
  have hfor:ex t2 (.forL [7] (.var 14) m1In) ⟨msl fs rows line K fd b' t6 t7 [some (.val (.int i)),some (.val (bH r)),some (.val (aq r.act)),some (.val (.lst [.str k])),t15,t16],g⟩=
   cr (fun d s=>(Res.ofOpt (bb s [7] d)).bind fun s1=>exs t2 m1In s1) [.str k] ⟨msl fs rows line K fd b' t6 t7 [some (.val (.int i)),some (.val (bH r)),some (.val (aq r.act)),some (.val (.lst [.str k])),t15,t16],g⟩:=eJ (ad rfl) (am rfl)
  by_cases hq:(∃w,r.w=some w∧b8 fs w≠1)∨k∈fd.map (·.1)
  ·rw [if_pos hq] at hm
   exact .inl ⟨hq,hpre (bp (hfor.trans (iD (R:=.flt line) hm rfl)))⟩
  ·rw [if_neg hq] at hm
   exact .inr ⟨hq,some (.val (.str k)),[some (.val (.int i)),some (.val (bH r)),some (.val (aq r.act)),some (.val (.lst [.str k])),t15,t16],rfl,hpre (ah (hfor.trans ((eT hm).trans rfl)) ar)⟩
 cases hw:r.w with
 | none=>
  have ec:bH r=.none:=by unfold bH;rw [hw]
  have ht: ∀{t14 t15 t16:Option Slot},ev t2 (.isN (.var 12)) ⟨msl fs rows line K fd b t6 t7 [some (.val (.int i)),some (.val (bH r)),some (.val (aq r.act)),t14,t15,t16],g⟩=.ok (.bool true,⟨msl fs rows line K fd b t6 t7 [some (.val (.int i)),some (.val (bH r)),some (.val (aq r.act)),t14,t15,t16],g⟩):=by
   intro _ _ _;rw [ec];exact eM (a:=.none) (ad rfl)
  cases b with
  | true=>exact .inl ⟨by unfold de;rw [hw];rfl,ah s1 (bp (aZ ht (bp (aZ (ad rfl) (bp (f8 (ad rfl)))))))⟩
  | false=>
   have hge: ∀{t14 t15 t16:Option Slot},ev t2 (.op .ge (.var 11) (.len (.var 8))) ⟨msl fs rows line K fd false t6 t7 [some (.val (.int i)),some (.val (bH r)),some (.val (aq r.act)),t14,t15,t16],g⟩=.ok (.bool (decide ((fs.length:Int)≤i)),⟨msl fs rows line K fd false t6 t7 [some (.val (.int i)),some (.val (bH r)),some (.val (aq r.act)),t14,t15,t16],g⟩):=
    bD (ad rfl) (cM (n:=fs.length) (ad rfl) (by simp only [da,List.length_map,bB]) (lec ‹_› (by rfl))) (op_ge _ _)
   by_cases hq:fs.length≤i
   ·refine .inl ⟨?_,?_⟩
    ·unfold de;rw [hw,List.getElem?_eq_none (by rw [bB];exact hq)];rfl
    ·rw [decide_eq_true (by exact Int.ofNat_le.2 ‹_›:(fs.length:Int)≤i)] at hge
     exact ah s1 (bp (aZ ht (ah (aD (ad rfl) ar) (bp (aZ hge (bp (f8 (ad rfl))))))))
   ·rw [decide_eq_false (by exact fun e=>nz [_,_] [(.s Z0,Z1),(Z1,Z0)] rfl (Int.ofNat_lt.2 (Nat.lt_of_not_le hq)) e: ¬(fs.length:Int)≤i)] at hge
    obtain ⟨a,ha⟩:=ann_get (fs:=fs) (i:=i) (Nat.lt_of_not_le ‹_›)
    have hix:ixD (.lst ((ann fs).map fun a=>D.str a.2)) (.int i)=some (.str a.2):=ca (f:=fun a:Fm×Str=>D.str a.2) ha (lec ‹_› (by rfl))
    rcases last (k:=a.2) (b':=false) (t7:=t7) (t15:=t15) (t16:=t16) (pre:=m1Body.take 2) (by rw [hw];exact fun h=>absurd rfl h)
     (fun {q R} hR=>ah s1 (ah (aZ ht (ah (aD (ad rfl) ar) (ah (aD hge ar) (ah (aB (i:=14) (cv (af (ay (ad rfl) (ad rfl) hix) ao) (am rfl))) ar)))) hR)) with ⟨h1,h2⟩ | ⟨h1,t7',t,h2,h3⟩
    ·refine .inl ⟨?_,h2⟩
     unfold de;rw [hw,ha]
     rcases h1 with ⟨w,h,_⟩ | h1
     ·rw [hw] at h;cases h
     ·simp [h1]
    ·refine .inr ⟨fd++[(a.2,r.act)],false,t,?_,h2,t7',h3⟩
     unfold de;rw [hw,ha]
     have:a.2∉fd.map (·.1):=fun h=>h1 (.inr h)
     simp only [Bool.false_eq_true,if_false,if_neg this]
 | some w=>
  have ec:bH r=.lst [chD w r.up]:=by unfold bH;rw [hw]
  have ht: ∀{t14 t15 t16:Option Slot},ev t2 (.isN (.var 12)) ⟨msl fs rows line K fd b t6 t7 [some (.val (.int i)),some (.val (bH r)),some (.val (aq r.act)),t14,t15,t16],g⟩=.ok (.bool false,⟨msl fs rows line K fd b t6 t7 [some (.val (.int i)),some (.val (bH r)),some (.val (aq r.act)),t14,t15,t16],g⟩):=by
   intro _ _ _;rw [ec];exact eM (a:=.lst [chD w r.up]) (ad rfl)
  have hc: ∀{b:Bool} {t14 t15 t16:Option Slot},ev t2 (.compE [15] (.var 12) [] (.call .choice_name [(.var 15),(.var 2)])) ⟨msl fs rows line K fd b t6 t7 [some (.val (.int i)),some (.val (bH r)),some (.val (aq r.act)),t14,t15,t16],g⟩=
    .ok (.lst [.str (whS w)],⟨msl fs rows line K fd b t6 t7 [some (.val (.int i)),some (.val (bH r)),some (.val (aq r.act)),t14,t15,t16],g⟩):=by
   intro b t14 t15 t16
   rw [ec]
   exact cn (ft:=t2) (emb:=fun u:Bool=>chD w u) (xs:=[r.up]) (h:=fun _=>[.str (whS w)]) (ad rfl) (am rfl) (fun u hu=>⟨_,rfl,rfl,true,fD,fun _=>⟨_,bt (af (ad rfl) (af (ad rfl) ao)) choice_ok,rfl⟩,fun q=>by cases q⟩)
  rcases last (k:=whS w) (b':=true) (t7:=t7) (t15:=t15) (t16:=t16) (pre:=m1Body.take 2) (fun _=>⟨w,hw,rfl⟩)
   (fun {q R} hR=>ah s1 (ah (aD ht (ah (aB (i:=10) ag) (ah (aB (i:=14) hc) ar))) hR)) with ⟨h1,h2⟩ | ⟨h1,t7',t,h2,h3⟩
  ·refine .inl ⟨?_,h2⟩
   unfold de;rw [hw]
   rcases h1 with ⟨w',h,h'⟩ | h1
   ·rw [hw] at h;cases h;simp [h']
   ·simp [h1]
  ·refine .inr ⟨fd++[(whS w,r.act)],true,t,?_,h2,t7',h3⟩
   unfold de;rw [hw]
   have hn1:b8 fs w=1:=Decidable.byContradiction fun h=>h1 (.inl ⟨w,hw,h⟩)
   have:whS w∉fd.map (·.1):=fun h=>h1 (.inr h)
   simp only [hn1,if_true,if_neg this]
theorem fstep_len {fs:List Fm}{i:Nat}{s s':List (Str×Str)×Bool}{r:Rw}(h:de fs i s r=some s'):s'.1.length=s.1.length + 1:=by
 unfold de at h
 split at h
 ·split at h
  ·cases h
  ·split at h
   ·cases h
   ·split at h
    ·cases h
    ·cases h;simp
 ·split at h
  ·split at h
   ·cases h
   ·cases h;simp
  ·cases h
theorem fdN_len {fs:List Fm}{rows:List Rw}: ∀{i:Nat} {s:List (Str×Str)×Bool},fdN fs rows i=some s→s.1.length=i
 | 0,s,h=>by cases h;rfl
 | i + 1,s,h=>by
  refine x12 (Option.bind_eq_some_iff.mp h) fun s1 h1 h2=>?_
  refine x12 (Option.bind_eq_some_iff.mp h2) fun r h3 h4=>?_
  rw [fstep_len h4,fdN_len h1]
theorem len6 {α:Type}{t:List α}(h:t.length=6): ∃a b c d e f,t=[a,b,c,d,e,f]:=by
 apply bK h;intro a v h;apply bK h;intro b v h;apply bK h;intro c v h;apply bK h;intro d v h;apply bK h;intro e v h;apply bK h;intro f v h;apply jA h;exact ⟨a,b,c,d,e,f,rfl⟩
theorem range_split {n:Nat}{p q:List Nat}{x:Nat}(h:List.range n=p++x::q):x=p.length∧p.length < n:=by
 have h1:(List.range n)[p.length]? =some x:=by rw [h];simp
 rw [List.getElem?_eq_some_iff] at h1
 refine x11 h1 fun h2 h3=>?_
 simp at h2 h3
 exact ⟨h3.symm,h2⟩
inductive M1St (fs:List Fm)(rows:List Rw)(line:Int)(K:D)(t6:Option Slot)(g:G)(n:Nat)(st:St):Prop
 | mk {fd:List (Str×Str)} {b:Bool} {t7:Option Slot} {t:List (Option Slot)} (h1:fdN fs rows n=some (fd,b)) (h2:t.length=6) (e:st=⟨msl fs rows line K fd b t6 t7 t,g⟩)
theorem m1_loop {fs:List Fm}{rows:List Rw}{line:Int}{K:D}{t6 t7:Option Slot}{g:G}(hf:fs.length≤5)(hr:rows.length≤50):
  fdN fs rows rows.length=none∧ex t2 (.forR 11 (.len (.var 1)) m1Body) ⟨msl fs rows line K [] false t6 t7 [none,none,none,none,none,none],g⟩=.flt line∨
  ∃st,M1St fs rows line K t6 g rows.length st∧ex t2 (.forR 11 (.len (.var 1)) m1Body) ⟨msl fs rows line K [] false t6 t7 [none,none,none,none,none,none],g⟩=.ok (.next,st):=by
 rw [X_forR (n:=rows.length) (s1:=⟨msl fs rows line K [] false t6 t7 [none,none,none,none,none,none],g⟩) (cM (ad rfl) (by simp only [da,List.length_map]) (lec ‹_› (by rfl))) (lec ‹_› (by rfl))]
 refine cA (emb:=fun i:Nat=>D.int i) (fun p st=>M1St fs rows line K t6 g p.length st)
  (fun R=>fdN fs rows rows.length=none∧R=.flt line∨ ∃st,M1St fs rows line K t6 g rows.length st∧R=.ok (.next,st)) (fun p x q st e h=>?_) (fun st h=>.inr ⟨st,List.length_range (n:=rows.length)▸h,rfl⟩) ⟨rfl,rfl,rfl⟩
 cases h with | mk h1 h2 es=>
 rename_i fd b t7' t
 refine x02 (range_split e) fun ex hp=>?_
 have hget:rows[p.length]? =some rows[p.length]:=List.getElem?_eq_getElem hp
 have hfl:fd.length=p.length:=fdN_len h1
 obtain ⟨t11,t12,t13,t14,t15,t16,et⟩:=len6 h2
 rw [es,et,ex]
 rcases m1_turn (line:=line) (K:=K) (fd:=fd) (b:=b) (t6:=t6) (t7:=t7') (t12:=t12) (t13:=t13) (t14:=t14) (t15:=t15) (t16:=t16) (g:=g) (by exact nl [_,_,_] [(N0,N1),(.s N1,N2),(N2,.n 50)] N0 (.n 100) rfl (Nat.le_of_eq hfl) hp hr) hf hget (by exact nl [_,_] [(.s N0,N1),(N1,.n 50)] (.s N0) (.n 100) rfl hp hr) with ⟨h3,h4⟩ | ⟨fd',b',t',h3,h4,t7'',h5⟩
 ·refine .inr ⟨.flt line,h4,rfl,.inl ⟨fdN_none (i:=p.length + 1) ?_ hp,rfl⟩⟩
  rw [fdN_s,h1,hget];exact h3
 ·refine .inl ⟨_,h5,⟨?_,h4,rfl⟩⟩
  rw [List.length_append]
  show fdN fs rows (p.length + 1)=_
  rw [fdN_s,h1,hget];exact h3
noncomputable def mdD:Df→D
 | .box=>.tup [.str (so "box")]
 | d=>.tup [.str (so "default"),dfD d]
noncomputable def bg (fd:List (Str×Str))(l:List (Fm×Str)):List (Str×D):=(l.filter fun a=> !decide (a.2∈fd.map (·.1))).map fun a=>(a.2,mdD a.1.df)
noncomputable def eQ (fs:List Fm)(rows:List Rw)(line:Int)(K:D)(kvs:List (Str×D))(t6 t7:Option Slot)(b:Bool)(t:List (Option Slot)):List (Option Slot):=
 some (.val (.lst (fs.map fmD)))::some (.val (.lst (rows.map asD)))::some (.val (.int line))::some (.val K)::some (.val (.dct (bF fs)))::some (.val (.dct (cJ fs)))::t6::t7::some (.val (.lst ((ann fs).map fun a=>.str a.2)))::some (.own (.dct kvs))::some (.val (.bool b))::t
noncomputable def m2Body:List S:=fm ((ir_match_formals.body[5]?).getD .dead)
theorem df_box {d:Df}:eqD (dfD d) (.str (so "box"))=some (decide (d=.box)):=by cases d <;> kernel_rfl
theorem m2_turn {fs:List Fm}{rows:List Rw}{line:Int}{K:D}{fd:List (Str×Str)}{kvs:List (Str×D)}{b:Bool}{t6:Option Slot}{t:List (Option Slot)}{a:Fm×Str}{g:G}(hf:fs.length≤5)(ha:a∈ann fs)(hl:kvs.length≤100)(hk:a.2∈kvs.map (·.1)↔a.2∈fd.map (·.1)):
  exs t2 m2Body ⟨eQ fs rows line K kvs t6 (some (.val (.str a.2))) b t,g⟩=if a.2∉fd.map (·.1)∧a.1.df=.none then .flt line else
   .ok (.next,⟨eQ fs rows line K (kvs++bg fd [a]) t6 (some (.val (.str a.2))) b t,g⟩):=by
 by_cases h1:a.2∈fd.map (·.1)
 ·rw [if_neg (fun h=>h.1 h1)]
  have:bg fd [a]=[]:=by unfold bg;rw [List.filter_cons];simp only [h1,decide_true,Bool.not_true];rfl
  rw [this,List.append_nil]
  exact ah (aD (E_ninV (t:=true) (ad rfl) rfl (jn (hk.mpr h1))) ar) ar
 ·have hn:a.2∉kvs.map (·.1):=fun h=>h1 (hk.mp h)
  have hd:=dfs_at hf ha
  have hix: ∀{t7:Option Slot},ev t2 (.ix (.var 5) (.var 7)) ⟨eQ fs rows line K kvs t6 (some (.val (.str a.2))) b t,g⟩=.ok (dfD a.1.df,⟨eQ fs rows line K kvs t6 (some (.val (.str a.2))) b t,g⟩):=fun {t7}=>ay (ad rfl) (ad rfl) hd
  by_cases h2:a.1.df=.none
  ·rw [if_pos ⟨h1,h2⟩]
   rw [h2] at hix
   exact bp (aZ (E_ninV (t:=false) (ad rfl) rfl (fj hn)) (bp (aZ (eM (a:=.none) (hix (t7:=none))) (bp (f8 (ad rfl))))))
  ·rw [if_neg (fun h=>h2 h.2)]
   have er:bg fd [a]=[(a.2,mdD a.1.df)]:=by unfold bg;rw [List.filter_cons];simp only [h1,decide_false,Bool.not_false,if_true];rfl
   have e2:cg (dfD a.1.df)=false:=by
    cases hq:a.1.df with
    | none=>exact absurd hq h2
    | box=>rfl
    | other=>rfl
   have hv:ev t2 (.ite (.op .eq (.ix (.var 5) (.var 7)) (.cst (.str (so "box")))) (.tup [(.cst (.str (so "box")))]) (.tup [(.cst (.str (so "default"))),(.ix (.var 5) (.var 7))])) ⟨eQ fs rows line K kvs t6 (some (.val (.str a.2))) b t,g⟩=
     .ok (mdD a.1.df,⟨eQ fs rows line K kvs t6 (some (.val (.str a.2))) b t,g⟩):=by
    refine E_ite (aV (hix (t7:=none)) ag df_box) (fun hq=>?_) fun hq=>?_
    ·have:a.1.df=.box:=by simpa using hq
     rw [this];exact aF (af ag ao) (am rfl)
    ·have hb:a.1.df≠ .box:=by simpa using hq
     have:mdD a.1.df=.tup [.str (so "default"),dfD a.1.df]:=by
      cases hq2:a.1.df with
      | none=>rfl
      | box=>exact absurd hq2 hb
      | other=>rfl
     rw [this]
     exact aF (af ag (af (hix (t7:=none)) ao)) (am rfl)
   rw [er,←dZ hn]
   refine ah (aZ (E_ninV (t:=false) (ad rfl) rfl (fj hn)) (ah (aD ?_ ar) (ah (gL hv rfl (ad rfl) rfl (lec ‹_› (by rfl))) ar))) ar
   have:=eM (hix (t7:=none))
   rwa [e2] at this
theorem restKV_append (fd:List (Str×Str))(p q:List (Fm×Str)):bg fd (p++q)=bg fd p++bg fd q:=by unfold bg;rw [List.filter_append,List.map_append]
theorem restKV_keys {fd:List (Str×Str)}{p:List (Fm×Str)}{k:Str}(h:k∈(bg fd p).map (·.1)):k∈p.map (·.2)∧k∉fd.map (·.1):=by
 unfold bg at h
 rw [List.map_map] at h
 obtain ⟨a,ha,rfl⟩:=List.mem_map.mp h
 obtain ⟨h1,h2⟩:=List.mem_filter.mp ha
 exact ⟨List.mem_map_of_mem h1,by simpa using h2⟩
theorem m2_loop {fs:List Fm}{rows:List Rw}{line:Int}{K:D}{fd:List (Str×Str)}{b:Bool}{t6 t7:Option Slot}{t:List (Option Slot)}{g:G}(hf:fs.length≤5)(hl:fd.length≤50):
  (∃a∈ann fs,a.2∉fd.map (·.1)∧a.1.df=.none)∧ex t2 (.forL [7] (.var 8) m2Body) ⟨eQ fs rows line K (a9 fd) t6 t7 b t,g⟩=.flt line∨
  (∀a∈ann fs,¬(a.2∉fd.map (·.1)∧a.1.df=.none))∧ ∃t7',ex t2 (.forL [7] (.var 8) m2Body) ⟨eQ fs rows line K (a9 fd) t6 t7 b t,g⟩=.ok (.next,⟨eQ fs rows line K (a9 fd++bg fd (ann fs)) t6 t7' b t,g⟩):=by
 rw [eJ (ds:=(ann fs).map fun a=>.str a.2) (s1:=⟨eQ fs rows line K (a9 fd) t6 t7 b t,g⟩) (ad rfl) (by rw [List.length_map,bB];exact lec ‹_› (by rfl))]
 refine cA (emb:=fun a:Fm×Str=>D.str a.2) (fun p st=>(∀a∈p,¬(a.2∉fd.map (·.1)∧a.1.df=.none))∧ ∃t7',st=⟨eQ fs rows line K (a9 fd++bg fd p) t6 t7' b t,g⟩)
  (fun R=>(∃a∈ann fs,a.2∉fd.map (·.1)∧a.1.df=.none)∧R=.flt line∨(∀a∈ann fs,¬(a.2∉fd.map (·.1)∧a.1.df=.none))∧ ∃t7',R=.ok (.next,⟨eQ fs rows line K (a9 fd++bg fd (ann fs)) t6 t7' b t,g⟩)) ?_ (fun st h=>?_) ⟨(fun _ h=>by cases h),t7,?_⟩
 ·rintro p a q st e ⟨h1,t7',rfl⟩
  have ha:a∈ann fs:=by rw [e];simp
  have hnd:=fv hf
  have hkey:a.2∈(a9 fd++bg fd p).map (·.1)↔a.2∈fd.map (·.1):=by
   rw [List.map_append,List.mem_append,eE]
   refine ⟨fun h=>h.elim id fun h=>?_,.inl⟩
   refine x02 (restKV_keys h) fun h2 _=>?_
   rw [e,List.map_append,List.map_cons,List.nodup_append] at hnd
   exact absurd rfl (hnd.2.2 _ h2 _ List.mem_cons_self)
  have hlen:(a9 fd++bg fd p).length≤100:=by
   have h2:p.length≤(ann fs).length:=by rw [e];simp
   rw [bB] at h2
   have h3:(bg fd p).length≤p.length:=by unfold bg;rw [List.length_map];exact List.length_filter_le _ _
   have h4:(a9 fd).length=fd.length:=by unfold a9;rw [List.length_map]
   rw [List.length_append];exact nl [_,_,_,_,_] [(N0,N1),(N2,N3),(N3,N4),(N1,.n 50),(N4,.n 5)] (.a N0 N2) (.n 100) rfl (Nat.le_of_eq h4) h3 h2 hl hf
  have ht:=m2_turn (rows:=rows) (line:=line) (K:=K) (fd:=fd) (b:=b) (t6:=t6) (t:=t) (g:=g) hf ha hlen hkey
  by_cases hq:a.2∉fd.map (·.1)∧a.1.df=.none
  ·rw [if_pos hq] at ht
   exact .inr ⟨.flt line,ht,rfl,.inl ⟨⟨a,ha,hq⟩,rfl⟩⟩
  ·rw [if_neg hq] at ht
   refine .inl ⟨_,ht,fun c hc=>?_,some (.val (.str a.2)),?_⟩
   ·rcases List.mem_append.mp hc with hc | hc
    ·exact h1 c hc
    ·rw [List.mem_singleton.mp hc];exact hq
   ·rw [restKV_append,List.append_assoc]
 ·obtain ⟨h1,t7',rfl⟩:=h
  exact .inr ⟨h1,t7',rfl⟩
 ·show _=(⟨eQ fs rows line K (a9 fd++[]) t6 t7 b t,g⟩:St)
  rw [List.append_nil]
noncomputable def dq (fs:List Fm)(rows:List Rw)(fd:List (Str×Str)):Prop:=dh fs∧(∃b,fdN fs rows rows.length=some (fd,b))∧ ∀a∈ann fs,¬(a.2∉fd.map (·.1)∧a.1.df=.none)
theorem flat_keys (l:List (Fm×Str)):gT (l.map fun a=>.lst [.str a.2])=some (l.map fun a=>.str a.2):=by
 induction l with
 | nil=>rfl
 | cons a r ih=>exact (congrArg (Option.map ([D.str a.2]++ ·)) ih)
theorem match_ok {fs:List Fm}{rows:List Rw}{line:Int}{g:G}(hf:fs.length≤5)(hr:rows.length≤50):
  (∃fd,dq fs rows fd∧aG t2 ir_match_formals [.lst (fs.map fmD),.lst (rows.map asD),.int line] g=.ok (.dct (a9 fd++bg fd (ann fs)),g))∨
  (¬ ∃fd,dq fs rows fd)∧aG t2 ir_match_formals [.lst (fs.map fmD),.lst (rows.map asD),.int line] g=.flt line:=by
 rcases keys_ok (line:=line) (g:=g) hf with ⟨h1,h2⟩ | ⟨h1,h2⟩
 ·refine .inr ⟨fun ⟨fd,h,_⟩=>h1 h,fH (f:=ir_match_formals) rfl (bp ?_)⟩
  exact bindX (E_callX (f:=.formal_keys) (af (ad rfl) (af (ad rfl) ao)) h2)
 ·have s1:ex t2 (.tupA [3,4,5] (.call .formal_keys [.var 0,.var 2])) ⟨[some (.val (.lst (fs.map fmD))),some (.val (.lst (rows.map asD))),some (.val (.int line)),none,none,none,none,none,none,none,none,none,none,none,none,none,none],g⟩=
   .ok (.next,⟨[some (.val (.lst (fs.map fmD))),some (.val (.lst (rows.map asD))),some (.val (.int line)),some (.val (.lst ((ann fs).map fun a=>.lst [.str a.2]))),some (.val (.dct (bF fs))),some (.val (.dct (cJ fs))),none,none,none,none,none,none,none,none,none,none,none],g⟩):=
   dS (bt (af (ad rfl) (af (ad rfl) ao)) h2) rfl
  have s2:ex t2 (.assign 8 (.comp2 6 (.var 3) 7)) ⟨[some (.val (.lst (fs.map fmD))),some (.val (.lst (rows.map asD))),some (.val (.int line)),some (.val (.lst ((ann fs).map fun a=>.lst [.str a.2]))),some (.val (.dct (bF fs))),some (.val (.dct (cJ fs))),none,none,none,none,none,none,none,none,none,none,none],g⟩=
   .ok (.next,⟨[some (.val (.lst (fs.map fmD))),some (.val (.lst (rows.map asD))),some (.val (.int line)),some (.val (.lst ((ann fs).map fun a=>.lst [.str a.2]))),some (.val (.dct (bF fs))),some (.val (.dct (cJ fs))),none,none,some (.val (.lst ((ann fs).map fun a=>.str a.2))),none,none,none,none,none,none,none,none],g⟩):=
   aB (i:=8) (E_comp2 (ad rfl) (by rw [List.length_map,bB];exact lec ‹_› (by rfl)) (flat_keys _))
  rcases m1_loop (fs:=fs) (rows:=rows) (line:=line) (K:=.lst ((ann fs).map fun a=>.lst [.str a.2])) (t6:=none) (t7:=none) (g:=g) hf hr with ⟨h3,h4⟩ | ⟨st,h,h5⟩
  ·exact .inr ⟨(fun ⟨fd,_,⟨b,h⟩,_⟩=>by rw [h3] at h;cases h),fH (f:=ir_match_formals) rfl (ah s1 (ah s2 (ah f9 (ah (aB (i:=10) ag) (bp h4)))))⟩
  ·cases h with | mk h3 h4 es=>
   rename_i fd b t7' t
   rw [es] at h5
   have hfl:fd.length=rows.length:=fdN_len h3
   rcases m2_loop (fs:=fs) (rows:=rows) (line:=line) (K:=.lst ((ann fs).map fun a=>.lst [.str a.2])) (fd:=fd) (b:=b) (t6:=none) (t7:=t7') (t:=t) (g:=g) hf (by exact nl [_,_] [(N0,N1),(N1,.n 50)] N0 (.n 50) rfl (Nat.le_of_eq hfl) hr) with ⟨⟨a,h6,h7⟩,h8⟩ | ⟨h6,t7'',h8⟩
   ·refine .inr ⟨fun ⟨fd',_,⟨b',h⟩,h'⟩=>?_,fH (f:=ir_match_formals) rfl (ah s1 (ah s2 (ah f9 (ah (aB (i:=10) ag) (ah h5 (bp h8))))))⟩
    rw [h3] at h;cases h
    exact h' a h6 h7
   ·exact .inl ⟨fd,⟨h1,⟨b,h3⟩,h6⟩,bu (f:=ir_match_formals) (st:=⟨_,g⟩) rfl (ah s1 (ah s2 (ah f9 (ah (aB (i:=10) ag) (ah h5 (ah h8 (aW (bE (dM rfl)))))))))⟩
noncomputable def actOf (fd:List (Str×Str))(a:Fm×Str):D:=match fd.find? (fun p=>decide (p.1=a.2)) with
 | some p=>.tup [.str (so "actual"),aq p.2]
 | none=>mdD a.1.df
theorem found_at {fs:List Fm}{fd:List (Str×Str)}(hf:fs.length≤5){a:Fm×Str}(ha:a∈ann fs):aX a.2 (a9 fd++bg fd (ann fs))=some (actOf fd a):=by
 have key: ∀(l:List (Str×Str)) (r:List (Str×D)),aX a.2 (a9 l++r)=match l.find? (fun p=>decide (p.1=a.2)) with
   | some p=>some (.tup [.str (so "actual"),aq p.2])
   | none=>aX a.2 r:=by
  intro l r
  induction l with
  | nil=>rfl
  | cons p l ih=>
   show (if a.2=p.1 then some (D.tup [.str (so "actual"),aq p.2]) else aX a.2 (a9 l++r))=_
   rw [List.find?_cons]
   by_cases q:a.2=p.1
   ·rw [if_pos q];simp [q]
   ·rw [if_neg q,decide_eq_false fun e=>q e.symm];exact ih
 rw [key]
 unfold actOf
 cases hq:fd.find? (fun p=>decide (p.1=a.2)) with
 | some p=>rfl
 | none=>
  have hn:a.2∉fd.map (·.1):=fun h=>by
   refine x12 (List.mem_map.mp h) fun p hp e=>?_
   have:=List.find?_eq_none.mp hq p hp
   simp [e] at this
  refine c6 ?_ ?_
  ·have h1:((bg fd (ann fs)).map (·.1))=((ann fs).filter fun a=> !decide (a.2∈fd.map (·.1))).map (·.2):=by unfold bg;rw [List.map_map];rfl
   rw [h1]
   exact List.Nodup.sublist (List.Sublist.map _ List.filter_sublist) (fv hf)
  ·exact List.mem_map_of_mem (f:=fun a:Fm×Str=>(a.2,mdD a.1.df)) (List.mem_filter.mpr ⟨ha,by simpa using hn⟩)
noncomputable def Uns (us:List Rw):Prop:= ∀u∈us,u.w=none
noncomputable def Nmd (ns:List Rw):Prop:= ∀n∈ns,∃w,n.w=some w
noncomputable def FU (fs:List Fm)(us:List Rw):List (Str×Str):=((ann fs).zip us).map fun q=>(q.1.2,q.2.act)
noncomputable def FN (ns:List Rw):List (Str×Str):=ns.map fun n=>(meS n,n.act)
noncomputable def gn (fs:List Fm)(ns:List Rw):Prop:= ∀n∈ns,∀w,n.w=some w→b8 fs w=1
theorem zip_snoc {α β:Type}: ∀{l:List α} {us:List β} {a:α} {r:β},l[us.length]? =some a→l.zip (us++[r])=l.zip us++[(a,r)]
 | [],us,a,r,h=>by simp at h
 | x::l,[],a,r,h=>by simp at h;subst h;simp
 | x::l,u::us,a,r,h=>by
  simp only [List.length_cons,List.getElem?_cons_succ] at h
  simp only [List.cons_append,List.zip_cons_cons]
  rw [zip_snoc h]
theorem h9 {α β:Type}: ∀(l:List α) (us:List β) (k:Nat),(l.zip (us.take k)).Sublist (l.zip us)
 | [],us,k=>by simp
 | x::l,[],k=>by simp
 | x::l,u::us,0=>by simp
 | x::l,u::us,k + 1=>by
  simp only [List.take_succ_cons,List.zip_cons_cons]
  exact (h9 l us k).cons_cons _
theorem FU_snoc {fs:List Fm}{us:List Rw}{a:Fm×Str}{r:Rw}(h:(ann fs)[us.length]? =some a):FU fs (us++[r])=FU fs us++[(a.2,r.act)]:=by
 unfold FU;rw [zip_snoc h,List.map_append];rfl
structure Split (fs:List Fm)(rows us ns:List Rw)(fd:List (Str×Str)):Prop where
 eq:rows=us++ns
 un:Uns us
 nm:Nmd ns
 le:us.length≤fs.length
 cnt:gn fs ns
 fdE:fd=FU fs us++FN ns
 nd:(fd.map (·.1)).Nodup
theorem nodup_snoc {l:List Str}{x:Str}(h:l.Nodup)(hx:x∉l):(l++[x]).Nodup:=by
 rw [List.nodup_append]
 refine ⟨h,by simp,fun a ha b hb=>?_⟩
 rw [List.mem_singleton.mp hb]
 rintro rfl;exact hx ha
theorem fd_fwd {fs:List Fm}{rows:List Rw}: ∀{i:Nat} {fd:List (Str×Str)} {b:Bool},i≤rows.length→fdN fs rows i=some (fd,b)→ ∃us ns,Split fs (rows.take i) us ns fd∧b= !ns.isEmpty
 | 0,fd,b,_,h=>by cases h;exact ⟨[],[],⟨by simp,(fun _ h=>by cases h),(fun _ h=>by cases h),Nat.zero_le _,(fun _ h=>by cases h),by unfold FU FN;simp,List.nodup_nil⟩,rfl⟩
 | i + 1,fd,b,hi,h=>by
  obtain ⟨⟨fd0,b0⟩,h1,h2⟩:=Option.bind_eq_some_iff.mp h
  refine x12 (Option.bind_eq_some_iff.mp h2) fun r h3 h4=>?_
  obtain ⟨us,ns,⟨e1,u1,n1,l1,c1,f1,d1⟩,hb⟩:=fd_fwd (Nat.le_of_lt ‹_›) h1
  have ht:rows.take (i + 1)=rows.take i++[r]:=by rw [List.take_add_one,h3];rfl
  have hl:us.length + ns.length=i:=by have:=congrArg List.length e1;simp at this;omega
  unfold de at h4
  cases hw:r.w with
  | none=>
   rw [hw] at h4
   simp only at h4
   cases b0 with
   | true=>simp at h4
   | false=>
    simp only [Bool.false_eq_true,if_false] at h4
    have hns:ns=[]:=by cases ns with | nil=>rfl | cons a r=>simp at hb
    subst hns
    cases ha:(ann fs)[i]? with
    | none=>rw [ha] at h4;cases h4
    | some a=>
     rw [ha] at h4
     simp only at h4
     split at h4
     ·cases h4
     ·rename_i hnew
      simp only [Option.some.injEq,Prod.mk.injEq] at h4
      obtain ⟨rfl,rfl⟩:=h4
      simp only [List.length_nil,Nat.add_zero] at hl
      rw [←hl] at ha
      have hlt:us.length < fs.length:=by rw [←bB fs];exact (List.getElem?_eq_some_iff.mp ha).1
      refine ⟨us++[r],[],⟨by rw [ht,e1];simp,fun u hu=>?_,n1,by simp;assumption,c1,?_,?_⟩,rfl⟩
      ·rcases List.mem_append.mp hu with hu | hu
       ·exact u1 u hu
       ·rw [List.mem_singleton.mp hu];exact hw
      ·rw [FU_snoc ha,f1];unfold FN;simp
      ·rw [List.map_append];exact nodup_snoc d1 hnew
  | some w=>
   rw [hw] at h4
   simp only at h4
   split at h4
   ·rename_i hc
    split at h4
    ·cases h4
    ·rename_i hnew
     simp only [Option.some.injEq,Prod.mk.injEq] at h4
     obtain ⟨rfl,rfl⟩:=h4
     have em:meS r=whS w:=by unfold meS;rw [hw]
     refine ⟨us,ns++[r],⟨by rw [ht,e1];simp,u1,fun n hn=>?_,l1,fun n hn w' hw'=>?_,?_,?_⟩,by simp⟩
     ·rcases List.mem_append.mp hn with hn | hn
      ·exact n1 n hn
      ·rw [List.mem_singleton.mp hn];exact ⟨w,hw⟩
     ·rcases List.mem_append.mp hn with hn | hn
      ·exact c1 n hn w' hw'
      ·rw [List.mem_singleton.mp hn,hw] at hw';cases hw';exact hc
     ·rw [f1];unfold FN;rw [List.map_append,List.append_assoc];simp [em]
     ·rw [List.map_append];exact nodup_snoc d1 hnew
   ·cases h4
theorem fd_bwdU {fs:List Fm}{us ns:List Rw}(hu:Uns us)(hl:us.length≤fs.length)(hd:((FU fs us).map (·.1)).Nodup): ∀{i:Nat},i≤us.length→fdN fs (us++ns) i=some (FU fs (us.take i),false)
 | 0,_=>by show some ([],false)=_;unfold FU;simp
 | i + 1,hi=>by
  rw [fdN_s,fd_bwdU hu hl hd (i:=i) (Nat.le_of_lt ‹_›)]
  have hget:(us++ns)[i]? =some us[i]:=by rw [List.getElem?_append_left (by assumption)];simp
  rw [hget]
  simp only [Option.bind_some]
  unfold de
  have hw:us[i].w=none:=hu _ (List.getElem_mem ..)
  rw [hw]
  simp only [Bool.false_eq_true,if_false]
  obtain ⟨a,ha⟩:=ann_get (fs:=fs) (i:=i) (Nat.lt_of_lt_of_le ‹_› ‹_›)
  rw [ha]
  have hlen:(us.take i).length=i:=by rw [List.length_take];omega
  have hs:FU fs (us.take (i + 1))=FU fs (us.take i)++[(a.2,us[i].act)]:=by
   have:us.take (i + 1)=us.take i++[us[i]]:=by rw [List.take_add_one,List.getElem?_eq_getElem (by assumption)];rfl
   rw [this];exact FU_snoc (by rw [hlen];exact ha)
  have hsub:((FU fs (us.take (i + 1))).map (·.1)).Nodup:=by
   refine List.Nodup.sublist (List.Sublist.map _ ?_) hd
   unfold FU
   refine List.Sublist.map _ ?_
   exact h9 _ _ _
  rw [hs,List.map_append,List.nodup_append] at hsub
  have hnew:a.2∉(FU fs (us.take i)).map (·.1):=fun h=>hsub.2.2 _ h a.2 (by simp) rfl
  simp only [if_neg hnew,hs]
theorem fd_bwd {fs:List Fm}{us ns:List Rw}(hu:Uns us)(hn:Nmd ns)(hl:us.length≤fs.length)(hc:gn fs ns)(hd:((FU fs us++FN ns).map (·.1)).Nodup): ∀{j:Nat},j≤ns.length→ ∃b,fdN fs (us++ns) (us.length + j)=some (FU fs us++FN (ns.take j),b)
 | 0,_=>by
  refine ⟨false,?_⟩
  have h1:((FU fs us).map (·.1)).Nodup:=by rw [List.map_append,List.nodup_append] at hd;exact hd.1
  have:=fd_bwdU (ns:=ns) hu hl h1 (Nat.le_refl us.length)
  rw [List.take_length] at this
  rw [Nat.add_zero,this];unfold FN;simp
 | j + 1,hj=>by
  obtain ⟨b,ih⟩:=fd_bwd hu hn hl hc hd (j:=j) (Nat.le_of_lt ‹_›)
  refine ⟨true,?_⟩
  show fdN fs (us++ns) (us.length + j + 1)=_
  rw [fdN_s]
  have hget:(us++ns)[us.length + j]? =some ns[j]:=by rw [List.getElem?_append_right (Nat.le_add_right _ _),Nat.add_sub_cancel_left];simp
  rw [ih,hget]
  simp only [Option.bind_some]
  obtain ⟨w,hw⟩:=hn _ (List.getElem_mem (l:=ns) (n:=j) (by assumption))
  have hc1:=hc _ (List.getElem_mem (l:=ns) (n:=j) (by assumption)) w hw
  have em:meS ns[j]=whS w:=by unfold meS;rw [hw]
  have ht:ns.take (j + 1)=ns.take j++[ns[j]]:=by rw [List.take_add_one,List.getElem?_eq_getElem (by assumption)];rfl
  have hs:FU fs us++FN (ns.take (j + 1))=(FU fs us++FN (ns.take j))++[(whS w,ns[j].act)]:=by
   rw [ht];unfold FN;rw [List.map_append,List.append_assoc];simp [em]
  have hsub:((FU fs us++FN (ns.take (j + 1))).map (·.1)).Nodup:=by
   refine List.Nodup.sublist (List.Sublist.map _ (List.Sublist.append_left ?_ _)) hd
   unfold FN;exact List.Sublist.map _ (List.take_sublist _ _)
  rw [hs,List.map_append,List.nodup_append] at hsub
  have hnew:whS w∉(FU fs us++FN (ns.take j)).map (·.1):=fun h=>hsub.2.2 _ h (whS w) (by simp) rfl
  unfold de
  rw [hw]
  simp only [hc1,if_true,if_neg hnew,hs]
theorem nmW_inj {n n':Nm}(h:nmW n=nmW n'):n=n':=by cases n <;> cases n' <;> first | rfl | cases h
noncomputable def bX (us ns:List Rw)(i:Nat)(f:Fm):List Str:=(us[i]?).toList.map (·.act)++(ns.filter fun n=>decide (n.w=some (nmW f.nm))).map (·.act)
theorem key_wh {n:Nm}{c:Nat}{w:Wh}(h:c≤5)(e:eU n c=whS w):w=nmW n:=by
 have h': ∀(n:Nm) (c:Fin 6) (w:Wh),eU n c=whS w→w=nmW n:=by
  intro n c w
  revert c
  cases n <;> cases w <;> decide +kernel
 exact h' n ⟨c,Nat.lt_succ_of_le ‹_›⟩ w e
theorem cntW_split {p q:List Fm}{x:Fm}:dp p x.nm + 1≤b8 (p++x::q) (nmW x.nm):=by
 unfold dp b8
 rw [List.filter_append,List.filter_cons,List.length_append]
 simp only [decide_true,if_true,List.length_cons]
 have:(p.filter fun y=>decide (y.nm=x.nm)).length≤(p.filter fun y=>decide (nmW y.nm=nmW x.nm)).length:=by
  have e:(fun y:Fm=>decide (y.nm=x.nm))=fun y=>decide (nmW y.nm=nmW x.nm):=by
   funext y
   by_cases h:y.nm=x.nm
   ·simp [h]
   ·rw [decide_eq_false h,decide_eq_false fun e=>h (nmW_inj e)]
  rw [e];exact Nat.le_refl _
 exact nl [_,_,_] [(N0,N1)] (.s N0) (.a N1 (.s N2)) rfl this
theorem wh_key {fs:List Fm}{a:Fm×Str}{w:Wh}(hf:fs.length≤5)(ha:a∈ann fs)(hc:b8 fs w=1):whS w=a.2↔w=nmW a.1.nm:=by
 refine x22 (ann_mem ha) fun p q e1 e2=>?_
 have hp:p.length≤fs.length:=by rw [e1];simp
 have hc2:=gH p a.1.nm
 constructor
 ·intro h;rw [e2] at h;exact key_wh (by exact nl [_,_,_] [(N0,N1),(N1,N2),(N2,.n 5)] N0 (.n 5) rfl hc2 hp hf) h.symm
 ·rintro rfl
  have:=cntW_split (p:=p) (q:=q) (x:=a.1)
  rw [←e1,hc] at this
  rw [e2];unfold ck
  have z:dp p a.1.nm=0:=by exact Nat.le_antisymm (nl [_] [(.s N0,.n 1)] N0 (.n 0) rfl this) (nl [_] [] (.n 0) N0 rfl)
  rw [z,fO];rfl
theorem FU_filter: ∀{l:List (Fm×Str)} {us:List Rw} {i:Nat} {a:Fm×Str},(l.map (·.2)).Nodup→l[i]? =some a→(((l.zip us).map fun q=>(q.1.2,q.2.act)).filter fun p=>decide (p.1=a.2)).map (·.2)=(us[i]?).toList.map (·.act)
 | [],us,i,a,_,h=>by simp at h
 | x::l,[],i,a,_,h=>by simp
 | x::l,u::us,0,a,hn,h=>by
  simp only [List.getElem?_cons_zero,Option.some.injEq] at h
  subst h
  simp only [List.map_cons,List.nodup_cons] at hn
  simp only [List.zip_cons_cons,List.map_cons,List.filter_cons,decide_true,if_true,List.getElem?_cons_zero,Option.toList_some,List.map_nil]
  have:((l.zip us).map fun q=>(q.1.2,q.2.act)).filter (fun p=>decide (p.1=x.2))=[]:=by
   rw [List.filter_eq_nil_iff]
   intro p hp
   obtain ⟨q,hq,rfl⟩:=List.mem_map.mp hp
   have:=(List.of_mem_zip hq).1
   simp only [decide_eq_true_eq]
   intro e
   exact hn.1 (e▸List.mem_map_of_mem this)
  rw [this];rfl
 | x::l,u::us,i + 1,a,hn,h=>by
  simp only [List.getElem?_cons_succ] at h
  simp only [List.map_cons,List.nodup_cons] at hn
  have hne:x.2≠a.2:=fun e=>hn.1 (e▸List.mem_map_of_mem (List.mem_of_getElem? h))
  simp only [List.zip_cons_cons,List.map_cons,List.filter_cons,decide_eq_false hne,Bool.false_eq_true,if_false,List.getElem?_cons_succ]
  exact FU_filter hn.2 h
theorem iY {fs:List Fm}{us ns:List Rw}{i:Nat}{a:Fm×Str}(hf:fs.length≤5)(hn:Nmd ns)(hc:gn fs ns)(ha:(ann fs)[i]? =some a):
  ((FU fs us++FN ns).filter fun p=>decide (p.1=a.2)).map (·.2)=bX us ns i a.1:=by
 rw [List.filter_append,List.map_append]
 unfold bX
 congr 1
 ·exact FU_filter (fv hf) ha
 ·unfold FN
  rw [List.filter_map,List.map_map]
  have:(ns.filter ((fun p:Str×Str=>decide (p.1=a.2))∘fun n=>(meS n,n.act)))=ns.filter fun n=>decide (n.w=some (nmW a.1.nm)):=by
   refine List.filter_congr fun n h=>?_
   obtain ⟨w,hw⟩:=hn n h
   have em:meS n=whS w:=by unfold meS;rw [hw]
   have:=wh_key hf (List.mem_of_getElem? ha) (hc n h w hw)
   show decide (meS n=a.2)=decide (n.w=some (nmW a.1.nm))
   rw [em,hw]
   by_cases q:w=nmW a.1.nm
   ·rw [decide_eq_true (this.mpr q),decide_eq_true (by rw [q])]
   ·rw [decide_eq_false fun e=>q (this.mp e),decide_eq_false fun e=>q (Option.some.inj e)]
  rw [this];rfl
noncomputable def Each (fs:List Fm)(us ns:List Rw):Prop:= ∀(i:Nat) (a:Fm×Str),(ann fs)[i]? =some a→(bX us ns i a.1).length≤1∧(bX us ns i a.1=[]→a.1.df≠ .none)
theorem keys_of {fs:List Fm}{us ns:List Rw}(hf:fs.length≤5)(hn:Nmd ns)(hc:gn fs ns){k:Str}(hk:k∈(FU fs us++FN ns).map (·.1)): ∃(i:Nat) (a:Fm×Str),(ann fs)[i]? =some a∧a.2=k:=by
 rw [List.map_append,List.mem_append] at hk
 rcases hk with hk | hk
 ·unfold FU at hk
  rw [List.map_map] at hk
  obtain ⟨q,hq,rfl⟩:=List.mem_map.mp hk
  refine x11 (List.mem_iff_getElem?.mp (List.of_mem_zip hq).1) fun i hi=>?_
  exact ⟨i,_,hi,rfl⟩
 ·unfold FN at hk
  rw [List.map_map] at hk
  obtain ⟨n,h,rfl⟩:=List.mem_map.mp hk
  refine x11 (hn n h) fun w hw=>?_
  have em:meS n=whS w:=by unfold meS;rw [hw]
  have h1:=hc n h w hw
  have: ∃f,f∈fs∧nmW f.nm=w:=by
   unfold b8 at h1
   cases hq:fs.filter (fun f=>decide (nmW f.nm=w)) with
   | nil=>rw [hq] at h1;cases h1
   | cons f r=>
    have:f∈fs.filter (fun f=>decide (nmW f.nm=w)):=by rw [hq];exact List.mem_cons_self
    refine x02 (List.mem_filter.mp this) fun h2 h3=>?_
    exact ⟨f,h2,by simpa using h3⟩
  refine x12 this fun f h2 h3=>?_
  rw [←eu fs] at h2
  obtain ⟨a,h4,rfl⟩:=List.mem_map.mp h2
  refine x11 (List.mem_iff_getElem?.mp h4) fun i hi=>?_
  exact ⟨i,a,hi,by show a.2=meS n;rw [em];exact ((wh_key hf h4 h1).mpr h3.symm).symm⟩
theorem jp (F:List (Str×Str))(k:Str):((F.map (·.1)).filter fun x=>x==k).length=((F.filter fun p=>decide (p.1=k)).map (·.2)).length:=by
 rw [List.filter_map,List.length_map,List.length_map]
 have:(F.filter ((fun x=>x==k)∘fun x=>x.1))=F.filter fun p=>decide (p.1=k):=by
  refine List.filter_congr fun p _=>?_
  show (p.1==k)=decide (p.1=k)
  by_cases h:p.1=k <;> simp [h]
 rw [this]
theorem jz (F:List (Str×Str))(k:Str):k∈F.map (·.1)↔((F.filter fun p=>decide (p.1=k)).map (·.2))≠[]:=by
 constructor
 ·intro h
  obtain ⟨p,hp,rfl⟩:=List.mem_map.mp h
  intro e
  have:=List.mem_map_of_mem (f:=(·.2)) (List.mem_filter.mpr ⟨hp,by simp⟩:p∈F.filter fun q=>decide (q.1=p.1))
  rw [e] at this;cases this
 ·intro h
  cases hq:F.filter (fun p=>decide (p.1=k)) with
  | nil=>rw [hq] at h;exact absurd rfl h
  | cons p r=>
   have:p∈F.filter (fun p=>decide (p.1=k)):=by rw [hq];exact List.mem_cons_self
   refine x02 (List.mem_filter.mp this) fun h2 h3=>?_
   exact List.mem_map.mpr ⟨p,h2,by simpa using h3⟩
theorem good_of_each {fs:List Fm}{us ns:List Rw}(hf:fs.length≤5)(h0:dh fs)(hu:Uns us)(hn:Nmd ns)(hl:us.length≤fs.length)(hc:gn fs ns)(h:Each fs us ns):dq fs (us++ns) (FU fs us++FN ns):=by
 have hnd:((FU fs us++FN ns).map (·.1)).Nodup:=by
  rw [List.nodup_iff_count]
  intro k
  rw [List.count_eq_length_filter,jp]
  by_cases hk:k∈(FU fs us++FN ns).map (·.1)
  ·obtain ⟨i,a,ha,rfl⟩:=keys_of hf hn hc hk
   rw [iY hf hn hc ha]
   exact (h i a ha).1
  ·have:=mt (jz _ _).mpr hk
   simp only [ne_eq,Decidable.not_not] at this
   rw [this];exact Nat.zero_le _
 obtain ⟨b,hb⟩:=fd_bwd hu hn hl hc hnd (Nat.le_refl ns.length)
 rw [List.take_length] at hb
 refine ⟨h0,⟨b,by rw [List.length_append];exact hb⟩,fun a ha hq=>?_⟩
 obtain ⟨i,hi⟩:=List.mem_iff_getElem?.mp ha
 refine (h i a hi).2 ?_ hq.2
 rw [←iY hf hn hc hi]
 exact Decidable.byContradiction fun e=>hq.1 ((jz _ _).mpr e)
theorem dU {fs:List Fm}{rows:List Rw}{fd:List (Str×Str)}(h:dq fs rows fd): ∃us ns,Split fs rows us ns fd:=by
 obtain ⟨_,⟨b,hb⟩,_⟩:=h
 refine x22 (fd_fwd (Nat.le_refl _) hb) fun us ns hs _=>?_
 rw [List.take_length] at hs
 exact ⟨us,ns,hs⟩
theorem each_of_good {fs:List Fm}{rows us ns:List Rw}{fd:List (Str×Str)}(hf:fs.length≤5)(h:dq fs rows fd)(s:Split fs rows us ns fd):Each fs us ns:=by
 intro i a ha
 rw [←iY hf s.nm s.cnt ha,←s.fdE]
 refine ⟨?_,fun e hd=>h.2.2 a (List.mem_of_getElem? ha) ⟨fun hk=>(jz _ _).mp hk e,hd⟩⟩
 rw [←jp,←List.count_eq_length_filter]
 exact List.nodup_iff_count.mp s.nd _
theorem act_told {fs:List Fm}{rows us ns:List Rw}{fd:List (Str×Str)}{i:Nat}{a:Fm×Str}(hf:fs.length≤5)(s:Split fs rows us ns fd)(ha:(ann fs)[i]? =some a):
  (fd.find? fun p=>decide (p.1=a.2)).map (·.2)=(bX us ns i a.1).head?:=by
 rw [←iY hf s.nm s.cnt ha,←s.fdE,List.head?_map,List.head?_filter]
noncomputable def opN:Nm→D
 | .minus=>.tup [.str (so "string"),.str (so "-")]
 | .mod=>.tup [.str (so "string"),.str (so "mod")]
 | .pick=>aq (so "pick")
noncomputable def laidD (d:D):D:=.tup [.str (so "laid"),d]
noncomputable def duD (t:List Str)(f:Fm):D:=match t.head? with
 | some a=>laidD (aq a)
 | none=>match f.df with
  | .box=>laidD (opN f.nm)
  | d=>.tup [.str (so "within"),dfD d]
theorem gS {α:Type}(f:α→D)(xs:List α):(xs.map fun x=>[f x]).flatten=xs.map f:=by
 induction xs with
 | nil=>rfl
 | cons x r ih=>simp [ih]
theorem fZ: ∀(a:List Nat),D.cmpOks (a.map fun i:Nat=>D.int i)=true∧D.depths (a.map fun i:Nat=>D.int i)=0
 | []=>⟨rfl,rfl⟩
 | x::r=>by
  refine x02 (fZ r) fun h1 h2=>?_
  exact ⟨Bool.and_eq_true_iff.2 ⟨rfl,h1⟩,congrArg (max 0 ·) h2⟩
theorem ints_beq: ∀(a b:List Nat),D.beqs (a.map fun i:Nat=>D.int i) (b.map fun i:Nat=>D.int i)=decide (a=b)
 | [],[]=>rfl
 | [],_::_=>rfl
 | _::_,[]=>rfl
 | x::r,y::t=>by
  show ((x:Int)==(y:Int)&&D.beqs (r.map _) (t.map _))=_
  rw [ints_beq r t]
  by_cases h:x=y
  ·subst h;by_cases h2:r=t <;> simp [h2]
  ·have: ¬((x:Int)=y):=fun e=>h (Int.ofNat.inj e)
   simp [h,this]
theorem ints_eq (a b:List Nat):eqD (.lst (a.map fun i:Nat=>D.int i)) (.lst (b.map fun i:Nat=>D.int i))=some (decide (a=b)):=by
 exact (gE (a:=.lst (a.map fun i:Nat=>D.int i)) (b:=.lst (b.map fun i:Nat=>D.int i)) (fZ a).1 (fZ b).1 (by show D.depths _ + 1≤8;rw [(fZ a).2];decide) (by show D.depths _ + 1≤8;rw [(fZ b).2];decide)).trans (congrArg some (ints_beq a b))
noncomputable def plB (rows:List Rw)(i:Nat):Bool:=match rows[i]? with
 | some r=>r.w.isNone
 | none=>false
noncomputable def plc (rows:List Rw):List Nat:=(List.range rows.length).filter (plB rows)
theorem range_filter (n p:Nat)(h:p≤n):(List.range n).filter (fun i=>decide (i < p))=List.range p:=by
 induction n with
 | zero=>rw [Nat.le_zero.mp h];rfl
 | succ n ih=>
  rw [List.range_succ,List.filter_append]
  by_cases q:p≤n
  ·rw [ih q];simp;assumption
  ·have e:p=n + 1:=by exact Nat.le_antisymm (nl [_,_] [(N0,.s N1)] N0 (.s N1) rfl h) (nl [_,_] [(.s N0,N1)] (.s N0) N1 rfl (Nat.lt_of_not_le q))
   subst e
   have:(List.range n).filter (fun i=>decide (i < n + 1))=List.range n:=by
    rw [List.filter_eq_self]
    intro i hi
    have:=List.mem_range.mp hi
    simp;exact Nat.lt_succ_of_lt ‹_›
   rw [this,List.range_succ];simp
theorem ik {rows us ns:List Rw}(e:rows=us++ns)(hu:Uns us)(hn:Nmd ns):plc rows=List.range us.length:=by
 subst e
 unfold plc
 rw [←range_filter (us++ns).length us.length (by simp)]
 refine List.filter_congr fun i hi=>?_
 have hi:=List.mem_range.mp hi
 unfold plB
 by_cases q:i < us.length
 ·rw [List.getElem?_append_left q,List.getElem?_eq_getElem q,decide_eq_true q]
  simp only [hu _ (List.getElem_mem q)];rfl
 ·have hj:i - us.length < ns.length:=by simp at hi;omega
  rw [List.getElem?_append_right (Nat.le_of_not_lt ‹_›),List.getElem?_eq_getElem hj,decide_eq_false q]
  refine x11 (hn _ (List.getElem_mem hj)) fun w hw=>?_
  simp only [hw];rfl
theorem split_plc {rows:List Rw}(h:plc rows=List.range (plc rows).length):Uns (rows.take (plc rows).length)∧Nmd (rows.drop (plc rows).length)∧(plc rows).length≤rows.length:=by
 have hle:(plc rows).length≤rows.length:=by unfold plc;exact Nat.le_trans (List.length_filter_le _ _) (by simp)
 have mem: ∀i,i < rows.length→(i < (plc rows).length↔plB rows i=true):=fun i hi=>by
  have h1:i∈plc rows↔plB rows i=true:=by
   unfold plc;rw [List.mem_filter,List.mem_range];exact ⟨fun q=>q.2,fun q=>⟨hi,q⟩⟩
  rw [←h1]
  conv=>rhs;rw [h]
  exact List.mem_range.symm
 refine ⟨fun u hu=>?_,fun n hn=>?_,hle⟩
 ·obtain ⟨i,hi⟩:=List.mem_iff_getElem?.mp hu
  rw [List.getElem?_take] at hi
  split at hi
  ·rename_i q
   have hlt:=(List.getElem?_eq_some_iff.mp hi).1
   have:=(mem i hlt).mp q
   unfold plB at this
   rw [hi] at this
   simpa using this
  ·cases hi
 ·obtain ⟨i,hi⟩:=List.mem_iff_getElem?.mp hn
  rw [List.getElem?_drop] at hi
  have hlt:=(List.getElem?_eq_some_iff.mp hi).1
  have:=mt (mem _ hlt).mpr (by exact fun e=>nf [_,_] [(.s (.a N0 N1),N0)] rfl e)
  unfold plB at this
  rw [hi] at this
  cases hw:n.w with
  | none=>simp only [hw] at this;exact absurd rfl this
  | some w=>exact ⟨w,rfl⟩
noncomputable def nkD (f:Fm):D:=.tup [.str (nmS f.nm),.str (kdS f)]
theorem kd_same (f f':Fm):(kdS f==kdS f')=bO f f':=by
 have h:=gr (f:=fun p g=>allPm.all fun p'=>allGv.all fun g'=>(kdS ⟨0,.minus,p,g,.none⟩==kdS ⟨0,.minus,p',g',.none⟩)==bO ⟨0,.minus,p,g,.none⟩ ⟨0,.minus,p',g',.none⟩) (by decide +kernel) f.pm f.gv
 exact eq_of_beq (gr h f'.pm f'.gv)
theorem nk_beq (f f':Fm):(nkD f).beq (nkD f')=(decide (f.nm=f'.nm)&&bO f f'):=by
 show ((nmS f.nm==nmS f'.nm)&&((kdS f==kdS f')&&true))=_
 rw [kd_same,Bool.and_true]
 by_cases h:f.nm=f'.nm
 ·rw [h];simp
 ·have:(nmS f.nm==nmS f'.nm)=false:=by
   rw [beq_eq_false_iff_ne];exact fun e=>h (nm_inj e)
  rw [this,decide_eq_false h,Bool.false_and]
theorem fw (l:List D)(x:D):aR (l++[x])=if (aR l).any (x.beq ·) then aR l else aR l++[x]:=by
 unfold aR;rw [List.foldl_append];rfl
theorem jq: ∀(n:Nat) (fs:List Fm),fs.length=n→(aR (fs.map nkD)).length≤fs.length∧((aR (fs.map nkD)).length=fs.length→dh fs∧aR (fs.map nkD)=fs.map nkD)∧(dh fs→aR (fs.map nkD)=fs.map nkD)
 | 0,fs,h=>by
  rw [List.length_eq_zero_iff.mp h]
  exact ⟨Nat.le_refl _,(fun _=>⟨fun p x q e=>by simp at e,rfl⟩),fun _=>rfl⟩
 | n + 1,fs,h=>by
  obtain ⟨p,x,rfl⟩: ∃p x,fs=p++[x]:=⟨fs.dropLast,fs.getLast (by intro q;rw [q] at h;cases h),(List.dropLast_concat_getLast _).symm⟩
  have hp:p.length=n:=by simpa using h
  refine x03 (jq n p hp) fun i1 i2 i3=>?_
  have hsub:dh (p++[x])→dh p:=fun hn a b c e=>hn a b (c++[x]) (by rw [e];simp)
  rw [List.map_append,List.map_cons,List.map_nil,fw,List.length_append,List.length_cons,List.length_nil]
  have any_dup:aR (p.map nkD)=p.map nkD→((aR (p.map nkD)).any ((nkD x).beq ·)=true↔eF p x):=fun e=>by
   rw [e,List.any_eq_true]
   constructor
   ·rintro ⟨d,hd,hb⟩
    obtain ⟨y,hy,rfl⟩:=List.mem_map.mp hd
    rw [nk_beq] at hb
    simp only [Bool.and_eq_true,decide_eq_true_eq] at hb
    exact ⟨y,hy,hb.1.symm,hb.2⟩
   ·rintro ⟨y,hy,h1,h2⟩
    exact ⟨nkD y,List.mem_map_of_mem hy,by rw [nk_beq,h1,h2];simp⟩
  have nd:dh p→ ¬eF p x→dh (p++[x]):=fun h1 h2 u y v e=>by
   rcases List.append_eq_append_iff.mp e with ⟨w,e3,e4⟩ | ⟨w,e3,e4⟩
   ·cases w with
    | nil=>rw [List.nil_append] at e4;cases e4;rw [e3,List.append_nil];exact h2
    | cons z w=>
     simp only [List.cons_append,List.cons.injEq] at e4
     have:=congrArg List.length e4.2;simp at this
   ·cases w with
    | nil=>simp only [List.nil_append] at e4;cases e4;rw [List.append_nil] at e3;subst e3;exact h2
    | cons z w=>
     simp only [List.cons_append,List.cons.injEq] at e4
     obtain ⟨rfl,rfl⟩:=e4
     exact h1 u y w e3
  refine ⟨?_,fun hl=>?_,fun hn=>?_⟩
  ·split
   ·exact Nat.le_succ_of_le ‹_›
   ·rw [List.length_append,List.length_cons,List.length_nil];exact Nat.lt_succ_of_le ‹_›
  ·split at hl
   ·omega
   ·rename_i hq
    rw [List.length_append,List.length_cons,List.length_nil] at hl
    obtain ⟨n1,e1⟩:=i2 (by exact Nat.le_antisymm (nl [_,_] [(.s N0,.s N1)] N0 N1 rfl (Nat.le_of_eq hl)) (nl [_,_] [(.s N0,.s N1)] N0 N1 rfl (Nat.le_of_eq hl.symm)))
    have n2: ¬eF p x:=fun hd=>hq ((any_dup e1).mpr hd)
    refine ⟨nd n1 n2,?_⟩
    rw [if_neg hq,e1]
  ·have n1:=hsub hn
   have e1:=i3 n1
   have n2:=hn p x [] rfl
   rw [if_neg (fun h=>n2 ((any_dup e1).mp h)),e1]
noncomputable def fsL (fs:List Fm):D:=.lst (fs.map fmD)
noncomputable def nsL (fs:List Fm):D:=.lst (fs.map fun f=>.str (nmS f.nm))
noncomputable def kdL (fs:List Fm):D:=.lst (fs.map fun f=>.str (kdS f))
noncomputable def rwL (rows:List Rw):D:=.lst (rows.map rwD)
noncomputable def plL (rows:List Rw):D:=.lst ((plc rows).map fun i:Nat=>.int i)
noncomputable def dsl (fs:List Fm)(rows:List Rw)(t3:Option Slot)(t5:Option Slot)(t:List (Option Slot)):List (Option Slot):=
 some (.val (fsL fs))::some (.val (kdL fs))::some (.val (rwL rows))::t3::some (.val (nsL fs))::t5::some (.val (plL rows))::t
theorem nk_at {fs:List Fm}{i:Nat}{f:Fm}(h:fs[i]? =some f)(hi:i < 1000):ixD (nsL fs) (.int i)=some (.str (nmS f.nm)):=ca (f:=fun f:Fm=>D.str (nmS f.nm)) h (lec ‹_› (by rfl))
theorem kd_at {fs:List Fm}{i:Nat}{f:Fm}(h:fs[i]? =some f)(hi:i < 1000):ixD (kdL fs) (.int i)=some (.str (kdS f)):=ca (f:=fun f:Fm=>D.str (kdS f)) h (lec ‹_› (by rfl))
theorem due_s1 {fs:List Fm}{rows:List Rw}{t:List (Option Slot)}{g:G}(hf:fs.length≤5):
  ex t0 (.assign 4 (.compE [3] (.var 0) [] (.ix (.ix (.var 3) (.cst (.int 2))) (.cst (.int 1))))) ⟨some (.val (fsL fs))::some (.val (kdL fs))::some (.val (rwL rows))::none::none::t,g⟩=
   .ok (.next,⟨some (.val (fsL fs))::some (.val (kdL fs))::some (.val (rwL rows))::none::some (.val (nsL fs))::t,g⟩):=by
 have:=cn (ft:=t0) (pat:=[3]) (src:=.var 0) (conds:=[]) (elt:=.ix (.ix (.var 3) (.cst (.int 2))) (.cst (.int 1))) (emb:=fmD) (xs:=fs) (h:=fun f=>[D.str (nmS f.nm)]) (st:=⟨some (.val (fsL fs))::some (.val (kdL fs))::some (.val (rwL rows))::none::none::t,g⟩)
  (ad rfl) (lec ‹_› (by rfl)) (fun f _=>⟨_,rfl,rfl,true,fD,fun _=>⟨_,ay (ay (ad rfl) ag ix2) ag ix1,rfl⟩,fun q=>by cases q⟩)
 rw [gS] at this
 exact aB (i:=4) this
theorem due_s2 {fs:List Fm}{rows:List Rw}{t:List (Option Slot)}{g:G}(hr:rows.length≤50):
  ex t0 (.assign 6 (.compR 5 (.len (.var 2)) [(.isN (.ix (.ix (.var 2) (.var 5)) (.cst (.int 0))))] (.var 5))) ⟨some (.val (fsL fs))::some (.val (kdL fs))::some (.val (rwL rows))::none::some (.val (nsL fs))::none::none::t,g⟩=
   .ok (.next,⟨dsl fs rows none none t,g⟩):=by
 have:=E_compRp (ft:=t0) (v:=5) (src:=.len (.var 2)) (conds:=[(.isN (.ix (.ix (.var 2) (.var 5)) (.cst (.int 0))))]) (elt:=.var 5) (n:=rows.length) (h:=fun i=>if plB rows i=true then [D.int i] else []) (st:=⟨some (.val (fsL fs))::some (.val (kdL fs))::some (.val (rwL rows))::none::some (.val (nsL fs))::none::none::t,g⟩)
  (cM (ad rfl) (by exact congrArg some (List.length_map _)) (lec ‹_› (by rfl))) (lec ‹_› (by rfl)) (fun i hi=>⟨plB rows i,dY ?_,fun hq=>⟨_,ad rfl,if_pos hq⟩,fun hq=>if_neg (by rw [hq];simp)⟩)
 ·rw [dk] at this
  exact aB (i:=6) this
 ·obtain ⟨r,hget⟩: ∃r,rows[i]? =some r:=⟨rows[i],by simp⟩
  have e:plB rows i=cg (bH r):=by
   unfold plB
   rw [hget]
   show r.w.isNone=cg (match r.w with | none=>.none | some w=>.lst [chD w r.up])
   cases r.w <;> rfl
  rw [e]
  exact eM (ay (ay (ad rfl) (ad rfl) (ca (f:=rwD) hget (by exact nl [_,_] [(.s N0,N1),(N1,.n 50)] (.s N0) (.n 100000) rfl hi hr))) ag ix0)
theorem due_s3 {fs:List Fm}{rows:List Rw}{t3 t5:Option Slot}{t:List (Option Slot)}{g:G}(hf:fs.length≤5)(hp:(plc rows).length≤50):
  ev t0 (.or [(.op .ne (.var 6) (.listR (.len (.var 6)))),(.op .gt (.len (.var 6)) (.len (.var 4)))]) ⟨dsl fs rows t3 t5 t,g⟩=
   .ok (.bool (!decide (plc rows=List.range (plc rows).length)||decide ((fs.length:Int) < (plc rows).length)),⟨dsl fs rows t3 t5 t,g⟩):=by
 have hlen:ev t0 (.len (.var 6)) ⟨dsl fs rows t3 t5 t,g⟩=.ok (.int (plc rows).length,⟨dsl fs rows t3 t5 t,g⟩):=cM (ad rfl) (by exact congrArg some (List.length_map _)) (lec ‹_› (by rfl))
 have hne:ev t0 (.op .ne (.var 6) (.listR (.len (.var 6)))) ⟨dsl fs rows t3 t5 t,g⟩=.ok (.bool (!decide (plc rows=List.range (plc rows).length)),⟨dsl fs rows t3 t5 t,g⟩):=by
  refine bw (a:=plL rows) (b:=.lst ((List.range (plc rows).length).map fun i:Nat=>.int i)) (ad rfl) ?_ (ints_eq _ _)
  have:=E_listR hlen (by simp [c9];exact Int.ofNat_le.2 (Nat.le_trans ‹_› (by decide)))
  simpa only [cP,Int.toNat_natCast] using this
 exact eZ (R_b hne fun _=>R_one (bD hlen (cM (n:=fs.length) (ad rfl) (by exact congrArg some (List.length_map _)) (lec ‹_› (by rfl))) (op_gt _ _)))
noncomputable def atD {α:Type}(f:α→D)(xs:List α)(i:Nat):D:=match xs[i]? with
 | some x=>f x
 | none=>.none
theorem range_get {α:Type}(f:α→D)(xs:List α):(List.range xs.length).map (atD f xs)=xs.map f:=by
 refine List.ext_getElem? fun i=>?_
 rw [List.getElem?_map,List.getElem?_map]
 by_cases h:i < xs.length
 ·rw [List.getElem?_range h,List.getElem?_eq_getElem h];simp [atD,List.getElem?_eq_getElem h]
 ·rw [List.getElem?_eq_none (by simp;exact Nat.le_of_not_lt ‹_›),List.getElem?_eq_none (Nat.le_of_not_lt ‹_›)];rfl
theorem due_s4 {fs:List Fm}{rows:List Rw}{t3 t5:Option Slot}{t:List (Option Slot)}{g:G}(hf:fs.length≤5):
  ev t0 (.op .lt (.lenDC 5 (.len (.var 4)) (.tup [(.ix (.var 4) (.var 5)),(.ix (.var 1) (.var 5))]) (.cst (.int 1))) (.len (.var 4))) ⟨dsl fs rows t3 t5 t,g⟩=
   .ok (.bool (decide (((aR (fs.map nkD)).length:Int) < fs.length)),⟨dsl fs rows t3 t5 t,g⟩):=by
 have hlen:ev t0 (.len (.var 4)) ⟨dsl fs rows t3 t5 t,g⟩=.ok (.int fs.length,⟨dsl fs rows t3 t5 t,g⟩):=cM (ad rfl) (by exact congrArg some (List.length_map _)) (lec ‹_› (by rfl))
 have:=E_lenDC (ft:=t0) (v:=5) (src:=.len (.var 4)) (k:=.tup [(.ix (.var 4) (.var 5)),(.ix (.var 1) (.var 5))]) (e:=.cst (.int 1)) (n:=fs.length) (h:=atD nkD fs) (st:=⟨dsl fs rows t3 t5 t,g⟩) hlen (lec ‹_› (by rfl)) (fun i hi=>?_)
 ·rw [range_get] at this
  exact bD this hlen (op_lt _ _)
 ·have hget:fs[i]? =some fs[i]:=by simp
  refine ⟨nkD fs[i],_,.int 1,_,aF (af (ay (ad rfl) (ad rfl) (nk_at hget (by exact nl [_,_] [(.s N0,N1),(N1,.n 5)] (.s N0) (.n 1000) rfl hi hf))) (af (ay (ad rfl) (ad rfl) (kd_at hget (by exact nl [_,_] [(.s N0,N1),(N1,.n 5)] (.s N0) (.n 1000) rfl hi hf))) ao)) (am rfl),ag,rfl,?_⟩
  unfold atD;rw [hget];rfl
theorem sliceD_drop {xs:List D}{p:Nat}(h:p≤xs.length)(hx:xs.length≤1000):co (.lst xs) (some p) none=some (.lst (xs.drop p)):=by
 unfold co
 simp only
 rw [if_pos (lec ‹_› (by rfl))]
 refine congrArg (fun x=>some (D.lst x)) ?_
 show ((xs.drop (clipAt xs.length (p:Nat))).take (xs.length - clipAt xs.length (p:Nat)))=_
 rw [clipAt_nat,Nat.min_eq_left h]
 exact List.take_of_length_le (by rw [List.length_drop];exact Nat.le_refl _)
theorem due_rest {fs:List Fm}{rows:List Rw}{t3 t5:Option Slot}{t:List (Option Slot)}{g:G}(hp:(plc rows).length≤rows.length)(hr:rows.length≤50):
  ev t0 (.slc (.var 2) (some (.len (.var 6))) none) ⟨dsl fs rows t3 t5 t,g⟩=.ok (.lst ((rows.drop (plc rows).length).map rwD),⟨dsl fs rows t3 t5 t,g⟩):=by
 have hlen:ev t0 (.len (.var 6)) ⟨dsl fs rows t3 t5 t,g⟩=.ok (.int (plc rows).length,⟨dsl fs rows t3 t5 t,g⟩):=cM (ad rfl) (by exact congrArg some (List.length_map _)) (by exact nl [_,_] [(N0,N1),(N1,.n 50)] N0 (.n 100000) rfl hp hr)
 refine cK (ad rfl) (bI hlen (dt (Int.natCast_nonneg _) (by exact ni [_,_] [(Z0,Z1),(Z1,.n 50)] (.s Z0) (.n 1000000) rfl (Int.ofNat_le.2 hp) (Int.ofNat_le.2 hr)))) cG ?_
 rw [List.map_drop]
 exact sliceD_drop (by rw [List.length_map];exact hp) (by rw [List.length_map];exact lec ‹_› (by rfl))
theorem cnt_ann (fs:List Fm)(w:Wh):(fs.filter fun f=>decide (nmW f.nm=w)).length=b8 fs w:=rfl
theorem due_s5 {fs:List Fm}{rows:List Rw}{t3 t5 t7 t8 t9 t10:Option Slot}{t:List (Option Slot)}{g:G}(hf:fs.length≤5)(ns:List Rw)(hl:ns.length≤50)(hn:Nmd ns)(hsrc:ev t0 (.slc (.var 2) (some (.len (.var 6))) none) ⟨dsl fs rows t3 t5 (t7::t8::t9::t10::t),g⟩=.ok (.lst (ns.map rwD),⟨dsl fs rows t3 t5 (t7::t8::t9::t10::t),g⟩)):
  (gn fs ns∧ ∃u v w,ex t0 (.forL [7,8,9] (.slc (.var 2) (some (.len (.var 6))) none) [.ife (.op .ne (.len (.compE [10] (.var 4) [(.op .eq (.var 10) (.var 9))] (.cst (.int 1)))) (.cst (.int 1))) [.ret (.cst .none)] []]) ⟨dsl fs rows t3 t5 (t7::t8::t9::t10::t),g⟩=.ok (.next,⟨dsl fs rows t3 t5 (u::v::w::t10::t),g⟩))∨
  (¬gn fs ns∧ ∃ρ,ex t0 (.forL [7,8,9] (.slc (.var 2) (some (.len (.var 6))) none) [.ife (.op .ne (.len (.compE [10] (.var 4) [(.op .eq (.var 10) (.var 9))] (.cst (.int 1)))) (.cst (.int 1))) [.ret (.cst .none)] []]) ⟨dsl fs rows t3 t5 (t7::t8::t9::t10::t),g⟩=.ok (.ret .none,⟨ρ,g⟩)):=by
 rw [eJ hsrc (by rw [List.length_map];exact lec ‹_› (by rfl))]
 refine cA (emb:=rwD) (fun p st=>gn fs p∧ ∃u v w,st=⟨dsl fs rows t3 t5 (u::v::w::t10::t),g⟩)
  (fun R=>(gn fs ns∧ ∃u v w,R=.ok (.next,⟨dsl fs rows t3 t5 (u::v::w::t10::t),g⟩))∨(¬gn fs ns∧ ∃ρ,R=.ok (.ret .none,⟨ρ,g⟩))) ?_ (fun st h=>?_) ⟨(fun _ h=>by cases h),_,_,_,rfl⟩
 ·rintro p r q st e ⟨h1,u,v,z,rfl⟩
  have hr:r∈ns:=by rw [e];simp
  refine x11 (hn r hr) fun w hw=>?_
  have em:meS r=whS w:=by unfold meS;rw [hw]
  have hle:b8 fs w≤fs.length:=List.length_filter_le _ _
  have hc:=cn (ft:=t0) (pat:=[10]) (src:=.var 4) (conds:=[(.op .eq (.var 10) (.var 9))]) (elt:=.cst (.int 1)) (emb:=fun f:Fm=>D.str (nmS f.nm)) (xs:=fs) (h:=fun f=>if decide (nmW f.nm=w)=true then [D.int 1] else [])
   (st:=⟨dsl fs rows t3 t5 (some (.val (bH r))::some (.val (aq r.act))::some (.val (.str (meS r)))::t10::t),g⟩) (ad rfl) (lec ‹_› (by rfl)) (fun f hf=>⟨_,rfl,rfl,decide (nmW f.nm=w),dY ?_,fun hq=>⟨_,ag,if_pos hq⟩,fun hq=>if_neg (by rw [hq];simp)⟩)
  ·rw [dk] at hc
   have ht:ev t0 (.op .ne (.len (.compE [10] (.var 4) [(.op .eq (.var 10) (.var 9))] (.cst (.int 1)))) (.cst (.int 1))) ⟨dsl fs rows t3 t5 (some (.val (bH r))::some (.val (aq r.act))::some (.val (.str (meS r)))::t10::t),g⟩=
     .ok (.bool (!decide ((b8 fs w:Int)=1)),⟨dsl fs rows t3 t5 (some (.val (bH r))::some (.val (aq r.act))::some (.val (.str (meS r)))::t10::t),g⟩):=
    bw (cM (n:=b8 fs w) hc (by simp only [da,List.length_map];rfl) (by exact nl [_,_] [(N0,N1),(N1,.n 5)] N0 (.n 100000) rfl hle hf)) ag (eq_int _ _)
   by_cases h1':b8 fs w=1
   ·rw [decide_eq_true (by exact Int.le_antisymm (ni [_] [(Z0,.n 1)] Z0 (.n 1) rfl (Int.ofNat_le.2 (Nat.le_of_eq h1'))) (ni [_] [(.n 1,Z0)] (.n 1) Z0 rfl (Int.ofNat_le.2 (Nat.le_of_eq h1'.symm))):(b8 fs w:Int)=1)] at ht
    refine .inl ⟨_,ah (aD ht ar) ar,fun n hn' w' hw'=>?_,_,_,_,rfl⟩
    rcases List.mem_append.mp hn' with hn' | hn'
    ·exact h1 n hn' w' hw'
    ·rw [List.mem_singleton.mp hn',hw] at hw';cases hw';exact h1'
   ·rw [decide_eq_false (by omega: ¬(b8 fs w:Int)=1)] at ht
    exact .inr ⟨_,aW (aZ ht (aW (bE ag))),rfl,.inr ⟨fun h=>h1' (h r hr w hw),_,rfl⟩⟩
  ·have e2:decide (nmS f.nm=meS r)=decide (nmW f.nm=w):=by
    rw [em]
    by_cases q:nmW f.nm=w
    ·rw [decide_eq_true q,decide_eq_true (by rw [←q,fO])]
    ·rw [decide_eq_false q,decide_eq_false fun h=>q (wh_inj (by rw [fO];exact h))]
   rw [←e2]
   exact aV (ad rfl) (ad rfl) (eq_str (i6 _) (by rw [em];exact wh_ok w))
 ·obtain ⟨h1,u,v,w,rfl⟩:=h
  exact .inl ⟨h1,u,v,w,rfl⟩
noncomputable def d2Body:List S:=fm ((ir_due.body[6]?).getD .dead)
theorem name_cmp {x:Str}(h:PyData.strOk x=true):(aq x).cmpOk=true∧(aq x).depth=1:=by
 have e:PyData.strOk (so "name")=true:=by decide +kernel
 exact ⟨Bool.and_eq_true_iff.2 ⟨e,Bool.and_eq_true_iff.2 ⟨h,rfl⟩⟩,rfl⟩
theorem iw: ∀{T:List Str},(∀x∈T,PyData.strOk x=true)→D.cmpOks (T.map aq)=true∧D.depths (T.map aq)≤1
 | [],_=>⟨rfl,Nat.zero_le _⟩
 | x::r,h=>by
  refine x02 (name_cmp (h x List.mem_cons_self)) fun a b=>?_
  refine x02 (iw (T:=r) fun y hy=>h y (List.mem_cons_of_mem _ hy)) fun c d=>?_
  exact ⟨Bool.and_eq_true_iff.2 ⟨a,c⟩,Nat.max_le.2 ⟨Nat.le_of_eq b,d⟩⟩
theorem lst_nil {L:List D}(h:D.cmpOks L=true)(hd:D.depths L≤6):eqD (.lst L) (.lst [])=some L.isEmpty:=by
 have e:D.beq (.lst L) (.lst [])=L.isEmpty:=by cases L <;> rfl
 exact (gE (a:=.lst L) (b:=.lst []) h rfl (Nat.succ_le_succ (Nat.le_trans hd (by decide))) (by decide)).trans (congrArg some e)
theorem names_nil {T:List Str}(h: ∀x∈T,PyData.strOk x=true):eqD (.lst (T.map aq)) (.lst [])=some T.isEmpty:=by
 refine x02 (iw h) fun a b=>?_
 rw [lst_nil a (lec ‹_› (by rfl))]
 cases T <;> rfl
theorem opN_cmp (nm:Nm):D.cmpOks [opN nm]=true∧D.depths [opN nm]≤6:=by cases nm <;> decide +kernel
theorem opN_ev {st:St}{ft:FT}{nm:Nm}{k:Nat}(h:a8 st k=some (.str (nmS nm))):ev ft (.ite (.op .eq (.slc (.var k) none (some (.cst (.int 1)))) (.cst (.str (so "\"")))) (.tup [(.cst (.str (so "string"))),(.slc (.var k) (some (.cst (.int 1))) (some (.cst (.int (-1)))))]) (.tup [(.cst (.str (so "name"))),(.var k)])) st=.ok (opN nm,st):=by
 cases nm with
 | minus=>exact bT (aV (a:=.str (so "\"")) (cK (ad h) cG (bI ag (by decide)) (by kernel_rfl)) ag (by kernel_rfl)) (aF (af ag (af (cK (ad h) (bI ag (by decide)) (bI ag (by decide)) (by kernel_rfl)) ao)) (am rfl))
 | mod=>exact bT (aV (a:=.str (so "\"")) (cK (ad h) cG (bI ag (by decide)) (by kernel_rfl)) ag (by kernel_rfl)) (aF (af ag (af (cK (ad h) (bI ag (by decide)) (bI ag (by decide)) (by kernel_rfl)) ao)) (am rfl))
 | pick=>exact bU (aV (a:=.str (so "p")) (cK (ad h) cG (bI ag (by decide)) (by kernel_rfl)) ag (by kernel_rfl)) (aF (af ag (af (ad h) ao)) (am rfl))
theorem ixD_fst {L:List D}{d:D}{r:List D}(h:L=d::r):ixD (.lst L) (.int 0)=some d:=by subst h;kernel_rfl
theorem toldA {us ns:List Rw}{i:Nat}{f:Fm}(mem: ∀r,r∈us∨r∈ns→PyData.strOk r.act=true): ∀x∈bX us ns i f,PyData.strOk x=true:=by
 intro x hx
 rcases List.mem_append.1 hx with hx | hx
 ·refine x12 (List.mem_map.1 hx) fun r h1 e=>e▸mem r (.inl ?_)
  cases hq:us[i]? with
  | none=>rw [hq] at h1;cases h1
  | some r'=>rw [hq] at h1;rw [List.mem_singleton.1 h1];exact List.mem_of_getElem? hq
 ·exact x12 (List.mem_map.1 hx) fun r h1 e=>e▸mem r (.inr (List.mem_filter.1 h1).1)
noncomputable def dst (fs:List Fm)(rows:List Rw)(t3:Option Slot)(i:Nat)(t7 t8 t9:Option Slot)(f:Fm)(F:List D)(A B:Option Slot)(g:G):St:=⟨dsl fs rows t3 (some (.val (.int i))) [t7,t8,t9,some (.val (.str (nmS f.nm))),some (.own (.lst F)),A,B],g⟩
theorem due_turn {fs:List Fm}{rows:List Rw}{t3 t7 t8 t9 t12 t13:Option Slot}{i:Nat}{f:Fm}{F:List D}{g:G}(hi:fs[i]? =some f)(h5:i < 5)(hF:F.length≤100)(hr:rows.length≤50)(hro:RowsOk rows)(hp:(plc rows).length≤rows.length){us ns:List Rw}(hu:rows.take (plc rows).length=us)(hns:rows.drop (plc rows).length=ns)(hn:Nmd ns):
  (((bX us ns i f).length≤1∧(bX us ns i f=[]→f.df≠ .none))∧
   ∃u v,exs t0 d2Body (dst fs rows t3 i t7 t8 t9 f F t12 t13 g)=.ok (.next,(dst fs rows t3 i t7 t8 t9 f ((F++[duD (bX us ns i f) f])) u v g)))∨
  (¬((bX us ns i f).length≤1∧(bX us ns i f=[]→f.df≠ .none))∧
   ∃ρ,exs t0 d2Body (dst fs rows t3 i t7 t8 t9 f F t12 t13 g)=.ok (.ret .none,⟨ρ,g⟩)):=by
 refine hideP fun P kP=>?_
 have hT: ∀x∈bX us ns i f,PyData.strOk x=true:=toldA fun r h=>hro r (h.elim (fun h=>List.mem_of_mem_take (hu▸h)) fun h=>List.mem_of_mem_drop (hns▸h))
 have s1: ∀{q:List S} {R:Res (Fl×St)},exs t0 q (dst fs rows t3 i t7 t8 t9 f F (some (.own (.lst ((us[i]?).toList.map fun r=>aq r.act)))) t13 g)=R→
   exs t0 (d2Body.take 1++q) (dst fs rows t3 i t7 t8 t9 f F t12 t13 g)=R:=by
  intro q R hq
  have ht:ev t0 (.op .lt (.var 5) (.len (.var 6))) (dst fs rows t3 i t7 t8 t9 f F t12 t13 g)=.ok (.bool (decide ((i:Int) < (plc rows).length)),(dst fs rows t3 i t7 t8 t9 f F t12 t13 g)):=
   bD (ad rfl) (cM (n:=(plc rows).length) (ad rfl) (by exact congrArg some (List.length_map _)) (by exact nl [_,_] [(N0,N1),(N1,.n 50)] N0 (.n 100000) rfl hp hr)) (op_lt _ _)
  by_cases hlt:i < (plc rows).length
  ·rw [decide_eq_true (by exact Int.ofNat_le.2 ‹_›:(i:Int) < (plc rows).length)] at ht
   have hget:rows[i]? =some rows[i]:=by simp
   have hget2:us[i]? =some rows[i]:=by rw [←hu,List.getElem?_take,if_pos hlt];simp
   rw [hget2] at hq
   exact ah (aZ ht (ah (dT (i:=12) (af (ay (ay (ad rfl) (ad rfl) (ca (f:=rwD) hget (by exact nl [_] [(.s N0,.n 5)] (.s N0) (.n 100000) rfl h5))) ag ix1) ao) (am rfl)) ar)) hq
  ·rw [decide_eq_false (by exact fun e=>nz [_,_] [(.s Z0,Z1),(Z1,Z0)] rfl e (Int.ofNat_le.2 (Nat.le_of_not_lt hlt)): ¬(i:Int) < (plc rows).length)] at ht
   have hget2:us[i]? =none:=by rw [←hu,List.getElem?_take,if_neg hlt]
   rw [hget2] at hq
   exact ah (aD ht (ah (dT (i:=12) ao (am rfl)) ar)) hq
 have s2:ex t0 (.aug 12 (.compE [7,8,9] (.slc (.var 2) (some (.len (.var 6))) none) [(.op .eq (.var 9) (.var 10))] (.var 8))) (dst fs rows t3 i t7 t8 t9 f F (some (.own (.lst ((us[i]?).toList.map fun r=>aq r.act)))) t13 g)=
   .ok (.next,(dst fs rows t3 i t7 t8 t9 f F (some (.own (.lst ((bX us ns i f).map aq)))) t13 g)):=by
  have hsrc:=due_rest (fs:=fs) (rows:=rows) (t3:=t3) (t5:=some (.val (.int i))) (t:=[t7,t8,t9,some (.val (.str (nmS f.nm))),some (.own (.lst F)),some (.own (.lst ((us[i]?).toList.map fun r=>aq r.act))),t13]) (g:=g) hp hr
  rw [hns] at hsrc
  have hlen:ns.length≤50:=by rw [←hns,List.length_drop];exact nl [_,_] [(N0,N1),(N1,.n 50)] N0 (.n 50) rfl (Nat.sub_le _ _) hr
  have hc:=cn (ft:=t0) (pat:=[7,8,9]) (conds:=[(.op .eq (.var 9) (.var 10))]) (elt:=.var 8) (emb:=rwD) (xs:=ns) (h:=fun n=>if decide (n.w=some (nmW f.nm))=true then [aq n.act] else []) hsrc (lec ‹_› (by rfl))
   (fun n h=>⟨_,rfl,rfl,decide (n.w=some (nmW f.nm)),dY ?_,fun hq=>⟨_,ad rfl,if_pos hq⟩,fun hq=>if_neg (by rw [hq];simp)⟩)
  ·rw [dk (e:=fun n:Rw=>aq n.act)] at hc
   have:=X_aug (ft:=t0) (k:=12) (ds0:=(us[i]?).toList.map fun r=>aq r.act) (ds:=(us[i]?).toList.map fun r=>aq r.act) (st:=(dst fs rows t3 i t7 t8 t9 f F (some (.own (.lst ((us[i]?).toList.map fun r=>aq r.act)))) t13 g)) rfl hc rfl
    (by
     have h1:((us[i]?).toList.map fun r=>aq r.act).length≤1:=by cases us[i]? <;> simp
     have h2:((ns.filter fun n=>decide (n.w=some (nmW f.nm))).map fun n=>aq n.act).length≤ns.length:=by rw [List.length_map];exact List.length_filter_le _ _
     exact nl [_,_,_] [(N0,N1),(N2,.n 1),(N1,.n 50)] (.a N2 N0) (.n 1000) rfl h2 h1 hlen)
   rw [this]
   have e:(bX us ns i f).map aq=((us[i]?).toList.map fun r=>aq r.act)++((ns.filter fun n=>decide (n.w=some (nmW f.nm))).map fun n=>aq n.act):=by
    unfold bX;rw [List.map_append,List.map_map,List.map_map];rfl
   rw [e];rfl
  ·obtain ⟨w,hw⟩:=hn n h
   have em:meS n=whS w:=by unfold meS;rw [hw]
   have e2:decide (meS n=nmS f.nm)=decide (n.w=some (nmW f.nm)):=by
    rw [em,hw]
    by_cases q:w=nmW f.nm
    ·rw [decide_eq_true (by rw [q,fO]),decide_eq_true (by rw [q])]
    ·rw [decide_eq_false fun h=>q (wh_inj (by rw [fO];exact h)),decide_eq_false fun e=>q (Option.some.inj e)]
   rw [←e2]
   exact aV (ad rfl) (ad rfl) (eq_str (by rw [em];exact wh_ok w) (i6 _))
 generalize hTT:bX us ns i f=T at s2 hT kP
 have hlT:T.length≤100:=by
  rw [←hTT];unfold bX
  rw [List.length_append,List.length_map,List.length_map]
  have h1:(us[i]?).toList.length≤1:=by cases us[i]? <;> simp
  have h2:(ns.filter fun n=>decide (n.w=some (nmW f.nm))).length≤ns.length:=List.length_filter_le _ _
  have hlen:ns.length≤50:=by rw [←hns,List.length_drop];exact nl [_,_] [(N0,N1),(N1,.n 50)] N0 (.n 50) rfl (Nat.sub_le _ _) hr
  exact nl [_,_,_] [(N0,N1),(N1,.n 50),(N2,.n 1)] (.a N2 N0) (.n 100) rfl h2 hlen h1
 have s3:ex t0 (.assign 13 (.ix (.ix (.var 0) (.var 5)) (.cst (.int 3)))) (dst fs rows t3 i t7 t8 t9 f F (some (.own (.lst (T.map aq)))) t13 g)=
   .ok (.next,(dst fs rows t3 i t7 t8 t9 f F (some (.own (.lst (T.map aq)))) (some (.val (dfD f.df))) g)):=
  aB (i:=13) (ay (ay (ad rfl) (ad rfl) (ca (f:=fmD) hi (lec ‹_› (by rfl)))) ag ix3)
 have h12: ∀{t:Option Slot},ev t0 (.eqV 12 (.lst [])) (dst fs rows t3 i t7 t8 t9 f F (some (.own (.lst (T.map aq)))) t g)=.ok (.bool T.isEmpty,(dst fs rows t3 i t7 t8 t9 f F (some (.own (.lst (T.map aq)))) t g)):=
  E_eqV rfl (cv ao (am rfl)) rfl (names_nil hT)
 have h4:ev t0 (.or [(.op .gt (.lenV 12) (.cst (.int 1))),(.and [(.eqV 12 (.lst [])),(.isN (.var 13))])]) (dst fs rows t3 i t7 t8 t9 f F (some (.own (.lst (T.map aq)))) (some (.val (dfD f.df))) g)=
   .ok (.bool (decide ((1:Int) < T.length)||(T.isEmpty&&cg (dfD f.df))),(dst fs rows t3 i t7 t8 t9 f F (some (.own (.lst (T.map aq)))) (some (.val (dfD f.df))) g)):=
  eZ (R_b (bD (E_lenV (n:=T.length) rfl (by simp only [da,List.length_map]) (lec ‹_› (by rfl))) ag (op_gt _ _)) fun _=>R_one (E_and (A_b h12 fun _=>dY (eM (ad rfl)))))
 have hnone:cg (dfD f.df)=decide (f.df=.none):=by cases f.df <;> rfl
 by_cases hbad:T.length≤1∧(T=[]→f.df≠ .none)
 ·refine kP (.inl ⟨hbad,?_⟩)
  have hf4:(decide ((1:Int) < T.length)||(T.isEmpty&&cg (dfD f.df)))=false:=by
   rw [hnone]
   have: ¬(1:Int) < T.length:=by exact fun e=>nz [_] [(.s (.n 1),Z0),(Z0,.n 1)] rfl e (Int.ofNat_le.2 hbad.1)
   simp only [this,decide_false,Bool.false_or]
   cases T with
   | nil=>simp [hbad.2 rfl]
   | cons a r=>rfl
  rw [hf4] at h4
  have s5: ∃L,(∃d r,L=d::r∧duD T f=laidD d∨L=[]∧duD T f=.tup [.str (so "within"),dfD f.df])∧D.cmpOks L=true∧D.depths L≤6∧
    ex t0 (.ife (.and [(.eqV 12 (.lst [])),(.op .eq (.var 13) (.cst (.str (so "box"))))]) [.ownL 12 [(.ite (.op .eq (.slc (.var 10) none (some (.cst (.int 1)))) (.cst (.str (so "\"")))) (.tup [(.cst (.str (so "string"))),(.slc (.var 10) (some (.cst (.int 1))) (some (.cst (.int (-1)))))]) (.tup [(.cst (.str (so "name"))),(.var 10)]))]] [])
     (dst fs rows t3 i t7 t8 t9 f F (some (.own (.lst (T.map aq)))) (some (.val (dfD f.df))) g)=
     .ok (.next,(dst fs rows t3 i t7 t8 t9 f F (some (.own (.lst L))) (some (.val (dfD f.df))) g)):=by
   have ht:ev t0 (.and [(.eqV 12 (.lst [])),(.op .eq (.var 13) (.cst (.str (so "box"))))]) (dst fs rows t3 i t7 t8 t9 f F (some (.own (.lst (T.map aq)))) (some (.val (dfD f.df))) g)=
     .ok (.bool (T.isEmpty&&decide (f.df=.box)),(dst fs rows t3 i t7 t8 t9 f F (some (.own (.lst (T.map aq)))) (some (.val (dfD f.df))) g)):=
    E_and (A_b h12 fun _=>dY (aV (ad rfl) ag df_box))
   cases hTc:T with
   | cons a r=>
    subst hTc
    obtain ⟨c1,c2⟩:=iw hT
    exact ⟨(a::r).map aq,⟨aq a,r.map aq,.inl ⟨rfl,rfl⟩⟩,c1,lec ‹_› (by rfl),aD ht ar⟩
   | nil=>
    subst hTc
    cases hd:f.df with
    | none=>exact absurd hd (hbad.2 rfl)
    | box=>
     rw [hd] at ht
     refine ⟨[opN f.nm],⟨opN f.nm,[],.inl ⟨rfl,?_⟩⟩,(opN_cmp _).1,(opN_cmp _).2,aZ ht (ah (dT (i:=12) (af (opN_ev rfl) ao) (am rfl)) ar)⟩
     unfold duD;rw [hd];rfl
    | other=>
     rw [hd] at ht
     refine ⟨[],⟨.none,[],.inr ⟨rfl,?_⟩⟩,rfl,Nat.zero_le _,aD ht ar⟩
     unfold duD;rw [hd];rfl
  obtain ⟨L,⟨d,r,hL⟩,c1,c2,s5⟩:=s5
  have hne:ev t0 (.op .ne (.fz 12) (.lst [])) (dst fs rows t3 i t7 t8 t9 f F (some (.own (.lst L))) (some (.val (dfD f.df))) g)=
    .ok (.bool (!L.isEmpty),(dst fs rows t3 i t7 t8 t9 f F (some (.val (.lst L))) (some (.val (dfD f.df))) g)):=
   bw (dM rfl) (cv ao (am rfl)) (lst_nil c1 c2)
  have hv:ev t0 (.ite (.op .ne (.fz 12) (.lst [])) (.tup [(.cst (.str (so "laid"))),(.ixV 12 (.cst (.int 0)))]) (.tup [(.cst (.str (so "within"))),(.var 13)])) (dst fs rows t3 i t7 t8 t9 f F (some (.own (.lst L))) (some (.val (dfD f.df))) g)=
    .ok (duD T f,(dst fs rows t3 i t7 t8 t9 f F (some (.val (.lst L))) (some (.val (dfD f.df))) g)):=by
   rcases hL with ⟨e1,e2⟩ | ⟨e1,e2⟩
   ·rw [e2]
    refine bT (by rw [e1] at hne ⊢;exact hne) (aF (af ag (af (E_ixV rfl ag rfl (ixD_fst e1)) ao)) (am rfl))
   ·rw [e2]
    refine bU (by rw [e1] at hne ⊢;exact hne) (aF (af ag (af (ad rfl) ao)) (am rfl))
  exact ⟨_,_,s1 (ah s2 (ah s3 (ah (aD h4 ar) (ah s5 (ah (fB rfl hv rfl (lec ‹_› (by rfl))) ar)))))⟩
 ·refine kP (.inr ⟨hbad,?_⟩)
  have ht4:(decide ((1:Int) < T.length)||(T.isEmpty&&cg (dfD f.df)))=true:=by
   rw [hnone]
   by_cases h1:T.length≤1
   ·have h2:T=[]∧f.df=.none:=by
     refine Decidable.byContradiction fun h=>hbad ⟨h1,fun e hd=>h ⟨e,hd⟩⟩
    rw [h2.1,h2.2];rfl
   ·rw [decide_eq_true (by exact ni [_] [(.s (.n 1),Z0)] (.s (.n 1)) Z0 rfl (Int.ofNat_lt.2 (Nat.lt_of_not_le h1)):(1:Int) < T.length)];rfl
  rw [ht4] at h4
  exact ⟨_,s1 (ah s2 (ah s3 (aW (aZ h4 (aW (bE ag))))))⟩
noncomputable def duL (fs:List Fm)(us ns:List Rw):D:=.lst (fs.zipIdx.map fun x=>duD (bX us ns x.2 x.1) x.1)
theorem ann_at {fs:List Fm}{i:Nat}{f:Fm}(h:fs[i]? =some f): ∃a,(ann fs)[i]? =some a∧a.1=f:=by
 have:((ann fs).map (·.1))[i]? =some f:=by rw [eu];exact h
 rw [List.getElem?_map,Option.map_eq_some_iff] at this
 exact this
theorem at_ann {fs:List Fm}{i:Nat}{a:Fm×Str}(h:(ann fs)[i]? =some a):fs[i]? =some a.1:=by
 rw [←eu fs,List.getElem?_map,h];rfl
theorem due_s7 {fs:List Fm}{rows:List Rw}{t3 t7 t8 t9 t10 t12 t13:Option Slot}{t5:Option Slot}{g:G}(hf:fs.length≤5)(hr:rows.length≤50)(hro:RowsOk rows)(hp:(plc rows).length≤rows.length)(hn:Nmd (rows.drop (plc rows).length)):
  (Each fs (rows.take (plc rows).length) (rows.drop (plc rows).length)∧ ∃u t,t.length=7∧t[4]? =some (some (.own (duL fs (rows.take (plc rows).length) (rows.drop (plc rows).length))))∧ex t0 (.forE 5 10 (.var 4) d2Body) ⟨dsl fs rows t3 t5 [t7,t8,t9,t10,some (.own (.lst [])),t12,t13],g⟩=.ok (.next,⟨dsl fs rows t3 u t,g⟩))∨
  (¬Each fs (rows.take (plc rows).length) (rows.drop (plc rows).length)∧ ∃ρ,ex t0 (.forE 5 10 (.var 4) d2Body) ⟨dsl fs rows t3 t5 [t7,t8,t9,t10,some (.own (.lst [])),t12,t13],g⟩=.ok (.ret .none,⟨ρ,g⟩)):=by
 rw [X_forE (ds:=fs.map fun f=>.str (nmS f.nm)) (s1:=⟨dsl fs rows t3 t5 [t7,t8,t9,t10,some (.own (.lst [])),t12,t13],g⟩) (ad rfl) (by rw [List.length_map];exact lec ‹_› (by rfl)),zip_map]
 refine cA (emb:=fun q:Fm×Nat=>D.tup [.int q.2,.str (nmS q.1.nm)]) (fun p st=>(∀x∈p,(bX (rows.take (plc rows).length) (rows.drop (plc rows).length) x.2 x.1).length≤1∧(bX (rows.take (plc rows).length) (rows.drop (plc rows).length) x.2 x.1=[]→x.1.df≠ .none))∧
   ∃u v a b c,st=⟨dsl fs rows t3 u [t7,t8,t9,v,some (.own (.lst (p.map fun x=>duD (bX (rows.take (plc rows).length) (rows.drop (plc rows).length) x.2 x.1) x.1))),a,b],c⟩∧c=g)
  (fun R=>(Each fs (rows.take (plc rows).length) (rows.drop (plc rows).length)∧ ∃u t,t.length=7∧t[4]? =some (some (.own (duL fs (rows.take (plc rows).length) (rows.drop (plc rows).length))))∧R=.ok (.next,⟨dsl fs rows t3 u t,g⟩))∨
   (¬Each fs (rows.take (plc rows).length) (rows.drop (plc rows).length)∧ ∃ρ,R=.ok (.ret .none,⟨ρ,g⟩))) ?_ (fun st h=>?_) ⟨(fun _ h=>by cases h),_,_,_,_,_,rfl,rfl⟩
 ·rintro p ⟨f,i⟩ q st e ⟨h1,u,v,a,b,c,rfl,rfl⟩
  refine x03 (iX rfl e) fun e1 e2 e3=>?_
  simp only at e1 e2 e3
  have hpl:p.length≤5:=by exact nl [_,_,_] [(N0,N1),(.s N1,N2),(N2,.n 5)] N0 (.n 5) rfl (Nat.le_of_eq e1.symm) e2 hf
  rcases due_turn (t3:=t3) (t7:=t7) (t8:=t8) (t9:=t9) (t12:=a) (t13:=b) (F:=p.map fun x=>duD (bX (rows.take (plc rows).length) (rows.drop (plc rows).length) x.2 x.1) x.1) (g:=c) e3 (Nat.lt_of_lt_of_le ‹_› ‹_›) (by rw [List.length_map];exact lec ‹_› (by rfl)) hr hro hp rfl rfl hn with ⟨h2,x,y,h3⟩ | ⟨h2,ρ,h3⟩
  ·refine .inl ⟨_,h3,fun z hz=>?_,some (.val (.int i)),some (.val (.str (nmS f.nm))),x,y,c,?_,rfl⟩
   ·rcases List.mem_append.mp hz with hz | hz
    ·exact h1 z hz
    ·rw [List.mem_singleton.mp hz];exact h2
   ·rw [List.map_append];rfl
  ·refine .inr ⟨_,h3,rfl,.inr ⟨fun h=>h2 ?_,ρ,rfl⟩⟩
   obtain ⟨w,hw,rfl⟩:=ann_at e3
   exact h i w hw
 ·obtain ⟨h1,u,v,a,b,c,rfl,rfl⟩:=h
  refine .inl ⟨fun i w hw=>?_,u,_,rfl,rfl,rfl⟩
  have hget:=at_ann hw
  refine h1 (w.1,i) ?_
  rw [List.mem_iff_getElem?]
  exact ⟨i,by rw [List.getElem?_zipIdx,hget];simp⟩
theorem fP {us us' ns ns':List Rw}(e:us++ns=us'++ns')(hu:Uns us)(hu':Uns us')(hn:Nmd ns)(hn':Nmd ns'):us=us'∧ns=ns':=by
 have h1:=ik (rows:=us++ns) rfl hu hn
 have h2:=ik (rows:=us++ns) e hu' hn'
 have:us.length=us'.length:=by have:=congrArg List.length (h1.symm.trans h2);simpa using this
 exact List.append_inj e this
theorem due_ok {fs:List Fm}{rows:List Rw}{g:G}(hf:fs.length≤5)(hr:rows.length≤50)(hro:RowsOk rows):
  (∃fd us ns,dq fs rows fd∧Split fs rows us ns fd∧aG t0 ir_due [fsL fs,kdL fs,rwL rows] g=.ok (duL fs us ns,g))∨((¬ ∃fd,dq fs rows fd)∧aG t0 ir_due [fsL fs,kdL fs,rwL rows] g=.ok (.none,g)):=by
 have s1:=due_s1 (fs:=fs) (rows:=rows) (t:=[none,none,none,none,none,none,none,none,none]) (g:=g) hf
 have s2:=due_s2 (fs:=fs) (rows:=rows) (t:=[none,none,none,none,none,none,none]) (g:=g) hr
 have hple:(plc rows).length≤rows.length:=by unfold plc;exact Nat.le_trans (List.length_filter_le _ _) (by simp)
 have s3:=due_s3 (fs:=fs) (rows:=rows) (t3:=none) (t5:=none) (t:=[none,none,none,none,none,none,none]) (g:=g) hf (Nat.le_trans ‹_› ‹_›)
 have out: ∀{ρ:List (Option Slot)},(¬ ∃fd,dq fs rows fd)→exs t0 (ir_due.body.drop 2) ⟨dsl fs rows none none [none,none,none,none,none,none,none],g⟩=.ok (.ret .none,⟨ρ,g⟩)→
   (∃fd us ns,dq fs rows fd∧Split fs rows us ns fd∧aG t0 ir_due [fsL fs,kdL fs,rwL rows] g=.ok (duL fs us ns,g))∨((¬ ∃fd,dq fs rows fd)∧aG t0 ir_due [fsL fs,kdL fs,rwL rows] g=.ok (.none,g)):=
  fun {ρ} h1 h2=>.inr ⟨h1,bu (f:=ir_due) (st:=⟨ρ,g⟩) rfl (ah s1 (ah s2 h2))⟩
 by_cases hA:plc rows=List.range (plc rows).length∧(plc rows).length≤fs.length
 ·rw [decide_eq_true hA.1,decide_eq_false (by exact fun e=>nz [_,_] [(.s Z0,Z1),(Z1,Z0)] rfl e (Int.ofNat_le.2 hA.2): ¬(fs.length:Int) < (plc rows).length)] at s3
  refine x03 (split_plc hA.1) fun hU hN _=>?_
  have s4:=due_s4 (fs:=fs) (rows:=rows) (t3:=none) (t5:=none) (t:=[none,none,none,none,none,none,none]) (g:=g) hf
  refine x03 (jq _ fs rfl) fun d1 d2 d3=>?_
  by_cases hB:dh fs
  ·have hlen:(aR (fs.map nkD)).length=fs.length:=by rw [d3 hB,List.length_map]
   rw [decide_eq_false (by exact fun e=>nz [_,_] [(.s Z0,Z1),(Z1,Z0)] rfl e (Int.ofNat_le.2 (Nat.le_of_eq hlen.symm)): ¬((aR (fs.map nkD)).length:Int) < fs.length)] at s4
   rcases due_s5 (fs:=fs) (rows:=rows) (t3:=none) (t5:=none) (t7:=none) (t8:=none) (t9:=none) (t10:=none) (t:=[none,none,none]) (g:=g) hf (rows.drop (plc rows).length) (by rw [List.length_drop];exact nl [_,_] [(N0,N1),(N1,.n 50)] N0 (.n 50) rfl (Nat.sub_le _ _) hr) hN (due_rest hple hr) with ⟨hC,u,v,w,s5⟩ | ⟨hC,ρ,s5⟩
   ·rcases due_s7 (fs:=fs) (rows:=rows) (t3:=none) (t5:=none) (t7:=u) (t8:=v) (t9:=w) (t10:=none) (t12:=none) (t13:=none) (g:=g) hf hr hro hple hN with ⟨hE,z,t,ht,hg,s7⟩ | ⟨hE,ρ,s7⟩
    ·have hl:(rows.take (plc rows).length).length=(plc rows).length:=by rw [List.length_take];omega
     have hgood:=good_of_each hf hB hU hN (by exact nl [_,_,_] [(N0,N1),(N1,N2)] N0 N2 rfl (Nat.le_of_eq hl) hA.2) hC hE
     rw [List.take_append_drop] at hgood
     refine x21 (dU hgood) fun us' ns' hs=>?_
     refine x02 (fP (hs.eq.symm.trans (List.take_append_drop (plc rows).length rows).symm) hs.un hU hs.nm hN) fun e1 e2=>?_
     subst e1;subst e2
     refine .inl ⟨_,_,_,hgood,hs,?_⟩
     obtain ⟨x7,x8,x9,x10,x11,x12,x13,rfl⟩: ∃a b c d e f g,t=[a,b,c,d,e,f,g]:=by
      apply bK ht;intro a v h;apply bK h;intro b v h;apply bK h;intro c v h;apply bK h;intro d v h;apply bK h;intro e v h;apply bK h;intro f v h;apply bK h;intro g v h;apply jA h;exact ⟨a,b,c,d,e,f,g,rfl⟩
     simp only [List.getElem?_cons_succ,List.getElem?_cons_zero,Option.some.injEq] at hg
     subst hg
     exact bu (f:=ir_due) (st:=⟨_,g⟩) rfl (ah s1 (ah s2 (ah (aD s3 ar) (ah (aD s4 ar) (ah s5 (ah (dT (i:=11) ao (am rfl)) (ah s7 (aW (bE (dM rfl))))))))))
    ·refine out (ρ:=ρ) (fun ⟨fd,hgd⟩=>hE ?_) (ah (aD s3 ar) (ah (aD s4 ar) (ah s5 (ah (dT (i:=11) ao (am rfl)) (aW s7)))))
     refine x21 (dU hgd) fun us' ns' hs=>?_
     refine x02 (fP (hs.eq.symm.trans (List.take_append_drop (plc rows).length rows).symm) hs.un hU hs.nm hN) fun e1 e2=>?_
     have:=each_of_good hf hgd hs
     rwa [e1,e2] at this
   ·refine out (ρ:=ρ) (fun ⟨fd,hgd⟩=>hC ?_) (ah (aD s3 ar) (ah (aD s4 ar) (aW s5)))
    refine x21 (dU hgd) fun us' ns' hs=>?_
    refine x02 (fP (hs.eq.symm.trans (List.take_append_drop (plc rows).length rows).symm) hs.un hU hs.nm hN) fun e1 e2=>?_
    have:=hs.cnt
    rwa [e2] at this
  ·have hlen:(aR (fs.map nkD)).length < fs.length:=by
    refine Nat.lt_of_le_of_ne d1 fun e=>hB (d2 e).1
   rw [decide_eq_true (by exact Int.ofNat_le.2 ‹_›:((aR (fs.map nkD)).length:Int) < fs.length)] at s4
   exact out (fun ⟨fd,hgd⟩=>hB hgd.1) (ah (aD s3 ar) (aW (aZ s4 (aW (bE ag)))))
 ·have ht:(!decide (plc rows=List.range (plc rows).length)||decide ((fs.length:Int) < (plc rows).length))=true:=by
   by_cases h1:plc rows=List.range (plc rows).length
   ·rw [decide_eq_true (by have: ¬(plc rows).length≤fs.length:=fun h=>hA ⟨h1,h⟩;exact ni [_,_] [(.s Z0,Z1)] (.s Z0) Z1 rfl (Int.ofNat_lt.2 (Nat.lt_of_not_le this)):(fs.length:Int) < (plc rows).length)];simp
   ·rw [decide_eq_false h1];rfl
  rw [ht] at s3
  refine out (fun ⟨fd,hgd⟩=>hA ?_) (aW (aZ s3 (aW (bE ag))))
  refine x21 (dU hgd) fun us' ns' hs=>?_
  have:=ik hs.eq hs.un hs.nm
  have hl:=hs.le
  rw [this,List.length_range]
  exact ⟨rfl,hl⟩
inductive Sm where
 | op | pick | mark | wrap
noncomputable def smS:Sm→Str
 | .op=>so "op"
 | .pick=>so "pick"
 | .mark=>so "mark"
 | .wrap=>so "wrapper"
noncomputable def smN:Nm→Sm
 | .pick=>.pick
 | _=>.op
noncomputable def preS (s:Sm):Str:=smS s++so "__"++strI 5++so "_"
noncomputable def frS (s:Sm)(c:Nat):Str:=preS s++strI (c:Int)
noncomputable def dec (x:Str):Nat:=x.cps.toList.foldl (fun acc ch=>if ch=95 then 0 else acc * 10 + (ch - 48)) 0
theorem fr_tab: ∀(s:Sm) (c:Fin 31),dec (frS s c)=c∧PyData.strOk (frS s c)=true∧(preS s).length + (strI (c:Nat)).length≤1000∧fh (frS s c) (so "__")=true:=by
 intro s;cases s <;> decide +kernel
theorem fr_dec {s:Sm}{c:Nat}(h:c≤30):dec (frS s c)=c:=(fr_tab s ⟨c,Nat.lt_succ_of_le ‹_›⟩).1
theorem gR {s:Sm}{c:Nat}(h:c≤30):PyData.strOk (frS s c)=true:=(fr_tab s ⟨c,Nat.lt_succ_of_le ‹_›⟩).2.1
theorem fr_len {s:Sm}{c:Nat}(h:c≤30):(preS s).length + (strI (c:Int)).length≤1000:=(fr_tab s ⟨c,Nat.lt_succ_of_le ‹_›⟩).2.2.1
theorem fr_bit {s:Sm}{c:Nat}(h:c≤30):fh (frS s c) (so "__")=true:=(fr_tab s ⟨c,Nat.lt_succ_of_le ‹_›⟩).2.2.2
theorem fr_inj {s s':Sm}{c c':Nat}(h:c≤30)(h':c'≤30)(e:frS s c=frS s' c'):c=c':=by rw [←fr_dec h (s:=s),e,fr_dec h']
noncomputable def gB (g:G)(c:Nat)(st inn:List D):G:={g with bld:=some ⟨5,c,st,inn⟩}
structure SmIs (x:Str)(s:Sm):Prop where
 ev: ∀{st:St},a8 st 1=some (.str x)→ev t0 (.ite (.op .eq (.slc (.var 1) none (some (.cst (.int 1)))) (.cst (.str (so "\"")))) (.cst (.str (so "op"))) (.var 1)) st=.ok (.str (smS s),st)
theorem sm_nm (n:Nm):SmIs (nmS n) (smN n):=by
 cases n with
 | minus=>exact ⟨fun h=>bT (aV (a:=.str (so "\"")) (cK (ad h) cG (bI ag (by decide)) (by kernel_rfl)) ag (by kernel_rfl)) ag⟩
 | mod=>exact ⟨fun h=>bT (aV (a:=.str (so "\"")) (cK (ad h) cG (bI ag (by decide)) (by kernel_rfl)) ag (by kernel_rfl)) ag⟩
 | pick=>exact ⟨fun h=>bU (aV (a:=.str (so "p")) (cK (ad h) cG (bI ag (by decide)) (by kernel_rfl)) ag (by kernel_rfl)) (ad h)⟩
theorem sm_mark:SmIs (so "mark") .mark:=⟨fun h=>bU (aV (a:=.str (so "m")) (cK (ad h) cG (bI ag (by decide)) (by kernel_rfl)) ag (by kernel_rfl)) (ad h)⟩
theorem sm_wrap:SmIs (so "wrapper") .wrap:=⟨fun h=>bU (aV (a:=.str (so "w")) (cK (ad h) cG (bI ag (by decide)) (by kernel_rfl)) ag (by kernel_rfl)) (ad h)⟩
theorem pre_add (s:Sm): ∃a b,opD .add (.str (smS s)) (.str (so "__"))=some a∧opD .add a (.str (strI 5))=some b∧opD .add b (.str (so "_"))=some (.str (preS s)):=by
 cases s
 ·exact ⟨.str (so "op__"),.str (so "op__5"),by kernel_rfl,by kernel_rfl,by kernel_rfl⟩
 ·exact ⟨.str (so "pick__"),.str (so "pick__5"),by kernel_rfl,by kernel_rfl,by kernel_rfl⟩
 ·exact ⟨.str (so "mark__"),.str (so "mark__5"),by kernel_rfl,by kernel_rfl,by kernel_rfl⟩
 ·exact ⟨.str (so "wrapper__"),.str (so "wrapper__5"),by kernel_rfl,by kernel_rfl,by kernel_rfl⟩
theorem X_incCount {ft:FT}{st:St}{k:Nat}{b:Bld}(h:a8 st k=some (.hnd 2))(hb:st.g.bld=some b)(hs:bl (b.count + 1)=true):ex ft (.incCount k) st=.ok (.next,{st with g:={st.g with bld:=some {b with count:=b.count + 1}}}):=aI (cQ h) (aI hb (if_pos hs))
theorem E_number {ft:FT}{st:St}{k:Nat}{b:Bld}(h:a8 st k=some (.hnd 2))(hb:st.g.bld=some b):ev ft (.number k) st=.ok (.int b.number,st):=aI (cQ h) (aI hb rfl)
theorem E_count {ft:FT}{st:St}{k:Nat}{b:Bld}(h:a8 st k=some (.hnd 2))(hb:st.g.bld=some b):ev ft (.count k) st=.ok (.int b.count,st):=aI (cQ h) (aI hb rfl)
theorem E_table {ft:FT}{st:St}{k:Nat}(h:a8 st k=some (.hnd 1)):ev ft (.table k) st=.ok (.dct [],st):=aI (cQ h) rfl
theorem X_stepsApp {ft:FT}{st s1:St}{k:Nat}{e:E}{d:D}{b0 b:Bld}(h:a8 st k=some (.hnd 1))(hb:st.g.bld=some b0)(h1:ev ft e st=.ok (d,s1))(h2:s1.g.bld=some b)(hl:b.steps.length≤1000):ex ft (.stepsApp k e) st=.ok (.next,{s1 with g:={s1.g with bld:=some {b with steps:=b.steps++[d]}}}):=aI (cQ h) (aI hb (aA h1 (aI h2 (if_pos hl))))
theorem iu {x:Str}{s:Sm}(hs:SmIs x s){g:G}{c:Nat}{st inn:List D}(hc:c < 30):aG t0 ir_nfresh [.hnd 2,.str x] (gB g c st inn)=.ok (.str (frS s (c + 1)),gB g (c + 1) st inn):=by
 refine x23 (pre_add s) fun a b e1 e2 e3=>?_
 have hl:=fr_len (s:=s) (c:=c + 1) (by assumption)
 have e4:opD .add (.str (preS s)) (.str (strI ((c:Int) + 1)))=some (.str (frS s (c + 1))):=by
  have:((c:Int) + 1)=((c + 1:Nat):Int):=by rfl
  rw [this]
  exact if_pos hl
 have hg:gB g (c + 1) st inn={g with bld:=some ⟨5,(c:Int) + 1,st,inn⟩}:=by unfold gB;congr 2
 rw [hg]
 exact bu (f:=ir_nfresh) (st:=⟨[some (.val (.hnd 2)),some (.val (.str x)),some (.val (.str (smS s)))],{g with bld:=some ⟨5,(c:Int) + 1,st,inn⟩}⟩) rfl (ah (X_incCount (b:=⟨5,c,st,inn⟩) rfl rfl (dt (by exact ni [_] [(.n 0,Z0)] (.s (.n (-1000000))) (.s Z0) rfl (Int.natCast_nonneg _)) (by show (c:Int) + 1 < _;exact ni [_] [(.s Z0,.n 30)] (.s (.s Z0)) (.n 1000000) rfl (Int.ofNat_lt.2 hc)))) (ah (aB (i:=2) (hs.ev rfl)) (aW (bE (bD (bD (bD (bD (ad rfl) ag e1) (E_str (i:=5) (E_number (b:=⟨5,(c:Int) + 1,st,inn⟩) rfl rfl) (by decide)) e2) ag e3) (E_str (i:=(c:Int) + 1) (E_count (b:=⟨5,(c:Int) + 1,st,inn⟩) rfl rfl) (dt (by exact ni [_] [(.n 0,Z0)] (.s (.n (-1000000))) (.s Z0) rfl (Int.natCast_nonneg _)) (by show (c:Int) + 1 < _;exact ni [_] [(.s Z0,.n 30)] (.s (.s Z0)) (.n 1000000) rfl (Int.ofNat_lt.2 hc)))) e4)))))
theorem lay_ok {g:G}{c:Nat}{st inn:List D}{a d:D}(hl:st.length≤1000):aG t0 ir_lay [.hnd 1,a,d] (gB g c st inn)=.ok (.none,gB g c (st++[.tup [a,d]]) inn):=
 run_next (f:=ir_lay) (st:=⟨[some (.val (.hnd 1)),some (.val a),some (.val d)],gB g c (st++[.tup [a,d]]) inn⟩) rfl (ah (X_stepsApp rfl rfl (aF (af (ad rfl) (af (ad rfl) ao)) (am rfl)) rfl hl) ar)
theorem fresh_mark_ok {x:Str}{g:G}:aG t0 ir_fresh_mark [aq x,.dct []] g=.ok (aq x,g):=
 bu (f:=ir_fresh_mark) (st:=⟨[some (.val (aq x)),some (.val (.dct []))],g⟩) rfl (ah (aD (E_and (A_t (aV (t:=true) (ay (ad rfl) ag ix0) ag (by kernel_rfl)) (A_f (E_inn (t:=false) (ay (ad rfl) ag ix1) (ad rfl) rfl)))) ar)
  (ah (aD (eZ (R_f (aV (t:=false) (ay (ad rfl) ag ix0) ag (by kernel_rfl)) (R_f (aV (t:=false) (ay (ad rfl) ag ix0) ag (by kernel_rfl)) eK))) ar) (aW (bE (ad rfl)))))
noncomputable def di (line:Int)(m:Str)(c:Nat):D:=.tup [.str (so "generic"),.tup [.str (so "subtype"),.int line,.str (frS .mark c),.tup [.str (so "sub"),aq m,.none]]]
theorem mark_ok {g:G}{c:Nat}{st inn:List D}{line:Int}{x:Str}(hc:c < 30)(hl:st.length≤900):aG t1 ir_mark [.hnd 1,.int line,aq x] (gB g c st inn)=.ok (aq (frS .mark (c + 1)),gB g (c + 1) (st++[di line x (c + 1)]) inn):=
 bu (f:=ir_mark) (st:=⟨[some (.val (.hnd 1)),some (.val (.int line)),some (.val (aq x)),some (.val (.str (frS .mark (c + 1))))],gB g (c + 1) (st++[di line x (c + 1)]) inn⟩) rfl (ah (aB (i:=3) (E_fresh rfl rfl ag (iu sm_mark hc)))
  (ah (X_lay rfl ag (aF (af ag (af (ad rfl) (af (ad rfl) (af (aF (af ag (af (bt (af (ad rfl) (af (E_table rfl) ao)) fresh_mark_ok) (af ag ao))) (am rfl)) ao)))) (am rfl)) (lay_ok (lec ‹_› (by rfl)))) (aW (bE (aF (af ag (af (ad rfl) ao)) (am rfl))))))
noncomputable def npm:Pm→Nat
 | .sep _ _=>2
 | _=>1
noncomputable def ngv:Gv→Nat
 | .no=>0
 | _=>1
noncomputable def mkn (c:Nat):D:=aq (frS .mark c)
noncomputable def eO:Pm→Nat→List D
 | .one _,c=>[.tup [.lst [.str (so "x")],.str (so "in"),mkn (c + 1),.none]]
 | .two _,c=>[.tup [.lst [.str (so "x"),.str (so "y")],.str (so "in"),mkn (c + 1),.none]]
 | .sep _ _,c=>[.tup [.lst [.str (so "x")],.str (so "in"),mkn (c + 1),.none],.tup [.lst [.str (so "y")],.str (so "in"),mkn (c + 2),.none]]
noncomputable def resF:Gv→Nat→D
 | .no,_=>.none
 | _,c=>mkn (c + 1)
noncomputable def eA (f:Fm)(F:Str)(c:Nat):D:=.tup [.str (e9 f.gv),.str F,.lst (eO f.pm c),resF f.gv (c + npm f.pm)]
noncomputable def fS (line:Int):Pm→Nat→List D
 | .one a,c=>[di line (tuS a) (c + 1)]
 | .two a,c=>[di line (tuS a) (c + 1)]
 | .sep a b,c=>[di line (tuS a) (c + 1),di line (tuS b) (c + 2)]
noncomputable def gvSt (line:Int):Gv→Nat→List D
 | .no,_=>[]
 | g,c=>[di line (gvS g) (c + 1)]
noncomputable def fX (f:Fm)(c:Nat):List D:=fS f.line f.pm c++gvSt f.line f.gv (c + npm f.pm)
noncomputable def f6:List S:=fm ((ir_fresh_spec.body[2]?).getD .dead)
theorem i8 {g:G}{c:Nat}{st inn L:List D}{line:Int}{S0 S4 S5 S6 S7:D}{F x m:Str}{nsD:D}{t9 t10 t11 t12:Option Slot}(hc:c < 30)(hl:st.length≤900)(hL:L.length≤100):
  ((Res.ofOpt (bb ⟨[some (.val (.hnd 1)),some (.val (.int line)),some (.val S0),some (.val (.str F)),some (.val S4),some (.val S5),some (.val S6),some (.val S7),some (.own (.lst L)),t9,t10,t11,t12],gB g c st inn⟩ [9,10,11,12] (.tup [nsD,.str x,aq m,.none]))).bind fun s1=>exs t2 f6 s1)=
   .ok (.next,⟨[some (.val (.hnd 1)),some (.val (.int line)),some (.val S0),some (.val (.str F)),some (.val S4),some (.val S5),some (.val S6),some (.val S7),some (.own (.lst (L++[.tup [nsD,.str x,mkn (c + 1),.none]]))),some (.val nsD),some (.val (.str x)),some (.val (aq m)),some (.val .none)],gB g (c + 1) (st++[di line m (c + 1)]) inn⟩):=by
 show exs t2 f6 ⟨[some (.val (.hnd 1)),some (.val (.int line)),some (.val S0),some (.val (.str F)),some (.val S4),some (.val S5),some (.val S6),some (.val S7),some (.own (.lst L)),some (.val nsD),some (.val (.str x)),some (.val (aq m)),some (.val .none)],gB g c st inn⟩=_
 exact ah (fB rfl (aF (af (ad rfl) (af (ad rfl) (af (E_mark rfl (ad rfl) (ad rfl) (mark_ok hc hl)) (af ag ao)))) (am rfl)) rfl (lec ‹_› (by rfl))) ar
theorem fs_loop {g:G}{c:Nat}{st inn:List D}{line:Int}{S0 S4 S5 S7:D}{F:Str}{pm:Pm}(hc:c + 2 < 30)(hl:st.length≤800):
  ∃t9 t10 t11 t12,ex t2 (.forL [9,10,11,12] (.var 6) f6) ⟨[some (.val (.hnd 1)),some (.val (.int line)),some (.val S0),some (.val (.str F)),some (.val S4),some (.val S5),some (.val (.lst (be pm))),some (.val S7),some (.own (.lst [])),none,none,none,none],gB g c st inn⟩=
   .ok (.next,⟨[some (.val (.hnd 1)),some (.val (.int line)),some (.val S0),some (.val (.str F)),some (.val S4),some (.val S5),some (.val (.lst (be pm))),some (.val S7),some (.own (.lst (eO pm c))),t9,t10,t11,t12],gB g (c + npm pm) (st++fS line pm c) inn⟩):=by
 rw [eJ (ds:=be pm) (ad rfl) (by cases pm <;> exact am rfl)]
 cases pm with
 | one a=>
  have h1:=i8 (g:=g) (c:=c) (st:=st) (inn:=inn) (L:=[]) (line:=line) (S0:=S0) (S4:=S4) (S5:=S5) (S6:=.lst (be (.one a))) (S7:=S7) (F:=F) (x:=so "in") (m:=tuS a) (nsD:=.lst [.str (so "x")]) (t9:=none) (t10:=none) (t11:=none) (t12:=none) (by exact nl [_] [(.s (.a N0 (.n 2)),.n 30)] (.s N0) (.n 30) rfl hc) (lec ‹_› (by rfl)) (by simp)
  exact ⟨_,_,_,_,(eT (f:=fun d s=>(Res.ofOpt (bb s [9,10,11,12] d)).bind fun s1=>exs t2 f6 s1) (r:=[]) h1).trans rfl⟩
 | two a=>
  have h1:=i8 (g:=g) (c:=c) (st:=st) (inn:=inn) (L:=[]) (line:=line) (S0:=S0) (S4:=S4) (S5:=S5) (S6:=.lst (be (.two a))) (S7:=S7) (F:=F) (x:=so "in") (m:=tuS a) (nsD:=.lst [.str (so "x"),.str (so "y")]) (t9:=none) (t10:=none) (t11:=none) (t12:=none) (by exact nl [_] [(.s (.a N0 (.n 2)),.n 30)] (.s N0) (.n 30) rfl hc) (lec ‹_› (by rfl)) (by simp)
  exact ⟨_,_,_,_,(eT (f:=fun d s=>(Res.ofOpt (bb s [9,10,11,12] d)).bind fun s1=>exs t2 f6 s1) (r:=[]) h1).trans rfl⟩
 | sep a b=>
  have h1:=i8 (g:=g) (c:=c) (st:=st) (inn:=inn) (L:=[]) (line:=line) (S0:=S0) (S4:=S4) (S5:=S5) (S6:=.lst (be (.sep a b))) (S7:=S7) (F:=F) (x:=so "in") (m:=tuS a) (nsD:=.lst [.str (so "x")]) (t9:=none) (t10:=none) (t11:=none) (t12:=none) (by exact nl [_] [(.s (.a N0 (.n 2)),.n 30)] (.s N0) (.n 30) rfl hc) (lec ‹_› (by rfl)) (by simp)
  have h2:=i8 (g:=g) (c:=c + 1) (st:=st++[di line (tuS a) (c + 1)]) (inn:=inn) (L:=[.tup [.lst [.str (so "x")],.str (so "in"),mkn (c + 1),.none]]) (line:=line) (S0:=S0) (S4:=S4) (S5:=S5) (S6:=.lst (be (.sep a b))) (S7:=S7) (F:=F) (x:=so "in") (m:=tuS b) (nsD:=.lst [.str (so "y")])
   (t9:=some (.val (.lst [.str (so "x")]))) (t10:=some (.val (.str (so "in")))) (t11:=some (.val (aq (tuS a)))) (t12:=some (.val .none)) (Nat.le_of_lt ‹_›) (by simp;exact lec ‹_› (by rfl)) (by simp)
  have e:st++fS line (.sep a b) c=(st++[di line (tuS a) (c + 1)])++[di line (tuS b) (c + 2)]:=by rw [List.append_assoc];rfl
  rw [e]
  exact ⟨_,_,_,_,(eT (f:=fun d s=>(Res.ofOpt (bb s [9,10,11,12] d)).bind fun s1=>exs t2 f6 s1) (r:=[.tup [.lst [.str (so "y")],.str (so "in"),aq (tuS b),.none]]) h1).trans ((eT (f:=fun d s=>(Res.ofOpt (bb s [9,10,11,12] d)).bind fun s1=>exs t2 f6 s1) (r:=[]) h2).trans rfl)⟩
theorem fspec_ok {g:G}{c:Nat}{st inn:List D}{f:Fm}{F:Str}(hc:c + 3 < 30)(hl:st.length≤700):
  aG t2 ir_fresh_spec [.hnd 1,.int f.line,a7 f,.str F] (gB g c st inn)=.ok (eA f F c,gB g (c + npm f.pm + ngv f.gv) (st++fX f c) inn):=by
 obtain ⟨t9,t10,t11,t12,hloop⟩:=fs_loop (g:=g) (c:=c) (st:=st) (inn:=inn) (line:=f.line) (S0:=a7 f) (S4:=.str (e9 f.gv)) (S5:=.str (nmS f.nm)) (S7:=ig f.gv) (F:=F) (pm:=f.pm) (Nat.le_of_lt ‹_›) (lec ‹_› (by rfl))
 have hn:npm f.pm≤2:=by cases f.pm <;> simp [npm]
 have hst:(st++fS f.line f.pm c).length≤900:=by
  have:(fS f.line f.pm c).length≤2:=by cases f.pm <;> simp [fS]
  rw [List.length_append];exact Nat.le_trans (Nat.add_le_add ‹_› ‹_›) (by decide)
 have hif:ex t2 (.ife (.isNN (.var 7)) [.assign 7 (.mark 0 (.var 1) (.var 7))] []) ⟨[some (.val (.hnd 1)),some (.val (.int f.line)),some (.val (a7 f)),some (.val (.str F)),some (.val (.str (e9 f.gv))),some (.val (.str (nmS f.nm))),some (.val (.lst (be f.pm))),some (.val (ig f.gv)),some (.own (.lst (eO f.pm c))),t9,t10,t11,t12],gB g (c + npm f.pm) (st++fS f.line f.pm c) inn⟩=
   .ok (.next,⟨[some (.val (.hnd 1)),some (.val (.int f.line)),some (.val (a7 f)),some (.val (.str F)),some (.val (.str (e9 f.gv))),some (.val (.str (nmS f.nm))),some (.val (.lst (be f.pm))),some (.val (resF f.gv (c + npm f.pm))),some (.own (.lst (eO f.pm c))),t9,t10,t11,t12],gB g (c + npm f.pm + ngv f.gv) (st++fX f c) inn⟩):=by
  unfold fX
  rw [←List.append_assoc]
  cases f.gv with
  | no=>
   rw [show gvSt f.line .no (c + npm f.pm)=[] from rfl,List.append_nil]
   exact aD (gM (a:=.none) (ad rfl)) ar
  | t=>exact aZ (gM (a:=ig .t) (ad rfl)) (ah (aB (i:=7) (E_mark rfl (ad rfl) (ad rfl) (mark_ok (by exact nl [_,_] [(N0,.n 2),(.s (.a N1 (.n 3)),.n 30)] (.s (.a N1 N0)) (.n 30) rfl hn hc) hst))) ar)
  | u=>exact aZ (gM (a:=ig .u) (ad rfl)) (ah (aB (i:=7) (E_mark rfl (ad rfl) (ad rfl) (mark_ok (by exact nl [_,_] [(N0,.n 2),(.s (.a N1 (.n 3)),.n 30)] (.s (.a N1 N0)) (.n 30) rfl hn hc) hst))) ar)
 exact bu (f:=ir_fresh_spec) (st:=⟨[some (.val (.hnd 1)),some (.val (.int f.line)),some (.val (a7 f)),some (.val (.str F)),some (.val (.str (e9 f.gv))),some (.val (.str (nmS f.nm))),some (.val (.lst (be f.pm))),some (.val (resF f.gv (c + npm f.pm))),some (.val (.lst (eO f.pm c))),t9,t10,t11,t12],gB g (c + npm f.pm + ngv f.gv) (st++fX f c) inn⟩) rfl
  (ah (dS (ds:=[.str (e9 f.gv),.str (nmS f.nm),.lst (be f.pm),ig f.gv]) (ad rfl) rfl) (ah (dT (i:=8) ao (am rfl)) (ah hloop (ah hif (aW (bE (aF (af (ad rfl) (af (ad rfl) (af (dM rfl) (af (ad rfl) ao)))) (am rfl))))))))
theorem opnode_ok {nm:Nm}{g:G}:aG t0 ir_operator_node [.str (nmS nm)] g=.ok (opN nm,g):=by
 cases nm <;> kernel_rfl
noncomputable def du (f:Fm)(d:D):D:=.tup [.str (so "rename"),.int f.line,.str (so "subprog"),.str (nmS f.nm),a7 f,d]
noncomputable def insSt (f:Fm)(c:Nat)(node:D):D:=.tup [.str (so "instance"),.tup [.str (so "rename"),.int f.line,.str (so "subprog"),.str (frS (smN f.nm) (c + 1)),eA f (frS (smN f.nm) (c + 1)) (c + 1),node]]
inductive Act where
 | act (a:Str)
 | box
 | dfl
noncomputable def cF (f:Fm):Act→D
 | .act a=>.tup [.str (so "actual"),aq a]
 | .box=>.tup [.str (so "box")]
 | .dfl=>.tup [.str (so "default"),dfD f.df]
noncomputable def dX (f:Fm):Act→D
 | .act a=>aq a
 | .box=>opN f.nm
 | .dfl=>dfD f.df
noncomputable def isL:Act→Bool
 | .dfl=>false
 | _=>true
noncomputable def db (f:Fm)(c:Nat)(A:Act):List D:=if isL A=true then fX f (c + 1)++[insSt f c (dX f A)] else []
noncomputable def cI (f:Fm)(c:Nat)(A:Act):D:=if isL A=true then du f (aq (frS (smN f.nm) (c + 1))) else du f (dfD f.df)
noncomputable def cB (f:Fm)(A:Act):Nat:=if isL A=true then 1 + npm f.pm + ngv f.gv else 0
theorem fresh_at {k:Nat}{nm:Nm}{g:G}{c:Nat}{st inn:List D}{ρ:List (Option Slot)}(h0:a8 ⟨ρ,gB g c st inn⟩ 0=some (.hnd 1))(h:a8 ⟨ρ,gB g c st inn⟩ k=some (.str (nmS nm)))(hc:c < 30):ev t3 (.fresh 0 (.var k)) ⟨ρ,gB g c st inn⟩=.ok (.str (frS (smN nm) (c + 1)),⟨ρ,gB g (c + 1) st inn⟩):=by
 have e0:=iu (sm_nm nm) (g:=g) (st:=st) (inn:=inn) hc
 generalize frS (smN nm) (c + 1)=x at e0
 generalize gB g (c + 1) st inn=y at e0
 have hnf:t3 .nfresh [.hnd 2,.str (nmS nm)] (gB g c st inn)=.ok (.str x,y):=e0
 exact E_fresh (b:=⟨5,c,st,inn⟩) h0 rfl (ad h) hnf
theorem lay_sub_ok {g:G}{c:Nat}{st inn:List D}{f:Fm}{A:Act}(hc:c + 4 < 30)(hl:st.length≤600)(hi:inn.length≤600):
  aG t3 ir_lay_formal_sub [.hnd 1,fmD f,.dct [(nmS f.nm,cF f A)]] (gB g c st inn)=.ok (.none,gB g (c + cB f A) (st++db f c A) (inn++[cI f c A])):=by
 have hlook: ∀{d:D},ixD (.dct [(nmS f.nm,d)]) (.str (nmS f.nm))=some d:=fun {d}=>by
  show aX (nmS f.nm) [(nmS f.nm,d)]=some d
  exact if_pos rfl
 have pre: ∀{q:List S} {R:Res (Fl×St)},exs t3 q ⟨[some (.val (.hnd 1)),some (.val (fmD f)),some (.val (.dct [(nmS f.nm,cF f A)])),some (.val (.str (so "fsub"))),some (.val (.int f.line)),some (.val (a7 f)),some (.val (dfD f.df)),some (.val (.str (nmS f.nm))),some (.val (cF f A)),none,none],gB g c st inn⟩=R→
   exs t3 (ir_lay_formal_sub.body.take 3++q) ⟨[some (.val (.hnd 1)),some (.val (fmD f)),some (.val (.dct [(nmS f.nm,cF f A)])),none,none,none,none,none,none,none,none],gB g c st inn⟩=R:=fun h=>
  ah (dS (ds:=[.str (so "fsub"),.int f.line,a7 f,dfD f.df]) (ad rfl) rfl) (ah (aB (i:=7) (ay (ad rfl) ag ix1)) (ah (aB (i:=8) (ay (ad rfl) (ad rfl) hlook)) h))
 have go: ∀{node:D},isL A=true→dX f A=node→(∃w,eqD (.str w) (.str (so "default"))=some false∧ixD (cF f A) (.int 0)=some (.str w))→
   ev t3 (.ite (.op .eq (.ix (.var 8) (.cst (.int 0))) (.cst (.str (so "box")))) (.call .operator_node [(.var 7)]) (.ix (.var 8) (.cst (.int 1)))) ⟨[some (.val (.hnd 1)),some (.val (fmD f)),some (.val (.dct [(nmS f.nm,cF f A)])),some (.val (.str (so "fsub"))),some (.val (.int f.line)),some (.val (a7 f)),some (.val (dfD f.df)),some (.val (.str (nmS f.nm))),some (.val (cF f A)),none,none],gB g c st inn⟩=
    .ok (node,⟨[some (.val (.hnd 1)),some (.val (fmD f)),some (.val (.dct [(nmS f.nm,cF f A)])),some (.val (.str (so "fsub"))),some (.val (.int f.line)),some (.val (a7 f)),some (.val (dfD f.df)),some (.val (.str (nmS f.nm))),some (.val (cF f A)),none,none],gB g c st inn⟩)→
   aG t3 ir_lay_formal_sub [.hnd 1,fmD f,.dct [(nmS f.nm,cF f A)]] (gB g c st inn)=.ok (.none,gB g (c + cB f A) (st++db f c A) (inn++[cI f c A])):=by
  intro node hA hnode ⟨w,hw1,hw2⟩ hev
  have hms:(fX f (c + 1)).length≤3:=by
   unfold fX
   rw [List.length_append]
   have h1:(fS f.line f.pm (c + 1)).length≤2:=by cases f.pm <;> simp [fS]
   have h2:(gvSt f.line f.gv (c + 1 + npm f.pm)).length≤1:=by cases f.gv <;> simp [gvSt]
   exact Nat.le_trans (Nat.add_le_add ‹_› ‹_›) (by decide)
  have eN:c + cB f A=c + 1 + npm f.pm + ngv f.gv:=by unfold cB;rw [if_pos hA];exact Nat.le_antisymm (nl [_,_,_] [] (.a N0 (.a (.a (.n 1) N1) N2)) (.a (.a (.s N0) N1) N2) rfl) (nl [_,_,_] [] (.a (.a (.s N0) N1) N2) (.a N0 (.a (.a (.n 1) N1) N2)) rfl)
  have eS:st++db f c A=(st++fX f (c + 1))++[insSt f c node]:=by unfold db;rw [if_pos hA,hnode,List.append_assoc]
  have eI:inn++[cI f c A]=inn++[du f (aq (frS (smN f.nm) (c + 1)))]:=by unfold cI;rw [if_pos hA]
  rw [eN,eS,eI]
  refine run_next (f:=ir_lay_formal_sub) (st:=⟨[some (.val (.hnd 1)),some (.val (fmD f)),some (.val (.dct [(nmS f.nm,cF f A)])),some (.val (.str (so "fsub"))),some (.val (.int f.line)),some (.val (a7 f)),some (.val (dfD f.df)),some (.val (.str (nmS f.nm))),some (.val (cF f A)),some (.val node),some (.val (.str (frS (smN f.nm) (c + 1))))],gB g (c + 1 + npm f.pm + ngv f.gv) ((st++fX f (c + 1))++[insSt f c node]) (inn++[du f (aq (frS (smN f.nm) (c + 1)))])⟩) rfl (pre ?_)
  have h10:ev t3 (.fresh 0 (.var 7)) ⟨[some (.val (.hnd 1)),some (.val (fmD f)),some (.val (.dct [(nmS f.nm,cF f A)])),some (.val (.str (so "fsub"))),some (.val (.int f.line)),some (.val (a7 f)),some (.val (dfD f.df)),some (.val (.str (nmS f.nm))),some (.val (cF f A)),some (.val node),none],gB g c st inn⟩=
    .ok (.str (frS (smN f.nm) (c + 1)),⟨[some (.val (.hnd 1)),some (.val (fmD f)),some (.val (.dct [(nmS f.nm,cF f A)])),some (.val (.str (so "fsub"))),some (.val (.int f.line)),some (.val (a7 f)),some (.val (dfD f.df)),some (.val (.str (nmS f.nm))),some (.val (cF f A)),some (.val node),none],gB g (c + 1) st inn⟩):=
   fresh_at rfl rfl (by exact nl [_] [(.s (.a N0 (.n 4)),.n 30)] (.s N0) (.n 30) rfl hc)
  refine ah (aD (aV (ay (ad rfl) ag hw2) ag hw1) ar) (ah (aB (i:=9) hev) (ah (aB (i:=10) h10) (ah (X_lay rfl ag
   (aF (af ag (af (ad rfl) (af ag (af (ad rfl) (af (bt (af (ad rfl) (af (ad rfl) (af (ad rfl) (af (ad rfl) ao)))) (fspec_ok (by assumption) (lec ‹_› (by rfl)))) (af (ad rfl) ao)))))) (am rfl)) (lay_ok (by rw [List.length_append];exact Nat.le_trans (Nat.add_le_add ‹_› ‹_›) (by decide)))) (ah (X_innerApp rfl rfl (aF (af ag (af (ad rfl) (af ag (af (ad rfl) (af (ad rfl) (af (aF (af ag (af (ad rfl) ao)) (am rfl)) ao)))))) (am rfl)) rfl (show inn.length≤1000 from lec ‹_› (by rfl))) ar))))
 cases A with
 | act a=>exact go rfl rfl ⟨so "actual",by kernel_rfl,ix0⟩ (bU (aV (ay (ad rfl) ag ix0) ag (by kernel_rfl)) (ay (ad rfl) ag ix1))
 | box=>exact go rfl rfl ⟨so "box",by kernel_rfl,ix0⟩ (bT (aV (ay (ad rfl) ag ix0) ag (by kernel_rfl)) (bt (af (ad rfl) ao) opnode_ok))
 | dfl=>
  have eS:st++db f c .dfl=st:=by unfold db;simp [isL]
  rw [eS]
  show aG t3 ir_lay_formal_sub _ _=.ok (.none,gB g c st (inn++[du f (dfD f.df)]))
  exact bu (f:=ir_lay_formal_sub) (st:=⟨[some (.val (.hnd 1)),some (.val (fmD f)),some (.val (.dct [(nmS f.nm,cF f .dfl)])),some (.val (.str (so "fsub"))),some (.val (.int f.line)),some (.val (a7 f)),some (.val (dfD f.df)),some (.val (.str (nmS f.nm))),some (.val (cF f .dfl)),none,none],gB g c st (inn++[du f (dfD f.df)])⟩) rfl (pre (aW (aZ (aV (ay (ad rfl) ag ix0) ag (by kernel_rfl)) (ah (X_innerApp rfl rfl (aF (af ag (af (ad rfl) (af ag (af (ad rfl) (af (ad rfl) (af (ay (ad rfl) ag ix1) ao)))))) (am rfl)) rfl (show inn.length≤1000 from lec ‹_› (by rfl))) (aW (bE ag))))))
noncomputable def iW (T:List Str)(f:Fm):Act:=match T.head? with
 | some a=>.act a
 | none=>match f.df with
  | .box=>.box
  | _=>.dfl
noncomputable def cj (fs:List Fm)(us ns:List Rw):List (Fm×Act):=fs.zipIdx.map fun x=>(x.1,iW (bX us ns x.2 x.1) x.1)
theorem duD_act {T:List Str}{f:Fm}:duD T f=if isL (iW T f)=true then laidD (dX f (iW T f)) else .tup [.str (so "within"),dfD f.df]:=by
 unfold duD iW
 cases T.head? with
 | some a=>rfl
 | none=>cases f.df <;> rfl
theorem actOf_act {fs:List Fm}{rows us ns:List Rw}{fd:List (Str×Str)}{i:Nat}{a:Fm×Str}(hf:fs.length≤5)(s:Split fs rows us ns fd)(ha:(ann fs)[i]? =some a):
  actOf fd a=cF a.1 (iW (bX us ns i a.1) a.1):=by
 have h:=act_told hf s ha
 unfold actOf iW
 rw [←h]
 cases fd.find? fun p=>decide (p.1=a.2) with
 | some p=>rfl
 | none=>
  show mdD a.1.df=_
  cases h:a.1.df <;> simp only [mdD,cF,h,Option.map_none]
noncomputable def aU (c:Nat):List (Fm×Act)→Nat
 | []=>c
 | x::r=>aU (c + cB x.1 x.2) r
noncomputable def stP (c:Nat):List (Fm×Act)→List D
 | []=>[]
 | x::r=>db x.1 c x.2++stP (c + cB x.1 x.2) r
noncomputable def inP (c:Nat):List (Fm×Act)→List D
 | []=>[]
 | x::r=>cI x.1 c x.2::inP (c + cB x.1 x.2) r
theorem cntP_snoc (p:List (Fm×Act))(x:Fm×Act)(c:Nat):aU c (p++[x])=aU c p + cB x.1 x.2:=by
 induction p generalizing c with
 | nil=>rfl
 | cons y r ih=>exact ih _
theorem stP_snoc (p:List (Fm×Act))(x:Fm×Act)(c:Nat):stP c (p++[x])=stP c p++db x.1 (aU c p) x.2:=by
 induction p generalizing c with
 | nil=>exact List.append_nil _
 | cons y r ih=>exact (congrArg (db y.1 c y.2++ ·) (ih _)).trans (List.append_assoc _ _ _).symm
theorem inP_snoc (p:List (Fm×Act))(x:Fm×Act)(c:Nat):inP c (p++[x])=inP c p++[cI x.1 (aU c p) x.2]:=by
 induction p generalizing c with
 | nil=>rfl
 | cons y r ih=>exact congrArg (cI y.1 c y.2:: ·) (ih _)
theorem layN_le (f:Fm)(A:Act):cB f A≤4:=by
 have h1:npm f.pm≤2:=by cases f.pm <;> simp [npm]
 have h2:ngv f.gv≤1:=by cases f.gv <;> simp [ngv]
 unfold cB;split <;> omega
theorem laySt_le (f:Fm)(A:Act)(c:Nat):(db f c A).length≤4:=by
 unfold db
 split
 ·unfold fX
  rw [List.length_append,List.length_append]
  have h1:(fS f.line f.pm (c + 1)).length≤2:=by cases f.pm <;> simp [fS]
  have h2:(gvSt f.line f.gv (c + 1 + npm f.pm)).length≤1:=by cases f.gv <;> simp [gvSt]
  simp only [List.length_cons,List.length_nil];exact nl [_,_] [(N0,.n 1),(N1,.n 2)] (.s (.a N1 N0)) (.n 4) rfl h2 h1
 ·simp
theorem eY (p:List (Fm×Act))(c:Nat):aU c p≤c + 4 * p.length:=by
 induction p generalizing c with
 | nil=>exact Nat.le_add_right _ _
 | cons y r ih=>
  exact nl [_,_,_,_] [(N0,.a (.a N1 N2) (.m 4 N3)),(N2,.n 4)] N0 (.a N1 (.m 4 (.s N3))) rfl (ih (c + cB y.1 y.2)) (layN_le y.1 y.2)
theorem stP_le (p:List (Fm×Act))(c:Nat):(stP c p).length≤4 * p.length:=by
 induction p generalizing c with
 | nil=>exact Nat.zero_le _
 | cons y r ih=>
  show (db y.1 c y.2++stP (c + cB y.1 y.2) r).length≤4 * (r.length + 1)
  rw [List.length_append]
  exact nl [_,_,_] [(N0,.m 4 N2),(N1,.n 4)] (.a N1 N0) (.m 4 (.s N2)) rfl (ih _) (laySt_le y.1 y.2 c)
theorem gD (p:List (Fm×Act))(c:Nat):(inP c p).length=p.length:=by
 induction p generalizing c with
 | nil=>rfl
 | cons y r ih=>exact congrArg (· + 1) (ih _)
theorem good_uniq {fs:List Fm}{rows:List Rw}{fd fd':List (Str×Str)}(h:dq fs rows fd)(h':dq fs rows fd'):fd=fd':=by
 obtain ⟨_,⟨b,e⟩,_⟩:=h
 obtain ⟨_,⟨b',e'⟩,_⟩:=h'
 rw [e] at e'
 exact (Prod.mk.inj (Option.some.inj e')).1
inductive Us where
 | pkg | pro | fn
 deriving DecidableEq
noncomputable def usS:Us→Str
 | .pkg=>so "package"
 | .pro=>so "procedure"
 | .fn=>so "function"
noncomputable def aY:Us→D
 | .pkg=>.tup [.str (so "package"),.int 9,.str (so "unit"),.lst [],.lst []]
 | .pro=>.tup [.str (so "subprog"),.int 9,.tup [.str (so "procedure"),.str (so "unit"),.lst [],.none]]
 | .fn=>.tup [.str (so "subprog"),.int 9,.tup [.str (so "function"),.str (so "unit"),.lst [],aq (so "t")]]
theorem us_eq (u w:Us):eqD (.str (usS u)) (.str (usS w))=some (decide (u=w)):=by cases u <;> cases w <;> kernel_rfl
theorem unit_sort_ok {u:Us}{g:G}:aG t0 ir_unit_sort [aY u] g=.ok (.str (usS u),g):=by cases u <;> kernel_rfl
theorem unit_name_ok {u:Us}{g:G}:aG t0 ir_unit_name [aY u] g=.ok (.str (so "unit"),g):=by cases u <;> kernel_rfl
noncomputable def iI (fs:List Fm)(u:Us):D:=.tup [.str (so "generic"),.int 2,fsL fs,aY u]
noncomputable def dy (line:Int)(w:Us)(rows:List Rw):D:=.tup [.str (so "instance"),.int line,.str (usS w),.str (so "mine"),aq (so "unit"),.lst (rows.map asD)]
noncomputable def gp (line:Int)(c:Nat)(u:Us)(inn:List D):D:=.tup [.str (so "generic"),.tup [.str (so "package"),.int line,.str (frS .wrap (c + 1)),.lst (inn++[aY u]),.lst []]]
noncomputable def eH (line:Int)(c:Nat):D:=.tup [.str (so "alias"),.int line,.str (so "mine"),.tup [.str (so "select"),aq (frS .wrap (c + 1)),.str (so "unit")]]
noncomputable def insBody:List S:=fm ((ir_instantiate.body[6]?).getD .dead)
noncomputable def isl (fs:List Fm)(u w:Us)(line:Int)(rows:List Rw)(fd:List (Str×Str))(t16 t18 t19:Option Slot):List (Option Slot):=
 [some (.val (iI fs u)),some (.val .none),some (.val (dy line w rows)),some (.val (.int 5)),some (.val (.str (so "instance"))),some (.val (.int line)),some (.val (.str (usS w))),some (.val (.str (so "mine"))),some (.val (aq (so "unit"))),some (.val (.lst (rows.map asD))),some (.val (aY u)),some (.val (.dct (a9 fd++bg fd (ann fs)))),some (.val (.lst ((ann fs).map fun a=>.lst [.str a.2]))),some (.val (.dct (bF fs))),some (.val (.dct (cJ fs))),some (.val (.hnd 1)),t16,none,t18,t19]
theorem acts_at {fs:List Fm}{us ns:List Rw}{i:Nat}{x:Fm×Act}(h:(cj fs us ns)[i]? =some x):fs[i]? =some x.1∧x.2=iW (bX us ns i x.1) x.1:=by
 unfold cj at h
 rw [List.getElem?_map,List.getElem?_zipIdx] at h
 cases hf:fs[i]? with
 | none=>rw [hf] at h;cases h
 | some f=>
  rw [hf] at h
  simp only [Option.map_some,Nat.zero_add,Option.some.injEq] at h
  subst h
  exact ⟨rfl,rfl⟩
theorem jI {fs:List Fm}{us ns:List Rw}:(cj fs us ns).length=fs.length:=by simp [cj]
theorem ins_turn {fs:List Fm}{u w:Us}{line:Int}{rows us ns:List Rw}{fd:List (Str×Str)}{t16 t18 t19:Option Slot}{g:G}{i c:Nat}{st inn:List D}{x:Fm×Act}(hf:fs.length≤5)(s:Split fs rows us ns fd)(hx:(cj fs us ns)[i]? =some x)(hc:c + 4 < 30)(hl:st.length≤600)(hi:inn.length≤600):
  exs t4 insBody ((⟨isl fs u w line rows fd t16 t18 t19,gB g c st inn⟩:St).set 16 (.val (.int i)))=.ok (.next,⟨isl fs u w line rows fd (some (.val (.int i))) t18 t19,gB g (c + cB x.1 x.2) (st++db x.1 c x.2) (inn++[cI x.1 c x.2])⟩):=by
 refine x02 (acts_at hx) fun h1 h2=>?_
 refine x12 (ann_at h1) fun a h3 h4=>?_
 have hm:a∈ann fs:=List.mem_of_getElem? h3
 have hi5:i < 100000:=by have:=(List.getElem?_eq_some_iff.mp h1).1;exact nl [_,_] [(.s N0,N1),(N1,.n 5)] (.s N0) (.n 100000) rfl this hf
 have hv:=actOf_act hf s h3
 rw [h4,←h2] at hv
 have hn:=jy hf hm
 rw [h4] at hn
 have hfd:=found_at (fd:=fd) hf hm
 rw [hv] at hfd
 have hfi:ixD (fsL fs) (.int i)=some (fmD x.1):=ca (f:=fmD) h1 hi5
 have e2:ev t4 (.ix (.ix (.var 0) (.cst (.int 2))) (.var 16)) ⟨isl fs u w line rows fd (some (.val (.int i))) t18 t19,gB g c st inn⟩=.ok (fmD x.1,⟨isl fs u w line rows fd (some (.val (.int i))) t18 t19,gB g c st inn⟩):=
  ay (ay (ad rfl) ag ix2) (ad rfl) hfi
 have e3:ev t4 (.dcomp 17 (.ix (.var 12) (.var 16)) (.ix (.var 13) (.var 17)) (.ix (.var 11) (.var 17))) ⟨isl fs u w line rows fd (some (.val (.int i))) t18 t19,gB g c st inn⟩=.ok (.dct [(nmS x.1.nm,cF x.1 x.2)],⟨isl fs u w line rows fd (some (.val (.int i))) t18 t19,gB g c st inn⟩):=by
  refine E_dcomp (emb:=D.str) (xs:=[a.2]) (h:=fun _=>.tup [.str (nmS x.1.nm),cF x.1 x.2]) (ay (ad rfl) (ad rfl) (ca (f:=fun a:Fm×Str=>D.lst [.str a.2]) h3 hi5)) (by simp) fun y hy=>?_
  rw [List.mem_singleton.mp hy]
  exact ⟨.str (nmS x.1.nm),_,cF x.1 x.2,_,ay (ad rfl) (ad rfl) hn,ay (ad rfl) (ad rfl) hfd,rfl,rfl⟩
 exact ah (X_ex (E_callL (ay e2 ag ix0) (af (ad rfl) (af e2 (af e3 ao))) (lay_sub_ok hc hl hi))) ar
theorem zip_snd {α:Type}(l:List α):l.zipIdx.map (fun q=>D.int q.2)=(List.range l.length).map fun i:Nat=>D.int i:=by
 have:l.zipIdx.map (fun q=>D.int q.2)=(l.zipIdx.map Prod.snd).map fun i:Nat=>D.int i:=by rw [List.map_map];rfl
 rw [this,List.zipIdx_map_snd,List.range_eq_range']
theorem ins_loop {fs:List Fm}{u w:Us}{line:Int}{rows us ns:List Rw}{fd:List (Str×Str)}{t16 t18 t19:Option Slot}{g:G}(hf:fs.length≤5)(s:Split fs rows us ns fd):
  ∃t,ex t4 (.forR 16 (.len (.ix (.var 0) (.cst (.int 2)))) insBody) ⟨isl fs u w line rows fd t16 t18 t19,gB g 0 [] []⟩=.ok (.next,⟨isl fs u w line rows fd t t18 t19,gB g (aU 0 (cj fs us ns)) (stP 0 (cj fs us ns)) (inP 0 (cj fs us ns))⟩):=by
 have hlen:=jI (fs:=fs) (us:=us) (ns:=ns)
 rw [X_forR (n:=fs.length) (cM (ay (ad rfl) ag ix2) (by simp only [fsL,da,List.length_map]) (lec ‹_› (by rfl))) (lec ‹_› (by rfl)),←hlen,←zip_snd]
 refine cA (emb:=fun q:(Fm×Act)×Nat=>D.int q.2) (fun p st=> ∃t,st=⟨isl fs u w line rows fd t t18 t19,gB g (aU 0 (p.map (·.1))) (stP 0 (p.map (·.1))) (inP 0 (p.map (·.1)))⟩) (fun R=> ∃t,R=.ok (.next,⟨isl fs u w line rows fd t t18 t19,gB g (aU 0 (cj fs us ns)) (stP 0 (cj fs us ns)) (inP 0 (cj fs us ns))⟩)) ?_ (fun st h=>?_) ⟨t16,rfl⟩
 ·rintro p ⟨x,i⟩ q st e ⟨t,rfl⟩
  refine x03 (iX rfl e) fun e1 e2 e3=>?_
  simp only at e1 e2 e3
  have hp:(p.map (·.1)).length≤4:=by rw [List.length_map];exact nl [_,_,_,_] [(N0,N1),(.s N1,N2),(N2,N3),(N3,.n 5)] N0 (.n 4) rfl (Nat.le_of_eq e1.symm) e2 (Nat.le_of_eq hlen) hf
  have h1:=eY (p.map (·.1)) 0
  have h2:=stP_le (p.map (·.1)) 0
  have h3:=gD (p.map (·.1)) 0
  refine .inl ⟨_,ins_turn hf s e3 (by exact nl [_,_] [(N0,.a (.n 0) (.m 4 N1)),(.m 4 N1,.m 4 (.n 4))] (.s (.a N0 (.n 4))) (.n 30) rfl h1 (Nat.mul_le_mul_left 4 hp)) (by exact nl [_,_] [(N0,.m 4 N1),(.m 4 N1,.m 4 (.n 4))] N0 (.n 600) rfl h2 (Nat.mul_le_mul_left 4 hp)) (by exact nl [_,_] [(N0,N1),(N1,.n 4)] N0 (.n 600) rfl (Nat.le_of_eq h3) hp),some (.val (.int i)),?_⟩
  rw [List.map_append,List.map_cons,List.map_nil,cntP_snoc,stP_snoc,inP_snoc]
 ·obtain ⟨t,rfl⟩:=h
  refine ⟨t,?_⟩
  rw [List.zipIdx_map_fst]
theorem fresh_wrap {g:G}{c:Nat}{st inn:List D}{ρ:List (Option Slot)}(h0:a8 ⟨ρ,gB g c st inn⟩ 15=some (.hnd 1))(hc:c < 30):ev t4 (.fresh 15 (.cst (.str (so "wrapper")))) ⟨ρ,gB g c st inn⟩=.ok (.str (frS .wrap (c + 1)),⟨ρ,gB g (c + 1) st inn⟩):=by
 have e0:=iu sm_wrap (g:=g) (st:=st) (inn:=inn) hc
 generalize frS .wrap (c + 1)=x at e0
 generalize gB g (c + 1) st inn=y at e0
 have hnf:t4 .nfresh [.hnd 2,.str (so "wrapper")] (gB g c st inn)=.ok (.str x,y):=e0
 exact E_fresh (b:=⟨5,c,st,inn⟩) h0 rfl ag hnf
noncomputable def insTail:List S:=ir_instantiate.body.drop 7
noncomputable def eP (line:Int)(u:Us)(L:List (Fm×Act)):List D:=stP 0 L++[gp line (aU 0 L) u (inP 0 L)]
theorem ins_tail {fs:List Fm}{u w:Us}{line:Int}{rows:List Rw}{fd:List (Str×Str)}{t16:Option Slot}{g:G}{L:List (Fm×Act)}(hL:L.length≤5):
  exs t4 insTail ⟨isl fs u w line rows fd t16 none none,gB g (aU 0 L) (stP 0 L) (inP 0 L)⟩=.ok (.ret (.tup [.lst (eP line u L),eH line (aU 0 L)]),⟨isl fs u w line rows fd t16 (some (.val (.str (frS .wrap (aU 0 L + 1))))) (some (.val (eH line (aU 0 L)))),{g with bld:=none}⟩):=by
 have h1:=eY L 0
 have h2:=stP_le L 0
 have h3:=gD L 0
 unfold eP eH gp
 generalize aU 0 L=c at *
 generalize stP 0 L=st at *
 generalize inP 0 L=inn at *
 have e1:=aB (i:=18) (fresh_wrap (g:=g) (c:=c) (st:=st) (inn:=inn) (ρ:=isl fs u w line rows fd t16 none none) rfl (by exact nl [_,_] [(N0,.a (.n 0) (.m 4 N1)),(.m 4 N1,.m 4 (.n 5))] (.s N0) (.n 30) rfl h1 (Nat.mul_le_mul_left 4 hL)))
 generalize frS .wrap (c + 1)=W at *
 have e2:ex t4 (.lay 15 (.cst (.str (so "generic"))) (.tup [(.cst (.str (so "package"))),(.var 5),(.var 18),(.innerPlus 15 [(.var 10)]),(.lst [])])) ⟨isl fs u w line rows fd t16 (some (.val (.str W))) none,gB g (c + 1) st inn⟩=
   .ok (.next,⟨isl fs u w line rows fd t16 (some (.val (.str W))) none,gB g (c + 1) (st++[.tup [.str (so "generic"),.tup [.str (so "package"),.int line,.str W,.lst (inn++[aY u]),.lst []]]]) inn⟩):=
  X_lay rfl ag (aF (af ag (af (ad rfl) (af (ad rfl) (af (E_innerPlus (b:=⟨5,(c + 1:Nat),st,inn⟩) rfl (af (ad rfl) ao) rfl (by simp only [List.length_cons,List.length_nil];exact nl [_,_] [(N0,N1),(N1,.n 5)] (.s N0) (.n 1000) rfl (Nat.le_of_eq h3) hL)) (af (cv ao (am rfl)) ao))))) (am rfl)) (lay_ok (by exact nl [_,_] [(N0,.m 4 N1),(.m 4 N1,.m 4 (.n 5))] N0 (.n 1000) rfl h2 (Nat.mul_le_mul_left 4 hL)))
 exact ah e1 (ah e2 (ah (aD (gM (a:=.none) (ad rfl)) ar) (ah (aB (i:=19) (aF (af ag (af (ad rfl) (af (ad rfl) (af (aF (af ag (af (aF (af ag (af (ad rfl) ao)) (am rfl)) (af (bt (af (ad rfl) ao) unit_name_ok) ao))) (am rfl)) ao)))) (am rfl)))
  (aW (bE (aF (af (E_steps (b:=⟨5,(c + 1:Nat),st++[.tup [.str (so "generic"),.tup [.str (so "package"),.int line,.str W,.lst (inn++[aY u]),.lst []]]],inn⟩) rfl rfl) (af (ad rfl) ao)) (am rfl)))))))
theorem X_flt {ft:FT}{i:Nat}{e:E}{st:St}{n:Int}(h:ev ft e st=.flt n):ex ft (.assign i e) st=.flt n:=bindX h
noncomputable def fy (fs:List Fm)(u w:Us)(line:Int)(rows:List Rw)(t11 t12 t13 t14 t15:Option Slot):List (Option Slot):=
 [some (.val (iI fs u)),some (.val .none),some (.val (dy line w rows)),some (.val (.int 5)),some (.val (.str (so "instance"))),some (.val (.int line)),some (.val (.str (usS w))),some (.val (.str (so "mine"))),some (.val (aq (so "unit"))),some (.val (.lst (rows.map asD))),some (.val (aY u)),t11,t12,t13,t14,t15,none,none,none,none]
theorem inst_ok {fs:List Fm}{u w:Us}{line:Int}{rows:List Rw}{g:G}(hf:fs.length≤5)(hr:rows.length≤50)(hu:g.used=false):
  ((u≠w∨ ¬ ∃fd,dq fs rows fd)∧aG t4 ir_instantiate [iI fs u,.none,dy line w rows,.int 5] g=.flt line)∨
  (u=w∧ ∃fd,dq fs rows fd∧ ∀us ns,Split fs rows us ns fd→aG t4 ir_instantiate [iI fs u,.none,dy line w rows,.int 5] g=
   .ok (.tup [.lst (eP line u (cj fs us ns)),eH line (aU 0 (cj fs us ns))],{g with used:=true,bld:=none})):=by
 have pre: ∀{q:List S} {R:Res (Fl×St)},exs t4 q ⟨fy fs u w line rows none none none none none,g⟩=R→
   exs t4 (ir_instantiate.body.take 2++q) ⟨[iI fs u,.none,dy line w rows,.int 5].map (fun d=>some (.val d))++List.replicate (ir_instantiate.nv - ir_instantiate.np) none,g⟩=R:=fun h=>
  ah (dS (ds:=[.str (so "instance"),.int line,.str (usS w),.str (so "mine"),aq (so "unit"),.lst (rows.map asD)]) (ad rfl) rfl) (ah (aB (i:=10) (ay (ad rfl) ag ix3)) h)
 have hc:ev t4 (.op .ne (.call .unit_sort [(.var 10)]) (.var 6)) ⟨fy fs u w line rows none none none none none,g⟩=.ok (.bool (!decide (u=w)),⟨fy fs u w line rows none none none none none,g⟩):=
  bw (bt (af (ad rfl) ao) unit_sort_ok) (ad rfl) (us_eq u w)
 by_cases huw:u=w
 ·rw [decide_eq_true huw] at hc
  rcases match_ok (fs:=fs) (rows:=rows) (line:=line) (g:=g) hf hr with ⟨fd,hg,hm⟩ | ⟨hn,hm⟩
  ·refine .inr ⟨huw,fd,hg,fun us ns s=>?_⟩
   rcases keys_ok (line:=line) (g:=g) hf with ⟨h1,_⟩ | ⟨_,h2⟩
   ·exact absurd hg.1 h1
   ·refine x11 (ins_loop (u:=u) (w:=w) (line:=line) (t16:=none) (t18:=none) (t19:=none) (g:={g with used:=true}) hf s) fun t hl=>?_
    have e3:ex t4 (.assign 11 (.call .match_formals [(.ix (.var 0) (.cst (.int 2))),(.var 9),(.var 5)])) ⟨fy fs u w line rows none none none none none,g⟩=.ok (.next,⟨fy fs u w line rows (some (.val (.dct (a9 fd++bg fd (ann fs))))) none none none none,g⟩):=
     aB (i:=11) (bt (af (ay (ad rfl) ag ix2) (af (ad rfl) (af (ad rfl) ao))) hm)
    have e4:ex t4 (.tupA [12,13,14] (.call .formal_keys [(.ix (.var 0) (.cst (.int 2))),(.var 5)])) ⟨fy fs u w line rows (some (.val (.dct (a9 fd++bg fd (ann fs))))) none none none none,g⟩=.ok (.next,⟨fy fs u w line rows (some (.val (.dct (a9 fd++bg fd (ann fs))))) (some (.val (.lst ((ann fs).map fun a=>.lst [.str a.2])))) (some (.val (.dct (bF fs)))) (some (.val (.dct (cJ fs)))) none,g⟩):=
     dS (s1:=⟨fy fs u w line rows (some (.val (.dct (a9 fd++bg fd (ann fs))))) none none none none,g⟩) (ds:=[.lst ((ann fs).map fun a=>.lst [.str a.2]),.dct (bF fs),.dct (cJ fs)]) (bt (d:=keysD fs) (g:=g) (af (ay (ad rfl) ag ix2) (af (ad rfl) ao)) h2) rfl
    have e5:ex t4 (.assign 15 (.newB (.var 3))) ⟨fy fs u w line rows (some (.val (.dct (a9 fd++bg fd (ann fs))))) (some (.val (.lst ((ann fs).map fun a=>.lst [.str a.2])))) (some (.val (.dct (bF fs)))) (some (.val (.dct (cJ fs)))) none,g⟩=.ok (.next,⟨isl fs u w line rows fd none none none,gB {g with used:=true} 0 [] []⟩):=
     aB (i:=15) (E_newB (n:=5) (ad rfl) hu)
    exact bu (f:=ir_instantiate) (st:=⟨isl fs u w line rows fd t (some (.val (.str (frS .wrap (aU 0 (cj fs us ns) + 1))))) (some (.val (eH line (aU 0 (cj fs us ns))))),{g with used:=true,bld:=none}⟩) rfl
     (pre (ah (aD hc ar) (ah e3 (ah e4 (ah e5 (ah hl (ins_tail (by rw [jI];exact hf))))))))
  ·refine .inl ⟨.inr hn,fH (f:=ir_instantiate) rfl (pre (ah (aD hc ar) (bp (X_flt ?_))))⟩
   exact E_callX (af (ay (ad rfl) ag ix2) (af (ad rfl) (af (ad rfl) ao))) hm
 ·rw [decide_eq_false huw] at hc
  exact .inl ⟨.inl huw,fH (f:=ir_instantiate) rfl (pre (bp (aZ hc (bp (f8 (ad rfl))))))⟩
noncomputable def lsl (t2 t3 t4 t5 t6 t7 t8 t9 t10 t11 t12 t16 t17 t18 t20 t21:Option Slot):List (Option Slot):=
 [none,some (.val (.hnd 0)),t2,t3,t4,t5,t6,t7,t8,t9,t10,t11,t12,none,none,none,t16,t17,t18,none,t20,t21,none,none]
noncomputable def l1Body:List S:=fm ((fL[1]?).getD .dead)
theorem jc {ρ:List (Option Slot)}{g:G}{c:Int}(n:Int)(h:Gp c g)(hc:c≤900)(h0:0 < n)(h1:n < 1000)(hρ:ρ[1]? =some (some (.val (.hnd 0)))){ft:FT}(hf:ft .take=aG tb ir_take):
  ∃k,0≤k∧k < n∧ev ft (.call .take [.var 1,.cst (.int n)]) ⟨ρ,g⟩=.ok (.int k,⟨ρ,{g with pat:=g.pat + 1}⟩):=by
 refine x13 (take_ok n h hc h0 h1) fun k a b e=>?_
 refine ⟨k,a,b,bt (s1:=⟨ρ,g⟩) (af (ad (d:=.hnd 0) (by simp only [a8,St.get,hρ,Option.join];rfl)) (af ag ao)) ?_⟩
 rw [hf];exact e
noncomputable def l1I (c:Int)(cs:List Int)(p:List Nat)(st:St):Prop:= ∃fs g t4 t5 t6,fs.length=p.length∧Gp (c + 8 * p.length) g∧g.cells=cs∧
 st=⟨lsl (some (.own (fsL fs))) (some (.own (kdL fs))) t4 t5 t6 none none none none none none none none none none none,g⟩
theorem l1_loop {g:G}{c:Int}{n:Nat}{it:E}{s0:St}(hn:n≤5)(h:Gp c g)(hc:c≤100)(hit:ev t5 it s0=.ok (.int n,⟨lsl (some (.own (fsL []))) (some (.own (kdL []))) none none none none none none none none none none none none none none,g⟩)):
  ∃st,l1I c g.cells (List.range n) st∧ex t5 (.forR 4 it l1Body) s0=.ok (.next,st):=by
 rw [X_forR hit (lec ‹_› (by rfl))]
 refine cA (emb:=fun i:Nat=>D.int i) (l1I c g.cells) (fun R=> ∃st,l1I c g.cells (List.range n) st∧R=.ok (.next,st)) ?_ (fun st h=>⟨st,h,rfl⟩) ⟨[],g,none,none,none,rfl,h.mono (by simp),rfl,rfl⟩
 rintro p x q st e ⟨fs,g1,t4,t5',t6,hl,G1,c1,rfl⟩
 have hp:p.length≤4:=by have:=congrArg List.length e;simp at this;exact nl [_,_,_] [(.a N0 (.s N1),N2),(N2,.n 5)] N0 (.n 4) rfl (Nat.le_of_eq this.symm) hn
 obtain ⟨nm,pm,gv,df,g2,G2,c2,ef⟩:=formal_ok (line:=3 + (x:Int)) G1 (by exact ni [_,_] [(.m 8 Z0,.m 8 (.n 4)),(Z1,.n 100)] (.a Z1 (.m 8 Z0)) (.n 800) rfl (im 8 (Int.ofNat_le.2 hp) rfl) hc)
 have e1:ex t5 (.tupA [5,6] (.call .formal [(.var 1),(.op .add (.cst (.int 3)) (.var 4))])) ⟨lsl (some (.own (fsL fs))) (some (.own (kdL fs))) (some (.val (.int x))) t5' t6 none none none none none none none none none none none,g1⟩=
   .ok (.next,⟨lsl (some (.own (fsL fs))) (some (.own (kdL fs))) (some (.val (.int x))) (some (.val (fmD ⟨3 + (x:Int),nm,pm,gv,df⟩))) (some (.val (.str (kdS ⟨3 + (x:Int),nm,pm,gv,df⟩)))) none none none none none none none none none none none,g2⟩):=
  dS (ds:=[fmD ⟨3 + (x:Int),nm,pm,gv,df⟩,.str (kdS ⟨3 + (x:Int),nm,pm,gv,df⟩)]) (bt (af (ad rfl) (af (bD ag (ad rfl) (gu _ _)) ao)) ef) rfl
 have e2:ex t5 (.app 2 (.var 5)) ⟨lsl (some (.own (fsL fs))) (some (.own (kdL fs))) (some (.val (.int x))) (some (.val (fmD ⟨3 + (x:Int),nm,pm,gv,df⟩))) (some (.val (.str (kdS ⟨3 + (x:Int),nm,pm,gv,df⟩)))) none none none none none none none none none none none,g2⟩=
   .ok (.next,⟨lsl (some (.own (fsL (fs++[⟨3 + (x:Int),nm,pm,gv,df⟩])))) (some (.own (kdL fs))) (some (.val (.int x))) (some (.val (fmD ⟨3 + (x:Int),nm,pm,gv,df⟩))) (some (.val (.str (kdS ⟨3 + (x:Int),nm,pm,gv,df⟩)))) none none none none none none none none none none none,g2⟩):=by
  have:=fB (ft:=t5) (k:=2) (e:=.var 5) (d:=fmD ⟨3 + (x:Int),nm,pm,gv,df⟩) (ds0:=fs.map fmD) (ds:=fs.map fmD) (st:=⟨lsl (some (.own (fsL fs))) (some (.own (kdL fs))) (some (.val (.int x))) (some (.val (fmD ⟨3 + (x:Int),nm,pm,gv,df⟩))) (some (.val (.str (kdS ⟨3 + (x:Int),nm,pm,gv,df⟩)))) none none none none none none none none none none none,g2⟩) rfl (ad rfl) rfl (by rw [List.length_map];exact nl [_,_] [(N0,N1),(N1,.n 4)] N0 (.n 1000) rfl (Nat.le_of_eq hl) hp)
  rw [this]
  unfold fsL
  rw [List.map_append];rfl
 have e3:ex t5 (.app 3 (.var 6)) ⟨lsl (some (.own (fsL (fs++[⟨3 + (x:Int),nm,pm,gv,df⟩])))) (some (.own (kdL fs))) (some (.val (.int x))) (some (.val (fmD ⟨3 + (x:Int),nm,pm,gv,df⟩))) (some (.val (.str (kdS ⟨3 + (x:Int),nm,pm,gv,df⟩)))) none none none none none none none none none none none,g2⟩=
   .ok (.next,⟨lsl (some (.own (fsL (fs++[⟨3 + (x:Int),nm,pm,gv,df⟩])))) (some (.own (kdL (fs++[⟨3 + (x:Int),nm,pm,gv,df⟩])))) (some (.val (.int x))) (some (.val (fmD ⟨3 + (x:Int),nm,pm,gv,df⟩))) (some (.val (.str (kdS ⟨3 + (x:Int),nm,pm,gv,df⟩)))) none none none none none none none none none none none,g2⟩):=by
  have:=fB (ft:=t5) (k:=3) (e:=.var 6) (d:=.str (kdS ⟨3 + (x:Int),nm,pm,gv,df⟩)) (ds0:=fs.map fun f=>.str (kdS f)) (ds:=fs.map fun f=>.str (kdS f)) (st:=⟨lsl (some (.own (fsL (fs++[⟨3 + (x:Int),nm,pm,gv,df⟩])))) (some (.own (kdL fs))) (some (.val (.int x))) (some (.val (fmD ⟨3 + (x:Int),nm,pm,gv,df⟩))) (some (.val (.str (kdS ⟨3 + (x:Int),nm,pm,gv,df⟩)))) none none none none none none none none none none none,g2⟩) rfl (ad rfl) rfl (by rw [List.length_map];exact nl [_,_] [(N0,N1),(N1,.n 4)] N0 (.n 1000) rfl (Nat.le_of_eq hl) hp)
  rw [this]
  unfold kdL
  rw [List.map_append];rfl
 refine .inl ⟨_,ah e1 (ah e2 (ah e3 ar)),fs++[⟨3 + (x:Int),nm,pm,gv,df⟩],g2,_,_,_,by simp [hl],G2.mono ?_,c2.trans c1,rfl⟩
 simp;exact ni [_,_] [] (.a (.a Z0 (.m 8 Z1)) (.n 8)) (.a Z0 (.m 8 (.s Z1))) rfl
theorem us_pick {k:Int}(h0:0≤k)(h1:k < 3): ∃u,ixD (.tup [.str (so "package"),.str (so "procedure"),.str (so "function")]) (.int k)=some (.str (usS u)):=by
 apply AllB.at (n:=3) h0 h1;exact .s (.s (.s .z ⟨.pkg,by kernel_rfl⟩) ⟨.pro,by kernel_rfl⟩) ⟨.fn,by kernel_rfl⟩
inductive Law1 (cells:List Int):Prop
 | mk {fs:List Fm} {rows:List Rw} {u w:Us} {line:Int} {due:D} {g:G} {t2 t3 t4 t5' t6:Option Slot} (f0:0 < fs.length) (f5:fs.length≤5) (hro:RowsOk rows) (hrl:rows.length≤6) (hu:g.used=false) (h2:t2=some (.val (fsL fs))∨t2=some (.own (fsL fs)))
   (hd:(u=w∧ ∃fd us ns,dq fs rows fd∧Split fs rows us ns fd∧due=duL fs us ns)∨((u≠w∨ ¬ ∃fd,dq fs rows fd)∧due=.none))
   (e1:exs t5 fL (law0 cells)=.ok (.next,⟨lsl t2 t3 t4 t5' t6 (some (.val (rwL rows))) (some (.val (.str (usS u)))) (some (.val (aY u))) (some (.val (.str (usS w)))) (some (.val (.int line))) (some (.val due)) (some (.val (dy line w rows))) none none none none,g⟩)):Law1 cells
theorem law1_ok {cells:List Int}(h:cells.length≤60):Law1 cells:=by
 have G0:Gp 0 ⟨0,cells,false,none⟩:=⟨by show (0:Int)≤0;exact ni [] [] (.n 0) (.n 0) rfl,by show (0:Int)≤0;exact Int.le_refl _,h,rfl,rfl⟩
 have e0:ex t5 (.tupO [(2,.l []),(3,.l [])]) (law0 cells)=.ok (.next,⟨lsl (some (.own (fsL []))) (some (.own (kdL []))) none none none none none none none none none none none none none none,⟨0,cells,false,none⟩⟩):=
  gK (I_l (i:=2) ao (am rfl) (I_l (i:=3) ao (am rfl) jb))
 obtain ⟨k,k0,k1,ek⟩:=jc (ft:=t5) (ρ:=lsl (some (.own (fsL []))) (some (.own (kdL []))) none none none none none none none none none none none none none none) 4 G0 (by decide) (by decide) (by decide) rfl rfl
 obtain ⟨n,rfl⟩: ∃n:Nat,k=n:=⟨k.toNat,(Int.toNat_of_nonneg ‹_›).symm⟩
 have hadd:((2:Int) + (n:Int))=((2 + n:Nat):Int):=by rfl
 obtain ⟨st,⟨fs,g1,t4,t5',t6,hl,G1,c1,rfl⟩,e1⟩:=l1_loop (n:=2 + n) (by exact Int.ofNat_le.1 (ni [_,_] [(Z0,.a (.n 2) Z1),(.s Z1,.n 4)] Z0 (.n 5) rfl (Int.le_of_eq hadd.symm) k1)) G0.up (by decide) (bD ag ek (by rw [gu,hadd]))
 rw [List.length_range] at hl G1
 cases actuals_ok (fs:=fs) G1 (by exact ni [_,_] [(.m 8 Z0,.m 8 (.a (.n 2) Z1)),(.m 8 (.s Z1),.m 8 (.n 4))] (.a (.n 1) (.m 8 Z0)) (.n 600) rfl (im 8 (Int.le_of_eq hadd.symm) rfl) (im 8 k1 rfl)) (by exact Int.ofNat_le.1 (ni [_,_,_] [(Z0,Z1),(Z1,.a (.n 2) Z2),(.s Z2,.n 4)] Z0 (.n 5) rfl (Int.ofNat_le.2 (Nat.le_of_eq hl)) (Int.le_of_eq hadd.symm) k1)) (by exact nl [_,_] [(.a (.n 2) N0,N1)] (.n 1) N1 rfl (Nat.le_of_eq hl.symm)) with | mk hro hrl G2 c2 ea=>
 rename_i rows g2
 have e2:ex t5 (.assign 7 (.call .actuals [(.var 1),(.fz 2)])) ⟨lsl (some (.own (fsL fs))) (some (.own (kdL fs))) t4 t5' t6 none none none none none none none none none none none,g1⟩=
   .ok (.next,⟨lsl (some (.val (fsL fs))) (some (.own (kdL fs))) t4 t5' t6 (some (.val (rwL rows))) none none none none none none none none none none,g2⟩):=
  aB (i:=7) (bt (af (ad rfl) (af (dM rfl) ao)) ea)
 obtain ⟨k3,a3,b3,e3'⟩:=jc (ft:=t5) (ρ:=lsl (some (.val (fsL fs))) (some (.own (kdL fs))) t4 t5' t6 (some (.val (rwL rows))) none none none none none none none none none none) 3 G2 (by exact ni [_,_] [(.m 8 Z0,.m 8 (.a (.n 2) Z1)),(.m 8 (.s Z1),.m 8 (.n 4))] (.a (.a (.n 1) (.m 8 Z0)) (.n 20)) (.n 900) rfl (im 8 (Int.le_of_eq hadd.symm) rfl) (im 8 k1 rfl)) (by decide) (by decide) rfl rfl
 obtain ⟨u,hu⟩:=us_pick a3 b3
 have e3:ex t5 (.assign 8 (.ix (.tup [(.cst (.str (so "package"))),(.cst (.str (so "procedure"))),(.cst (.str (so "function")))]) (.call .take [(.var 1),(.cst (.int 3))]))) ⟨lsl (some (.val (fsL fs))) (some (.own (kdL fs))) t4 t5' t6 (some (.val (rwL rows))) none none none none none none none none none none,g2⟩=
   .ok (.next,⟨lsl (some (.val (fsL fs))) (some (.own (kdL fs))) t4 t5' t6 (some (.val (rwL rows))) (some (.val (.str (usS u)))) none none none none none none none none none,{g2 with pat:=g2.pat + 1}⟩):=
  aB (i:=8) (ay (aF (af ag (af ag (af ag ao))) (am rfl)) e3' hu)
 have G3:=G2.up
 generalize {g2 with pat:=g2.pat + 1}=g3 at *
 have e4a:ex t5 ((fL[4]?).getD .dead) ⟨lsl (some (.val (fsL fs))) (some (.own (kdL fs))) t4 t5' t6 (some (.val (rwL rows))) (some (.val (.str (usS u)))) none none none none none none none none none,g3⟩=.ok (.next,⟨lsl (some (.val (fsL fs))) (some (.own (kdL fs))) t4 t5' t6 (some (.val (rwL rows))) (some (.val (.str (usS u)))) (some (.val (aY .pkg))) none none none none none none none none,g3⟩):=
  aB (i:=9) (aF (af ag (af ag (af ag (af (cv ao (am rfl)) (af (cv ao (am rfl)) ao))))) (am rfl))
 have e4b:ex t5 ((fL[5]?).getD .dead) ⟨lsl (some (.val (fsL fs))) (some (.own (kdL fs))) t4 t5' t6 (some (.val (rwL rows))) (some (.val (.str (usS u)))) (some (.val (aY .pkg))) none none none none none none none none,g3⟩=.ok (.next,⟨lsl (some (.val (fsL fs))) (some (.own (kdL fs))) t4 t5' t6 (some (.val (rwL rows))) (some (.val (.str (usS u)))) (some (.val (aY u))) none none none none none none none none,g3⟩):=by
  have h8: ∀{t9:Option Slot},ev t5 (.var 8) ⟨lsl (some (.val (fsL fs))) (some (.own (kdL fs))) t4 t5' t6 (some (.val (rwL rows))) (some (.val (.str (usS u)))) t9 none none none none none none none none,g3⟩=.ok (.str (usS u),⟨lsl (some (.val (fsL fs))) (some (.own (kdL fs))) t4 t5' t6 (some (.val (rwL rows))) (some (.val (.str (usS u)))) t9 none none none none none none none none,g3⟩):=fun {t9}=>ad rfl
  cases u with
  | pkg=>exact aD (bw (t:=true) h8 ag (by kernel_rfl)) ar
  | pro=>exact aZ (bw (t:=false) h8 ag (by kernel_rfl)) (ah (aB (i:=9) (aF (af ag (af ag (af (aF (af h8 (af ag (af (cv ao (am rfl)) (af (bT (aV h8 ag (by kernel_rfl)) ag) ao)))) (am rfl)) ao))) (am rfl))) ar)
  | fn=>exact aZ (bw (t:=false) h8 ag (by kernel_rfl)) (ah (aB (i:=9) (aF (af ag (af ag (af (aF (af h8 (af ag (af (cv ao (am rfl)) (af (bU (aV h8 ag (by kernel_rfl)) (aF (af ag (af ag ao)) (am rfl))) ao)))) (am rfl)) ao))) (am rfl))) ar)
 obtain ⟨k5,a5,b5,e5'⟩:=jc (ft:=t5) (ρ:=lsl (some (.val (fsL fs))) (some (.own (kdL fs))) t4 t5' t6 (some (.val (rwL rows))) (some (.val (.str (usS u)))) (some (.val (aY u))) none none none none none none none none) 9 G3 (by exact ni [_,_] [(.m 8 Z0,.m 8 (.a (.n 2) Z1)),(.m 8 (.s Z1),.m 8 (.n 4))] (.s (.a (.a (.n 1) (.m 8 Z0)) (.n 20))) (.n 900) rfl (im 8 (Int.le_of_eq hadd.symm) rfl) (im 8 k1 rfl)) (by decide) (by decide) rfl rfl
 obtain ⟨w,e5⟩: ∃w,ex t5 (.assign 10 (.ite (.op .eq (.call .take [(.var 1),(.cst (.int 9))]) (.cst (.int 4))) (.cst (.str (so "package"))) (.var 8))) ⟨lsl (some (.val (fsL fs))) (some (.own (kdL fs))) t4 t5' t6 (some (.val (rwL rows))) (some (.val (.str (usS u)))) (some (.val (aY u))) none none none none none none none none,g3⟩=
   .ok (.next,⟨lsl (some (.val (fsL fs))) (some (.own (kdL fs))) t4 t5' t6 (some (.val (rwL rows))) (some (.val (.str (usS u)))) (some (.val (aY u))) (some (.val (.str (usS w)))) none none none none none none none,{g3 with pat:=g3.pat + 1}⟩):=by
  by_cases hk:k5=4
  ·exact ⟨.pkg,aB (i:=10) (bT (aV e5' ag (ieq_t hk)) ag)⟩
  ·exact ⟨u,aB (i:=10) (bU (aV e5' ag (gQ hk)) (ad rfl))⟩
 have G4:=G3.up
 generalize {g3 with pat:=g3.pat + 1}=g4 at *
 obtain ⟨k6,a6,b6,e6'⟩:=jc (ft:=t5) (ρ:=lsl (some (.val (fsL fs))) (some (.own (kdL fs))) t4 t5' t6 (some (.val (rwL rows))) (some (.val (.str (usS u)))) (some (.val (aY u))) (some (.val (.str (usS w)))) none none none none none none none) 50 G4 (by exact ni [_,_] [(.m 8 Z0,.m 8 (.a (.n 2) Z1)),(.m 8 (.s Z1),.m 8 (.n 4))] (.s (.s (.a (.a (.n 1) (.m 8 Z0)) (.n 20)))) (.n 900) rfl (im 8 (Int.le_of_eq hadd.symm) rfl) (im 8 k1 rfl)) (by decide) (by decide) rfl rfl
 have e6:ex t5 (.assign 11 (.op .add (.cst (.int 10)) (.call .take [(.var 1),(.cst (.int 50))]))) ⟨lsl (some (.val (fsL fs))) (some (.own (kdL fs))) t4 t5' t6 (some (.val (rwL rows))) (some (.val (.str (usS u)))) (some (.val (aY u))) (some (.val (.str (usS w)))) none none none none none none none,g4⟩=
   .ok (.next,⟨lsl (some (.val (fsL fs))) (some (.own (kdL fs))) t4 t5' t6 (some (.val (rwL rows))) (some (.val (.str (usS u)))) (some (.val (aY u))) (some (.val (.str (usS w)))) (some (.val (.int (10 + k6)))) none none none none none none,{g4 with pat:=g4.pat + 1}⟩):=
  aB (i:=11) (bD ag e6' (gu _ _))
 have G5:=G4.up
 generalize {g4 with pat:=g4.pat + 1}=g5 at *
 have hcmp:ev t5 (.op .eq (.var 10) (.var 8)) ⟨lsl (some (.val (fsL fs))) (some (.own (kdL fs))) t4 t5' t6 (some (.val (rwL rows))) (some (.val (.str (usS u)))) (some (.val (aY u))) (some (.val (.str (usS w)))) (some (.val (.int (10 + k6)))) none none none none none none,g5⟩=
   .ok (.bool (decide (w=u)),⟨lsl (some (.val (fsL fs))) (some (.own (kdL fs))) t4 t5' t6 (some (.val (rwL rows))) (some (.val (.str (usS u)))) (some (.val (aY u))) (some (.val (.str (usS w)))) (some (.val (.int (10 + k6)))) none none none none none none,g5⟩):=
  aV (ad rfl) (ad rfl) (us_eq w u)
 have e8: ∀{t3:Option Slot} {due:D},ex t5 (.assign 16 (.tup [(.cst (.str (so "instance"))),(.var 11),(.var 10),(.cst (.str (so "mine"))),(.tup [(.cst (.str (so "name"))),(.cst (.str (so "unit")))]),(.compE [13,14,15] (.var 7) [] (.tup [(.var 13),(.var 14)]))])) ⟨lsl (some (.val (fsL fs))) t3 t4 t5' t6 (some (.val (rwL rows))) (some (.val (.str (usS u)))) (some (.val (aY u))) (some (.val (.str (usS w)))) (some (.val (.int (10 + k6)))) (some (.val due)) none none none none none,g5⟩=
   .ok (.next,⟨lsl (some (.val (fsL fs))) t3 t4 t5' t6 (some (.val (rwL rows))) (some (.val (.str (usS u)))) (some (.val (aY u))) (some (.val (.str (usS w)))) (some (.val (.int (10 + k6)))) (some (.val due)) (some (.val (dy (10 + k6) w rows))) none none none none,g5⟩):=fun {t3 due}=>by
  have hcomp:ev t5 (.compE [13,14,15] (.var 7) [] (.tup [(.var 13),(.var 14)])) ⟨lsl (some (.val (fsL fs))) t3 t4 t5' t6 (some (.val (rwL rows))) (some (.val (.str (usS u)))) (some (.val (aY u))) (some (.val (.str (usS w)))) (some (.val (.int (10 + k6)))) (some (.val due)) none none none none none,g5⟩=
    .ok (.lst (rows.map asD),⟨lsl (some (.val (fsL fs))) t3 t4 t5' t6 (some (.val (rwL rows))) (some (.val (.str (usS u)))) (some (.val (aY u))) (some (.val (.str (usS w)))) (some (.val (.int (10 + k6)))) (some (.val due)) none none none none none,g5⟩):=by
   rw [←gS asD rows]
   exact cn (emb:=rwD) (ad rfl) (lec ‹_› (by rfl)) fun r _=>⟨_,rfl,rfl,true,fD,fun _=>⟨asD r,aF (af (ad rfl) (af (ad rfl) ao)) (am rfl),rfl⟩,fun h=>by cases h⟩
  exact aB (i:=16) (aF (af ag (af (ad rfl) (af (ad rfl) (af ag (af (aF (af ag (af ag ao)) (am rfl)) (af hcomp ao)))))) (am rfl))
 have out: ∀{t3:Option Slot} {due:D},((u=w∧ ∃fd us ns,dq fs rows fd∧Split fs rows us ns fd∧due=duL fs us ns)∨((u≠w∨ ¬ ∃fd,dq fs rows fd)∧due=.none))→
   ex t5 (.assign 12 (.ite (.op .eq (.var 10) (.var 8)) (.call .due [(.fz 2),(.fz 3),(.var 7)]) (.cst .none))) ⟨lsl (some (.val (fsL fs))) (some (.own (kdL fs))) t4 t5' t6 (some (.val (rwL rows))) (some (.val (.str (usS u)))) (some (.val (aY u))) (some (.val (.str (usS w)))) (some (.val (.int (10 + k6)))) none none none none none none,g5⟩=
    .ok (.next,⟨lsl (some (.val (fsL fs))) t3 t4 t5' t6 (some (.val (rwL rows))) (some (.val (.str (usS u)))) (some (.val (aY u))) (some (.val (.str (usS w)))) (some (.val (.int (10 + k6)))) (some (.val due)) none none none none none,g5⟩)→
   Law1 cells:=fun {t3 due} h1 h2=>
  ⟨by exact nl [_,_] [(.a (.n 2) N0,N1)] (.n 1) N1 rfl (Nat.le_of_eq hl.symm),by exact Int.ofNat_le.1 (ni [_,_,_] [(Z0,Z1),(Z1,.a (.n 2) Z2),(.s Z2,.n 4)] Z0 (.n 5) rfl (Int.ofNat_le.2 (Nat.le_of_eq hl)) (Int.le_of_eq hadd.symm) k1),hro,hrl,G5.used,.inl rfl,h1,ah e0 (ah e1 (ah e2 (ah e3 (ah e4a (ah e4b (ah e5 (ah e6 (ah h2 (ah e8 ar)))))))))⟩
 have hcall: ∀{d:D},aG t0 ir_due [fsL fs,kdL fs,rwL rows] g5=.ok (d,g5)→ev t5 (.call .due [(.fz 2),(.fz 3),(.var 7)]) ⟨lsl (some (.val (fsL fs))) (some (.own (kdL fs))) t4 t5' t6 (some (.val (rwL rows))) (some (.val (.str (usS u)))) (some (.val (aY u))) (some (.val (.str (usS w)))) (some (.val (.int (10 + k6)))) none none none none none none,g5⟩=
   .ok (d,⟨lsl (some (.val (fsL fs))) (some (.val (kdL fs))) t4 t5' t6 (some (.val (rwL rows))) (some (.val (.str (usS u)))) (some (.val (aY u))) (some (.val (.str (usS w)))) (some (.val (.int (10 + k6)))) none none none none none none,g5⟩):=fun {d} hd=>
  bt (s1:=⟨lsl (some (.val (fsL fs))) (some (.val (kdL fs))) t4 t5' t6 (some (.val (rwL rows))) (some (.val (.str (usS u)))) (some (.val (aY u))) (some (.val (.str (usS w)))) (some (.val (.int (10 + k6)))) none none none none none none,g5⟩) (ds:=[fsL fs,kdL fs,rwL rows]) (af (jd rfl) (af (dM rfl) (af (ad rfl) ao))) hd
 by_cases hw:w=u
 ·rw [decide_eq_true hw] at hcmp
  rcases due_ok (fs:=fs) (rows:=rows) (g:=g5) (by exact Int.ofNat_le.1 (ni [_,_,_] [(Z0,Z1),(Z1,.a (.n 2) Z2),(.s Z2,.n 4)] Z0 (.n 5) rfl (Int.ofNat_le.2 (Nat.le_of_eq hl)) (Int.le_of_eq hadd.symm) k1)) (lec ‹_› (by rfl)) hro with ⟨fd,us,ns,hg,hs,hd⟩ | ⟨hg,hd⟩
  ·exact out (t3:=some (.val (kdL fs))) (.inl ⟨hw.symm,fd,us,ns,hg,hs,rfl⟩) (aB (i:=12) (bT hcmp (hcall hd)))
  ·exact out (t3:=some (.val (kdL fs))) (.inr ⟨.inr hg,rfl⟩) (aB (i:=12) (bT hcmp (hcall hd)))
 ·rw [decide_eq_false hw] at hcmp
  exact out (t3:=some (.own (kdL fs))) (.inr ⟨.inl fun e=>hw e.symm,rfl⟩) (aB (i:=12) (bU hcmp ag))
mutual
theorem beq_self: ∀(d:D),D.cmpOk d=true→D.beq d d=true
 | .none,_=>rfl
 | .int i,_=>beq_self_eq_true i
 | .str x,_=>beq_self_eq_true x
 | .tup a,h=>iV a h
 | .lst a,h=>iV a h
 | .bool _,h=>by cases h
 | .dct _,h=>by cases h
 | .hnd _,h=>by cases h
theorem iV: ∀(a:List D),D.cmpOks a=true→D.beqs a a=true
 | [],_=>rfl
 | d::r,h=>
  have h:=Bool.and_eq_true_iff.1 h
  Bool.and_eq_true_iff.2 ⟨beq_self d h.1,iV r h.2⟩
end
theorem cD {d:D}(h:D.cmpOk d=true)(hd:d.depth≤8):eqD d d=some true:=(gE h h hd hd).trans (congrArg some (beq_self d h))
theorem bh {d:D}{r:List D}(h:D.cmpOk d=true)(h':D.cmpOks r=true):D.cmpOks (d::r)=true:=Bool.and_eq_true_iff.2 ⟨h,h'⟩
theorem fN:D.cmpOks []=true:=rfl
theorem cmp_str {x:Str}(h:PyData.strOk x=true):D.cmpOk (.str x)=true:=h
theorem gI {i:Int}:D.cmpOk (.int i)=true:=rfl
theorem ja {l:List D}(h:D.cmpOks l=true):D.cmpOk (.tup l)=true:=h
theorem cmp_lst {l:List D}(h:D.cmpOks l=true):D.cmpOk (.lst l)=true:=h
theorem cmp_app {a b:List D}(h:D.cmpOks a=true)(h':D.cmpOks b=true):D.cmpOks (a++b)=true:=by
 induction a with
 | nil=>exact h'
 | cons x r ih=>
  have h:=Bool.and_eq_true_iff.1 h
  exact bh h.1 (ih h.2)
theorem bc {d:D}{r:List D}{n:Nat}(h:d.depth≤n)(h':D.depths r≤n):D.depths (d::r)≤n:=Nat.max_le.2 ⟨h,h'⟩
theorem eX {n:Nat}:D.depths []≤n:=Nat.zero_le _
theorem c7 {x:Str}{n:Nat}:D.depth (.str x)≤n:=Nat.zero_le _
theorem i9 {i:Int}{n:Nat}:D.depth (.int i)≤n:=Nat.zero_le _
theorem gF {l:List D}{n:Nat}(h:D.depths l≤n):D.depth (.tup l)≤n + 1:=Nat.succ_le_succ h
theorem dep_lst {l:List D}{n:Nat}(h:D.depths l≤n):D.depth (.lst l)≤n + 1:=Nat.succ_le_succ h
theorem dep_app {a b:List D}{n:Nat}(h:D.depths a≤n)(h':D.depths b≤n):D.depths (a++b)≤n:=by
 induction a with
 | nil=>exact h'
 | cons x r ih=>
  have h:=Nat.max_le.1 h
  exact bc h.1 (ih h.2)
theorem iz {x:Str}(h:PyData.strOk x=true):D.cmpOk (aq x)=true:=(name_cmp h).1
theorem iy {x:Str}{n:Nat}:(aq x).depth≤n + 1:=gF (bc c7 (bc c7 eX))
theorem spec_c (f:Fm):D.cmpOk (a7 f)=true∧(a7 f).depth≤4:=by
 have h:(allNm.all fun n=>allPm.all fun p=>allGv.all fun g=>D.cmpOk (a7 ⟨0,n,p,g,.none⟩)&&Nat.ble (a7 ⟨0,n,p,g,.none⟩).depth 4)=true:=by decide +kernel
 have h1:=Bool.and_eq_true_iff.mp (gr (List.all_eq_true.mp h f.nm (nm_all _)) f.pm f.gv)
 exact ⟨h1.1,Nat.le_of_ble_eq_true h1.2⟩
theorem df_c (d:Df):D.cmpOk (dfD d)=true∧(dfD d).depth≤1:=by cases d <;> decide +kernel
theorem opN_c (nm:Nm):D.cmpOk (opN nm)=true∧(opN nm).depth≤1:=by cases nm <;> decide +kernel
theorem unit_c (u:Us):D.cmpOk (aY u)=true∧(aY u).depth≤3:=by cases u <;> decide +kernel
theorem ren_c {f:Fm}{d:D}(h:D.cmpOk d=true)(hd:d.depth≤4):D.cmpOk (du f d)=true∧(du f d).depth≤5:=by
 refine x02 (spec_c f) fun h1 h2=>?_
 refine ⟨ja (bh (by decide +kernel) (bh gI (bh (by decide +kernel) (bh (cmp_str (i6 _)) (bh h1 (bh h fN)))))),gF (bc c7 (bc i9 (bc c7 (bc c7 (bc h2 (bc hd eX))))))⟩
inductive It where
 | mark (line:Int) (m:Gv) (n:Nat)
 | ins (f:Fm) (c:Nat) (node:D)
noncomputable def itS:It→D
 | .mark l m n=>di l (gvS m) n
 | .ins f c node=>insSt f c node
noncomputable def itN:It→Nat
 | .mark _ _ n=>n
 | .ins _ c _=>c + 1
noncomputable def gvOf:Bool→Gv
 | false=>.t
 | true=>.u
structure PI where
 ns:D
 m:Gv
 n:Nat
noncomputable def pis:Pm→Nat→List PI
 | .one a,c=>[⟨.lst [.str (so "x")],gvOf a,c + 1⟩]
 | .two a,c=>[⟨.lst [.str (so "x"),.str (so "y")],gvOf a,c + 1⟩]
 | .sep a b,c=>[⟨.lst [.str (so "x")],gvOf a,c + 1⟩,⟨.lst [.str (so "y")],gvOf b,c + 2⟩]
noncomputable def gvIt (line:Int):Gv→Nat→List It
 | .no,_=>[]
 | g,c=>[.mark line g (c + 1)]
noncomputable def iA (f:Fm)(c:Nat):List It:=(pis f.pm c).map (fun q=>.mark f.line q.m q.n)++gvIt f.line f.gv (c + npm f.pm)
noncomputable def cU (f:Fm)(c:Nat)(A:Act):List It:=if isL A=true then iA f (c + 1)++[.ins f c (dX f A)] else []
noncomputable def itP (c:Nat):List (Fm×Act)→List It
 | []=>[]
 | x::r=>cU x.1 c x.2++itP (c + cB x.1 x.2) r
theorem layIt_S (f:Fm)(c:Nat)(A:Act):db f c A=(cU f c A).map itS:=by
 unfold db cU
 split
 ·rw [List.map_append]
  congr 1
  unfold fX iA
  rw [List.map_append]
  congr 1
  ·rcases f.pm with a | a | ⟨a,b⟩ <;> cases a <;> (try cases b) <;> rfl
  ·cases f.gv <;> rfl
 ·rfl
theorem itP_S (L:List (Fm×Act))(c:Nat):stP c L=(itP c L).map itS:=by
 induction L generalizing c with
 | nil=>rfl
 | cons x r ih=>show _++_=List.map itS (_++_);rw [List.map_append,layIt_S,ih]
theorem params_D (pm:Pm)(c:Nat):be pm=(pis pm c).map fun q=>.tup [q.ns,.str (so "in"),aq (gvS q.m),.none]:=by
 rcases pm with a | a | ⟨a,b⟩ <;> cases a <;> (try cases b) <;> rfl
theorem params_F (pm:Pm)(c:Nat):eO pm c=(pis pm c).map fun q=>.tup [q.ns,.str (so "in"),mkn q.n,.none]:=by
 rcases pm with a | a | ⟨a,b⟩ <;> cases a <;> (try cases b) <;> rfl
theorem lay_nums (f:Fm)(c:Nat)(A:Act):(∀x∈cU f c A,c < itN x∧itN x≤c + cB f A)∧((cU f c A).map itN).Nodup:=by
 unfold cU cB
 by_cases h:isL A=true
 ·rw [if_pos h,if_pos h]
  unfold iA
  cases f.pm <;> cases f.gv <;> simp [pis,gvIt,npm,ngv,itN] <;> omega
 ·rw [if_neg h,if_neg h]
  exact ⟨(fun x hx=>by cases hx),List.nodup_nil⟩
theorem cntP_ge (L:List (Fm×Act))(c:Nat):c≤aU c L:=by
 induction L generalizing c with
 | nil=>exact Nat.le_refl _
 | cons x r ih=>have:=ih (c + cB x.1 x.2);simp only [aU];exact nl [_,_,_] [(.a N0 N1,N2)] N0 N2 rfl this
theorem it_nums (L:List (Fm×Act))(c:Nat):(∀x∈itP c L,c < itN x∧itN x≤aU c L)∧((itP c L).map itN).Nodup:=by
 induction L generalizing c with
 | nil=>exact ⟨(fun x hx=>by cases hx),List.nodup_nil⟩
 | cons x r ih=>
  refine x02 (ih (c + cB x.1 x.2)) fun h1 h2=>?_
  refine x02 (lay_nums x.1 c x.2) fun h3 h4=>?_
  have h5:=cntP_ge r (c + cB x.1 x.2)
  show (∀y∈cU x.1 c x.2++itP (c + cB x.1 x.2) r,c < itN y∧itN y≤aU (c + cB x.1 x.2) r)∧((cU x.1 c x.2++itP (c + cB x.1 x.2) r).map itN).Nodup
  refine ⟨fun y hy=>?_,?_⟩
  ·rcases List.mem_append.mp hy with hy | hy
   ·have:=h3 y hy;exact ⟨nl [_,_] [(.s N0,N1)] (.s N0) N1 rfl this.1,nl [_,_,_,_] [(N0,.a N1 N2),(.a N1 N2,N3)] N0 N3 rfl this.2 h5⟩
   ·have:=h1 y hy;exact ⟨nl [_,_,_] [(.s (.a N0 N1),N2)] (.s N0) N2 rfl this.1,nl [_,_] [(N0,N1)] N0 N1 rfl this.2⟩
  ·rw [List.map_append,List.nodup_append]
   refine ⟨h4,h2,fun a ha b hb=>?_⟩
   obtain ⟨y,hy,rfl⟩:=List.mem_map.mp ha
   obtain ⟨z,hz,rfl⟩:=List.mem_map.mp hb
   have:=h3 y hy
   have:=h1 z hz
   omega
noncomputable def mkOf:It→Option (Str×D)
 | .mark l m n=>some (frS .mark n,.tup [.int l,aq (gvS m)])
 | .ins _ _ _=>none
noncomputable def dW (f:Fm)(c:Nat)(node:D):D:=.tup [.str (so "rename"),.int f.line,.str (so "subprog"),.str (frS (smN f.nm) (c + 1)),eA f (frS (smN f.nm) (c + 1)) (c + 1),node]
noncomputable def ldOf:It→Option (Str×D)
 | .mark _ _ _=>none
 | .ins f c node=>some (frS (smN f.nm) (c + 1),dW f c node)
noncomputable def aH (l:List It):List (Str×D):=l.filterMap mkOf
noncomputable def aS (l:List It):List (Str×D):=l.filterMap ldOf
noncomputable def itK:It→Str
 | .mark _ _ n=>frS .mark n
 | .ins f c _=>frS (smN f.nm) (c + 1)
theorem itK_num {x y:It}(h:itN x≤30)(h':itN y≤30)(e:itK x=itK y):itN x=itN y:=by
 cases x <;> cases y <;> exact fr_inj h h' e
theorem marks_key {l:List It}{k:Str}(h:k∈(aH l).map (·.1)): ∃x∈l,k=itK x:=by
 obtain ⟨p,hp,rfl⟩:=List.mem_map.mp h
 refine x12 (List.mem_filterMap.mp hp) fun x hx e=>?_
 refine ⟨x,hx,?_⟩
 cases x with
 | mark l m n=>cases e;rfl
 | ins f c node=>cases e
theorem laid_key {l:List It}{k:Str}(h:k∈(aS l).map (·.1)): ∃x∈l,k=itK x:=by
 obtain ⟨p,hp,rfl⟩:=List.mem_map.mp h
 refine x12 (List.mem_filterMap.mp hp) fun x hx e=>?_
 refine ⟨x,hx,?_⟩
 cases x with
 | mark l m n=>cases e
 | ins f c node=>cases e;rfl
noncomputable def g7 (l:List It):Prop:=(∀x∈l,itN x≤30)∧(l.map itN).Nodup
theorem new_key {p q:List It}{x:It}(h:g7 (p++x::q)): ∀y∈p,itK x≠itK y:=by
 intro y hy e
 have hn:=itK_num (h.1 x (by simp)) (h.1 y (by simp [hy])) e
 have:=h.2
 rw [List.map_append,List.nodup_append] at this
 exact this.2.2 (itN y) (List.mem_map_of_mem hy) (itN x) (by simp) hn.symm
theorem keys_nodup {l:List It}(h:g7 l):(l.map itK).Nodup:=by
 obtain ⟨h1,h2⟩:=h
 induction l with
 | nil=>exact List.nodup_nil
 | cons x r ih=>
  simp only [List.map_cons,List.nodup_cons] at h2 ⊢
  refine ⟨fun hm=>?_,ih (fun y hy=>h1 y (List.mem_cons_of_mem _ hy)) h2.2⟩
  refine x12 (List.mem_map.mp hm) fun y hy e=>?_
  exact h2.1 (itK_num (h1 x List.mem_cons_self) (h1 y (List.mem_cons_of_mem _ hy)) e.symm▸List.mem_map_of_mem hy)
theorem iB: ∀(l:List It),List.Sublist ((aH l).map (·.1)) (l.map itK)
 | []=>List.Sublist.slnil
 | .mark a m n::r=>(iB r).cons_cons _
 | .ins f c node::r=>(iB r).cons _
theorem jB: ∀(l:List It),List.Sublist ((aS l).map (·.1)) (l.map itK)
 | []=>List.Sublist.slnil
 | .mark a m n::r=>(jB r).cons _
 | .ins f c node::r=>(jB r).cons_cons _
theorem marks_look {l:List It}(h:g7 l){a:Int}{m:Gv}{n:Nat}(hm:It.mark a m n∈l):aX (frS .mark n) (aH l)=some (.tup [.int a,aq (gvS m)]):=
 c6 ((keys_nodup h).sublist (iB l)) (List.mem_filterMap.mpr ⟨_,hm,rfl⟩)
theorem laid_look {l:List It}(h:g7 l){f:Fm}{c:Nat}{node:D}(hm:It.ins f c node∈l):aX (frS (smN f.nm) (c + 1)) (aS l)=some (dW f c node):=
 c6 ((keys_nodup h).sublist (jB l)) (List.mem_filterMap.mpr ⟨_,hm,rfl⟩)
theorem gC: ∀(l:List It),(aH l).length + (aS l).length=l.length
 | []=>rfl
 | .mark a m n::r=>by have:=gC r;show ((_::aH r).length + (aS r).length)=_;simp only [List.length_cons];exact Nat.le_antisymm (nl [_,_,_] [(.a N0 N1,N2)] (.a (.s N0) N1) (.s N2) rfl (Nat.le_of_eq this)) (nl [_,_,_] [(N0,.a N1 N2)] (.s N0) (.a (.s N1) N2) rfl (Nat.le_of_eq this.symm))
 | .ins f c node::r=>by have:=gC r;show ((aH r).length + (_::aS r).length)=_;simp only [List.length_cons];exact Nat.le_antisymm (nl [_,_,_] [(.a N0 N1,N2)] (.a N0 (.s N1)) (.s N2) rfl (Nat.le_of_eq this)) (nl [_,_,_] [(N0,.a N1 N2)] (.s N0) (.a N1 (.s N2)) rfl (Nat.le_of_eq this.symm))
theorem slice_last {a:List D}{w:D}(h:a.length≤1000):co (.lst (a++[w])) none (some (-1))=some (.lst a):=by
 have h1:(a++[w]).length≤10000:=by rw [List.length_append];simp;exact lec ‹_› (by rfl)
 have h2:dJ (a++[w]).length (some (-1))=a.length:=by
  show clipAt _ (-((1:Nat):Int))=_
  rw [clipAt_neg _ _ (Nat.le_refl 1),List.length_append];rfl
 refine (if_pos h1).trans (congrArg (fun x=>some (D.lst x)) ?_)
 show List.take (dJ (a++[w]).length (some (-1))) (a++[w])=a
 rw [h2,List.take_left'];rfl
theorem ix_last {a:List D}{w:D}:ixD (.lst (a++[w])) (.int (-1))=some w:=by
 have h1:bl (-1)=true:=by decide
 simp only [ixD,h1,if_true,dF]
 rw [if_neg (by decide),if_pos (by rw [List.length_append];simp;exact ni [_] [(.n 0,Z0)] (.n 1) (.s Z0) rfl (Int.natCast_nonneg _))]
 have:((-1:Int) + ((a++[w]).length:Nat)).toNat=a.length:=by rw [List.length_append];simp;omega
 rw [this,List.getElem?_append_right (Nat.le_refl _),Nat.sub_self];rfl
theorem slice3 {a b c d e f:D}:co (.tup [a,b,c,d,e,f]) none (some 3)=some (.tup [a,b,c]):=by kernel_rfl
theorem slice3' {a b c d:D}:co (.tup [a,b,c,d]) none (some 3)=some (.tup [a,b,c]):=by kernel_rfl
noncomputable def lds (S F U:D)(t3 t4 t5 t6 t7 t9 t10 t11 t12 t13 t14 t15 t16 t17:Option Slot):List (Option Slot):=
 [some (.val S),some (.val F),some (.val U),t3,t4,t5,t6,t7,none,t9,t10,t11,t12,t13,t14,t15,t16,t17]
noncomputable def i1Body:List S:=fm ((ir_is_laid.body[1]?).getD .dead)
theorem marks_snoc_m (p:List It)(l:Int)(m:Gv)(n:Nat):aH (p++[.mark l m n])=aH p++[(frS .mark n,.tup [.int l,aq (gvS m)])]:=by
 unfold aH;rw [List.filterMap_append];rfl
theorem marks_snoc_i (p:List It)(f:Fm)(c:Nat)(d:D):aH (p++[.ins f c d])=aH p:=by
 unfold aH;rw [List.filterMap_append];exact List.append_nil _
theorem laid_snoc_m (p:List It)(l:Int)(m:Gv)(n:Nat):aS (p++[.mark l m n])=aS p:=by
 unfold aS;rw [List.filterMap_append];exact List.append_nil _
theorem laid_snoc_i (p:List It)(f:Fm)(c:Nat)(d:D):aS (p++[.ins f c d])=aS p++[(frS (smN f.nm) (c + 1),dW f c d)]:=by
 unfold aS;rw [List.filterMap_append];rfl
theorem marks_le (l:List It):(aH l).length≤l.length:=by have:=gC l;exact nl [_,_,_] [(.a N0 N1,N2)] N0 N2 rfl (Nat.le_of_eq this)
theorem laid_le (l:List It):(aS l).length≤l.length:=by have:=gC l;exact nl [_,_,_] [(.a N0 N1,N2)] N1 N2 rfl (Nat.le_of_eq this)
theorem i1_turn {S F U:D}{p:List It}{x:It}{t5 t6:Option Slot}{g:G}(hp:p.length≤100)(hn: ∀y∈p,itK x≠itK y):
  ∃u v,((Res.ofOpt (bb ⟨lds S F U (some (.own (.dct (aH p)))) (some (.own (.dct (aS p)))) t5 t6 none none none none none none none none none none,g⟩ [5,6] (itS x))).bind fun s1=>exs t1 i1Body s1)=
   .ok (.next,⟨lds S F U (some (.own (.dct (aH (p++[x]))))) (some (.own (.dct (aS (p++[x]))))) u v none none none none none none none none none none,g⟩):=by
 have h1:=marks_le p
 have h2:=laid_le p
 cases x with
 | mark l m n=>
  have e:cz (frS .mark n) (.tup [.int l,aq (gvS m)]) (aH p)=aH (p++[.mark l m n]):=by
   rw [marks_snoc_m]
   refine dZ fun h=>?_
   refine x12 (marks_key h) fun y hy e=>?_
   exact hn y hy e
  have e':aS (p++[.mark l m n])=aS p:=laid_snoc_m p l m n
  rw [e',←e]
  refine ⟨some (.val (.str (so "generic"))),some (.val (.tup [.str (so "subtype"),.int l,.str (frS .mark n),.tup [.str (so "sub"),aq (gvS m),.none]])),?_⟩
  show exs t1 i1Body ⟨lds S F U (some (.own (.dct (aH p)))) (some (.own (.dct (aS p)))) (some (.val (.str (so "generic")))) (some (.val (.tup [.str (so "subtype"),.int l,.str (frS .mark n),.tup [.str (so "sub"),aq (gvS m),.none]]))) none none none none none none none none none none,g⟩=_
  have heq:eqD (.tup [.str (so "sub"),aq (gvS m),.none]) (.tup [.str (so "sub"),aq (gvS m),.none])=some true:=by cases m <;> kernel_rfl
  exact ah (aZ (aV (ay (ad rfl) ag ix0) ag (by kernel_rfl)) (ah (aD (eZ (R_f (bw (t:=true) (ad rfl) ag (by kernel_rfl)) (R_f (bw (t:=true) (ay (ad rfl) ag ix3) (aF (af ag (af (ay (ay (ad rfl) ag ix3) ag ix1) (af ag ao))) (am rfl)) heq) eK))) ar)
   (ah (gL (aF (af (ay (ad rfl) ag ix1) (af (ay (ay (ad rfl) ag ix3) ag ix1) ao)) (am rfl)) rfl (ay (ad rfl) ag ix2) rfl (show (aH p).length≤1000 by exact nl [_,_] [(N0,N1),(N1,.n 100)] N0 (.n 1000) rfl h1 hp)) ar))) ar
 | ins f c d=>
  have e:cz (frS (smN f.nm) (c + 1)) (dW f c d) (aS p)=aS (p++[.ins f c d]):=by
   rw [laid_snoc_i]
   refine dZ fun h=>?_
   refine x12 (laid_key h) fun y hy e=>?_
   exact hn y hy e
  have e':aH (p++[.ins f c d])=aH p:=marks_snoc_i p f c d
  rw [e',←e]
  refine ⟨some (.val (.str (so "instance"))),some (.val (dW f c d)),?_⟩
  show exs t1 i1Body ⟨lds S F U (some (.own (.dct (aH p)))) (some (.own (.dct (aS p)))) (some (.val (.str (so "instance")))) (some (.val (dW f c d))) none none none none none none none none none none,g⟩=_
  have heq:eqD (.tup [.str (so "rename"),.int f.line,.str (so "subprog")]) (.tup [.str (so "rename"),.int f.line,.str (so "subprog")])=some true:=
   cD (ja (bh (by decide +kernel) (bh gI (bh (by decide +kernel) fN)))) (gF (bc c7 (bc i9 (bc c7 (eX (n:=7))))))
  exact ah (aD (aV (ay (ad rfl) ag ix0) ag (by kernel_rfl)) (ah (aD (eZ (R_f (bw (t:=true) (ad rfl) ag (by kernel_rfl)) (R_f (bw (t:=true) (cK (ad rfl) cG (bI ag (by decide)) slice3) (aF (af ag (af (ay (ad rfl) ag ix1) (af ag ao))) (am rfl)) heq) eK))) ar)
   (ah (gL (ad rfl) rfl (ay (ad rfl) ag ix3) rfl (show (aS p).length≤1000 by exact nl [_,_] [(N0,N1),(N1,.n 100)] N0 (.n 1000) rfl h2 hp)) ar))) ar
theorem i1_loop {F U w:D}{its:List It}{g:G}(h:g7 its)(hl:its.length≤100):
  ∃u v,ex t1 (.forL [5,6] (.slc (.var 0) none (some (.cst (.int (-1))))) i1Body) ⟨lds (.lst (its.map itS++[w])) F U (some (.own (.dct []))) (some (.own (.dct []))) none none none none none none none none none none none none,g⟩=
   .ok (.next,⟨lds (.lst (its.map itS++[w])) F U (some (.own (.dct (aH its)))) (some (.own (.dct (aS its)))) u v none none none none none none none none none none,g⟩):=by
 rw [eJ (ds:=its.map itS) (cK (ad rfl) cG (bI ag (by decide)) (slice_last (by rw [List.length_map];exact lec ‹_› (by rfl)))) (by rw [List.length_map];exact lec ‹_› (by rfl))]
 refine cA (emb:=itS) (fun p st=> ∃u v,st=⟨lds (.lst (its.map itS++[w])) F U (some (.own (.dct (aH p)))) (some (.own (.dct (aS p)))) u v none none none none none none none none none none,g⟩)
  (fun R=> ∃u v,R=.ok (.next,⟨lds (.lst (its.map itS++[w])) F U (some (.own (.dct (aH its)))) (some (.own (.dct (aS its)))) u v none none none none none none none none none none,g⟩)) ?_ (fun st ⟨u,v,e⟩=>⟨u,v,by rw [e]⟩) ⟨none,none,rfl⟩
 rintro p x q st e ⟨u,v,rfl⟩
 have hp:p.length≤100:=by have:=congrArg List.length e;simp at this;exact nl [_,_,_] [(.a N0 (.s N1),N2),(N2,.n 100)] N0 (.n 100) rfl (Nat.le_of_eq this.symm) hl
 obtain ⟨u',v',h1⟩:=i1_turn (S:=.lst (its.map itS++[w])) (F:=F) (U:=U) (t5:=u) (t6:=v) (g:=g) hp (new_key (q:=q) (by rw [←e];exact h))
 exact .inl ⟨_,h1,u',v',rfl⟩
theorem jD (i:Int):eqD (.int i) (.int i)=some true:=cD gI (Nat.zero_le _)
noncomputable def psl (f:Fm)(X:Str)(n:Nat)(kv:List (Str×D))(t4 t5 t6 t7 t8:Option Slot):List (Option Slot):=
 [some (.val (eA f X n)),some (.val (.str (nmS f.nm))),some (.val (.dct kv)),some (.val (.int f.line)),t4,t5,t6,t7,t8]
theorem pis_len (pm:Pm)(n:Nat):(pis pm n).length≤1000:=by cases pm <;> exact am rfl
theorem plain_none {f:Fm}{X:Str}{n:Nat}{kv:List (Str×D)}{g:G}(Hp: ∀q∈pis f.pm n,aX (frS .mark q.n) kv=some (.tup [.int f.line,aq (gvS q.m)])):
  ev t0 (.compE [4,5,6,7] (.ix (.var 0) (.cst (.int 2))) [(.op .ne (.ix (.getV 2 (.ix (.var 6) (.cst (.int 1))) (.tup [(.cst (.int 0)),(.cst (.int 0))])) (.cst (.int 0))) (.var 3))] (.var 6)) ⟨psl f X n kv none none none none none,g⟩=.ok (.lst [],⟨psl f X n kv none none none none none,g⟩):=by
 have h0:ev t0 (.ix (.var 0) (.cst (.int 2))) ⟨psl f X n kv none none none none none,g⟩=.ok (.lst ((pis f.pm n).map fun q=>.tup [q.ns,.str (so "in"),mkn q.n,.none]),⟨psl f X n kv none none none none none,g⟩):=by
  rw [←params_F];exact ay (ad rfl) ag ix2
 have:=cn (pat:=[4,5,6,7]) (conds:=[(.op .ne (.ix (.getV 2 (.ix (.var 6) (.cst (.int 1))) (.tup [(.cst (.int 0)),(.cst (.int 0))])) (.cst (.int 0))) (.var 3))]) (elt:=.var 6) (h:=fun _=>[]) h0 (pis_len _ _) fun q hq=>⟨_,rfl,rfl,false,?_,(fun h=>by cases h),fun _=>rfl⟩
 ·rw [this]
  have e:((pis f.pm n).map fun _=>([]:List D)).flatten=[]:=by simp
  rw [e]
 ·have hl: ∀{d:D},ixD ((aX (frS .mark q.n) kv).getD d) (.int 0)=some (.int f.line):=fun {d}=>by rw [Hp q hq];exact ix0
  exact dY (bw (t:=true) (ay (E_getV rfl (ay (ad rfl) ag ix1) (aF (af ag (af ag ao)) (am rfl)) rfl) ag hl) (ad rfl) (jD _))
theorem plain_rows {f:Fm}{X:Str}{n:Nat}{kv:List (Str×D)}{g:G}(Hp: ∀q∈pis f.pm n,aX (frS .mark q.n) kv=some (.tup [.int f.line,aq (gvS q.m)])):
  ev t0 (.compE [4,5,6,7] (.ix (.var 0) (.cst (.int 2))) [] (.tup [(.var 4),(.var 5),(.ix (.ix (.var 2) (.ix (.var 6) (.cst (.int 1)))) (.cst (.int 1))),(.var 7)])) ⟨psl f X n kv none none none none none,g⟩=.ok (.lst (be f.pm),⟨psl f X n kv none none none none none,g⟩):=by
 have h0:ev t0 (.ix (.var 0) (.cst (.int 2))) ⟨psl f X n kv none none none none none,g⟩=.ok (.lst ((pis f.pm n).map fun q=>.tup [q.ns,.str (so "in"),mkn q.n,.none]),⟨psl f X n kv none none none none none,g⟩):=by
  rw [←params_F];exact ay (ad rfl) ag ix2
 have:=cn (pat:=[4,5,6,7]) (conds:=[]) (elt:=.tup [(.var 4),(.var 5),(.ix (.ix (.var 2) (.ix (.var 6) (.cst (.int 1)))) (.cst (.int 1))),(.var 7)]) (h:=fun q:PI=>[.tup [q.ns,.str (so "in"),aq (gvS q.m),.none]]) h0 (pis_len _ _) fun q hq=>⟨_,rfl,rfl,true,fD,(fun _=>⟨_,?_,rfl⟩),fun h=>by cases h⟩
 ·rw [this,gS,params_D f.pm n]
 ·have hl:ixD (.dct kv) (.str (frS .mark q.n))=some (.tup [.int f.line,aq (gvS q.m)]):=Hp q hq
  exact aF (af (ad rfl) (af (ad rfl) (af (ay (ay (ad rfl) (ay (ad rfl) ag ix1) hl) ag ix1) (af (ad rfl) ao)))) (am rfl)
theorem plain_ok {f:Fm}{X:Str}{n:Nat}{kv:List (Str×D)}{g:G}(H: ∀l m k,It.mark l m k∈iA f n→aX (frS .mark k) kv=some (.tup [.int l,aq (gvS m)])):
  aG t0 ir_plain [eA f X n,.str (nmS f.nm),.dct kv,.int f.line] g=.ok (a7 f,g):=by
 have Hp: ∀q∈pis f.pm n,aX (frS .mark q.n) kv=some (.tup [.int f.line,aq (gvS q.m)]):=fun q hq=>H _ _ _ (List.mem_append_left _ (List.mem_map_of_mem hq))
 have Hg: ∀m k,It.mark f.line m k∈gvIt f.line f.gv (n + npm f.pm)→aX (frS .mark k) kv=some (.tup [.int f.line,aq (gvS m)]):=fun m k hk=>H _ _ _ (List.mem_append_right _ hk)
 have c1:=plain_none (X:=X) (g:=g) Hp
 have c2:=plain_rows (X:=X) (g:=g) Hp
 have hres: ∀{gv:Gv},gv≠ .no→(∀m k,It.mark f.line m k∈gvIt f.line gv (n + npm f.pm)→aX (frS .mark k) kv=some (.tup [.int f.line,aq (gvS m)]))→ ∀{d:D},ixD ((aX (frS .mark (n + npm f.pm + 1)) kv).getD d) (.int 1)=some (aq (gvS gv)):=fun {gv} h1 h2 {d}=>by
  rw [h2 gv (n + npm f.pm + 1) (by cases gv <;> first | exact absurd rfl h1 | exact List.mem_singleton.mpr rfl)];exact ix1
 have pre: ∀{q:List S} {R:Res (Fl×St)},exs t0 q ⟨psl f X n kv none none none none (some (.val (.lst (be f.pm)))),g⟩=R→
   exs t0 (ir_plain.body.take 2++q) ⟨psl f X n kv none none none none none,g⟩=R:=fun h=>
  ah (aD (bw (t:=true) c1 (cv ao (am rfl)) (by kernel_rfl)) ar) (ah (aB (i:=8) c2) h)
 have hs:a7 f=.tup [.str (e9 f.gv),.str (nmS f.nm),.lst (be f.pm),ig f.gv]:=rfl
 have hF:eA f X n=.tup [.str (e9 f.gv),.str X,.lst (eO f.pm n),resF f.gv (n + npm f.pm)]:=rfl
 have h0:ixD (eA f X n) (.int 0)=some (.str (e9 f.gv)):=ix0
 have h3:ixD (eA f X n) (.int 3)=some (resF f.gv (n + npm f.pm)):=ix3
 refine bu (f:=ir_plain) (st:=⟨psl f X n kv none none none none (some (.val (.lst (be f.pm)))),g⟩) rfl (pre ?_)
 rw [hs]
 cases hgv:f.gv with
 | no=>
  rw [hgv] at h0 h3
  exact aW (aZ (eM (a:=.none) (ay (ad rfl) ag h3)) (aW (bE (aF (af (ay (ad rfl) ag h0) (af (ad rfl) (af (ad rfl) (af ag ao)))) (am rfl)))))
 | t=>
  rw [hgv] at h0 h3 Hg
  exact ah (aD (eM (a:=mkn (n + npm f.pm + 1)) (ay (ad rfl) ag h3)) ar) (aW (bE (aF (af (ay (ad rfl) ag h0) (af (ad rfl) (af (ad rfl) (af (ay (E_getV rfl (ay (ay (ad rfl) ag h3) ag ix1) (aF (af ag (af ag ao)) (am rfl)) rfl) ag (hres (gv:=.t) (by decide) Hg)) ao)))) (am rfl))))
 | u=>
  rw [hgv] at h0 h3 Hg
  exact ah (aD (eM (a:=mkn (n + npm f.pm + 1)) (ay (ad rfl) ag h3)) ar) (aW (bE (aF (af (ay (ad rfl) ag h0) (af (ad rfl) (af (ad rfl) (af (ay (E_getV rfl (ay (ay (ad rfl) ag h3) ag ix1) (aF (af ag (af ag ao)) (am rfl)) rfl) ag (hres (gv:=.u) (by decide) Hg)) ao)))) (am rfl))))
noncomputable def duA (x:Fm×Act):D:=if isL x.2=true then laidD (dX x.1 x.2) else .tup [.str (so "within"),dfD x.1.df]
theorem duL_acts (fs:List Fm)(us ns:List Rw):duL fs us ns=.lst ((cj fs us ns).map duA):=by
 unfold duL cj
 rw [List.map_map]
 congr 1
 exact List.map_congr_left fun x _=>duD_act
theorem acts_fst (fs:List Fm)(us ns:List Rw):(cj fs us ns).map (·.1)=fs:=by
 unfold cj
 rw [List.map_map]
 exact List.zipIdx_map_fst 0 fs
noncomputable def je (A:Act):Prop:= ∀a,A=.act a→PyData.strOk a=true
theorem told_strOk {rows us ns:List Rw}(hro:RowsOk rows)(e:rows=us++ns)(i:Nat)(f:Fm): ∀x∈bX us ns i f,PyData.strOk x=true:=by
 intro x hx
 subst e
 unfold bX at hx
 rcases List.mem_append.mp hx with h | h
 ·obtain ⟨r,hr,rfl⟩:=List.mem_map.mp h
  have:r∈us:=by
   cases hu:us[i]? with
   | none=>rw [hu] at hr;cases hr
   | some z=>
    rw [hu] at hr
    simp only [Option.toList_some,List.mem_singleton] at hr
    subst hr
    exact List.mem_of_getElem? hu
  exact hro r (List.mem_append_left _ this)
 ·obtain ⟨r,hr,rfl⟩:=List.mem_map.mp h
  exact hro r (List.mem_append_right _ (List.mem_filter.mp hr).1)
theorem acts_ok {fs:List Fm}{rows us ns:List Rw}(hro:RowsOk rows)(e:rows=us++ns): ∀x∈cj fs us ns,je x.2:=by
 intro x hx a ha
 unfold cj at hx
 obtain ⟨y,hy,rfl⟩:=List.mem_map.mp hx
 simp only at ha
 have ht:=told_strOk hro e y.2 y.1
 unfold iW at ha
 cases hh:(bX us ns y.2 y.1).head? with
 | some b=>
  rw [hh] at ha
  cases ha
  exact ht _ (List.mem_of_head? hh)
 | none=>
  rw [hh] at ha
  cases hd:y.1.df <;> rw [hd] at ha <;> cases ha
theorem node_c (f:Fm){A:Act}(h:je A):D.cmpOk (dX f A)=true∧(dX f A).depth≤1:=by
 cases A with
 | act a=>exact ⟨iz (h a rfl),iy⟩
 | box=>exact opN_c _
 | dfl=>exact df_c _
theorem itP_append (p q:List (Fm×Act))(c:Nat):itP c (p++q)=itP c p++itP (aU c p) q:=by
 induction p generalizing c with
 | nil=>rfl
 | cons x r ih=>exact (congrArg (cU x.1 c x.2++ ·) (ih _)).trans (List.append_assoc _ _ _).symm
theorem inP_append (p q:List (Fm×Act))(c:Nat):inP c (p++q)=inP c p++inP (aU c p) q:=by
 induction p generalizing c with
 | nil=>rfl
 | cons x r ih=>exact congrArg (cI x.1 c x.2:: ·) (ih _)
theorem it_mem {L p q:List (Fm×Act)}{x:Fm×Act}(e:L=p++x::q){y:It}(hy:y∈cU x.1 (aU 0 p) x.2):y∈itP 0 L:=by
 rw [e,itP_append]
 exact List.mem_append_right _ (List.mem_append_left _ hy)
theorem in_at {L p q:List (Fm×Act)}{x:Fm×Act}(e:L=p++x::q){w:D}(hl:p.length≤1000):ixD (.lst (inP 0 L++[w])) (.int (p.length:Nat))=some (cI x.1 (aU 0 p) x.2):=by
 have hs:bl (p.length:Nat)=true:=dt (Int.natCast_nonneg _) (by exact ni [_] [(Z0,.n 1000)] (.s Z0) (.n 1000000) rfl (Int.ofNat_le.2 hl))
 rw [ixD_nat hs,e,inP_append,List.append_assoc,List.getElem?_append_right (by rw [gD];exact Nat.le_refl _),gD,Nat.sub_self]
 rfl
theorem its_ok {L:List (Fm×Act)}(hL:L.length≤5):g7 (itP 0 L):=by
 refine x02 (it_nums L 0) fun h1 h2=>?_
 have h3:=eY L 0
 exact ⟨fun x hx=>by have:=h1 x hx;exact nl [_,_,_] [(N0,N1),(N1,.a (.n 0) (.m 4 N2)),(.m 4 N2,.m 4 (.n 5))] N0 (.n 30) rfl this.2 h3 (Nat.mul_le_mul_left 4 hL),h2⟩
theorem its_len {L:List (Fm×Act)}(hL:L.length≤5):(itP 0 L).length≤20:=by
 have h:=stP_le L 0
 rw [itP_S,List.length_map] at h
 exact nl [_,_] [(N0,.m 4 N1),(.m 4 N1,.m 4 (.n 5))] N0 (.n 20) rfl h (Nat.mul_le_mul_left 4 hL)
theorem hH (a b:List It):aS (a++b)=aS a++aS b:=List.filterMap_append
theorem laid_marks (f:Fm)(c:Nat):aS (iA f c)=[]:=by
 unfold iA
 cases f.pm <;> cases f.gv <;> rfl
theorem laid_cnt (L:List (Fm×Act))(c:Nat):(aS (itP c L)).length=(L.filter fun x=>isL x.2).length:=by
 induction L generalizing c with
 | nil=>rfl
 | cons x r ih=>
  show (aS (_++_)).length=_
  rw [hH,List.length_append,ih,List.filter_cons]
  by_cases h:isL x.2=true
  ·have e:aS (cU x.1 c x.2)=[(frS (smN x.1.nm) (c + 1),dW x.1 c (dX x.1 x.2))]:=by
    unfold cU;rw [if_pos h,hH,laid_marks];rfl
   rw [e,if_pos h,List.length_cons,List.length_cons,List.length_nil];exact Nat.add_comm _ _
  ·have e:aS (cU x.1 c x.2)=[]:=by
    unfold cU;rw [if_neg h];rfl
   rw [e,if_neg h,List.length_nil];exact Nat.add_comm _ _
theorem outSteps_eq (line:Int)(u:Us)(L:List (Fm×Act)):eP line u L=(itP 0 L).map itS++[gp line (aU 0 L) u (inP 0 L)]:=by
 unfold eP;rw [itP_S]
noncomputable def i2Body:List S:=fm ((ir_is_laid.body[5]?).getD .dead)
set_option backward.match.sparseCases false in
noncomputable def i2If:List S:=match (i2Body[3]?).getD .dead with
 | .ife _ a _=>a
 | _=>[]
noncomputable def ownV (s:Option Slot)(d:D):Prop:=s=some (.own d)∨s=some (.val d)
noncomputable def fT (line:Int)(u:Us)(L:List (Fm×Act)):D:=.lst ((itP 0 L).map itS++[gp line (aU 0 L) u (inP 0 L)])
noncomputable def bM (line:Int)(u:Us)(L:List (Fm×Act))(s3 t5 t6 t7 t9 t10 t11 t12 t13 t14 t15 t16 t17:Option Slot):List (Option Slot):=
 lds (fT line u L) (fsL (L.map (·.1))) (.lst (L.map duA)) s3 (some (.own (.dct (aS (itP 0 L))))) t5 t6 t7 t9 t10 t11 t12 t13 t14 t15 t16 t17
theorem i2_end {line:Int}{u:Us}{L:List (Fm×Act)}{s3 t5 t6 t7 t9 t11 t12 t13 t16:Option Slot}{f:Fm}{d:D}{g:G}(hd:D.cmpOk d=true∧d.depth≤4):
  exs t1 (i2Body.drop 4) ⟨bM line u L s3 t5 t6 t7 t9 (some (.val d)) t11 t12 t13 (some (.val (.int f.line))) (some (.val (a7 f))) t16 (some (.val (du f d))),g⟩=
   .ok (.next,⟨bM line u L s3 t5 t6 t7 t9 (some (.val d)) t11 t12 t13 (some (.val (.int f.line))) (some (.val (a7 f))) t16 (some (.val (du f d))),g⟩):=by
 refine x02 (ren_c (f:=f) hd.1 hd.2) fun h1 h2=>?_
 have heq:eqD (du f d) (.tup [.str (so "rename"),.int f.line,.str (so "subprog"),.str (nmS f.nm),a7 f,d])=some true:=cD h1 (lec ‹_› (by rfl))
 have hsp:ixD (a7 f) (.int 1)=some (.str (nmS f.nm)):=ix1
 exact ah (aD (bw (t:=true) (ad rfl) (aF (ds:=[.str (so "rename"),.int f.line,.str (so "subprog"),.str (nmS f.nm),a7 f,d]) (af ag (af (ad rfl) (af ag (af (ay (ad rfl) ag hsp) (af (ad rfl) (af (ad rfl) ao)))))) (am rfl)) heq) ar) ar
theorem i2_in {line:Int}{u:Us}{L:List (Fm×Act)}{s3 t5 t6 t7 t9 t11 t12 t13 t16:Option Slot}{f:Fm}{c:Nat}{nd:D}{g:G}(hL:L.length≤5)(hc:c + 1≤30)(hn:D.cmpOk nd=true∧nd.depth≤1)
  (hi:It.ins f c nd∈itP 0 L) (hm: ∀y∈iA f (c + 1),y∈itP 0 L) (h3:ownV s3 (.dct (aH (itP 0 L)))):
  ∃t6',exs t1 i2If ⟨bM line u L s3 t5 t6 t7 t9 (some (.val nd)) t11 t12 t13 (some (.val (.int f.line))) (some (.val (a7 f))) t16 (some (.val (du f (aq (frS (smN f.nm) (c + 1)))))),g⟩=
   .ok (.next,⟨bM line u L (some (.val (.dct (aH (itP 0 L))))) t5 t6' t7 t9 (some (.val (aq (frS (smN f.nm) (c + 1))))) t11 t12 t13 (some (.val (.int f.line))) (some (.val (a7 f))) t16 (some (.val (du f (aq (frS (smN f.nm) (c + 1)))))),g⟩):=by
 have hits:=its_ok hL
 have hlk:=laid_look hits hi
 have hX:=gR (s:=smN f.nm) hc
 have hpl:=plain_ok (X:=frS (smN f.nm) (c + 1)) (f:=f) (n:=c + 1) (kv:=aH (itP 0 L)) (g:=g) fun l m k hk=>marks_look hits (hm _ hk)
 have r1:ixD (dW f c nd) (.int 1)=some (.int f.line):=ix1
 have r3:ixD (dW f c nd) (.int 3)=some (.str (frS (smN f.nm) (c + 1))):=ix3
 have r4:ixD (dW f c nd) (.int 4)=some (eA f (frS (smN f.nm) (c + 1)) (c + 1)):=ix4
 have r5:ixD (dW f c nd) (.int 5)=some nd:=ix5
 have r41:ixD (eA f (frS (smN f.nm) (c + 1)) (c + 1)) (.int 1)=some (.str (frS (smN f.nm) (c + 1))):=ix1
 have s1:ixD (a7 f) (.int 1)=some (.str (nmS f.nm)):=ix1
 generalize hXe:frS (smN f.nm) (c + 1)=X at *
 have w5:ixD (du f (aq X)) (.int 5)=some (aq X):=ix5
 have hnd:eqD nd nd=some true:=cD hn.1 (by exact nl [_] [(N0,.n 1)] N0 (.n 8) rfl hn.2)
 have hXX:eqD (.str X) (.str X)=some true:=cD (cmp_str hX) (Nat.zero_le _)
 have hNN:eqD (aq X) (.tup [.str (so "name"),.str X])=some true:=cD (iz hX) (iy (n:=7))
 have hss:eqD (a7 f) (a7 f)=some true:=cD (spec_c f).1 (by have:=(spec_c f).2;exact lec ‹_› (by rfl))
 generalize hR:dW f c nd=R at *
 generalize eA f X (c + 1)=SF at *
 generalize hW:du f (aq X)=W at *
 generalize a7 f=SP at *
 have e1: ∀{t6:Option Slot},ev t1 (.getV 4 (.ix (.ix (.var 17) (.cst (.int 5))) (.cst (.int 1))) (.var 17)) ⟨bM line u L s3 t5 t6 t7 t9 (some (.val nd)) t11 t12 t13 (some (.val (.int f.line))) (some (.val SP)) t16 (some (.val W)),g⟩=
   .ok (R,⟨bM line u L s3 t5 t6 t7 t9 (some (.val nd)) t11 t12 t13 (some (.val (.int f.line))) (some (.val SP)) t16 (some (.val W)),g⟩):=fun {t6}=>by
  have:=E_getV (ft:=t1) (k:=4) (a:=.ix (.ix (.var 17) (.cst (.int 5))) (.cst (.int 1))) (b:=.var 17) (kv:=aS (itP 0 L)) (kvs:=aS (itP 0 L)) (st:=⟨bM line u L s3 t5 t6 t7 t9 (some (.val nd)) t11 t12 t13 (some (.val (.int f.line))) (some (.val SP)) t16 (some (.val W)),g⟩) rfl (ay (ay (ad rfl) ag w5) ag ix1) (ad (i:=17) rfl) rfl
  rw [this,hlk];rfl
 have e2:ex t1 ((i2If[0]?).getD .dead) ⟨bM line u L s3 t5 t6 t7 t9 (some (.val nd)) t11 t12 t13 (some (.val (.int f.line))) (some (.val SP)) t16 (some (.val W)),g⟩=
   .ok (.next,⟨bM line u L s3 t5 (some (.val R)) t7 t9 (some (.val nd)) t11 t12 t13 (some (.val (.int f.line))) (some (.val SP)) t16 (some (.val W)),g⟩):=aB (i:=6) e1
 have e3:ex t1 ((i2If[1]?).getD .dead) ⟨bM line u L s3 t5 (some (.val R)) t7 t9 (some (.val nd)) t11 t12 t13 (some (.val (.int f.line))) (some (.val SP)) t16 (some (.val W)),g⟩=
   .ok (.next,⟨bM line u L s3 t5 (some (.val R)) t7 t9 (some (.val nd)) t11 t12 t13 (some (.val (.int f.line))) (some (.val SP)) t16 (some (.val W)),g⟩):=
  aD (eZ (R_f (bw (t:=true) (ay (ad rfl) ag r1) (ad rfl) (jD _)) (R_f (bw (t:=true) (ay (ad rfl) ag r5) (ad rfl) hnd)
   (R_f (bw (t:=true) (ay (ay (ad rfl) ag r4) ag r41) (ay (ad rfl) ag r3) hXX)
   (R_f (bw (t:=true) (ay (ad rfl) ag w5) (aF (af ag (af (ay (ad rfl) ag r3) ao)) (am rfl)) hNN) eK))))) ar
 have hfz:ev t1 (.fz 3) ⟨bM line u L s3 t5 (some (.val R)) t7 t9 (some (.val nd)) t11 t12 t13 (some (.val (.int f.line))) (some (.val SP)) t16 (some (.val W)),g⟩=
   .ok (.dct (aH (itP 0 L)),⟨bM line u L (some (.val (.dct (aH (itP 0 L))))) t5 (some (.val R)) t7 t9 (some (.val nd)) t11 t12 t13 (some (.val (.int f.line))) (some (.val SP)) t16 (some (.val W)),g⟩):=by
  rcases h3 with rfl | rfl
  ·exact dM rfl
  ·exact jd rfl
 have e4:ex t1 ((i2If[2]?).getD .dead) ⟨bM line u L s3 t5 (some (.val R)) t7 t9 (some (.val nd)) t11 t12 t13 (some (.val (.int f.line))) (some (.val SP)) t16 (some (.val W)),g⟩=
   .ok (.next,⟨bM line u L (some (.val (.dct (aH (itP 0 L))))) t5 (some (.val R)) t7 t9 (some (.val nd)) t11 t12 t13 (some (.val (.int f.line))) (some (.val SP)) t16 (some (.val W)),g⟩):=
  aD (bw (t:=true) (bt (af (ay (ad rfl) ag r4) (af (ay (ad rfl) ag s1) (af hfz (af (ad rfl) ao)))) hpl) (ad rfl) hss) ar
 exact ⟨some (.val R),ah e2 (ah e3 (ah e4 (ah (aB (i:=10) (ay (ad rfl) ag w5)) ar)))⟩
inductive I2St (line:Int)(u:Us)(L:List (Fm×Act))(t5 t7:Option Slot)(g:G)(st:St):Prop
 | mk {s3 t6 t9 t10 t11 t12 t13 t14 t15 t16 t17:Option Slot} (h3:ownV s3 (.dct (aH (itP 0 L)))) (e:st=⟨bM line u L s3 t5 t6 t7 t9 t10 t11 t12 t13 t14 t15 t16 t17,g⟩)
theorem i2_turn {line:Int}{u:Us}{L p q:List (Fm×Act)}{x:Fm×Act}{s3 t5 t6 t7 t9 t10 t13 t14 t15 t16 t17:Option Slot}{g:G}(hL:L.length≤5)(e:L=p++x::q)(hA:je x.2)(h3:ownV s3 (.dct (aH (itP 0 L)))):
  ∃st,I2St line u L t5 t7 g st∧exs t1 i2Body ⟨bM line u L s3 t5 t6 t7 t9 t10 (some (.val (.int (p.length:Nat)))) (some (.val (fmD x.1))) t13 t14 t15 t16 t17,g⟩=.ok (.next,st):=by
 have hp:p.length≤5:=by have:=congrArg List.length e;simp at this;exact nl [_,_,_] [(.a N0 (.s N1),N2),(N2,.n 5)] N0 (.n 5) rfl (Nat.le_of_eq this.symm) hL
 have hx:L[p.length]? =some x:=by rw [e];simp
 have hdu:ixD (.lst (L.map duA)) (.int (p.length:Nat))=some (duA x):=ca (f:=duA) hx (Nat.lt_of_le_of_lt ‹_› (by decide))
 have hsh:=in_at e (w:=aY u) (lec ‹_› (by rfl))
 have hcp:aU 0 p≤20:=by have:=eY p 0;exact nl [_,_] [(N0,.a (.n 0) (.m 4 N1)),(.m 4 N1,.m 4 (.n 5))] N0 (.n 20) rfl this (Nat.mul_le_mul_left 4 hp)
 have hwr:ixD (gp line (aU 0 L) u (inP 0 L)) (.int 1)=some (.tup [.str (so "package"),.int line,.str (frS .wrap (aU 0 L + 1)),.lst (inP 0 L++[aY u]),.lst []]):=ix1
 have e1:ex t1 ((i2Body[0]?).getD .dead) ⟨bM line u L s3 t5 t6 t7 t9 t10 (some (.val (.int (p.length:Nat)))) (some (.val (fmD x.1))) t13 t14 t15 t16 t17,g⟩=
   .ok (.next,⟨bM line u L s3 t5 t6 t7 t9 t10 (some (.val (.int (p.length:Nat)))) (some (.val (fmD x.1))) (some (.val (.str (so "fsub")))) (some (.val (.int x.1.line))) (some (.val (a7 x.1))) (some (.val (dfD x.1.df))) t17,g⟩):=
  dS (ds:=[.str (so "fsub"),.int x.1.line,a7 x.1,dfD x.1.df]) (ad rfl) rfl
 have e2: ∀{a b:D},duA x=.tup [a,b]→ex t1 ((i2Body[1]?).getD .dead) ⟨bM line u L s3 t5 t6 t7 t9 t10 (some (.val (.int (p.length:Nat)))) (some (.val (fmD x.1))) (some (.val (.str (so "fsub")))) (some (.val (.int x.1.line))) (some (.val (a7 x.1))) (some (.val (dfD x.1.df))) t17,g⟩=
   .ok (.next,⟨bM line u L s3 t5 t6 t7 (some (.val a)) (some (.val b)) (some (.val (.int (p.length:Nat)))) (some (.val (fmD x.1))) (some (.val (.str (so "fsub")))) (some (.val (.int x.1.line))) (some (.val (a7 x.1))) (some (.val (dfD x.1.df))) t17,g⟩):=fun {a b} hd=>by
  rw [hd] at hdu
  exact dS (ds:=[a,b]) (ay (ad rfl) (ad rfl) hdu) rfl
 have e3: ∀{a b:D},ex t1 ((i2Body[2]?).getD .dead) ⟨bM line u L s3 t5 t6 t7 (some (.val a)) (some (.val b)) (some (.val (.int (p.length:Nat)))) (some (.val (fmD x.1))) (some (.val (.str (so "fsub")))) (some (.val (.int x.1.line))) (some (.val (a7 x.1))) (some (.val (dfD x.1.df))) t17,g⟩=
   .ok (.next,⟨bM line u L s3 t5 t6 t7 (some (.val a)) (some (.val b)) (some (.val (.int (p.length:Nat)))) (some (.val (fmD x.1))) (some (.val (.str (so "fsub")))) (some (.val (.int x.1.line))) (some (.val (a7 x.1))) (some (.val (dfD x.1.df))) (some (.val (cI x.1 (aU 0 p) x.2))),g⟩):=fun {a b}=>
  aB (i:=17) (ay (ay (ay (ay (ad rfl) ag ix_last) ag hwr) ag ix3) (ad rfl) hsh)
 by_cases hl:isL x.2=true
 ·have hdA:duA x=.tup [.str (so "laid"),dX x.1 x.2]:=by unfold duA;rw [if_pos hl];rfl
  have hin:cI x.1 (aU 0 p) x.2=du x.1 (aq (frS (smN x.1.nm) (aU 0 p + 1))):=by unfold cI;rw [if_pos hl]
  have hlay:cU x.1 (aU 0 p) x.2=iA x.1 (aU 0 p + 1)++[.ins x.1 (aU 0 p) (dX x.1 x.2)]:=by unfold cU;rw [if_pos hl]
  rw [hin] at e3
  obtain ⟨t6',h6⟩:=i2_in (line:=line) (u:=u) (s3:=s3) (t5:=t5) (t6:=t6) (t7:=t7) (t9:=some (.val (.str (so "laid")))) (t11:=some (.val (.int (p.length:Nat)))) (t12:=some (.val (fmD x.1))) (t13:=some (.val (.str (so "fsub")))) (t16:=some (.val (dfD x.1.df))) (f:=x.1) (c:=aU 0 p) (nd:=dX x.1 x.2) (g:=g) hL (Nat.lt_of_le_of_lt ‹_› (by decide)) (node_c x.1 hA)
   (it_mem e (by rw [hlay];simp)) (fun y hy=>it_mem e (by rw [hlay];exact List.mem_append_left _ hy)) h3
  have hfr:=gR (s:=smN x.1.nm) (c:=aU 0 p + 1) (Nat.lt_of_le_of_lt ‹_› (by decide))
  refine ⟨_,⟨.inr rfl,rfl⟩,ah e1 (ah (e2 hdA) (ah e3 (ah (aZ (aV (ad rfl) ag (by kernel_rfl)) h6) (i2_end ⟨iz hfr,iy (n:=3)⟩))))⟩
 ·have hdA:duA x=.tup [.str (so "within"),dfD x.1.df]:=by unfold duA;rw [if_neg hl]
  have hin:cI x.1 (aU 0 p) x.2=du x.1 (dfD x.1.df):=by unfold cI;rw [if_neg hl]
  rw [hin] at e3
  refine x02 (df_c x.1.df) fun d1 d2=>?_
  exact ⟨_,⟨h3,rfl⟩,ah e1 (ah (e2 hdA) (ah e3 (ah (aD (aV (ad rfl) ag (by kernel_rfl)) ar) (i2_end ⟨d1,lec ‹_› (by rfl)⟩))))⟩
theorem op_addL {a b:List D}(h:a.length + b.length≤1000):opD .add (.lst a) (.lst b)=some (.lst (a++b)):=if_pos h
theorem fsL_map (L:List (Fm×Act)):fsL (L.map (·.1))=.lst (L.map fun x=>fmD x.1):=by unfold fsL;rw [List.map_map];rfl
noncomputable def nmL (its:List It):D:=.lst ((aH its++aS its).map fun p=>.str p.1)
theorem nm_bits {F U S:D}{its:List It}{s3 s4 t5 t6:Option Slot}{g:G}(h:g7 its)(hl:its.length≤100):
  ev t1 (.compE [8] (.var 7) [(.ninn (.cst (.str (so "__"))) (.var 8))] (.var 8)) ⟨lds S F U s3 s4 t5 t6 (some (.val (nmL its))) none none none none none none none none none,g⟩=
   .ok (.lst [],⟨lds S F U s3 s4 t5 t6 (some (.val (nmL its))) none none none none none none none none none,g⟩):=by
 have hk:=gC its
 have:=cn (ft:=t1) (pat:=[8]) (src:=.var 7) (conds:=[(.ninn (.cst (.str (so "__"))) (.var 8))]) (elt:=.var 8) (emb:=fun p:Str×D=>D.str p.1) (xs:=aH its++aS its) (h:=fun _=>[]) (st:=⟨lds S F U s3 s4 t5 t6 (some (.val (nmL its))) none none none none none none none none none,g⟩) (ad rfl) (by rw [List.length_append];exact nl [_,_,_] [(.a N0 N1,N2),(N2,.n 100)] (.a N0 N1) (.n 1000) rfl (Nat.le_of_eq hk) hl)
  fun p hp=>⟨_,rfl,rfl,false,?_,(fun h=>by cases h),fun _=>rfl⟩
 ·rw [this]
  have e:((aH its++aS its).map fun _=>([]:List D)).flatten=[]:=by simp
  rw [e]
 ·have hb:fh p.1 (so "__")=true:=by
   have hx: ∃x∈its,p.1=itK x:=by
    rcases List.mem_append.mp hp with hp | hp
    ·exact marks_key (List.mem_map_of_mem hp)
    ·exact laid_key (List.mem_map_of_mem hp)
   refine x12 hx fun x hx e=>?_
   have hn:=h.1 x hx
   rw [e]
   cases x with
   | mark l m n=>exact fr_bit hn
   | ins f c d=>exact fr_bit hn
  have hin:inD (.str (so "__")) (.str p.1)=some true:=by
   show some (fh p.1 (so "__"))=some true
   rw [hb]
  exact dY (E_ninn (t:=true) ag (ad rfl) hin)
theorem du_cnt {F S:D}{L:List (Fm×Act)}{s3 s4 t5 t6 t7:Option Slot}{g:G}(hL:L.length≤5):
  ev t1 (.len (.compE [9,10] (.var 2) [(.op .eq (.var 9) (.cst (.str (so "laid"))))] (.cst (.int 1)))) ⟨lds S F (.lst (L.map duA)) s3 s4 t5 t6 t7 none none none none none none none none none,g⟩=
   .ok (.int ((L.filter fun x=>isL x.2).length:Nat),⟨lds S F (.lst (L.map duA)) s3 s4 t5 t6 t7 none none none none none none none none none,g⟩):=by
 have:=cn (ft:=t1) (pat:=[9,10]) (src:=.var 2) (conds:=[(.op .eq (.var 9) (.cst (.str (so "laid"))))]) (elt:=.cst (.int 1)) (emb:=duA) (xs:=L) (h:=fun x=>if isL x.2=true then [.int 1] else []) (st:=⟨lds S F (.lst (L.map duA)) s3 s4 t5 t6 t7 none none none none none none none none none,g⟩) (ad rfl) (lec ‹_› (by rfl))
  fun x hx=>?_
 ·rw [dk (fun x:Fm×Act=>isL x.2) (fun _=>D.int 1)] at this
  refine cM this (by simp only [da,List.length_map]) ?_
  exact Nat.le_trans (List.length_filter_le _ _) (lec ‹_› (by rfl))
 ·by_cases hl:isL x.2=true
  ·have hd:duA x=.tup [.str (so "laid"),dX x.1 x.2]:=by unfold duA;rw [if_pos hl];rfl
   rw [hd]
   exact ⟨_,rfl,rfl,true,dY (aV (ad rfl) ag (by kernel_rfl)),(fun _=>⟨_,ag,by rw [if_pos hl]⟩),fun h=>by cases h⟩
  ·have hd:duA x=.tup [.str (so "within"),dfD x.1.df]:=by unfold duA;rw [if_neg hl]
   rw [hd]
   exact ⟨_,rfl,rfl,false,dY (aV (ad rfl) ag (by kernel_rfl)),(fun h=>by cases h),fun _=>by rw [if_neg hl]⟩
theorem i2_loop {line:Int}{u:Us}{L:List (Fm×Act)}{s3 t5 t6 t7:Option Slot}{g:G}(hL:L.length≤5)(hA: ∀x∈L,je x.2)(h3:ownV s3 (.dct (aH (itP 0 L)))):
  ∃st,st.g=g∧ex t1 (.forE 11 12 (.var 1) i2Body) ⟨bM line u L s3 t5 t6 t7 none none none none none none none none none,g⟩=.ok (.next,st):=by
 rw [X_forE (ds:=L.map fun x=>fmD x.1) (s1:=⟨bM line u L s3 t5 t6 t7 none none none none none none none none none,g⟩) (by rw [←fsL_map];exact ad rfl) (by rw [List.length_map];exact lec ‹_› (by rfl)),zip_map]
 refine cA (emb:=fun q:(Fm×Act)×Nat=>D.tup [.int q.2,fmD q.1.1]) (fun _ st=>I2St line u L t5 t7 g st)
  (fun R=> ∃st,st.g=g∧R=.ok (.next,st)) (fun p y q st e h=>?_) (fun st h=>⟨st,by cases h with | mk _ e=>rw [e],rfl⟩) ⟨h3,rfl⟩
 obtain ⟨x,i⟩:=y
 cases h with | mk h3 es=>
 rename_i s3' t6' t9 t10 t11 t12 t13 t14 t15 t16 t17
 refine x03 (iX rfl e) fun (e1:i=p.length) e2 e3=>?_
 have eL:=congrArg (List.map (·.1)) e
 rw [List.zipIdx_map_fst,List.map_append,List.map_cons] at eL
 refine x12 (i2_turn (line:=line) (u:=u) (t5:=t5) (t6:=t6') (t7:=t7) (t9:=t9) (t10:=t10) (t13:=t13) (t14:=t14) (t15:=t15) (t16:=t16) (t17:=t17) (g:=g) hL eL (hA x (List.mem_of_getElem? e3)) h3) fun st' h3' h=>.inl ⟨_,?_,h3'⟩
 rw [List.length_map] at h
 rw [es,e1]
 exact h
theorem laid_ok {line:Int}{u:Us}{L:List (Fm×Act)}{g:G}(hL:L.length≤5)(hA: ∀x∈L,je x.2):
  aG t1 ir_is_laid [fT line u L,fsL (L.map (·.1)),.lst (L.map duA)] g=.ok (.bool true,g):=by
 have hits:=its_ok hL
 have hlen:=its_len hL
 have hk:=gC (itP 0 L)
 have hcnt:=laid_cnt L 0
 obtain ⟨u5,u6,e1⟩:=i1_loop (F:=fsL (L.map (·.1))) (U:=.lst (L.map duA)) (w:=gp line (aU 0 L) u (inP 0 L)) (g:=g) hits (lec ‹_› (by rfl))
 have e2:ex t1 (.assign 7 (.op .add (.listV 3) (.listV 4))) ⟨lds (fT line u L) (fsL (L.map (·.1))) (.lst (L.map duA)) (some (.own (.dct (aH (itP 0 L))))) (some (.own (.dct (aS (itP 0 L))))) u5 u6 none none none none none none none none none none,g⟩=
   .ok (.next,⟨bM line u L (some (.own (.dct (aH (itP 0 L))))) u5 u6 (some (.val (nmL (itP 0 L)))) none none none none none none none none none,g⟩):=by
  have:=aB (ft:=t1) (i:=7) (e:=.op .add (.listV 3) (.listV 4)) (st:=⟨lds (fT line u L) (fsL (L.map (·.1))) (.lst (L.map duA)) (some (.own (.dct (aH (itP 0 L))))) (some (.own (.dct (aS (itP 0 L))))) u5 u6 none none none none none none none none none none,g⟩)
   (bD (E_listV (kvs:=aH (itP 0 L)) rfl (by exact nl [_,_,_] [(.a N0 N1,N2),(N2,.n 20)] N0 (.n 1000) rfl (Nat.le_of_eq hk) hlen)) (E_listV (kvs:=aS (itP 0 L)) rfl (by exact nl [_,_,_] [(.a N0 N1,N2),(N2,.n 20)] N1 (.n 1000) rfl (Nat.le_of_eq hk) hlen)) (op_addL (by rw [List.length_map,List.length_map];exact nl [_,_,_] [(.a N0 N1,N2),(N2,.n 20)] (.a N0 N1) (.n 1000) rfl (Nat.le_of_eq hk) hlen)))
  rw [this]
  unfold nmL
  rw [List.map_append];rfl
 have hb:=nm_bits (S:=fT line u L) (F:=fsL (L.map (·.1))) (U:=.lst (L.map duA)) (s3:=some (.own (.dct (aH (itP 0 L))))) (s4:=some (.own (.dct (aS (itP 0 L))))) (t5:=u5) (t6:=u6) (g:=g) hits (lec ‹_› (by rfl))
 have hc:=du_cnt (S:=fT line u L) (F:=fsL (L.map (·.1))) (s3:=some (.own (.dct (aH (itP 0 L))))) (s4:=some (.own (.dct (aS (itP 0 L))))) (t5:=u5) (t6:=u6) (t7:=some (.val (nmL (itP 0 L)))) (g:=g) hL
 have hq:eqD (.int ((itP 0 L).length:Nat)) (.int ((((itP 0 L).length + 1:Nat):Int) - 1))=some true:=by rw [eq_int,decide_eq_true (by exact Int.le_antisymm (ni [_,_] [(.s Z0,Z1)] Z0 (.d Z1 (.n 1)) rfl (Int.le_of_eq (Int.natCast_add _ _).symm)) (ni [_,_] [(Z0,.s Z1)] (.d Z0 (.n 1)) Z1 rfl (Int.le_of_eq (Int.natCast_add _ _))))]
 have e3:ex t1 ((ir_is_laid.body[3]?).getD .dead) ⟨bM line u L (some (.own (.dct (aH (itP 0 L))))) u5 u6 (some (.val (nmL (itP 0 L)))) none none none none none none none none none,g⟩=
   .ok (.next,⟨bM line u L (some (.own (.dct (aH (itP 0 L))))) u5 u6 (some (.val (nmL (itP 0 L)))) none none none none none none none none none,g⟩):=
  aD (eZ (R_f (bw (t:=true) (cM (n:=(itP 0 L).length) (ad rfl) (by unfold nmL;simp only [da,List.length_map,List.length_append];rw [hk]) (lec ‹_› (by rfl))) (bD (cM (n:=(itP 0 L).length + 1) (ad rfl) (by unfold fT;simp only [da,List.length_map,List.length_append,List.length_cons,List.length_nil]) (Nat.lt_of_le_of_lt ‹_› (by decide))) ag (op_sub _ _)) hq)
   (R_f (bw (t:=true) hb (cv ao (am rfl)) (by kernel_rfl)) eK))) ar
 have e4:ex t1 ((ir_is_laid.body[4]?).getD .dead) ⟨bM line u L (some (.own (.dct (aH (itP 0 L))))) u5 u6 (some (.val (nmL (itP 0 L)))) none none none none none none none none none,g⟩=
   .ok (.next,⟨bM line u L (some (.own (.dct (aH (itP 0 L))))) u5 u6 (some (.val (nmL (itP 0 L)))) none none none none none none none none none,g⟩):=
  aD (bw (t:=true) (E_lenV (n:=(L.filter fun x=>isL x.2).length) rfl (by simp only [da];rw [hcnt]) (by have:=List.length_filter_le (fun x:Fm×Act=>isL x.2) L;exact nl [_,_] [(N0,N1),(N1,.n 5)] N0 (.n 100000) rfl this hL)) hc (jD _)) ar
 refine x12 (i2_loop (line:=line) (u:=u) (t5:=u5) (t6:=u6) (t7:=some (.val (nmL (itP 0 L)))) (g:=g) hL hA (.inl rfl)) fun st hg e5=>?_
 generalize hF:fsL (L.map (·.1))=F at *
 have e0:ex t1 (.tupO [(3,.d),(4,.d)]) ⟨[fT line u L,F,.lst (L.map duA)].map (fun d=>some (.val d))++List.replicate (ir_is_laid.nv - ir_is_laid.np) none,g⟩=
   .ok (.next,⟨lds (fT line u L) F (.lst (L.map duA)) (some (.own (.dct []))) (some (.own (.dct []))) none none none none none none none none none none none none,g⟩):=
  gK (I_d (i:=3) (I_d (i:=4) jb))
 have:=bu (ft:=t1) (f:=ir_is_laid) (args:=[fT line u L,F,.lst (L.map duA)]) (g:=g) (d:=.bool true) (st:=st) rfl
  (ah e0 (ah e1 (ah e2 (ah e3 (ah e4 (ah e5 (aW (bE ag))))))))
 rw [this,hg]
theorem strs_c: ∀{ys:List Str},(∀y∈ys,PyData.strOk y=true)→D.cmpOks (ys.map D.str)=true∧D.depths (ys.map D.str)=0
 | [],_=>⟨rfl,rfl⟩
 | y::r,h=>by
  obtain ⟨h1,h2⟩:=strs_c (ys:=r) fun z hz=>h z (List.mem_cons_of_mem _ hz)
  exact ⟨Bool.and_eq_true_iff.2 ⟨h y List.mem_cons_self,h1⟩,congrArg (max 0 ·) h2⟩
theorem strs_not {x:Str}{ys:List Str}(hx:PyData.strOk x=true)(h: ∀y∈ys,PyData.strOk y=true∧y≠x):inD (.str x) (.lst (ys.map D.str))=some false:=by
 refine x02 (strs_c (ys:=ys) fun y hy=>(h y hy).1) fun h1 h2=>?_
 have h3:((ys.map D.str).any fun d=>d.beq (.str x))=false:=by
  rw [List.any_eq_false]
  intro d hd
  obtain ⟨y,hy,rfl⟩:=List.mem_map.mp hd
  have:=(h y hy).2
  exact fun e=>this (eq_of_beq e)
 exact (inD_of (a:=.str x) (ds:=ys.map D.str) hx h1 (Nat.zero_le _) (by rw [h2];exact Nat.zero_le _)).trans (congrArg some h3)
theorem in_c: ∀(L:List (Fm×Act)) (c:Nat),c + 4 * L.length≤29→D.cmpOks (inP c L)=true∧D.depths (inP c L)≤5
 | [],_,_=>⟨rfl,Nat.zero_le _⟩
 | x::r,c,h=>by
  have hn:=layN_le x.1 x.2
  rw [List.length_cons] at h
  obtain ⟨h1,h2⟩:=in_c r (c + cB x.1 x.2) (by exact nl [_,_,_] [(N0,.n 4),(.a N1 (.m 4 (.s N2)),.n 29)] (.a (.a N1 N0) (.m 4 N2)) (.n 29) rfl hn h)
  have h3:D.cmpOk (cI x.1 c x.2)=true∧(cI x.1 c x.2).depth≤5:=by
   unfold cI
   split
   ·exact ren_c (iz (gR (by exact nl [_,_] [(.a N0 (.m 4 (.s N1)),.n 29)] (.s N0) (.n 30) rfl h))) (iy (n:=3))
   ·exact ren_c (df_c _).1 (by have:=(df_c x.1.df).2;exact lec ‹_› (by rfl))
  exact ⟨bh h3.1 h1,bc h3.2 h2⟩
noncomputable def r2:It→Str
 | .mark _ _ n=>frS .mark n
 | .ins _ _ _=>so "subprog"
theorem sub_not:fh (so "subprog") (so "__")=false∧PyData.strOk (so "subprog")=true:=by decide +kernel
theorem wrap_new {L:List (Fm×Act)}(hL:L.length≤5):inD (.str (frS .wrap (aU 0 L + 1))) (.lst (((itP 0 L).map r2).map D.str))=some false:=by
 have hc:aU 0 L≤20:=by have:=eY L 0;exact nl [_,_] [(N0,.a (.n 0) (.m 4 N1)),(.m 4 N1,.m 4 (.n 5))] N0 (.n 20) rfl this (Nat.mul_le_mul_left 4 hL)
 have hw:=gR (s:=.wrap) (c:=aU 0 L + 1) (Nat.lt_of_le_of_lt ‹_› (by decide))
 refine strs_not hw fun y hy=>?_
 obtain ⟨x,hx,rfl⟩:=List.mem_map.mp hy
 have hn:=(it_nums L 0).1 x hx
 cases x with
 | mark l m n=>
  have hn1:n≤aU 0 L:=hn.2
  exact ⟨gR (by exact nl [_,_] [(N0,N1),(N1,.n 20)] N0 (.n 30) rfl hn1 hc),fun e=>by have:=fr_inj (by exact nl [_,_] [(N0,N1),(N1,.n 20)] N0 (.n 30) rfl hn1 hc) (Nat.lt_of_le_of_lt ‹_› (by decide)) e;exact nf [_,_] [(.s N0,N1),(N1,N0)] rfl (Nat.le_of_eq this.symm) hn1⟩
 | ins f c d=>
  refine ⟨sub_not.2,fun e=>?_⟩
  have h1:=fr_bit (s:=.wrap) (c:=aU 0 L + 1) (Nat.lt_of_le_of_lt ‹_› (by decide))
  rw [←e] at h1
  have h2:=sub_not.1
  change fh (so "subprog") (so "__")=true at h1
  rw [h2] at h1
  cases h1
noncomputable def l3 (t3 t4 t5 t6 t7 t8 t10 t16 t20 t21:Option Slot)(line:Int)(u:Us)(L:List (Fm×Act)):List (Option Slot):=
 lsl (some (.val (fsL (L.map (·.1))))) t3 t4 t5 t6 t7 t8 (some (.val (aY u))) t10 (some (.val (.int line))) (some (.val (.lst (L.map duA)))) t16 (some (.val (fT line u L))) (some (.val (eH line (aU 0 L)))) t20 t21
noncomputable def pkD (line:Int)(u:Us)(L:List (Fm×Act)):D:=.tup [.str (so "package"),.int line,.str (frS .wrap (aU 0 L + 1)),.lst (inP 0 L++[aY u]),.lst []]
theorem pk_c {line:Int}{u:Us}{L:List (Fm×Act)}(hL:L.length≤5):D.cmpOk (pkD line u L)=true∧(pkD line u L).depth≤7:=by
 have hc:aU 0 L≤20:=by have:=eY L 0;exact nl [_,_] [(N0,.a (.n 0) (.m 4 N1)),(.m 4 N1,.m 4 (.n 5))] N0 (.n 20) rfl this (Nat.mul_le_mul_left 4 hL)
 have hw:=gR (s:=.wrap) (c:=aU 0 L + 1) (Nat.lt_of_le_of_lt ‹_› (by decide))
 obtain ⟨h1,h2⟩:=in_c L 0 (by exact nl [_] [(.m 4 N0,.m 4 (.n 5))] (.a (.n 0) (.m 4 N0)) (.n 29) rfl (Nat.mul_le_mul_left 4 hL))
 refine x02 (unit_c u) fun h3 h4=>?_
 exact ⟨ja (bh (by decide +kernel) (bh gI (bh (cmp_str hw) (bh (cmp_lst (cmp_app h1 (bh h3 fN))) (bh (cmp_lst fN) fN))))),
  gF (bc c7 (bc i9 (bc c7 (bc (dep_lst (dep_app h2 (bc (lec ‹_› (by rfl)) eX))) (bc (dep_lst eX) eX)))))⟩
theorem l3_ok {t3 t4 t5' t6 t7 t8 t10 t16:Option Slot}{line:Int}{u:Us}{L:List (Fm×Act)}{g:G}(hL:L.length≤5)(hA: ∀x∈L,je x.2):
  ∃st,exs t5 eV ⟨l3 t3 t4 t5' t6 t7 t8 t10 t16 none none line u L,g⟩=.ok (.ret (.bool true),st):=by
 have hc:aU 0 L≤20:=by have:=eY L 0;exact nl [_,_] [(N0,.a (.n 0) (.m 4 N1)),(.m 4 N1,.m 4 (.n 5))] N0 (.n 20) rfl this (Nat.mul_le_mul_left 4 hL)
 have hw:=gR (s:=.wrap) (c:=aU 0 L + 1) (Nat.lt_of_le_of_lt ‹_› (by decide))
 have hbit:=fr_bit (s:=.wrap) (c:=aU 0 L + 1) (Nat.lt_of_le_of_lt ‹_› (by decide))
 have hnew:=wrap_new hL
 refine x02 (pk_c (line:=line) (u:=u) hL) fun p1 p2=>?_
 refine x02 (unit_c u) fun u1 u2=>?_
 have hil:=gD L 0
 have hits:=its_len hL
 have hpk:eqD (pkD line u L) (pkD line u L)=some true:=cD p1 (Nat.lt_succ_of_lt ‹_›)
 have hun:eqD (aY u) (aY u)=some true:=cD u1 (lec ‹_› (by rfl))
 have hlaid:=laid_ok (line:=line) (u:=u) (g:=g) hL hA
 have hal:eqD (.tup [.str (so "alias"),.int line,.str (so "mine")]) (.tup [.str (so "alias"),.int line,.str (so "mine")])=some true:=
  cD (ja (bh (by decide +kernel) (bh gI (bh (by decide +kernel) fN)))) (gF (bc c7 (bc i9 (bc c7 (eX (n:=7))))))
 have hnm:eqD (aq (frS .wrap (aU 0 L + 1))) (.tup [.str (so "name"),.str (frS .wrap (aU 0 L + 1))])=some true:=cD (iz hw) (iy (n:=7))
 have q3:ixD (eH line (aU 0 L)) (.int 3)=some (.tup [.str (so "select"),aq (frS .wrap (aU 0 L + 1)),.str (so "unit")]):=ix3
 have qs:co (eH line (aU 0 L)) none (some 3)=some (.tup [.str (so "alias"),.int line,.str (so "mine")]):=slice3'
 have k2:ixD (pkD line u L) (.int 2)=some (.str (frS .wrap (aU 0 L + 1))):=ix2
 have k3:ixD (pkD line u L) (.int 3)=some (.lst (inP 0 L++[aY u])):=ix3
 have e0:ex t5 ((eV[0]?).getD .dead) ⟨l3 t3 t4 t5' t6 t7 t8 t10 t16 none none line u L,g⟩=.ok (.next,⟨l3 t3 t4 t5' t6 t7 t8 t10 t16 none none line u L,g⟩):=
  aD (eZ (R_f (eM (a:=.lst (L.map duA)) (ad rfl)) (R_f (bw (t:=true) (cK (ad rfl) cG (bI ag (by decide)) qs) (aF (af ag (af (ad rfl) (af ag ao))) (am rfl)) hal)
   (R_f (bw (t:=true) (ay (ay (ad rfl) ag q3) ag ix0) ag (by kernel_rfl)) (R_f (bw (t:=true) (ay (ay (ad rfl) ag q3) ag ix2) ag (by kernel_rfl)) eK))))) ar
 have e1:ex t5 (.tupA [20,21] (.ix (.var 17) (.cst (.int (-1))))) ⟨l3 t3 t4 t5' t6 t7 t8 t10 t16 none none line u L,g⟩=.ok (.next,⟨l3 t3 t4 t5' t6 t7 t8 t10 t16 (some (.val (.str (so "generic")))) (some (.val (pkD line u L))) line u L,g⟩):=
  dS (ds:=[.str (so "generic"),pkD line u L]) (ay (ad rfl) ag ix_last) rfl
 have hcomp:ev t5 (.compE [22,23] (.slc (.var 17) none (some (.cst (.int (-1))))) [] (.ix (.var 23) (.cst (.int 2)))) ⟨l3 t3 t4 t5' t6 t7 t8 t10 t16 (some (.val (.str (so "generic")))) (some (.val (pkD line u L))) line u L,g⟩=
   .ok (.lst (((itP 0 L).map r2).map D.str),⟨l3 t3 t4 t5' t6 t7 t8 t10 t16 (some (.val (.str (so "generic")))) (some (.val (pkD line u L))) line u L,g⟩):=by
  have:=cn (ft:=t5) (pat:=[22,23]) (src:=.slc (.var 17) none (some (.cst (.int (-1))))) (conds:=[]) (elt:=.ix (.var 23) (.cst (.int 2))) (emb:=itS) (xs:=itP 0 L) (h:=fun x=>[.str (r2 x)]) (st:=⟨l3 t3 t4 t5' t6 t7 t8 t10 t16 (some (.val (.str (so "generic")))) (some (.val (pkD line u L))) line u L,g⟩)
   (cK (ad rfl) cG (bI ag (by decide)) (slice_last (by rw [List.length_map];exact lec ‹_› (by rfl)))) (lec ‹_› (by rfl)) fun x hx=>?_
  ·rw [this,gS,List.map_map];rfl
  ·cases x with
   | mark l m n=>exact ⟨_,rfl,rfl,true,fD,(fun _=>⟨_,ay (ad rfl) ag ix2,rfl⟩),fun h=>by cases h⟩
   | ins f c d=>exact ⟨_,rfl,rfl,true,fD,(fun _=>⟨_,ay (ad rfl) ag ix2,rfl⟩),fun h=>by cases h⟩
 have hbw:inD (.str (so "__")) (.str (frS .wrap (aU 0 L + 1)))=some true:=by
  show some (fh (frS .wrap (aU 0 L + 1)) (so "__"))=some true
  rw [hbit]
 have e2:ex t5 ((eV[2]?).getD .dead) ⟨l3 t3 t4 t5' t6 t7 t8 t10 t16 (some (.val (.str (so "generic")))) (some (.val (pkD line u L))) line u L,g⟩=.ok (.next,⟨l3 t3 t4 t5' t6 t7 t8 t10 t16 (some (.val (.str (so "generic")))) (some (.val (pkD line u L))) line u L,g⟩):=
  aD (eZ (R_f (bw (t:=true) (ad rfl) ag (by kernel_rfl)) (R_f (bw (t:=true) (ay (ay (ad rfl) ag q3) ag ix1) (aF (af ag (af (ay (ad rfl) ag k2) ao)) (am rfl)) hnm)
   (R_f (E_ninn (t:=true) ag (ay (ad rfl) ag k2) hbw) (R_f (E_inn (ay (ad rfl) ag k2) hcomp hnew) eK))))) ar
 have hq:eqD (.int ((L.length + 1:Nat):Int)) (.int ((L.length:Int) + 1))=some true:=by rw [eq_int,decide_eq_true (by rfl)]
 have e3:ex t5 ((eV[3]?).getD .dead) ⟨l3 t3 t4 t5' t6 t7 t8 t10 t16 (some (.val (.str (so "generic")))) (some (.val (pkD line u L))) line u L,g⟩=.ok (.next,⟨l3 t3 t4 t5' t6 t7 t8 t10 t16 (some (.val (.str (so "generic")))) (some (.val (pkD line u L))) line u L,g⟩):=
  aD (eZ (R_f (bw (t:=true) (ad rfl) (aF (ds:=[.str (so "package"),.int line,.str (frS .wrap (aU 0 L + 1)),.lst (inP 0 L++[aY u]),.lst []]) (af ag (af (ad rfl) (af (ay (ad rfl) ag k2) (af (ay (ad rfl) ag k3) (af (cv ao (am rfl)) ao))))) (am rfl)) hpk)
   (R_f (bw (t:=true) (cM (n:=L.length + 1) (ay (ad rfl) ag k3) (by simp only [da,List.length_append,List.length_cons,List.length_nil,hil]) (Nat.lt_of_le_of_lt ‹_› (by decide))) (bD (E_lenV (n:=L.length) rfl (by unfold fsL;simp only [da,List.length_map]) (lec ‹_› (by rfl))) ag (gu _ _)) hq)
    (R_f (bw (t:=true) (ay (ay (ad rfl) ag k3) ag ix_last) (ad rfl) hun) eK)))) ar
 exact ⟨_,ah e0 (ah e1 (ah e2 (ah e3 (aW (bE (bt (af (ad rfl) (af (jd rfl) (af (ad rfl) ao))) hlaid))))))⟩
theorem args_ok {fs:List Fm}{rows:List Rw}{u w:Us}{line:Int}{t2 t3 t4 t5' t6 t7 t8 t10 t11 t12:Option Slot}{g:G}(h:t2=some (.val (fsL fs))∨t2=some (.own (fsL fs))):
  evs t5 lawArgs ⟨lsl t2 t3 t4 t5' t6 t7 t8 (some (.val (aY u))) t10 t11 t12 (some (.val (dy line w rows))) none none none none,g⟩=
   .ok ([iI fs u,.none,dy line w rows,.int 5],⟨lsl (some (.val (fsL fs))) t3 t4 t5' t6 t7 t8 (some (.val (aY u))) t10 t11 t12 (some (.val (dy line w rows))) none none none none,g⟩):=by
 have hfz:ev t5 (.fz 2) ⟨lsl t2 t3 t4 t5' t6 t7 t8 (some (.val (aY u))) t10 t11 t12 (some (.val (dy line w rows))) none none none none,g⟩=
   .ok (fsL fs,⟨lsl (some (.val (fsL fs))) t3 t4 t5' t6 t7 t8 (some (.val (aY u))) t10 t11 t12 (some (.val (dy line w rows))) none none none none,g⟩):=by
  rcases h with rfl | rfl
  ·exact jd rfl
  ·exact dM rfl
 exact af (aF (ds:=[.str (so "generic"),.int 2,fsL fs,aY u]) (af ag (af ag (af hfz (af (ad rfl) ao)))) (am rfl)) (af ag (af (ad rfl) (af ag ao)))
theorem plain_law (cells:List Int)(h:cells.length≤60):RunLaw cells:=by
 cases law1_ok h with | mk f0 f5 hro hrl hu h2 hd e1=>
 rename_i fs rows u w line due g x2 x3 x4 x5 x6
 have e2:=args_ok (fs:=fs) (rows:=rows) (u:=u) (w:=w) (line:=line) (t3:=x3) (t4:=x4) (t5':=x5) (t6:=x6) (t7:=some (.val (rwL rows))) (t8:=some (.val (.str (usS u)))) (t10:=some (.val (.str (usS w)))) (t11:=some (.val (.int line))) (t12:=some (.val due)) (g:=g) h2
 have hi:t5 .instantiate [iI fs u,.none,dy line w rows,.int 5] g=aG t4 ir_instantiate [iI fs u,.none,dy line w rows,.int 5] g:=rfl
 refine ⟨e1,e2,hi▸ ?_⟩
 clear e1 e2 hi
 rcases inst_ok (fs:=fs) (u:=u) (w:=w) (line:=line) (rows:=rows) (g:=g) f5 (lec ‹_› (by rfl)) hu with ⟨hn,hr⟩ | ⟨huw,fd,hg,hr⟩
 ·rw [hr]
  rcases hd with ⟨d1,fd,us,ns,d2,d3,d4⟩ | ⟨_,rfl⟩
  ·rcases hn with hn | hn
   ·exact absurd d1 hn
   ·exact absurd ⟨fd,d2⟩ hn
  ·exact .flt rfl rfl
 ·rcases hd with ⟨d1,fd',us,ns,d2,d3,rfl⟩ | ⟨d1,_⟩
  ·have e:=good_uniq hg d2
   subst e
   rw [hr us ns d3]
   have hL:(cj fs us ns).length≤5:=by rw [jI];exact f5
   refine x11 (l3_ok (t3:=x3) (t4:=x4) (t5':=x5) (t6:=x6) (t7:=some (.val (rwL rows))) (t8:=some (.val (.str (usS u)))) (t10:=some (.val (.str (usS w)))) (t16:=some (.val (dy line w rows))) (line:=line) (u:=u) (g:={g with used:=true,bld:=none}) hL (acts_ok hro d3.eq)) fun st h3=>?_
   have hst:(((({(⟨lsl (some (.val (fsL fs))) x3 x4 x5 x6 (some (.val (rwL rows))) (some (.val (.str (usS u)))) (some (.val (aY u))) (some (.val (.str (usS w)))) (some (.val (.int line))) (some (.val (duL fs us ns))) (some (.val (dy line w rows))) none none none none,g⟩:St) with g:={g with used:=true,bld:=none}}:St).set 17 (.val (.lst (eP line u (cj fs us ns))))).set 18 (.val (eH line (aU 0 (cj fs us ns))))))=
     ⟨l3 x3 x4 x5 x6 (some (.val (rwL rows))) (some (.val (.str (usS u)))) (some (.val (.str (usS w)))) (some (.val (dy line w rows))) none none line u (cj fs us ns),{g with used:=true,bld:=none}⟩:=by
    rw [outSteps_eq,duL_acts]
    unfold l3
    rw [acts_fst]
    rfl
   exact .ok ((congrArg (exs t5 eV) hst).trans h3)
  ·rcases d1 with d1 | d1
   ·exact absurd huw d1
   ·exact absurd ⟨fd,hg⟩ d1
end Mine.Pl
end
section
open PySem PySem.W PyProof.Rows PySem.Spec
open PySem.Str renaming ofString → so
namespace Mine.X
theorem tw10114335708791192609:True:=trivial
theorem tw10155927601396772373:True:=trivial
theorem tw10204268062727599454:True:=trivial
theorem tw10312869860076134833:True:=trivial
theorem tw10319305940143804626:True:=trivial
theorem tw10345555102269536434:True:=trivial
theorem tw10429594443090546125:True:=trivial
theorem tw10444551433673131920:True:=trivial
theorem tw10540831819008075067:True:=trivial
theorem tw10682200609117080831:True:=trivial
theorem tw1069791240174439718:True:=trivial
theorem tw1071963554716896705:True:=trivial
theorem tw10896644383336123477:True:=trivial
theorem tw10939720022294020308:True:=trivial
theorem tw10951157038551267911:True:=trivial
theorem tw11068292170058943176:True:=trivial
theorem tw11081900806234257951:True:=trivial
theorem tw11085556124396865359:True:=trivial
theorem tw11263611703281190674:True:=trivial
theorem tw11489126724333454038:True:=trivial
theorem tw11521170233155341413:True:=trivial
theorem tw11582736388220624060:True:=trivial
theorem tw11680421154530659321:True:=trivial
theorem tw11691632638404157234:True:=trivial
theorem tw11729732563963357530:True:=trivial
theorem tw11747396815788689018:True:=trivial
theorem tw11958528161586396844:True:=trivial
theorem tw12002367207531531214:True:=trivial
theorem tw12053910374535080941:True:=trivial
theorem tw12087541272756257547:True:=trivial
theorem tw1211600541194743961:True:=trivial
theorem tw12135656474193598472:True:=trivial
theorem tw12136699731937667673:True:=trivial
theorem tw12269427614276095584:True:=trivial
theorem tw12481965577439877168:True:=trivial
theorem tw12539138535754632470:True:=trivial
theorem tw12547574037930385882:True:=trivial
theorem tw1269235216410558776:True:=trivial
theorem tw12712665387687544415:True:=trivial
theorem tw12826476232801504579:True:=trivial
theorem tw12880705729391178593:True:=trivial
theorem tw12889657855868438739:True:=trivial
theorem tw12988292849134238315:True:=trivial
theorem tw13249707302856205726:True:=trivial
theorem tw13262914639554229123:True:=trivial
theorem tw13294508473413696110:True:=trivial
theorem tw13328713033421757410:True:=trivial
theorem tw13357250871566878897:True:=trivial
theorem tw1340108244153412161:True:=trivial
theorem tw13612588423612712328:True:=trivial
theorem tw13705870651399722797:True:=trivial
theorem tw13718997213608563046:True:=trivial
theorem tw13748753808887311232:True:=trivial
theorem tw13901780492647982691:True:=trivial
theorem tw13919919654957196526:True:=trivial
theorem tw13943615869880837177:True:=trivial
theorem tw13953901976097357628:True:=trivial
theorem tw13970240619067257440:True:=trivial
theorem tw14000012172120771539:True:=trivial
theorem tw14079487646753323945:True:=trivial
theorem tw14147701053790375170:True:=trivial
theorem tw14168203023808385800:True:=trivial
theorem tw14174367290447187526:True:=trivial
theorem tw14240680326528975323:True:=trivial
theorem tw14252512404868546474:True:=trivial
theorem tw14256144272279941918:True:=trivial
theorem tw14334378489741808590:True:=trivial
theorem tw14360175433882975695:True:=trivial
theorem tw14522059148322537351:True:=trivial
theorem tw14612911157623285501:True:=trivial
theorem tw14714694295323656114:True:=trivial
theorem tw14747160528556765245:True:=trivial
theorem tw14880334301646452990:True:=trivial
theorem tw14950378728588857928:True:=trivial
theorem tw15000919754990616925:True:=trivial
theorem tw15011586464864021576:True:=trivial
theorem tw15042370459437072102:True:=trivial
theorem tw15125833977868517129:True:=trivial
theorem tw15158977193206299858:True:=trivial
theorem tw15172817495588067742:True:=trivial
theorem tw15173885558828718902:True:=trivial
theorem tw15177407425550788394:True:=trivial
theorem tw15246067311101898804:True:=trivial
theorem tw15304436067887115354:True:=trivial
theorem tw15464824738149238224:True:=trivial
theorem tw15672173113676624223:True:=trivial
theorem tw15790196003895842475:True:=trivial
theorem tw15808863445473174209:True:=trivial
theorem tw15891821775779568694:True:=trivial
theorem tw15904051057234849783:True:=trivial
theorem tw15909516381641734802:True:=trivial
theorem tw15947478476425963687:True:=trivial
theorem tw15955545786496963863:True:=trivial
theorem tw15996898818117813807:True:=trivial
theorem tw16121069318586249544:True:=trivial
theorem tw16162980444515173908:True:=trivial
theorem tw16275367203278863324:True:=trivial
theorem tw16295836763674754768:True:=trivial
theorem tw16338683217920539678:True:=trivial
theorem tw16456120723133166172:True:=trivial
theorem tw16485066249727276552:True:=trivial
theorem tw16510468589982010944:True:=trivial
theorem tw16766655104471817287:True:=trivial
theorem tw16776438932807127073:True:=trivial
theorem tw16792233728284191780:True:=trivial
theorem tw16996420322393037616:True:=trivial
theorem tw17154329587869820569:True:=trivial
theorem tw17182143861902942900:True:=trivial
theorem tw17191413219814962486:True:=trivial
theorem tw17333297186646960167:True:=trivial
theorem tw17359371269134511353:True:=trivial
theorem tw17549543979812492293:True:=trivial
theorem tw17628103385656004602:True:=trivial
theorem tw17692682106087902361:True:=trivial
theorem tw17749303205581176487:True:=trivial
theorem tw1776889199175922684:True:=trivial
theorem tw17872043267224975111:True:=trivial
theorem tw17902138361269780394:True:=trivial
theorem tw17943684967851089649:True:=trivial
theorem tw17945340312995195149:True:=trivial
theorem tw17960118923567568290:True:=trivial
theorem tw17977299165890495753:True:=trivial
theorem tw18045720016571863378:True:=trivial
theorem tw18048063665550785985:True:=trivial
theorem tw18076559451813423049:True:=trivial
theorem tw18227201486979222766:True:=trivial
theorem tw18319142661730630907:True:=trivial
theorem tw18331438838471858351:True:=trivial
theorem tw18362669630248234093:True:=trivial
theorem tw18412030670496779449:True:=trivial
theorem tw1864712033366151019:True:=trivial
theorem tw2076067410212760736:True:=trivial
theorem tw2122662208929857132:True:=trivial
theorem tw2127650138926449055:True:=trivial
theorem tw2277426337339194392:True:=trivial
theorem tw2323150018379818003:True:=trivial
theorem tw2434251301962037269:True:=trivial
theorem tw24810972108032070:True:=trivial
theorem tw2491332794192604249:True:=trivial
theorem tw2506274285359747242:True:=trivial
theorem tw2532730868734507930:True:=trivial
theorem tw2639500797279104738:True:=trivial
theorem tw2655221754841805504:True:=trivial
theorem tw2674264413499924329:True:=trivial
theorem tw2760363338497477620:True:=trivial
theorem tw2872819514874648847:True:=trivial
theorem tw2947759428349913477:True:=trivial
theorem tw3099062456461415430:True:=trivial
theorem tw3170825111071609024:True:=trivial
theorem tw3252166495817136282:True:=trivial
theorem tw3383251880651505811:True:=trivial
theorem tw3394968581401681124:True:=trivial
theorem tw3443406607819920365:True:=trivial
theorem tw345504385177756202:True:=trivial
theorem tw3460097100617677358:True:=trivial
theorem tw3481027183555201762:True:=trivial
theorem tw3550207525035906223:True:=trivial
theorem tw3603316962845338919:True:=trivial
theorem tw366119300081975972:True:=trivial
theorem tw3723018337464228138:True:=trivial
theorem tw3899126634685473756:True:=trivial
theorem tw3907600755019279279:True:=trivial
theorem tw3993715603023524407:True:=trivial
theorem tw4055473535971164239:True:=trivial
theorem tw4094450964026223220:True:=trivial
theorem tw4224920875611049606:True:=trivial
theorem tw4239818077389401432:True:=trivial
theorem tw4242944747826377928:True:=trivial
theorem tw4308493021997430729:True:=trivial
theorem tw4502868568907333073:True:=trivial
theorem tw4583698726364029850:True:=trivial
theorem tw4634465913056614851:True:=trivial
theorem tw4692594210318249552:True:=trivial
theorem tw4724332359347275066:True:=trivial
theorem tw4759336024569446444:True:=trivial
theorem tw4825215276058814059:True:=trivial
theorem tw5025588514212322968:True:=trivial
theorem tw5159579356896613158:True:=trivial
theorem tw5191532653762409057:True:=trivial
theorem tw5397973660824563912:True:=trivial
theorem tw5484970534995623953:True:=trivial
theorem tw5486931284162141108:True:=trivial
theorem tw5487202274894796573:True:=trivial
theorem tw5559910955664783708:True:=trivial
theorem tw5578799108536217042:True:=trivial
theorem tw5618378628202858537:True:=trivial
theorem tw5689137530969981072:True:=trivial
theorem tw569127635208468241:True:=trivial
theorem tw5776883909019753549:True:=trivial
theorem tw5851192972790342212:True:=trivial
theorem tw5884195748457221376:True:=trivial
theorem tw5884338937647298217:True:=trivial
theorem tw5917523712205642820:True:=trivial
theorem tw5959340289853745077:True:=trivial
theorem tw6290306490620547656:True:=trivial
theorem tw6415821040901812316:True:=trivial
theorem tw6453087414237735858:True:=trivial
theorem tw6518937853100605131:True:=trivial
theorem tw6519189726035084543:True:=trivial
theorem tw6626778057731710036:True:=trivial
theorem tw6646776529966920211:True:=trivial
theorem tw6698739193843256856:True:=trivial
theorem tw6700055694453539273:True:=trivial
theorem tw6721363425693953575:True:=trivial
theorem tw6747599763796140115:True:=trivial
theorem tw6820569540889811099:True:=trivial
theorem tw6857848732565947109:True:=trivial
theorem tw6864771757760554702:True:=trivial
theorem tw7016701117999586631:True:=trivial
theorem tw703199587578889607:True:=trivial
theorem tw7140873082177010070:True:=trivial
theorem tw7327866730238664240:True:=trivial
theorem tw7390350244458595350:True:=trivial
theorem tw7460155713167813168:True:=trivial
theorem tw7474858553877390140:True:=trivial
theorem tw7504244196287739939:True:=trivial
theorem tw7549399439778431341:True:=trivial
theorem tw7575497007772701928:True:=trivial
theorem tw7583283443302554409:True:=trivial
theorem tw7767696202512598389:True:=trivial
theorem tw7793310436423210636:True:=trivial
theorem tw7803289250595397261:True:=trivial
theorem tw78143245359043380:True:=trivial
theorem tw7829241143021081011:True:=trivial
theorem tw7881349778354990134:True:=trivial
theorem tw7918670122540132632:True:=trivial
theorem tw7981270727372592689:True:=trivial
theorem tw8064826169986303791:True:=trivial
theorem tw8269547140274193485:True:=trivial
theorem tw8292859907717642097:True:=trivial
theorem tw8451029917128796143:True:=trivial
theorem tw8494462246416570412:True:=trivial
theorem tw8577189094643261170:True:=trivial
theorem tw861263872712073978:True:=trivial
theorem tw8632108778217967925:True:=trivial
theorem tw8694450216163014336:True:=trivial
theorem tw8703066322661298015:True:=trivial
theorem tw8772752714423907141:True:=trivial
theorem tw8938597289122345546:True:=trivial
theorem tw8966540144201769366:True:=trivial
theorem tw907398935831193906:True:=trivial
theorem tw9121878508400668033:True:=trivial
theorem tw9130393676057236292:True:=trivial
theorem tw9149658703060425448:True:=trivial
theorem tw9161769439386233912:True:=trivial
theorem tw9193384910632142687:True:=trivial
theorem tw9207364088413154478:True:=trivial
theorem tw9255673423378009137:True:=trivial
theorem tw9351212424655077292:True:=trivial
theorem tw9423498334998688752:True:=trivial
theorem tw9650267933596204220:True:=trivial
theorem tw9902516577932940445:True:=trivial
theorem tw9953581588330871030:True:=trivial
theorem tw9990698239456330790:True:=trivial
end Mine.X
set_option Elab.async true in
set_option maxHeartbeats 8000000 in
theorem Mine.X:PySem.Challenge.rw_pp0051_01.Holds:=by
 w_on
 o_law
 k_head
 (case hw=>w_witness2)
 k_go0
 all_goals try k_fold
 rename Top _ _ _ _ _ _=>Tp
 rename Frag.In _ _=>KX
 rename Fr _ _ _ _=>Ff
 rename Heap.IsList _ _ _=>Hl
 rename IntsAre _ _=>Hi
 rename ¬_=>Hz
 refine Mine.law_all ⟨Tp.g,Tp.b,Tp.nolimit,(by
  obtain ⟨_,⟨mm,⟨o,_,_,ho,_⟩,_⟩,_,_⟩:=Tp.seer (by decide +kernel)
  exact ⟨o,ho⟩),Tp.builtins,KX,?kok⟩ ⟨rfl,?_,?_,?_⟩ Ff ⟨rfl,rfl,rfl⟩ ?_ Hl Hi ?_ (Mine.Pl.plain_law _ ?_) ?_
 case kok=>
  refine {dic:=by kernel_rfl,gl:=by kernel_rfl,cls:=by constructor <;> kernel_rfl,heads:=by kernel_rfl,lays:=by kernel_rfl,rd:=by constructor <;> kernel_rfl,init:=by constructor <;> kernel_rfl,kb:=by kernel_rfl,kn:=by kernel_rfl,flt:=?flt,m_nfresh:=by constructor <;> kernel_rfl,m_lay:=by constructor <;> kernel_rfl,m_mark:=by constructor <;> kernel_rfl,at_formal_names:=.of1 (by kernel_rfl) (by intros;kernel_rfl),at_default_of:=.of1 (by kernel_rfl) (by intros;kernel_rfl),at_choice_name:=.of2 (by kernel_rfl) (by intros;kernel_rfl),at_types_told:=.of1 (by kernel_rfl) (by intros;kernel_rfl),at_formal_keys:=.of2 (by kernel_rfl) (by intros;kernel_rfl),at_match_formals:=.of3 (by kernel_rfl) (by intros;kernel_rfl),at_fresh_mark:=.of2 (by kernel_rfl) (by intros;kernel_rfl),at_fresh_spec:=.of4 (by kernel_rfl) (by intros;kernel_rfl),at_lay_formal_sub:=.of3 (by kernel_rfl) (by intros;kernel_rfl),at_operator_node:=.of1 (by kernel_rfl) (by intros;kernel_rfl),at_unit_name:=.of1 (by kernel_rfl) (by intros;kernel_rfl),at_unit_sort:=.of1 (by kernel_rfl) (by intros;kernel_rfl),at_instantiate:=.of4 (by kernel_rfl) (by intros;kernel_rfl),at_take:=.of2 (by kernel_rfl) (by intros;kernel_rfl),at_formal:=.of2 (by kernel_rfl) (by intros;kernel_rfl),at_row:=.of3 (by kernel_rfl) (by intros;kernel_rfl),at_actuals:=.of2 (by kernel_rfl) (by intros;kernel_rfl),at_due:=.of3 (by kernel_rfl) (by intros;kernel_rfl),at_plain:=.of4 (by kernel_rfl) (by intros;kernel_rfl),at_is_laid:=.of3 (by kernel_rfl) (by intros;kernel_rfl),at_nfresh:=.of2 (by kernel_rfl) (by intros;kernel_rfl),at_lay:=.of3 (by kernel_rfl) (by intros;kernel_rfl),at_mark:=.of3 (by kernel_rfl) (by intros;kernel_rfl),at_ada:=.of2 (by kernel_rfl) (by intros;kernel_rfl),at_flt:=.of3 (by kernel_rfl) (by intros;kernel_rfl),at_nam:=.of2 (by kernel_rfl) (by intros;kernel_rfl),at_bld:=.of2 (by kernel_rfl) (by intros;kernel_rfl)}
  case flt=>
   refine {obj:=⟨_,_,_,_,_,_,_,_,_,_,_,_,_,_,_,[.ref 31,.type "Exception",.type "BaseException",.type "object"],(by kernel_rfl:_=some (excClassObj "CheckFault" "CheckFault" 51 50 [.ref 31] [.ref 31,.type "Exception",.type "BaseException",.type "object"] true [] [] false none none (some (.ref 35)) none (some (.str "CheckFault" 218)) (some (.str "CheckFault" 226)) (some (.bool true)) "Exception.__new__")),⟨by decide +kernel,by decide +kernel,by decide +kernel,by decide +kernel⟩⟩,flt:=⟨⟨(⟨"CheckFault",[.ref 31],[.ref 51,.ref 31,.type "Exception",.type "BaseException",.type "object"],50,"CheckFault",true,[],[],false,none,false⟩:ClassData),by kernel_rfl,(fun self=>by rw [refuseLoop_ref,refuseLoop_ref];kernel_rfl),by decide +kernel,rfl⟩,by kernel_rfl⟩,i1:=by kernel_rfl,t1:=by kernel_rfl,tkt:=by kernel_rfl,tkl:=by kernel_rfl,rd:=by kernel_rfl,fc:=by kernel_rfl,ga:=by kernel_rfl,fe:=by kernel_rfl,keep:=by kernel_rfl,k28:=?k28}
   case k28=>
    refine Mine.isFn_look ?_
    kernel_rfl
 ·exact rfl
 ·exact Nat.lt_of_lt_of_le (by decide +kernel:1 + claimMargin + 1 + 4 * 13 < recursionLimit) (Nat.le_refl _)
 ·show 4 + 3 + 64 + 12 * 13 < cLine
  decide +kernel
 ·exact rfl
 ·omega
 ·rw [List.length_take];exact Nat.min_le_left _ _
 ·intro s5 o5 r5
  rename _=(#[]:Array GenState)=>Hg
  exact ⟨.inl ⟨.bool true,.bool true,[],rfl,fun cls=>rfl,.bool true,(by kernel_rfl),fun _=>⟨List.nodup_nil,fun a ha=>nomatch ha⟩⟩,o5,r5.os,r5.gens.trans Hg⟩
end
theorem PySem.Challenge.cw_pp0051_01_holds : PySem.Challenge.rw_pp0051_01.Holds :=
 Mine.X
