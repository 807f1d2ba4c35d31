import PyProof.Rows.All
import Wide.FinOn
import OpenK.AllK
import Wide.All
import Lean
import PySem.Challenge.RW_nz0234_01
set_option Elab.async false
set_option maxRecDepth 100000
set_option maxHeartbeats 0
set_option linter.all false
set_option tactic.hygienic false
set_option genInjectivity false
set_option genSizeOf false
section
open PySem PySem.W PySem.Calls PyProof.Rows
namespace Mine
section
variable {P:Prop}
theorem aAa{α:Type}{a b:α}(h:(fun _:Option (Option α)=>some a) ((#[some b]:Array (Option α))[0]?)=some b):a=b:=Option.some.inj h
theorem aBa{A B:Prop}(h:A∧B)(k:A→B→P):P:=k h.1 h.2
theorem aJi{A B C:Prop}(h:A∧B∧C)(k:A→B→C→P):P:=aBa h.2 (k h.1)
theorem bH5{A B C D:Prop}(h:A∧B∧C∧D)(k:A→B→C→D→P):P:=aJi h.2 (k h.1)
theorem bEz{A B C D E:Prop}(h:A∧B∧C∧D∧E)(k:A→B→C→D→E→P):P:=bH5 h.2 (k h.1)
theorem bNn{A B C D E F:Prop}(h:A∧B∧C∧D∧E∧F)(k:A→B→C→D→E→F→P):P:=bEz h.2 (k h.1)
theorem bH4{A B C D E F G:Prop}(h:A∧B∧C∧D∧E∧F∧G)(k:A→B→C→D→E→F→G→P):P:=bNn h.2 (k h.1)
theorem bNm{A B C D E F G H:Prop}(h:A∧B∧C∧D∧E∧F∧G∧H)(k:A→B→C→D→E→F→G→H→P):P:=bH4 h.2 (k h.1)
theorem cAs{A B C D E F G H I:Prop}(h:A∧B∧C∧D∧E∧F∧G∧H∧I)(k:A→B→C→D→E→F→G→H→I→P):P:=bNm h.2 (k h.1)
theorem aA6{α:Type}{A:α→Prop}(h:∃ a,A a)(k:∀ a,A a→P):P:=h.elim k
theorem aAd{α:Type}{A B:α→Prop}(h:∃ a,A a∧B a)(k:∀ a,A a→B a→P):P:=h.elim fun a h=>aBa h (k a)
theorem aDm{α:Type}{A B C:α→Prop}(h:∃ a,A a∧B a∧C a)(k:∀ a,A a→B a→C a→P):P:=h.elim fun a h=>aJi h (k a)
theorem cAr{α:Type}{A B C D:α→Prop}(h:∃ a,A a∧B a∧C a∧D a)(k:∀ a,A a→B a→C a→D a→P):P:=h.elim fun a h=>bH5 h (k a)
theorem bRg{α:Type}{A B C D E:α→Prop}(h:∃ a,A a∧B a∧C a∧D a∧E a)(k:∀ a,A a→B a→C a→D a→E a→P):P:=h.elim fun a h=>bEz h (k a)
theorem bNl{α:Type}{A B C D E F:α→Prop}(h:∃ a,A a∧B a∧C a∧D a∧E a∧F a)(k:∀ a,A a→B a→C a→D a→E a→F a→P):P:=h.elim fun a h=>bNn h (k a)
theorem cAq{α:Type}{A B C D E F G H:α→Prop}(h:∃ a,A a∧B a∧C a∧D a∧E a∧F a∧G a∧H a)(k:∀ a,A a→B a→C a→D a→E a→F a→G a→H a→P):P:=h.elim fun a h=>bNm h (k a)
theorem bAq{α β:Type}{A:α→β→Prop}(h:∃ a b,A a b)(k:∀ a b,A a b→P):P:=h.elim fun a h=>aA6 h (k a)
theorem aGs{α β:Type}{A B:α→β→Prop}(h:∃ a b,A a b∧B a b)(k:∀ a b,A a b→B a b→P):P:=h.elim fun a h=>aAd h (k a)
theorem aYv{α β:Type}{A B C:α→β→Prop}(h:∃ a b,A a b∧B a b∧C a b)(k:∀ a b,A a b→B a b→C a b→P):P:=h.elim fun a h=>aDm h (k a)
theorem bH3{α β:Type}{A B C D:α→β→Prop}(h:∃ a b,A a b∧B a b∧C a b∧D a b)(k:∀ a b,A a b→B a b→C a b→D a b→P):P:=h.elim fun a h=>cAr h (k a)
theorem aPd{α β:Type}{A B C D E:α→β→Prop}(h:∃ a b,A a b∧B a b∧C a b∧D a b∧E a b)(k:∀ a b,A a b→B a b→C a b→D a b→E a b→P):P:=h.elim fun a h=>bRg h (k a)
theorem cAn{α β:Type}{A B C D E F:α→β→Prop}(h:∃ a b,A a b∧B a b∧C a b∧D a b∧E a b∧F a b)(k:∀ a b,A a b→B a b→C a b→D a b→E a b→F a b→P):P:=h.elim fun a h=>bNl h (k a)
theorem cAm{α β γ:Type}{A:α→β→γ→Prop}(h:∃ a b c,A a b c)(k:∀ a b c,A a b c→P):P:=h.elim fun a h=>bAq h (k a)
theorem bAp{α β γ:Type}{A B:α→β→γ→Prop}(h:∃ a b c,A a b c∧B a b c)(k:∀ a b c,A a b c→B a b c→P):P:=h.elim fun a h=>aGs h (k a)
theorem aSk{α β γ:Type}{A B C:α→β→γ→Prop}(h:∃ a b c,A a b c∧B a b c∧C a b c)(k:∀ a b c,A a b c→B a b c→C a b c→P):P:=h.elim fun a h=>aYv h (k a)
theorem bNk{α β γ:Type}{A B C D:α→β→γ→Prop}(h:∃ a b c,A a b c∧B a b c∧C a b c∧D a b c)(k:∀ a b c,A a b c→B a b c→C a b c→D a b c→P):P:=h.elim fun a h=>bH3 h (k a)
theorem aFs{α β γ:Type}{A B C D E:α→β→γ→Prop}(h:∃ a b c,A a b c∧B a b c∧C a b c∧D a b c∧E a b c)(k:∀ a b c,A a b c→B a b c→C a b c→D a b c→E a b c→P):P:=h.elim fun a h=>aPd h (k a)
theorem bH2{α β γ:Type}{A B C D E F:α→β→γ→Prop}(h:∃ a b c,A a b c∧B a b c∧C a b c∧D a b c∧E a b c∧F a b c)(k:∀ a b c,A a b c→B a b c→C a b c→D a b c→E a b c→F a b c→P):P:=h.elim fun a h=>cAn h (k a)
theorem cAl{α β γ δ:Type}{A:α→β→γ→δ→Prop}(h:∃ a b c d,A a b c d)(k:∀ a b c d,A a b c d→P):P:=h.elim fun a h=>cAm h (k a)
theorem cAk{α β γ δ:Type}{A B:α→β→γ→δ→Prop}(h:∃ a b c d,A a b c d∧B a b c d)(k:∀ a b c d,A a b c d→B a b c d→P):P:=h.elim fun a h=>bAp h (k a)
theorem bNj{α β γ δ:Type}{A B C:α→β→γ→δ→Prop}(h:∃ a b c d,A a b c d∧B a b c d∧C a b c d)(k:∀ a b c d,A a b c d→B a b c d→C a b c d→P):P:=h.elim fun a h=>aSk h (k a)
theorem cAj{α β γ δ:Type}{A B C D:α→β→γ→δ→Prop}(h:∃ a b c d,A a b c d∧B a b c d∧C a b c d∧D a b c d)(k:∀ a b c d,A a b c d→B a b c d→C a b c d→D a b c d→P):P:=h.elim fun a h=>bNk h (k a)
theorem bRf{α β γ δ:Type}{A B C D E:α→β→γ→δ→Prop}(h:∃ a b c d,A a b c d∧B a b c d∧C a b c d∧D a b c d∧E a b c d)(k:∀ a b c d,A a b c d→B a b c d→C a b c d→D a b c d→E a b c d→P):P:=h.elim fun a h=>aFs h (k a)
theorem bNi{α β γ δ ε:Type}{A:α→β→γ→δ→ε→Prop}(h:∃ a b c d e,A a b c d e)(k:∀ a b c d e,A a b c d e→P):P:=h.elim fun a h=>cAl h (k a)
theorem cAi{α β γ δ ε ζ:Type}{A:α→β→γ→δ→ε→ζ→Prop}(h:∃ a b c d e f,A a b c d e f)(k:∀ a b c d e f,A a b c d e f→P):P:=h.elim fun a h=>bNi h (k a)
theorem bNh{α β γ δ ε ζ η:Type}{A:α→β→γ→δ→ε→ζ→η→Prop}(h:∃ a b c d e f g,A a b c d e f g)(k:∀ a b c d e f g,A a b c d e f g→P):P:=h.elim fun a h=>cAi h (k a)
theorem bQ6{α β:Type}{R:α→β→Prop}(a:α)(b:β)(q:R a b):∃ a b,R a b:=⟨a,b,q⟩
theorem cAh{α β γ:Type}{R:α→β→γ→Prop}(a:α)(b:β)(c:γ)(q:R a b c):∃ a b c,R a b c:=⟨a,bQ6 b c q⟩
theorem cAg{α β γ δ:Type}{R:α→β→γ→δ→Prop}(a:α)(b:β)(c:γ)(d:δ)(q:R a b c d):∃ a b c d,R a b c d:=⟨a,cAh b c d q⟩
theorem bQ5{α β γ δ ε:Type}{R:α→β→γ→δ→ε→Prop}(a:α)(b:β)(c:γ)(d:δ)(e:ε)(q:R a b c d e):∃ a b c d e,R a b c d e:=⟨a,cAg b c d e q⟩
theorem cAf{α β γ δ ε ζ:Type}{R:α→β→γ→δ→ε→ζ→Prop}(a:α)(b:β)(c:γ)(d:δ)(e:ε)(f:ζ)(q:R a b c d e f):∃ a b c d e f,R a b c d e f:=⟨a,bQ5 b c d e f q⟩
theorem cAe{α β γ δ ε ζ η:Type}{R:α→β→γ→δ→ε→ζ→η→Prop}(a:α)(b:β)(c:γ)(d:δ)(e:ε)(f:ζ)(g:η)(q:R a b c d e f g):∃ a b c d e f g,R a b c d e f g:=⟨a,cAf b c d e f g q⟩
theorem cAd{α β γ δ ε ζ η θ:Type}{R:α→β→γ→δ→ε→ζ→η→θ→Prop}(a:α)(b:β)(c:γ)(d:δ)(e:ε)(f:ζ)(g:η)(h:θ)(q:R a b c d e f g h):∃ a b c d e f g h,R a b c d e f g h:=⟨a,cAe b c d e f g h q⟩
theorem bNa{α β γ δ ε ζ η θ ι:Type}{R:α→β→γ→δ→ε→ζ→η→θ→ι→Prop}(a:α)(b:β)(c:γ)(d:δ)(e:ε)(f:ζ)(g:η)(h:θ)(i:ι)(q:R a b c d e f g h i):∃ a b c d e f g h i,R a b c d e f g h i:=⟨a,cAd b c d e f g h i q⟩
theorem bNb{α β γ δ ε ζ η θ ι κ:Type}{R:α→β→γ→δ→ε→ζ→η→θ→ι→κ→Prop}(a:α)(b:β)(c:γ)(d:δ)(e:ε)(f:ζ)(g:η)(h:θ)(i:ι)(j:κ)(q:R a b c d e f g h i j):∃ a b c d e f g h i j,R a b c d e f g h i j:=⟨a,bNa b c d e f g h i j q⟩
end
noncomputable def pR:Program:=(PySem.W.Fast.tw2368527892694137696 PySem.Challenge.rw_nz0234_01).prog
theorem bMw:PySem.W.Fast.tw8377067652309620493 pR=true:=aAa (by k_slotget)
theorem bMv:PySem.W.Fast.tw8326940854005059898 { strict:=!R.allR (PySem.W.Fast.tw5923862056798008813 pR.main.body) (PySem.W.Fast.tw3471404346716756564 PySem.W.Fast.tw17691160309236699985),foot:=none,bare:=R.filterR (PySem.W.Fast.tw13343964577679436407 pR pR.main.body) [⟨⟨[nat_lit 118,nat_lit 97,nat_lit 114,nat_lit 115]⟩⟩,⟨⟨[nat_lit 100,nat_lit 105,nat_lit 114]⟩⟩,⟨⟨[nat_lit 108,nat_lit 111,nat_lit 99,nat_lit 97,nat_lit 108,nat_lit 115]⟩⟩] } pR.main.body=true:=aAa (by k_slotget)
theorem bMu:PySem.W.Fast.tw17119622794617984870 pR pR.main.body (fun _ n=>PySem.W.Fast.tw17868728402115742887 n)=true:=aAa (by k_slotget)
theorem bMx:PySem.W.Fast.tw12908688711261696721 pR=true:=by
 delta PySem.W.Fast.tw12908688711261696721
 exact look_both (look_both (look_both (look_both (look_both (aAa (by k_slotget)) (aAa (by k_slotget))) bMw) (aAa (by k_slotget))) bMv) bMu
theorem bDc:PySem.W.Fast.tw2436336058641802641 (PySem.W.Fast.tw2368527892694137696 PySem.Challenge.rw_nz0234_01)=true:=by
 delta PySem.W.Fast.tw2436336058641802641
 iterate 13 refine look_both ?_ (by kernel_rfl)
 exact bMx
theorem bI5:PySem.W.Fast.tw17960256430627541270 (PySem.W.Fast.tw2368527892694137696 PySem.Challenge.rw_nz0234_01)=true:=by
 delta PySem.W.Fast.tw17960256430627541270
 iterate 2 refine look_both ?_ (aAa (by k_slotget))
 exact bDc
theorem bA7:PySem.W.Fast.tw9446332074065402090 PySem.Challenge.rw_nz0234_01=true:=by
 delta PySem.W.Fast.tw9446332074065402090
 iterate 18 refine look_both ?_ (aAa (by k_slotget))
 exact bI5
theorem said:PySem.Challenge.rw_nz0234_01.wellSaid=true:=(congrFun PySem.W.Fast.te9446332074065402090 PySem.Challenge.rw_nz0234_01).trans bA7
noncomputable def aC9:BT→List (Nat×Obj)→BT
 |T,[]=>T
 |T,p::l=>aC9 (T.ins p.1 p.2) l
noncomputable def aCb:List (Nat×Obj)→List Nat
 | []=>[]
 |p::l=>p.1::aCb l
noncomputable def aAt:List (Nat×Obj)→List (Option Obj)
 | []=>[]
 |p::l=>some p.2::aAt l
noncomputable def gets(T:BT):List Nat→List (Option Obj)
 | []=>[]
 |a::l=>T.get a::gets T l
noncomputable def note(m:Nat)(cur:Sem Fin)(u:List Nat):List Nat:=match cur with
 | .update a _ _ _=>match Nat.blt a m with
  |true=>a::u
  |false=>u
 |_=>u
noncomputable def aDt(tb:String→Option Builtin)(p:Program)(w:World)(n₀:Nat)(ann:Option Value)(b m:Nat):Nat→SharedT→Thread→List Nat→Option (Flow×SharedT×Code×Pos×List Nat)
 | 0,_,_,_=>none
 |n+1,s,t,u=>match endAt b t with
  |some f=>some (f,s,t.code,t.pos,u)
  |none=>match stepOk n₀ ann t with
   |false=>none
   |true=>match stepT (denote tb) p w s t with
    |some (s',t')=>aDt tb p w n₀ ann b m n s' t' (note m t.cur u)
    |none=>none
noncomputable def isIn(a:Nat):List Nat→Bool
 | []=>false
 |x::l=>match Nat.beq x a with
  |true=>true
  |false=>isIn a l
noncomputable def allIn(l:List Nat):List Nat→Bool
 | []=>true
 |a::u=>match isIn a l with
  |true=>allIn l u
  |false=>false
noncomputable def upTo:Nat→Nat→List Nat→Bool
 |m,n,[]=>Nat.beq m n
 |m,n,a::l=>match Nat.beq a m with
  |true=>upTo (m+1) n l
  |false=>upTo m n l
noncomputable def aXr:Nat→List Nat→Bool
 |_,[]=>true
 |k,a::l=>match Nat.ble k a with
  |true=>aXr (a+1) l
  |false=>false
noncomputable def aLs:BT→List (Nat×Obj)→Bool
 |_,[]=>true
 |T,p::l=>match ((T.ins p.1 p.2).get p.1).isSome with
  |true=>aLs (T.ins p.1 p.2) l
  |false=>false
noncomputable def aEa(T:BT)(m n:Nat)(D:List (Nat×Obj)):Bool:=match upTo m n (aCb D),aXr 0 (aCb D) with
 |true,true=>aLs T D
 |_,_=>false
noncomputable abbrev Seen:=Option (Flow×Nat×Nat×Code×Pos×Bool×Array GenState×Drawn×OsState×List (Option Obj))
noncomputable def seenOf(as:List Nat)(r:Option (Flow×SharedT×Code×Pos×List Nat)):Seen:=match r with
 |none=>none
 |some (f,s,c,q,u)=>some (f,s.n,s.toks,c,q,allIn as u,s.gens,s.drawn,s.os,gets s.tree as)
noncomputable def goU(tb:String→Option Builtin)(p:Program)(w:World)(n₀:Nat)(ann:Option Value)(b m:Nat):Nat→SharedT→Thread→List Nat→Option (SharedT×Thread×List Nat)
 | 0,s,t,u=>some (s,t,u)
 |n+1,s,t,u=>match endAt b t with
  |some _=>none
  |none=>match stepOk n₀ ann t with
   |false=>none
   |true=>match stepT (denote tb) p w s t with
    |some (s',t')=>goU tb p w n₀ ann b m n s' t' (note m t.cur u)
    |none=>none
noncomputable abbrev aE1:=Option (Nat×Nat×Bool×Array GenState×Drawn×OsState×List (Option Obj))
noncomputable def aJ1(as:List Nat)(r:Option (SharedT×Thread×List Nat)):aE1:=match r with
 |none=>none
 |some (s,_,u)=>some (s.n,s.toks,allIn as u,s.gens,s.drawn,s.os,gets s.tree as)
noncomputable def aQm(r:Option (SharedT×Thread×List Nat)):Thread:=match r with
 |none=>⟨.unsupported "",.builtin "" {},⟨0,0,0,0⟩,[]⟩
 |some (_,t,_)=>t
theorem aKn{a:Nat}:∀ {l:List Nat},isIn a l=true→a∈l
 | [],h=>by cases h
 |x::l,h=>by
  unfold isIn at h
  cases e:Nat.beq x a with
  |true=>exact List.mem_cons.mpr (.inl (Nat.eq_of_beq_eq_true e).symm)
  |false=>rw[e] at h;exact List.mem_cons_of_mem _ (aKn h)
theorem aIc{l:List Nat}:∀ {u:List Nat},allIn l u=true→∀ a∈u,a∈l
 | [],_,_,h=>by cases h
 |b::u,h,a,ha=>by
  unfold allIn at h
  cases e:isIn b l with
  |false=>rw[e] at h;cases h
  |true =>
   rw[e] at h
   rcases List.mem_cons.mp ha with rfl|ha
   ·exact aKn e
   ·exact aIc h a ha
theorem aF0:∀ {l:List Nat} {m n:Nat},upTo m n l=true→∀ a,m≤a→a<n→a∈l
 | [],m,n,h,a,h1,h2=>by have:=Nat.eq_of_beq_eq_true h;lia
 |b::l,m,n,h,a,h1,h2=>by
  unfold upTo at h
  cases e:Nat.beq b m with
  |true =>
   rw[e] at h
   have:=Nat.eq_of_beq_eq_true e
   by_cases q:a=b
   ·exact List.mem_cons.mpr (.inl q)
   ·exact List.mem_cons_of_mem _ (aF0 h a (by lia) h2)
  |false=>rw[e] at h;exact List.mem_cons_of_mem _ (aF0 h a h1 h2)
theorem aOk:∀ {l:List Nat} {k:Nat},aXr k l=true→∀ a∈l,k≤a
 | [],_,_,_,h=>by cases h
 |b::l,k,h,a,ha=>by
  unfold aXr at h
  cases e:Nat.ble k b with
  |false=>rw[e] at h;cases h
  |true =>
   rw[e] at h
   have:=Nat.le_of_ble_eq_true e
   rcases List.mem_cons.mp ha with rfl|ha
   ·exact this
   ·have:=aOk h a ha;lia
theorem aDe:∀ {D:List (Nat×Obj)} {T:BT},aLs T D=true→∀ a,a∉aCb D→(aC9 T D).get a=T.get a
 | [],_,_,_,_=>rfl
 |p::l,T,h,a,ha=>by
  unfold aLs at h
  cases e:((T.ins p.1 p.2).get p.1).isSome with
  |false=>rw[e] at h;cases h
  |true =>
   rw[e] at h
   have h1:a≠p.1:=fun q=>ha (List.mem_cons.mpr (.inl q))
   have h2:a∉aCb l:=fun q=>ha (List.mem_cons_of_mem _ q)
   show (aC9 (T.ins p.1 p.2) l).get a=_
   rw[aDe h a h2,BT.get_ins _ _ _ e,if_neg h1]
theorem aHy:∀ {D:List (Nat×Obj)} {T:BT} {k:Nat},aLs T D=true→aXr k (aCb D)=true→gets (aC9 T D) (aCb D)=aAt D
 | [],_,_,_,_=>rfl
 |p::l,T,k,h,hi=>by
  unfold aLs at h
  cases e:((T.ins p.1 p.2).get p.1).isSome with
  |false=>rw[e] at h;cases h
  |true =>
   rw[e] at h
   have hi':(match Nat.ble k p.1 with|true=>aXr (p.1+1) (aCb l)|false=>false)=true:=hi
   cases e2:Nat.ble k p.1 with
   |false=>rw[e2] at hi';cases hi'
   |true =>
    rw[e2] at hi'
    have n1:p.1∉aCb l:=fun q=>by have:=aOk hi' _ q;lia
    show (aC9 (T.ins p.1 p.2) l).get p.1::gets (aC9 (T.ins p.1 p.2) l) (aCb l)=some p.2::aAt l
    rw[aDe h _ n1,BT.get_ins _ _ _ e,if_pos rfl,aHy h hi']
theorem aOn:∀ {l:List Nat} {T T':BT},gets T l=gets T' l→∀ a∈l,T.get a=T'.get a
 | [],_,_,_,_,h=>by cases h
 |b::l,T,T',h,a,ha=>by
  refine aBa (List.cons.inj h) fun h1 h2=>?_
  rcases List.mem_cons.mp ha with rfl|ha
  ·exact h1
  ·exact aOn h2 a ha
theorem aJq{T T':BT}{n:Nat}{life:Life}(h:∀ a,a<n→T.get a=T'.get a):absHeap T n life=absHeap T' n life:=by
 unfold absHeap BT.list
 congr 2
 apply List.map_congr_left
 intro a ha
 rw[h a (List.mem_range.mp ha)]
theorem nnS{α:Type}{a:α}{P:Prop}(h:none=some a):P:=nomatch h
structure StepF(m:Nat)(u u':List Nat)(s s':SharedT):Prop where
 l:s'.life=s.life
 n:s.n≤s'.n
 u:∀ a∈u,a∈u'
 k:∀ a,a<m→a∉u'→s'.tree.get a=s.tree.get a
theorem StepF.same{m:Nat}{u:List Nat}{s s':SharedT}(h1:s'.life=s.life)(h2:s'.n=s.n)(h3:s'.tree=s.tree):StepF m u u s s':=⟨h1,Nat.le_of_eq h2.symm,fun _ h=>h,fun _ _ _=>by rw[h3]⟩
theorem StepF.upd{m n a:Nat}{u:List Nat}{T:BT}{f:Obj→Obj}{l l':Life}{g g':Array GenState}{d d':Drawn}{k k':Nat}{o o':OsState}(e:l'=l):StepF m u (match Nat.blt a m with|true=>a::u|false=>u) ⟨T,n,l,g,d,k,o⟩ ⟨T.set a f,n,l',g',d',k',o'⟩:=by
 refine⟨e,Nat.le_refl _,fun b hb=>?_,fun b hb hn=>?_⟩
 ·cases Nat.blt a m with
  |true=>exact List.mem_cons_of_mem _ hb
  |false=>exact hb
 ·show (T.set a f).get b=T.get b
  rw[BT.get_set]
  have:b≠a:=by
   rintro rfl
   rw[show Nat.blt b m=true from Nat.ble_eq_true_of_le hb] at hn
   exact hn (List.mem_cons.mpr (.inl rfl))
  rw[if_neg this]
theorem StepF.new{m n:Nat}{u:List Nat}{T:BT}{x:Obj}{l l':Life}{g g':Array GenState}{d d':Drawn}{k k':Nat}{o o':OsState}(e:l'=l)(hm:m≤n)(h:((T.ins n x).get n).isSome=true):StepF m u u ⟨T,n,l,g,d,k,o⟩ ⟨T.ins n x,n+1,l',g',d',k',o'⟩ :=
 ⟨e,Nat.le_succ _,fun _ h=>h,fun b hb _=>by
  show (T.ins n x).get b=T.get b
  rw[BT.get_ins _ _ _ h,if_neg (by lia)]⟩
noncomputable def bOq(m:Nat)(u u':List Nat)(s:SharedT):Option (SharedT×Thread)→Prop
 |none=>True
 |some r=>StepF m u u' s r.1
theorem aK4{den:Code→Sem Fin}{p:Program}{w:World}{T:BT}{n:Nat}{life:Life}{gens:Array GenState}{drawn:Drawn}{toks:Nat}{os:OsState}{cur:Sem Fin}{code:Code}{pos:Pos}{st:List Frame}{m:Nat}{u:List Nat}(hm:m≤n):bOq m u (note m cur u) ⟨T,n,life,gens,drawn,toks,os⟩ (stepT den p w ⟨T,n,life,gens,drawn,toks,os⟩ ⟨cur,code,pos,st⟩):=by
 cases cur with
 |load a q k =>
  dsimp only[stepT]
  cases Nat.blt a n
  ·exact trivial
  cases T.get a with
  |none=>exact trivial
  |some o =>
   dsimp only
   cases alive o
   ·exact trivial
   ·exact StepF.same rfl rfl rfl
 |loadIfAlive a k =>
  dsimp only[stepT]
  cases Nat.blt a n
  ·exact StepF.same rfl rfl rfl
  cases T.get a
  ·exact trivial
  ·exact StepF.same rfl rfl rfl
 |update a q f k =>
  dsimp only[stepT]
  cases Nat.blt a n
  ·exact trivial
  cases T.get a with
  |none=>exact trivial
  |some o =>
   dsimp only
   cases alive o
   ·exact trivial
   ·exact StepF.upd rfl
 |alloc o k =>
  dsimp only[stepT]
  cases e:((T.ins n o).get n).isSome
  ·exact trivial
  ·exact StepF.new rfl hm e
 |_ =>
  dsimp only[stepT]
  generalize step den p w _ _=z
  cases z
  ·exact StepF.same rfl rfl rfl
  ·exact trivial
theorem aD9{den:Code→Sem Fin}{p:Program}{w:World}{s s':SharedT}{t t':Thread}(m:Nat)(u:List Nat)(h:stepT den p w s t=some (s',t'))(hm:m≤s.n):StepF m u (note m t.cur u) s s':=by
 have:=aK4 (den:=den) (p:=p) (w:=w) (T:=s.tree) (life:=s.life) (gens:=s.gens) (drawn:=s.drawn) (toks:=s.toks) (os:=s.os) (cur:=t.cur) (code:=t.code) (pos:=t.pos) (st:=t.stack) (u:=u) hm
 rw[h] at this
 exact this
section
variable {tb:String→Option Builtin} {p:Program} {w:World} {n₀:Nat} {ann:Option Value} {b m:Nat}
theorem StepF.refl{m:Nat}{u:List Nat}{s:SharedT}:StepF m u u s s:=.same rfl rfl rfl
theorem StepF.trans{m:Nat}{u u' u'':List Nat}{s s' s'':SharedT}(a:StepF m u u' s s')(b:StepF m u' u'' s' s''):StepF m u u'' s s'' :=
 ⟨b.l.trans a.l,Nat.le_trans a.n b.n,fun x h=>b.u x (a.u x h),fun x h q=>(b.k x h q).trans (a.k x h fun z=>q (b.u x z))⟩
theorem aJ2:∀ {n:Nat} {s s':SharedT} {t:Thread} {u u':List Nat} {f:Flow} {c:Code} {q:Pos},m≤s.n→aDt tb p w n₀ ann b m n s t u=some (f,s',c,q,u') →
  segRunT tb p w n₀ ann b n s t=some (f,s',c,q)∧StepF m u u' s s'
 | 0,_,_,_,_,_,_,_,_,_,h=>nnS h
 |n+1,s,s',t,u,u',f,c,q,hm,h=>by
  unfold aDt at h
  unfold segRunT
  generalize endAt b t=o at h ⊢
  cases o with
  |some x=>cases h;exact⟨rfl,.refl⟩
  |none =>
   generalize stepOk n₀ ann t=o at h ⊢
   cases o with
   |false=>exact nnS h
   |true =>
    generalize hs:stepT (denote tb) p w s t=o at h ⊢
    cases o with
    |none=>exact nnS h
    |some r =>
     have l:=aD9 m u hs hm
     exact (aJ2 (Nat.le_trans hm l.n) h).imp id l.trans
theorem aFu{n:Nat}{T T':BT}{life:Life}{u:List Nat}{D:List (Nat×Obj)}(k:∀ a,a<m→a∉u→T'.get a=T.get a)(hu:allIn (aCb D) u=true)(hg:gets T' (aCb D)=aAt D)(ok:aEa T m n D=true):absHeap T' n life=absHeap (aC9 T D) n life:=by
 unfold aEa at ok
 generalize ou:upTo m n (aCb D)=o at ok
 cases o with
 |false=>cases ok
 |true =>
 generalize oi:aXr 0 (aCb D)=o at ok
 cases o with
 |false=>cases ok
 |true =>
 refine aJq fun a hlt=>?_
 by_cases hin:a∈aCb D
 ·exact aOn (hg.trans (aHy ok oi).symm) a hin
 ·rw[aDe ok a hin]
  exact k a (Nat.lt_of_not_le fun hle=>hin (aF0 ou a hle hlt)) fun x=>hin (aIc hu a x)
theorem chunk{n n' k':Nat}{T:BT}{life:Life}{gens gens':Array GenState}{drawn drawn':Drawn}{toks:Nat}{os os':OsState}{t:Thread}{f:Flow}{c:Code}{q:Pos}{D:List (Nat×Obj)}
  (h:seenOf (aCb D) (aDt tb p w n₀ ann b m n ⟨T,m,life,gens,drawn,toks,os⟩ t [])=some (f,n',k',c,q,true,gens',drawn',os',aAt D)) (ok:aEa T m n' D=true) :
  segRun tb p w n₀ ann b n (SharedT.abs ⟨T,m,life,gens,drawn,toks,os⟩) t=some (f,(SharedT.abs ⟨aC9 T D,n',life,gens',drawn',k',os'⟩),c,q):=by
 generalize hr:aDt tb p w n₀ ann b m n ⟨T,m,life,gens,drawn,toks,os⟩ t []=o at h
 cases o with
 |none=>exact nnS h
 |some r =>
  obtain⟨f₂,⟨T₂,n₂,life₂,gens₂,drawn₂,toks₂,os₂⟩,c₂,q₂,u₂⟩:=r
  refine aBa (aJ2 (m:=m) (Nat.le_refl m) hr) fun k1 k2=>?_
  obtain rfl:life₂=life:=k2.l
  rw[segRun_of k1]
  injection h with h
  injection h with e1 h;injection h with e2 h;injection h with e3 h;injection h with e4 h;injection h with e5 h;injection h with ha h;injection h with e6 h;injection h with e7 h;injection h with e8 hg
  simp only[SharedT.n,SharedT.toks,SharedT.gens,SharedT.drawn,SharedT.os] at e2 e3 e6 e7 e8
  subst e1 e2 e3 e4 e5 e6 e7 e8
  show some (f₂,SharedT.abs _,c₂,q₂)=some (f₂,SharedT.abs _,c₂,q₂)
  rw[show SharedT.abs ⟨T₂,n₂,life₂,gens₂,drawn₂,toks₂,os₂⟩=SharedT.abs ⟨aC9 T D,n₂,life₂,gens₂,drawn₂,toks₂,os₂⟩ from congrArg (fun h:Heap=>Shared.mk h gens₂ drawn₂ toks₂ os₂) (aFu k2.k ha hg ok)]
theorem aOm:∀ {n:Nat} {s s':SharedT} {t t':Thread} {u u':List Nat},m≤s.n→goU tb p w n₀ ann b m n s t u=some (s',t',u')→segGoT tb p w n₀ ann b n s t=some (s',t')∧StepF m u u' s s'
 | 0,_,_,_,_,_,_,_,h=>by cases h;exact⟨rfl,.refl⟩
 |n+1,s,s',t,t',u,u',hm,h=>by
  unfold goU at h
  unfold segGoT
  generalize endAt b t=o at h ⊢
  cases o with
  |some x=>exact nnS h
  |none =>
   generalize stepOk n₀ ann t=o at h ⊢
   cases o with
   |false=>exact nnS h
   |true =>
    generalize hs:stepT (denote tb) p w s t=o at h ⊢
    cases o with
    |none=>exact nnS h
    |some r =>
     have l:=aD9 m u hs hm
     exact (aOm (Nat.le_trans hm l.n) h).imp id l.trans
theorem aJl{n n' k':Nat}{T:BT}{life:Life}{gens gens':Array GenState}{drawn drawn':Drawn}{toks:Nat}{os os':OsState}{t:Thread}{D:List (Nat×Obj)}
  (h:aJ1 (aCb D) (goU tb p w n₀ ann b m n ⟨T,m,life,gens,drawn,toks,os⟩ t [])=some (n',k',true,gens',drawn',os',aAt D)) (ok:aEa T m n' D=true) :
  segGo tb p w n₀ ann b n (SharedT.abs ⟨T,m,life,gens,drawn,toks,os⟩) t=some ((SharedT.abs ⟨aC9 T D,n',life,gens',drawn',k',os'⟩),aQm (goU tb p w n₀ ann b m n ⟨T,m,life,gens,drawn,toks,os⟩ t [])):=by
 generalize hr:goU tb p w n₀ ann b m n ⟨T,m,life,gens,drawn,toks,os⟩ t []=o at h
 cases o with
 |none=>exact nnS h
 |some r =>
  obtain⟨⟨T₂,n₂,life₂,gens₂,drawn₂,toks₂,os₂⟩,t₂,u₂⟩:=r
  refine aBa (aOm (m:=m) (Nat.le_refl m) hr) fun k1 k2=>?_
  obtain rfl:life₂=life:=k2.l
  rw[segGo_of k1]
  injection h with h
  injection h with e1 h;injection h with e2 h;injection h with ha h;injection h with e3 h;injection h with e4 h;injection h with e5 hg
  simp only[SharedT.n,SharedT.toks,SharedT.gens,SharedT.drawn,SharedT.os] at e1 e2 e3 e4 e5
  subst e1 e2 e3 e4 e5
  rw[show SharedT.abs ⟨T₂,n₂,life₂,gens₂,drawn₂,toks₂,os₂⟩=SharedT.abs ⟨aC9 T D,n₂,life₂,gens₂,drawn₂,toks₂,os₂⟩ from congrArg (fun h:Heap=>Shared.mk h gens₂ drawn₂ toks₂ os₂) (aFu k2.k ha hg ok)]
  rfl
theorem aEb(k:Nat):∀ (n:Nat) (s:Shared) (t:Thread) (r),segRun tb p w n₀ ann b n s t=some r→segRun tb p w n₀ ann b (n+k) s t=some r
 | 0,_,_,_,h=>by simp[segRun] at h
 |n+1,s,t,r,h=>by
  rw[show n+1+k=n+k+1 by lia]
  unfold segRun at h ⊢
  cases ht:endAt b t with
  |some f=>rw[ht] at h;exact h
  |none =>
   rw[ht] at h
   cases hk:stepOk n₀ ann t with
   |false=>rw[hk] at h;cases h
   |true =>
    rw[hk] at h
    cases hs:step (denote tb) p w s t with
    |halt o s'=>rw[hs] at h;cases h
    |go s' t'=>rw[hs] at h;exact aEb k n s' t' r h
end
section
variable {α:Type} {tb:String→Option Builtin} {p:Program} {w:World} {n₀:Nat} {ann:Option Value} {b:Nat} {B:List Frame} {K':α→Sem Fin} {H':Value→Sem Fin} {gd:Bool→Bool} {lv:List Value→List Value} {res:α→Flow}
noncomputable abbrev bIg(res:α→Flow)(K':α→Sem Fin)(H':Value→Sem Fin)(gd:Bool→Bool)(lv:List Value→List Value)(B:List Frame):Thread→Thread→Prop:=Rel2 (fun a=>.pure (.done (res a))) K' deadEnd H' gd lv B
theorem aQg{b:Nat}{x:Sem α}{f:Flow}{code:Code}{pos:Pos}{st:List Frame}(h:endAt b ⟨x.wrap (fun a=>.pure (.done (res a))) deadEnd gd lv,code,pos,st⟩=some f):∃ a,x=.pure a∧res a=f:=by
 unfold endAt at h
 dsimp only at h
 generalize (st.length==b)=o at h
 cases x with
 |pure a =>
  cases o
  ·exact nnS h
  ·exact⟨a,rfl,Option.some.inj h⟩
 |_=>cases o<;>exact nnS h
theorem bEb{cur:Sem Fin}{code:Code}{pos:Pos}{st:List Frame}{t':Thread}{f:Flow}(R:bIg res K' H' gd lv B ⟨cur,code,pos,st⟩ t')(he:endAt B.length ⟨cur,code,pos,st⟩=some f):∃ a,res a=f∧t'=⟨K' a,code,pos,B⟩:=by
 obtain⟨cur',code',pos',st'⟩:=t'
 obtain⟨e1,e2,R⟩:=R
 dsimp only at e1 e2 R
 subst e1 e2
 rcases R with⟨rfl,rfl,x,rfl,rfl⟩|⟨rfl,F⟩
 ·obtain⟨a,rfl,e⟩:=aQg he
  exact⟨a,e,rfl⟩
 ·have:((st.length==B.length)=false):=beq_eq_false_iff_ne.mpr (Nat.ne_of_gt F.longer.1)
  simp only[endAt,this] at he
  exact nnS he
theorem aXs(hB:splitAtGen B=none)(hb:b<B.length){s s₂:Shared}{cur:Sem Fin}{code:Code}{pos:Pos}{st:List Frame}{t₂ t':Thread}(R:bIg res K' H' gd lv B ⟨cur,code,pos,st⟩ t')(he:endAt B.length ⟨cur,code,pos,st⟩=none)(hk:stepOk n₀ ann ⟨cur,code,pos,st⟩=true)(hs:step (denote tb) p w s ⟨cur,code,pos,st⟩=.go s₂ t₂) :
  endAt b t'=none∧stepOk n₀ ann t'=true∧∃ t₂',step (denote tb) p w s t'=.go s₂ t₂'∧bIg res K' H' gd lv B t₂ t₂':=by
 obtain⟨cur',code',pos',st'⟩:=t'
 have ends:b<st'.length→endAt b ⟨cur',code',pos',st'⟩=none:=fun q=>by
  have:((st'.length==b)=false):=beq_eq_false_iff_ne.mpr (Nat.ne_of_gt q)
  simp only[endAt,this]
 obtain⟨e1,e2,R⟩:=R
 dsimp only at e1 e2 R
 subst e1 e2
 rcases R with⟨rfl,rfl,x,rfl,rfl⟩|⟨rfl,F⟩
 ·have hp:∀ a,x≠.pure a:=by
   rintro a rfl
   simp[endAt,Sem.wrap] at he
  have hr:∀ e,x≠.raise e:=by
   rintro e rfl
   obtain⟨heap,gens,drawn,toks,os⟩:=s
   simp only[Sem.wrap,step] at hs
   cases hs
  exact⟨ends hb,(okOuter (K':=K') (H':=H') hp hr hk).1,step_outer hB hp hs⟩
 ·exact⟨ends (Nat.lt_trans hb F.longer.2),(okInner hB F hk).1,step_inner hB F hs⟩
theorem aJ0(hB:splitAtGen B=none)(hb:b<B.length):∀ (n:Nat) (s:Shared) (t t':Thread) (f:Flow) (s':Shared) (c':Code) (p':Pos),bIg res K' H' gd lv B t t' →
  segRun tb p w n₀ ann B.length n s t=some (f,s',c',p')→∃ a,res a=f∧∀ N r,segRun tb p w n₀ ann b N s' ⟨K' a,c',p',B⟩=some r→segRun tb p w n₀ ann b (n+N) s t'=some r
 | 0,_,_,_,_,_,_,_,_,h=>nnS h
 |n+1,s,t,t',f,s',c',p',R,h=>by
  obtain⟨cur,code,pos,st⟩:=t
  unfold segRun at h
  generalize he:endAt B.length ⟨cur,code,pos,st⟩=o at h
  cases o with
  |some g =>
   cases h
   refine aAd (bEb R he) fun a ha r12_2=>?_
   subst r12_2
   exact⟨a,ha,fun N r hN=>by
    rw[show n+1+N=N+(n+1) by lia]
    exact aEb _ _ _ _ _ hN⟩
  |none =>
   generalize hk:stepOk n₀ ann ⟨cur,code,pos,st⟩=o at h
   cases o with
   |false=>exact nnS h
   |true =>
    generalize hs:step (denote tb) p w s ⟨cur,code,pos,st⟩=o at h
    cases o with
    |halt o s₂=>exact nnS h
    |go s₂ t₂ =>
     refine aJi (aXs (b:=b) hB hb R he hk hs) fun k0 k1 z13_2=>?_
     refine aAd z13_2 fun t₂' k3 R'=>?_
     exact (aJ0 hB hb n s₂ t₂ t₂' f s' c' p' R' h).imp fun a ⟨ha,hN⟩=>⟨ha,fun N r q=>by
      rw[show n+1+N=n+N+1 by lia]
      unfold segRun
      rw[k0,k1,k3]
      exact hN N r q⟩
end
noncomputable def Leads(p:Program)(w:World)(b n:Nat)(s:Shared)(t:Thread)(s':Shared)(t':Thread):Prop :=
 ∀ N r,segRun treeTable p w 11 (some (.ref 6)) b N s' t'=some r→segRun treeTable p w 11 (some (.ref 6)) b (n+N) s t=some r
section
variable {p:Program} {w:World} {b:Nat} {B:List Frame} {env:Env}
theorem Leads.trans{n n':Nat}{s s' s'':Shared}{t t' t'':Thread}(h:Leads p w b n s t s' t')(k:Leads p w b n' s' t' s'' t''):Leads p w b (n+n') s t s'' t'':=fun N r q=>by
 rw[Nat.add_assoc];exact h _ _ (k _ _ q)
theorem Leads.of_go{n:Nat}{s s':Shared}{t t':Thread}(h:segGo treeTable p w 11 (some (.ref 6)) b n s t=some (s',t')):Leads p w b n s t s' t':=fun N r q=>seg_go h q
theorem Leads.end_{n N:Nat}{s s':Shared}{t t':Thread}{r}(h:Leads p w b n s t s' t')(k:segRun treeTable p w 11 (some (.ref 6)) b N s' t'=some r):segRun treeTable p w 11 (some (.ref 6)) b (n+N) s t=some r:=h _ _ k
noncomputable abbrev aMu:Flow→Sem Fin:=fun f=>match f with | .ret v=>ret v|_=>ret .none
noncomputable abbrev aC1(env:Env):Value→Sem Fin:=fun e=>((leaving env e).bind fun _=>(.raise e:Sem Flow)).wrap aMu .raise id id
noncomputable def aE5(K:Flow→Sem Fin)(H:Value→Sem Fin)(rest:List Stmt)(env:Env)(c:Code)(p:Pos)(B:List Frame):Thread:=⟨(execs rest env).wrap K H id id,c,p,B⟩
noncomputable def aU4(K:Flow→Sem Fin)(H:Value→Sem Fin)(rest:List Stmt)(env:Env):Flow→Sem Fin:=fun f=>match f with | .next=>(execs rest env).wrap K H id id|f=>K f
theorem aHo(hB:splitAtGen B=none)(hb:b<B.length){K:Flow→Sem Fin}{H:Value→Sem Fin}{n:Nat}{s s':Shared}{l rest:List Stmt}{c c':Code}{pos p':Pos}{f:Flow}
  (h:segRun treeTable p w 11 (some (.ref 6)) B.length n s (piecesOf l env c pos B)=some (f,s',c',p')) :
  Leads p w b n s (aE5 K H (l++rest) env c pos B) s' ⟨aU4 K H rest env f,c',p',B⟩:=fun N r k=>by
 obtain⟨a,ha,hN⟩:=aJ0 (res:=id) (K':=aU4 K H rest env) (H':=H) (B:=B) hB hb n s (piecesOf l env c pos B)
  ⟨(execs l env).wrap (aU4 K H rest env) H id id,c,pos,B⟩ _ _ _ _ ⟨rfl,rfl,.inl ⟨rfl,rfl,_,rfl,rfl⟩⟩ h
 obtain rfl:a=f:=ha
 have:=hN N r k
 unfold aE5
 rw[execs_app_wrap]
 exact this
theorem aLr(hB:splitAtGen B=none)(hb:b<B.length){n:Nat}{s s':Shared}{l:List Stmt}{c c':Code}{pos p':Pos}{f:Flow}
  (h:segRun treeTable p w 11 (some (.ref 6)) B.length n s (blockOf l env c pos B)=some (f,s',c',p')) :
  Leads p w b n s ⟨denote treeTable (.body l env),c,pos,B⟩ s' (aE5 doneF (leaveH env) l env c' p' B):=fun N r k=>by
 obtain⟨a,ha,hN⟩:=aJ0 (res:=fun _:Unit=>Flow.next) (K':=fun _=>(execs l env).wrap doneF (leaveH env) id id) (H':=Sem.raise) (B:=B) hB hb n s (blockOf l env c pos B)
  ⟨(blockStart l env).wrap (fun _=>(execs l env).wrap doneF (leaveH env) id id) .raise id id,c,pos,B⟩ _ _ _ _ ⟨rfl,rfl,.inl ⟨rfl,rfl,_,rfl,rfl⟩⟩ h
 rw[body_wrap]
 exact hN N r k
theorem aOr(l:List Stmt):denote treeTable (.func l env)=(point:Sem Unit).wrap (fun _=>(execs l env).wrap aMu (aC1 env) id id) .raise id id:=by
 show (point:Sem Unit).bind (fun _=>((execs l env).onRaise (leaving env)).bind aMu)=_
 rw[Sem.bind_eq_wrap]
 refine Sem.wrap_congr _ _ _ (fun _=>?_) fun _=>rfl
 rw[Sem.bind_eq_wrap,Sem.onRaise_eq_wrap,Sem.wrap_wrap]
 rfl
noncomputable abbrev aEe(c:Code)(pos:Pos)(B:List Frame):Thread:=⟨(point:Sem Unit).wrap (fun _=>doneF .next) deadEnd id id,c,pos,B⟩
theorem aLq(hB:splitAtGen B=none)(hb:b<B.length){n:Nat}{s s':Shared}{l:List Stmt}{c c':Code}{pos p':Pos}{f:Flow}
  (h:segRun treeTable p w 11 (some (.ref 6)) B.length n s (aEe c pos B)=some (f,s',c',p')) :
  Leads p w b n s ⟨denote treeTable (.func l env),c,pos,B⟩ s' (aE5 aMu (aC1 env) l env c' p' B):=fun N r k=>by
 obtain⟨a,ha,hN⟩:=aJ0 (res:=fun _:Unit=>Flow.next) (K':=fun _=>(execs l env).wrap aMu (aC1 env) id id) (H':=Sem.raise) (B:=B) hB hb n s (aEe c pos B)
  ⟨(point:Sem Unit).wrap (fun _=>(execs l env).wrap aMu (aC1 env) id id) .raise id id,c,pos,B⟩ _ _ _ _ ⟨rfl,rfl,.inl ⟨rfl,rfl,_,rfl,rfl⟩⟩ h
 rw[aOr]
 exact hN N r k
theorem aFt(l:List Stmt)(i n:Nat):l.drop i=(l.drop i).take n++l.drop (i+n):=by
 rw[← List.drop_drop,List.take_append_drop]
end
noncomputable def nth:List Stmt→Nat→Stmt
 | [],_=>.Pass ⟨0,0,0,0⟩
 |s::_,0=>s
 |_::r,n+1=>nth r n
noncomputable def bRi:Stmt→List Stmt
 | .ClassDef _ _ _ b _ _ _ _ _ _ _=>b
 |_=>[]
noncomputable def fdP:Stmt→Arguments
 | .FunctionDef _ a _ _ _ _ _ _ _ _=>a
 |_=>⟨[],[],none,[],[],none,[]⟩
noncomputable def fdB:Stmt→List Stmt
 | .FunctionDef _ _ b _ _ _ _ _ _ _=>b
 |_=>[]
noncomputable def fdS:Stmt→Scope
 | .FunctionDef _ _ _ _ _ _ s _ _ _=>s
 |_=>⟨.module,[],false,false,[]⟩
noncomputable def F(p:Program)(i:Nat):Stmt:=nth p.main.body i
noncomputable def M(p:Program)(i j:Nat):Stmt:=nth (bRi (F p i)) j
noncomputable def eK(P:Params)(x:Str)(t:Tok)(v:Value):DictEntry:=⟨PyData.keyHash P x,.str x t,v⟩
noncomputable def z(a t:Nat):Value:=.int (.ofNat a) t
noncomputable def aT9:BT→Nat→List Obj→BT
 |T,_,[]=>T
 |T,n,o::l=>aT9 (T.ins n o) (n+1) l
noncomputable def aBn:Life:={}
section
local macro_rules | `($s:str) => do
  let xs ← s.getString.toList.toArray.mapM fun c => do
    let n := Lean.Syntax.mkNumLit (toString c.toNat)
    `(nat_lit $n)
  `(⟨⟨[$xs,*]⟩⟩)
noncomputable def q0:Str:="<module>"
noncomputable def q1:Str:="/claim/cut.py"
noncomputable def q2:Str:="__main__"
noncomputable def q3:Str:="__name__"
noncomputable def q4:Str:="pipeboard.isa"
noncomputable def q5:Str:="__doc__"
noncomputable def q6:Str:="__package__"
noncomputable def q7:Str:="__loader__"
noncomputable def q8:Str:="__spec__"
noncomputable def q9:Str:="__annotations__"
noncomputable def q10:Str:="__builtins__"
noncomputable def q11:Str:="__file__"
noncomputable def q12:Str:="__cached__"
noncomputable def q13:Str:="_wall"
noncomputable def q14:Str:="BoardError"
noncomputable def q15:Str:="BadArgument"
noncomputable def q16:Str:="BadInstruction"
noncomputable def q17:Str:="BadAddress"
noncomputable def q18:Str:="Trap"
noncomputable def q19:Str:="CSRS"
noncomputable def q20:Str:="LOAD_isa"
noncomputable def q21:Str:="FENCES"
noncomputable def q22:Str:="IMMEDIATE"
noncomputable def q23:Str:="AUIPC"
noncomputable def q24:Str:="STORE_isa"
noncomputable def q25:Str:="REGISTER"
noncomputable def q26:Str:="LUI"
noncomputable def q27:Str:="BRANCH"
noncomputable def q28:Str:="JALR"
noncomputable def q29:Str:="JAL"
noncomputable def q30:Str:="SYSTEM"
noncomputable def q31:Str:="Instruction"
noncomputable def q32:Str:="Shape"
noncomputable def q33:Str:="numbered"
noncomputable def q34:Str:="shapes"
noncomputable def q35:Str:="k"
noncomputable def q36:Str:="__module__"
noncomputable def q37:Str:="pipeboard.errors"
noncomputable def q38:Str:="__qualname__"
noncomputable def q39:Str:="__firstlineno__"
noncomputable def q40:Str:="__init__"
noncomputable def q41:Str:="__static_attributes__"
noncomputable def q42:Str:=""
noncomputable def q43:Str:="self"
noncomputable def q44:Str:="reason"
noncomputable def q45:Str:="BoardError.__init__"
noncomputable def q46:Str:="__weakref__"
noncomputable def q47:Str:="word"
noncomputable def q48:Str:="BadInstruction.__init__"
noncomputable def q49:Str:="address"
noncomputable def q50:Str:="BadAddress.__init__"
noncomputable def q51:Str:="FETCH_MISALIGNED"
noncomputable def q52:Str:="FETCH_ACCESS"
noncomputable def q53:Str:="ILLEGAL"
noncomputable def q54:Str:="BREAKPOINT"
noncomputable def q55:Str:="LOAD_MISALIGNED"
noncomputable def q56:Str:="LOAD_ACCESS"
noncomputable def q57:Str:="STORE_MISALIGNED"
noncomputable def q58:Str:="STORE_ACCESS"
noncomputable def q59:Str:="CALL_FROM_USER"
noncomputable def q60:Str:="CALL_FROM_SUPERVISOR"
noncomputable def q61:Str:="CALL_FROM_MACHINE"
noncomputable def q62:Str:="FETCH_PAGE"
noncomputable def q63:Str:="LOAD_PAGE"
noncomputable def q64:Str:="STORE_PAGE"
noncomputable def q65:Str:="cause"
noncomputable def q66:Str:="value"
noncomputable def q67:Str:="Trap.__init__"
noncomputable def q68:Str:="sstatus"
noncomputable def q69:Str:="sie"
noncomputable def q70:Str:="stvec"
noncomputable def q71:Str:="scounteren"
noncomputable def q72:Str:="sscratch"
noncomputable def q73:Str:="sepc"
noncomputable def q74:Str:="scause"
noncomputable def q75:Str:="stval"
noncomputable def q76:Str:="sip"
noncomputable def q77:Str:="satp"
noncomputable def q78:Str:="mstatus"
noncomputable def q79:Str:="misa"
noncomputable def q80:Str:="medeleg"
noncomputable def q81:Str:="mideleg"
noncomputable def q82:Str:="mie"
noncomputable def q83:Str:="mtvec"
noncomputable def q84:Str:="mcounteren"
noncomputable def q85:Str:="mscratch"
noncomputable def q86:Str:="mepc"
noncomputable def q87:Str:="mcause"
noncomputable def q88:Str:="mtval"
noncomputable def q89:Str:="mip"
noncomputable def q90:Str:="mcycle"
noncomputable def q91:Str:="minstret"
noncomputable def q92:Str:="mcycleh"
noncomputable def q93:Str:="minstreth"
noncomputable def q94:Str:="cycle"
noncomputable def q95:Str:="time"
noncomputable def q96:Str:="instret"
noncomputable def q97:Str:="cycleh"
noncomputable def q98:Str:="timeh"
noncomputable def q99:Str:="instreth"
noncomputable def bC9:Str:="mvendorid"
noncomputable def bC8:Str:="marchid"
noncomputable def bC7:Str:="mimpid"
noncomputable def bAl:Str:="mhartid"
noncomputable def bC6:Str:="fields"
noncomputable def aAf:Str:="name"
noncomputable def bAk:Str:="rd"
noncomputable def bC5:Str:="rs1"
noncomputable def bC4:Str:="rs2"
noncomputable def bC3:Str:="imm"
noncomputable def bHw:Str:="csr"
noncomputable def bHv:Str:="Instruction.__init__"
noncomputable def bLr:Str:="Instruction.fields"
noncomputable def aFl:Str:="__dict__"
noncomputable def bC2:Str:="fixed"
noncomputable def aAg:Str:="kind"
noncomputable def aAj:Str:="opcode"
noncomputable def aAi:Str:="third"
noncomputable def aAh:Str:="seventh"
noncomputable def bLq:Str:="Shape.__init__"
noncomputable def bLp:Str:="Shape.fixed"
noncomputable def aLg:Str:="names"
noncomputable def aF7:Str:="found"
noncomputable def aHc:Str:="number"
noncomputable def aF6:Str:="Known"
noncomputable def bLo:Str:="lui"
noncomputable def aA8:Str:="U"
noncomputable def bLn:Str:="auipc"
noncomputable def aNb:Str:="jal"
noncomputable def aA9:Str:="J"
noncomputable def bLm:Str:="jalr"
noncomputable def aAs:Str:="I"
noncomputable def bYv:Str:="beq bne - - blt bge bltu bgeu"
noncomputable def aAw:Str:="B"
noncomputable def aTu:Str:="bgeu"
noncomputable def bAj:Str:="beq"
noncomputable def bAi:Str:="bne"
noncomputable def aBo:Str:="-"
noncomputable def bAh:Str:="blt"
noncomputable def bAg:Str:="bge"
noncomputable def bAf:Str:="bltu"
noncomputable def bYu:Str:="lb lh lw - lbu lhu"
noncomputable def aTt:Str:="lhu"
noncomputable def bAe:Str:="lb"
noncomputable def bAd:Str:="lh"
noncomputable def aJ9:Str:="lw"
noncomputable def bAc:Str:="lbu"
noncomputable def bYt:Str:="sb sh sw"
noncomputable def aA3:Str:="S"
noncomputable def aTs:Str:="sw"
noncomputable def bAb:Str:="sb"
noncomputable def bAa:Str:="sh"
noncomputable def bYs:Str:="addi - slti sltiu xori - ori andi"
noncomputable def aTr:Str:="andi"
noncomputable def aJ8:Str:="addi"
noncomputable def aZ9:Str:="slti"
noncomputable def aZ8:Str:="sltiu"
noncomputable def aZ7:Str:="xori"
noncomputable def aZ6:Str:="ori"
noncomputable def bYr:Str:="- slli - - - srli"
noncomputable def aA0:Str:="shift"
noncomputable def aTq:Str:="srli"
noncomputable def aZ5:Str:="slli"
noncomputable def bYq:Str:="- - - - - srai"
noncomputable def aTp:Str:="srai"
noncomputable def bYp:Str:="add sll slt sltu xor srl or and"
noncomputable def aAm:Str:="R"
noncomputable def aQ4:Str:="and"
noncomputable def aDk:Str:="add"
noncomputable def aWp:Str:="sll"
noncomputable def aWo:Str:="slt"
noncomputable def aWn:Str:="sltu"
noncomputable def aWm:Str:="xor"
noncomputable def aWl:Str:="srl"
noncomputable def aWk:Str:="or"
noncomputable def bYo:Str:="sub - - - - sra"
noncomputable def aQ3:Str:="sra"
noncomputable def aIn:Str:="sub"
noncomputable def bC1:Str:="mret"
noncomputable def bYn:Str:="mul mulh mulhsu mulhu div divu rem remu"
noncomputable def aG3:Str:="remu"
noncomputable def aIm:Str:="mul"
noncomputable def aIl:Str:="mulh"
noncomputable def aIk:Str:="mulhsu"
noncomputable def aIj:Str:="mulhu"
noncomputable def aIi:Str:="div"
noncomputable def aIh:Str:="divu"
noncomputable def aIg:Str:="rem"
noncomputable def bYm:Str:="fence fence.i"
noncomputable def aAx:Str:="fence"
noncomputable def aWj:Str:="fence.i"
noncomputable def bYl:Str:="- csrrw csrrs csrrc"
noncomputable def aA2:Str:="CSR"
noncomputable def aWi:Str:="csrrc"
noncomputable def bC0:Str:="csrrw"
noncomputable def bCz:Str:="csrrs"
noncomputable def bYk:Str:="- - - - - csrrwi csrrsi csrrci"
noncomputable def aA1:Str:="CSRI"
noncomputable def aWh:Str:="csrrci"
noncomputable def bCy:Str:="csrrwi"
noncomputable def bCx:Str:="csrrsi"
noncomputable def bLl:Str:="sfence.vma"
noncomputable def aAz:Str:="flush"
noncomputable def aMf:Str:="ecall"
noncomputable def aMe:Str:="ebreak"
noncomputable def bHu:Str:="sret"
noncomputable def bHt:Str:="wfi"
noncomputable def aMd:Str:="system"
noncomputable def aWg:Str:="SHAPES"
noncomputable def aQ2:Str:="BY_NAME"
noncomputable def aWf:Str:="BY_OPCODE"
noncomputable def aZ4:Str:="BY_THIRD"
noncomputable def bCw:Str:="BY_SEVENTH"
noncomputable def aTo:Str:="WHOLE"
noncomputable def aBt:Str:="pipeboard.csrs"
noncomputable def aNa:Str:="gathered_branch"
noncomputable def aLf:Str:="gathered_jump"
noncomputable def aLe:Str:="find_shape"
noncomputable def aLd:Str:="decode"
noncomputable def bCv:Str:="MASK_words"
noncomputable def bHs:Str:="SIGN"
noncomputable def aQb:Str:="signed"
noncomputable def aM9:Str:="sign_extend"
noncomputable def aQa:Str:="shift_left"
noncomputable def aP9:Str:="shift_right"
noncomputable def aP8:Str:="shift_signed"
noncomputable def aP7:Str:="less_signed"
noncomputable def bCu:Str:="USER_csrs"
noncomputable def bCt:Str:="SUPERVISOR"
noncomputable def bCs:Str:="MACHINE"
noncomputable def bCr:Str:="INTERRUPT"
noncomputable def bCq:Str:="SIE"
noncomputable def bCp:Str:="MIE"
noncomputable def bCo:Str:="SPIE"
noncomputable def bCn:Str:="MPIE"
noncomputable def bCm:Str:="SPP"
noncomputable def bCl:Str:="MPP_PLACE"
noncomputable def bCk:Str:="MPP"
noncomputable def bCj:Str:="MPRV"
noncomputable def bCi:Str:="SUM"
noncomputable def bCh:Str:="MXR"
noncomputable def bCg:Str:="MSTATUS_BITS"
noncomputable def bCf:Str:="SSTATUS_BITS"
noncomputable def bCe:Str:="SOFT_S"
noncomputable def bHr:Str:="SOFT_M"
noncomputable def bHq:Str:="TIMER_S"
noncomputable def bHp:Str:="TIMER_M"
noncomputable def bHo:Str:="OUTER_S"
noncomputable def bHn:Str:="OUTER_M"
noncomputable def bHm:Str:="ORDER"
noncomputable def bCd:Str:="S_LINES"
noncomputable def bCc:Str:="ALL_LINES"
noncomputable def bCb:Str:="DELEGABLE"
noncomputable def bCa:Str:="SATP_MODE"
noncomputable def bHl:Str:="SATP_ROOT"
noncomputable def bB9:Str:="SATP_BITS"
noncomputable def bB8:Str:="NAMES"
noncomputable def aZ3:Str:="low"
noncomputable def bQm:Str:="shape"
noncomputable def bYj:Str:="high"
noncomputable def aHb:Str:="pipeboard.words"
noncomputable def bLk:Str:="bits"
noncomputable def aE4:Str:="one"
noncomputable def aE3:Str:="other"
noncomputable def aQ1:Str:="count"
noncomputable def bHk:Str:="first"
noncomputable def bLj:Str:="second"
noncomputable def bLi:Str:="whole"
noncomputable def bYi:Str:="rest"
noncomputable def bHj:Str:="COUNTERS"
noncomputable def aLc:Str:="law_nz0234_01"
noncomputable def bLh:Str:="MISA"
noncomputable def aM8:Str:="lowest_mode"
noncomputable def aM7:Str:="is_read_only"
noncomputable def aM6:Str:="vector_told"
noncomputable def aM5:Str:="status_told"
noncomputable def aP6:Str:="Csrs"
noncomputable def bQl:Str:="ENTRY"
noncomputable def bQk:Str:="VALID"
noncomputable def bQj:Str:="READ"
noncomputable def bQi:Str:="WRITE"
noncomputable def bQh:Str:="EXECUTE"
noncomputable def bQg:Str:="USER_paging"
noncomputable def bQf:Str:="ACCESSED"
noncomputable def bQe:Str:="DIRTY"
noncomputable def bQd:Str:="LEAF"
noncomputable def bQc:Str:="FLAG_BITS"
noncomputable def bQb:Str:="FETCH_paging"
noncomputable def aG2:Str:="fetch"
noncomputable def bQa:Str:="LOAD_paging"
noncomputable def aC8:Str:="load"
noncomputable def bP9:Str:="STORE_paging"
noncomputable def aDv:Str:="store"
noncomputable def bP8:Str:="PAGE_FAULTS"
noncomputable def bP7:Str:="ACCESS_FAULTS"
noncomputable def bP6:Str:="USER_MODE"
noncomputable def aP5:Str:="Layout"
noncomputable def aTn:Str:="is_leaf"
noncomputable def aTm:Str:="is_sound"
noncomputable def aTl:Str:="may"
noncomputable def aP4:Str:="Walker"
noncomputable def bLg:Str:="FETCH_core"
noncomputable def bLf:Str:="LOAD_core"
noncomputable def bP5:Str:="STORE_core"
noncomputable def bLe:Str:="KINDS"
noncomputable def bP4:Str:="TURNING"
noncomputable def bLd:Str:="BY_IMMEDIATE"
noncomputable def bLc:Str:="BY_REGISTER"
noncomputable def bLb:Str:="BY_LOAD"
noncomputable def bLa:Str:="BY_STORE"
noncomputable def bK9:Str:="BY_BRANCH"
noncomputable def aTk:Str:="both"
noncomputable def aTj:Str:="either"
noncomputable def aTi:Str:="unlike_bits"
noncomputable def aTh:Str:="set_less"
noncomputable def aTg:Str:="set_less_plain"
noncomputable def aTf:Str:="is_equal"
noncomputable def aTe:Str:="is_unlike"
noncomputable def aTd:Str:="is_not_less"
noncomputable def aTc:Str:="is_less_plain"
noncomputable def aTb:Str:="is_not_less_plain"
noncomputable def bK8:Str:="BOTH_WAYS"
noncomputable def bK7:Str:="REGISTERS_ONLY"
noncomputable def bK6:Str:="IMMEDIATES"
noncomputable def bK5:Str:="LOADS"
noncomputable def bK4:Str:="STORES"
noncomputable def bK3:Str:="BRANCHES"
noncomputable def aM4:Str:="row_of"
noncomputable def aP3:Str:="Core"
noncomputable def bK2:Str:="WORD"
noncomputable def bK1:Str:="MASK_memory"
noncomputable def bK0:Str:="SPACE"
noncomputable def bKz:Str:="SIZES"
noncomputable def aM3:Str:="need_size"
noncomputable def aM2:Str:="need_stretch"
noncomputable def aP2:Str:="Memory"
noncomputable def aP1:Str:="Rom"
noncomputable def aP0:Str:="Bus"
noncomputable def aE2:Str:="_law_box"
noncomputable def aM1:Str:="_law_take"
noncomputable def aM0:Str:="_law_scene"
noncomputable def aIf:Str:="_law_status"
noncomputable def aMz:Str:="_law_trapped"
noncomputable def aCr:Str:="law"
noncomputable def bHi:Str:="old"
noncomputable def aJ7:Str:="need"
noncomputable def aWe:Str:="read"
noncomputable def aWd:Str:="read_machine"
noncomputable def aWc:Str:="counted"
noncomputable def aWb:Str:="write"
noncomputable def aTa:Str:="told"
noncomputable def aWa:Str:="write_machine"
noncomputable def aV9:Str:="write_counter"
noncomputable def bB7:Str:="line"
noncomputable def bB6:Str:="pending"
noncomputable def aV8:Str:="is_handed"
noncomputable def aV7:Str:="enter"
noncomputable def aV6:Str:="place_of"
noncomputable def bB5:Str:="leave_machine"
noncomputable def bB4:Str:="leave_supervisor"
noncomputable def aV5:Str:="data_mode"
noncomputable def bB3:Str:="is_paged"
noncomputable def aS9:Str:="root"
noncomputable def bB2:Str:="hart"
noncomputable def bHh:Str:="Csrs.__init__"
noncomputable def bHg:Str:="Csrs.time"
noncomputable def aE7:Str:="mode"
noncomputable def bYh:Str:="let"
noncomputable def bHf:Str:="Csrs.need"
noncomputable def bHe:Str:="Csrs.read"
noncomputable def bHd:Str:="Csrs.read_machine"
noncomputable def bHc:Str:="Csrs.counted"
noncomputable def bHb:Str:="Csrs.write"
noncomputable def bHa:Str:="Csrs.told"
noncomputable def bG9:Str:="Csrs.write_machine"
noncomputable def bG8:Str:="Csrs.write_counter"
noncomputable def bYg:Str:="is_on"
noncomputable def bKy:Str:="Csrs.line"
noncomputable def aZ2:Str:="due"
noncomputable def bYf:Str:="own"
noncomputable def bYe:Str:="handed"
noncomputable def bYd:Str:="some"
noncomputable def bKx:Str:="Csrs.pending"
noncomputable def aZ1:Str:="rows"
noncomputable def bG7:Str:="Csrs.is_handed"
noncomputable def aE6:Str:="place"
noncomputable def aMc:Str:="kept"
noncomputable def bG6:Str:="Csrs.enter"
noncomputable def bKw:Str:="vector"
noncomputable def bYc:Str:="base"
noncomputable def bG5:Str:="Csrs.place_of"
noncomputable def bKv:Str:="Csrs.leave_machine"
noncomputable def bKu:Str:="Csrs.leave_supervisor"
noncomputable def bG4:Str:="Csrs.data_mode"
noncomputable def bKt:Str:="Csrs.is_paged"
noncomputable def bG3:Str:="page_bits"
noncomputable def bKs:Str:="Csrs.root"
noncomputable def bKr:Str:="cycles"
noncomputable def bKq:Str:="delegated"
noncomputable def bKp:Str:="enabled"
noncomputable def bKo:Str:="lines_delegated"
noncomputable def bKn:Str:="plain"
noncomputable def bKm:Str:="retired"
noncomputable def bB1:Str:="status"
noncomputable def bKl:Str:="timer"
noncomputable def bKk:Str:="waiting"
noncomputable def aDj:Str:="pipeboard.paging"
noncomputable def aZ0:Str:="parts"
noncomputable def bB0:Str:="down"
noncomputable def bBz:Str:="up"
noncomputable def bBy:Str:="is_begin"
noncomputable def bBx:Str:="pages_in"
noncomputable def aLb:Str:="entry"
noncomputable def aV4:Str:="physical"
noncomputable def bG2:Str:="Layout.__init__"
noncomputable def bKj:Str:="Layout.parts"
noncomputable def bKi:Str:="offset"
noncomputable def bKh:Str:="Layout.address"
noncomputable def bKg:Str:="Layout.down"
noncomputable def bKf:Str:="Layout.up"
noncomputable def bKe:Str:="Layout.is_begin"
noncomputable def aJ6:Str:="begin"
noncomputable def aMy:Str:="end"
noncomputable def bKd:Str:="Layout.pages_in"
noncomputable def bYb:Str:="flags"
noncomputable def bKc:Str:="Layout.entry"
noncomputable def bKb:Str:="Layout.physical"
noncomputable def bP3:Str:="entries"
noncomputable def bP2:Str:="large"
noncomputable def bP1:Str:="level_bits"
noncomputable def bP0:Str:="page"
noncomputable def bBw:Str:="sum_bit"
noncomputable def bBv:Str:="mxr"
noncomputable def bBu:Str:="translate"
noncomputable def bBt:Str:="entry_at"
noncomputable def bBs:Str:="large_page"
noncomputable def bBr:Str:="mark"
noncomputable def bBq:Str:="probe"
noncomputable def aV3:Str:="bus"
noncomputable def aV2:Str:="layout"
noncomputable def bG1:Str:="Walker.__init__"
noncomputable def bKa:Str:="Walker.translate"
noncomputable def bJ9:Str:="Walker.entry_at"
noncomputable def bJ8:Str:="Walker.large_page"
noncomputable def bJ7:Str:="Walker.mark"
noncomputable def bJ6:Str:="Walker.probe"
noncomputable def aBx:Str:="pipeboard.core"
noncomputable def bG0:Str:="instruction"
noncomputable def bBp:Str:="resume"
noncomputable def aMb:Str:="put"
noncomputable def aV1:Str:="learn"
noncomputable def aV0:Str:="execute"
noncomputable def aVz:Str:="jump"
noncomputable def aVy:Str:="execute_rest"
noncomputable def bBo:Str:="change"
noncomputable def bBn:Str:="leave"
noncomputable def aVx:Str:="trap"
noncomputable def aVw:Str:="step"
noncomputable def bBm:Str:="run"
noncomputable def bBl:Str:="until_trap"
noncomputable def bGz:Str:="Core.__init__"
noncomputable def bGy:Str:="Core.flush"
noncomputable def bGx:Str:="registers"
noncomputable def bGw:Str:="pc"
noncomputable def bJ5:Str:="Core.resume"
noncomputable def bGv:Str:="Core.put"
noncomputable def bBk:Str:="csrs"
noncomputable def bYa:Str:="key"
noncomputable def bGu:Str:="Core.place"
noncomputable def bGt:Str:="Core.fetch"
noncomputable def aEd:Str:="size"
noncomputable def bX9:Str:="is_signed"
noncomputable def bGs:Str:="Core.load"
noncomputable def bJ4:Str:="Core.store"
noncomputable def bPz:Str:="row"
noncomputable def bGr:Str:="Core.learn"
noncomputable def bX8:Str:="deed"
noncomputable def bGq:Str:="Core.execute"
noncomputable def bGp:Str:="Core.jump"
noncomputable def bX7:Str:="behind"
noncomputable def bGo:Str:="Core.execute_rest"
noncomputable def bX6:Str:="by_number"
noncomputable def bPy:Str:="source"
noncomputable def bX5:Str:="is_exchange"
noncomputable def bX4:Str:="is_written"
noncomputable def bJ3:Str:="Core.change"
noncomputable def bJ2:Str:="Core.leave"
noncomputable def bGn:Str:="Core.trap"
noncomputable def bX3:Str:="e"
noncomputable def bGm:Str:="Core.step"
noncomputable def bPx:Str:="most"
noncomputable def bJ1:Str:="Core.run"
noncomputable def bJ0:Str:="Core.until_trap"
noncomputable def bJz:Str:="known"
noncomputable def bGl:Str:="spots"
noncomputable def bJy:Str:="walker"
noncomputable def aBc:Str:="pipeboard.memory"
noncomputable def bBj:Str:="holds"
noncomputable def aVv:Str:="need_aligned"
noncomputable def aVu:Str:="put_word"
noncomputable def aVt:Str:="keep"
noncomputable def bBi:Str:="half"
noncomputable def bBh:Str:="put_half"
noncomputable def aS8:Str:="octet"
noncomputable def bBg:Str:="put_octet"
noncomputable def bBf:Str:="put_part"
noncomputable def aVs:Str:="get"
noncomputable def aVr:Str:="zero"
noncomputable def bBe:Str:="fill"
noncomputable def bBd:Str:="copy"
noncomputable def bBc:Str:="used"
noncomputable def bBb:Str:="twin"
noncomputable def bBa:Str:="alike"
noncomputable def bGk:Str:="Memory.__init__"
noncomputable def bJx:Str:="Memory.holds"
noncomputable def bGj:Str:="Memory.need"
noncomputable def bGi:Str:="Memory.need_aligned"
noncomputable def bGh:Str:="Memory.word"
noncomputable def bGg:Str:="Memory.put_word"
noncomputable def bX2:Str:="index"
noncomputable def bGf:Str:="Memory.keep"
noncomputable def bJw:Str:="Memory.half"
noncomputable def bJv:Str:="Memory.put_half"
noncomputable def bJu:Str:="Memory.octet"
noncomputable def bJt:Str:="Memory.put_octet"
noncomputable def bX1:Str:="ones"
noncomputable def bJs:Str:="Memory.put_part"
noncomputable def bGe:Str:="Memory.get"
noncomputable def bJr:Str:="Memory.put"
noncomputable def aIw:Str:="turn"
noncomputable def bJq:Str:="Memory.load"
noncomputable def bJp:Str:="octets"
noncomputable def aS7:Str:="at"
noncomputable def bJo:Str:="Memory.store"
noncomputable def bGd:Str:="Memory.zero"
noncomputable def bJn:Str:="Memory.fill"
noncomputable def bX0:Str:="target"
noncomputable def bJm:Str:="Memory.copy"
noncomputable def bJl:Str:="Memory.used"
noncomputable def bJk:Str:="Memory.rows"
noncomputable def bJj:Str:="Memory.twin"
noncomputable def bJi:Str:="Memory.alike"
noncomputable def bJh:Str:="words"
noncomputable def bJg:Str:="Rom.__init__"
noncomputable def bJf:Str:="Rom.size"
noncomputable def bJe:Str:="Rom.load"
noncomputable def bJd:Str:="Rom.store"
noncomputable def bA9:Str:="attach"
noncomputable def aVq:Str:="stretch_at"
noncomputable def bA8:Str:="is_memory"
noncomputable def aLa:Str:="memory"
noncomputable def bGc:Str:="Bus.__init__"
noncomputable def bXz:Str:="device"
noncomputable def bJc:Str:="Bus.attach"
noncomputable def bGb:Str:="stretch"
noncomputable def bGa:Str:="Bus.stretch_at"
noncomputable def bF9:Str:="Bus.load"
noncomputable def bJb:Str:="Bus.store"
noncomputable def bF8:Str:="Bus.fetch"
noncomputable def bJa:Str:="Bus.is_memory"
noncomputable def bI9:Str:="stretches"
noncomputable def aB4:Str:="script"
noncomputable def aQ0:Str:="seed"
noncomputable def aQz:Str:="great"
noncomputable def aMa:Str:="cell"
noncomputable def aG1:Str:="box"
noncomputable def bXy:Str:="many"
noncomputable def bXx:Str:="digit"
noncomputable def bXw:Str:="mix"
noncomputable def bXv:Str:="way"
noncomputable def bXu:Str:="places"
noncomputable def bPw:Str:="word_of"
noncomputable def bXt:Str:="shut"
noncomputable def bPv:Str:="builtins"
noncomputable def bXs:Str:="__build_class__"
noncomputable def bXr:Str:="__import__"
noncomputable def aK9:Str:="abs"
noncomputable def bXq:Str:="all"
noncomputable def bXp:Str:="any"
noncomputable def bXo:Str:="ascii"
noncomputable def bXn:Str:="bin"
noncomputable def bXm:Str:="breakpoint"
noncomputable def bXl:Str:="callable"
noncomputable def bXk:Str:="chr"
noncomputable def bXj:Str:="compile"
noncomputable def bXi:Str:="delattr"
noncomputable def bXh:Str:="dir"
noncomputable def bXg:Str:="divmod"
noncomputable def bXf:Str:="eval"
noncomputable def bXe:Str:="exec"
noncomputable def bXd:Str:="format"
noncomputable def bXc:Str:="getattr"
noncomputable def bXb:Str:="globals"
noncomputable def bXa:Str:="hasattr"
noncomputable def bW9:Str:="hash"
noncomputable def bW8:Str:="hex"
noncomputable def bW7:Str:="id"
noncomputable def bW6:Str:="input"
noncomputable def bPu:Str:="isinstance"
noncomputable def bW5:Str:="issubclass"
noncomputable def bW4:Str:="iter"
noncomputable def bW3:Str:="aiter"
noncomputable def aVp:Str:="len"
noncomputable def bW2:Str:="locals"
noncomputable def bW1:Str:="max"
noncomputable def aVo:Str:="min"
noncomputable def bW0:Str:="next"
noncomputable def bWz:Str:="anext"
noncomputable def bWy:Str:="oct"
noncomputable def bWx:Str:="ord"
noncomputable def bWw:Str:="pow"
noncomputable def bWv:Str:="print"
noncomputable def bWu:Str:="repr"
noncomputable def bWt:Str:="round"
noncomputable def bWs:Str:="setattr"
noncomputable def bWr:Str:="sorted"
noncomputable def aPz:Str:="sum"
noncomputable def bWq:Str:="vars"
noncomputable def bWp:Str:="None"
noncomputable def bWo:Str:="Ellipsis"
noncomputable def bWn:Str:="NotImplemented"
noncomputable def bWm:Str:="False"
noncomputable def bWl:Str:="True"
noncomputable def bWk:Str:="bool"
noncomputable def bWj:Str:="memoryview"
noncomputable def bWi:Str:="bytearray"
noncomputable def bWh:Str:="bytes"
noncomputable def bWg:Str:="classmethod"
noncomputable def bWf:Str:="complex"
noncomputable def bWe:Str:="dict"
noncomputable def bWd:Str:="enumerate"
noncomputable def bWc:Str:="filter"
noncomputable def bWb:Str:="float"
noncomputable def bWa:Str:="frozenset"
noncomputable def bV9:Str:="property"
noncomputable def bPt:Str:="int"
noncomputable def bV8:Str:="list"
noncomputable def bV7:Str:="map"
noncomputable def bV6:Str:="object"
noncomputable def aVn:Str:="range"
noncomputable def bV5:Str:="reversed"
noncomputable def bV4:Str:="set"
noncomputable def bV3:Str:="slice"
noncomputable def bV2:Str:="staticmethod"
noncomputable def bV1:Str:="str"
noncomputable def bV0:Str:="super"
noncomputable def bVz:Str:="tuple"
noncomputable def bVy:Str:="type"
noncomputable def bVx:Str:="zip"
noncomputable def bVw:Str:="__debug__"
noncomputable def bVv:Str:="BaseException"
noncomputable def bVu:Str:="BaseExceptionGroup"
noncomputable def bVt:Str:="Exception"
noncomputable def bVs:Str:="GeneratorExit"
noncomputable def bVr:Str:="KeyboardInterrupt"
noncomputable def bVq:Str:="SystemExit"
noncomputable def bVp:Str:="ArithmeticError"
noncomputable def bVo:Str:="AssertionError"
noncomputable def bVn:Str:="AttributeError"
noncomputable def bVm:Str:="BufferError"
noncomputable def bVl:Str:="EOFError"
noncomputable def bVk:Str:="ImportError"
noncomputable def bVj:Str:="LookupError"
noncomputable def bVi:Str:="MemoryError"
noncomputable def bVh:Str:="NameError"
noncomputable def bVg:Str:="OSError"
noncomputable def bVf:Str:="ReferenceError"
noncomputable def bVe:Str:="RuntimeError"
noncomputable def bVd:Str:="StopAsyncIteration"
noncomputable def bVc:Str:="StopIteration"
noncomputable def bVb:Str:="SyntaxError"
noncomputable def bVa:Str:="SystemError"
noncomputable def bU9:Str:="TypeError"
noncomputable def bPs:Str:="ValueError"
noncomputable def bU8:Str:="Warning"
noncomputable def bU7:Str:="FloatingPointError"
noncomputable def bU6:Str:="OverflowError"
noncomputable def bU5:Str:="ZeroDivisionError"
noncomputable def bU4:Str:="BytesWarning"
noncomputable def bU3:Str:="DeprecationWarning"
noncomputable def bU2:Str:="EncodingWarning"
noncomputable def bU1:Str:="FutureWarning"
noncomputable def bU0:Str:="ImportWarning"
noncomputable def bUz:Str:="PendingDeprecationWarning"
noncomputable def bUy:Str:="ResourceWarning"
noncomputable def bUx:Str:="RuntimeWarning"
noncomputable def bUw:Str:="SyntaxWarning"
noncomputable def bUv:Str:="UnicodeWarning"
noncomputable def bUu:Str:="UserWarning"
noncomputable def bUt:Str:="BlockingIOError"
noncomputable def bUs:Str:="ChildProcessError"
noncomputable def bUr:Str:="ConnectionError"
noncomputable def bUq:Str:="FileExistsError"
noncomputable def bUp:Str:="FileNotFoundError"
noncomputable def bUo:Str:="InterruptedError"
noncomputable def bUn:Str:="IsADirectoryError"
noncomputable def bUm:Str:="NotADirectoryError"
noncomputable def bUl:Str:="PermissionError"
noncomputable def bUk:Str:="ProcessLookupError"
noncomputable def bUj:Str:="TimeoutError"
noncomputable def bUi:Str:="IndentationError"
noncomputable def bUh:Str:="_IncompleteInputError"
noncomputable def bUg:Str:="IndexError"
noncomputable def bUf:Str:="KeyError"
noncomputable def bUe:Str:="ModuleNotFoundError"
noncomputable def bUd:Str:="NotImplementedError"
noncomputable def bUc:Str:="PythonFinalizationError"
noncomputable def bUb:Str:="RecursionError"
noncomputable def bUa:Str:="UnboundLocalError"
noncomputable def bT9:Str:="UnicodeError"
noncomputable def bT8:Str:="BrokenPipeError"
noncomputable def bT7:Str:="ConnectionAbortedError"
noncomputable def bT6:Str:="ConnectionRefusedError"
noncomputable def bT5:Str:="ConnectionResetError"
noncomputable def bT4:Str:="TabError"
noncomputable def bT3:Str:="UnicodeDecodeError"
noncomputable def bT2:Str:="UnicodeEncodeError"
noncomputable def bT1:Str:="UnicodeTranslateError"
noncomputable def bT0:Str:="ExceptionGroup"
noncomputable def bTz:Str:="EnvironmentError"
noncomputable def bTy:Str:="IOError"
noncomputable def bTx:Str:="open"
noncomputable def bTw:Str:="quit"
noncomputable def bTv:Str:="exit"
noncomputable def bTu:Str:="copyright"
noncomputable def bTt:Str:="credits"
noncomputable def bTs:Str:="license"
noncomputable def bTr:Str:="help"
noncomputable def bTq:Str:="wanted"
noncomputable def bTp:Str:="goes"
noncomputable def bI8:Str:="fast"
noncomputable def bI7:Str:=".0"
end
noncomputable def y0:String:=PySem.W.SL.s2766695959194262286x5
noncomputable def y1:String:=PySem.W.SL.s14018661285674007319x4
noncomputable def y2:String:=PySem.W.SL.s7174869446012820540x8
noncomputable def y3:String:=PySem.W.SL.s5856160107412720595x4
noncomputable def y4:String:=PySem.W.SL.s658472552662922059x5
noncomputable def y5:String:=PySem.W.SL.s7097527257260152453x26
noncomputable def y6:String:=PySem.W.SL.s6070975301684473832x10
noncomputable def y7:String:=PySem.W.SL.s11030030927630378310x26
noncomputable def y8:String:=PySem.W.SL.s10062305145149207511x16
noncomputable def y9:String:=PySem.W.SL.s17162191345867700912x4
noncomputable def y10:String:=PySem.W.SL.s5946037652744460706x9
noncomputable def y11:String:=PySem.W.SL.s4278001404047624695x13
noncomputable def y12:String:=PySem.W.SL.s2742458400755230247x6
noncomputable def y13:String:=PySem.W.SL.s4209523147560561109x18
noncomputable def y14:String:=PySem.W.SL.s14755015743595814543x17
noncomputable def y15:String:=PySem.W.SL.s10220274742760427390x26
noncomputable def y16:String:=PySem.W.SL.s4290257624100764138x5
noncomputable def y17:String:=PySem.W.SL.s4860613602091757760x24
noncomputable def y18:String:=PySem.W.SL.s11443829558043349243x14
noncomputable def y19:String:=PySem.W.SL.s6511155373996960695x17
noncomputable def y20:String:=PySem.W.SL.s12411053484034534018x21
noncomputable def y21:String:=PySem.W.SL.s9222952809800978799x4
noncomputable def y22:String:=PySem.W.SL.s3492446563574874994x13
noncomputable def y23:String:=PySem.W.SL.s14340494229221121180x9
noncomputable def y24:String:=PySem.W.SL.s4096838299382398694x14
noncomputable def y25:String:=PySem.W.SL.s5991306692159431302x13
noncomputable def y26:String:=PySem.W.SL.s5752873746120287726x10
noncomputable def y27:String:=PySem.W.SL.s2783514499706994809x17
noncomputable def y28:String:="builtins.__doc__:str#opaque"
noncomputable def y29:String:="builtins.__package__:str#opaque"
noncomputable def y30:String:="builtins.__loader__:shared#opaque"
noncomputable def y31:String:=PySem.W.SL.s11665532747177232413x24
noncomputable def y32:String:=PySem.W.SL.s15183661809925369436x15
noncomputable def y33:String:=PySem.W.SL.s13915890719876406383x10
noncomputable def y34:String:=PySem.W.SL.s13459172003223722735x3
noncomputable def y35:String:=PySem.W.SL.s10557405761357834076x3
noncomputable def y36:String:=PySem.W.SL.s4233737765568776869x3
noncomputable def y37:String:=PySem.W.SL.s2508922471967985374x5
noncomputable def y38:String:=PySem.W.SL.s15574269061696679450x3
noncomputable def y39:String:=PySem.W.SL.s6016482663378992977x10
noncomputable def y40:String:=PySem.W.SL.s5596568736180474577x8
noncomputable def y41:String:=PySem.W.SL.s2839554839881490554x3
noncomputable def y42:String:=PySem.W.SL.s725004073602090463x7
noncomputable def y43:String:=PySem.W.SL.s9436932552931045734x7
noncomputable def y44:String:=PySem.W.SL.s2754603736356183583x3
noncomputable def y45:String:=PySem.W.SL.s15185746759980889043x6
noncomputable def y46:String:=PySem.W.SL.s8192189862530294059x4
noncomputable def y47:String:=PySem.W.SL.s7038307821325472102x4
noncomputable def y48:String:=PySem.W.SL.s5662562618415449548x6
noncomputable def y49:String:=PySem.W.SL.s15281542589158584767x7
noncomputable def y50:String:=PySem.W.SL.s17651547275483570877x7
noncomputable def y51:String:=PySem.W.SL.s4036449017235975746x7
noncomputable def y52:String:=PySem.W.SL.s8879979712987360175x4
noncomputable def y53:String:=PySem.W.SL.s1801250619170735830x3
noncomputable def y54:String:=PySem.W.SL.s17659931425627118568x2
noncomputable def y55:String:=PySem.W.SL.s6063217899685152688x5
noncomputable def y56:String:=PySem.W.SL.s8008927332132565319x10
noncomputable def y57:String:=PySem.W.SL.s3544116645089599534x10
noncomputable def y58:String:=PySem.W.SL.s13761710972054866084x4
noncomputable def y59:String:=PySem.W.SL.s12896375587409280029x5
noncomputable def y60:String:=PySem.W.SL.s13014049009108672802x3
noncomputable def y61:String:=PySem.W.SL.s13935586738268321596x6
noncomputable def y62:String:=PySem.W.SL.s8200498257699607233x3
noncomputable def y63:String:=PySem.W.SL.s14114244577727609259x3
noncomputable def y64:String:=PySem.W.SL.s1499430450269397089x4
noncomputable def y65:String:=PySem.W.SL.s8755793994789770505x5
noncomputable def y66:String:=PySem.W.SL.s15725212667919936108x3
noncomputable def y67:String:=PySem.W.SL.s15791221867095933363x3
noncomputable def y68:String:=PySem.W.SL.s81309575031448614x3
noncomputable def y69:String:=PySem.W.SL.s8069831620301644142x5
noncomputable def y70:String:=PySem.W.SL.s10061844253413749634x4
noncomputable def y71:String:=PySem.W.SL.s9496514870978017513x5
noncomputable def y72:String:=PySem.W.SL.s8899691144933366716x7
noncomputable def y73:String:=PySem.W.SL.s15201008993051130160x6
noncomputable def y74:String:=PySem.W.SL.s741896355592496720x3
noncomputable def y75:String:=PySem.W.SL.s17925004256654032244x4
noncomputable def y76:String:=PySem.W.SL.s11695548795398191787x4
noncomputable def y77:String:=PySem.W.SL.s4156966113859768872x10
noncomputable def y78:String:=PySem.W.SL.s9501651726347032510x9
noncomputable def y79:String:=PySem.W.SL.s15722918466584999320x5
noncomputable def y80:String:=PySem.W.SL.s591115383303110208x11
noncomputable def y81:String:=PySem.W.SL.s15721156781594690315x7
noncomputable def y82:String:=PySem.W.SL.s13429844117177748173x6
noncomputable def y83:String:=PySem.W.SL.s16463266125957815391x5
noncomputable def y84:String:=PySem.W.SL.s4922535414793169389x9
noncomputable def y85:String:=PySem.W.SL.s8101838861749082086x8
noncomputable def y86:String:=PySem.W.SL.s7066276694103001551x3
noncomputable def y87:String:=PySem.W.SL.s462964344163437139x3
noncomputable def y88:String:=PySem.W.SL.s1438033511350832697x5
noncomputable def y89:String:=PySem.W.SL.s14365286008749172514x8
noncomputable def y90:String:=PySem.W.SL.s3642769012341782148x3
noncomputable def y91:String:=PySem.W.SL.s4674234679698826739x5
noncomputable def y92:String:=PySem.W.SL.s16656946322747308186x12
noncomputable def y93:String:=PySem.W.SL.s10796804682411823810x3
noncomputable def y94:String:=PySem.W.SL.s14339709457334898076x3
noncomputable def y95:String:=PySem.W.SL.s6585700554429387442x18
noncomputable def y96:String:=PySem.W.SL.s7410770068591931388x13
noncomputable def y97:String:=PySem.W.SL.s11817881795495490833x17
noncomputable def y98:String:=PySem.W.SL.s15679963881808890155x10
noncomputable def y99:String:=PySem.W.SL.s3871700062485845797x15
noncomputable def bTg:String:=PySem.W.SL.s7689518266570723881x14
noncomputable def bTf:String:=PySem.W.SL.s9001593270443806431x14
noncomputable def bTe:String:=PySem.W.SL.s6882542574934516792x11
noncomputable def bTd:String:=PySem.W.SL.s14403400214490484960x8
noncomputable def bTc:String:=PySem.W.SL.s14457978657717015782x11
noncomputable def bTb:String:=PySem.W.SL.s1753610191782819921x11
noncomputable def bTa:String:=PySem.W.SL.s14119380538032626715x11
noncomputable def bS9:String:=PySem.W.SL.s11437920000406562045x9
noncomputable def bIj:String:=PySem.W.SL.s10852414792293593619x7
noncomputable def bS8:String:=PySem.W.SL.s14816307405966870543x14
noncomputable def bS7:String:=PySem.W.SL.s8682627914449686677x12
noncomputable def bS6:String:=PySem.W.SL.s4428170145600203450x18
noncomputable def bS5:String:=PySem.W.SL.s16067994140765818257x11
noncomputable def bS4:String:=PySem.W.SL.s2327743974964600596x11
noncomputable def bS3:String:=PySem.W.SL.s2804747833354056582x9
noncomputable def bS2:String:=PySem.W.SL.s14270485950484850486x7
noncomputable def bS1:String:=PySem.W.SL.s12041534306414923332x18
noncomputable def bS0:String:=PySem.W.SL.s2531307568338490285x13
noncomputable def bSz:String:=PySem.W.SL.s631175304937289666x17
noncomputable def bSy:String:=PySem.W.SL.s5144983644357021410x12
noncomputable def bSx:String:=PySem.W.SL.s18039099521571816885x18
noncomputable def bSw:String:=PySem.W.SL.s6011586214260557989x15
noncomputable def bSv:String:=PySem.W.SL.s5430567037509283100x13
noncomputable def bSu:String:=PySem.W.SL.s8117915138073963741x13
noncomputable def bSt:String:=PySem.W.SL.s3423317712779056401x25
noncomputable def bSs:String:=PySem.W.SL.s2007317383269046180x15
noncomputable def bSr:String:=PySem.W.SL.s17481586968713580700x14
noncomputable def bSq:String:=PySem.W.SL.s2450899226349176912x13
noncomputable def bSp:String:=PySem.W.SL.s16626165730633575011x14
noncomputable def bSo:String:=PySem.W.SL.s14288496050688921416x11
noncomputable def bSn:String:=PySem.W.SL.s5735081916595925998x15
noncomputable def bSm:String:=PySem.W.SL.s3865607918536308442x17
noncomputable def bSl:String:=PySem.W.SL.s13337502604062700212x15
noncomputable def bSk:String:=PySem.W.SL.s13114017843053701147x15
noncomputable def bSj:String:=PySem.W.SL.s17467278006356818441x17
noncomputable def bSi:String:=PySem.W.SL.s17722149559621369488x16
noncomputable def bSh:String:=PySem.W.SL.s7855274175708717672x17
noncomputable def bSg:String:=PySem.W.SL.s13351283678309829046x18
noncomputable def bSf:String:=PySem.W.SL.s6668348653404991179x15
noncomputable def bSe:String:=PySem.W.SL.s12913350958174193794x18
noncomputable def bSd:String:=PySem.W.SL.s16115879512475548326x12
noncomputable def bSc:String:=PySem.W.SL.s15920661018069861047x16
noncomputable def bSb:String:=PySem.W.SL.s10779130036587390575x21
noncomputable def bSa:String:=PySem.W.SL.s7801419657504700863x10
noncomputable def bR9:String:=PySem.W.SL.s1688129525768580628x8
noncomputable def bR8:String:=PySem.W.SL.s1031832959479892071x19
noncomputable def bR7:String:=PySem.W.SL.s8991790508128307865x19
noncomputable def bR6:String:=PySem.W.SL.s14539662485746970245x23
noncomputable def bR5:String:=PySem.W.SL.s11643622729373238714x14
noncomputable def bR4:String:=PySem.W.SL.s3386828779285465597x17
noncomputable def bR3:String:=PySem.W.SL.s13042696260734638735x12
noncomputable def bR2:String:=PySem.W.SL.s18239426817015966623x15
noncomputable def bR1:String:=PySem.W.SL.s1270395311379034370x22
noncomputable def bR0:String:=PySem.W.SL.s10696252587037064777x22
noncomputable def bRz:String:=PySem.W.SL.s7852717498200857586x20
noncomputable def bRy:String:=PySem.W.SL.s6377248116197321094x8
noncomputable def bRx:String:=PySem.W.SL.s3834378056692298002x18
noncomputable def bRw:String:=PySem.W.SL.s17586630440231065808x18
noncomputable def bRv:String:=PySem.W.SL.s15234114252648025395x21
noncomputable def bRu:String:=PySem.W.SL.s8496462677383758984x14
noncomputable def bRt:String:=PySem.W.SL.s16789243406116112673x4
noncomputable def bRs:String:=PySem.W.SL.s14400166428656793546x20
noncomputable def bRr:String:=PySem.W.SL.s5857708277339239366x20
noncomputable def bRq:String:=PySem.W.S.litE [PySem.W.S.mk8 98 rfl,PySem.W.S.mk8 117 rfl,PySem.W.S.mk8 105 rfl,PySem.W.S.mk8 108 rfl,PySem.W.S.mk8 116 rfl,PySem.W.S.mk8 105 rfl,PySem.W.S.mk8 110 rfl,PySem.W.S.mk8 115 rfl,PySem.W.S.mk8 46 rfl,PySem.W.S.mk8 99 rfl,PySem.W.S.mk8 111 rfl,PySem.W.S.mk8 112 rfl,PySem.W.S.mk8 121 rfl,PySem.W.S.mk8 114 rfl,PySem.W.S.mk8 105 rfl,PySem.W.S.mk8 103 rfl,PySem.W.S.mk8 104 rfl,PySem.W.S.mk8 116 rfl,PySem.W.S.mk8 35 rfl,PySem.W.S.mk8 111 rfl,PySem.W.S.mk8 112 rfl,PySem.W.S.mk8 97 rfl,PySem.W.S.mk8 113 rfl,PySem.W.S.mk8 117 rfl,PySem.W.S.mk8 101 rfl] [98,117,105,108,116,105,110,115,46,99,111,112,121,114,105,103,104,116,35,111,112,97,113,117,101] rfl rfl
noncomputable def bRp:String:=PySem.W.S.litE [PySem.W.S.mk8 98 rfl,PySem.W.S.mk8 117 rfl,PySem.W.S.mk8 105 rfl,PySem.W.S.mk8 108 rfl,PySem.W.S.mk8 116 rfl,PySem.W.S.mk8 105 rfl,PySem.W.S.mk8 110 rfl,PySem.W.S.mk8 115 rfl,PySem.W.S.mk8 46 rfl,PySem.W.S.mk8 99 rfl,PySem.W.S.mk8 114 rfl,PySem.W.S.mk8 101 rfl,PySem.W.S.mk8 100 rfl,PySem.W.S.mk8 105 rfl,PySem.W.S.mk8 116 rfl,PySem.W.S.mk8 115 rfl,PySem.W.S.mk8 35 rfl,PySem.W.S.mk8 111 rfl,PySem.W.S.mk8 112 rfl,PySem.W.S.mk8 97 rfl,PySem.W.S.mk8 113 rfl,PySem.W.S.mk8 117 rfl,PySem.W.S.mk8 101 rfl] [98,117,105,108,116,105,110,115,46,99,114,101,100,105,116,115,35,111,112,97,113,117,101] rfl rfl
noncomputable def bRo:String:=PySem.W.S.litE [PySem.W.S.mk8 98 rfl,PySem.W.S.mk8 117 rfl,PySem.W.S.mk8 105 rfl,PySem.W.S.mk8 108 rfl,PySem.W.S.mk8 116 rfl,PySem.W.S.mk8 105 rfl,PySem.W.S.mk8 110 rfl,PySem.W.S.mk8 115 rfl,PySem.W.S.mk8 46 rfl,PySem.W.S.mk8 108 rfl,PySem.W.S.mk8 105 rfl,PySem.W.S.mk8 99 rfl,PySem.W.S.mk8 101 rfl,PySem.W.S.mk8 110 rfl,PySem.W.S.mk8 115 rfl,PySem.W.S.mk8 101 rfl,PySem.W.S.mk8 35 rfl,PySem.W.S.mk8 111 rfl,PySem.W.S.mk8 112 rfl,PySem.W.S.mk8 97 rfl,PySem.W.S.mk8 113 rfl,PySem.W.S.mk8 117 rfl,PySem.W.S.mk8 101 rfl] [98,117,105,108,116,105,110,115,46,108,105,99,101,110,115,101,35,111,112,97,113,117,101] rfl rfl
noncomputable def bRn:String:=PySem.W.SL.s7804999707787243718x20
noncomputable def bPh:String:=PySem.W.SL.s6658869562736209489x6
noncomputable def sV(a:Str)(t:Nat):Value:=.str a t
noncomputable def rV(a:Nat):Value:=.ref a
noncomputable def cV(a:Nat):Value:=.int (.ofNat a) 0
noncomputable def oV(v:Value):Option Value:=some v
noncomputable def tU(l:List Value):Obj:=⟨.type y0,none,.seq ⟨l⟩ 0,⟨[]⟩⟩
noncomputable def dV(y:String)(l:List DictEntry)(n:Nat):Obj:=⟨.type y,none,.dict ⟨l⟩ n,⟨[]⟩⟩
noncomputable def nV(l:List Value):Obj:=⟨.none,none,.fields ⟨l⟩,⟨[]⟩⟩
noncomputable def fV(y:String)(l:List Value):Obj:=⟨.type y,none,.fields ⟨l⟩,⟨[]⟩⟩
noncomputable def uV(a b:Str)(s:Stmt):Obj:=⟨.none,none,.func ⟨a,b,fdP s,.stmts (fdB s),fdS s,0,[],.none,.none,.none,.none,none,.none,.none,0⟩,⟨[]⟩⟩
noncomputable def kV(a b:Str)(s:Stmt)(d:Value)(m:Str)(t c:Nat):Obj:=⟨.type y2,none,.func ⟨a,b,fdP s,.stmts (fdB s),fdS s,3,[],d,.none,.none,.str m t,none,.ref c,.none,0⟩,⟨[]⟩⟩
noncomputable def apL(a b:List (Nat×Obj)):List (Nat×Obj):=PySem.W.R.appendR a b
section
local macro_rules | `($n:num) => `(nat_lit $n)
noncomputable def btL(P:Params):List Obj:=[
dV y1 [eK P q3 1 (sV bPv 160),eK P q5 2 (.builtin y28),eK P q6 3 (.builtin y29),eK P q7 4 (.builtin y30),eK P q8 5 (.builtin y31),eK P bXs 6 (.builtin y32),eK P bXr 7 (.builtin y33),eK P aK9 8 (.builtin y34),eK P bXq 9 (.builtin y35),eK P bXp 10 (.builtin y36),eK P bXo 11 (.builtin y37),eK P bXn 12 (.builtin y38),eK P bXm 13 (.builtin y39),eK P bXl 14 (.builtin y40),eK P bXk 15 (.builtin y41),eK P bXj 16 (.builtin y42),eK P bXi 17 (.builtin y43),eK P bXh 18 (.builtin y44),eK P bXg 19 (.builtin y45),eK P bXf 20 (.builtin y46),eK P bXe 21 (.builtin y47),eK P bXd 22 (.builtin y48),eK P bXc 23 (.builtin y49),eK P bXb 24 (.builtin y50),eK P bXa 25 (.builtin y51),eK P bW9 26 (.builtin y52),eK P bW8 27 (.builtin y53),eK P bW7 28 (.builtin y54),eK P bW6 29 (.builtin y55),eK P bPu 30 (.builtin y56),eK P bW5 31 (.builtin y57),eK P bW4 32 (.builtin y58),eK P bW3 33 (.builtin y59),eK P aVp 34 (.builtin y60),eK P bW2 35 (.builtin y61),eK P bW1 36 (.builtin y62),eK P aVo 37 (.builtin y63),eK P bW0 38 (.builtin y64),eK P bWz 39 (.builtin y65),eK P bWy 40 (.builtin y66),eK P bWx 41 (.builtin y67),eK P bWw 42 (.builtin y68),eK P bWv 43 (.builtin y69),eK P bWu 44 (.builtin y70),eK P bWt 45 (.builtin y71),eK P bWs 46 (.builtin y72),eK P bWr 47 (.builtin y73),eK P aPz 48 (.builtin y74),eK P bWq 49 (.builtin y75),eK P bWp 50 .none,eK P bWo 51 (.ellipsis),eK P bWn 52 (.notImplemented),eK P bWm 53 (.bool false),eK P bWl 54 (.bool true),eK P bWk 55 (.type y76),eK P bWj 56 (.type y77),eK P bWi 57 (.type y78),eK P bWh 58 (.type y79),eK P bWg 59 (.type y80),eK P bWf 60 (.type y81),eK P bWe 61 (.type y1),eK P bWd 62 (.type y23),eK P bWc 63 (.type y82),eK P bWb 64 (.type y83),eK P bWa 65 (.type y84),eK P bV9 66 (.type y85),eK P bPt 67 (.type y86),eK P bV8 68 (.type y21),eK P bV7 69 (.type y87),eK P bV6 70 (.type y12),eK P aVn 71 (.type y88),eK P bV5 72 (.type y89),eK P bV4 73 (.type y90),eK P bV3 74 (.type y91),eK P bV2 75 (.type y92),eK P bV1 76 (.type y93),eK P bV0 77 (.type y16),eK P bVz 78 (.type y0),eK P bVy 79 (.type y9),eK P bVx 80 (.type y94),eK P bVw 81 (.bool true),eK P bVv 82 (.type y11),eK P bVu 83 (.type y95),eK P bVt 84 (.type y10),eK P bVs 85 (.type y96),eK P bVr 86 (.type y97),eK P bVq 87 (.type y98),eK P bVp 88 (.type y99),eK P bVo 89 (.type bTg),eK P bVn 90 (.type bTf),eK P bVm 91 (.type bTe),eK P bVl 92 (.type bTd),eK P bVk 93 (.type bTc),eK P bVj 94 (.type bTb),eK P bVi 95 (.type bTa),eK P bVh 96 (.type bS9),eK P bVg 97 (.type bIj),eK P bVf 98 (.type bS8),eK P bVe 99 (.type bS7),eK P bVd 100 (.type bS6),eK P bVc 101 (.type y25),eK P bVb 102 (.type bS5),eK P bVa 103 (.type bS4),eK P bU9 104 (.type bS3),eK P bPs 105 (.type y6),eK P bU8 106 (.type bS2),eK P bU7 107 (.type bS1),eK P bU6 108 (.type bS0),eK P bU5 109 (.type bSz),eK P bU4 110 (.type bSy),eK P bU3 111 (.type bSx),eK P bU2 112 (.type bSw),eK P bU1 113 (.type bSv),eK P bU0 114 (.type bSu),eK P bUz 115 (.type bSt),eK P bUy 116 (.type bSs),eK P bUx 117 (.type bSr),eK P bUw 118 (.type bSq),eK P bUv 119 (.type bSp),eK P bUu 120 (.type bSo),eK P bUt 121 (.type bSn),eK P bUs 122 (.type bSm),eK P bUr 123 (.type bSl),eK P bUq 124 (.type bSk),eK P bUp 125 (.type bSj),eK P bUo 126 (.type bSi),eK P bUn 127 (.type bSh),eK P bUm 128 (.type bSg),eK P bUl 129 (.type bSf),eK P bUk 130 (.type bSe),eK P bUj 131 (.type bSd),eK P bUi 132 (.type bSc),eK P bUh 133 (.type bSb),eK P bUg 134 (.type bSa),eK P bUf 135 (.type bR9),eK P bUe 136 (.type bR8),eK P bUd 137 (.type bR7),eK P bUc 138 (.type bR6),eK P bUb 139 (.type bR5),eK P bUa 140 (.type bR4),eK P bT9 141 (.type bR3),eK P bT8 142 (.type bR2),eK P bT7 143 (.type bR1),eK P bT6 144 (.type bR0),eK P bT5 145 (.type bRz),eK P bT4 146 (.type bRy),eK P bT3 147 (.type bRx),eK P bT2 148 (.type bRw),eK P bT1 149 (.type bRv),eK P bT0 150 (.type bRu),eK P bTz 151 (.type bIj),eK P bTy 152 (.type bIj),eK P bTx 153 (.builtin bRt),eK P bTw 154 (.builtin bRs),eK P bTv 155 (.builtin bRr),eK P bTu 156 (.builtin bRq),eK P bTt 157 (.builtin bRp),eK P bTs 158 (.builtin bRo),eK P bTr 159 (.builtin bRn)] 159,
dV y1 [eK P bPv 162 (rV 4),eK P q2 163 (rV 5)] 2,
⟨.none,none,.dict ⟨[]⟩ 0,⟨[]⟩⟩,
dV y1 [eK P q3 165 (sV q2 164),eK P q5 166 .none,eK P q6 167 .none,eK P q7 168 (.builtin y5),eK P q8 169 .none,eK P q9 170 (rV 6),eK P q10 171 (rV 4),eK P q11 173 (sV q1 172),eK P q12 174 .none] 9,
⟨.type bPh,(some 0),.plain,⟨[]⟩⟩,
⟨.type bPh,(some 3),.plain,⟨[]⟩⟩,
dV y1 [] 0,
tU [],
nV [],
fV y3 [sV q0 176,sV q0 177,sV q1 178,cV 1,cV 0,cV 0,cV 0,cV 0,rV 7,.bool false,cV 175,rV 8,.none,.none,.none,.none,cV 179,cV 1,sV q1 180],
⟨.type y4,none,.plain,⟨[(oV (rV 9)),(oV (rV 3)),(oV (rV 3)),none,(oV (sV q2 164)),none,(oV (rV 0))]⟩⟩]
noncomputable def btH(P:Params):Heap:=⟨⟨btL P⟩,aBn⟩
noncomputable def aCm(P:Params):BT:=aT9 .nil 0 (btL P)
noncomputable def cBl(p:Program)(P:Params):List (Nat×Obj):=[
(11,tU []),
(12,nV []),
(13,fV y3 [sV q0 182,sV q0 183,sV q1 184,cV 1,cV 0,cV 0,cV 0,cV 0,rV 11,.bool false,cV 181,rV 12,.none,.none,.none,.none,cV 185,cV 1,sV q1 186]),
(14,⟨.type y4,none,.plain,⟨[(oV (rV 13)),(oV (rV 3)),(oV (rV 3)),none,(oV (sV q2 164)),none,(oV (rV 0))]⟩⟩)]
noncomputable def D0(p:Program)(P:Params):List (Nat×Obj):=cBl p P
noncomputable def T0(p:Program)(P:Params):BT:=aC9 (aCm P) (D0 p P)
noncomputable def S0(p:Program)(w:World)(os:OsState):SharedT:=⟨T0 p w.params,15,aBn,#[],boot_drawn,187,os⟩
noncomputable def cBk(p:Program)(P:Params):List (Nat×Obj):=[
(3,dV y1 [eK P q3 165 (sV q4 346),eK P q5 166 .none,eK P q6 167 .none,eK P q7 168 (.builtin y5),eK P q8 169 .none,eK P q9 170 (rV 6),eK P q10 171 (rV 4),eK P q11 173 (sV q1 172),eK P q12 174 .none,eK P q13 193 (rV 21),eK P q14 223 (rV 39),eK P q15 239 (rV 52),eK P q16 264 (rV 71),eK P q17 289 (rV 90),eK P q18 345 (rV 110),eK P q19 456 (rV 113),eK P q20 458 (z 3 457),eK P q21 460 (z 15 459),eK P q22 462 (z 19 461),eK P q23 464 (z 23 463),eK P q24 466 (z 35 465),eK P q25 468 (z 51 467),eK P q26 470 (z 55 469),eK P q27 472 (z 99 471),eK P q28 474 (z 103 473),eK P q29 476 (z 111 475),eK P q30 478 (z 115 477),eK P q31 529 (rV 140),eK P q32 575 (rV 169),eK P q33 589 (rV 181),eK P q34 598 (rV 188)] 31),
(12,nV [cV 1,cV 0,rV 20,cV 5,cV 0,rV 27,cV 10,cV 0,rV 48,cV 12,cV 0,rV 60,cV 17,cV 0,rV 79,cV 22,cV 0,rV 98,cV 55,cV 0,rV 121,cV 67,cV 0,rV 150,cV 78,cV 0,rV 180,cV 84,cV 0,rV 187]),
(15,tU []),
(16,nV []),
(17,tU [sV q35 190]),
(18,tU []),
(19,uV q13 q13 (F p 0)),
(20,fV y3 [sV q13 187,sV q13 188,sV q1 189,cV 1,cV 1,cV 0,cV 0,cV 3,rV 15,.bool true,cV 181,rV 16,.none,rV 17,rV 18,rV 19,cV 191,cV 1,sV q1 192]),
(21,kV q13 q13 (F p 0) .none q2 164 20),
(22,tU [.type y6]),
(23,fV y7 [.builtin y8,.type y9]),
(24,dV y1 [eK P q36 203 (sV q37 194),eK P q38 205 (sV q14 204),eK P q39 207 (z 5 206),eK P q40 216 (rV 36),eK P q41 218 (rV 37)] 5),
(25,tU []),
(26,nV [cV 7,cV 4,rV 35]),
(27,fV y3 [sV q14 198,sV q14 199,sV q1 200,cV 5,cV 0,cV 0,cV 0,cV 0,rV 25,.bool false,cV 181,rV 26,.none,.none,.none,.none,cV 201,cV 5,sV q1 202]),
(28,⟨.type y4,none,.plain,⟨[(oV (rV 27)),(oV (rV 3)),(oV (rV 24)),none,(oV (sV q37 194)),none,(oV (rV 0))]⟩⟩),
(29,tU [sV q42 208]),
(30,tU []),
(31,nV []),
(32,tU [sV q43 212,sV q44 213]),
(33,tU []),
(34,uV q40 q45 (M p 2 0)),
(35,fV y3 [sV q40 209,sV q45 210,sV q1 211,cV 7,cV 2,cV 0,cV 0,cV 3,rV 30,.bool true,cV 181,rV 31,.none,rV 32,rV 33,rV 34,cV 214,cV 7,sV q1 215]),
(36,kV q40 q45 (M p 2 0) (rV 29) q37 194 35),
(37,tU [sV q44 217]),
(38,dV y1 [eK P q36 203 (sV q37 194),eK P q39 207 (z 5 206),eK P q40 216 (rV 36),eK P q41 218 (rV 37),eK P q46 220 (rV 40),eK P q5 221 .none] 3),
(39,⟨.type y9,none,.cls ⟨q14,[.type y6],[rV 39,.type y6,.type y10,.type y11,.type y12],38,q14,true,[],[rV 52,rV 71,rV 90,rV 110],false,none,false⟩,⟨[(oV (rV 22)),none,(oV (sV q14 196)),(oV (sV q14 204)),(oV (.builtin y13)),(oV (.bool true))]⟩⟩),
(40,fV y14 [sV q46 219,rV 39,.builtin y15,.none]),
(41,fV y16 [rV 39,rV 39,rV 39]),
(42,fV y7 [.builtin y17,rV 39]),
(43,tU [rV 39]),
(44,fV y7 [.builtin y8,.type y9]),
(45,dV y1 [eK P q36 231 (sV q37 194),eK P q38 233 (sV q15 232),eK P q39 235 (z 10 234),eK P q41 236 (rV 50)] 4),
(46,tU []),
(47,nV []),
(48,fV y3 [sV q15 226,sV q15 227,sV q1 228,cV 10,cV 0,cV 0,cV 0,cV 0,rV 46,.bool false,cV 181,rV 47,.none,.none,.none,.none,cV 229,cV 10,sV q1 230]),
(49,⟨.type y4,none,.plain,⟨[(oV (rV 48)),(oV (rV 3)),(oV (rV 45)),none,(oV (sV q37 194)),none,(oV (rV 0))]⟩⟩),
(50,tU []),
(51,dV y1 [eK P q36 231 (sV q37 194),eK P q39 235 (z 10 234),eK P q41 236 (rV 50),eK P q5 237 .none] 2),
(52,⟨.type y9,none,.cls ⟨q15,[rV 39],[rV 52,rV 39,.type y6,.type y10,.type y11,.type y12],51,q15,true,[],[],false,none,false⟩,⟨[(oV (rV 43)),none,(oV (sV q15 224)),(oV (sV q15 232)),(oV (.builtin y13)),(oV (.bool true))]⟩⟩),
(53,fV y16 [rV 52,rV 52,rV 52]),
(54,fV y7 [.builtin y17,rV 52]),
(55,tU [rV 39]),
(56,fV y7 [.builtin y8,.type y9]),
(57,dV y1 [eK P q36 247 (sV q37 194),eK P q38 249 (sV q16 248),eK P q39 251 (z 12 250),eK P q40 259 (rV 68),eK P q41 261 (rV 69)] 5),
(58,tU []),
(59,nV [cV 14,cV 4,rV 67]),
(60,fV y3 [sV q16 242,sV q16 243,sV q1 244,cV 12,cV 0,cV 0,cV 0,cV 0,rV 58,.bool false,cV 181,rV 59,.none,.none,.none,.none,cV 245,cV 12,sV q1 246]),
(61,⟨.type y4,none,.plain,⟨[(oV (rV 60)),(oV (rV 3)),(oV (rV 57)),none,(oV (sV q37 194)),none,(oV (rV 0))]⟩⟩),
(62,tU []),
(63,nV []),
(64,tU [sV q43 255,sV q47 256]),
(65,tU []),
(66,uV q40 q48 (M p 4 0)),
(67,fV y3 [sV q40 252,sV q48 253,sV q1 254,cV 14,cV 2,cV 0,cV 0,cV 3,rV 62,.bool true,cV 181,rV 63,.none,rV 64,rV 65,rV 66,cV 257,cV 14,sV q1 258]),
(68,kV q40 q48 (M p 4 0) .none q37 194 67),
(69,tU [sV q47 260]),
(70,dV y1 [eK P q36 247 (sV q37 194),eK P q39 251 (z 12 250),eK P q40 259 (rV 68),eK P q41 261 (rV 69),eK P q5 262 .none] 2),
(71,⟨.type y9,none,.cls ⟨q16,[rV 39],[rV 71,rV 39,.type y6,.type y10,.type y11,.type y12],70,q16,true,[],[],false,none,false⟩,⟨[(oV (rV 55)),none,(oV (sV q16 240)),(oV (sV q16 248)),(oV (.builtin y13)),(oV (.bool true))]⟩⟩),
(72,fV y16 [rV 71,rV 71,rV 71])]
noncomputable def cBj(p:Program)(P:Params):List (Nat×Obj):=[
(73,fV y7 [.builtin y17,rV 71]),
(74,tU [rV 39]),
(75,fV y7 [.builtin y8,.type y9]),
(76,dV y1 [eK P q36 272 (sV q37 194),eK P q38 274 (sV q17 273),eK P q39 276 (z 17 275),eK P q40 284 (rV 87),eK P q41 286 (rV 88)] 5),
(77,tU []),
(78,nV [cV 19,cV 4,rV 86]),
(79,fV y3 [sV q17 267,sV q17 268,sV q1 269,cV 17,cV 0,cV 0,cV 0,cV 0,rV 77,.bool false,cV 181,rV 78,.none,.none,.none,.none,cV 270,cV 17,sV q1 271]),
(80,⟨.type y4,none,.plain,⟨[(oV (rV 79)),(oV (rV 3)),(oV (rV 76)),none,(oV (sV q37 194)),none,(oV (rV 0))]⟩⟩),
(81,tU []),
(82,nV []),
(83,tU [sV q43 280,sV q49 281]),
(84,tU []),
(85,uV q40 q50 (M p 5 0)),
(86,fV y3 [sV q40 277,sV q50 278,sV q1 279,cV 19,cV 2,cV 0,cV 0,cV 3,rV 81,.bool true,cV 181,rV 82,.none,rV 83,rV 84,rV 85,cV 282,cV 19,sV q1 283]),
(87,kV q40 q50 (M p 5 0) .none q37 194 86),
(88,tU [sV q49 285]),
(89,dV y1 [eK P q36 272 (sV q37 194),eK P q39 276 (z 17 275),eK P q40 284 (rV 87),eK P q41 286 (rV 88),eK P q5 287 .none] 2),
(90,⟨.type y9,none,.cls ⟨q17,[rV 39],[rV 90,rV 39,.type y6,.type y10,.type y11,.type y12],89,q17,true,[],[],false,none,false⟩,⟨[(oV (rV 74)),none,(oV (sV q17 265)),(oV (sV q17 273)),(oV (.builtin y13)),(oV (.bool true))]⟩⟩),
(91,fV y16 [rV 90,rV 90,rV 90]),
(92,fV y7 [.builtin y17,rV 90]),
(93,tU [rV 39]),
(94,fV y7 [.builtin y8,.type y9]),
(95,dV y1 [eK P q36 297 (sV q37 194),eK P q38 299 (sV q18 298),eK P q39 301 (z 22 300),eK P q51 303 (z 0 302),eK P q52 305 (z 1 304),eK P q53 307 (z 2 306),eK P q54 309 (z 3 308),eK P q55 311 (z 4 310),eK P q56 313 (z 5 312),eK P q57 315 (z 6 314),eK P q58 317 (z 7 316),eK P q59 319 (z 8 318),eK P q60 321 (z 9 320),eK P q61 323 (z 11 322),eK P q62 325 (z 12 324),eK P q63 327 (z 13 326),eK P q64 329 (z 15 328),eK P q40 339 (rV 107),eK P q41 342 (rV 108)] 19),
(96,tU []),
(97,nV [cV 38,cV 4,rV 106]),
(98,fV y3 [sV q18 292,sV q18 293,sV q1 294,cV 22,cV 0,cV 0,cV 0,cV 0,rV 96,.bool false,cV 181,rV 97,.none,.none,.none,.none,cV 295,cV 22,sV q1 296]),
(99,⟨.type y4,none,.plain,⟨[(oV (rV 98)),(oV (rV 3)),(oV (rV 95)),none,(oV (sV q37 194)),none,(oV (rV 0))]⟩⟩),
(100,tU [z 0 330]),
(101,tU []),
(102,nV []),
(103,tU [sV q43 334,sV q65 335,sV q66 336]),
(104,tU []),
(105,uV q40 q67 (M p 6 14)),
(106,fV y3 [sV q40 331,sV q67 332,sV q1 333,cV 38,cV 3,cV 0,cV 0,cV 3,rV 101,.bool true,cV 181,rV 102,.none,rV 103,rV 104,rV 105,cV 337,cV 38,sV q1 338]),
(107,kV q40 q67 (M p 6 14) (rV 100) q37 194 106),
(108,tU [sV q65 340,sV q66 341]),
(109,dV y1 [eK P q36 297 (sV q37 194),eK P q39 301 (z 22 300),eK P q51 303 (z 0 302),eK P q52 305 (z 1 304),eK P q53 307 (z 2 306),eK P q54 309 (z 3 308),eK P q55 311 (z 4 310),eK P q56 313 (z 5 312),eK P q57 315 (z 6 314),eK P q58 317 (z 7 316),eK P q59 319 (z 8 318),eK P q60 321 (z 9 320),eK P q61 323 (z 11 322),eK P q62 325 (z 12 324),eK P q63 327 (z 13 326),eK P q64 329 (z 15 328),eK P q40 339 (rV 107),eK P q41 342 (rV 108),eK P q5 343 .none] 2),
(110,⟨.type y9,none,.cls ⟨q18,[rV 39],[rV 110,rV 39,.type y6,.type y10,.type y11,.type y12],109,q18,true,[],[],false,none,false⟩,⟨[(oV (rV 93)),none,(oV (sV q18 290)),(oV (sV q18 298)),(oV (.builtin y13)),(oV (.bool true))]⟩⟩),
(111,fV y16 [rV 110,rV 110,rV 110]),
(112,fV y7 [.builtin y17,rV 110]),
(113,dV y1 [eK P q68 348 (z 256 349),eK P q69 351 (z 260 352),eK P q70 354 (z 261 355),eK P q71 357 (z 262 358),eK P q72 360 (z 320 361),eK P q73 363 (z 321 364),eK P q74 366 (z 322 367),eK P q75 369 (z 323 370),eK P q76 372 (z 324 373),eK P q77 375 (z 384 376),eK P q78 378 (z 768 379),eK P q79 381 (z 769 382),eK P q80 384 (z 770 385),eK P q81 387 (z 771 388),eK P q82 390 (z 772 391),eK P q83 393 (z 773 394),eK P q84 396 (z 774 397),eK P q85 399 (z 832 400),eK P q86 402 (z 833 403),eK P q87 405 (z 834 406),eK P q88 408 (z 835 409),eK P q89 411 (z 836 412),eK P q90 414 (z 2816 415),eK P q91 417 (z 2818 418),eK P q92 420 (z 2944 421),eK P q93 423 (z 2946 424),eK P q94 426 (z 3072 427),eK P q95 429 (z 3073 430),eK P q96 432 (z 3074 433),eK P q97 435 (z 3200 436),eK P q98 438 (z 3201 439),eK P q99 441 (z 3202 442),eK P bC9 444 (z 3857 445),eK P bC8 447 (z 3858 448),eK P bC7 450 (z 3859 451),eK P bAl 452 (z 3860 453)] 36),
(114,dV y1 [eK P q85 399 (z 832 400),eK P q86 402 (z 833 403),eK P q87 405 (z 834 406),eK P q88 408 (z 835 409),eK P q89 411 (z 836 412),eK P q90 414 (z 2816 415),eK P q91 417 (z 2818 418),eK P q92 420 (z 2944 421),eK P q93 423 (z 2946 424),eK P q94 426 (z 3072 427),eK P q95 429 (z 3073 430),eK P q96 432 (z 3074 433),eK P q97 435 (z 3200 436),eK P q98 438 (z 3201 439),eK P q99 441 (z 3202 442),eK P bC9 444 (z 3857 445),eK P bC8 447 (z 3858 448)] 17),
(115,dV y1 [eK P bC7 450 (z 3859 451),eK P bAl 452 (z 3860 453)] 2),
(116,tU []),
(117,fV y7 [.builtin y8,.type y9]),
(118,dV y1 [eK P q36 486 (sV q4 346),eK P q38 488 (sV q31 487),eK P q39 490 (z 55 489),eK P q40 508 (rV 130),eK P bC6 515 (rV 137),eK P q41 522 (rV 138)] 6),
(119,tU []),
(120,nV [cV 57,cV 4,rV 129,cV 65,cV 4,rV 136]),
(121,fV y3 [sV q31 481,sV q31 482,sV q1 483,cV 55,cV 0,cV 0,cV 0,cV 0,rV 119,.bool false,cV 181,rV 120,.none,.none,.none,.none,cV 484,cV 55,sV q1 485]),
(122,⟨.type y4,none,.plain,⟨[(oV (rV 121)),(oV (rV 3)),(oV (rV 118)),none,(oV (sV q4 346)),none,(oV (rV 0))]⟩⟩),
(123,tU [z 0 491,z 0 492,z 0 493,z 0 494,z 0 495]),
(124,tU []),
(125,nV []),
(126,tU [sV q43 499,sV aAf 500,sV bAk 501,sV bC5 502,sV bC4 503,sV bC3 504,sV bHw 505]),
(127,tU []),
(128,uV q40 bHv (M p 20 0)),
(129,fV y3 [sV q40 496,sV bHv 497,sV q1 498,cV 57,cV 7,cV 0,cV 0,cV 3,rV 124,.bool true,cV 181,rV 125,.none,rV 126,rV 127,rV 128,cV 506,cV 57,sV q1 507]),
(130,kV q40 bHv (M p 20 0) (rV 123) q4 346 129),
(131,tU []),
(132,nV [])]
noncomputable def cBi(p:Program)(P:Params):List (Nat×Obj):=[
(133,tU [sV q43 512]),
(134,tU []),
(135,uV bC6 bLr (M p 20 1)),
(136,fV y3 [sV bC6 509,sV bLr 510,sV q1 511,cV 65,cV 1,cV 0,cV 0,cV 3,rV 131,.bool true,cV 181,rV 132,.none,rV 133,rV 134,rV 135,cV 513,cV 65,sV q1 514]),
(137,kV bC6 bLr (M p 20 1) .none q4 346 136),
(138,tU [sV bHw 516,sV bC3 517,sV aAf 518,sV bAk 519,sV bC5 520,sV bC4 521]),
(139,dV y1 [eK P q36 486 (sV q4 346),eK P q39 490 (z 55 489),eK P q40 508 (rV 130),eK P bC6 515 (rV 137),eK P q41 522 (rV 138),eK P aFl 524 (rV 141),eK P q46 526 (rV 142),eK P q5 527 .none] 4),
(140,⟨.type y9,none,.cls ⟨q31,[.type y12],[rV 140,.type y12],139,q31,true,[],[],false,none,false⟩,⟨[none,none,(oV (sV q31 479)),(oV (sV q31 487)),(oV (.builtin y18)),(oV (.bool true))]⟩⟩),
(141,fV y14 [sV aFl 523,rV 140,.builtin y19,.builtin y20]),
(142,fV y14 [sV q46 525,rV 140,.builtin y15,.none]),
(143,fV y16 [rV 140,rV 140,rV 140]),
(144,fV y7 [.builtin y17,rV 140]),
(145,tU []),
(146,fV y7 [.builtin y8,.type y9]),
(147,dV y1 [eK P q36 537 (sV q4 346),eK P q38 539 (sV q32 538),eK P q39 541 (z 67 540),eK P q40 555 (rV 159),eK P bC2 562 (rV 166),eK P q41 568 (rV 167)] 6),
(148,tU []),
(149,nV [cV 69,cV 4,rV 158,cV 76,cV 4,rV 165]),
(150,fV y3 [sV q32 532,sV q32 533,sV q1 534,cV 67,cV 0,cV 0,cV 0,cV 0,rV 148,.bool false,cV 181,rV 149,.none,.none,.none,.none,cV 535,cV 67,sV q1 536]),
(151,⟨.type y4,none,.plain,⟨[(oV (rV 150)),(oV (rV 3)),(oV (rV 147)),none,(oV (sV q4 346)),none,(oV (rV 0))]⟩⟩),
(152,tU [z 0 542,z 0 543]),
(153,tU []),
(154,nV []),
(155,tU [sV q43 547,sV aAf 548,sV aAg 549,sV aAj 550,sV aAi 551,sV aAh 552]),
(156,tU []),
(157,uV q40 bLq (M p 21 0)),
(158,fV y3 [sV q40 544,sV bLq 545,sV q1 546,cV 69,cV 6,cV 0,cV 0,cV 3,rV 153,.bool true,cV 181,rV 154,.none,rV 155,rV 156,rV 157,cV 553,cV 69,sV q1 554]),
(159,kV q40 bLq (M p 21 0) (rV 152) q4 346 158),
(160,tU []),
(161,nV []),
(162,tU [sV q43 559]),
(163,tU []),
(164,uV bC2 bLp (M p 21 1)),
(165,fV y3 [sV bC2 556,sV bLp 557,sV q1 558,cV 76,cV 1,cV 0,cV 0,cV 3,rV 160,.bool true,cV 181,rV 161,.none,rV 162,rV 163,rV 164,cV 560,cV 76,sV q1 561]),
(166,kV bC2 bLp (M p 21 1) .none q4 346 165),
(167,tU [sV aAg 563,sV aAf 564,sV aAj 565,sV aAh 566,sV aAi 567]),
(168,dV y1 [eK P q36 537 (sV q4 346),eK P q39 541 (z 67 540),eK P q40 555 (rV 159),eK P bC2 562 (rV 166),eK P q41 568 (rV 167),eK P aFl 570 (rV 170),eK P q46 572 (rV 171),eK P q5 573 .none] 4),
(169,⟨.type y9,none,.cls ⟨q32,[.type y12],[rV 169,.type y12],168,q32,true,[],[],false,none,false⟩,⟨[none,none,(oV (sV q32 530)),(oV (sV q32 538)),(oV (.builtin y18)),(oV (.bool true))]⟩⟩),
(170,fV y14 [sV aFl 569,rV 169,.builtin y19,.builtin y20]),
(171,fV y14 [sV q46 571,rV 169,.builtin y15,.none]),
(172,fV y16 [rV 169,rV 169,rV 169]),
(173,fV y7 [.builtin y17,rV 169]),
(174,tU [z 0 576]),
(175,tU []),
(176,nV []),
(177,tU [sV aLg 580,sV aAg 581,sV aAj 582,sV aAh 583,sV aF7 584,sV aAi 585,sV aAf 586]),
(178,tU []),
(179,uV q33 q33 (F p 22)),
(180,fV y3 [sV q33 577,sV q33 578,sV q1 579,cV 78,cV 4,cV 0,cV 0,cV 3,rV 175,.bool true,cV 181,rV 176,.none,rV 177,rV 178,rV 179,cV 587,cV 78,sV q1 588]),
(181,kV q33 q33 (F p 22) (rV 174) q4 346 180),
(182,tU []),
(183,nV []),
(184,tU [sV aF7 593,sV aAf 594,sV aHc 595]),
(185,tU []),
(186,uV q34 q34 (F p 23)),
(187,fV y3 [sV q34 590,sV q34 591,sV q1 592,cV 84,cV 0,cV 0,cV 0,cV 3,rV 182,.bool true,cV 181,rV 183,.none,rV 184,rV 185,rV 186,cV 596,cV 84,sV q1 597]),
(188,kV q34 q34 (F p 23) .none q4 346 187)]
noncomputable def D1(p:Program)(P:Params):List (Nat×Obj):=apL (cBk p P) (apL (cBj p P) (cBi p P))
noncomputable def T1(p:Program)(P:Params):BT:=aC9 (T0 p P) (D1 p P)
noncomputable def S1(p:Program)(w:World)(os:OsState):SharedT:=⟨T1 p w.params,189,aBn,#[],boot_drawn,599,os⟩
noncomputable def cBh(p:Program)(P:Params):List (Nat×Obj):=[
(12,nV [cV 1,cV 0,rV 20,cV 5,cV 0,rV 27,cV 10,cV 0,rV 48,cV 12,cV 0,rV 60,cV 17,cV 0,rV 79,cV 22,cV 0,rV 98,cV 55,cV 0,rV 121,cV 67,cV 0,rV 150,cV 78,cV 0,rV 180,cV 84,cV 0,rV 187,cV 102,cV 0,rV 194]),
(189,tU []),
(190,fV y7 [.builtin y8,.type y9]),
(191,dV y1 [eK P q36 606 (sV q4 346),eK P q38 608 (sV aF6 607),eK P q39 610 (z 102 609)] 3),
(192,tU []),
(193,nV []),
(194,fV y3 [sV aF6 601,sV aF6 602,sV q1 603,cV 102,cV 0,cV 0,cV 0,cV 0,rV 192,.bool false,cV 181,rV 193,.none,.none,.none,.none,cV 604,cV 102,sV q1 605]),
(195,⟨.type y4,none,.plain,⟨[(oV (rV 194)),(oV (rV 3)),(oV (rV 191)),none,(oV (sV q4 346)),none,(oV (rV 0))]⟩⟩)]
noncomputable def D2(p:Program)(P:Params):List (Nat×Obj):=cBh p P
noncomputable def T2(p:Program)(P:Params):BT:=aC9 (T1 p P) (D2 p P)
noncomputable def S2(p:Program)(w:World)(os:OsState):SharedT:=⟨T2 p w.params,196,aBn,#[],boot_drawn,611,os⟩
noncomputable def cBg(p:Program)(P:Params):List (Nat×Obj):=[
(196,dV y4 [] 0)]
noncomputable def D3(p:Program)(P:Params):List (Nat×Obj):=cBg p P
noncomputable def T3(p:Program)(P:Params):BT:=aC9 (T2 p P) (D3 p P)
noncomputable def S3(p:Program)(w:World)(os:OsState):SharedT:=⟨T3 p w.params,197,aBn,#[],boot_drawn,611,os⟩
noncomputable def cBf(p:Program)(P:Params):List (Nat×Obj):=[
(196,dV y4 [eK P aF7 683 (rV 209)] 1),
(197,dV y1 [eK P aAf 620 (sV bLo 611),eK P aAg 622 (sV aA8 612),eK P aAj 624 (z 55 469),eK P aAi 626 (z 0 542),eK P aAh 628 (z 0 543)] 5),
(198,⟨rV 169,(some 197),.plain,⟨[]⟩⟩),
(199,dV y4 [eK P q43 613 (rV 198),eK P aAf 614 (sV bLo 611),eK P aAg 615 (sV aA8 612),eK P aAj 616 (z 55 469),eK P aAi 617 (z 0 542),eK P aAh 618 (z 0 543)] 6),
(200,dV y1 [eK P aAf 638 (sV bLn 629),eK P aAg 640 (sV aA8 630),eK P aAj 642 (z 23 463),eK P aAi 644 (z 0 542),eK P aAh 646 (z 0 543)] 5),
(201,⟨rV 169,(some 200),.plain,⟨[]⟩⟩),
(202,dV y4 [eK P q43 631 (rV 201),eK P aAf 632 (sV bLn 629),eK P aAg 633 (sV aA8 630),eK P aAj 634 (z 23 463),eK P aAi 635 (z 0 542),eK P aAh 636 (z 0 543)] 6),
(203,dV y1 [eK P aAf 656 (sV aNb 647),eK P aAg 658 (sV aA9 648),eK P aAj 660 (z 111 475),eK P aAi 662 (z 0 542),eK P aAh 664 (z 0 543)] 5),
(204,⟨rV 169,(some 203),.plain,⟨[]⟩⟩),
(205,dV y4 [eK P q43 649 (rV 204),eK P aAf 650 (sV aNb 647),eK P aAg 651 (sV aA9 648),eK P aAj 652 (z 111 475),eK P aAi 653 (z 0 542),eK P aAh 654 (z 0 543)] 6),
(206,dV y1 [eK P aAf 674 (sV bLm 665),eK P aAg 676 (sV aAs 666),eK P aAj 678 (z 103 473),eK P aAi 680 (z 0 542),eK P aAh 682 (z 0 543)] 5),
(207,⟨rV 169,(some 206),.plain,⟨[]⟩⟩),
(208,dV y4 [eK P q43 667 (rV 207),eK P aAf 668 (sV bLm 665),eK P aAg 669 (sV aAs 666),eK P aAj 670 (z 103 473),eK P aAi 671 (z 0 542),eK P aAh 672 (z 0 543)] 6),
(209,⟨.type y21,none,.seq ⟨[rV 198,rV 201,rV 204,rV 207,rV 220,rV 227,rV 242,rV 249,rV 256,rV 263,rV 277,rV 284,rV 291,rV 302,rV 309,rV 323,rV 330,rV 337,rV 351,rV 362,rV 369,rV 376,rV 387,rV 394]⟩ 4,⟨[]⟩⟩),
(210,dV y4 [eK P aLg 686 (sV bYv 684),eK P aAg 687 (sV aAw 685),eK P aAj 688 (z 99 471),eK P aAh 689 (z 0 576),eK P aF7 690 (rV 211),eK P aAi 701 (z 7 808),eK P aAf 702 (sV aTu 699)] 7),
(211,⟨.type y21,none,.seq ⟨[rV 220,rV 227,rV 242,rV 249,rV 256,rV 263]⟩ 6,⟨[]⟩⟩),
(212,⟨.type y21,none,.seq ⟨[sV bAj 692,sV bAi 693,sV aBo 694,sV aBo 695,sV bAh 696,sV bAg 697,sV bAf 698,sV aTu 699]⟩ 0,⟨[]⟩⟩),
(213,fV y22 [.none,cV 8]),
(214,fV y23 [.none,.bool false,rV 213,cV 8,.none,sV aTu 699]),
(215,tU [z 0 700,sV bAj 692]),
(216,fV y24 [.none,cV 2]),
(217,tU []),
(218,fV y25 [rV 217,.none,.none,.none,.bool false,.none]),
(219,dV y1 [eK P aAf 711 (sV bAj 692),eK P aAg 713 (sV aAw 685),eK P aAj 715 (z 99 471),eK P aAi 717 (z 0 700),eK P aAh 719 (z 0 576)] 5),
(220,⟨rV 169,(some 219),.plain,⟨[]⟩⟩),
(221,dV y4 [eK P q43 704 (rV 220),eK P aAf 705 (sV bAj 692),eK P aAg 706 (sV aAw 685),eK P aAj 707 (z 99 471),eK P aAi 708 (z 0 700),eK P aAh 709 (z 0 576)] 6),
(222,tU [z 1 720,sV bAi 693]),
(223,fV y24 [.none,cV 2]),
(224,tU []),
(225,fV y25 [rV 224,.none,.none,.none,.bool false,.none]),
(226,dV y1 [eK P aAf 731 (sV bAi 693),eK P aAg 733 (sV aAw 685),eK P aAj 735 (z 99 471),eK P aAi 737 (z 1 720),eK P aAh 739 (z 0 576)] 5),
(227,⟨rV 169,(some 226),.plain,⟨[]⟩⟩),
(228,dV y4 [eK P q43 724 (rV 227),eK P aAf 725 (sV bAi 693),eK P aAg 726 (sV aAw 685),eK P aAj 727 (z 99 471),eK P aAi 728 (z 1 720),eK P aAh 729 (z 0 576)] 6),
(229,tU [z 2 740,sV aBo 694]),
(230,fV y24 [.none,cV 2]),
(231,tU []),
(232,fV y25 [rV 231,.none,.none,.none,.bool false,.none]),
(233,tU [z 3 744,sV aBo 695]),
(234,fV y24 [.none,cV 2]),
(235,tU []),
(236,fV y25 [rV 235,.none,.none,.none,.bool false,.none]),
(237,tU [z 4 748,sV bAh 696]),
(238,fV y24 [.none,cV 2]),
(239,tU []),
(240,fV y25 [rV 239,.none,.none,.none,.bool false,.none]),
(241,dV y1 [eK P aAf 759 (sV bAh 696),eK P aAg 761 (sV aAw 685),eK P aAj 763 (z 99 471),eK P aAi 765 (z 4 748),eK P aAh 767 (z 0 576)] 5),
(242,⟨rV 169,(some 241),.plain,⟨[]⟩⟩),
(243,dV y4 [eK P q43 752 (rV 242),eK P aAf 753 (sV bAh 696),eK P aAg 754 (sV aAw 685),eK P aAj 755 (z 99 471),eK P aAi 756 (z 4 748),eK P aAh 757 (z 0 576)] 6),
(244,tU [z 5 768,sV bAg 697]),
(245,fV y24 [.none,cV 2]),
(246,tU []),
(247,fV y25 [rV 246,.none,.none,.none,.bool false,.none]),
(248,dV y1 [eK P aAf 779 (sV bAg 697),eK P aAg 781 (sV aAw 685),eK P aAj 783 (z 99 471),eK P aAi 785 (z 5 768),eK P aAh 787 (z 0 576)] 5),
(249,⟨rV 169,(some 248),.plain,⟨[]⟩⟩),
(250,dV y4 [eK P q43 772 (rV 249),eK P aAf 773 (sV bAg 697),eK P aAg 774 (sV aAw 685),eK P aAj 775 (z 99 471),eK P aAi 776 (z 5 768),eK P aAh 777 (z 0 576)] 6),
(251,tU [z 6 788,sV bAf 698]),
(252,fV y24 [.none,cV 2]),
(253,tU []),
(254,fV y25 [rV 253,.none,.none,.none,.bool false,.none]),
(255,dV y1 [eK P aAf 799 (sV bAf 698),eK P aAg 801 (sV aAw 685),eK P aAj 803 (z 99 471),eK P aAi 805 (z 6 788),eK P aAh 807 (z 0 576)] 5)]
noncomputable def cBe(p:Program)(P:Params):List (Nat×Obj):=[
(256,⟨rV 169,(some 255),.plain,⟨[]⟩⟩),
(257,dV y4 [eK P q43 792 (rV 256),eK P aAf 793 (sV bAf 698),eK P aAg 794 (sV aAw 685),eK P aAj 795 (z 99 471),eK P aAi 796 (z 6 788),eK P aAh 797 (z 0 576)] 6),
(258,tU [z 7 808,sV aTu 699]),
(259,fV y24 [.none,cV 2]),
(260,tU []),
(261,fV y25 [rV 260,.none,.none,.none,.bool false,.none]),
(262,dV y1 [eK P aAf 819 (sV aTu 699),eK P aAg 821 (sV aAw 685),eK P aAj 823 (z 99 471),eK P aAi 825 (z 7 808),eK P aAh 827 (z 0 576)] 5),
(263,⟨rV 169,(some 262),.plain,⟨[]⟩⟩),
(264,dV y4 [eK P q43 812 (rV 263),eK P aAf 813 (sV aTu 699),eK P aAg 814 (sV aAw 685),eK P aAj 815 (z 99 471),eK P aAi 816 (z 7 808),eK P aAh 817 (z 0 576)] 6),
(265,tU []),
(266,fV y25 [rV 265,.none,.none,.none,.bool false,.none]),
(267,dV y4 [eK P aLg 830 (sV bYu 828),eK P aAg 831 (sV aAs 829),eK P aAj 832 (z 3 457),eK P aAh 833 (z 0 576),eK P aF7 834 (rV 268),eK P aAi 843 (z 5 926),eK P aAf 844 (sV aTt 841)] 7),
(268,⟨.type y21,none,.seq ⟨[rV 277,rV 284,rV 291,rV 302,rV 309]⟩ 5,⟨[]⟩⟩),
(269,⟨.type y21,none,.seq ⟨[sV bAe 836,sV bAd 837,sV aJ9 838,sV aBo 839,sV bAc 840,sV aTt 841]⟩ 0,⟨[]⟩⟩),
(270,fV y22 [.none,cV 6]),
(271,fV y23 [.none,.bool false,rV 270,cV 6,.none,sV aTt 841]),
(272,tU [z 0 842,sV bAe 836]),
(273,fV y24 [.none,cV 2]),
(274,tU []),
(275,fV y25 [rV 274,.none,.none,.none,.bool false,.none]),
(276,dV y1 [eK P aAf 853 (sV bAe 836),eK P aAg 855 (sV aAs 829),eK P aAj 857 (z 3 457),eK P aAi 859 (z 0 842),eK P aAh 861 (z 0 576)] 5),
(277,⟨rV 169,(some 276),.plain,⟨[]⟩⟩),
(278,dV y4 [eK P q43 846 (rV 277),eK P aAf 847 (sV bAe 836),eK P aAg 848 (sV aAs 829),eK P aAj 849 (z 3 457),eK P aAi 850 (z 0 842),eK P aAh 851 (z 0 576)] 6),
(279,tU [z 1 862,sV bAd 837]),
(280,fV y24 [.none,cV 2]),
(281,tU []),
(282,fV y25 [rV 281,.none,.none,.none,.bool false,.none]),
(283,dV y1 [eK P aAf 873 (sV bAd 837),eK P aAg 875 (sV aAs 829),eK P aAj 877 (z 3 457),eK P aAi 879 (z 1 862),eK P aAh 881 (z 0 576)] 5),
(284,⟨rV 169,(some 283),.plain,⟨[]⟩⟩),
(285,dV y4 [eK P q43 866 (rV 284),eK P aAf 867 (sV bAd 837),eK P aAg 868 (sV aAs 829),eK P aAj 869 (z 3 457),eK P aAi 870 (z 1 862),eK P aAh 871 (z 0 576)] 6),
(286,tU [z 2 882,sV aJ9 838]),
(287,fV y24 [.none,cV 2]),
(288,tU []),
(289,fV y25 [rV 288,.none,.none,.none,.bool false,.none]),
(290,dV y1 [eK P aAf 893 (sV aJ9 838),eK P aAg 895 (sV aAs 829),eK P aAj 897 (z 3 457),eK P aAi 899 (z 2 882),eK P aAh 901 (z 0 576)] 5),
(291,⟨rV 169,(some 290),.plain,⟨[]⟩⟩),
(292,dV y4 [eK P q43 886 (rV 291),eK P aAf 887 (sV aJ9 838),eK P aAg 888 (sV aAs 829),eK P aAj 889 (z 3 457),eK P aAi 890 (z 2 882),eK P aAh 891 (z 0 576)] 6),
(293,tU [z 3 902,sV aBo 839]),
(294,fV y24 [.none,cV 2]),
(295,tU []),
(296,fV y25 [rV 295,.none,.none,.none,.bool false,.none]),
(297,tU [z 4 906,sV bAc 840]),
(298,fV y24 [.none,cV 2]),
(299,tU []),
(300,fV y25 [rV 299,.none,.none,.none,.bool false,.none]),
(301,dV y1 [eK P aAf 917 (sV bAc 840),eK P aAg 919 (sV aAs 829),eK P aAj 921 (z 3 457),eK P aAi 923 (z 4 906),eK P aAh 925 (z 0 576)] 5),
(302,⟨rV 169,(some 301),.plain,⟨[]⟩⟩),
(303,dV y4 [eK P q43 910 (rV 302),eK P aAf 911 (sV bAc 840),eK P aAg 912 (sV aAs 829),eK P aAj 913 (z 3 457),eK P aAi 914 (z 4 906),eK P aAh 915 (z 0 576)] 6),
(304,tU [z 5 926,sV aTt 841]),
(305,fV y24 [.none,cV 2]),
(306,tU []),
(307,fV y25 [rV 306,.none,.none,.none,.bool false,.none]),
(308,dV y1 [eK P aAf 937 (sV aTt 841),eK P aAg 939 (sV aAs 829),eK P aAj 941 (z 3 457),eK P aAi 943 (z 5 926),eK P aAh 945 (z 0 576)] 5),
(309,⟨rV 169,(some 308),.plain,⟨[]⟩⟩),
(310,dV y4 [eK P q43 930 (rV 309),eK P aAf 931 (sV aTt 841),eK P aAg 932 (sV aAs 829),eK P aAj 933 (z 3 457),eK P aAi 934 (z 5 926),eK P aAh 935 (z 0 576)] 6),
(311,tU []),
(312,fV y25 [rV 311,.none,.none,.none,.bool false,.none]),
(313,dV y4 [eK P aLg 948 (sV bYt 946),eK P aAg 949 (sV aA3 947),eK P aAj 950 (z 35 465),eK P aAh 951 (z 0 576),eK P aF7 952 (rV 314),eK P aAi 958 (z 2 997),eK P aAf 959 (sV aTs 956)] 7),
(314,⟨.type y21,none,.seq ⟨[rV 323,rV 330,rV 337]⟩ 3,⟨[]⟩⟩),
(315,⟨.type y21,none,.seq ⟨[sV bAb 954,sV bAa 955,sV aTs 956]⟩ 0,⟨[]⟩⟩)]
noncomputable def cBd(p:Program)(P:Params):List (Nat×Obj):=[
(316,fV y22 [.none,cV 3]),
(317,fV y23 [.none,.bool false,rV 316,cV 3,.none,sV aTs 956]),
(318,tU [z 0 957,sV bAb 954]),
(319,fV y24 [.none,cV 2]),
(320,tU []),
(321,fV y25 [rV 320,.none,.none,.none,.bool false,.none]),
(322,dV y1 [eK P aAf 968 (sV bAb 954),eK P aAg 970 (sV aA3 947),eK P aAj 972 (z 35 465),eK P aAi 974 (z 0 957),eK P aAh 976 (z 0 576)] 5),
(323,⟨rV 169,(some 322),.plain,⟨[]⟩⟩),
(324,dV y4 [eK P q43 961 (rV 323),eK P aAf 962 (sV bAb 954),eK P aAg 963 (sV aA3 947),eK P aAj 964 (z 35 465),eK P aAi 965 (z 0 957),eK P aAh 966 (z 0 576)] 6),
(325,tU [z 1 977,sV bAa 955]),
(326,fV y24 [.none,cV 2]),
(327,tU []),
(328,fV y25 [rV 327,.none,.none,.none,.bool false,.none]),
(329,dV y1 [eK P aAf 988 (sV bAa 955),eK P aAg 990 (sV aA3 947),eK P aAj 992 (z 35 465),eK P aAi 994 (z 1 977),eK P aAh 996 (z 0 576)] 5),
(330,⟨rV 169,(some 329),.plain,⟨[]⟩⟩),
(331,dV y4 [eK P q43 981 (rV 330),eK P aAf 982 (sV bAa 955),eK P aAg 983 (sV aA3 947),eK P aAj 984 (z 35 465),eK P aAi 985 (z 1 977),eK P aAh 986 (z 0 576)] 6),
(332,tU [z 2 997,sV aTs 956]),
(333,fV y24 [.none,cV 2]),
(334,tU []),
(335,fV y25 [rV 334,.none,.none,.none,.bool false,.none]),
(336,dV y1 [eK P aAf 1008 (sV aTs 956),eK P aAg 1010 (sV aA3 947),eK P aAj 1012 (z 35 465),eK P aAi 1014 (z 2 997),eK P aAh 1016 (z 0 576)] 5),
(337,⟨rV 169,(some 336),.plain,⟨[]⟩⟩),
(338,dV y4 [eK P q43 1001 (rV 337),eK P aAf 1002 (sV aTs 956),eK P aAg 1003 (sV aA3 947),eK P aAj 1004 (z 35 465),eK P aAi 1005 (z 2 997),eK P aAh 1006 (z 0 576)] 6),
(339,tU []),
(340,fV y25 [rV 339,.none,.none,.none,.bool false,.none]),
(341,dV y4 [eK P aLg 1019 (sV bYs 1017),eK P aAg 1020 (sV aAs 1018),eK P aAj 1021 (z 19 461),eK P aAh 1022 (z 0 576),eK P aF7 1023 (rV 342),eK P aAi 1034 (z 7 1141),eK P aAf 1035 (sV aTr 1032)] 7),
(342,⟨.type y21,none,.seq ⟨[rV 351,rV 362,rV 369,rV 376,rV 387,rV 394]⟩ 6,⟨[]⟩⟩),
(343,⟨.type y21,none,.seq ⟨[sV aJ8 1025,sV aBo 1026,sV aZ9 1027,sV aZ8 1028,sV aZ7 1029,sV aBo 1030,sV aZ6 1031,sV aTr 1032]⟩ 0,⟨[]⟩⟩),
(344,fV y22 [.none,cV 8]),
(345,fV y23 [.none,.bool false,rV 344,cV 8,.none,sV aTr 1032]),
(346,tU [z 0 1033,sV aJ8 1025]),
(347,fV y24 [.none,cV 2]),
(348,tU []),
(349,fV y25 [rV 348,.none,.none,.none,.bool false,.none]),
(350,dV y1 [eK P aAf 1044 (sV aJ8 1025),eK P aAg 1046 (sV aAs 1018),eK P aAj 1048 (z 19 461),eK P aAi 1050 (z 0 1033),eK P aAh 1052 (z 0 576)] 5),
(351,⟨rV 169,(some 350),.plain,⟨[]⟩⟩),
(352,dV y4 [eK P q43 1037 (rV 351),eK P aAf 1038 (sV aJ8 1025),eK P aAg 1039 (sV aAs 1018),eK P aAj 1040 (z 19 461),eK P aAi 1041 (z 0 1033),eK P aAh 1042 (z 0 576)] 6),
(353,tU [z 1 1053,sV aBo 1026]),
(354,fV y24 [.none,cV 2]),
(355,tU []),
(356,fV y25 [rV 355,.none,.none,.none,.bool false,.none]),
(357,tU [z 2 1057,sV aZ9 1027]),
(358,fV y24 [.none,cV 2]),
(359,tU []),
(360,fV y25 [rV 359,.none,.none,.none,.bool false,.none]),
(361,dV y1 [eK P aAf 1068 (sV aZ9 1027),eK P aAg 1070 (sV aAs 1018),eK P aAj 1072 (z 19 461),eK P aAi 1074 (z 2 1057),eK P aAh 1076 (z 0 576)] 5),
(362,⟨rV 169,(some 361),.plain,⟨[]⟩⟩),
(363,dV y4 [eK P q43 1061 (rV 362),eK P aAf 1062 (sV aZ9 1027),eK P aAg 1063 (sV aAs 1018),eK P aAj 1064 (z 19 461),eK P aAi 1065 (z 2 1057),eK P aAh 1066 (z 0 576)] 6),
(364,tU [z 3 1077,sV aZ8 1028]),
(365,fV y24 [.none,cV 2]),
(366,tU []),
(367,fV y25 [rV 366,.none,.none,.none,.bool false,.none]),
(368,dV y1 [eK P aAf 1088 (sV aZ8 1028),eK P aAg 1090 (sV aAs 1018),eK P aAj 1092 (z 19 461),eK P aAi 1094 (z 3 1077),eK P aAh 1096 (z 0 576)] 5),
(369,⟨rV 169,(some 368),.plain,⟨[]⟩⟩),
(370,dV y4 [eK P q43 1081 (rV 369),eK P aAf 1082 (sV aZ8 1028),eK P aAg 1083 (sV aAs 1018),eK P aAj 1084 (z 19 461),eK P aAi 1085 (z 3 1077),eK P aAh 1086 (z 0 576)] 6),
(371,tU [z 4 1097,sV aZ7 1029]),
(372,fV y24 [.none,cV 2]),
(373,tU []),
(374,fV y25 [rV 373,.none,.none,.none,.bool false,.none]),
(375,dV y1 [eK P aAf 1108 (sV aZ7 1029),eK P aAg 1110 (sV aAs 1018),eK P aAj 1112 (z 19 461),eK P aAi 1114 (z 4 1097),eK P aAh 1116 (z 0 576)] 5)]
noncomputable def cBc(p:Program)(P:Params):List (Nat×Obj):=[
(376,⟨rV 169,(some 375),.plain,⟨[]⟩⟩),
(377,dV y4 [eK P q43 1101 (rV 376),eK P aAf 1102 (sV aZ7 1029),eK P aAg 1103 (sV aAs 1018),eK P aAj 1104 (z 19 461),eK P aAi 1105 (z 4 1097),eK P aAh 1106 (z 0 576)] 6),
(378,tU [z 5 1117,sV aBo 1030]),
(379,fV y24 [.none,cV 2]),
(380,tU []),
(381,fV y25 [rV 380,.none,.none,.none,.bool false,.none]),
(382,tU [z 6 1121,sV aZ6 1031]),
(383,fV y24 [.none,cV 2]),
(384,tU []),
(385,fV y25 [rV 384,.none,.none,.none,.bool false,.none]),
(386,dV y1 [eK P aAf 1132 (sV aZ6 1031),eK P aAg 1134 (sV aAs 1018),eK P aAj 1136 (z 19 461),eK P aAi 1138 (z 6 1121),eK P aAh 1140 (z 0 576)] 5),
(387,⟨rV 169,(some 386),.plain,⟨[]⟩⟩),
(388,dV y4 [eK P q43 1125 (rV 387),eK P aAf 1126 (sV aZ6 1031),eK P aAg 1127 (sV aAs 1018),eK P aAj 1128 (z 19 461),eK P aAi 1129 (z 6 1121),eK P aAh 1130 (z 0 576)] 6),
(389,tU [z 7 1141,sV aTr 1032]),
(390,fV y24 [.none,cV 2]),
(391,tU []),
(392,fV y25 [rV 391,.none,.none,.none,.bool false,.none]),
(393,dV y1 [eK P aAf 1152 (sV aTr 1032),eK P aAg 1154 (sV aAs 1018),eK P aAj 1156 (z 19 461),eK P aAi 1158 (z 7 1141),eK P aAh 1160 (z 0 576)] 5),
(394,⟨rV 169,(some 393),.plain,⟨[]⟩⟩),
(395,dV y4 [eK P q43 1145 (rV 394),eK P aAf 1146 (sV aTr 1032),eK P aAg 1147 (sV aAs 1018),eK P aAj 1148 (z 19 461),eK P aAi 1149 (z 7 1141),eK P aAh 1150 (z 0 576)] 6),
(396,tU []),
(397,fV y25 [rV 396,.none,.none,.none,.bool false,.none])]
noncomputable def D4(p:Program)(P:Params):List (Nat×Obj):=apL (cBf p P) (apL (cBe p P) (apL (cBd p P) (cBc p P)))
noncomputable def T4(p:Program)(P:Params):BT:=aC9 (T3 p P) (D4 p P)
noncomputable def S4(p:Program)(w:World)(os:OsState):SharedT:=⟨T4 p w.params,398,aBn,#[],boot_drawn,1161,os⟩
noncomputable def cBb(p:Program)(P:Params):List (Nat×Obj):=[
(209,⟨.type y21,none,.seq ⟨[rV 198,rV 201,rV 204,rV 207,rV 220,rV 227,rV 242,rV 249,rV 256,rV 263,rV 277,rV 284,rV 291,rV 302,rV 309,rV 323,rV 330,rV 337,rV 351,rV 362,rV 369,rV 376,rV 387,rV 394,rV 412,rV 431,rV 465,rV 479,rV 486,rV 493,rV 500,rV 507,rV 514,rV 521,rV 528,rV 542,rV 565]⟩ 8,⟨[]⟩⟩),
(398,dV y4 [eK P aLg 1163 (sV bYr 1161),eK P aAg 1164 (sV aA0 1162),eK P aAj 1165 (z 19 461),eK P aAh 1166 (z 0 576),eK P aF7 1167 (rV 399),eK P aAi 1176 (z 5 1211),eK P aAf 1177 (sV aTq 1174)] 7),
(399,⟨.type y21,none,.seq ⟨[rV 412,rV 431]⟩ 2,⟨[]⟩⟩),
(400,⟨.type y21,none,.seq ⟨[sV aBo 1169,sV aZ5 1170,sV aBo 1171,sV aBo 1172,sV aBo 1173,sV aTq 1174]⟩ 0,⟨[]⟩⟩),
(401,fV y22 [.none,cV 6]),
(402,fV y23 [.none,.bool false,rV 401,cV 6,.none,sV aTq 1174]),
(403,tU [z 0 1175,sV aBo 1169]),
(404,fV y24 [.none,cV 2]),
(405,tU []),
(406,fV y25 [rV 405,.none,.none,.none,.bool false,.none]),
(407,tU [z 1 1179,sV aZ5 1170]),
(408,fV y24 [.none,cV 2]),
(409,tU []),
(410,fV y25 [rV 409,.none,.none,.none,.bool false,.none]),
(411,dV y1 [eK P aAf 1190 (sV aZ5 1170),eK P aAg 1192 (sV aA0 1162),eK P aAj 1194 (z 19 461),eK P aAi 1196 (z 1 1179),eK P aAh 1198 (z 0 576)] 5),
(412,⟨rV 169,(some 411),.plain,⟨[]⟩⟩),
(413,dV y4 [eK P q43 1183 (rV 412),eK P aAf 1184 (sV aZ5 1170),eK P aAg 1185 (sV aA0 1162),eK P aAj 1186 (z 19 461),eK P aAi 1187 (z 1 1179),eK P aAh 1188 (z 0 576)] 6),
(414,tU [z 2 1199,sV aBo 1171]),
(415,fV y24 [.none,cV 2]),
(416,tU []),
(417,fV y25 [rV 416,.none,.none,.none,.bool false,.none]),
(418,tU [z 3 1203,sV aBo 1172]),
(419,fV y24 [.none,cV 2]),
(420,tU []),
(421,fV y25 [rV 420,.none,.none,.none,.bool false,.none]),
(422,tU [z 4 1207,sV aBo 1173]),
(423,fV y24 [.none,cV 2]),
(424,tU []),
(425,fV y25 [rV 424,.none,.none,.none,.bool false,.none]),
(426,tU [z 5 1211,sV aTq 1174]),
(427,fV y24 [.none,cV 2]),
(428,tU []),
(429,fV y25 [rV 428,.none,.none,.none,.bool false,.none]),
(430,dV y1 [eK P aAf 1222 (sV aTq 1174),eK P aAg 1224 (sV aA0 1162),eK P aAj 1226 (z 19 461),eK P aAi 1228 (z 5 1211),eK P aAh 1230 (z 0 576)] 5),
(431,⟨rV 169,(some 430),.plain,⟨[]⟩⟩),
(432,dV y4 [eK P q43 1215 (rV 431),eK P aAf 1216 (sV aTq 1174),eK P aAg 1217 (sV aA0 1162),eK P aAj 1218 (z 19 461),eK P aAi 1219 (z 5 1211),eK P aAh 1220 (z 0 576)] 6),
(433,tU []),
(434,fV y25 [rV 433,.none,.none,.none,.bool false,.none]),
(435,dV y4 [eK P aLg 1234 (sV bYq 1231),eK P aAg 1235 (sV aA0 1232),eK P aAj 1236 (z 19 461),eK P aAh 1237 (z 32 1233),eK P aF7 1238 (rV 436),eK P aAi 1247 (z 5 1266),eK P aAf 1248 (sV aTp 1245)] 7),
(436,⟨.type y21,none,.seq ⟨[rV 465]⟩ 1,⟨[]⟩⟩),
(437,⟨.type y21,none,.seq ⟨[sV aBo 1240,sV aBo 1241,sV aBo 1242,sV aBo 1243,sV aBo 1244,sV aTp 1245]⟩ 0,⟨[]⟩⟩),
(438,fV y22 [.none,cV 6]),
(439,fV y23 [.none,.bool false,rV 438,cV 6,.none,sV aTp 1245]),
(440,tU [z 0 1246,sV aBo 1240]),
(441,fV y24 [.none,cV 2]),
(442,tU []),
(443,fV y25 [rV 442,.none,.none,.none,.bool false,.none]),
(444,tU [z 1 1250,sV aBo 1241]),
(445,fV y24 [.none,cV 2]),
(446,tU []),
(447,fV y25 [rV 446,.none,.none,.none,.bool false,.none]),
(448,tU [z 2 1254,sV aBo 1242]),
(449,fV y24 [.none,cV 2]),
(450,tU []),
(451,fV y25 [rV 450,.none,.none,.none,.bool false,.none]),
(452,tU [z 3 1258,sV aBo 1243]),
(453,fV y24 [.none,cV 2]),
(454,tU []),
(455,fV y25 [rV 454,.none,.none,.none,.bool false,.none]),
(456,tU [z 4 1262,sV aBo 1244])]
noncomputable def cBa(p:Program)(P:Params):List (Nat×Obj):=[
(457,fV y24 [.none,cV 2]),
(458,tU []),
(459,fV y25 [rV 458,.none,.none,.none,.bool false,.none]),
(460,tU [z 5 1266,sV aTp 1245]),
(461,fV y24 [.none,cV 2]),
(462,tU []),
(463,fV y25 [rV 462,.none,.none,.none,.bool false,.none]),
(464,dV y1 [eK P aAf 1277 (sV aTp 1245),eK P aAg 1279 (sV aA0 1232),eK P aAj 1281 (z 19 461),eK P aAi 1283 (z 5 1266),eK P aAh 1285 (z 32 1233)] 5),
(465,⟨rV 169,(some 464),.plain,⟨[]⟩⟩),
(466,dV y4 [eK P q43 1270 (rV 465),eK P aAf 1271 (sV aTp 1245),eK P aAg 1272 (sV aA0 1232),eK P aAj 1273 (z 19 461),eK P aAi 1274 (z 5 1266),eK P aAh 1275 (z 32 1233)] 6),
(467,tU []),
(468,fV y25 [rV 467,.none,.none,.none,.bool false,.none]),
(469,dV y4 [eK P aLg 1288 (sV bYp 1286),eK P aAg 1289 (sV aAm 1287),eK P aAj 1290 (z 51 467),eK P aAh 1291 (z 0 576),eK P aF7 1292 (rV 470),eK P aAi 1303 (z 7 1442),eK P aAf 1304 (sV aQ4 1301)] 7),
(470,⟨.type y21,none,.seq ⟨[rV 479,rV 486,rV 493,rV 500,rV 507,rV 514,rV 521,rV 528]⟩ 8,⟨[]⟩⟩),
(471,⟨.type y21,none,.seq ⟨[sV aDk 1294,sV aWp 1295,sV aWo 1296,sV aWn 1297,sV aWm 1298,sV aWl 1299,sV aWk 1300,sV aQ4 1301]⟩ 0,⟨[]⟩⟩),
(472,fV y22 [.none,cV 8]),
(473,fV y23 [.none,.bool false,rV 472,cV 8,.none,sV aQ4 1301]),
(474,tU [z 0 1302,sV aDk 1294]),
(475,fV y24 [.none,cV 2]),
(476,tU []),
(477,fV y25 [rV 476,.none,.none,.none,.bool false,.none]),
(478,dV y1 [eK P aAf 1313 (sV aDk 1294),eK P aAg 1315 (sV aAm 1287),eK P aAj 1317 (z 51 467),eK P aAi 1319 (z 0 1302),eK P aAh 1321 (z 0 576)] 5),
(479,⟨rV 169,(some 478),.plain,⟨[]⟩⟩),
(480,dV y4 [eK P q43 1306 (rV 479),eK P aAf 1307 (sV aDk 1294),eK P aAg 1308 (sV aAm 1287),eK P aAj 1309 (z 51 467),eK P aAi 1310 (z 0 1302),eK P aAh 1311 (z 0 576)] 6),
(481,tU [z 1 1322,sV aWp 1295]),
(482,fV y24 [.none,cV 2]),
(483,tU []),
(484,fV y25 [rV 483,.none,.none,.none,.bool false,.none]),
(485,dV y1 [eK P aAf 1333 (sV aWp 1295),eK P aAg 1335 (sV aAm 1287),eK P aAj 1337 (z 51 467),eK P aAi 1339 (z 1 1322),eK P aAh 1341 (z 0 576)] 5),
(486,⟨rV 169,(some 485),.plain,⟨[]⟩⟩),
(487,dV y4 [eK P q43 1326 (rV 486),eK P aAf 1327 (sV aWp 1295),eK P aAg 1328 (sV aAm 1287),eK P aAj 1329 (z 51 467),eK P aAi 1330 (z 1 1322),eK P aAh 1331 (z 0 576)] 6),
(488,tU [z 2 1342,sV aWo 1296]),
(489,fV y24 [.none,cV 2]),
(490,tU []),
(491,fV y25 [rV 490,.none,.none,.none,.bool false,.none]),
(492,dV y1 [eK P aAf 1353 (sV aWo 1296),eK P aAg 1355 (sV aAm 1287),eK P aAj 1357 (z 51 467),eK P aAi 1359 (z 2 1342),eK P aAh 1361 (z 0 576)] 5),
(493,⟨rV 169,(some 492),.plain,⟨[]⟩⟩),
(494,dV y4 [eK P q43 1346 (rV 493),eK P aAf 1347 (sV aWo 1296),eK P aAg 1348 (sV aAm 1287),eK P aAj 1349 (z 51 467),eK P aAi 1350 (z 2 1342),eK P aAh 1351 (z 0 576)] 6),
(495,tU [z 3 1362,sV aWn 1297]),
(496,fV y24 [.none,cV 2]),
(497,tU []),
(498,fV y25 [rV 497,.none,.none,.none,.bool false,.none]),
(499,dV y1 [eK P aAf 1373 (sV aWn 1297),eK P aAg 1375 (sV aAm 1287),eK P aAj 1377 (z 51 467),eK P aAi 1379 (z 3 1362),eK P aAh 1381 (z 0 576)] 5),
(500,⟨rV 169,(some 499),.plain,⟨[]⟩⟩),
(501,dV y4 [eK P q43 1366 (rV 500),eK P aAf 1367 (sV aWn 1297),eK P aAg 1368 (sV aAm 1287),eK P aAj 1369 (z 51 467),eK P aAi 1370 (z 3 1362),eK P aAh 1371 (z 0 576)] 6),
(502,tU [z 4 1382,sV aWm 1298]),
(503,fV y24 [.none,cV 2]),
(504,tU []),
(505,fV y25 [rV 504,.none,.none,.none,.bool false,.none]),
(506,dV y1 [eK P aAf 1393 (sV aWm 1298),eK P aAg 1395 (sV aAm 1287),eK P aAj 1397 (z 51 467),eK P aAi 1399 (z 4 1382),eK P aAh 1401 (z 0 576)] 5),
(507,⟨rV 169,(some 506),.plain,⟨[]⟩⟩),
(508,dV y4 [eK P q43 1386 (rV 507),eK P aAf 1387 (sV aWm 1298),eK P aAg 1388 (sV aAm 1287),eK P aAj 1389 (z 51 467),eK P aAi 1390 (z 4 1382),eK P aAh 1391 (z 0 576)] 6),
(509,tU [z 5 1402,sV aWl 1299]),
(510,fV y24 [.none,cV 2]),
(511,tU []),
(512,fV y25 [rV 511,.none,.none,.none,.bool false,.none]),
(513,dV y1 [eK P aAf 1413 (sV aWl 1299),eK P aAg 1415 (sV aAm 1287),eK P aAj 1417 (z 51 467),eK P aAi 1419 (z 5 1402),eK P aAh 1421 (z 0 576)] 5),
(514,⟨rV 169,(some 513),.plain,⟨[]⟩⟩),
(515,dV y4 [eK P q43 1406 (rV 514),eK P aAf 1407 (sV aWl 1299),eK P aAg 1408 (sV aAm 1287),eK P aAj 1409 (z 51 467),eK P aAi 1410 (z 5 1402),eK P aAh 1411 (z 0 576)] 6),
(516,tU [z 6 1422,sV aWk 1300])]
noncomputable def cA9(p:Program)(P:Params):List (Nat×Obj):=[
(517,fV y24 [.none,cV 2]),
(518,tU []),
(519,fV y25 [rV 518,.none,.none,.none,.bool false,.none]),
(520,dV y1 [eK P aAf 1433 (sV aWk 1300),eK P aAg 1435 (sV aAm 1287),eK P aAj 1437 (z 51 467),eK P aAi 1439 (z 6 1422),eK P aAh 1441 (z 0 576)] 5),
(521,⟨rV 169,(some 520),.plain,⟨[]⟩⟩),
(522,dV y4 [eK P q43 1426 (rV 521),eK P aAf 1427 (sV aWk 1300),eK P aAg 1428 (sV aAm 1287),eK P aAj 1429 (z 51 467),eK P aAi 1430 (z 6 1422),eK P aAh 1431 (z 0 576)] 6),
(523,tU [z 7 1442,sV aQ4 1301]),
(524,fV y24 [.none,cV 2]),
(525,tU []),
(526,fV y25 [rV 525,.none,.none,.none,.bool false,.none]),
(527,dV y1 [eK P aAf 1453 (sV aQ4 1301),eK P aAg 1455 (sV aAm 1287),eK P aAj 1457 (z 51 467),eK P aAi 1459 (z 7 1442),eK P aAh 1461 (z 0 576)] 5),
(528,⟨rV 169,(some 527),.plain,⟨[]⟩⟩),
(529,dV y4 [eK P q43 1446 (rV 528),eK P aAf 1447 (sV aQ4 1301),eK P aAg 1448 (sV aAm 1287),eK P aAj 1449 (z 51 467),eK P aAi 1450 (z 7 1442),eK P aAh 1451 (z 0 576)] 6),
(530,tU []),
(531,fV y25 [rV 530,.none,.none,.none,.bool false,.none]),
(532,dV y4 [eK P aLg 1465 (sV bYo 1462),eK P aAg 1466 (sV aAm 1463),eK P aAj 1467 (z 51 467),eK P aAh 1468 (z 32 1464),eK P aF7 1469 (rV 533),eK P aAi 1478 (z 5 1513),eK P aAf 1479 (sV aQ3 1476)] 7),
(533,⟨.type y21,none,.seq ⟨[rV 542,rV 565]⟩ 2,⟨[]⟩⟩),
(534,⟨.type y21,none,.seq ⟨[sV aIn 1471,sV aBo 1472,sV aBo 1473,sV aBo 1474,sV aBo 1475,sV aQ3 1476]⟩ 0,⟨[]⟩⟩),
(535,fV y22 [.none,cV 6]),
(536,fV y23 [.none,.bool false,rV 535,cV 6,.none,sV aQ3 1476]),
(537,tU [z 0 1477,sV aIn 1471]),
(538,fV y24 [.none,cV 2]),
(539,tU []),
(540,fV y25 [rV 539,.none,.none,.none,.bool false,.none]),
(541,dV y1 [eK P aAf 1488 (sV aIn 1471),eK P aAg 1490 (sV aAm 1463),eK P aAj 1492 (z 51 467),eK P aAi 1494 (z 0 1477),eK P aAh 1496 (z 32 1464)] 5),
(542,⟨rV 169,(some 541),.plain,⟨[]⟩⟩),
(543,dV y4 [eK P q43 1481 (rV 542),eK P aAf 1482 (sV aIn 1471),eK P aAg 1483 (sV aAm 1463),eK P aAj 1484 (z 51 467),eK P aAi 1485 (z 0 1477),eK P aAh 1486 (z 32 1464)] 6),
(544,tU [z 1 1497,sV aBo 1472]),
(545,fV y24 [.none,cV 2]),
(546,tU []),
(547,fV y25 [rV 546,.none,.none,.none,.bool false,.none]),
(548,tU [z 2 1501,sV aBo 1473]),
(549,fV y24 [.none,cV 2]),
(550,tU []),
(551,fV y25 [rV 550,.none,.none,.none,.bool false,.none]),
(552,tU [z 3 1505,sV aBo 1474]),
(553,fV y24 [.none,cV 2]),
(554,tU []),
(555,fV y25 [rV 554,.none,.none,.none,.bool false,.none]),
(556,tU [z 4 1509,sV aBo 1475]),
(557,fV y24 [.none,cV 2]),
(558,tU []),
(559,fV y25 [rV 558,.none,.none,.none,.bool false,.none]),
(560,tU [z 5 1513,sV aQ3 1476]),
(561,fV y24 [.none,cV 2]),
(562,tU []),
(563,fV y25 [rV 562,.none,.none,.none,.bool false,.none]),
(564,dV y1 [eK P aAf 1524 (sV aQ3 1476),eK P aAg 1526 (sV aAm 1463),eK P aAj 1528 (z 51 467),eK P aAi 1530 (z 5 1513),eK P aAh 1532 (z 32 1464)] 5),
(565,⟨rV 169,(some 564),.plain,⟨[]⟩⟩),
(566,dV y4 [eK P q43 1517 (rV 565),eK P aAf 1518 (sV aQ3 1476),eK P aAg 1519 (sV aAm 1463),eK P aAj 1520 (z 51 467),eK P aAi 1521 (z 5 1513),eK P aAh 1522 (z 32 1464)] 6),
(567,tU []),
(568,fV y25 [rV 567,.none,.none,.none,.bool false,.none])]
noncomputable def D5(p:Program)(P:Params):List (Nat×Obj):=apL (cBb p P) (apL (cBa p P) (cA9 p P))
noncomputable def T5(p:Program)(P:Params):BT:=aC9 (T4 p P) (D5 p P)
noncomputable def S5(p:Program)(w:World)(os:OsState):SharedT:=⟨T5 p w.params,569,aBn,#[],boot_drawn,1533,os⟩
noncomputable def cA8(p:Program)(P:Params):List (Nat×Obj):=[
(196,dV y4 [eK P aF7 683 (rV 209),eK P aAf 1962 (sV bC1 1960),eK P aHc 1963 (z 770 1961)] 3),
(209,⟨.type y21,none,.seq ⟨[rV 198,rV 201,rV 204,rV 207,rV 220,rV 227,rV 242,rV 249,rV 256,rV 263,rV 277,rV 284,rV 291,rV 302,rV 309,rV 323,rV 330,rV 337,rV 351,rV 362,rV 369,rV 376,rV 387,rV 394,rV 412,rV 431,rV 465,rV 479,rV 486,rV 493,rV 500,rV 507,rV 514,rV 521,rV 528,rV 542,rV 565,rV 579,rV 586,rV 593,rV 600,rV 607,rV 614,rV 621,rV 628,rV 642,rV 649,rV 667,rV 674,rV 681,rV 715,rV 722,rV 729,rV 734,rV 747,rV 753,rV 759,rV 765,rV 771]⟩ 18,⟨[]⟩⟩),
(569,dV y4 [eK P aLg 1536 (sV bYn 1533),eK P aAg 1537 (sV aAm 1534),eK P aAj 1538 (z 51 467),eK P aAh 1539 (z 1 1535),eK P aF7 1540 (rV 570),eK P aAi 1551 (z 7 1690),eK P aAf 1552 (sV aG3 1549)] 7),
(570,⟨.type y21,none,.seq ⟨[rV 579,rV 586,rV 593,rV 600,rV 607,rV 614,rV 621,rV 628]⟩ 8,⟨[]⟩⟩),
(571,⟨.type y21,none,.seq ⟨[sV aIm 1542,sV aIl 1543,sV aIk 1544,sV aIj 1545,sV aIi 1546,sV aIh 1547,sV aIg 1548,sV aG3 1549]⟩ 0,⟨[]⟩⟩),
(572,fV y22 [.none,cV 8]),
(573,fV y23 [.none,.bool false,rV 572,cV 8,.none,sV aG3 1549]),
(574,tU [z 0 1550,sV aIm 1542]),
(575,fV y24 [.none,cV 2]),
(576,tU []),
(577,fV y25 [rV 576,.none,.none,.none,.bool false,.none]),
(578,dV y1 [eK P aAf 1561 (sV aIm 1542),eK P aAg 1563 (sV aAm 1534),eK P aAj 1565 (z 51 467),eK P aAi 1567 (z 0 1550),eK P aAh 1569 (z 1 1535)] 5),
(579,⟨rV 169,(some 578),.plain,⟨[]⟩⟩),
(580,dV y4 [eK P q43 1554 (rV 579),eK P aAf 1555 (sV aIm 1542),eK P aAg 1556 (sV aAm 1534),eK P aAj 1557 (z 51 467),eK P aAi 1558 (z 0 1550),eK P aAh 1559 (z 1 1535)] 6),
(581,tU [z 1 1570,sV aIl 1543]),
(582,fV y24 [.none,cV 2]),
(583,tU []),
(584,fV y25 [rV 583,.none,.none,.none,.bool false,.none]),
(585,dV y1 [eK P aAf 1581 (sV aIl 1543),eK P aAg 1583 (sV aAm 1534),eK P aAj 1585 (z 51 467),eK P aAi 1587 (z 1 1570),eK P aAh 1589 (z 1 1535)] 5),
(586,⟨rV 169,(some 585),.plain,⟨[]⟩⟩),
(587,dV y4 [eK P q43 1574 (rV 586),eK P aAf 1575 (sV aIl 1543),eK P aAg 1576 (sV aAm 1534),eK P aAj 1577 (z 51 467),eK P aAi 1578 (z 1 1570),eK P aAh 1579 (z 1 1535)] 6),
(588,tU [z 2 1590,sV aIk 1544]),
(589,fV y24 [.none,cV 2]),
(590,tU []),
(591,fV y25 [rV 590,.none,.none,.none,.bool false,.none]),
(592,dV y1 [eK P aAf 1601 (sV aIk 1544),eK P aAg 1603 (sV aAm 1534),eK P aAj 1605 (z 51 467),eK P aAi 1607 (z 2 1590),eK P aAh 1609 (z 1 1535)] 5),
(593,⟨rV 169,(some 592),.plain,⟨[]⟩⟩),
(594,dV y4 [eK P q43 1594 (rV 593),eK P aAf 1595 (sV aIk 1544),eK P aAg 1596 (sV aAm 1534),eK P aAj 1597 (z 51 467),eK P aAi 1598 (z 2 1590),eK P aAh 1599 (z 1 1535)] 6),
(595,tU [z 3 1610,sV aIj 1545]),
(596,fV y24 [.none,cV 2]),
(597,tU []),
(598,fV y25 [rV 597,.none,.none,.none,.bool false,.none]),
(599,dV y1 [eK P aAf 1621 (sV aIj 1545),eK P aAg 1623 (sV aAm 1534),eK P aAj 1625 (z 51 467),eK P aAi 1627 (z 3 1610),eK P aAh 1629 (z 1 1535)] 5),
(600,⟨rV 169,(some 599),.plain,⟨[]⟩⟩),
(601,dV y4 [eK P q43 1614 (rV 600),eK P aAf 1615 (sV aIj 1545),eK P aAg 1616 (sV aAm 1534),eK P aAj 1617 (z 51 467),eK P aAi 1618 (z 3 1610),eK P aAh 1619 (z 1 1535)] 6),
(602,tU [z 4 1630,sV aIi 1546]),
(603,fV y24 [.none,cV 2]),
(604,tU []),
(605,fV y25 [rV 604,.none,.none,.none,.bool false,.none]),
(606,dV y1 [eK P aAf 1641 (sV aIi 1546),eK P aAg 1643 (sV aAm 1534),eK P aAj 1645 (z 51 467),eK P aAi 1647 (z 4 1630),eK P aAh 1649 (z 1 1535)] 5),
(607,⟨rV 169,(some 606),.plain,⟨[]⟩⟩),
(608,dV y4 [eK P q43 1634 (rV 607),eK P aAf 1635 (sV aIi 1546),eK P aAg 1636 (sV aAm 1534),eK P aAj 1637 (z 51 467),eK P aAi 1638 (z 4 1630),eK P aAh 1639 (z 1 1535)] 6),
(609,tU [z 5 1650,sV aIh 1547]),
(610,fV y24 [.none,cV 2]),
(611,tU []),
(612,fV y25 [rV 611,.none,.none,.none,.bool false,.none]),
(613,dV y1 [eK P aAf 1661 (sV aIh 1547),eK P aAg 1663 (sV aAm 1534),eK P aAj 1665 (z 51 467),eK P aAi 1667 (z 5 1650),eK P aAh 1669 (z 1 1535)] 5),
(614,⟨rV 169,(some 613),.plain,⟨[]⟩⟩),
(615,dV y4 [eK P q43 1654 (rV 614),eK P aAf 1655 (sV aIh 1547),eK P aAg 1656 (sV aAm 1534),eK P aAj 1657 (z 51 467),eK P aAi 1658 (z 5 1650),eK P aAh 1659 (z 1 1535)] 6),
(616,tU [z 6 1670,sV aIg 1548]),
(617,fV y24 [.none,cV 2]),
(618,tU []),
(619,fV y25 [rV 618,.none,.none,.none,.bool false,.none]),
(620,dV y1 [eK P aAf 1681 (sV aIg 1548),eK P aAg 1683 (sV aAm 1534),eK P aAj 1685 (z 51 467),eK P aAi 1687 (z 6 1670),eK P aAh 1689 (z 1 1535)] 5),
(621,⟨rV 169,(some 620),.plain,⟨[]⟩⟩),
(622,dV y4 [eK P q43 1674 (rV 621),eK P aAf 1675 (sV aIg 1548),eK P aAg 1676 (sV aAm 1534),eK P aAj 1677 (z 51 467),eK P aAi 1678 (z 6 1670),eK P aAh 1679 (z 1 1535)] 6),
(623,tU [z 7 1690,sV aG3 1549]),
(624,fV y24 [.none,cV 2]),
(625,tU []),
(626,fV y25 [rV 625,.none,.none,.none,.bool false,.none])]
noncomputable def cA7(p:Program)(P:Params):List (Nat×Obj):=[
(627,dV y1 [eK P aAf 1701 (sV aG3 1549),eK P aAg 1703 (sV aAm 1534),eK P aAj 1705 (z 51 467),eK P aAi 1707 (z 7 1690),eK P aAh 1709 (z 1 1535)] 5),
(628,⟨rV 169,(some 627),.plain,⟨[]⟩⟩),
(629,dV y4 [eK P q43 1694 (rV 628),eK P aAf 1695 (sV aG3 1549),eK P aAg 1696 (sV aAm 1534),eK P aAj 1697 (z 51 467),eK P aAi 1698 (z 7 1690),eK P aAh 1699 (z 1 1535)] 6),
(630,tU []),
(631,fV y25 [rV 630,.none,.none,.none,.bool false,.none]),
(632,dV y4 [eK P aLg 1712 (sV bYm 1710),eK P aAg 1713 (sV aAx 1711),eK P aAj 1714 (z 15 459),eK P aAh 1715 (z 0 576),eK P aF7 1716 (rV 633),eK P aAi 1721 (z 1 1740),eK P aAf 1722 (sV aWj 1719)] 7),
(633,⟨.type y21,none,.seq ⟨[rV 642,rV 649]⟩ 2,⟨[]⟩⟩),
(634,⟨.type y21,none,.seq ⟨[sV aAx 1718,sV aWj 1719]⟩ 0,⟨[]⟩⟩),
(635,fV y22 [.none,cV 2]),
(636,fV y23 [.none,.bool false,rV 635,cV 2,.none,sV aWj 1719]),
(637,tU [z 0 1720,sV aAx 1718]),
(638,fV y24 [.none,cV 2]),
(639,tU []),
(640,fV y25 [rV 639,.none,.none,.none,.bool false,.none]),
(641,dV y1 [eK P aAf 1731 (sV aAx 1718),eK P aAg 1733 (sV aAx 1711),eK P aAj 1735 (z 15 459),eK P aAi 1737 (z 0 1720),eK P aAh 1739 (z 0 576)] 5),
(642,⟨rV 169,(some 641),.plain,⟨[]⟩⟩),
(643,dV y4 [eK P q43 1724 (rV 642),eK P aAf 1725 (sV aAx 1718),eK P aAg 1726 (sV aAx 1711),eK P aAj 1727 (z 15 459),eK P aAi 1728 (z 0 1720),eK P aAh 1729 (z 0 576)] 6),
(644,tU [z 1 1740,sV aWj 1719]),
(645,fV y24 [.none,cV 2]),
(646,tU []),
(647,fV y25 [rV 646,.none,.none,.none,.bool false,.none]),
(648,dV y1 [eK P aAf 1751 (sV aWj 1719),eK P aAg 1753 (sV aAx 1711),eK P aAj 1755 (z 15 459),eK P aAi 1757 (z 1 1740),eK P aAh 1759 (z 0 576)] 5),
(649,⟨rV 169,(some 648),.plain,⟨[]⟩⟩),
(650,dV y4 [eK P q43 1744 (rV 649),eK P aAf 1745 (sV aWj 1719),eK P aAg 1746 (sV aAx 1711),eK P aAj 1747 (z 15 459),eK P aAi 1748 (z 1 1740),eK P aAh 1749 (z 0 576)] 6),
(651,tU []),
(652,fV y25 [rV 651,.none,.none,.none,.bool false,.none]),
(653,dV y4 [eK P aLg 1762 (sV bYl 1760),eK P aAg 1763 (sV aA2 1761),eK P aAj 1764 (z 115 477),eK P aAh 1765 (z 0 576),eK P aF7 1766 (rV 654),eK P aAi 1773 (z 3 1816),eK P aAf 1774 (sV aWi 1771)] 7),
(654,⟨.type y21,none,.seq ⟨[rV 667,rV 674,rV 681]⟩ 3,⟨[]⟩⟩),
(655,⟨.type y21,none,.seq ⟨[sV aBo 1768,sV bC0 1769,sV bCz 1770,sV aWi 1771]⟩ 0,⟨[]⟩⟩),
(656,fV y22 [.none,cV 4]),
(657,fV y23 [.none,.bool false,rV 656,cV 4,.none,sV aWi 1771]),
(658,tU [z 0 1772,sV aBo 1768]),
(659,fV y24 [.none,cV 2]),
(660,tU []),
(661,fV y25 [rV 660,.none,.none,.none,.bool false,.none]),
(662,tU [z 1 1776,sV bC0 1769]),
(663,fV y24 [.none,cV 2]),
(664,tU []),
(665,fV y25 [rV 664,.none,.none,.none,.bool false,.none]),
(666,dV y1 [eK P aAf 1787 (sV bC0 1769),eK P aAg 1789 (sV aA2 1761),eK P aAj 1791 (z 115 477),eK P aAi 1793 (z 1 1776),eK P aAh 1795 (z 0 576)] 5),
(667,⟨rV 169,(some 666),.plain,⟨[]⟩⟩),
(668,dV y4 [eK P q43 1780 (rV 667),eK P aAf 1781 (sV bC0 1769),eK P aAg 1782 (sV aA2 1761),eK P aAj 1783 (z 115 477),eK P aAi 1784 (z 1 1776),eK P aAh 1785 (z 0 576)] 6),
(669,tU [z 2 1796,sV bCz 1770]),
(670,fV y24 [.none,cV 2]),
(671,tU []),
(672,fV y25 [rV 671,.none,.none,.none,.bool false,.none]),
(673,dV y1 [eK P aAf 1807 (sV bCz 1770),eK P aAg 1809 (sV aA2 1761),eK P aAj 1811 (z 115 477),eK P aAi 1813 (z 2 1796),eK P aAh 1815 (z 0 576)] 5),
(674,⟨rV 169,(some 673),.plain,⟨[]⟩⟩),
(675,dV y4 [eK P q43 1800 (rV 674),eK P aAf 1801 (sV bCz 1770),eK P aAg 1802 (sV aA2 1761),eK P aAj 1803 (z 115 477),eK P aAi 1804 (z 2 1796),eK P aAh 1805 (z 0 576)] 6),
(676,tU [z 3 1816,sV aWi 1771]),
(677,fV y24 [.none,cV 2]),
(678,tU []),
(679,fV y25 [rV 678,.none,.none,.none,.bool false,.none]),
(680,dV y1 [eK P aAf 1827 (sV aWi 1771),eK P aAg 1829 (sV aA2 1761),eK P aAj 1831 (z 115 477),eK P aAi 1833 (z 3 1816),eK P aAh 1835 (z 0 576)] 5),
(681,⟨rV 169,(some 680),.plain,⟨[]⟩⟩),
(682,dV y4 [eK P q43 1820 (rV 681),eK P aAf 1821 (sV aWi 1771),eK P aAg 1822 (sV aA2 1761),eK P aAj 1823 (z 115 477),eK P aAi 1824 (z 3 1816),eK P aAh 1825 (z 0 576)] 6),
(683,tU []),
(684,fV y25 [rV 683,.none,.none,.none,.bool false,.none]),
(685,dV y4 [eK P aLg 1838 (sV bYk 1836),eK P aAg 1839 (sV aA1 1837),eK P aAj 1840 (z 115 477),eK P aAh 1841 (z 0 576),eK P aF7 1842 (rV 686),eK P aAi 1853 (z 7 1912),eK P aAf 1854 (sV aWh 1851)] 7),
(686,⟨.type y21,none,.seq ⟨[rV 715,rV 722,rV 729]⟩ 3,⟨[]⟩⟩)]
noncomputable def cA6(p:Program)(P:Params):List (Nat×Obj):=[
(687,⟨.type y21,none,.seq ⟨[sV aBo 1844,sV aBo 1845,sV aBo 1846,sV aBo 1847,sV aBo 1848,sV bCy 1849,sV bCx 1850,sV aWh 1851]⟩ 0,⟨[]⟩⟩),
(688,fV y22 [.none,cV 8]),
(689,fV y23 [.none,.bool false,rV 688,cV 8,.none,sV aWh 1851]),
(690,tU [z 0 1852,sV aBo 1844]),
(691,fV y24 [.none,cV 2]),
(692,tU []),
(693,fV y25 [rV 692,.none,.none,.none,.bool false,.none]),
(694,tU [z 1 1856,sV aBo 1845]),
(695,fV y24 [.none,cV 2]),
(696,tU []),
(697,fV y25 [rV 696,.none,.none,.none,.bool false,.none]),
(698,tU [z 2 1860,sV aBo 1846]),
(699,fV y24 [.none,cV 2]),
(700,tU []),
(701,fV y25 [rV 700,.none,.none,.none,.bool false,.none]),
(702,tU [z 3 1864,sV aBo 1847]),
(703,fV y24 [.none,cV 2]),
(704,tU []),
(705,fV y25 [rV 704,.none,.none,.none,.bool false,.none]),
(706,tU [z 4 1868,sV aBo 1848]),
(707,fV y24 [.none,cV 2]),
(708,tU []),
(709,fV y25 [rV 708,.none,.none,.none,.bool false,.none]),
(710,tU [z 5 1872,sV bCy 1849]),
(711,fV y24 [.none,cV 2]),
(712,tU []),
(713,fV y25 [rV 712,.none,.none,.none,.bool false,.none]),
(714,dV y1 [eK P aAf 1883 (sV bCy 1849),eK P aAg 1885 (sV aA1 1837),eK P aAj 1887 (z 115 477),eK P aAi 1889 (z 5 1872),eK P aAh 1891 (z 0 576)] 5),
(715,⟨rV 169,(some 714),.plain,⟨[]⟩⟩),
(716,dV y4 [eK P q43 1876 (rV 715),eK P aAf 1877 (sV bCy 1849),eK P aAg 1878 (sV aA1 1837),eK P aAj 1879 (z 115 477),eK P aAi 1880 (z 5 1872),eK P aAh 1881 (z 0 576)] 6),
(717,tU [z 6 1892,sV bCx 1850]),
(718,fV y24 [.none,cV 2]),
(719,tU []),
(720,fV y25 [rV 719,.none,.none,.none,.bool false,.none]),
(721,dV y1 [eK P aAf 1903 (sV bCx 1850),eK P aAg 1905 (sV aA1 1837),eK P aAj 1907 (z 115 477),eK P aAi 1909 (z 6 1892),eK P aAh 1911 (z 0 576)] 5),
(722,⟨rV 169,(some 721),.plain,⟨[]⟩⟩),
(723,dV y4 [eK P q43 1896 (rV 722),eK P aAf 1897 (sV bCx 1850),eK P aAg 1898 (sV aA1 1837),eK P aAj 1899 (z 115 477),eK P aAi 1900 (z 6 1892),eK P aAh 1901 (z 0 576)] 6),
(724,tU [z 7 1912,sV aWh 1851]),
(725,fV y24 [.none,cV 2]),
(726,tU []),
(727,fV y25 [rV 726,.none,.none,.none,.bool false,.none]),
(728,dV y1 [eK P aAf 1923 (sV aWh 1851),eK P aAg 1925 (sV aA1 1837),eK P aAj 1927 (z 115 477),eK P aAi 1929 (z 7 1912),eK P aAh 1931 (z 0 576)] 5),
(729,⟨rV 169,(some 728),.plain,⟨[]⟩⟩),
(730,dV y4 [eK P q43 1916 (rV 729),eK P aAf 1917 (sV aWh 1851),eK P aAg 1918 (sV aA1 1837),eK P aAj 1919 (z 115 477),eK P aAi 1920 (z 7 1912),eK P aAh 1921 (z 0 576)] 6),
(731,tU []),
(732,fV y25 [rV 731,.none,.none,.none,.bool false,.none]),
(733,dV y1 [eK P aAf 1943 (sV bLl 1932),eK P aAg 1945 (sV aAz 1933),eK P aAj 1947 (z 115 477),eK P aAi 1949 (z 0 1934),eK P aAh 1951 (z 9 1935)] 5),
(734,⟨rV 169,(some 733),.plain,⟨[]⟩⟩),
(735,dV y4 [eK P q43 1936 (rV 734),eK P aAf 1937 (sV bLl 1932),eK P aAg 1938 (sV aAz 1933),eK P aAj 1939 (z 115 477),eK P aAi 1940 (z 0 1934),eK P aAh 1941 (z 9 1935)] 6),
(736,tU [sV aMf 1952,z 0 1953]),
(737,tU [sV aMe 1954,z 1 1955]),
(738,tU [sV bHu 1956,z 258 1957]),
(739,tU [sV bHt 1958,z 261 1959]),
(740,tU [sV bC1 1960,z 770 1961]),
(741,tU [rV 736,rV 737,rV 738,rV 739,rV 740]),
(742,fV y24 [.none,cV 5]),
(743,fV y24 [.none,cV 2]),
(744,tU []),
(745,fV y25 [rV 744,.none,.none,.none,.bool false,.none]),
(746,dV y1 [eK P aAf 1975 (sV aMf 1952),eK P aAg 1977 (sV aMd 1964),eK P aAj 1979 (z 115 1967),eK P aAi 1981 (z 0 542),eK P aAh 1983 (z 0 543)] 5)]
noncomputable def cA5(p:Program)(P:Params):List (Nat×Obj):=[
(747,⟨rV 169,(some 746),.plain,⟨[]⟩⟩),
(748,dV y4 [eK P q43 1968 (rV 747),eK P aAf 1969 (sV aMf 1952),eK P aAg 1970 (sV aMd 1964),eK P aAj 1971 (z 115 1967),eK P aAi 1972 (z 0 542),eK P aAh 1973 (z 0 543)] 6),
(749,fV y24 [.none,cV 2]),
(750,tU []),
(751,fV y25 [rV 750,.none,.none,.none,.bool false,.none]),
(752,dV y1 [eK P aAf 1997 (sV aMe 1954),eK P aAg 1999 (sV aMd 1986),eK P aAj 2001 (z 1048691 1989),eK P aAi 2003 (z 0 542),eK P aAh 2005 (z 0 543)] 5),
(753,⟨rV 169,(some 752),.plain,⟨[]⟩⟩),
(754,dV y4 [eK P q43 1990 (rV 753),eK P aAf 1991 (sV aMe 1954),eK P aAg 1992 (sV aMd 1986),eK P aAj 1993 (z 1048691 1989),eK P aAi 1994 (z 0 542),eK P aAh 1995 (z 0 543)] 6),
(755,fV y24 [.none,cV 2]),
(756,tU []),
(757,fV y25 [rV 756,.none,.none,.none,.bool false,.none]),
(758,dV y1 [eK P aAf 2019 (sV bHu 1956),eK P aAg 2021 (sV aMd 2008),eK P aAj 2023 (z 270532723 2011),eK P aAi 2025 (z 0 542),eK P aAh 2027 (z 0 543)] 5),
(759,⟨rV 169,(some 758),.plain,⟨[]⟩⟩),
(760,dV y4 [eK P q43 2012 (rV 759),eK P aAf 2013 (sV bHu 1956),eK P aAg 2014 (sV aMd 2008),eK P aAj 2015 (z 270532723 2011),eK P aAi 2016 (z 0 542),eK P aAh 2017 (z 0 543)] 6),
(761,fV y24 [.none,cV 2]),
(762,tU []),
(763,fV y25 [rV 762,.none,.none,.none,.bool false,.none]),
(764,dV y1 [eK P aAf 2041 (sV bHt 1958),eK P aAg 2043 (sV aMd 2030),eK P aAj 2045 (z 273678451 2033),eK P aAi 2047 (z 0 542),eK P aAh 2049 (z 0 543)] 5),
(765,⟨rV 169,(some 764),.plain,⟨[]⟩⟩),
(766,dV y4 [eK P q43 2034 (rV 765),eK P aAf 2035 (sV bHt 1958),eK P aAg 2036 (sV aMd 2030),eK P aAj 2037 (z 273678451 2033),eK P aAi 2038 (z 0 542),eK P aAh 2039 (z 0 543)] 6),
(767,fV y24 [.none,cV 2]),
(768,tU []),
(769,fV y25 [rV 768,.none,.none,.none,.bool false,.none]),
(770,dV y1 [eK P aAf 2063 (sV bC1 1960),eK P aAg 2065 (sV aMd 2052),eK P aAj 2067 (z 807403635 2055),eK P aAi 2069 (z 0 542),eK P aAh 2071 (z 0 543)] 5),
(771,⟨rV 169,(some 770),.plain,⟨[]⟩⟩),
(772,dV y4 [eK P q43 2056 (rV 771),eK P aAf 2057 (sV bC1 1960),eK P aAg 2058 (sV aMd 2052),eK P aAj 2059 (z 807403635 2055),eK P aAi 2060 (z 0 542),eK P aAh 2061 (z 0 543)] 6),
(773,tU []),
(774,fV y25 [rV 773,.none,.none,.none,.bool false,.none])]
noncomputable def D6(p:Program)(P:Params):List (Nat×Obj):=apL (cA8 p P) (apL (cA7 p P) (apL (cA6 p P) (cA5 p P)))
noncomputable def T6(p:Program)(P:Params):BT:=aC9 (T5 p P) (D6 p P)
noncomputable def S6(p:Program)(w:World)(os:OsState):SharedT:=⟨T6 p w.params,775,aBn,#[],boot_drawn,2072,os⟩
noncomputable def D7(p:Program)(P:Params):List (Nat×Obj):=[]
noncomputable def T7(p:Program)(P:Params):BT:=aC9 (T6 p P) (D7 p P)
noncomputable def S7(p:Program)(w:World)(os:OsState):SharedT:=⟨T7 p w.params,775,aBn,#[],boot_drawn,2072,os⟩
noncomputable def cA4(p:Program)(P:Params):List (Nat×Obj):=[
(191,dV y1 [eK P q36 606 (sV q4 346),eK P q38 608 (sV aF6 607),eK P q39 610 (z 102 609),eK P aWg 2072 (rV 209)] 4)]
noncomputable def D8(p:Program)(P:Params):List (Nat×Obj):=cA4 p P
noncomputable def T8(p:Program)(P:Params):BT:=aC9 (T7 p P) (D8 p P)
noncomputable def S8(p:Program)(w:World)(os:OsState):SharedT:=⟨T8 p w.params,775,aBn,#[],boot_drawn,2073,os⟩
noncomputable def cA3(p:Program)(P:Params):List (Nat×Obj):=[
(191,dV y1 [eK P q36 606 (sV q4 346),eK P q38 608 (sV aF6 607),eK P q39 610 (z 102 609),eK P aWg 2072 (rV 209),eK P aQ2 2250 (rV 776),eK P aWf 2493 (rV 781)] 6),
(775,fV y22 [.none,cV 59]),
(776,dV y1 [eK P bLo 611 (rV 198),eK P bLn 629 (rV 201),eK P aNb 647 (rV 204),eK P bLm 665 (rV 207),eK P bAj 692 (rV 220),eK P bAi 693 (rV 227),eK P bAh 696 (rV 242),eK P bAg 697 (rV 249),eK P bAf 698 (rV 256),eK P aTu 699 (rV 263),eK P bAe 836 (rV 277),eK P bAd 837 (rV 284),eK P aJ9 838 (rV 291),eK P bAc 840 (rV 302),eK P aTt 841 (rV 309),eK P bAb 954 (rV 323),eK P bAa 955 (rV 330),eK P aTs 956 (rV 337),eK P aJ8 1025 (rV 351),eK P aZ9 1027 (rV 362),eK P aZ8 1028 (rV 369),eK P aZ7 1029 (rV 376),eK P aZ6 1031 (rV 387),eK P aTr 1032 (rV 394),eK P aZ5 1170 (rV 412),eK P aTq 1174 (rV 431),eK P aTp 1245 (rV 465),eK P aDk 1294 (rV 479),eK P aWp 1295 (rV 486),eK P aWo 1296 (rV 493),eK P aWn 1297 (rV 500),eK P aWm 1298 (rV 507),eK P aWl 1299 (rV 514),eK P aWk 1300 (rV 521),eK P aQ4 1301 (rV 528),eK P aIn 1471 (rV 542),eK P aQ3 1476 (rV 565),eK P aIm 1542 (rV 579),eK P aIl 1543 (rV 586),eK P aIk 1544 (rV 593),eK P aIj 1545 (rV 600),eK P aIi 1546 (rV 607),eK P aIh 1547 (rV 614),eK P aIg 1548 (rV 621),eK P aG3 1549 (rV 628),eK P aAx 1718 (rV 642),eK P aWj 1719 (rV 649),eK P bC0 1769 (rV 667),eK P bCz 1770 (rV 674),eK P aWi 1771 (rV 681),eK P bCy 1849 (rV 715),eK P bCx 1850 (rV 722),eK P aWh 1851 (rV 729),eK P bLl 1932 (rV 734),eK P aMf 1952 (rV 747),eK P aMe 1954 (rV 753),eK P bHu 1956 (rV 759),eK P bHt 1958 (rV 765),eK P bC1 1960 (rV 771)] 59),
(777,dV y1 [] 2),
(778,tU []),
(779,fV y25 [rV 778,.none,.none,.none,.bool false,.none]),
(780,fV y22 [.none,cV 59]),
(781,dV y1 [⟨.ofNat 55,z 55 469,rV 198⟩,⟨.ofNat 23,z 23 463,rV 201⟩,⟨.ofNat 111,z 111 475,rV 204⟩] 3),
(782,dV y1 [] 2),
(783,tU [sV aA8 2253,sV aA9 2254]),
(784,tU [sV aA8 2259,sV aA9 2260]),
(785,tU [sV aA8 2265,sV aA9 2266]),
(786,tU [sV aA8 2271,sV aA9 2272]),
(787,tU [sV aA8 2275,sV aA9 2276]),
(788,tU [sV aA8 2279,sV aA9 2280]),
(789,tU [sV aA8 2283,sV aA9 2284]),
(790,tU [sV aA8 2287,sV aA9 2288]),
(791,tU [sV aA8 2291,sV aA9 2292]),
(792,tU [sV aA8 2295,sV aA9 2296]),
(793,tU [sV aA8 2299,sV aA9 2300]),
(794,tU [sV aA8 2303,sV aA9 2304]),
(795,tU [sV aA8 2307,sV aA9 2308]),
(796,tU [sV aA8 2311,sV aA9 2312]),
(797,tU [sV aA8 2315,sV aA9 2316]),
(798,tU [sV aA8 2319,sV aA9 2320]),
(799,tU [sV aA8 2323,sV aA9 2324]),
(800,tU [sV aA8 2327,sV aA9 2328]),
(801,tU [sV aA8 2331,sV aA9 2332]),
(802,tU [sV aA8 2335,sV aA9 2336]),
(803,tU [sV aA8 2339,sV aA9 2340]),
(804,tU [sV aA8 2343,sV aA9 2344]),
(805,tU [sV aA8 2347,sV aA9 2348]),
(806,tU [sV aA8 2351,sV aA9 2352]),
(807,tU [sV aA8 2355,sV aA9 2356]),
(808,tU [sV aA8 2359,sV aA9 2360]),
(809,tU [sV aA8 2363,sV aA9 2364]),
(810,tU [sV aA8 2367,sV aA9 2368]),
(811,tU [sV aA8 2371,sV aA9 2372]),
(812,tU [sV aA8 2375,sV aA9 2376]),
(813,tU [sV aA8 2379,sV aA9 2380]),
(814,tU [sV aA8 2383,sV aA9 2384]),
(815,tU [sV aA8 2387,sV aA9 2388]),
(816,tU [sV aA8 2391,sV aA9 2392]),
(817,tU [sV aA8 2395,sV aA9 2396]),
(818,tU [sV aA8 2399,sV aA9 2400]),
(819,tU [sV aA8 2403,sV aA9 2404]),
(820,tU [sV aA8 2407,sV aA9 2408]),
(821,tU [sV aA8 2411,sV aA9 2412]),
(822,tU [sV aA8 2415,sV aA9 2416]),
(823,tU [sV aA8 2419,sV aA9 2420]),
(824,tU [sV aA8 2423,sV aA9 2424]),
(825,tU [sV aA8 2427,sV aA9 2428]),
(826,tU [sV aA8 2431,sV aA9 2432]),
(827,tU [sV aA8 2435,sV aA9 2436]),
(828,tU [sV aA8 2439,sV aA9 2440]),
(829,tU [sV aA8 2443,sV aA9 2444]),
(830,tU [sV aA8 2447,sV aA9 2448]),
(831,tU [sV aA8 2451,sV aA9 2452]),
(832,tU [sV aA8 2455,sV aA9 2456]),
(833,tU [sV aA8 2459,sV aA9 2460])]
noncomputable def cA2(p:Program)(P:Params):List (Nat×Obj):=[
(834,tU [sV aA8 2463,sV aA9 2464]),
(835,tU [sV aA8 2467,sV aA9 2468]),
(836,tU [sV aA8 2471,sV aA9 2472]),
(837,tU [sV aA8 2475,sV aA9 2476]),
(838,tU [sV aA8 2479,sV aA9 2480]),
(839,tU [sV aA8 2483,sV aA9 2484]),
(840,tU [sV aA8 2487,sV aA9 2488]),
(841,tU [sV aA8 2491,sV aA9 2492]),
(842,tU []),
(843,fV y25 [rV 842,.none,.none,.none,.bool false,.none])]
noncomputable def D9(p:Program)(P:Params):List (Nat×Obj):=apL (cA3 p P) (cA2 p P)
noncomputable def T9(p:Program)(P:Params):BT:=aC9 (T8 p P) (D9 p P)
noncomputable def S9(p:Program)(w:World)(os:OsState):SharedT:=⟨T9 p w.params,844,aBn,#[],boot_drawn,2494,os⟩
noncomputable def bPc(p:Program)(P:Params):List (Nat×Obj):=[
(191,dV y1 [eK P q36 606 (sV q4 346),eK P q38 608 (sV aF6 607),eK P q39 610 (z 102 609),eK P aWg 2072 (rV 209),eK P aQ2 2250 (rV 776),eK P aWf 2493 (rV 781),eK P aZ4 3285 (rV 845)] 7),
(844,fV y22 [.none,cV 59]),
(845,dV y1 [⟨.ofNat 103,z 103 2535,rV 207⟩,⟨.ofNat 99,z 99 2554,rV 220⟩,⟨.ofNat 4195,z 4195 2573,rV 227⟩,⟨.ofNat 16483,z 16483 2592,rV 242⟩,⟨.ofNat 20579,z 20579 2611,rV 249⟩,⟨.ofNat 24675,z 24675 2630,rV 256⟩,⟨.ofNat 28771,z 28771 2649,rV 263⟩,⟨.ofNat 3,z 3 2668,rV 277⟩,⟨.ofNat 4099,z 4099 2687,rV 284⟩,⟨.ofNat 8195,z 8195 2706,rV 291⟩,⟨.ofNat 16387,z 16387 2725,rV 302⟩,⟨.ofNat 20483,z 20483 2744,rV 309⟩,⟨.ofNat 35,z 35 2763,rV 323⟩,⟨.ofNat 4131,z 4131 2782,rV 330⟩,⟨.ofNat 8227,z 8227 2801,rV 337⟩,⟨.ofNat 19,z 19 2820,rV 351⟩,⟨.ofNat 8211,z 8211 2839,rV 362⟩,⟨.ofNat 12307,z 12307 2858,rV 369⟩,⟨.ofNat 16403,z 16403 2877,rV 376⟩,⟨.ofNat 24595,z 24595 2896,rV 387⟩,⟨.ofNat 28691,z 28691 2915,rV 394⟩,⟨.ofNat 15,z 15 3102,rV 642⟩,⟨.ofNat 4111,z 4111 3121,rV 649⟩,⟨.ofNat 4211,z 4211 3140,rV 667⟩,⟨.ofNat 8307,z 8307 3159,rV 674⟩,⟨.ofNat 12403,z 12403 3178,rV 681⟩,⟨.ofNat 20595,z 20595 3197,rV 715⟩,⟨.ofNat 24691,z 24691 3216,rV 722⟩,⟨.ofNat 28787,z 28787 3235,rV 729⟩] 29),
(846,dV y1 [] 2),
(847,tU [sV aAs 2496,sV aA3 2497,sV aAw 2498,sV aAx 2499,sV aA2 2500,sV aA1 2501]),
(848,tU [sV aAs 2504,sV aA3 2505,sV aAw 2506,sV aAx 2507,sV aA2 2508,sV aA1 2509]),
(849,tU [sV aAs 2512,sV aA3 2513,sV aAw 2514,sV aAx 2515,sV aA2 2516,sV aA1 2517]),
(850,tU [sV aAs 2520,sV aA3 2521,sV aAw 2522,sV aAx 2523,sV aA2 2524,sV aA1 2525]),
(851,dV y4 [eK P q43 2526 (rV 207)] 1),
(852,tU [sV aAs 2539,sV aA3 2540,sV aAw 2541,sV aAx 2542,sV aA2 2543,sV aA1 2544]),
(853,dV y4 [eK P q43 2545 (rV 220)] 1),
(854,tU [sV aAs 2558,sV aA3 2559,sV aAw 2560,sV aAx 2561,sV aA2 2562,sV aA1 2563]),
(855,dV y4 [eK P q43 2564 (rV 227)] 1),
(856,tU [sV aAs 2577,sV aA3 2578,sV aAw 2579,sV aAx 2580,sV aA2 2581,sV aA1 2582]),
(857,dV y4 [eK P q43 2583 (rV 242)] 1),
(858,tU [sV aAs 2596,sV aA3 2597,sV aAw 2598,sV aAx 2599,sV aA2 2600,sV aA1 2601]),
(859,dV y4 [eK P q43 2602 (rV 249)] 1),
(860,tU [sV aAs 2615,sV aA3 2616,sV aAw 2617,sV aAx 2618,sV aA2 2619,sV aA1 2620]),
(861,dV y4 [eK P q43 2621 (rV 256)] 1),
(862,tU [sV aAs 2634,sV aA3 2635,sV aAw 2636,sV aAx 2637,sV aA2 2638,sV aA1 2639]),
(863,dV y4 [eK P q43 2640 (rV 263)] 1),
(864,tU [sV aAs 2653,sV aA3 2654,sV aAw 2655,sV aAx 2656,sV aA2 2657,sV aA1 2658]),
(865,dV y4 [eK P q43 2659 (rV 277)] 1),
(866,tU [sV aAs 2672,sV aA3 2673,sV aAw 2674,sV aAx 2675,sV aA2 2676,sV aA1 2677]),
(867,dV y4 [eK P q43 2678 (rV 284)] 1),
(868,tU [sV aAs 2691,sV aA3 2692,sV aAw 2693,sV aAx 2694,sV aA2 2695,sV aA1 2696]),
(869,dV y4 [eK P q43 2697 (rV 291)] 1),
(870,tU [sV aAs 2710,sV aA3 2711,sV aAw 2712,sV aAx 2713,sV aA2 2714,sV aA1 2715]),
(871,dV y4 [eK P q43 2716 (rV 302)] 1),
(872,tU [sV aAs 2729,sV aA3 2730,sV aAw 2731,sV aAx 2732,sV aA2 2733,sV aA1 2734]),
(873,dV y4 [eK P q43 2735 (rV 309)] 1),
(874,tU [sV aAs 2748,sV aA3 2749,sV aAw 2750,sV aAx 2751,sV aA2 2752,sV aA1 2753]),
(875,dV y4 [eK P q43 2754 (rV 323)] 1),
(876,tU [sV aAs 2767,sV aA3 2768,sV aAw 2769,sV aAx 2770,sV aA2 2771,sV aA1 2772]),
(877,dV y4 [eK P q43 2773 (rV 330)] 1),
(878,tU [sV aAs 2786,sV aA3 2787,sV aAw 2788,sV aAx 2789,sV aA2 2790,sV aA1 2791]),
(879,dV y4 [eK P q43 2792 (rV 337)] 1),
(880,tU [sV aAs 2805,sV aA3 2806,sV aAw 2807,sV aAx 2808,sV aA2 2809,sV aA1 2810]),
(881,dV y4 [eK P q43 2811 (rV 351)] 1),
(882,tU [sV aAs 2824,sV aA3 2825,sV aAw 2826,sV aAx 2827,sV aA2 2828,sV aA1 2829]),
(883,dV y4 [eK P q43 2830 (rV 362)] 1),
(884,tU [sV aAs 2843,sV aA3 2844,sV aAw 2845,sV aAx 2846,sV aA2 2847,sV aA1 2848]),
(885,dV y4 [eK P q43 2849 (rV 369)] 1),
(886,tU [sV aAs 2862,sV aA3 2863,sV aAw 2864,sV aAx 2865,sV aA2 2866,sV aA1 2867]),
(887,dV y4 [eK P q43 2868 (rV 376)] 1),
(888,tU [sV aAs 2881,sV aA3 2882,sV aAw 2883,sV aAx 2884,sV aA2 2885,sV aA1 2886]),
(889,dV y4 [eK P q43 2887 (rV 387)] 1),
(890,tU [sV aAs 2900,sV aA3 2901,sV aAw 2902,sV aAx 2903,sV aA2 2904,sV aA1 2905]),
(891,dV y4 [eK P q43 2906 (rV 394)] 1),
(892,tU [sV aAs 2919,sV aA3 2920,sV aAw 2921,sV aAx 2922,sV aA2 2923,sV aA1 2924]),
(893,tU [sV aAs 2927,sV aA3 2928,sV aAw 2929,sV aAx 2930,sV aA2 2931,sV aA1 2932]),
(894,tU [sV aAs 2935,sV aA3 2936,sV aAw 2937,sV aAx 2938,sV aA2 2939,sV aA1 2940]),
(895,tU [sV aAs 2943,sV aA3 2944,sV aAw 2945,sV aAx 2946,sV aA2 2947,sV aA1 2948]),
(896,tU [sV aAs 2951,sV aA3 2952,sV aAw 2953,sV aAx 2954,sV aA2 2955,sV aA1 2956]),
(897,tU [sV aAs 2959,sV aA3 2960,sV aAw 2961,sV aAx 2962,sV aA2 2963,sV aA1 2964]),
(898,tU [sV aAs 2967,sV aA3 2968,sV aAw 2969,sV aAx 2970,sV aA2 2971,sV aA1 2972]),
(899,tU [sV aAs 2975,sV aA3 2976,sV aAw 2977,sV aAx 2978,sV aA2 2979,sV aA1 2980]),
(900,tU [sV aAs 2983,sV aA3 2984,sV aAw 2985,sV aAx 2986,sV aA2 2987,sV aA1 2988]),
(901,tU [sV aAs 2991,sV aA3 2992,sV aAw 2993,sV aAx 2994,sV aA2 2995,sV aA1 2996]),
(902,tU [sV aAs 2999,sV aA3 3000,sV aAw 3001,sV aAx 3002,sV aA2 3003,sV aA1 3004])]
noncomputable def bPb(p:Program)(P:Params):List (Nat×Obj):=[
(903,tU [sV aAs 3007,sV aA3 3008,sV aAw 3009,sV aAx 3010,sV aA2 3011,sV aA1 3012]),
(904,tU [sV aAs 3015,sV aA3 3016,sV aAw 3017,sV aAx 3018,sV aA2 3019,sV aA1 3020]),
(905,tU [sV aAs 3023,sV aA3 3024,sV aAw 3025,sV aAx 3026,sV aA2 3027,sV aA1 3028]),
(906,tU [sV aAs 3031,sV aA3 3032,sV aAw 3033,sV aAx 3034,sV aA2 3035,sV aA1 3036]),
(907,tU [sV aAs 3039,sV aA3 3040,sV aAw 3041,sV aAx 3042,sV aA2 3043,sV aA1 3044]),
(908,tU [sV aAs 3047,sV aA3 3048,sV aAw 3049,sV aAx 3050,sV aA2 3051,sV aA1 3052]),
(909,tU [sV aAs 3055,sV aA3 3056,sV aAw 3057,sV aAx 3058,sV aA2 3059,sV aA1 3060]),
(910,tU [sV aAs 3063,sV aA3 3064,sV aAw 3065,sV aAx 3066,sV aA2 3067,sV aA1 3068]),
(911,tU [sV aAs 3071,sV aA3 3072,sV aAw 3073,sV aAx 3074,sV aA2 3075,sV aA1 3076]),
(912,tU [sV aAs 3079,sV aA3 3080,sV aAw 3081,sV aAx 3082,sV aA2 3083,sV aA1 3084]),
(913,tU [sV aAs 3087,sV aA3 3088,sV aAw 3089,sV aAx 3090,sV aA2 3091,sV aA1 3092]),
(914,dV y4 [eK P q43 3093 (rV 642)] 1),
(915,tU [sV aAs 3106,sV aA3 3107,sV aAw 3108,sV aAx 3109,sV aA2 3110,sV aA1 3111]),
(916,dV y4 [eK P q43 3112 (rV 649)] 1),
(917,tU [sV aAs 3125,sV aA3 3126,sV aAw 3127,sV aAx 3128,sV aA2 3129,sV aA1 3130]),
(918,dV y4 [eK P q43 3131 (rV 667)] 1),
(919,tU [sV aAs 3144,sV aA3 3145,sV aAw 3146,sV aAx 3147,sV aA2 3148,sV aA1 3149]),
(920,dV y4 [eK P q43 3150 (rV 674)] 1),
(921,tU [sV aAs 3163,sV aA3 3164,sV aAw 3165,sV aAx 3166,sV aA2 3167,sV aA1 3168]),
(922,dV y4 [eK P q43 3169 (rV 681)] 1),
(923,tU [sV aAs 3182,sV aA3 3183,sV aAw 3184,sV aAx 3185,sV aA2 3186,sV aA1 3187]),
(924,dV y4 [eK P q43 3188 (rV 715)] 1),
(925,tU [sV aAs 3201,sV aA3 3202,sV aAw 3203,sV aAx 3204,sV aA2 3205,sV aA1 3206]),
(926,dV y4 [eK P q43 3207 (rV 722)] 1),
(927,tU [sV aAs 3220,sV aA3 3221,sV aAw 3222,sV aAx 3223,sV aA2 3224,sV aA1 3225]),
(928,dV y4 [eK P q43 3226 (rV 729)] 1),
(929,tU [sV aAs 3239,sV aA3 3240,sV aAw 3241,sV aAx 3242,sV aA2 3243,sV aA1 3244]),
(930,tU [sV aAs 3247,sV aA3 3248,sV aAw 3249,sV aAx 3250,sV aA2 3251,sV aA1 3252]),
(931,tU [sV aAs 3255,sV aA3 3256,sV aAw 3257,sV aAx 3258,sV aA2 3259,sV aA1 3260]),
(932,tU [sV aAs 3263,sV aA3 3264,sV aAw 3265,sV aAx 3266,sV aA2 3267,sV aA1 3268]),
(933,tU [sV aAs 3271,sV aA3 3272,sV aAw 3273,sV aAx 3274,sV aA2 3275,sV aA1 3276]),
(934,tU [sV aAs 3279,sV aA3 3280,sV aAw 3281,sV aAx 3282,sV aA2 3283,sV aA1 3284]),
(935,tU []),
(936,fV y25 [rV 935,.none,.none,.none,.bool false,.none])]
noncomputable def D10(p:Program)(P:Params):List (Nat×Obj):=apL (bPc p P) (bPb p P)
noncomputable def T10(p:Program)(P:Params):BT:=aC9 (T9 p P) (D10 p P)
noncomputable def S10(p:Program)(w:World)(os:OsState):SharedT:=⟨T10 p w.params,937,aBn,#[],boot_drawn,3286,os⟩
noncomputable def bPa(p:Program)(P:Params):List (Nat×Obj):=[
(191,dV y1 [eK P q36 606 (sV q4 346),eK P q38 608 (sV aF6 607),eK P q39 610 (z 102 609),eK P aWg 2072 (rV 209),eK P aQ2 2250 (rV 776),eK P aWf 2493 (rV 781),eK P aZ4 3285 (rV 845),eK P bCw 3823 (rV 938)] 8),
(937,fV y22 [.none,cV 59]),
(938,dV y1 [⟨.ofNat 4115,z 4115 3420,rV 412⟩,⟨.ofNat 20499,z 20499 3436,rV 431⟩,⟨.ofNat 1073762323,z 1073762323 3452,rV 465⟩,⟨.ofNat 51,z 51 3468,rV 479⟩,⟨.ofNat 4147,z 4147 3484,rV 486⟩,⟨.ofNat 8243,z 8243 3500,rV 493⟩,⟨.ofNat 12339,z 12339 3516,rV 500⟩,⟨.ofNat 16435,z 16435 3532,rV 507⟩,⟨.ofNat 20531,z 20531 3548,rV 514⟩,⟨.ofNat 24627,z 24627 3564,rV 521⟩,⟨.ofNat 28723,z 28723 3580,rV 528⟩,⟨.ofNat 1073741875,z 1073741875 3596,rV 542⟩,⟨.ofNat 1073762355,z 1073762355 3612,rV 565⟩,⟨.ofNat 33554483,z 33554483 3628,rV 579⟩,⟨.ofNat 33558579,z 33558579 3644,rV 586⟩,⟨.ofNat 33562675,z 33562675 3660,rV 593⟩,⟨.ofNat 33566771,z 33566771 3676,rV 600⟩,⟨.ofNat 33570867,z 33570867 3692,rV 607⟩,⟨.ofNat 33574963,z 33574963 3708,rV 614⟩,⟨.ofNat 33579059,z 33579059 3724,rV 621⟩,⟨.ofNat 33583155,z 33583155 3740,rV 628⟩,⟨.ofNat 301990003,z 301990003 3796,rV 734⟩] 22),
(939,dV y1 [] 2),
(940,tU [sV aAm 3288,sV aA0 3289,sV aAz 3290]),
(941,tU [sV aAm 3293,sV aA0 3294,sV aAz 3295]),
(942,tU [sV aAm 3298,sV aA0 3299,sV aAz 3300]),
(943,tU [sV aAm 3303,sV aA0 3304,sV aAz 3305]),
(944,tU [sV aAm 3308,sV aA0 3309,sV aAz 3310]),
(945,tU [sV aAm 3313,sV aA0 3314,sV aAz 3315]),
(946,tU [sV aAm 3318,sV aA0 3319,sV aAz 3320]),
(947,tU [sV aAm 3323,sV aA0 3324,sV aAz 3325]),
(948,tU [sV aAm 3328,sV aA0 3329,sV aAz 3330]),
(949,tU [sV aAm 3333,sV aA0 3334,sV aAz 3335]),
(950,tU [sV aAm 3338,sV aA0 3339,sV aAz 3340]),
(951,tU [sV aAm 3343,sV aA0 3344,sV aAz 3345]),
(952,tU [sV aAm 3348,sV aA0 3349,sV aAz 3350]),
(953,tU [sV aAm 3353,sV aA0 3354,sV aAz 3355]),
(954,tU [sV aAm 3358,sV aA0 3359,sV aAz 3360]),
(955,tU [sV aAm 3363,sV aA0 3364,sV aAz 3365]),
(956,tU [sV aAm 3368,sV aA0 3369,sV aAz 3370]),
(957,tU [sV aAm 3373,sV aA0 3374,sV aAz 3375]),
(958,tU [sV aAm 3378,sV aA0 3379,sV aAz 3380]),
(959,tU [sV aAm 3383,sV aA0 3384,sV aAz 3385]),
(960,tU [sV aAm 3388,sV aA0 3389,sV aAz 3390]),
(961,tU [sV aAm 3393,sV aA0 3394,sV aAz 3395]),
(962,tU [sV aAm 3398,sV aA0 3399,sV aAz 3400]),
(963,tU [sV aAm 3403,sV aA0 3404,sV aAz 3405]),
(964,tU [sV aAm 3408,sV aA0 3409,sV aAz 3410]),
(965,dV y4 [eK P q43 3411 (rV 412)] 1),
(966,tU [sV aAm 3424,sV aA0 3425,sV aAz 3426]),
(967,dV y4 [eK P q43 3427 (rV 431)] 1),
(968,tU [sV aAm 3440,sV aA0 3441,sV aAz 3442]),
(969,dV y4 [eK P q43 3443 (rV 465)] 1),
(970,tU [sV aAm 3456,sV aA0 3457,sV aAz 3458]),
(971,dV y4 [eK P q43 3459 (rV 479)] 1),
(972,tU [sV aAm 3472,sV aA0 3473,sV aAz 3474]),
(973,dV y4 [eK P q43 3475 (rV 486)] 1),
(974,tU [sV aAm 3488,sV aA0 3489,sV aAz 3490]),
(975,dV y4 [eK P q43 3491 (rV 493)] 1),
(976,tU [sV aAm 3504,sV aA0 3505,sV aAz 3506]),
(977,dV y4 [eK P q43 3507 (rV 500)] 1),
(978,tU [sV aAm 3520,sV aA0 3521,sV aAz 3522]),
(979,dV y4 [eK P q43 3523 (rV 507)] 1),
(980,tU [sV aAm 3536,sV aA0 3537,sV aAz 3538]),
(981,dV y4 [eK P q43 3539 (rV 514)] 1),
(982,tU [sV aAm 3552,sV aA0 3553,sV aAz 3554]),
(983,dV y4 [eK P q43 3555 (rV 521)] 1),
(984,tU [sV aAm 3568,sV aA0 3569,sV aAz 3570]),
(985,dV y4 [eK P q43 3571 (rV 528)] 1),
(986,tU [sV aAm 3584,sV aA0 3585,sV aAz 3586]),
(987,dV y4 [eK P q43 3587 (rV 542)] 1),
(988,tU [sV aAm 3600,sV aA0 3601,sV aAz 3602]),
(989,dV y4 [eK P q43 3603 (rV 565)] 1),
(990,tU [sV aAm 3616,sV aA0 3617,sV aAz 3618]),
(991,dV y4 [eK P q43 3619 (rV 579)] 1),
(992,tU [sV aAm 3632,sV aA0 3633,sV aAz 3634]),
(993,dV y4 [eK P q43 3635 (rV 586)] 1),
(994,tU [sV aAm 3648,sV aA0 3649,sV aAz 3650]),
(995,dV y4 [eK P q43 3651 (rV 593)] 1)]
noncomputable def bO9(p:Program)(P:Params):List (Nat×Obj):=[
(996,tU [sV aAm 3664,sV aA0 3665,sV aAz 3666]),
(997,dV y4 [eK P q43 3667 (rV 600)] 1),
(998,tU [sV aAm 3680,sV aA0 3681,sV aAz 3682]),
(999,dV y4 [eK P q43 3683 (rV 607)] 1),
(1000,tU [sV aAm 3696,sV aA0 3697,sV aAz 3698]),
(1001,dV y4 [eK P q43 3699 (rV 614)] 1),
(1002,tU [sV aAm 3712,sV aA0 3713,sV aAz 3714]),
(1003,dV y4 [eK P q43 3715 (rV 621)] 1),
(1004,tU [sV aAm 3728,sV aA0 3729,sV aAz 3730]),
(1005,dV y4 [eK P q43 3731 (rV 628)] 1),
(1006,tU [sV aAm 3744,sV aA0 3745,sV aAz 3746]),
(1007,tU [sV aAm 3749,sV aA0 3750,sV aAz 3751]),
(1008,tU [sV aAm 3754,sV aA0 3755,sV aAz 3756]),
(1009,tU [sV aAm 3759,sV aA0 3760,sV aAz 3761]),
(1010,tU [sV aAm 3764,sV aA0 3765,sV aAz 3766]),
(1011,tU [sV aAm 3769,sV aA0 3770,sV aAz 3771]),
(1012,tU [sV aAm 3774,sV aA0 3775,sV aAz 3776]),
(1013,tU [sV aAm 3779,sV aA0 3780,sV aAz 3781]),
(1014,tU [sV aAm 3784,sV aA0 3785,sV aAz 3786]),
(1015,dV y4 [eK P q43 3787 (rV 734)] 1),
(1016,tU [sV aAm 3800,sV aA0 3801,sV aAz 3802]),
(1017,tU [sV aAm 3805,sV aA0 3806,sV aAz 3807]),
(1018,tU [sV aAm 3810,sV aA0 3811,sV aAz 3812]),
(1019,tU [sV aAm 3815,sV aA0 3816,sV aAz 3817]),
(1020,tU [sV aAm 3820,sV aA0 3821,sV aAz 3822]),
(1021,tU []),
(1022,fV y25 [rV 1021,.none,.none,.none,.bool false,.none])]
noncomputable def D11(p:Program)(P:Params):List (Nat×Obj):=apL (bPa p P) (bO9 p P)
noncomputable def T11(p:Program)(P:Params):BT:=aC9 (T10 p P) (D11 p P)
noncomputable def S11(p:Program)(w:World)(os:OsState):SharedT:=⟨T11 p w.params,1023,aBn,#[],boot_drawn,3824,os⟩
noncomputable def bO8(p:Program)(P:Params):List (Nat×Obj):=[
(191,dV y1 [eK P q36 606 (sV q4 346),eK P q38 608 (sV aF6 607),eK P q39 610 (z 102 609),eK P aWg 2072 (rV 209),eK P aQ2 2250 (rV 776),eK P aWf 2493 (rV 781),eK P aZ4 3285 (rV 845),eK P bCw 3823 (rV 938),eK P aTo 4011 (rV 1024)] 9),
(1023,fV y22 [.none,cV 59]),
(1024,dV y1 [⟨.ofNat 115,z 115 1967,rV 747⟩,⟨.ofNat 1048691,z 1048691 1989,rV 753⟩,⟨.ofNat 270532723,z 270532723 2011,rV 759⟩,⟨.ofNat 273678451,z 273678451 2033,rV 765⟩,⟨.ofNat 807403635,z 807403635 2055,rV 771⟩] 5),
(1025,dV y1 [] 2),
(1026,tU []),
(1027,fV y25 [rV 1026,.none,.none,.none,.bool false,.none])]
noncomputable def D12(p:Program)(P:Params):List (Nat×Obj):=bO8 p P
noncomputable def T12(p:Program)(P:Params):BT:=aC9 (T11 p P) (D12 p P)
noncomputable def S12(p:Program)(w:World)(os:OsState):SharedT:=⟨T12 p w.params,1028,aBn,#[],boot_drawn,4012,os⟩
noncomputable def bO7(p:Program)(P:Params):List (Nat×Obj):=[
(3,dV y1 [eK P q3 165 (sV q4 346),eK P q5 166 .none,eK P q6 167 .none,eK P q7 168 (.builtin y5),eK P q8 169 .none,eK P q9 170 (rV 6),eK P q10 171 (rV 4),eK P q11 173 (sV q1 172),eK P q12 174 .none,eK P q13 193 (rV 21),eK P q14 223 (rV 39),eK P q15 239 (rV 52),eK P q16 264 (rV 71),eK P q17 289 (rV 90),eK P q18 345 (rV 110),eK P q19 456 (rV 113),eK P q20 458 (z 3 457),eK P q21 460 (z 15 459),eK P q22 462 (z 19 461),eK P q23 464 (z 23 463),eK P q24 466 (z 35 465),eK P q25 468 (z 51 467),eK P q26 470 (z 55 469),eK P q27 472 (z 99 471),eK P q28 474 (z 103 473),eK P q29 476 (z 111 475),eK P q30 478 (z 115 477),eK P q31 529 (rV 140),eK P q32 575 (rV 169),eK P q33 589 (rV 181),eK P q34 598 (rV 188),eK P aF6 4019 (rV 1030)] 32),
(191,dV y1 [eK P q36 606 (sV q4 346),eK P q38 608 (sV aF6 607),eK P q39 610 (z 102 609),eK P aWg 2072 (rV 209),eK P aQ2 2250 (rV 776),eK P aWf 2493 (rV 781),eK P aZ4 3285 (rV 845),eK P bCw 3823 (rV 938),eK P aTo 4011 (rV 1024),eK P q41 4012 (rV 1028)] 10),
(1028,tU []),
(1029,dV y1 [eK P q36 606 (sV q4 346),eK P q39 610 (z 102 609),eK P aWg 2072 (rV 209),eK P aQ2 2250 (rV 776),eK P aWf 2493 (rV 781),eK P aZ4 3285 (rV 845),eK P bCw 3823 (rV 938),eK P aTo 4011 (rV 1024),eK P q41 4012 (rV 1028),eK P aFl 4014 (rV 1031),eK P q46 4016 (rV 1032),eK P q5 4017 .none] 4),
(1030,⟨.type y9,none,.cls ⟨aF6,[.type y12],[rV 1030,.type y12],1029,aF6,true,[],[],false,none,false⟩,⟨[none,none,(oV (sV aF6 599)),(oV (sV aF6 607)),(oV (.builtin y18)),(oV (.bool true))]⟩⟩),
(1031,fV y14 [sV aFl 4013,rV 1030,.builtin y19,.builtin y20]),
(1032,fV y14 [sV q46 4015,rV 1030,.builtin y15,.none]),
(1033,fV y16 [rV 1030,rV 1030,rV 1030]),
(1034,fV y7 [.builtin y17,rV 1030])]
noncomputable def D13(p:Program)(P:Params):List (Nat×Obj):=bO7 p P
noncomputable def T13(p:Program)(P:Params):BT:=aC9 (T12 p P) (D13 p P)
noncomputable def S13(p:Program)(w:World)(os:OsState):SharedT:=⟨T13 p w.params,1035,aBn,#[],boot_drawn,4020,os⟩
noncomputable def bO6(p:Program)(P:Params):List (Nat×Obj):=[
(3,dV y1 [eK P q3 165 (sV aBt 4203),eK P q5 166 .none,eK P q6 167 .none,eK P q7 168 (.builtin y5),eK P q8 169 .none,eK P q9 170 (rV 6),eK P q10 171 (rV 4),eK P q11 173 (sV q1 172),eK P q12 174 .none,eK P q13 193 (rV 21),eK P q14 223 (rV 39),eK P q15 239 (rV 52),eK P q16 264 (rV 71),eK P q17 289 (rV 90),eK P q18 345 (rV 110),eK P q19 456 (rV 113),eK P q20 458 (z 3 457),eK P q21 460 (z 15 459),eK P q22 462 (z 19 461),eK P q23 464 (z 23 463),eK P q24 466 (z 35 465),eK P q25 468 (z 51 467),eK P q26 470 (z 55 469),eK P q27 472 (z 99 471),eK P q28 474 (z 103 473),eK P q29 476 (z 111 475),eK P q30 478 (z 115 477),eK P q31 529 (rV 140),eK P q32 575 (rV 169),eK P q33 589 (rV 181),eK P q34 598 (rV 188),eK P aF6 4019 (rV 1030),eK P aNa 4027 (rV 1041),eK P aLf 4035 (rV 1048),eK P aLe 4046 (rV 1055),eK P aLd 4060 (rV 1062),eK P bCv 4064 (z 4294967295 4063),eK P bHs 4066 (z 2147483648 4065),eK P aTo 4068 (z 4294967296 4067),eK P aQb 4075 (rV 1069),eK P aM9 4084 (rV 1076),eK P aDk 4092 (rV 1083),eK P aIn 4100 (rV 1090),eK P aQa 4108 (rV 1097),eK P aP9 4116 (rV 1104),eK P aP8 4124 (rV 1111),eK P aP7 4132 (rV 1118),eK P aIm 4140 (rV 1125),eK P aIl 4148 (rV 1132),eK P aIk 4156 (rV 1139),eK P aIj 4164 (rV 1146),eK P aIh 4172 (rV 1153),eK P aG3 4180 (rV 1160),eK P aIi 4191 (rV 1167),eK P aIg 4202 (rV 1174),eK P bCu 4206 (z 0 4205),eK P bCt 4208 (z 1 4207),eK P bCs 4210 (z 3 4209),eK P bCr 4214 (z 2147483648 4213),eK P bCq 4218 (z 2 4217),eK P bCp 4222 (z 8 4221),eK P bCo 4226 (z 32 4225),eK P bCn 4230 (z 128 4229),eK P bCm 4234 (z 256 4233),eK P bCl 4236 (z 11 4235),eK P bCk 4239 (z 6144 4238),eK P bCj 4243 (z 131072 4242),eK P bCi 4247 (z 262144 4246),eK P bCh 4251 (z 524288 4250),eK P bCg 4260 (z 924074 4259),eK P bCf 4265 (z 786722 4264),eK P bCe 4267 (z 1 4266),eK P bHr 4269 (z 3 4268),eK P bHq 4271 (z 5 4270),eK P bHp 4273 (z 7 4272),eK P bHo 4275 (z 9 4274),eK P bHn 4277 (z 11 4276),eK P bHm 4278 (rV 1175),eK P bCd 4287 (z 546 4286),eK P bCc 4297 (z 2730 4296),eK P bCb 4299 (z 46079 4298),eK P bCa 4303 (z 2147483648 4302),eK P bHl 4309 (z 4194303 4308),eK P bB9 4311 (z 2151677951 4310),eK P bB8 4420 (rV 1178)] 85),
(12,nV [cV 1,cV 0,rV 20,cV 5,cV 0,rV 27,cV 10,cV 0,rV 48,cV 12,cV 0,rV 60,cV 17,cV 0,rV 79,cV 22,cV 0,rV 98,cV 55,cV 0,rV 121,cV 67,cV 0,rV 150,cV 78,cV 0,rV 180,cV 84,cV 0,rV 187,cV 102,cV 0,rV 194,cV 109,cV 0,rV 1040,cV 112,cV 0,rV 1047,cV 115,cV 0,rV 1054,cV 127,cV 0,rV 1061,cV 161,cV 0,rV 1068,cV 163,cV 0,rV 1075,cV 168,cV 0,rV 1082,cV 170,cV 0,rV 1089,cV 172,cV 0,rV 1096,cV 174,cV 0,rV 1103,cV 176,cV 0,rV 1110,cV 178,cV 0,rV 1117,cV 180,cV 0,rV 1124,cV 182,cV 0,rV 1131,cV 184,cV 0,rV 1138,cV 186,cV 0,rV 1145,cV 188,cV 0,rV 1152,cV 190,cV 0,rV 1159,cV 192,cV 0,rV 1166,cV 198,cV 0,rV 1173]),
(1035,tU []),
(1036,nV []),
(1037,tU [sV q47 4023,sV aZ3 4024]),
(1038,tU []),
(1039,uV aNa aNa (F p 25)),
(1040,fV y3 [sV aNa 4020,sV aNa 4021,sV q1 4022,cV 109,cV 1,cV 0,cV 0,cV 3,rV 1035,.bool true,cV 181,rV 1036,.none,rV 1037,rV 1038,rV 1039,cV 4025,cV 109,sV q1 4026]),
(1041,kV aNa aNa (F p 25) .none q4 346 1040),
(1042,tU []),
(1043,nV []),
(1044,tU [sV q47 4031,sV aZ3 4032]),
(1045,tU []),
(1046,uV aLf aLf (F p 26)),
(1047,fV y3 [sV aLf 4028,sV aLf 4029,sV q1 4030,cV 112,cV 1,cV 0,cV 0,cV 3,rV 1042,.bool true,cV 181,rV 1043,.none,rV 1044,rV 1045,rV 1046,cV 4033,cV 112,sV q1 4034]),
(1048,kV aLf aLf (F p 26) .none q4 346 1047),
(1049,tU []),
(1050,nV []),
(1051,tU [sV q47 4039,sV aAj 4040,sV aAi 4041,sV aAh 4042,sV bQm 4043]),
(1052,tU []),
(1053,uV aLe aLe (F p 27)),
(1054,fV y3 [sV aLe 4036,sV aLe 4037,sV q1 4038,cV 115,cV 1,cV 0,cV 0,cV 3,rV 1049,.bool true,cV 181,rV 1050,.none,rV 1051,rV 1052,rV 1053,cV 4044,cV 115,sV q1 4045]),
(1055,kV aLe aLe (F p 27) .none q4 346 1054),
(1056,tU []),
(1057,nV []),
(1058,tU [sV q47 4050,sV bQm 4051,sV aAg 4052,sV bAk 4053,sV bC5 4054,sV bC4 4055,sV bYj 4056,sV aZ3 4057]),
(1059,tU []),
(1060,uV aLd aLd (F p 28)),
(1061,fV y3 [sV aLd 4047,sV aLd 4048,sV q1 4049,cV 127,cV 1,cV 0,cV 0,cV 3,rV 1056,.bool true,cV 181,rV 1057,.none,rV 1058,rV 1059,rV 1060,cV 4058,cV 127,sV q1 4059]),
(1062,kV aLd aLd (F p 28) .none q4 346 1061),
(1063,tU []),
(1064,nV []),
(1065,tU [sV q66 4072]),
(1066,tU []),
(1067,uV aQb aQb (F p 33)),
(1068,fV y3 [sV aQb 4069,sV aQb 4070,sV q1 4071,cV 161,cV 1,cV 0,cV 0,cV 3,rV 1063,.bool true,cV 181,rV 1064,.none,rV 1065,rV 1066,rV 1067,cV 4073,cV 161,sV q1 4074]),
(1069,kV aQb aQb (F p 33) .none aHb 4061 1068),
(1070,tU []),
(1071,nV []),
(1072,tU [sV q66 4079,sV bLk 4080,sV aZ3 4081]),
(1073,tU []),
(1074,uV aM9 aM9 (F p 34)),
(1075,fV y3 [sV aM9 4076,sV aM9 4077,sV q1 4078,cV 163,cV 2,cV 0,cV 0,cV 3,rV 1070,.bool true,cV 181,rV 1071,.none,rV 1072,rV 1073,rV 1074,cV 4082,cV 163,sV q1 4083]),
(1076,kV aM9 aM9 (F p 34) .none aHb 4061 1075),
(1077,tU []),
(1078,nV []),
(1079,tU [sV aE4 4088,sV aE3 4089]),
(1080,tU []),
(1081,uV aDk aDk (F p 35)),
(1082,fV y3 [sV aDk 4085,sV aDk 4086,sV q1 4087,cV 168,cV 2,cV 0,cV 0,cV 3,rV 1077,.bool true,cV 181,rV 1078,.none,rV 1079,rV 1080,rV 1081,cV 4090,cV 168,sV q1 4091]),
(1083,kV aDk aDk (F p 35) .none aHb 4061 1082),
(1084,tU []),
(1085,nV []),
(1086,tU [sV aE4 4096,sV aE3 4097]),
(1087,tU []),
(1088,uV aIn aIn (F p 36)),
(1089,fV y3 [sV aIn 4093,sV aIn 4094,sV q1 4095,cV 170,cV 2,cV 0,cV 0,cV 3,rV 1084,.bool true,cV 181,rV 1085,.none,rV 1086,rV 1087,rV 1088,cV 4098,cV 170,sV q1 4099]),
(1090,kV aIn aIn (F p 36) .none aHb 4061 1089),
(1091,tU []),
(1092,nV [])]
noncomputable def bO5(p:Program)(P:Params):List (Nat×Obj):=[
(1093,tU [sV q66 4104,sV aQ1 4105]),
(1094,tU []),
(1095,uV aQa aQa (F p 37)),
(1096,fV y3 [sV aQa 4101,sV aQa 4102,sV q1 4103,cV 172,cV 2,cV 0,cV 0,cV 3,rV 1091,.bool true,cV 181,rV 1092,.none,rV 1093,rV 1094,rV 1095,cV 4106,cV 172,sV q1 4107]),
(1097,kV aQa aQa (F p 37) .none aHb 4061 1096),
(1098,tU []),
(1099,nV []),
(1100,tU [sV q66 4112,sV aQ1 4113]),
(1101,tU []),
(1102,uV aP9 aP9 (F p 38)),
(1103,fV y3 [sV aP9 4109,sV aP9 4110,sV q1 4111,cV 174,cV 2,cV 0,cV 0,cV 3,rV 1098,.bool true,cV 181,rV 1099,.none,rV 1100,rV 1101,rV 1102,cV 4114,cV 174,sV q1 4115]),
(1104,kV aP9 aP9 (F p 38) .none aHb 4061 1103),
(1105,tU []),
(1106,nV []),
(1107,tU [sV q66 4120,sV aQ1 4121]),
(1108,tU []),
(1109,uV aP8 aP8 (F p 39)),
(1110,fV y3 [sV aP8 4117,sV aP8 4118,sV q1 4119,cV 176,cV 2,cV 0,cV 0,cV 3,rV 1105,.bool true,cV 181,rV 1106,.none,rV 1107,rV 1108,rV 1109,cV 4122,cV 176,sV q1 4123]),
(1111,kV aP8 aP8 (F p 39) .none aHb 4061 1110),
(1112,tU []),
(1113,nV []),
(1114,tU [sV aE4 4128,sV aE3 4129]),
(1115,tU []),
(1116,uV aP7 aP7 (F p 40)),
(1117,fV y3 [sV aP7 4125,sV aP7 4126,sV q1 4127,cV 178,cV 2,cV 0,cV 0,cV 3,rV 1112,.bool true,cV 181,rV 1113,.none,rV 1114,rV 1115,rV 1116,cV 4130,cV 178,sV q1 4131]),
(1118,kV aP7 aP7 (F p 40) .none aHb 4061 1117),
(1119,tU []),
(1120,nV []),
(1121,tU [sV aE4 4136,sV aE3 4137]),
(1122,tU []),
(1123,uV aIm aIm (F p 41)),
(1124,fV y3 [sV aIm 4133,sV aIm 4134,sV q1 4135,cV 180,cV 2,cV 0,cV 0,cV 3,rV 1119,.bool true,cV 181,rV 1120,.none,rV 1121,rV 1122,rV 1123,cV 4138,cV 180,sV q1 4139]),
(1125,kV aIm aIm (F p 41) .none aHb 4061 1124),
(1126,tU []),
(1127,nV []),
(1128,tU [sV aE4 4144,sV aE3 4145]),
(1129,tU []),
(1130,uV aIl aIl (F p 42)),
(1131,fV y3 [sV aIl 4141,sV aIl 4142,sV q1 4143,cV 182,cV 2,cV 0,cV 0,cV 3,rV 1126,.bool true,cV 181,rV 1127,.none,rV 1128,rV 1129,rV 1130,cV 4146,cV 182,sV q1 4147]),
(1132,kV aIl aIl (F p 42) .none aHb 4061 1131),
(1133,tU []),
(1134,nV []),
(1135,tU [sV aE4 4152,sV aE3 4153]),
(1136,tU []),
(1137,uV aIk aIk (F p 43)),
(1138,fV y3 [sV aIk 4149,sV aIk 4150,sV q1 4151,cV 184,cV 2,cV 0,cV 0,cV 3,rV 1133,.bool true,cV 181,rV 1134,.none,rV 1135,rV 1136,rV 1137,cV 4154,cV 184,sV q1 4155]),
(1139,kV aIk aIk (F p 43) .none aHb 4061 1138),
(1140,tU []),
(1141,nV []),
(1142,tU [sV aE4 4160,sV aE3 4161]),
(1143,tU []),
(1144,uV aIj aIj (F p 44)),
(1145,fV y3 [sV aIj 4157,sV aIj 4158,sV q1 4159,cV 186,cV 2,cV 0,cV 0,cV 3,rV 1140,.bool true,cV 181,rV 1141,.none,rV 1142,rV 1143,rV 1144,cV 4162,cV 186,sV q1 4163]),
(1146,kV aIj aIj (F p 44) .none aHb 4061 1145),
(1147,tU []),
(1148,nV []),
(1149,tU [sV aE4 4168,sV aE3 4169]),
(1150,tU []),
(1151,uV aIh aIh (F p 45)),
(1152,fV y3 [sV aIh 4165,sV aIh 4166,sV q1 4167,cV 188,cV 2,cV 0,cV 0,cV 3,rV 1147,.bool true,cV 181,rV 1148,.none,rV 1149,rV 1150,rV 1151,cV 4170,cV 188,sV q1 4171])]
noncomputable def bO4(p:Program)(P:Params):List (Nat×Obj):=[
(1153,kV aIh aIh (F p 45) .none aHb 4061 1152),
(1154,tU []),
(1155,nV []),
(1156,tU [sV aE4 4176,sV aE3 4177]),
(1157,tU []),
(1158,uV aG3 aG3 (F p 46)),
(1159,fV y3 [sV aG3 4173,sV aG3 4174,sV q1 4175,cV 190,cV 2,cV 0,cV 0,cV 3,rV 1154,.bool true,cV 181,rV 1155,.none,rV 1156,rV 1157,rV 1158,cV 4178,cV 190,sV q1 4179]),
(1160,kV aG3 aG3 (F p 46) .none aHb 4061 1159),
(1161,tU []),
(1162,nV []),
(1163,tU [sV aE4 4184,sV aE3 4185,sV bHk 4186,sV bLj 4187,sV bLi 4188]),
(1164,tU []),
(1165,uV aIi aIi (F p 47)),
(1166,fV y3 [sV aIi 4181,sV aIi 4182,sV q1 4183,cV 192,cV 2,cV 0,cV 0,cV 3,rV 1161,.bool true,cV 181,rV 1162,.none,rV 1163,rV 1164,rV 1165,cV 4189,cV 192,sV q1 4190]),
(1167,kV aIi aIi (F p 47) .none aHb 4061 1166),
(1168,tU []),
(1169,nV []),
(1170,tU [sV aE4 4195,sV aE3 4196,sV bHk 4197,sV bLj 4198,sV bYi 4199]),
(1171,tU []),
(1172,uV aIg aIg (F p 48)),
(1173,fV y3 [sV aIg 4192,sV aIg 4193,sV q1 4194,cV 198,cV 2,cV 0,cV 0,cV 3,rV 1168,.bool true,cV 181,rV 1169,.none,rV 1170,rV 1171,rV 1172,cV 4200,cV 198,sV q1 4201]),
(1174,kV aIg aIg (F p 48) .none aHb 4061 1173),
(1175,tU [z 11 4276,z 3 4268,z 7 4272,z 9 4274,z 1 4266,z 5 4270]),
(1176,fV y26 [rV 113]),
(1177,fV y27 [.none,.bool false,.none,cV 36,cV 36,cV 36,sV bAl 452,z 3860 453]),
(1178,dV y1 [⟨.ofNat 256,z 256 349,sV q68 348⟩,⟨.ofNat 260,z 260 352,sV q69 351⟩,⟨.ofNat 261,z 261 355,sV q70 354⟩,⟨.ofNat 262,z 262 358,sV q71 357⟩,⟨.ofNat 320,z 320 361,sV q72 360⟩,⟨.ofNat 321,z 321 364,sV q73 363⟩,⟨.ofNat 322,z 322 367,sV q74 366⟩,⟨.ofNat 323,z 323 370,sV q75 369⟩,⟨.ofNat 324,z 324 373,sV q76 372⟩,⟨.ofNat 384,z 384 376,sV q77 375⟩,⟨.ofNat 768,z 768 379,sV q78 378⟩,⟨.ofNat 769,z 769 382,sV q79 381⟩,⟨.ofNat 770,z 770 385,sV q80 384⟩,⟨.ofNat 771,z 771 388,sV q81 387⟩,⟨.ofNat 772,z 772 391,sV q82 390⟩,⟨.ofNat 773,z 773 394,sV q83 393⟩,⟨.ofNat 774,z 774 397,sV q84 396⟩,⟨.ofNat 832,z 832 400,sV q85 399⟩,⟨.ofNat 833,z 833 403,sV q86 402⟩,⟨.ofNat 834,z 834 406,sV q87 405⟩,⟨.ofNat 835,z 835 409,sV q88 408⟩,⟨.ofNat 836,z 836 412,sV q89 411⟩,⟨.ofNat 2816,z 2816 415,sV q90 414⟩,⟨.ofNat 2818,z 2818 418,sV q91 417⟩,⟨.ofNat 2944,z 2944 421,sV q92 420⟩,⟨.ofNat 2946,z 2946 424,sV q93 423⟩,⟨.ofNat 3072,z 3072 427,sV q94 426⟩,⟨.ofNat 3073,z 3073 430,sV q95 429⟩,⟨.ofNat 3074,z 3074 433,sV q96 432⟩,⟨.ofNat 3200,z 3200 436,sV q97 435⟩,⟨.ofNat 3201,z 3201 439,sV q98 438⟩,⟨.ofNat 3202,z 3202 442,sV q99 441⟩,⟨.ofNat 3857,z 3857 445,sV bC9 444⟩,⟨.ofNat 3858,z 3858 448,sV bC8 447⟩,⟨.ofNat 3859,z 3859 451,sV bC7 450⟩,⟨.ofNat 3860,z 3860 453,sV bAl 452⟩] 36),
(1179,dV y1 [] 4),
(1180,tU [sV q68 348,z 256 349]),
(1181,fV y24 [.none,cV 2]),
(1182,tU []),
(1183,fV y25 [rV 1182,.none,.none,.none,.bool false,.none]),
(1184,tU [sV q69 351,z 260 352]),
(1185,fV y24 [.none,cV 2]),
(1186,tU []),
(1187,fV y25 [rV 1186,.none,.none,.none,.bool false,.none]),
(1188,tU [sV q70 354,z 261 355]),
(1189,fV y24 [.none,cV 2]),
(1190,tU []),
(1191,fV y25 [rV 1190,.none,.none,.none,.bool false,.none]),
(1192,tU [sV q71 357,z 262 358]),
(1193,fV y24 [.none,cV 2]),
(1194,tU []),
(1195,fV y25 [rV 1194,.none,.none,.none,.bool false,.none]),
(1196,tU [sV q72 360,z 320 361]),
(1197,fV y24 [.none,cV 2]),
(1198,tU []),
(1199,fV y25 [rV 1198,.none,.none,.none,.bool false,.none]),
(1200,tU [sV q73 363,z 321 364]),
(1201,fV y24 [.none,cV 2]),
(1202,tU []),
(1203,fV y25 [rV 1202,.none,.none,.none,.bool false,.none]),
(1204,tU [sV q74 366,z 322 367]),
(1205,fV y24 [.none,cV 2]),
(1206,tU []),
(1207,fV y25 [rV 1206,.none,.none,.none,.bool false,.none]),
(1208,tU [sV q75 369,z 323 370]),
(1209,fV y24 [.none,cV 2]),
(1210,tU []),
(1211,fV y25 [rV 1210,.none,.none,.none,.bool false,.none]),
(1212,tU [sV q76 372,z 324 373])]
noncomputable def bO3(p:Program)(P:Params):List (Nat×Obj):=[
(1213,fV y24 [.none,cV 2]),
(1214,tU []),
(1215,fV y25 [rV 1214,.none,.none,.none,.bool false,.none]),
(1216,tU [sV q77 375,z 384 376]),
(1217,fV y24 [.none,cV 2]),
(1218,tU []),
(1219,fV y25 [rV 1218,.none,.none,.none,.bool false,.none]),
(1220,tU [sV q78 378,z 768 379]),
(1221,fV y24 [.none,cV 2]),
(1222,tU []),
(1223,fV y25 [rV 1222,.none,.none,.none,.bool false,.none]),
(1224,tU [sV q79 381,z 769 382]),
(1225,fV y24 [.none,cV 2]),
(1226,tU []),
(1227,fV y25 [rV 1226,.none,.none,.none,.bool false,.none]),
(1228,tU [sV q80 384,z 770 385]),
(1229,fV y24 [.none,cV 2]),
(1230,tU []),
(1231,fV y25 [rV 1230,.none,.none,.none,.bool false,.none]),
(1232,tU [sV q81 387,z 771 388]),
(1233,fV y24 [.none,cV 2]),
(1234,tU []),
(1235,fV y25 [rV 1234,.none,.none,.none,.bool false,.none]),
(1236,tU [sV q82 390,z 772 391]),
(1237,fV y24 [.none,cV 2]),
(1238,tU []),
(1239,fV y25 [rV 1238,.none,.none,.none,.bool false,.none]),
(1240,tU [sV q83 393,z 773 394]),
(1241,fV y24 [.none,cV 2]),
(1242,tU []),
(1243,fV y25 [rV 1242,.none,.none,.none,.bool false,.none]),
(1244,tU [sV q84 396,z 774 397]),
(1245,fV y24 [.none,cV 2]),
(1246,tU []),
(1247,fV y25 [rV 1246,.none,.none,.none,.bool false,.none]),
(1248,tU [sV q85 399,z 832 400]),
(1249,fV y24 [.none,cV 2]),
(1250,tU []),
(1251,fV y25 [rV 1250,.none,.none,.none,.bool false,.none]),
(1252,tU [sV q86 402,z 833 403]),
(1253,fV y24 [.none,cV 2]),
(1254,tU []),
(1255,fV y25 [rV 1254,.none,.none,.none,.bool false,.none]),
(1256,tU [sV q87 405,z 834 406]),
(1257,fV y24 [.none,cV 2]),
(1258,tU []),
(1259,fV y25 [rV 1258,.none,.none,.none,.bool false,.none]),
(1260,tU [sV q88 408,z 835 409]),
(1261,fV y24 [.none,cV 2]),
(1262,tU []),
(1263,fV y25 [rV 1262,.none,.none,.none,.bool false,.none]),
(1264,tU [sV q89 411,z 836 412]),
(1265,fV y24 [.none,cV 2]),
(1266,tU []),
(1267,fV y25 [rV 1266,.none,.none,.none,.bool false,.none]),
(1268,tU [sV q90 414,z 2816 415]),
(1269,fV y24 [.none,cV 2]),
(1270,tU []),
(1271,fV y25 [rV 1270,.none,.none,.none,.bool false,.none]),
(1272,tU [sV q91 417,z 2818 418])]
noncomputable def bO2(p:Program)(P:Params):List (Nat×Obj):=[
(1273,fV y24 [.none,cV 2]),
(1274,tU []),
(1275,fV y25 [rV 1274,.none,.none,.none,.bool false,.none]),
(1276,tU [sV q92 420,z 2944 421]),
(1277,fV y24 [.none,cV 2]),
(1278,tU []),
(1279,fV y25 [rV 1278,.none,.none,.none,.bool false,.none]),
(1280,tU [sV q93 423,z 2946 424]),
(1281,fV y24 [.none,cV 2]),
(1282,tU []),
(1283,fV y25 [rV 1282,.none,.none,.none,.bool false,.none]),
(1284,tU [sV q94 426,z 3072 427]),
(1285,fV y24 [.none,cV 2]),
(1286,tU []),
(1287,fV y25 [rV 1286,.none,.none,.none,.bool false,.none]),
(1288,tU [sV q95 429,z 3073 430]),
(1289,fV y24 [.none,cV 2]),
(1290,tU []),
(1291,fV y25 [rV 1290,.none,.none,.none,.bool false,.none]),
(1292,tU [sV q96 432,z 3074 433]),
(1293,fV y24 [.none,cV 2]),
(1294,tU []),
(1295,fV y25 [rV 1294,.none,.none,.none,.bool false,.none]),
(1296,tU [sV q97 435,z 3200 436]),
(1297,fV y24 [.none,cV 2]),
(1298,tU []),
(1299,fV y25 [rV 1298,.none,.none,.none,.bool false,.none]),
(1300,tU [sV q98 438,z 3201 439]),
(1301,fV y24 [.none,cV 2]),
(1302,tU []),
(1303,fV y25 [rV 1302,.none,.none,.none,.bool false,.none]),
(1304,tU [sV q99 441,z 3202 442]),
(1305,fV y24 [.none,cV 2]),
(1306,tU []),
(1307,fV y25 [rV 1306,.none,.none,.none,.bool false,.none]),
(1308,tU [sV bC9 444,z 3857 445]),
(1309,fV y24 [.none,cV 2]),
(1310,tU []),
(1311,fV y25 [rV 1310,.none,.none,.none,.bool false,.none]),
(1312,tU [sV bC8 447,z 3858 448]),
(1313,fV y24 [.none,cV 2]),
(1314,tU []),
(1315,fV y25 [rV 1314,.none,.none,.none,.bool false,.none]),
(1316,tU [sV bC7 450,z 3859 451]),
(1317,fV y24 [.none,cV 2]),
(1318,tU []),
(1319,fV y25 [rV 1318,.none,.none,.none,.bool false,.none]),
(1320,tU [sV bAl 452,z 3860 453]),
(1321,fV y24 [.none,cV 2]),
(1322,tU []),
(1323,fV y25 [rV 1322,.none,.none,.none,.bool false,.none]),
(1324,tU []),
(1325,fV y25 [rV 1324,.none,.none,.none,.bool false,.none])]
noncomputable def D14(p:Program)(P:Params):List (Nat×Obj):=apL (bO6 p P) (apL (bO5 p P) (apL (bO4 p P) (apL (bO3 p P) (bO2 p P))))
noncomputable def T14(p:Program)(P:Params):BT:=aC9 (T13 p P) (D14 p P)
noncomputable def S14(p:Program)(w:World)(os:OsState):SharedT:=⟨T14 p w.params,1326,aBn,#[],boot_drawn,4421,os⟩
noncomputable def bO1(p:Program)(P:Params):List (Nat×Obj):=[
(3,dV y1 [eK P q3 165 (sV aBt 4203),eK P q5 166 .none,eK P q6 167 .none,eK P q7 168 (.builtin y5),eK P q8 169 .none,eK P q9 170 (rV 6),eK P q10 171 (rV 4),eK P q11 173 (sV q1 172),eK P q12 174 .none,eK P q13 193 (rV 21),eK P q14 223 (rV 39),eK P q15 239 (rV 52),eK P q16 264 (rV 71),eK P q17 289 (rV 90),eK P q18 345 (rV 110),eK P q19 456 (rV 113),eK P q20 458 (z 3 457),eK P q21 460 (z 15 459),eK P q22 462 (z 19 461),eK P q23 464 (z 23 463),eK P q24 466 (z 35 465),eK P q25 468 (z 51 467),eK P q26 470 (z 55 469),eK P q27 472 (z 99 471),eK P q28 474 (z 103 473),eK P q29 476 (z 111 475),eK P q30 478 (z 115 477),eK P q31 529 (rV 140),eK P q32 575 (rV 169),eK P q33 589 (rV 181),eK P q34 598 (rV 188),eK P aF6 4019 (rV 1030),eK P aNa 4027 (rV 1041),eK P aLf 4035 (rV 1048),eK P aLe 4046 (rV 1055),eK P aLd 4060 (rV 1062),eK P bCv 4064 (z 4294967295 4063),eK P bHs 4066 (z 2147483648 4065),eK P aTo 4068 (z 4294967296 4067),eK P aQb 4075 (rV 1069),eK P aM9 4084 (rV 1076),eK P aDk 4092 (rV 1083),eK P aIn 4100 (rV 1090),eK P aQa 4108 (rV 1097),eK P aP9 4116 (rV 1104),eK P aP8 4124 (rV 1111),eK P aP7 4132 (rV 1118),eK P aIm 4140 (rV 1125),eK P aIl 4148 (rV 1132),eK P aIk 4156 (rV 1139),eK P aIj 4164 (rV 1146),eK P aIh 4172 (rV 1153),eK P aG3 4180 (rV 1160),eK P aIi 4191 (rV 1167),eK P aIg 4202 (rV 1174),eK P bCu 4206 (z 0 4205),eK P bCt 4208 (z 1 4207),eK P bCs 4210 (z 3 4209),eK P bCr 4214 (z 2147483648 4213),eK P bCq 4218 (z 2 4217),eK P bCp 4222 (z 8 4221),eK P bCo 4226 (z 32 4225),eK P bCn 4230 (z 128 4229),eK P bCm 4234 (z 256 4233),eK P bCl 4236 (z 11 4235),eK P bCk 4239 (z 6144 4238),eK P bCj 4243 (z 131072 4242),eK P bCi 4247 (z 262144 4246),eK P bCh 4251 (z 524288 4250),eK P bCg 4260 (z 924074 4259),eK P bCf 4265 (z 786722 4264),eK P bCe 4267 (z 1 4266),eK P bHr 4269 (z 3 4268),eK P bHq 4271 (z 5 4270),eK P bHp 4273 (z 7 4272),eK P bHo 4275 (z 9 4274),eK P bHn 4277 (z 11 4276),eK P bHm 4278 (rV 1175),eK P bCd 4287 (z 546 4286),eK P bCc 4297 (z 2730 4296),eK P bCb 4299 (z 46079 4298),eK P bCa 4303 (z 2147483648 4302),eK P bHl 4309 (z 4194303 4308),eK P bB9 4311 (z 2151677951 4310),eK P bB8 4420 (rV 1178),eK P bHj 4422 (z 7 4421)] 86)]
noncomputable def D15(p:Program)(P:Params):List (Nat×Obj):=bO1 p P
noncomputable def T15(p:Program)(P:Params):BT:=aC9 (T14 p P) (D15 p P)
noncomputable def S15(p:Program)(w:World)(os:OsState):SharedT:=⟨T15 p w.params,1326,aBn,#[],boot_drawn,4423,os⟩
noncomputable def bO0(p:Program)(P:Params):List (Nat×Obj):=[
(3,dV y1 [eK P q3 165 (sV aLc 5834),eK P q5 166 .none,eK P q6 167 .none,eK P q7 168 (.builtin y5),eK P q8 169 .none,eK P q9 170 (rV 6),eK P q10 171 (rV 4),eK P q11 173 (sV q1 172),eK P q12 174 .none,eK P q13 193 (rV 21),eK P q14 223 (rV 39),eK P q15 239 (rV 52),eK P q16 264 (rV 71),eK P q17 289 (rV 90),eK P q18 345 (rV 110),eK P q19 456 (rV 113),eK P q20 458 (z 3 457),eK P q21 460 (z 15 459),eK P q22 462 (z 19 461),eK P q23 464 (z 23 463),eK P q24 466 (z 35 465),eK P q25 468 (z 51 467),eK P q26 470 (z 55 469),eK P q27 472 (z 99 471),eK P q28 474 (z 103 473),eK P q29 476 (z 111 475),eK P q30 478 (z 115 477),eK P q31 529 (rV 140),eK P q32 575 (rV 169),eK P q33 589 (rV 181),eK P q34 598 (rV 188),eK P aF6 4019 (rV 1030),eK P aNa 4027 (rV 1041),eK P aLf 4035 (rV 1048),eK P aLe 4046 (rV 1055),eK P aLd 4060 (rV 1062),eK P bCv 4064 (z 4294967295 4063),eK P bHs 4066 (z 2147483648 4065),eK P aTo 4068 (z 4294967296 4067),eK P aQb 4075 (rV 1069),eK P aM9 4084 (rV 1076),eK P aDk 4092 (rV 1083),eK P aIn 4100 (rV 1090),eK P aQa 4108 (rV 1097),eK P aP9 4116 (rV 1104),eK P aP8 4124 (rV 1111),eK P aP7 4132 (rV 1118),eK P aIm 4140 (rV 1125),eK P aIl 4148 (rV 1132),eK P aIk 4156 (rV 1139),eK P aIj 4164 (rV 1146),eK P aIh 4172 (rV 1153),eK P aG3 4180 (rV 1160),eK P aIi 4191 (rV 1167),eK P aIg 4202 (rV 1174),eK P bCu 4206 (z 0 4205),eK P bCt 4208 (z 1 4207),eK P bCs 4210 (z 3 4209),eK P bCr 4214 (z 2147483648 4213),eK P bCq 4218 (z 2 4217),eK P bCp 4222 (z 8 4221),eK P bCo 4226 (z 32 4225),eK P bCn 4230 (z 128 4229),eK P bCm 4234 (z 256 4233),eK P bCl 4236 (z 11 4235),eK P bCk 4239 (z 6144 4238),eK P bCj 4243 (z 131072 4242),eK P bCi 4247 (z 262144 4246),eK P bCh 4251 (z 524288 4250),eK P bCg 4260 (z 924074 4259),eK P bCf 4265 (z 786722 4264),eK P bCe 4267 (z 1 4266),eK P bHr 4269 (z 3 4268),eK P bHq 4271 (z 5 4270),eK P bHp 4273 (z 7 4272),eK P bHo 4275 (z 9 4274),eK P bHn 4277 (z 11 4276),eK P bHm 4278 (rV 1175),eK P bCd 4287 (z 546 4286),eK P bCc 4297 (z 2730 4296),eK P bCb 4299 (z 46079 4298),eK P bCa 4303 (z 2147483648 4302),eK P bHl 4309 (z 4194303 4308),eK P bB9 4311 (z 2151677951 4310),eK P bB8 4420 (rV 1178),eK P bHj 4422 (z 7 4421),eK P bLh 4442 (z 1075056896 4441),eK P aM8 4449 (rV 1332),eK P aM7 4456 (rV 1339),eK P aM6 4463 (rV 1346),eK P aM5 4472 (rV 1353),eK P aP6 4690 (rV 1506),eK P bQl 4694 (z 4 4693),eK P bQk 4696 (z 1 4695),eK P bQj 4698 (z 2 4697),eK P bQi 4700 (z 4 4699),eK P bQh 4702 (z 8 4701),eK P bQg 4704 (z 16 4703),eK P bQf 4706 (z 64 4705),eK P bQe 4708 (z 128 4707),eK P bQd 4710 (z 10 4709),eK P bQc 4712 (z 10 4711),eK P bQb 4714 (sV aG2 4713),eK P bQa 4716 (sV aC8 4715),eK P bP9 4718 (sV aDv 4717),eK P bP8 4725 (rV 1511),eK P bP7 4732 (rV 1512),eK P bP6 4734 (z 0 4733),eK P aP5 4839 (rV 1587),eK P aTn 4846 (rV 1598),eK P aTm 4853 (rV 1605),eK P aTl 4864 (rV 1612),eK P aP4 4966 (rV 1666),eK P bLg 4970 (z 0 4969),eK P bLf 4972 (z 1 4971),eK P bP5 4974 (z 2 4973),eK P bLe 4978 (rV 1671),eK P bP4 4982 (rV 1672),eK P bLd 4984 (z 0 4983),eK P bLc 4986 (z 1 4985),eK P bLb 4988 (z 2 4987),eK P bLa 4990 (z 3 4989),eK P bK9 4992 (z 4 4991),eK P aQ2 4994 (z 5 4993),eK P aTk 5002 (rV 1679),eK P aTj 5010 (rV 1686),eK P aTi 5018 (rV 1693),eK P aTh 5026 (rV 1700),eK P aTg 5034 (rV 1707),eK P aTf 5042 (rV 1714),eK P aTe 5050 (rV 1721),eK P aTd 5058 (rV 1728),eK P aTc 5066 (rV 1735),eK P aTb 5074 (rV 1742),eK P bK8 5093 (rV 1743),eK P bK7 5112 (rV 1744),eK P bK6 5140 (rV 1745),eK P bK5 5156 (rV 1746),eK P bK4 5166 (rV 1752),eK P bK3 5179 (rV 1753),eK P aM4 5187 (rV 1760),eK P aP3 5406 (rV 1899),eK P bK2 5410 (z 4 5409),eK P bK1 5416 (z 4294967295 5415),eK P bK0 5420 (z 4294967296 5419),eK P bKz 5424 (rV 1904),eK P aM3 5431 (rV 1911),eK P aM2 5439 (rV 1918),eK P aP2 5680 (rV 2088),eK P aP1 5737 (rV 2130),eK P aP0 5833 (rV 2195),eK P aE2 5845 (rV 2206),eK P aM1 5855 (rV 2213),eK P aM0 5869 (rV 2220),eK P aIf 5875 (rV 2225),eK P aMz 5884 (rV 2232),eK P aCr 5890 (rV 2237)] 157),
(12,nV [cV 1,cV 0,rV 20,cV 5,cV 0,rV 27,cV 10,cV 0,rV 48,cV 12,cV 0,rV 60,cV 17,cV 0,rV 79,cV 22,cV 0,rV 98,cV 55,cV 0,rV 121,cV 67,cV 0,rV 150,cV 78,cV 0,rV 180,cV 84,cV 0,rV 187,cV 102,cV 0,rV 194,cV 109,cV 0,rV 1040,cV 112,cV 0,rV 1047,cV 115,cV 0,rV 1054,cV 127,cV 0,rV 1061,cV 161,cV 0,rV 1068,cV 163,cV 0,rV 1075,cV 168,cV 0,rV 1082,cV 170,cV 0,rV 1089,cV 172,cV 0,rV 1096,cV 174,cV 0,rV 1103,cV 176,cV 0,rV 1110,cV 178,cV 0,rV 1117,cV 180,cV 0,rV 1124,cV 182,cV 0,rV 1131,cV 184,cV 0,rV 1138,cV 186,cV 0,rV 1145,cV 188,cV 0,rV 1152,cV 190,cV 0,rV 1159,cV 192,cV 0,rV 1166,cV 198,cV 0,rV 1173,cV 237,cV 0,rV 1331,cV 239,cV 0,rV 1338,cV 241,cV 0,rV 1345,cV 243,cV 0,rV 1352,cV 248,cV 0,rV 1359,cV 438,cV 0,rV 1518,cV 476,cV 0,rV 1597,cV 478,cV 0,rV 1604,cV 480,cV 0,rV 1611,cV 490,cV 0,rV 1618,cV 549,cV 0,rV 1678,cV 551,cV 0,rV 1685,cV 553,cV 0,rV 1692,cV 555,cV 0,rV 1699,cV 557,cV 0,rV 1706,cV 559,cV 0,rV 1713,cV 561,cV 0,rV 1720,cV 563,cV 0,rV 1727,cV 565,cV 0,rV 1734,cV 567,cV 0,rV 1741,cV 575,cV 0,rV 1759,cV 590,cV 0,rV 1766,cV 775,cV 0,rV 1910,cV 778,cV 0,rV 1917,cV 781,cV 0,rV 1924,cV 907,cV 0,rV 2098,cV 923,cV 0,rV 2140,cV 983,cV 0,rV 2205,cV 990,cV 0,rV 2212,cV 999,cV 0,rV 2219,cV 1011,cV 0,rV 2224,cV 1014,cV 0,rV 2231,cV 1017,cV 0,rV 2236]),
(1326,tU []),
(1327,nV []),
(1328,tU [sV aHc 4446]),
(1329,tU []),
(1330,uV aM8 aM8 (F p 82)),
(1331,fV y3 [sV aM8 4443,sV aM8 4444,sV q1 4445,cV 237,cV 1,cV 0,cV 0,cV 3,rV 1326,.bool true,cV 181,rV 1327,.none,rV 1328,rV 1329,rV 1330,cV 4447,cV 237,sV q1 4448]),
(1332,kV aM8 aM8 (F p 82) .none aBt 4203 1331),
(1333,tU []),
(1334,nV []),
(1335,tU [sV aHc 4453]),
(1336,tU []),
(1337,uV aM7 aM7 (F p 83)),
(1338,fV y3 [sV aM7 4450,sV aM7 4451,sV q1 4452,cV 239,cV 1,cV 0,cV 0,cV 3,rV 1333,.bool true,cV 181,rV 1334,.none,rV 1335,rV 1336,rV 1337,cV 4454,cV 239,sV q1 4455]),
(1339,kV aM7 aM7 (F p 83) .none aBt 4203 1338),
(1340,tU []),
(1341,nV []),
(1342,tU [sV q66 4460]),
(1343,tU []),
(1344,uV aM6 aM6 (F p 84)),
(1345,fV y3 [sV aM6 4457,sV aM6 4458,sV q1 4459,cV 241,cV 1,cV 0,cV 0,cV 3,rV 1340,.bool true,cV 181,rV 1341,.none,rV 1342,rV 1343,rV 1344,cV 4461,cV 241,sV q1 4462]),
(1346,kV aM6 aM6 (F p 84) .none aBt 4203 1345),
(1347,tU []),
(1348,nV []),
(1349,tU [sV bHi 4467,sV q66 4468,sV aF7 4469]),
(1350,tU []),
(1351,uV aM5 aM5 (F p 85)),
(1352,fV y3 [sV aM5 4464,sV aM5 4465,sV q1 4466,cV 243,cV 2,cV 0,cV 0,cV 3,rV 1347,.bool true,cV 181,rV 1348,.none,rV 1349,rV 1350,rV 1351,cV 4470,cV 243,sV q1 4471]),
(1353,kV aM5 aM5 (F p 85) .none aBt 4203 1352),
(1354,tU []),
(1355,fV y7 [.builtin y8,.type y9]),
(1356,dV y1 [eK P q36 4480 (sV aBt 4203),eK P q38 4482 (sV aP6 4481),eK P q39 4484 (z 248 4483),eK P q40 4493 (rV 1368),eK P q95 4500 (rV 1375),eK P aJ7 4510 (rV 1382),eK P aWe 4519 (rV 1390),eK P aWd 4527 (rV 1397),eK P aWc 4536 (rV 1404),eK P aWb 4547 (rV 1412),eK P aTa 4556 (rV 1419),eK P aWa 4565 (rV 1426),eK P aV9 4576 (rV 1433),eK P bB7 4585 (rV 1440),eK P bB6 4598 (rV 1447),eK P aV8 4608 (rV 1454),eK P aV7 4620 (rV 1461),eK P aV6 4630 (rV 1468),eK P bB5 4639 (rV 1475),eK P bB4 4648 (rV 1482),eK P aV5 4656 (rV 1489),eK P bB3 4663 (rV 1496),eK P aS9 4671 (rV 1503),eK P q41 4683 (rV 1504)] 24),
(1357,tU []),
(1358,nV [cV 250,cV 4,rV 1367,cV 263,cV 4,rV 1374,cV 266,cV 4,rV 1381,cV 274,cV 4,rV 1389,cV 290,cV 4,rV 1396,cV 301,cV 4,rV 1403,cV 307,cV 4,rV 1411,cV 328,cV 4,rV 1418,cV 335,cV 4,rV 1425,cV 347,cV 4,rV 1432,cV 358,cV 4,rV 1439,cV 361,cV 4,rV 1446,cV 376,cV 4,rV 1453,cV 382,cV 4,rV 1460,cV 393,cV 4,rV 1467,cV 399,cV 4,rV 1474,cV 407,cV 4,rV 1481,cV 413,cV 4,rV 1488,cV 416,cV 4,rV 1495,cV 419,cV 4,rV 1502]),
(1359,fV y3 [sV aP6 4475,sV aP6 4476,sV q1 4477,cV 248,cV 0,cV 0,cV 0,cV 0,rV 1357,.bool false,cV 181,rV 1358,.none,.none,.none,.none,cV 4478,cV 248,sV q1 4479]),
(1360,⟨.type y4,none,.plain,⟨[(oV (rV 1359)),(oV (rV 3)),(oV (rV 1356)),none,(oV (sV aBt 4203)),none,(oV (rV 0))]⟩⟩),
(1361,tU [z 0 4485]),
(1362,tU []),
(1363,nV []),
(1364,tU [sV q43 4489,sV bB2 4490]),
(1365,tU []),
(1366,uV q40 bHh (M p 86 0)),
(1367,fV y3 [sV q40 4486,sV bHh 4487,sV q1 4488,cV 250,cV 2,cV 0,cV 0,cV 3,rV 1362,.bool true,cV 181,rV 1363,.none,rV 1364,rV 1365,rV 1366,cV 4491,cV 250,sV q1 4492]),
(1368,kV q40 bHh (M p 86 0) (rV 1361) aBt 4203 1367),
(1369,tU []),
(1370,nV []),
(1371,tU [sV q43 4497]),
(1372,tU []),
(1373,uV q95 bHg (M p 86 1)),
(1374,fV y3 [sV q95 4494,sV bHg 4495,sV q1 4496,cV 263,cV 1,cV 0,cV 0,cV 3,rV 1369,.bool true,cV 181,rV 1370,.none,rV 1371,rV 1372,rV 1373,cV 4498,cV 263,sV q1 4499]),
(1375,kV q95 bHg (M p 86 1) .none aBt 4203 1374),
(1376,tU []),
(1377,nV []),
(1378,tU [sV q43 4504,sV aHc 4505,sV aE7 4506,sV bYh 4507]),
(1379,tU []),
(1380,uV aJ7 bHf (M p 86 2)),
(1381,fV y3 [sV aJ7 4501,sV bHf 4502,sV q1 4503,cV 266,cV 3,cV 0,cV 0,cV 3,rV 1376,.bool true,cV 181,rV 1377,.none,rV 1378,rV 1379,rV 1380,cV 4508,cV 266,sV q1 4509]),
(1382,kV aJ7 bHf (M p 86 2) .none aBt 4203 1381),
(1383,tU [z 3 4209])]
noncomputable def bOz(p:Program)(P:Params):List (Nat×Obj):=[
(1384,tU []),
(1385,nV []),
(1386,tU [sV q43 4514,sV aHc 4515,sV aE7 4516]),
(1387,tU []),
(1388,uV aWe bHe (M p 86 3)),
(1389,fV y3 [sV aWe 4511,sV bHe 4512,sV q1 4513,cV 274,cV 3,cV 0,cV 0,cV 3,rV 1384,.bool true,cV 181,rV 1385,.none,rV 1386,rV 1387,rV 1388,cV 4517,cV 274,sV q1 4518]),
(1390,kV aWe bHe (M p 86 3) (rV 1383) aBt 4203 1389),
(1391,tU []),
(1392,nV []),
(1393,tU [sV q43 4523,sV aHc 4524]),
(1394,tU []),
(1395,uV aWd bHd (M p 86 4)),
(1396,fV y3 [sV aWd 4520,sV bHd 4521,sV q1 4522,cV 290,cV 2,cV 0,cV 0,cV 3,rV 1391,.bool true,cV 181,rV 1392,.none,rV 1393,rV 1394,rV 1395,cV 4525,cV 290,sV q1 4526]),
(1397,kV aWd bHd (M p 86 4) .none aBt 4203 1396),
(1398,tU []),
(1399,nV []),
(1400,tU [sV q43 4531,sV aHc 4532,sV bLi 4533]),
(1401,tU []),
(1402,uV aWc bHc (M p 86 5)),
(1403,fV y3 [sV aWc 4528,sV bHc 4529,sV q1 4530,cV 301,cV 2,cV 0,cV 0,cV 3,rV 1398,.bool true,cV 181,rV 1399,.none,rV 1400,rV 1401,rV 1402,cV 4534,cV 301,sV q1 4535]),
(1404,kV aWc bHc (M p 86 5) .none aBt 4203 1403),
(1405,tU [z 3 4209]),
(1406,tU []),
(1407,nV []),
(1408,tU [sV q43 4540,sV aHc 4541,sV q66 4542,sV aE7 4543,sV bLk 4544]),
(1409,tU []),
(1410,uV aWb bHb (M p 86 6)),
(1411,fV y3 [sV aWb 4537,sV bHb 4538,sV q1 4539,cV 307,cV 4,cV 0,cV 0,cV 3,rV 1406,.bool true,cV 181,rV 1407,.none,rV 1408,rV 1409,rV 1410,cV 4545,cV 307,sV q1 4546]),
(1412,kV aWb bHb (M p 86 6) (rV 1405) aBt 4203 1411),
(1413,tU []),
(1414,nV []),
(1415,tU [sV q43 4551,sV aHc 4552,sV q66 4553]),
(1416,tU []),
(1417,uV aTa bHa (M p 86 7)),
(1418,fV y3 [sV aTa 4548,sV bHa 4549,sV q1 4550,cV 328,cV 3,cV 0,cV 0,cV 3,rV 1413,.bool true,cV 181,rV 1414,.none,rV 1415,rV 1416,rV 1417,cV 4554,cV 328,sV q1 4555]),
(1419,kV aTa bHa (M p 86 7) .none aBt 4203 1418),
(1420,tU []),
(1421,nV []),
(1422,tU [sV q43 4560,sV aHc 4561,sV q66 4562]),
(1423,tU []),
(1424,uV aWa bG9 (M p 86 8)),
(1425,fV y3 [sV aWa 4557,sV bG9 4558,sV q1 4559,cV 335,cV 3,cV 0,cV 0,cV 3,rV 1420,.bool true,cV 181,rV 1421,.none,rV 1422,rV 1423,rV 1424,cV 4563,cV 335,sV q1 4564]),
(1426,kV aWa bG9 (M p 86 8) .none aBt 4203 1425),
(1427,tU []),
(1428,nV []),
(1429,tU [sV q43 4569,sV aHc 4570,sV q66 4571,sV bHi 4572,sV bLi 4573]),
(1430,tU []),
(1431,uV aV9 bG8 (M p 86 9)),
(1432,fV y3 [sV aV9 4566,sV bG8 4567,sV q1 4568,cV 347,cV 3,cV 0,cV 0,cV 3,rV 1427,.bool true,cV 181,rV 1428,.none,rV 1429,rV 1430,rV 1431,cV 4574,cV 347,sV q1 4575]),
(1433,kV aV9 bG8 (M p 86 9) .none aBt 4203 1432),
(1434,tU []),
(1435,nV []),
(1436,tU [sV q43 4580,sV aHc 4581,sV bYg 4582]),
(1437,tU []),
(1438,uV bB7 bKy (M p 86 10)),
(1439,fV y3 [sV bB7 4577,sV bKy 4578,sV q1 4579,cV 358,cV 3,cV 0,cV 0,cV 3,rV 1434,.bool true,cV 181,rV 1435,.none,rV 1436,rV 1437,rV 1438,cV 4583,cV 358,sV q1 4584]),
(1440,kV bB7 bKy (M p 86 10) .none aBt 4203 1439),
(1441,tU []),
(1442,nV []),
(1443,tU [sV q43 4589,sV aE7 4590,sV aZ2 4591,sV bYf 4592,sV bYe 4593,sV bYd 4594,sV aHc 4595])]
noncomputable def bOy(p:Program)(P:Params):List (Nat×Obj):=[
(1444,tU []),
(1445,uV bB6 bKx (M p 86 11)),
(1446,fV y3 [sV bB6 4586,sV bKx 4587,sV q1 4588,cV 361,cV 2,cV 0,cV 0,cV 3,rV 1441,.bool true,cV 181,rV 1442,.none,rV 1443,rV 1444,rV 1445,cV 4596,cV 361,sV q1 4597]),
(1447,kV bB6 bKx (M p 86 11) .none aBt 4203 1446),
(1448,tU []),
(1449,nV []),
(1450,tU [sV q43 4602,sV q65 4603,sV aE7 4604,sV aZ1 4605]),
(1451,tU []),
(1452,uV aV8 bG7 (M p 86 12)),
(1453,fV y3 [sV aV8 4599,sV bG7 4600,sV q1 4601,cV 376,cV 3,cV 0,cV 0,cV 3,rV 1448,.bool true,cV 181,rV 1449,.none,rV 1450,rV 1451,rV 1452,cV 4606,cV 376,sV q1 4607]),
(1454,kV aV8 bG7 (M p 86 12) .none aBt 4203 1453),
(1455,tU []),
(1456,nV []),
(1457,tU [sV q43 4612,sV q65 4613,sV q66 4614,sV aE6 4615,sV aE7 4616,sV aMc 4617]),
(1458,tU []),
(1459,uV aV7 bG6 (M p 86 13)),
(1460,fV y3 [sV aV7 4609,sV bG6 4610,sV q1 4611,cV 382,cV 5,cV 0,cV 0,cV 3,rV 1455,.bool true,cV 181,rV 1456,.none,rV 1457,rV 1458,rV 1459,cV 4618,cV 382,sV q1 4619]),
(1461,kV aV7 bG6 (M p 86 13) .none aBt 4203 1460),
(1462,tU []),
(1463,nV []),
(1464,tU [sV q43 4624,sV bKw 4625,sV q65 4626,sV bYc 4627]),
(1465,tU []),
(1466,uV aV6 bG5 (M p 86 14)),
(1467,fV y3 [sV aV6 4621,sV bG5 4622,sV q1 4623,cV 393,cV 3,cV 0,cV 0,cV 3,rV 1462,.bool true,cV 181,rV 1463,.none,rV 1464,rV 1465,rV 1466,cV 4628,cV 393,sV q1 4629]),
(1468,kV aV6 bG5 (M p 86 14) .none aBt 4203 1467),
(1469,tU []),
(1470,nV []),
(1471,tU [sV q43 4634,sV aE7 4635,sV aMc 4636]),
(1472,tU []),
(1473,uV bB5 bKv (M p 86 15)),
(1474,fV y3 [sV bB5 4631,sV bKv 4632,sV q1 4633,cV 399,cV 1,cV 0,cV 0,cV 3,rV 1469,.bool true,cV 181,rV 1470,.none,rV 1471,rV 1472,rV 1473,cV 4637,cV 399,sV q1 4638]),
(1475,kV bB5 bKv (M p 86 15) .none aBt 4203 1474),
(1476,tU []),
(1477,nV []),
(1478,tU [sV q43 4643,sV aE7 4644,sV aMc 4645]),
(1479,tU []),
(1480,uV bB4 bKu (M p 86 16)),
(1481,fV y3 [sV bB4 4640,sV bKu 4641,sV q1 4642,cV 407,cV 1,cV 0,cV 0,cV 3,rV 1476,.bool true,cV 181,rV 1477,.none,rV 1478,rV 1479,rV 1480,cV 4646,cV 407,sV q1 4647]),
(1482,kV bB4 bKu (M p 86 16) .none aBt 4203 1481),
(1483,tU []),
(1484,nV []),
(1485,tU [sV q43 4652,sV aE7 4653]),
(1486,tU []),
(1487,uV aV5 bG4 (M p 86 17)),
(1488,fV y3 [sV aV5 4649,sV bG4 4650,sV q1 4651,cV 413,cV 2,cV 0,cV 0,cV 3,rV 1483,.bool true,cV 181,rV 1484,.none,rV 1485,rV 1486,rV 1487,cV 4654,cV 413,sV q1 4655]),
(1489,kV aV5 bG4 (M p 86 17) .none aBt 4203 1488),
(1490,tU []),
(1491,nV []),
(1492,tU [sV q43 4660]),
(1493,tU []),
(1494,uV bB3 bKt (M p 86 18)),
(1495,fV y3 [sV bB3 4657,sV bKt 4658,sV q1 4659,cV 416,cV 1,cV 0,cV 0,cV 3,rV 1490,.bool true,cV 181,rV 1491,.none,rV 1492,rV 1493,rV 1494,cV 4661,cV 416,sV q1 4662]),
(1496,kV bB3 bKt (M p 86 18) .none aBt 4203 1495),
(1497,tU []),
(1498,nV []),
(1499,tU [sV q43 4667,sV bG3 4668]),
(1500,tU []),
(1501,uV aS9 bKs (M p 86 19)),
(1502,fV y3 [sV aS9 4664,sV bKs 4665,sV q1 4666,cV 419,cV 2,cV 0,cV 0,cV 3,rV 1497,.bool true,cV 181,rV 1498,.none,rV 1499,rV 1500,rV 1501,cV 4669,cV 419,sV q1 4670]),
(1503,kV aS9 bKs (M p 86 19) .none aBt 4203 1502)]
noncomputable def bOx(p:Program)(P:Params):List (Nat×Obj):=[
(1504,tU [sV bKr 4672,sV bKq 4673,sV bKp 4674,sV bB2 4675,sV bKo 4676,sV bKn 4677,sV bKm 4678,sV q77 4679,sV bB1 4680,sV bKl 4681,sV bKk 4682]),
(1505,dV y1 [eK P q36 4480 (sV aBt 4203),eK P q39 4484 (z 248 4483),eK P q40 4493 (rV 1368),eK P q95 4500 (rV 1375),eK P aJ7 4510 (rV 1382),eK P aWe 4519 (rV 1390),eK P aWd 4527 (rV 1397),eK P aWc 4536 (rV 1404),eK P aWb 4547 (rV 1412),eK P aTa 4556 (rV 1419),eK P aWa 4565 (rV 1426),eK P aV9 4576 (rV 1433),eK P bB7 4585 (rV 1440),eK P bB6 4598 (rV 1447),eK P aV8 4608 (rV 1454),eK P aV7 4620 (rV 1461),eK P aV6 4630 (rV 1468),eK P bB5 4639 (rV 1475),eK P bB4 4648 (rV 1482),eK P aV5 4656 (rV 1489),eK P bB3 4663 (rV 1496),eK P aS9 4671 (rV 1503),eK P q41 4683 (rV 1504),eK P aFl 4685 (rV 1507),eK P q46 4687 (rV 1508),eK P q5 4688 .none] 4),
(1506,⟨.type y9,none,.cls ⟨aP6,[.type y12],[rV 1506,.type y12],1505,aP6,true,[],[],false,none,false⟩,⟨[none,none,(oV (sV aP6 4473)),(oV (sV aP6 4481)),(oV (.builtin y18)),(oV (.bool true))]⟩⟩),
(1507,fV y14 [sV aFl 4684,rV 1506,.builtin y19,.builtin y20]),
(1508,fV y14 [sV q46 4686,rV 1506,.builtin y15,.none]),
(1509,fV y16 [rV 1506,rV 1506,rV 1506]),
(1510,fV y7 [.builtin y17,rV 1506]),
(1511,dV y1 [eK P aG2 4713 (z 12 324),eK P aC8 4715 (z 13 326),eK P aDv 4717 (z 15 328)] 3),
(1512,dV y1 [eK P aG2 4713 (z 1 304),eK P aC8 4715 (z 5 312),eK P aDv 4717 (z 7 316)] 3),
(1513,tU []),
(1514,fV y7 [.builtin y8,.type y9]),
(1515,dV y1 [eK P q36 4742 (sV aDj 4691),eK P q38 4744 (sV aP5 4743),eK P q39 4746 (z 438 4745),eK P q40 4755 (rV 1527),eK P aZ0 4764 (rV 1534),eK P q49 4775 (rV 1542),eK P bB0 4783 (rV 1549),eK P bBz 4791 (rV 1556),eK P bBy 4799 (rV 1563),eK P bBx 4808 (rV 1570),eK P aLb 4817 (rV 1577),eK P aV4 4825 (rV 1584),eK P q41 4832 (rV 1585)] 13),
(1516,tU []),
(1517,nV [cV 440,cV 4,rV 1526,cV 450,cV 4,rV 1533,cV 456,cV 4,rV 1541,cV 459,cV 4,rV 1548,cV 462,cV 4,rV 1555,cV 465,cV 4,rV 1562,cV 468,cV 4,rV 1569,cV 471,cV 4,rV 1576,cV 474,cV 4,rV 1583]),
(1518,fV y3 [sV aP5 4737,sV aP5 4738,sV q1 4739,cV 438,cV 0,cV 0,cV 0,cV 0,rV 1516,.bool false,cV 181,rV 1517,.none,.none,.none,.none,cV 4740,cV 438,sV q1 4741]),
(1519,⟨.type y4,none,.plain,⟨[(oV (rV 1518)),(oV (rV 3)),(oV (rV 1515)),none,(oV (sV aDj 4691)),none,(oV (rV 0))]⟩⟩),
(1520,tU [z 12 4747]),
(1521,tU []),
(1522,nV []),
(1523,tU [sV q43 4751,sV bG3 4752]),
(1524,tU []),
(1525,uV q40 bG2 (M p 104 0)),
(1526,fV y3 [sV q40 4748,sV bG2 4749,sV q1 4750,cV 440,cV 2,cV 0,cV 0,cV 3,rV 1521,.bool true,cV 181,rV 1522,.none,rV 1523,rV 1524,rV 1525,cV 4753,cV 440,sV q1 4754]),
(1527,kV q40 bG2 (M p 104 0) (rV 1520) aDj 4691 1526),
(1528,tU []),
(1529,nV []),
(1530,tU [sV q43 4759,sV q49 4760,sV aHc 4761]),
(1531,tU []),
(1532,uV aZ0 bKj (M p 104 1)),
(1533,fV y3 [sV aZ0 4756,sV bKj 4757,sV q1 4758,cV 450,cV 2,cV 0,cV 0,cV 3,rV 1528,.bool true,cV 181,rV 1529,.none,rV 1530,rV 1531,rV 1532,cV 4762,cV 450,sV q1 4763]),
(1534,kV aZ0 bKj (M p 104 1) .none aDj 4691 1533),
(1535,tU [z 0 4765]),
(1536,tU []),
(1537,nV []),
(1538,tU [sV q43 4769,sV bHk 4770,sV bLj 4771,sV bKi 4772]),
(1539,tU []),
(1540,uV q49 bKh (M p 104 2)),
(1541,fV y3 [sV q49 4766,sV bKh 4767,sV q1 4768,cV 456,cV 4,cV 0,cV 0,cV 3,rV 1536,.bool true,cV 181,rV 1537,.none,rV 1538,rV 1539,rV 1540,cV 4773,cV 456,sV q1 4774]),
(1542,kV q49 bKh (M p 104 2) (rV 1535) aDj 4691 1541),
(1543,tU []),
(1544,nV []),
(1545,tU [sV q43 4779,sV q49 4780]),
(1546,tU []),
(1547,uV bB0 bKg (M p 104 3)),
(1548,fV y3 [sV bB0 4776,sV bKg 4777,sV q1 4778,cV 459,cV 2,cV 0,cV 0,cV 3,rV 1543,.bool true,cV 181,rV 1544,.none,rV 1545,rV 1546,rV 1547,cV 4781,cV 459,sV q1 4782]),
(1549,kV bB0 bKg (M p 104 3) .none aDj 4691 1548),
(1550,tU []),
(1551,nV []),
(1552,tU [sV q43 4787,sV q49 4788]),
(1553,tU []),
(1554,uV bBz bKf (M p 104 4)),
(1555,fV y3 [sV bBz 4784,sV bKf 4785,sV q1 4786,cV 462,cV 2,cV 0,cV 0,cV 3,rV 1550,.bool true,cV 181,rV 1551,.none,rV 1552,rV 1553,rV 1554,cV 4789,cV 462,sV q1 4790]),
(1556,kV bBz bKf (M p 104 4) .none aDj 4691 1555),
(1557,tU []),
(1558,nV []),
(1559,tU [sV q43 4795,sV q49 4796]),
(1560,tU []),
(1561,uV bBy bKe (M p 104 5)),
(1562,fV y3 [sV bBy 4792,sV bKe 4793,sV q1 4794,cV 465,cV 2,cV 0,cV 0,cV 3,rV 1557,.bool true,cV 181,rV 1558,.none,rV 1559,rV 1560,rV 1561,cV 4797,cV 465,sV q1 4798]),
(1563,kV bBy bKe (M p 104 5) .none aDj 4691 1562)]
noncomputable def bOw(p:Program)(P:Params):List (Nat×Obj):=[
(1564,tU []),
(1565,nV []),
(1566,tU [sV q43 4803,sV aJ6 4804,sV aMy 4805]),
(1567,tU []),
(1568,uV bBx bKd (M p 104 6)),
(1569,fV y3 [sV bBx 4800,sV bKd 4801,sV q1 4802,cV 468,cV 3,cV 0,cV 0,cV 3,rV 1564,.bool true,cV 181,rV 1565,.none,rV 1566,rV 1567,rV 1568,cV 4806,cV 468,sV q1 4807]),
(1570,kV bBx bKd (M p 104 6) .none aDj 4691 1569),
(1571,tU []),
(1572,nV []),
(1573,tU [sV q43 4812,sV aV4 4813,sV bYb 4814]),
(1574,tU []),
(1575,uV aLb bKc (M p 104 7)),
(1576,fV y3 [sV aLb 4809,sV bKc 4810,sV q1 4811,cV 471,cV 3,cV 0,cV 0,cV 3,rV 1571,.bool true,cV 181,rV 1572,.none,rV 1573,rV 1574,rV 1575,cV 4815,cV 471,sV q1 4816]),
(1577,kV aLb bKc (M p 104 7) .none aDj 4691 1576),
(1578,tU []),
(1579,nV []),
(1580,tU [sV q43 4821,sV aLb 4822]),
(1581,tU []),
(1582,uV aV4 bKb (M p 104 8)),
(1583,fV y3 [sV aV4 4818,sV bKb 4819,sV q1 4820,cV 474,cV 2,cV 0,cV 0,cV 3,rV 1578,.bool true,cV 181,rV 1579,.none,rV 1580,rV 1581,rV 1582,cV 4823,cV 474,sV q1 4824]),
(1584,kV aV4 bKb (M p 104 8) .none aDj 4691 1583),
(1585,tU [sV aMy 4826,sV bP3 4827,sV bP2 4828,sV bP1 4829,sV bP0 4830,sV bG3 4831]),
(1586,dV y1 [eK P q36 4742 (sV aDj 4691),eK P q39 4746 (z 438 4745),eK P q40 4755 (rV 1527),eK P aZ0 4764 (rV 1534),eK P q49 4775 (rV 1542),eK P bB0 4783 (rV 1549),eK P bBz 4791 (rV 1556),eK P bBy 4799 (rV 1563),eK P bBx 4808 (rV 1570),eK P aLb 4817 (rV 1577),eK P aV4 4825 (rV 1584),eK P q41 4832 (rV 1585),eK P aFl 4834 (rV 1588),eK P q46 4836 (rV 1589),eK P q5 4837 .none] 4),
(1587,⟨.type y9,none,.cls ⟨aP5,[.type y12],[rV 1587,.type y12],1586,aP5,true,[],[],false,none,false⟩,⟨[none,none,(oV (sV aP5 4735)),(oV (sV aP5 4743)),(oV (.builtin y18)),(oV (.bool true))]⟩⟩),
(1588,fV y14 [sV aFl 4833,rV 1587,.builtin y19,.builtin y20]),
(1589,fV y14 [sV q46 4835,rV 1587,.builtin y15,.none]),
(1590,fV y16 [rV 1587,rV 1587,rV 1587]),
(1591,fV y7 [.builtin y17,rV 1587]),
(1592,tU []),
(1593,nV []),
(1594,tU [sV aLb 4843]),
(1595,tU []),
(1596,uV aTn aTn (F p 105)),
(1597,fV y3 [sV aTn 4840,sV aTn 4841,sV q1 4842,cV 476,cV 1,cV 0,cV 0,cV 3,rV 1592,.bool true,cV 181,rV 1593,.none,rV 1594,rV 1595,rV 1596,cV 4844,cV 476,sV q1 4845]),
(1598,kV aTn aTn (F p 105) .none aDj 4691 1597),
(1599,tU []),
(1600,nV []),
(1601,tU [sV aLb 4850]),
(1602,tU []),
(1603,uV aTm aTm (F p 106)),
(1604,fV y3 [sV aTm 4847,sV aTm 4848,sV q1 4849,cV 478,cV 1,cV 0,cV 0,cV 3,rV 1599,.bool true,cV 181,rV 1600,.none,rV 1601,rV 1602,rV 1603,cV 4851,cV 478,sV q1 4852]),
(1605,kV aTm aTm (F p 106) .none aDj 4691 1604),
(1606,tU []),
(1607,nV []),
(1608,tU [sV aLb 4857,sV aAg 4858,sV aE7 4859,sV bBw 4860,sV bBv 4861]),
(1609,tU []),
(1610,uV aTl aTl (F p 107)),
(1611,fV y3 [sV aTl 4854,sV aTl 4855,sV q1 4856,cV 480,cV 5,cV 0,cV 0,cV 3,rV 1606,.bool true,cV 181,rV 1607,.none,rV 1608,rV 1609,rV 1610,cV 4862,cV 480,sV q1 4863]),
(1612,kV aTl aTl (F p 107) .none aDj 4691 1611),
(1613,tU []),
(1614,fV y7 [.builtin y8,.type y9]),
(1615,dV y1 [eK P q36 4872 (sV aDj 4691),eK P q38 4874 (sV aP4 4873),eK P q39 4876 (z 490 4875),eK P q40 4885 (rV 1626),eK P bBu 4903 (rV 1634),eK P bBt 4914 (rV 1641),eK P bBs 4929 (rV 1648),eK P bBr 4941 (rV 1655),eK P bBq 4956 (rV 1663),eK P q41 4959 (rV 1664)] 10),
(1616,tU []),
(1617,nV [cV 492,cV 4,rV 1625,cV 496,cV 4,rV 1633,cV 511,cV 4,rV 1640,cV 520,cV 4,rV 1647,cV 527,cV 4,rV 1654,cV 535,cV 4,rV 1662]),
(1618,fV y3 [sV aP4 4867,sV aP4 4868,sV q1 4869,cV 490,cV 0,cV 0,cV 0,cV 0,rV 1616,.bool false,cV 181,rV 1617,.none,.none,.none,.none,cV 4870,cV 490,sV q1 4871]),
(1619,⟨.type y4,none,.plain,⟨[(oV (rV 1618)),(oV (rV 3)),(oV (rV 1615)),none,(oV (sV aDj 4691)),none,(oV (rV 0))]⟩⟩),
(1620,tU []),
(1621,nV []),
(1622,tU [sV q43 4880,sV aV3 4881,sV aV2 4882]),
(1623,tU [])]
noncomputable def bOv(p:Program)(P:Params):List (Nat×Obj):=[
(1624,uV q40 bG1 (M p 108 0)),
(1625,fV y3 [sV q40 4877,sV bG1 4878,sV q1 4879,cV 492,cV 3,cV 0,cV 0,cV 3,rV 1620,.bool true,cV 181,rV 1621,.none,rV 1622,rV 1623,rV 1624,cV 4883,cV 492,sV q1 4884]),
(1626,kV q40 bG1 (M p 108 0) .none aDj 4691 1625),
(1627,tU [z 0 4886,z 0 4887]),
(1628,tU []),
(1629,nV []),
(1630,tU [sV q43 4891,sV aS9 4892,sV q49 4893,sV aAg 4894,sV aE7 4895,sV bBw 4896,sV bBv 4897,sV aZ0 4898,sV aE6 4899,sV aLb 4900]),
(1631,tU []),
(1632,uV bBu bKa (M p 108 1)),
(1633,fV y3 [sV bBu 4888,sV bKa 4889,sV q1 4890,cV 496,cV 7,cV 0,cV 0,cV 3,rV 1628,.bool true,cV 181,rV 1629,.none,rV 1630,rV 1631,rV 1632,cV 4901,cV 496,sV q1 4902]),
(1634,kV bBu bKa (M p 108 1) (rV 1627) aDj 4691 1633),
(1635,tU []),
(1636,nV []),
(1637,tU [sV q43 4907,sV aE6 4908,sV q49 4909,sV aAg 4910,sV aLb 4911]),
(1638,tU []),
(1639,uV bBt bJ9 (M p 108 2)),
(1640,fV y3 [sV bBt 4904,sV bJ9 4905,sV q1 4906,cV 511,cV 4,cV 0,cV 0,cV 3,rV 1635,.bool true,cV 181,rV 1636,.none,rV 1637,rV 1638,rV 1639,cV 4912,cV 511,sV q1 4913]),
(1641,kV bBt bJ9 (M p 108 2) .none aDj 4691 1640),
(1642,tU []),
(1643,nV []),
(1644,tU [sV q43 4918,sV aE6 4919,sV aLb 4920,sV q49 4921,sV aAg 4922,sV aE7 4923,sV bBw 4924,sV bBv 4925,sV aV4 4926]),
(1645,tU []),
(1646,uV bBs bJ8 (M p 108 3)),
(1647,fV y3 [sV bBs 4915,sV bJ8 4916,sV q1 4917,cV 520,cV 8,cV 0,cV 0,cV 3,rV 1642,.bool true,cV 181,rV 1643,.none,rV 1644,rV 1645,rV 1646,cV 4927,cV 520,sV q1 4928]),
(1648,kV bBs bJ8 (M p 108 3) .none aDj 4691 1647),
(1649,tU []),
(1650,nV []),
(1651,tU [sV q43 4933,sV aE6 4934,sV aLb 4935,sV q49 4936,sV aAg 4937,sV aZ2 4938]),
(1652,tU []),
(1653,uV bBr bJ7 (M p 108 4)),
(1654,fV y3 [sV bBr 4930,sV bJ7 4931,sV q1 4932,cV 527,cV 5,cV 0,cV 0,cV 3,rV 1649,.bool true,cV 181,rV 1650,.none,rV 1651,rV 1652,rV 1653,cV 4939,cV 527,sV q1 4940]),
(1655,kV bBr bJ7 (M p 108 4) .none aDj 4691 1654),
(1656,tU [z 0 4942,z 0 4943]),
(1657,tU []),
(1658,nV []),
(1659,tU [sV q43 4947,sV aS9 4948,sV q49 4949,sV aAg 4950,sV aE7 4951,sV bBw 4952,sV bBv 4953]),
(1660,tU []),
(1661,uV bBq bJ6 (M p 108 5)),
(1662,fV y3 [sV bBq 4944,sV bJ6 4945,sV q1 4946,cV 535,cV 7,cV 0,cV 0,cV 3,rV 1657,.bool true,cV 181,rV 1658,.none,rV 1659,rV 1660,rV 1661,cV 4954,cV 535,sV q1 4955]),
(1663,kV bBq bJ6 (M p 108 5) (rV 1656) aDj 4691 1662),
(1664,tU [sV aV3 4957,sV aV2 4958]),
(1665,dV y1 [eK P q36 4872 (sV aDj 4691),eK P q39 4876 (z 490 4875),eK P q40 4885 (rV 1626),eK P bBu 4903 (rV 1634),eK P bBt 4914 (rV 1641),eK P bBs 4929 (rV 1648),eK P bBr 4941 (rV 1655),eK P bBq 4956 (rV 1663),eK P q41 4959 (rV 1664),eK P aFl 4961 (rV 1667),eK P q46 4963 (rV 1668),eK P q5 4964 .none] 4),
(1666,⟨.type y9,none,.cls ⟨aP4,[.type y12],[rV 1666,.type y12],1665,aP4,true,[],[],false,none,false⟩,⟨[none,none,(oV (sV aP4 4865)),(oV (sV aP4 4873)),(oV (.builtin y18)),(oV (.bool true))]⟩⟩),
(1667,fV y14 [sV aFl 4960,rV 1666,.builtin y19,.builtin y20]),
(1668,fV y14 [sV q46 4962,rV 1666,.builtin y15,.none]),
(1669,fV y16 [rV 1666,rV 1666,rV 1666]),
(1670,fV y7 [.builtin y17,rV 1666]),
(1671,tU [sV aG2 4975,sV aC8 4976,sV aDv 4977]),
(1672,tU [z 256 4979,z 384 4980,z 768 4981]),
(1673,tU []),
(1674,nV []),
(1675,tU [sV aE4 4998,sV aE3 4999]),
(1676,tU []),
(1677,uV aTk aTk (F p 121)),
(1678,fV y3 [sV aTk 4995,sV aTk 4996,sV q1 4997,cV 549,cV 2,cV 0,cV 0,cV 3,rV 1673,.bool true,cV 181,rV 1674,.none,rV 1675,rV 1676,rV 1677,cV 5000,cV 549,sV q1 5001]),
(1679,kV aTk aTk (F p 121) .none aBx 4967 1678),
(1680,tU []),
(1681,nV []),
(1682,tU [sV aE4 5006,sV aE3 5007]),
(1683,tU [])]
noncomputable def bOu(p:Program)(P:Params):List (Nat×Obj):=[
(1684,uV aTj aTj (F p 122)),
(1685,fV y3 [sV aTj 5003,sV aTj 5004,sV q1 5005,cV 551,cV 2,cV 0,cV 0,cV 3,rV 1680,.bool true,cV 181,rV 1681,.none,rV 1682,rV 1683,rV 1684,cV 5008,cV 551,sV q1 5009]),
(1686,kV aTj aTj (F p 122) .none aBx 4967 1685),
(1687,tU []),
(1688,nV []),
(1689,tU [sV aE4 5014,sV aE3 5015]),
(1690,tU []),
(1691,uV aTi aTi (F p 123)),
(1692,fV y3 [sV aTi 5011,sV aTi 5012,sV q1 5013,cV 553,cV 2,cV 0,cV 0,cV 3,rV 1687,.bool true,cV 181,rV 1688,.none,rV 1689,rV 1690,rV 1691,cV 5016,cV 553,sV q1 5017]),
(1693,kV aTi aTi (F p 123) .none aBx 4967 1692),
(1694,tU []),
(1695,nV []),
(1696,tU [sV aE4 5022,sV aE3 5023]),
(1697,tU []),
(1698,uV aTh aTh (F p 124)),
(1699,fV y3 [sV aTh 5019,sV aTh 5020,sV q1 5021,cV 555,cV 2,cV 0,cV 0,cV 3,rV 1694,.bool true,cV 181,rV 1695,.none,rV 1696,rV 1697,rV 1698,cV 5024,cV 555,sV q1 5025]),
(1700,kV aTh aTh (F p 124) .none aBx 4967 1699),
(1701,tU []),
(1702,nV []),
(1703,tU [sV aE4 5030,sV aE3 5031]),
(1704,tU []),
(1705,uV aTg aTg (F p 125)),
(1706,fV y3 [sV aTg 5027,sV aTg 5028,sV q1 5029,cV 557,cV 2,cV 0,cV 0,cV 3,rV 1701,.bool true,cV 181,rV 1702,.none,rV 1703,rV 1704,rV 1705,cV 5032,cV 557,sV q1 5033]),
(1707,kV aTg aTg (F p 125) .none aBx 4967 1706),
(1708,tU []),
(1709,nV []),
(1710,tU [sV aE4 5038,sV aE3 5039]),
(1711,tU []),
(1712,uV aTf aTf (F p 126)),
(1713,fV y3 [sV aTf 5035,sV aTf 5036,sV q1 5037,cV 559,cV 2,cV 0,cV 0,cV 3,rV 1708,.bool true,cV 181,rV 1709,.none,rV 1710,rV 1711,rV 1712,cV 5040,cV 559,sV q1 5041]),
(1714,kV aTf aTf (F p 126) .none aBx 4967 1713),
(1715,tU []),
(1716,nV []),
(1717,tU [sV aE4 5046,sV aE3 5047]),
(1718,tU []),
(1719,uV aTe aTe (F p 127)),
(1720,fV y3 [sV aTe 5043,sV aTe 5044,sV q1 5045,cV 561,cV 2,cV 0,cV 0,cV 3,rV 1715,.bool true,cV 181,rV 1716,.none,rV 1717,rV 1718,rV 1719,cV 5048,cV 561,sV q1 5049]),
(1721,kV aTe aTe (F p 127) .none aBx 4967 1720),
(1722,tU []),
(1723,nV []),
(1724,tU [sV aE4 5054,sV aE3 5055]),
(1725,tU []),
(1726,uV aTd aTd (F p 128)),
(1727,fV y3 [sV aTd 5051,sV aTd 5052,sV q1 5053,cV 563,cV 2,cV 0,cV 0,cV 3,rV 1722,.bool true,cV 181,rV 1723,.none,rV 1724,rV 1725,rV 1726,cV 5056,cV 563,sV q1 5057]),
(1728,kV aTd aTd (F p 128) .none aBx 4967 1727),
(1729,tU []),
(1730,nV []),
(1731,tU [sV aE4 5062,sV aE3 5063]),
(1732,tU []),
(1733,uV aTc aTc (F p 129)),
(1734,fV y3 [sV aTc 5059,sV aTc 5060,sV q1 5061,cV 565,cV 2,cV 0,cV 0,cV 3,rV 1729,.bool true,cV 181,rV 1730,.none,rV 1731,rV 1732,rV 1733,cV 5064,cV 565,sV q1 5065]),
(1735,kV aTc aTc (F p 129) .none aBx 4967 1734),
(1736,tU []),
(1737,nV []),
(1738,tU [sV aE4 5070,sV aE3 5071]),
(1739,tU []),
(1740,uV aTb aTb (F p 130)),
(1741,fV y3 [sV aTb 5067,sV aTb 5068,sV q1 5069,cV 567,cV 2,cV 0,cV 0,cV 3,rV 1736,.bool true,cV 181,rV 1737,.none,rV 1738,rV 1739,rV 1740,cV 5072,cV 567,sV q1 5073]),
(1742,kV aTb aTb (F p 130) .none aBx 4967 1741),
(1743,dV y1 [eK P aDk 5075 (rV 1083),eK P aWp 5076 (rV 1097),eK P aWo 5077 (rV 1700),eK P aWn 5078 (rV 1707),eK P aWm 5079 (rV 1693),eK P aWl 5080 (rV 1104),eK P aQ3 5081 (rV 1111),eK P aWk 5082 (rV 1686),eK P aQ4 5083 (rV 1679)] 9)]
noncomputable def bOt(p:Program)(P:Params):List (Nat×Obj):=[
(1744,dV y1 [eK P aIn 5094 (rV 1090),eK P aIm 5095 (rV 1125),eK P aIl 5096 (rV 1132),eK P aIk 5097 (rV 1139),eK P aIj 5098 (rV 1146),eK P aIi 5099 (rV 1167),eK P aIh 5100 (rV 1153),eK P aIg 5101 (rV 1174),eK P aG3 5102 (rV 1160)] 9),
(1745,dV y1 [eK P aJ8 5113 (sV aDk 5114),eK P aZ5 5115 (sV aWp 5116),eK P aZ9 5117 (sV aWo 5118),eK P aZ8 5119 (sV aWn 5120),eK P aZ7 5121 (sV aWm 5122),eK P aTq 5123 (sV aWl 5124),eK P aTp 5125 (sV aQ3 5126),eK P aZ6 5127 (sV aWk 5128),eK P aTr 5129 (sV aQ4 5130)] 9),
(1746,dV y1 [eK P bAe 5141 (rV 1747),eK P bAd 5143 (rV 1748),eK P aJ9 5145 (rV 1749),eK P bAc 5147 (rV 1750),eK P aTt 5149 (rV 1751)] 5),
(1747,tU [z 1 5142,.bool true]),
(1748,tU [z 2 5144,.bool true]),
(1749,tU [z 4 5146,.bool false]),
(1750,tU [z 1 5148,.bool false]),
(1751,tU [z 2 5150,.bool false]),
(1752,dV y1 [eK P bAb 5157 (z 1 5158),eK P bAa 5159 (z 2 5160),eK P aTs 5161 (z 4 5162)] 3),
(1753,dV y1 [eK P bAj 5167 (rV 1714),eK P bAi 5168 (rV 1721),eK P bAh 5169 (rV 1118),eK P bAg 5170 (rV 1728),eK P bAf 5171 (rV 1735),eK P aTu 5172 (rV 1742)] 6),
(1754,tU []),
(1755,nV []),
(1756,tU [sV bG0 5183,sV aAf 5184]),
(1757,tU []),
(1758,uV aM4 aM4 (F p 137)),
(1759,fV y3 [sV aM4 5180,sV aM4 5181,sV q1 5182,cV 575,cV 1,cV 0,cV 0,cV 3,rV 1754,.bool true,cV 181,rV 1755,.none,rV 1756,rV 1757,rV 1758,cV 5185,cV 575,sV q1 5186]),
(1760,kV aM4 aM4 (F p 137) .none aBx 4967 1759),
(1761,tU []),
(1762,fV y7 [.builtin y8,.type y9]),
(1763,dV y1 [eK P q36 5195 (sV aBx 4967),eK P q38 5197 (sV aP3 5196),eK P q39 5199 (z 590 5198),eK P q40 5210 (rV 1775),eK P aAz 5217 (rV 1782),eK P bBp 5228 (rV 1790),eK P aMb 5237 (rV 1797),eK P aE6 5253 (rV 1804),eK P aG2 5261 (rV 1811),eK P aC8 5273 (rV 1818),eK P aDv 5284 (rV 1825),eK P aV1 5293 (rV 1832),eK P aV0 5307 (rV 1839),eK P aVz 5315 (rV 1846),eK P aVy 5326 (rV 1853),eK P bBo 5344 (rV 1860),eK P bBn 5353 (rV 1867),eK P aVx 5363 (rV 1875),eK P aVw 5373 (rV 1882),eK P bBm 5381 (rV 1889),eK P bBl 5389 (rV 1896),eK P q41 5399 (rV 1897)] 22),
(1764,tU []),
(1765,nV [cV 592,cV 4,rV 1774,cV 603,cV 4,rV 1781,cV 606,cV 4,rV 1789,cV 609,cV 4,rV 1796,cV 613,cV 4,rV 1803,cV 628,cV 4,rV 1810,cV 637,cV 4,rV 1817,cV 647,cV 4,rV 1824,cV 656,cV 4,rV 1831,cV 664,cV 4,rV 1838,cV 686,cV 4,rV 1845,cV 691,cV 4,rV 1852,cV 722,cV 4,rV 1859,cV 739,cV 4,rV 1866,cV 745,cV 4,rV 1874,cV 749,cV 4,rV 1881,cV 765,cV 4,rV 1888,cV 768,cV 4,rV 1895]),
(1766,fV y3 [sV aP3 5190,sV aP3 5191,sV q1 5192,cV 590,cV 0,cV 0,cV 0,cV 0,rV 1764,.bool false,cV 181,rV 1765,.none,.none,.none,.none,cV 5193,cV 590,sV q1 5194]),
(1767,⟨.type y4,none,.plain,⟨[(oV (rV 1766)),(oV (rV 3)),(oV (rV 1763)),none,(oV (sV aBx 4967)),none,(oV (rV 0))]⟩⟩),
(1768,tU [z 0 5200]),
(1769,tU []),
(1770,nV []),
(1771,tU [sV q43 5204,sV aV3 5205,sV aV2 5206,sV bB2 5207]),
(1772,tU []),
(1773,uV q40 bGz (M p 138 0)),
(1774,fV y3 [sV q40 5201,sV bGz 5202,sV q1 5203,cV 592,cV 4,cV 0,cV 0,cV 3,rV 1769,.bool true,cV 181,rV 1770,.none,rV 1771,rV 1772,rV 1773,cV 5208,cV 592,sV q1 5209]),
(1775,kV q40 bGz (M p 138 0) (rV 1768) aBx 4967 1774),
(1776,tU []),
(1777,nV []),
(1778,tU [sV q43 5214]),
(1779,tU []),
(1780,uV aAz bGy (M p 138 1)),
(1781,fV y3 [sV aAz 5211,sV bGy 5212,sV q1 5213,cV 603,cV 1,cV 0,cV 0,cV 3,rV 1776,.bool true,cV 181,rV 1777,.none,rV 1778,rV 1779,rV 1780,cV 5215,cV 603,sV q1 5216]),
(1782,kV aAz bGy (M p 138 1) .none aBx 4967 1781),
(1783,tU [.none,z 0 4205]),
(1784,tU []),
(1785,nV []),
(1786,tU [sV q43 5221,sV bGx 5222,sV bGw 5223,sV aS9 5224,sV aE7 5225]),
(1787,tU []),
(1788,uV bBp bJ5 (M p 138 2)),
(1789,fV y3 [sV bBp 5218,sV bJ5 5219,sV q1 5220,cV 606,cV 5,cV 0,cV 0,cV 3,rV 1784,.bool true,cV 181,rV 1785,.none,rV 1786,rV 1787,rV 1788,cV 5226,cV 606,sV q1 5227]),
(1790,kV bBp bJ5 (M p 138 2) (rV 1783) aBx 4967 1789),
(1791,tU []),
(1792,nV []),
(1793,tU [sV q43 5232,sV aHc 5233,sV q66 5234]),
(1794,tU []),
(1795,uV aMb bGv (M p 138 3)),
(1796,fV y3 [sV aMb 5229,sV bGv 5230,sV q1 5231,cV 609,cV 3,cV 0,cV 0,cV 3,rV 1791,.bool true,cV 181,rV 1792,.none,rV 1793,rV 1794,rV 1795,cV 5235,cV 609,sV q1 5236]),
(1797,kV aMb bGv (M p 138 3) .none aBx 4967 1796),
(1798,tU []),
(1799,nV []),
(1800,tU [sV q43 5241,sV q49 5242,sV aAg 5243,sV bBk 5244,sV aE7 5245,sV bLk 5246,sV bYa 5247,sV aF7 5248,sV bBw 5249,sV bBv 5250]),
(1801,tU []),
(1802,uV aE6 bGu (M p 138 4)),
(1803,fV y3 [sV aE6 5238,sV bGu 5239,sV q1 5240,cV 613,cV 3,cV 0,cV 0,cV 3,rV 1798,.bool true,cV 181,rV 1799,.none,rV 1800,rV 1801,rV 1802,cV 5251,cV 613,sV q1 5252])]
noncomputable def bOs(p:Program)(P:Params):List (Nat×Obj):=[
(1804,kV aE6 bGu (M p 138 4) .none aBx 4967 1803),
(1805,tU []),
(1806,nV []),
(1807,tU [sV q43 5257,sV aE6 5258]),
(1808,tU []),
(1809,uV aG2 bGt (M p 138 5)),
(1810,fV y3 [sV aG2 5254,sV bGt 5255,sV q1 5256,cV 628,cV 1,cV 0,cV 0,cV 3,rV 1805,.bool true,cV 181,rV 1806,.none,rV 1807,rV 1808,rV 1809,cV 5259,cV 628,sV q1 5260]),
(1811,kV aG2 bGt (M p 138 5) .none aBx 4967 1810),
(1812,tU []),
(1813,nV []),
(1814,tU [sV q43 5265,sV q49 5266,sV aEd 5267,sV bX9 5268,sV aE6 5269,sV q66 5270]),
(1815,tU []),
(1816,uV aC8 bGs (M p 138 6)),
(1817,fV y3 [sV aC8 5262,sV bGs 5263,sV q1 5264,cV 637,cV 4,cV 0,cV 0,cV 3,rV 1812,.bool true,cV 181,rV 1813,.none,rV 1814,rV 1815,rV 1816,cV 5271,cV 637,sV q1 5272]),
(1818,kV aC8 bGs (M p 138 6) .none aBx 4967 1817),
(1819,tU []),
(1820,nV []),
(1821,tU [sV q43 5277,sV q49 5278,sV aEd 5279,sV q66 5280,sV aE6 5281]),
(1822,tU []),
(1823,uV aDv bJ4 (M p 138 7)),
(1824,fV y3 [sV aDv 5274,sV bJ4 5275,sV q1 5276,cV 647,cV 4,cV 0,cV 0,cV 3,rV 1819,.bool true,cV 181,rV 1820,.none,rV 1821,rV 1822,rV 1823,cV 5282,cV 647,sV q1 5283]),
(1825,kV aDv bJ4 (M p 138 7) .none aBx 4967 1824),
(1826,tU []),
(1827,nV []),
(1828,tU [sV q43 5288,sV q47 5289,sV bPz 5290]),
(1829,tU []),
(1830,uV aV1 bGr (M p 138 8)),
(1831,fV y3 [sV aV1 5285,sV bGr 5286,sV q1 5287,cV 656,cV 2,cV 0,cV 0,cV 3,rV 1826,.bool true,cV 181,rV 1827,.none,rV 1828,rV 1829,rV 1830,cV 5291,cV 656,sV q1 5292]),
(1832,kV aV1 bGr (M p 138 8) .none aBx 4967 1831),
(1833,tU []),
(1834,nV []),
(1835,tU [sV q43 5297,sV q47 5298,sV bPz 5299,sV aAg 5300,sV bX8 5301,sV bG0 5302,sV aE4 5303,sV bC3 5304]),
(1836,tU []),
(1837,uV aV0 bGq (M p 138 9)),
(1838,fV y3 [sV aV0 5294,sV bGq 5295,sV q1 5296,cV 664,cV 2,cV 0,cV 0,cV 3,rV 1833,.bool true,cV 181,rV 1834,.none,rV 1835,rV 1836,rV 1837,cV 5305,cV 664,sV q1 5306]),
(1839,kV aV0 bGq (M p 138 9) .none aBx 4967 1838),
(1840,tU []),
(1841,nV []),
(1842,tU [sV q43 5311,sV q49 5312]),
(1843,tU []),
(1844,uV aVz bGp (M p 138 10)),
(1845,fV y3 [sV aVz 5308,sV bGp 5309,sV q1 5310,cV 686,cV 2,cV 0,cV 0,cV 3,rV 1840,.bool true,cV 181,rV 1841,.none,rV 1842,rV 1843,rV 1844,cV 5313,cV 686,sV q1 5314]),
(1846,kV aVz bGp (M p 138 10) .none aBx 4967 1845),
(1847,tU []),
(1848,nV []),
(1849,tU [sV q43 5319,sV bG0 5320,sV q47 5321,sV aAf 5322,sV bX7 5323]),
(1850,tU []),
(1851,uV aVy bGo (M p 138 11)),
(1852,fV y3 [sV aVy 5316,sV bGo 5317,sV q1 5318,cV 691,cV 3,cV 0,cV 0,cV 3,rV 1847,.bool true,cV 181,rV 1848,.none,rV 1849,rV 1850,rV 1851,cV 5324,cV 691,sV q1 5325]),
(1853,kV aVy bGo (M p 138 11) .none aBx 4967 1852),
(1854,tU []),
(1855,nV []),
(1856,tU [sV q43 5330,sV bG0 5331,sV q47 5332,sV aAf 5333,sV aHc 5334,sV bAk 5335,sV bX6 5336,sV bPy 5337,sV bX5 5338,sV bX4 5339,sV bHi 5340,sV q66 5341]),
(1857,tU []),
(1858,uV bBo bJ3 (M p 138 12)),
(1859,fV y3 [sV bBo 5327,sV bJ3 5328,sV q1 5329,cV 722,cV 3,cV 0,cV 0,cV 3,rV 1854,.bool true,cV 181,rV 1855,.none,rV 1856,rV 1857,rV 1858,cV 5342,cV 722,sV q1 5343]),
(1860,kV bBo bJ3 (M p 138 12) .none aBx 4967 1859),
(1861,tU []),
(1862,nV []),
(1863,tU [sV q43 5348,sV aAf 5349,sV q47 5350])]
noncomputable def bOr(p:Program)(P:Params):List (Nat×Obj):=[
(1864,tU []),
(1865,uV bBn bJ2 (M p 138 13)),
(1866,fV y3 [sV bBn 5345,sV bJ2 5346,sV q1 5347,cV 739,cV 3,cV 0,cV 0,cV 3,rV 1861,.bool true,cV 181,rV 1862,.none,rV 1863,rV 1864,rV 1865,cV 5351,cV 739,sV q1 5352]),
(1867,kV bBn bJ2 (M p 138 13) .none aBx 4967 1866),
(1868,tU [z 0 5354]),
(1869,tU []),
(1870,nV []),
(1871,tU [sV q43 5358,sV q65 5359,sV q66 5360]),
(1872,tU []),
(1873,uV aVx bGn (M p 138 14)),
(1874,fV y3 [sV aVx 5355,sV bGn 5356,sV q1 5357,cV 745,cV 3,cV 0,cV 0,cV 3,rV 1869,.bool true,cV 181,rV 1870,.none,rV 1871,rV 1872,rV 1873,cV 5361,cV 745,sV q1 5362]),
(1875,kV aVx bGn (M p 138 14) (rV 1868) aBx 4967 1874),
(1876,tU []),
(1877,nV []),
(1878,tU [sV q43 5367,sV bBk 5368,sV q65 5369,sV bX3 5370]),
(1879,tU []),
(1880,uV aVw bGm (M p 138 15)),
(1881,fV y3 [sV aVw 5364,sV bGm 5365,sV q1 5366,cV 749,cV 1,cV 0,cV 0,cV 3,rV 1876,.bool true,cV 181,rV 1877,.none,rV 1878,rV 1879,rV 1880,cV 5371,cV 749,sV q1 5372]),
(1882,kV aVw bGm (M p 138 15) .none aBx 4967 1881),
(1883,tU []),
(1884,nV []),
(1885,tU [sV q43 5377,sV bPx 5378]),
(1886,tU []),
(1887,uV bBm bJ1 (M p 138 16)),
(1888,fV y3 [sV bBm 5374,sV bJ1 5375,sV q1 5376,cV 765,cV 2,cV 0,cV 0,cV 3,rV 1883,.bool true,cV 181,rV 1884,.none,rV 1885,rV 1886,rV 1887,cV 5379,cV 765,sV q1 5380]),
(1889,kV bBm bJ1 (M p 138 16) .none aBx 4967 1888),
(1890,tU []),
(1891,nV []),
(1892,tU [sV q43 5385,sV bPx 5386]),
(1893,tU []),
(1894,uV bBl bJ0 (M p 138 17)),
(1895,fV y3 [sV bBl 5382,sV bJ0 5383,sV q1 5384,cV 768,cV 2,cV 0,cV 0,cV 3,rV 1890,.bool true,cV 181,rV 1891,.none,rV 1892,rV 1893,rV 1894,cV 5387,cV 768,sV q1 5388]),
(1896,kV bBl bJ0 (M p 138 17) .none aBx 4967 1895),
(1897,tU [sV aV3 5390,sV bBk 5391,sV bJz 5392,sV aV2 5393,sV aE7 5394,sV bGw 5395,sV bGx 5396,sV bGl 5397,sV bJy 5398]),
(1898,dV y1 [eK P q36 5195 (sV aBx 4967),eK P q39 5199 (z 590 5198),eK P q40 5210 (rV 1775),eK P aAz 5217 (rV 1782),eK P bBp 5228 (rV 1790),eK P aMb 5237 (rV 1797),eK P aE6 5253 (rV 1804),eK P aG2 5261 (rV 1811),eK P aC8 5273 (rV 1818),eK P aDv 5284 (rV 1825),eK P aV1 5293 (rV 1832),eK P aV0 5307 (rV 1839),eK P aVz 5315 (rV 1846),eK P aVy 5326 (rV 1853),eK P bBo 5344 (rV 1860),eK P bBn 5353 (rV 1867),eK P aVx 5363 (rV 1875),eK P aVw 5373 (rV 1882),eK P bBm 5381 (rV 1889),eK P bBl 5389 (rV 1896),eK P q41 5399 (rV 1897),eK P aFl 5401 (rV 1900),eK P q46 5403 (rV 1901),eK P q5 5404 .none] 4),
(1899,⟨.type y9,none,.cls ⟨aP3,[.type y12],[rV 1899,.type y12],1898,aP3,true,[],[],false,none,false⟩,⟨[none,none,(oV (sV aP3 5188)),(oV (sV aP3 5196)),(oV (.builtin y18)),(oV (.bool true))]⟩⟩),
(1900,fV y14 [sV aFl 5400,rV 1899,.builtin y19,.builtin y20]),
(1901,fV y14 [sV q46 5402,rV 1899,.builtin y15,.none]),
(1902,fV y16 [rV 1899,rV 1899,rV 1899]),
(1903,fV y7 [.builtin y17,rV 1899]),
(1904,tU [z 1 5421,z 2 5422,z 4 5423]),
(1905,tU []),
(1906,nV []),
(1907,tU [sV aEd 5428]),
(1908,tU []),
(1909,uV aM3 aM3 (F p 144)),
(1910,fV y3 [sV aM3 5425,sV aM3 5426,sV q1 5427,cV 775,cV 1,cV 0,cV 0,cV 3,rV 1905,.bool true,cV 181,rV 1906,.none,rV 1907,rV 1908,rV 1909,cV 5429,cV 775,sV q1 5430]),
(1911,kV aM3 aM3 (F p 144) .none aBc 5407 1910),
(1912,tU []),
(1913,nV []),
(1914,tU [sV aJ6 5435,sV aMy 5436]),
(1915,tU []),
(1916,uV aM2 aM2 (F p 145)),
(1917,fV y3 [sV aM2 5432,sV aM2 5433,sV q1 5434,cV 778,cV 2,cV 0,cV 0,cV 3,rV 1912,.bool true,cV 181,rV 1913,.none,rV 1914,rV 1915,rV 1916,cV 5437,cV 778,sV q1 5438]),
(1918,kV aM2 aM2 (F p 145) .none aBc 5407 1917),
(1919,tU []),
(1920,fV y7 [.builtin y8,.type y9]),
(1921,dV y1 [eK P q36 5447 (sV aBc 5407),eK P q38 5449 (sV aP2 5448),eK P q39 5451 (z 781 5450),eK P q40 5461 (rV 1933),eK P bBj 5470 (rV 1940),eK P aJ7 5479 (rV 1947),eK P aVv 5488 (rV 1954),eK P q47 5496 (rV 1961),eK P aVu 5505 (rV 1968),eK P aVt 5514 (rV 1975),eK P bBi 5522 (rV 1982),eK P bBh 5531 (rV 1989),eK P aS8 5539 (rV 1996),eK P bBg 5548 (rV 2003),eK P bBf 5560 (rV 2010),eK P aVs 5569 (rV 2017),eK P aMb 5579 (rV 2024),eK P aC8 5593 (rV 2031),eK P aDv 5608 (rV 2038),eK P aVr 5620 (rV 2045),eK P bBe 5630 (rV 2052),eK P bBd 5640 (rV 2059),eK P bBc 5647 (rV 2066),eK P aZ1 5653 (rV 2071),eK P bBb 5660 (rV 2078),eK P bBa 5668 (rV 2085),eK P q41 5673 (rV 2086)] 27),
(1922,tU []),
(1923,nV [cV 783,cV 4,rV 1932,cV 790,cV 4,rV 1939,cV 793,cV 4,rV 1946,cV 797,cV 4,rV 1953,cV 801,cV 4,rV 1960,cV 805,cV 4,rV 1967,cV 809,cV 4,rV 1974,cV 815,cV 4,rV 1981,cV 819,cV 4,rV 1988,cV 823,cV 4,rV 1995,cV 827,cV 4,rV 2002,cV 831,cV 4,rV 2009,cV 836,cV 4,rV 2016,cV 844,cV 4,rV 2023,cV 853,cV 4,rV 2030,cV 864,cV 4,rV 2037,cV 879,cV 4,rV 2044,cV 890,cV 4,rV 2051,cV 893,cV 4,rV 2058,cV 896,cV 4,rV 2065,cV 899,cV 4,rV 2070,cV 902,cV 4,rV 2077,cV 905,cV 4,rV 2084])]
noncomputable def bFy(p:Program)(P:Params):List (Nat×Obj):=[
(1924,fV y3 [sV aP2 5442,sV aP2 5443,sV q1 5444,cV 781,cV 0,cV 0,cV 0,cV 0,rV 1922,.bool false,cV 181,rV 1923,.none,.none,.none,.none,cV 5445,cV 781,sV q1 5446]),
(1925,⟨.type y4,none,.plain,⟨[(oV (rV 1924)),(oV (rV 3)),(oV (rV 1921)),none,(oV (sV aBc 5407)),none,(oV (rV 0))]⟩⟩),
(1926,tU [z 0 5452]),
(1927,tU []),
(1928,nV []),
(1929,tU [sV q43 5456,sV aEd 5457,sV aJ6 5458]),
(1930,tU []),
(1931,uV q40 bGk (M p 146 0)),
(1932,fV y3 [sV q40 5453,sV bGk 5454,sV q1 5455,cV 783,cV 3,cV 0,cV 0,cV 3,rV 1927,.bool true,cV 181,rV 1928,.none,rV 1929,rV 1930,rV 1931,cV 5459,cV 783,sV q1 5460]),
(1933,kV q40 bGk (M p 146 0) (rV 1926) aBc 5407 1932),
(1934,tU []),
(1935,nV []),
(1936,tU [sV q43 5465,sV q49 5466,sV aQ1 5467]),
(1937,tU []),
(1938,uV bBj bJx (M p 146 1)),
(1939,fV y3 [sV bBj 5462,sV bJx 5463,sV q1 5464,cV 790,cV 3,cV 0,cV 0,cV 3,rV 1934,.bool true,cV 181,rV 1935,.none,rV 1936,rV 1937,rV 1938,cV 5468,cV 790,sV q1 5469]),
(1940,kV bBj bJx (M p 146 1) .none aBc 5407 1939),
(1941,tU []),
(1942,nV []),
(1943,tU [sV q43 5474,sV q49 5475,sV aQ1 5476]),
(1944,tU []),
(1945,uV aJ7 bGj (M p 146 2)),
(1946,fV y3 [sV aJ7 5471,sV bGj 5472,sV q1 5473,cV 793,cV 3,cV 0,cV 0,cV 3,rV 1941,.bool true,cV 181,rV 1942,.none,rV 1943,rV 1944,rV 1945,cV 5477,cV 793,sV q1 5478]),
(1947,kV aJ7 bGj (M p 146 2) .none aBc 5407 1946),
(1948,tU []),
(1949,nV []),
(1950,tU [sV q43 5483,sV q49 5484,sV aEd 5485]),
(1951,tU []),
(1952,uV aVv bGi (M p 146 3)),
(1953,fV y3 [sV aVv 5480,sV bGi 5481,sV q1 5482,cV 797,cV 3,cV 0,cV 0,cV 3,rV 1948,.bool true,cV 181,rV 1949,.none,rV 1950,rV 1951,rV 1952,cV 5486,cV 797,sV q1 5487]),
(1954,kV aVv bGi (M p 146 3) .none aBc 5407 1953),
(1955,tU []),
(1956,nV []),
(1957,tU [sV q43 5492,sV q49 5493]),
(1958,tU []),
(1959,uV q47 bGh (M p 146 4)),
(1960,fV y3 [sV q47 5489,sV bGh 5490,sV q1 5491,cV 801,cV 2,cV 0,cV 0,cV 3,rV 1955,.bool true,cV 181,rV 1956,.none,rV 1957,rV 1958,rV 1959,cV 5494,cV 801,sV q1 5495]),
(1961,kV q47 bGh (M p 146 4) .none aBc 5407 1960),
(1962,tU []),
(1963,nV []),
(1964,tU [sV q43 5500,sV q49 5501,sV q66 5502]),
(1965,tU []),
(1966,uV aVu bGg (M p 146 5)),
(1967,fV y3 [sV aVu 5497,sV bGg 5498,sV q1 5499,cV 805,cV 3,cV 0,cV 0,cV 3,rV 1962,.bool true,cV 181,rV 1963,.none,rV 1964,rV 1965,rV 1966,cV 5503,cV 805,sV q1 5504]),
(1968,kV aVu bGg (M p 146 5) .none aBc 5407 1967),
(1969,tU []),
(1970,nV []),
(1971,tU [sV q43 5509,sV bX2 5510,sV q66 5511]),
(1972,tU []),
(1973,uV aVt bGf (M p 146 6)),
(1974,fV y3 [sV aVt 5506,sV bGf 5507,sV q1 5508,cV 809,cV 3,cV 0,cV 0,cV 3,rV 1969,.bool true,cV 181,rV 1970,.none,rV 1971,rV 1972,rV 1973,cV 5512,cV 809,sV q1 5513]),
(1975,kV aVt bGf (M p 146 6) .none aBc 5407 1974),
(1976,tU []),
(1977,nV []),
(1978,tU [sV q43 5518,sV q49 5519]),
(1979,tU []),
(1980,uV bBi bJw (M p 146 7)),
(1981,fV y3 [sV bBi 5515,sV bJw 5516,sV q1 5517,cV 815,cV 2,cV 0,cV 0,cV 3,rV 1976,.bool true,cV 181,rV 1977,.none,rV 1978,rV 1979,rV 1980,cV 5520,cV 815,sV q1 5521]),
(1982,kV bBi bJw (M p 146 7) .none aBc 5407 1981),
(1983,tU [])]
noncomputable def bFx(p:Program)(P:Params):List (Nat×Obj):=[
(1984,nV []),
(1985,tU [sV q43 5526,sV q49 5527,sV q66 5528]),
(1986,tU []),
(1987,uV bBh bJv (M p 146 8)),
(1988,fV y3 [sV bBh 5523,sV bJv 5524,sV q1 5525,cV 819,cV 3,cV 0,cV 0,cV 3,rV 1983,.bool true,cV 181,rV 1984,.none,rV 1985,rV 1986,rV 1987,cV 5529,cV 819,sV q1 5530]),
(1989,kV bBh bJv (M p 146 8) .none aBc 5407 1988),
(1990,tU []),
(1991,nV []),
(1992,tU [sV q43 5535,sV q49 5536]),
(1993,tU []),
(1994,uV aS8 bJu (M p 146 9)),
(1995,fV y3 [sV aS8 5532,sV bJu 5533,sV q1 5534,cV 823,cV 2,cV 0,cV 0,cV 3,rV 1990,.bool true,cV 181,rV 1991,.none,rV 1992,rV 1993,rV 1994,cV 5537,cV 823,sV q1 5538]),
(1996,kV aS8 bJu (M p 146 9) .none aBc 5407 1995),
(1997,tU []),
(1998,nV []),
(1999,tU [sV q43 5543,sV q49 5544,sV q66 5545]),
(2000,tU []),
(2001,uV bBg bJt (M p 146 10)),
(2002,fV y3 [sV bBg 5540,sV bJt 5541,sV q1 5542,cV 827,cV 3,cV 0,cV 0,cV 3,rV 1997,.bool true,cV 181,rV 1998,.none,rV 1999,rV 2000,rV 2001,cV 5546,cV 827,sV q1 5547]),
(2003,kV bBg bJt (M p 146 10) .none aBc 5407 2002),
(2004,tU []),
(2005,nV []),
(2006,tU [sV q43 5552,sV q49 5553,sV bX1 5554,sV q66 5555,sV aA0 5556,sV bHi 5557]),
(2007,tU []),
(2008,uV bBf bJs (M p 146 11)),
(2009,fV y3 [sV bBf 5549,sV bJs 5550,sV q1 5551,cV 831,cV 4,cV 0,cV 0,cV 3,rV 2004,.bool true,cV 181,rV 2005,.none,rV 2006,rV 2007,rV 2008,cV 5558,cV 831,sV q1 5559]),
(2010,kV bBf bJs (M p 146 11) .none aBc 5407 2009),
(2011,tU []),
(2012,nV []),
(2013,tU [sV q43 5564,sV q49 5565,sV aEd 5566]),
(2014,tU []),
(2015,uV aVs bGe (M p 146 12)),
(2016,fV y3 [sV aVs 5561,sV bGe 5562,sV q1 5563,cV 836,cV 3,cV 0,cV 0,cV 3,rV 2011,.bool true,cV 181,rV 2012,.none,rV 2013,rV 2014,rV 2015,cV 5567,cV 836,sV q1 5568]),
(2017,kV aVs bGe (M p 146 12) .none aBc 5407 2016),
(2018,tU []),
(2019,nV []),
(2020,tU [sV q43 5573,sV q49 5574,sV aEd 5575,sV q66 5576]),
(2021,tU []),
(2022,uV aMb bJr (M p 146 13)),
(2023,fV y3 [sV aMb 5570,sV bJr 5571,sV q1 5572,cV 844,cV 4,cV 0,cV 0,cV 3,rV 2018,.bool true,cV 181,rV 2019,.none,rV 2020,rV 2021,rV 2022,cV 5577,cV 844,sV q1 5578]),
(2024,kV aMb bJr (M p 146 13) .none aBc 5407 2023),
(2025,tU []),
(2026,nV []),
(2027,tU [sV q43 5583,sV q49 5584,sV aQ1 5585,sV aF7 5586,sV aE6 5587,sV aMy 5588,sV q47 5589,sV aIw 5590]),
(2028,tU []),
(2029,uV aC8 bJq (M p 146 14)),
(2030,fV y3 [sV aC8 5580,sV bJq 5581,sV q1 5582,cV 853,cV 3,cV 0,cV 0,cV 3,rV 2025,.bool true,cV 181,rV 2026,.none,rV 2027,rV 2028,rV 2029,cV 5591,cV 853,sV q1 5592]),
(2031,kV aC8 bJq (M p 146 14) .none aBc 5407 2030),
(2032,tU []),
(2033,nV []),
(2034,tU [sV q43 5597,sV q49 5598,sV bJp 5599,sV aE6 5600,sV aS7 5601,sV aMy 5602,sV aEd 5603,sV q66 5604,sV aS8 5605]),
(2035,tU []),
(2036,uV aDv bJo (M p 146 15)),
(2037,fV y3 [sV aDv 5594,sV bJo 5595,sV q1 5596,cV 864,cV 3,cV 0,cV 0,cV 3,rV 2032,.bool true,cV 181,rV 2033,.none,rV 2034,rV 2035,rV 2036,cV 5606,cV 864,sV q1 5607]),
(2038,kV aDv bJo (M p 146 15) .none aBc 5407 2037),
(2039,tU []),
(2040,nV []),
(2041,tU [sV q43 5612,sV q49 5613,sV aQ1 5614,sV aE6 5615,sV aMy 5616,sV aEd 5617]),
(2042,tU []),
(2043,uV aVr bGd (M p 146 16))]
noncomputable def bFw(p:Program)(P:Params):List (Nat×Obj):=[
(2044,fV y3 [sV aVr 5609,sV bGd 5610,sV q1 5611,cV 879,cV 3,cV 0,cV 0,cV 3,rV 2039,.bool true,cV 181,rV 2040,.none,rV 2041,rV 2042,rV 2043,cV 5618,cV 879,sV q1 5619]),
(2045,kV aVr bGd (M p 146 16) .none aBc 5407 2044),
(2046,tU []),
(2047,nV []),
(2048,tU [sV q43 5624,sV q49 5625,sV aQ1 5626,sV aS8 5627]),
(2049,tU []),
(2050,uV bBe bJn (M p 146 17)),
(2051,fV y3 [sV bBe 5621,sV bJn 5622,sV q1 5623,cV 890,cV 4,cV 0,cV 0,cV 3,rV 2046,.bool true,cV 181,rV 2047,.none,rV 2048,rV 2049,rV 2050,cV 5628,cV 890,sV q1 5629]),
(2052,kV bBe bJn (M p 146 17) .none aBc 5407 2051),
(2053,tU []),
(2054,nV []),
(2055,tU [sV q43 5634,sV bPy 5635,sV bX0 5636,sV aQ1 5637]),
(2056,tU []),
(2057,uV bBd bJm (M p 146 18)),
(2058,fV y3 [sV bBd 5631,sV bJm 5632,sV q1 5633,cV 893,cV 4,cV 0,cV 0,cV 3,rV 2053,.bool true,cV 181,rV 2054,.none,rV 2055,rV 2056,rV 2057,cV 5638,cV 893,sV q1 5639]),
(2059,kV bBd bJm (M p 146 18) .none aBc 5407 2058),
(2060,tU []),
(2061,nV []),
(2062,tU [sV q43 5644]),
(2063,tU []),
(2064,uV bBc bJl (M p 146 19)),
(2065,fV y3 [sV bBc 5641,sV bJl 5642,sV q1 5643,cV 896,cV 1,cV 0,cV 0,cV 3,rV 2060,.bool true,cV 181,rV 2061,.none,rV 2062,rV 2063,rV 2064,cV 5645,cV 896,sV q1 5646]),
(2066,kV bBc bJl (M p 146 19) .none aBc 5407 2065),
(2067,tU []),
(2068,nV []),
(2069,uV aZ1 bJk (M p 146 20)),
(2070,fV y3 [sV aZ1 5648,sV bJk 5649,sV q1 5650,cV 899,cV 1,cV 0,cV 0,cV 3,rV 2067,.bool true,cV 181,rV 2068,.none,.none,.none,rV 2069,cV 5651,cV 899,sV q1 5652]),
(2071,kV aZ1 bJk (M p 146 20) .none aBc 5407 2070),
(2072,tU []),
(2073,nV []),
(2074,tU [sV q43 5657]),
(2075,tU []),
(2076,uV bBb bJj (M p 146 21)),
(2077,fV y3 [sV bBb 5654,sV bJj 5655,sV q1 5656,cV 902,cV 1,cV 0,cV 0,cV 3,rV 2072,.bool true,cV 181,rV 2073,.none,rV 2074,rV 2075,rV 2076,cV 5658,cV 902,sV q1 5659]),
(2078,kV bBb bJj (M p 146 21) .none aBc 5407 2077),
(2079,tU []),
(2080,nV []),
(2081,tU [sV q43 5664,sV aE3 5665]),
(2082,tU []),
(2083,uV bBa bJi (M p 146 22)),
(2084,fV y3 [sV bBa 5661,sV bJi 5662,sV q1 5663,cV 905,cV 2,cV 0,cV 0,cV 3,rV 2079,.bool true,cV 181,rV 2080,.none,rV 2081,rV 2082,rV 2083,cV 5666,cV 905,sV q1 5667]),
(2085,kV bBa bJi (M p 146 22) .none aBc 5407 2084),
(2086,tU [sV aJ6 5669,sV aMy 5670,sV aEd 5671,sV bJh 5672]),
(2087,dV y1 [eK P q36 5447 (sV aBc 5407),eK P q39 5451 (z 781 5450),eK P q40 5461 (rV 1933),eK P bBj 5470 (rV 1940),eK P aJ7 5479 (rV 1947),eK P aVv 5488 (rV 1954),eK P q47 5496 (rV 1961),eK P aVu 5505 (rV 1968),eK P aVt 5514 (rV 1975),eK P bBi 5522 (rV 1982),eK P bBh 5531 (rV 1989),eK P aS8 5539 (rV 1996),eK P bBg 5548 (rV 2003),eK P bBf 5560 (rV 2010),eK P aVs 5569 (rV 2017),eK P aMb 5579 (rV 2024),eK P aC8 5593 (rV 2031),eK P aDv 5608 (rV 2038),eK P aVr 5620 (rV 2045),eK P bBe 5630 (rV 2052),eK P bBd 5640 (rV 2059),eK P bBc 5647 (rV 2066),eK P aZ1 5653 (rV 2071),eK P bBb 5660 (rV 2078),eK P bBa 5668 (rV 2085),eK P q41 5673 (rV 2086),eK P aFl 5675 (rV 2089),eK P q46 5677 (rV 2090),eK P q5 5678 .none] 4),
(2088,⟨.type y9,none,.cls ⟨aP2,[.type y12],[rV 2088,.type y12],2087,aP2,true,[],[],false,none,false⟩,⟨[none,none,(oV (sV aP2 5440)),(oV (sV aP2 5448)),(oV (.builtin y18)),(oV (.bool true))]⟩⟩),
(2089,fV y14 [sV aFl 5674,rV 2088,.builtin y19,.builtin y20]),
(2090,fV y14 [sV q46 5676,rV 2088,.builtin y15,.none]),
(2091,fV y16 [rV 2088,rV 2088,rV 2088]),
(2092,fV y7 [.builtin y17,rV 2088]),
(2093,tU []),
(2094,fV y7 [.builtin y8,.type y9]),
(2095,dV y1 [eK P q36 5688 (sV aBc 5407),eK P q38 5690 (sV aP1 5689),eK P q39 5692 (z 907 5691),eK P q40 5700 (rV 2106),eK P aEd 5707 (rV 2113),eK P aC8 5718 (rV 2120),eK P aDv 5728 (rV 2127),eK P q41 5730 (rV 2128)] 8),
(2096,tU []),
(2097,nV [cV 909,cV 4,rV 2105,cV 912,cV 4,rV 2112,cV 915,cV 4,rV 2119,cV 921,cV 4,rV 2126]),
(2098,fV y3 [sV aP1 5683,sV aP1 5684,sV q1 5685,cV 907,cV 0,cV 0,cV 0,cV 0,rV 2096,.bool false,cV 181,rV 2097,.none,.none,.none,.none,cV 5686,cV 907,sV q1 5687]),
(2099,⟨.type y4,none,.plain,⟨[(oV (rV 2098)),(oV (rV 3)),(oV (rV 2095)),none,(oV (sV aBc 5407)),none,(oV (rV 0))]⟩⟩),
(2100,tU []),
(2101,nV []),
(2102,tU [sV q43 5696,sV bJp 5697]),
(2103,tU [])]
noncomputable def bFv(p:Program)(P:Params):List (Nat×Obj):=[
(2104,uV q40 bJg (M p 147 0)),
(2105,fV y3 [sV q40 5693,sV bJg 5694,sV q1 5695,cV 909,cV 2,cV 0,cV 0,cV 3,rV 2100,.bool true,cV 181,rV 2101,.none,rV 2102,rV 2103,rV 2104,cV 5698,cV 909,sV q1 5699]),
(2106,kV q40 bJg (M p 147 0) .none aBc 5407 2105),
(2107,tU []),
(2108,nV []),
(2109,tU [sV q43 5704]),
(2110,tU []),
(2111,uV aEd bJf (M p 147 1)),
(2112,fV y3 [sV aEd 5701,sV bJf 5702,sV q1 5703,cV 912,cV 1,cV 0,cV 0,cV 3,rV 2107,.bool true,cV 181,rV 2108,.none,rV 2109,rV 2110,rV 2111,cV 5705,cV 912,sV q1 5706]),
(2113,kV aEd bJf (M p 147 1) .none aBc 5407 2112),
(2114,tU []),
(2115,nV []),
(2116,tU [sV q43 5711,sV bKi 5712,sV aEd 5713,sV q66 5714,sV aS8 5715]),
(2117,tU []),
(2118,uV aC8 bJe (M p 147 2)),
(2119,fV y3 [sV aC8 5708,sV bJe 5709,sV q1 5710,cV 915,cV 3,cV 0,cV 0,cV 3,rV 2114,.bool true,cV 181,rV 2115,.none,rV 2116,rV 2117,rV 2118,cV 5716,cV 915,sV q1 5717]),
(2120,kV aC8 bJe (M p 147 2) .none aBc 5407 2119),
(2121,tU []),
(2122,nV []),
(2123,tU [sV q43 5722,sV bKi 5723,sV aEd 5724,sV q66 5725]),
(2124,tU []),
(2125,uV aDv bJd (M p 147 3)),
(2126,fV y3 [sV aDv 5719,sV bJd 5720,sV q1 5721,cV 921,cV 4,cV 0,cV 0,cV 3,rV 2121,.bool true,cV 181,rV 2122,.none,rV 2123,rV 2124,rV 2125,cV 5726,cV 921,sV q1 5727]),
(2127,kV aDv bJd (M p 147 3) .none aBc 5407 2126),
(2128,tU [sV bJp 5729]),
(2129,dV y1 [eK P q36 5688 (sV aBc 5407),eK P q39 5692 (z 907 5691),eK P q40 5700 (rV 2106),eK P aEd 5707 (rV 2113),eK P aC8 5718 (rV 2120),eK P aDv 5728 (rV 2127),eK P q41 5730 (rV 2128),eK P aFl 5732 (rV 2131),eK P q46 5734 (rV 2132),eK P q5 5735 .none] 4),
(2130,⟨.type y9,none,.cls ⟨aP1,[.type y12],[rV 2130,.type y12],2129,aP1,true,[],[],false,none,false⟩,⟨[none,none,(oV (sV aP1 5681)),(oV (sV aP1 5689)),(oV (.builtin y18)),(oV (.bool true))]⟩⟩),
(2131,fV y14 [sV aFl 5731,rV 2130,.builtin y19,.builtin y20]),
(2132,fV y14 [sV q46 5733,rV 2130,.builtin y15,.none]),
(2133,fV y16 [rV 2130,rV 2130,rV 2130]),
(2134,fV y7 [.builtin y17,rV 2130]),
(2135,tU []),
(2136,fV y7 [.builtin y8,.type y9]),
(2137,dV y1 [eK P q36 5745 (sV aBc 5407),eK P q38 5747 (sV aP0 5746),eK P q39 5749 (z 923 5748),eK P q40 5757 (rV 2148),eK P bA9 5767 (rV 2155),eK P aVq 5777 (rV 2162),eK P aC8 5790 (rV 2170),eK P aDv 5804 (rV 2178),eK P aG2 5814 (rV 2185),eK P bA8 5823 (rV 2192),eK P q41 5826 (rV 2193)] 11),
(2138,tU []),
(2139,nV [cV 925,cV 4,rV 2147,cV 929,cV 4,rV 2154,cV 932,cV 4,rV 2161,cV 938,cV 4,rV 2169,cV 953,cV 4,rV 2177,cV 969,cV 4,rV 2184,cV 980,cV 4,rV 2191]),
(2140,fV y3 [sV aP0 5740,sV aP0 5741,sV q1 5742,cV 923,cV 0,cV 0,cV 0,cV 0,rV 2138,.bool false,cV 181,rV 2139,.none,.none,.none,.none,cV 5743,cV 923,sV q1 5744]),
(2141,⟨.type y4,none,.plain,⟨[(oV (rV 2140)),(oV (rV 3)),(oV (rV 2137)),none,(oV (sV aBc 5407)),none,(oV (rV 0))]⟩⟩),
(2142,tU []),
(2143,nV []),
(2144,tU [sV q43 5753,sV aLa 5754]),
(2145,tU []),
(2146,uV q40 bGc (M p 148 0)),
(2147,fV y3 [sV q40 5750,sV bGc 5751,sV q1 5752,cV 925,cV 2,cV 0,cV 0,cV 3,rV 2142,.bool true,cV 181,rV 2143,.none,rV 2144,rV 2145,rV 2146,cV 5755,cV 925,sV q1 5756]),
(2148,kV q40 bGc (M p 148 0) .none aBc 5407 2147),
(2149,tU []),
(2150,nV []),
(2151,tU [sV q43 5761,sV aJ6 5762,sV aMy 5763,sV bXz 5764]),
(2152,tU []),
(2153,uV bA9 bJc (M p 148 1)),
(2154,fV y3 [sV bA9 5758,sV bJc 5759,sV q1 5760,cV 929,cV 4,cV 0,cV 0,cV 3,rV 2149,.bool true,cV 181,rV 2150,.none,rV 2151,rV 2152,rV 2153,cV 5765,cV 929,sV q1 5766]),
(2155,kV bA9 bJc (M p 148 1) .none aBc 5407 2154),
(2156,tU []),
(2157,nV []),
(2158,tU [sV q43 5771,sV q49 5772,sV aEd 5773,sV bGb 5774]),
(2159,tU []),
(2160,uV aVq bGa (M p 148 2)),
(2161,fV y3 [sV aVq 5768,sV bGa 5769,sV q1 5770,cV 932,cV 3,cV 0,cV 0,cV 3,rV 2156,.bool true,cV 181,rV 2157,.none,rV 2158,rV 2159,rV 2160,cV 5775,cV 932,sV q1 5776]),
(2162,kV aVq bGa (M p 148 2) .none aBc 5407 2161),
(2163,tU [z 5 312])]
noncomputable def bFu(p:Program)(P:Params):List (Nat×Obj):=[
(2164,tU []),
(2165,nV []),
(2166,tU [sV q43 5782,sV q49 5783,sV aEd 5784,sV q65 5785,sV aLa 5786,sV bGb 5787]),
(2167,tU []),
(2168,uV aC8 bF9 (M p 148 3)),
(2169,fV y3 [sV aC8 5779,sV bF9 5780,sV q1 5781,cV 938,cV 4,cV 0,cV 0,cV 3,rV 2164,.bool true,cV 181,rV 2165,.none,rV 2166,rV 2167,rV 2168,cV 5788,cV 938,sV q1 5789]),
(2170,kV aC8 bF9 (M p 148 3) (rV 2163) aBc 5407 2169),
(2171,tU [z 7 316]),
(2172,tU []),
(2173,nV []),
(2174,tU [sV q43 5795,sV q49 5796,sV aEd 5797,sV q66 5798,sV q65 5799,sV aLa 5800,sV bGb 5801]),
(2175,tU []),
(2176,uV aDv bJb (M p 148 4)),
(2177,fV y3 [sV aDv 5792,sV bJb 5793,sV q1 5794,cV 953,cV 5,cV 0,cV 0,cV 3,rV 2172,.bool true,cV 181,rV 2173,.none,rV 2174,rV 2175,rV 2176,cV 5802,cV 953,sV q1 5803]),
(2178,kV aDv bJb (M p 148 4) (rV 2171) aBc 5407 2177),
(2179,tU []),
(2180,nV []),
(2181,tU [sV q43 5808,sV q49 5809,sV aLa 5810,sV bGb 5811]),
(2182,tU []),
(2183,uV aG2 bF8 (M p 148 5)),
(2184,fV y3 [sV aG2 5805,sV bF8 5806,sV q1 5807,cV 969,cV 2,cV 0,cV 0,cV 3,rV 2179,.bool true,cV 181,rV 2180,.none,rV 2181,rV 2182,rV 2183,cV 5812,cV 969,sV q1 5813]),
(2185,kV aG2 bF8 (M p 148 5) .none aBc 5407 2184),
(2186,tU []),
(2187,nV []),
(2188,tU [sV q43 5818,sV q49 5819,sV aEd 5820]),
(2189,tU []),
(2190,uV bA8 bJa (M p 148 6)),
(2191,fV y3 [sV bA8 5815,sV bJa 5816,sV q1 5817,cV 980,cV 3,cV 0,cV 0,cV 3,rV 2186,.bool true,cV 181,rV 2187,.none,rV 2188,rV 2189,rV 2190,cV 5821,cV 980,sV q1 5822]),
(2192,kV bA8 bJa (M p 148 6) .none aBc 5407 2191),
(2193,tU [sV aLa 5824,sV bI9 5825]),
(2194,dV y1 [eK P q36 5745 (sV aBc 5407),eK P q39 5749 (z 923 5748),eK P q40 5757 (rV 2148),eK P bA9 5767 (rV 2155),eK P aVq 5777 (rV 2162),eK P aC8 5790 (rV 2170),eK P aDv 5804 (rV 2178),eK P aG2 5814 (rV 2185),eK P bA8 5823 (rV 2192),eK P q41 5826 (rV 2193),eK P aFl 5828 (rV 2196),eK P q46 5830 (rV 2197),eK P q5 5831 .none] 4),
(2195,⟨.type y9,none,.cls ⟨aP0,[.type y12],[rV 2195,.type y12],2194,aP0,true,[],[],false,none,false⟩,⟨[none,none,(oV (sV aP0 5738)),(oV (sV aP0 5746)),(oV (.builtin y18)),(oV (.bool true))]⟩⟩),
(2196,fV y14 [sV aFl 5827,rV 2195,.builtin y19,.builtin y20]),
(2197,fV y14 [sV q46 5829,rV 2195,.builtin y15,.none]),
(2198,fV y16 [rV 2195,rV 2195,rV 2195]),
(2199,fV y7 [.builtin y17,rV 2195]),
(2200,tU []),
(2201,nV []),
(2202,tU [sV aB4 5839,sV aQ0 5840,sV aQz 5841,sV aMa 5842]),
(2203,tU []),
(2204,uV aE2 aE2 (F p 150)),
(2205,fV y3 [sV aE2 5836,sV aE2 5837,sV q1 5838,cV 983,cV 1,cV 0,cV 0,cV 3,rV 2200,.bool true,cV 181,rV 2201,.none,rV 2202,rV 2203,rV 2204,cV 5843,cV 983,sV q1 5844]),
(2206,kV aE2 aE2 (F p 150) .none aLc 5834 2205),
(2207,tU []),
(2208,nV []),
(2209,tU [sV aG1 5849,sV bXy 5850,sV bXx 5851,sV bXw 5852]),
(2210,tU []),
(2211,uV aM1 aM1 (F p 151)),
(2212,fV y3 [sV aM1 5846,sV aM1 5847,sV q1 5848,cV 990,cV 2,cV 0,cV 0,cV 3,rV 2207,.bool true,cV 181,rV 2208,.none,rV 2209,rV 2210,rV 2211,cV 5853,cV 990,sV q1 5854]),
(2213,kV aM1 aM1 (F p 151) .none aLc 5834 2212),
(2214,tU []),
(2215,nV []),
(2216,tU [sV aG1 5859,sV aJ6 5860,sV bHk 5861,sV bXv 5862,sV bXu 5863,sV aE6 5864,sV bPw 5865,sV aZ2 5866]),
(2217,tU []),
(2218,uV aM0 aM0 (F p 152)),
(2219,fV y3 [sV aM0 5856,sV aM0 5857,sV q1 5858,cV 999,cV 3,cV 0,cV 0,cV 3,rV 2214,.bool true,cV 181,rV 2215,.none,rV 2216,rV 2217,rV 2218,cV 5867,cV 999,sV q1 5868]),
(2220,kV aM0 aM0 (F p 152) .none aLc 5834 2219),
(2221,tU []),
(2222,nV []),
(2223,uV aIf aIf (F p 153))]
noncomputable def bFt(p:Program)(P:Params):List (Nat×Obj):=[
(2224,fV y3 [sV aIf 5870,sV aIf 5871,sV q1 5872,cV 1011,cV 1,cV 0,cV 0,cV 3,rV 2221,.bool true,cV 181,rV 2222,.none,.none,.none,rV 2223,cV 5873,cV 1011,sV q1 5874]),
(2225,kV aIf aIf (F p 153) .none aLc 5834 2224),
(2226,tU []),
(2227,nV []),
(2228,tU [sV bB1 5879,sV aE7 5880,sV bXt 5881]),
(2229,tU []),
(2230,uV aMz aMz (F p 154)),
(2231,fV y3 [sV aMz 5876,sV aMz 5877,sV q1 5878,cV 1014,cV 2,cV 0,cV 0,cV 3,rV 2226,.bool true,cV 181,rV 2227,.none,rV 2228,rV 2229,rV 2230,cV 5882,cV 1014,sV q1 5883]),
(2232,kV aMz aMz (F p 154) .none aLc 5834 2231),
(2233,tU []),
(2234,nV []),
(2235,uV aCr aCr (F p 155)),
(2236,fV y3 [sV aCr 5885,sV aCr 5886,sV q1 5887,cV 1017,cV 1,cV 0,cV 0,cV 3,rV 2233,.bool true,cV 181,rV 2234,.none,.none,.none,rV 2235,cV 5888,cV 1017,sV q1 5889]),
(2237,kV aCr aCr (F p 155) .none aLc 5834 2236)]
noncomputable def D16(p:Program)(P:Params):List (Nat×Obj):=apL (bO0 p P) (apL (bOz p P) (apL (bOy p P) (apL (bOx p P) (apL (bOw p P) (apL (bOv p P) (apL (bOu p P) (apL (bOt p P) (apL (bOs p P) (apL (bOr p P) (apL (bFy p P) (apL (bFx p P) (apL (bFw p P) (apL (bFv p P) (apL (bFu p P) (bFt p P)))))))))))))))
noncomputable def T16(p:Program)(P:Params):BT:=aC9 (T15 p P) (D16 p P)
noncomputable def S16(p:Program)(w:World)(os:OsState):SharedT:=⟨T16 p w.params,2238,aBn,#[],boot_drawn,5891,os⟩
noncomputable def vNS:List (Nat×List (Str×Option Value)):=[
(3,[(bPs,none),(q14,(some (.ref 39))),(aF6,(some (.ref 1030))),(q16,(some (.ref 71))),(aLe,(some (.ref 1055))),(q31,(some (.ref 140))),(aNa,(some (.ref 1041))),(aLf,(some (.ref 1048))),(bCv,(some (z 4294967295 4063))),(bCg,(some (z 924074 4259))),(bCk,(some (z 6144 4238))),(bCl,(some (z 11 4235))),(bHj,(some (z 7 4421))),(aM8,(some (.ref 1332))),(bB8,(some (.ref 1178))),(q18,(some (.ref 110))),(bCs,(some (z 3 4209))),(bCt,(some (z 1 4207))),(bCf,(some (z 786722 4264))),(bLh,(some (z 1075056896 4441))),(aM7,(some (.ref 1339))),(bCe,(some (z 1 4266))),(bB9,(some (z 2151677951 4310))),(aM6,(some (.ref 1346))),(aM5,(some (.ref 1353))),(bCb,(some (z 46079 4298))),(bCd,(some (z 546 4286))),(bCc,(some (z 2730 4296))),(bCr,(some (z 2147483648 4213))),(bCq,(some (z 2 4217))),(bCo,(some (z 32 4225))),(bCm,(some (z 256 4233))),(bPt,none),(bCp,(some (z 8 4221))),(bCn,(some (z 128 4229))),(bCj,(some (z 131072 4242))),(q15,(some (.ref 52))),(bK6,(some (.ref 1745))),(bLd,(some (z 0 4983))),(bK8,(some (.ref 1743))),(bLc,(some (z 1 4985))),(bK7,(some (.ref 1744))),(bK5,(some (.ref 1746))),(bLb,(some (z 2 4987))),(bK4,(some (.ref 1752))),(bLa,(some (z 3 4989))),(bK3,(some (.ref 1753))),(bK9,(some (z 4 4991))),(aQ2,(some (z 5 4993))),(aP4,(some (.ref 1666))),(aP6,(some (.ref 1506))),(bLg,(some (z 0 4969))),(bCa,(some (z 2147483648 4302))),(bCi,(some (z 262144 4246))),(bCh,(some (z 524288 4250))),(bLe,(some (.ref 1671))),(bLf,(some (z 1 4971))),(aM9,(some (.ref 1076))),(aM4,(some (.ref 1760))),(aLd,(some (.ref 1062))),(bCu,(some (z 0 4205))),(bKz,(some (.ref 1904))),(bK0,(some (z 4294967296 5419))),(bK2,(some (z 4 5409))),(aM2,(some (.ref 1918))),(q17,(some (.ref 90))),(bK1,(some (z 4294967295 5415))),(aM3,(some (.ref 1911))),(aVo,none),(bPu,none),(aP1,(some (.ref 2130))),(aK9,none),(aM1,(some (.ref 2213))),(aPz,none),(aE2,(some (.ref 2206))),(aP2,(some (.ref 2088))),(aP3,(some (.ref 1899))),(aP0,(some (.ref 2195))),(aP5,(some (.ref 1587))),(aVn,none),(aVp,none),(aM0,(some (.ref 2220))),(aIf,(some (.ref 2225))),(aMz,(some (.ref 2232)))]),
(1745,[(aJ8,(some (.str aDk 5114))),(aDk,none),(aNb,none),(aMe,none),(aMf,none),(aJ9,none)]),
(1743,[(aJ8,none),(aDk,(some (.ref 1083))),(aNb,none),(aMe,none),(aMf,none),(aJ9,none)]),
(1744,[(aJ8,none),(aDk,none),(aNb,none),(aMe,none),(aMf,none),(aJ9,none)]),
(1746,[(aJ8,none),(aDk,none),(aNb,none),(aMe,none),(aMf,none),(aJ9,(some (.ref 1749)))]),
(1752,[(aJ8,none),(aDk,none),(aNb,none),(aMe,none),(aMf,none),(aJ9,none)]),
(1753,[(aJ8,none),(aDk,none),(aNb,none),(aMe,none),(aMf,none),(aJ9,none)])]
noncomputable def bAz:List (Nat×List (Str×Option Value)):=[
(1899,[(aV3,none),(aV2,none),(bJy,none),(bBk,none),(bGx,none),(bGw,none),(aE7,none),(bJz,none),(bGl,none)]),
(1506,[(bB1,none),(bKq,none),(bKo,none),(bKp,none),(bKk,none),(q77,none),(bKr,none),(bKm,none),(bKl,none),(bB2,none),(bKn,none)]),
(2088,[(aEd,none),(aJ6,none),(aMy,none),(bJh,none)]),
(2195,[(aLa,none),(bI9,none)]),
(110,[(q44,none),(q65,none),(q66,none)]),
(71,[(q44,none),(q47,none)]),
(140,[(aAf,none),(bAk,none),(bC5,none),(bC4,none),(bC3,none),(bHw,none)]),
(1587,[(bG3,none),(bP1,none),(bP0,none),(bP3,none),(bP2,none),(aMy,none)]),
(1666,[(aV3,none),(aV2,none)])]
noncomputable def vCV:List (Nat×List (Str×Value)):=[
(110,[(q51,z 0 302),(q52,z 1 304),(q53,z 2 306),(q54,z 3 308),(q55,z 4 310),(q56,z 5 312),(q59,z 8 318)]),
(1030,[(aWf,.ref 781),(aZ4,.ref 845),(bCw,.ref 938),(aTo,.ref 1024)])]
noncomputable def vIV:List (Nat×List (Str×Value)):=[
(204,[(aAg,.str aA9 648),(aAf,.str aNb 647)]),
(291,[(aAg,.str aAs 829),(aAf,.str aJ9 838)]),
(351,[(aAg,.str aAs 1018),(aAf,.str aJ8 1025)]),
(747,[(aAg,.str aMd 1964),(aAf,.str aMf 1952)]),
(753,[(aAg,.str aMd 1986),(aAf,.str aMe 1954)])]
noncomputable def vMT:List (Nat×List (Str×Nat)):=[
(140,[(q40,130)]),
(1506,[(q40,1368),(q95,1375),(aJ7,1382),(aWe,1390),(aWd,1397),(aWc,1404),(aWb,1412),(aTa,1419),(aWa,1426),(aV9,1433),(aV8,1454),(aV7,1461),(aV6,1468),(aV5,1489)]),
(1587,[(q40,1527)]),
(1666,[(q40,1626)]),
(1899,[(q40,1775),(aAz,1782),(aMb,1797),(aE6,1804),(aG2,1811),(aC8,1818),(aV1,1832),(aV0,1839),(aVz,1846),(aVy,1853),(aVx,1875),(aVw,1882)]),
(2088,[(q40,1933),(aJ7,1947),(aVv,1954),(q47,1961),(aVu,1968),(aVt,1975),(aVs,2017),(aVr,2045)]),
(2195,[(q40,2148),(aVq,2162),(aC8,2170),(aG2,2185)])]
noncomputable def vMK:List (Nat×Nat):=[(1899,1775),(1506,1368),(2088,1933),(2195,2148),(140,130),(1587,1527),(1666,1626)]
noncomputable def vKP:List Nat:=[1899,1506,2088,2195,110,71,140,1587,1666,1048,1055,1062,1083,1332,1339,1346,1353,1760,1911,1918,2206,2213,2220,2225,2232,2237]
noncomputable def vPG:List Nat:=[1899,1506,2088,2195,140,1587,1666]
noncomputable def vPX:List Nat:=[110,71]
noncomputable def vVE:List Nat:=[110,71]
noncomputable def vPF:List Nat:=[130,1048,1055,1062,1083,1332,1339,1346,1353,1368,1375,1382,1390,1397,1404,1412,1419,1426,1433,1454,1461,1468,1489,1527,1626,1760,1775,1782,1797,1804,1811,1818,1832,1839,1846,1853,1875,1882,1911,1918,1933,1947,1954,1961,1968,1975,2017,2045,2148,2162,2170,2185,2213,2220,2232,36,107,68]
noncomputable def vO(p:Program):Frag:=[
(29,tU [sV q42 208]),
(36,kV q40 q45 (M p 2 0) (rV 29) q37 194 35),
(68,kV q40 q48 (M p 4 0) .none q37 194 67),
(100,tU [z 0 330]),
(107,kV q40 q67 (M p 6 14) (rV 100) q37 194 106),
(123,tU [z 0 491,z 0 492,z 0 493,z 0 494,z 0 495]),
(130,kV q40 bHv (M p 20 0) (rV 123) q4 346 129),
(781,dV y1 [⟨.ofNat 55,z 55 469,rV 198⟩,⟨.ofNat 23,z 23 463,rV 201⟩,⟨.ofNat 111,z 111 475,rV 204⟩] 3),
(845,dV y1 [⟨.ofNat 103,z 103 2535,rV 207⟩,⟨.ofNat 99,z 99 2554,rV 220⟩,⟨.ofNat 4195,z 4195 2573,rV 227⟩,⟨.ofNat 16483,z 16483 2592,rV 242⟩,⟨.ofNat 20579,z 20579 2611,rV 249⟩,⟨.ofNat 24675,z 24675 2630,rV 256⟩,⟨.ofNat 28771,z 28771 2649,rV 263⟩,⟨.ofNat 3,z 3 2668,rV 277⟩,⟨.ofNat 4099,z 4099 2687,rV 284⟩,⟨.ofNat 8195,z 8195 2706,rV 291⟩,⟨.ofNat 16387,z 16387 2725,rV 302⟩,⟨.ofNat 20483,z 20483 2744,rV 309⟩,⟨.ofNat 35,z 35 2763,rV 323⟩,⟨.ofNat 4131,z 4131 2782,rV 330⟩,⟨.ofNat 8227,z 8227 2801,rV 337⟩,⟨.ofNat 19,z 19 2820,rV 351⟩,⟨.ofNat 8211,z 8211 2839,rV 362⟩,⟨.ofNat 12307,z 12307 2858,rV 369⟩,⟨.ofNat 16403,z 16403 2877,rV 376⟩,⟨.ofNat 24595,z 24595 2896,rV 387⟩,⟨.ofNat 28691,z 28691 2915,rV 394⟩,⟨.ofNat 15,z 15 3102,rV 642⟩,⟨.ofNat 4111,z 4111 3121,rV 649⟩,⟨.ofNat 4211,z 4211 3140,rV 667⟩,⟨.ofNat 8307,z 8307 3159,rV 674⟩,⟨.ofNat 12403,z 12403 3178,rV 681⟩,⟨.ofNat 20595,z 20595 3197,rV 715⟩,⟨.ofNat 24691,z 24691 3216,rV 722⟩,⟨.ofNat 28787,z 28787 3235,rV 729⟩] 29),
(938,dV y1 [⟨.ofNat 4115,z 4115 3420,rV 412⟩,⟨.ofNat 20499,z 20499 3436,rV 431⟩,⟨.ofNat 1073762323,z 1073762323 3452,rV 465⟩,⟨.ofNat 51,z 51 3468,rV 479⟩,⟨.ofNat 4147,z 4147 3484,rV 486⟩,⟨.ofNat 8243,z 8243 3500,rV 493⟩,⟨.ofNat 12339,z 12339 3516,rV 500⟩,⟨.ofNat 16435,z 16435 3532,rV 507⟩,⟨.ofNat 20531,z 20531 3548,rV 514⟩,⟨.ofNat 24627,z 24627 3564,rV 521⟩,⟨.ofNat 28723,z 28723 3580,rV 528⟩,⟨.ofNat 1073741875,z 1073741875 3596,rV 542⟩,⟨.ofNat 1073762355,z 1073762355 3612,rV 565⟩,⟨.ofNat 33554483,z 33554483 3628,rV 579⟩,⟨.ofNat 33558579,z 33558579 3644,rV 586⟩,⟨.ofNat 33562675,z 33562675 3660,rV 593⟩,⟨.ofNat 33566771,z 33566771 3676,rV 600⟩,⟨.ofNat 33570867,z 33570867 3692,rV 607⟩,⟨.ofNat 33574963,z 33574963 3708,rV 614⟩,⟨.ofNat 33579059,z 33579059 3724,rV 621⟩,⟨.ofNat 33583155,z 33583155 3740,rV 628⟩,⟨.ofNat 301990003,z 301990003 3796,rV 734⟩] 22),
(1024,dV y1 [⟨.ofNat 115,z 115 1967,rV 747⟩,⟨.ofNat 1048691,z 1048691 1989,rV 753⟩,⟨.ofNat 270532723,z 270532723 2011,rV 759⟩,⟨.ofNat 273678451,z 273678451 2033,rV 765⟩,⟨.ofNat 807403635,z 807403635 2055,rV 771⟩] 5),
(1048,kV aLf aLf (F p 26) .none q4 346 1047),
(1055,kV aLe aLe (F p 27) .none q4 346 1054),
(1062,kV aLd aLd (F p 28) .none q4 346 1061),
(1083,kV aDk aDk (F p 35) .none aHb 4061 1082),
(1178,dV y1 [⟨.ofNat 256,z 256 349,sV q68 348⟩,⟨.ofNat 260,z 260 352,sV q69 351⟩,⟨.ofNat 261,z 261 355,sV q70 354⟩,⟨.ofNat 262,z 262 358,sV q71 357⟩,⟨.ofNat 320,z 320 361,sV q72 360⟩,⟨.ofNat 321,z 321 364,sV q73 363⟩,⟨.ofNat 322,z 322 367,sV q74 366⟩,⟨.ofNat 323,z 323 370,sV q75 369⟩,⟨.ofNat 324,z 324 373,sV q76 372⟩,⟨.ofNat 384,z 384 376,sV q77 375⟩,⟨.ofNat 768,z 768 379,sV q78 378⟩,⟨.ofNat 769,z 769 382,sV q79 381⟩,⟨.ofNat 770,z 770 385,sV q80 384⟩,⟨.ofNat 771,z 771 388,sV q81 387⟩,⟨.ofNat 772,z 772 391,sV q82 390⟩,⟨.ofNat 773,z 773 394,sV q83 393⟩,⟨.ofNat 774,z 774 397,sV q84 396⟩,⟨.ofNat 832,z 832 400,sV q85 399⟩,⟨.ofNat 833,z 833 403,sV q86 402⟩,⟨.ofNat 834,z 834 406,sV q87 405⟩,⟨.ofNat 835,z 835 409,sV q88 408⟩,⟨.ofNat 836,z 836 412,sV q89 411⟩,⟨.ofNat 2816,z 2816 415,sV q90 414⟩,⟨.ofNat 2818,z 2818 418,sV q91 417⟩,⟨.ofNat 2944,z 2944 421,sV q92 420⟩,⟨.ofNat 2946,z 2946 424,sV q93 423⟩,⟨.ofNat 3072,z 3072 427,sV q94 426⟩,⟨.ofNat 3073,z 3073 430,sV q95 429⟩,⟨.ofNat 3074,z 3074 433,sV q96 432⟩,⟨.ofNat 3200,z 3200 436,sV q97 435⟩,⟨.ofNat 3201,z 3201 439,sV q98 438⟩,⟨.ofNat 3202,z 3202 442,sV q99 441⟩,⟨.ofNat 3857,z 3857 445,sV bC9 444⟩,⟨.ofNat 3858,z 3858 448,sV bC8 447⟩,⟨.ofNat 3859,z 3859 451,sV bC7 450⟩,⟨.ofNat 3860,z 3860 453,sV bAl 452⟩] 36),
(1332,kV aM8 aM8 (F p 82) .none aBt 4203 1331),
(1339,kV aM7 aM7 (F p 83) .none aBt 4203 1338),
(1346,kV aM6 aM6 (F p 84) .none aBt 4203 1345),
(1353,kV aM5 aM5 (F p 85) .none aBt 4203 1352),
(1361,tU [z 0 4485]),
(1368,kV q40 bHh (M p 86 0) (rV 1361) aBt 4203 1367),
(1375,kV q95 bHg (M p 86 1) .none aBt 4203 1374),
(1382,kV aJ7 bHf (M p 86 2) .none aBt 4203 1381),
(1383,tU [z 3 4209]),
(1390,kV aWe bHe (M p 86 3) (rV 1383) aBt 4203 1389),
(1397,kV aWd bHd (M p 86 4) .none aBt 4203 1396),
(1404,kV aWc bHc (M p 86 5) .none aBt 4203 1403),
(1405,tU [z 3 4209]),
(1412,kV aWb bHb (M p 86 6) (rV 1405) aBt 4203 1411),
(1419,kV aTa bHa (M p 86 7) .none aBt 4203 1418),
(1426,kV aWa bG9 (M p 86 8) .none aBt 4203 1425),
(1433,kV aV9 bG8 (M p 86 9) .none aBt 4203 1432),
(1454,kV aV8 bG7 (M p 86 12) .none aBt 4203 1453),
(1461,kV aV7 bG6 (M p 86 13) .none aBt 4203 1460),
(1468,kV aV6 bG5 (M p 86 14) .none aBt 4203 1467),
(1489,kV aV5 bG4 (M p 86 17) .none aBt 4203 1488),
(1520,tU [z 12 4747]),
(1527,kV q40 bG2 (M p 104 0) (rV 1520) aDj 4691 1526),
(1626,kV q40 bG1 (M p 108 0) .none aDj 4691 1625),
(1749,tU [z 4 5146,.bool false]),
(1760,kV aM4 aM4 (F p 137) .none aBx 4967 1759),
(1768,tU [z 0 5200]),
(1775,kV q40 bGz (M p 138 0) (rV 1768) aBx 4967 1774),
(1782,kV aAz bGy (M p 138 1) .none aBx 4967 1781),
(1797,kV aMb bGv (M p 138 3) .none aBx 4967 1796),
(1804,kV aE6 bGu (M p 138 4) .none aBx 4967 1803),
(1811,kV aG2 bGt (M p 138 5) .none aBx 4967 1810),
(1818,kV aC8 bGs (M p 138 6) .none aBx 4967 1817),
(1832,kV aV1 bGr (M p 138 8) .none aBx 4967 1831),
(1839,kV aV0 bGq (M p 138 9) .none aBx 4967 1838),
(1846,kV aVz bGp (M p 138 10) .none aBx 4967 1845),
(1853,kV aVy bGo (M p 138 11) .none aBx 4967 1852),
(1868,tU [z 0 5354]),
(1875,kV aVx bGn (M p 138 14) (rV 1868) aBx 4967 1874),
(1882,kV aVw bGm (M p 138 15) .none aBx 4967 1881),
(1904,tU [z 1 5421,z 2 5422,z 4 5423]),
(1911,kV aM3 aM3 (F p 144) .none aBc 5407 1910),
(1918,kV aM2 aM2 (F p 145) .none aBc 5407 1917),
(1926,tU [z 0 5452]),
(1933,kV q40 bGk (M p 146 0) (rV 1926) aBc 5407 1932),
(1947,kV aJ7 bGj (M p 146 2) .none aBc 5407 1946),
(1954,kV aVv bGi (M p 146 3) .none aBc 5407 1953),
(1961,kV q47 bGh (M p 146 4) .none aBc 5407 1960),
(1968,kV aVu bGg (M p 146 5) .none aBc 5407 1967),
(1975,kV aVt bGf (M p 146 6) .none aBc 5407 1974),
(2017,kV aVs bGe (M p 146 12) .none aBc 5407 2016),
(2045,kV aVr bGd (M p 146 16) .none aBc 5407 2044),
(2148,kV q40 bGc (M p 148 0) .none aBc 5407 2147),
(2162,kV aVq bGa (M p 148 2) .none aBc 5407 2161),
(2163,tU [z 5 312]),
(2170,kV aC8 bF9 (M p 148 3) (rV 2163) aBc 5407 2169),
(2185,kV aG2 bF8 (M p 148 5) .none aBc 5407 2184),
(2213,kV aM1 aM1 (F p 151) .none aLc 5834 2212),
(2220,kV aM0 aM0 (F p 152) .none aLc 5834 2219),
(2232,kV aMz aMz (F p 154) .none aLc 5834 2231)]
noncomputable def vCM:List (Nat×List (Str×Nat)):=[
(39,[(q40,36)])]
noncomputable def vXS:List (Nat×List (Str×Bool)):=[
(110,[(q44,true),(q65,true),(q66,true),(q47,true)]),
(71,[(q44,true),(q65,true),(q66,true),(q47,true)])]
noncomputable def bPi:List (Nat×Nat):=[(110,107),(71,68)]
noncomputable def vTP:List (Nat×List Value):=[
(29,[.str q42 208]),
(100,[z 0 330]),
(123,[z 0 491,z 0 492,z 0 493,z 0 494,z 0 495]),
(1361,[z 0 4485]),
(1383,[z 3 4209]),
(1405,[z 3 4209]),
(1520,[z 12 4747]),
(1768,[z 0 5200]),
(1868,[z 0 5354]),
(1926,[z 0 5452]),
(2163,[z 5 312]),
(1747,[z 1 5142,.bool true]),
(1748,[z 2 5144,.bool true]),
(1749,[z 4 5146,.bool false]),
(1750,[z 1 5148,.bool false]),
(1751,[z 2 5150,.bool false]),
(1904,[z 1 5421,z 2 5422,z 4 5423])]
noncomputable def vHF:List Nat:=[2213,2225]
noncomputable def vKA:List Nat:=[39,71,110,140,169,1030,1506,1587,1666,1899,2088,2195,38,70,109,139,168,1029,1505,1586,1665,1898,2087,2194,0,1,2,3,36,68,107,130,1048,1055,1062,1083,1332,1339,1346,1353,1368,1375,1382,1390,1397,1404,1412,1419,1426,1433,1454,1461,1468,1489,1527,1626,1760,1775,1782,1797,1804,1811,1818,1832,1839,1846,1853,1875,1882,1911,1918,1933,1947,1954,1961,1968,1975,2017,2045,2148,2162,2170,2185,2206,2213,2220,2225,2232,2237,35,29,67,106,100,129,123,1047,1054,1061,1082,1331,1338,1345,1352,1367,1361,1374,1381,1389,1383,1396,1403,1411,1405,1418,1425,1432,1453,1460,1467,1488,1526,1520,1625,1759,1774,1768,1781,1796,1803,1810,1817,1831,1838,1845,1852,1874,1868,1881,1910,1917,1932,1926,1946,1953,1960,1967,1974,2016,2044,2147,2161,2169,2163,2184,2205,2212,2219,2224,2231,2236,1745,1743,1744,1746,1752,1753,1747,1748,1749,1750,1751,204,203,291,290,351,350,479,478,747,746,753,752,781,845,938,1024,1904,1178]
noncomputable def aAu:Str:=⟨⟨[99,111,114,101]⟩⟩
end
noncomputable def env0(p:Program):Env:={ scope:=p.main.scope,locals:=mainNs,globals:=mainNs,cells:=[],code:=.ref 13,frame:=some 14 }
noncomputable def cE(p:Program):Code:=.body p.main.body (env0 p)
noncomputable def B0:List Frame:=[topFrame ⟨0,0,0,0⟩]
noncomputable def sl(l:List Stmt)(i n:Nat):List Stmt:=(l.drop i).take n
noncomputable def wf(w:World)(b:Bool):World:=w.withFollow "special-get-raises" b
noncomputable abbrev pw:=PySem.Challenge.pw_nz0234_01
noncomputable abbrev aBm:Option Value:=some (.ref 6)
noncomputable def Sb(p:Program)(w:World)(os:OsState):SharedT:=⟨aCm w.params,11,aBn,#[],boot_drawn,181,os⟩
noncomputable def aCa(p:Program)(c:Code):Env:=match c with
 | .body _ e=>e
 | .func _ e=>e
 |_=>env0 p
noncomputable def cb(p:Program):List Stmt:=bRi (F p 24)
noncomputable def fb(p:Program):List Stmt:=fdB (F p 23)
noncomputable def PG(p:Program)(w:World)(b:Bool)(os:OsState):Option (SharedT×Thread×List Nat):=goU treeTable p (wf w b) 11 aBm 0 11 12 (Sb p (wf w b) os) (topStub p) []
noncomputable def tP(p:Program)(w:World)(b:Bool)(os:OsState):Thread:=aQm (PG p w b os)
noncomputable def PL(p:Program)(w:World)(b:Bool)(os:OsState):aE1:=aJ1 (aCb (D0 p (wf w b).params)) (PG p w b os)
noncomputable def PR(p:Program)(w:World)(b:Bool)(os:OsState):aE1:=some (15,187,true,#[],boot_drawn,os,aAt (D0 p (wf w b).params))
noncomputable def PX(p:Program)(w:World)(b:Bool)(os:OsState):Sem Fin×Code×Pos×Nat×List Frame×Option (List Frame×(Addr×(GenResult→Sem Fin)×Code×Pos)×List Frame):=((tP p w b os).cur,(tP p w b os).code,(tP p w b os).pos,(tP p w b os).stack.length,(tP p w b os).stack,splitAtGen (tP p w b os).stack)
noncomputable def PY(p:Program)(w:World)(b:Bool)(os:OsState):Sem Fin×Code×Pos×Nat×List Frame×Option (List Frame×(Addr×(GenResult→Sem Fin)×Code×Pos)×List Frame):=(denote treeTable (cE p),cE p,⟨0,0,0,0⟩,1,B0,none)
noncomputable def ok0(p:Program)(P:Params):Bool:=aEa (aCm P) 11 15 (D0 p P)
noncomputable def b0L(p:Program)(w:World)(b:Bool)(os:OsState):Seen:=seenOf (aCb []) (aDt treeTable p (wf w b) 11 aBm 1 15 1 (S0 p (wf w b) os) (blockOf p.main.body (env0 p) (cE p) ⟨0,0,0,0⟩ B0) [])
noncomputable def b0R(p:Program)(w:World)(b:Bool)(os:OsState):Seen:=some (.next,15,187,cE p,⟨0,0,0,0⟩,true,#[],boot_drawn,os,aAt [])
noncomputable def g1L(p:Program)(w:World)(b:Bool)(os:OsState):Seen:=seenOf (aCb (D1 p (wf w b).params)) (aDt treeTable p (wf w b) 11 aBm 1 15 2738 (S0 p (wf w b) os) (piecesOf (sl p.main.body 0 24) (env0 p) (cE p) ⟨0,0,0,0⟩ B0) [])
noncomputable def g1R(p:Program)(w:World)(b:Bool)(os:OsState):Seen:=some (.next,189,599,cE p,⟨84,0,101,16⟩,true,#[],boot_drawn,os,aAt (D1 p (wf w b).params))
noncomputable def ok1(p:Program)(P:Params):Bool:=aEa (T0 p P) 15 189 (D1 p P)
noncomputable def AG(p:Program)(w:World)(b:Bool)(os:OsState):Option (SharedT×Thread×List Nat):=goU treeTable p (wf w b) 11 aBm 1 189 59 (S1 p (wf w b) os) (piecesOf (sl p.main.body 24 1) (env0 p) (cE p) ⟨84,0,101,16⟩ B0) []
noncomputable def tA(p:Program)(w:World)(b:Bool)(os:OsState):Thread:=aQm (AG p w b os)
noncomputable def AL(p:Program)(w:World)(b:Bool)(os:OsState):aE1:=aJ1 (aCb (D2 p (wf w b).params)) (AG p w b os)
noncomputable def AR(p:Program)(w:World)(b:Bool)(os:OsState):aE1:=some (196,611,true,#[],boot_drawn,os,aAt (D2 p (wf w b).params))
noncomputable def AX(p:Program)(w:World)(b:Bool)(os:OsState):Sem Fin×Code×Pos×Nat×Option (List Frame×(Addr×(GenResult→Sem Fin)×Code×Pos)×List Frame):=((tA p w b os).cur,(tA p w b os).code,(tA p w b os).pos,(tA p w b os).stack.length,splitAtGen (tA p w b os).stack)
noncomputable def AY(p:Program)(w:World)(b:Bool)(os:OsState):Sem Fin×Code×Pos×Nat×Option (List Frame×(Addr×(GenResult→Sem Fin)×Code×Pos)×List Frame):=(denote treeTable (.body (cb p) (aCa p (tA p w b os).code)),.body (cb p) (aCa p (tA p w b os).code),⟨102,0,108,79⟩,2,none)
noncomputable def ok2(p:Program)(P:Params):Bool:=aEa (T1 p P) 189 196 (D2 p P)
noncomputable def kbL(p:Program)(w:World)(b:Bool)(os:OsState):Seen:=seenOf (aCb []) (aDt treeTable p (wf w b) 11 aBm 2 196 1 (S2 p (wf w b) os) (blockOf (cb p) (aCa p (tA p w b os).code) (tA p w b os).code ⟨102,0,108,79⟩ (tA p w b os).stack) [])
noncomputable def kbR(p:Program)(w:World)(b:Bool)(os:OsState):Seen:=some (.next,196,611,(tA p w b os).code,⟨102,0,108,79⟩,true,#[],boot_drawn,os,aAt [])
noncomputable def FG(p:Program)(w:World)(b:Bool)(os:OsState):Option (SharedT×Thread×List Nat):=goU treeTable p (wf w b) 11 aBm 2 196 14 (S2 p (wf w b) os) (piecesOf (sl (cb p) 0 1) (aCa p (tA p w b os).code) (tA p w b os).code ⟨102,0,108,79⟩ (tA p w b os).stack) []
noncomputable def tF(p:Program)(w:World)(b:Bool)(os:OsState):Thread:=aQm (FG p w b os)
noncomputable def FL(p:Program)(w:World)(b:Bool)(os:OsState):aE1:=aJ1 (aCb (D3 p (wf w b).params)) (FG p w b os)
noncomputable def FR(p:Program)(w:World)(b:Bool)(os:OsState):aE1:=some (197,611,true,#[],boot_drawn,os,aAt (D3 p (wf w b).params))
noncomputable def FX(p:Program)(w:World)(b:Bool)(os:OsState):Sem Fin×Code×Pos×Nat×Option (List Frame×(Addr×(GenResult→Sem Fin)×Code×Pos)×List Frame):=((tF p w b os).cur,(tF p w b os).code,(tF p w b os).pos,(tF p w b os).stack.length,splitAtGen (tF p w b os).stack)
noncomputable def FY(p:Program)(w:World)(b:Bool)(os:OsState):Sem Fin×Code×Pos×Nat×Option (List Frame×(Addr×(GenResult→Sem Fin)×Code×Pos)×List Frame):=(denote treeTable (.func (fb p) (aCa p (tF p w b os).code)),.func (fb p) (aCa p (tF p w b os).code),⟨103,13,103,21⟩,3,none)
noncomputable def ok3(p:Program)(P:Params):Bool:=aEa (T2 p P) 196 197 (D3 p P)
noncomputable def f0L(p:Program)(w:World)(b:Bool)(os:OsState):Seen:=seenOf (aCb []) (aDt treeTable p (wf w b) 11 aBm 3 197 2 (S3 p (wf w b) os) (aEe (tF p w b os).code ⟨103,13,103,21⟩ (tF p w b os).stack) [])
noncomputable def f0R(p:Program)(w:World)(b:Bool)(os:OsState):Seen:=some (.next,197,611,(tF p w b os).code,⟨103,13,103,21⟩,true,#[],boot_drawn,os,aAt [])
noncomputable def f1L(p:Program)(w:World)(b:Bool)(os:OsState):Seen:=seenOf (aCb (D4 p (wf w b).params)) (aDt treeTable p (wf w b) 11 aBm 3 197 9361 (S3 p (wf w b) os) (piecesOf (sl (fb p) 0 5) (aCa p (tF p w b os).code) (tF p w b os).code ⟨103,13,103,21⟩ (tF p w b os).stack) [])
noncomputable def f1R(p:Program)(w:World)(b:Bool)(os:OsState):Seen:=some (.next,398,1161,(tF p w b os).code,⟨89,4,89,79⟩,true,#[],boot_drawn,os,aAt (D4 p (wf w b).params))
noncomputable def ok4(p:Program)(P:Params):Bool:=aEa (T3 p P) 197 398 (D4 p P)
noncomputable def f2L(p:Program)(w:World)(b:Bool)(os:OsState):Seen:=seenOf (aCb (D5 p (wf w b).params)) (aDt treeTable p (wf w b) 11 aBm 3 398 6754 (S4 p (wf w b) os) (piecesOf (sl (fb p) 5 4) (aCa p (tF p w b os).code) (tF p w b os).code ⟨89,4,89,79⟩ (tF p w b os).stack) [])
noncomputable def f2R(p:Program)(w:World)(b:Bool)(os:OsState):Seen:=some (.next,569,1533,(tF p w b os).code,⟨93,4,93,64⟩,true,#[],boot_drawn,os,aAt (D5 p (wf w b).params))
noncomputable def ok5(p:Program)(P:Params):Bool:=aEa (T4 p P) 398 569 (D5 p P)
noncomputable def f3L(p:Program)(w:World)(b:Bool)(os:OsState):Seen:=seenOf (aCb (D6 p (wf w b).params)) (aDt treeTable p (wf w b) 11 aBm 3 569 9062 (S5 p (wf w b) os) (piecesOf (sl (fb p) 9 6) (aCa p (tF p w b os).code) (tF p w b os).code ⟨93,4,93,64⟩ (tF p w b os).stack) [])
noncomputable def f3R(p:Program)(w:World)(b:Bool)(os:OsState):Seen:=some (.next,775,2072,(tF p w b os).code,⟨99,24,99,97⟩,true,#[],boot_drawn,os,aAt (D6 p (wf w b).params))
noncomputable def ok6(p:Program)(P:Params):Bool:=aEa (T5 p P) 569 775 (D6 p P)
noncomputable def f4L(p:Program)(w:World)(b:Bool)(os:OsState):Seen:=seenOf (aCb (D7 p (wf w b).params)) (aDt treeTable p (wf w b) 11 aBm 3 775 4 (S6 p (wf w b) os) (piecesOf (sl (fb p) 15 2) (aCa p (tF p w b os).code) (tF p w b os).code ⟨99,24,99,97⟩ (tF p w b os).stack) [])
noncomputable def f4R(p:Program)(w:World)(b:Bool)(os:OsState):Seen:=some (.ret (.ref 209),775,2072,(tF p w b os).code,⟨101,11,101,16⟩,true,#[],boot_drawn,os,aAt (D7 p (wf w b).params))
noncomputable def ok7(p:Program)(P:Params):Bool:=aEa (T6 p P) 775 775 (D7 p P)
noncomputable def f5L(p:Program)(w:World)(b:Bool)(os:OsState):Seen:=seenOf (aCb (D8 p (wf w b).params)) (aDt treeTable p (wf w b) 11 aBm 2 775 11 (S7 p (wf w b) os) (⟨ret (.ref 209),(tF p w b os).code,⟨101,11,101,16⟩,(tF p w b os).stack⟩) [])
noncomputable def f5R(p:Program)(w:World)(b:Bool)(os:OsState):Seen:=some (.next,775,2073,(tA p w b os).code,⟨103,4,103,10⟩,true,#[],boot_drawn,os,aAt (D8 p (wf w b).params))
noncomputable def ok8(p:Program)(P:Params):Bool:=aEa (T7 p P) 775 775 (D8 p P)
noncomputable def k1L(p:Program)(w:World)(b:Bool)(os:OsState):Seen:=seenOf (aCb (D9 p (wf w b).params)) (aDt treeTable p (wf w b) 11 aBm 2 775 6756 (S8 p (wf w b) os) (piecesOf (sl (cb p) 1 2) (aCa p (tA p w b os).code) (tA p w b os).code ⟨103,4,103,10⟩ (tA p w b os).stack) [])
noncomputable def k1R(p:Program)(w:World)(b:Bool)(os:OsState):Seen:=some (.next,844,2494,(tA p w b os).code,⟨105,4,105,13⟩,true,#[],boot_drawn,os,aAt (D9 p (wf w b).params))
noncomputable def k1Lc(p:Program)(w:World)(c b:Bool)(os:OsState):Seen:=k1L p (w.withFollow "comprehension-iter-twice" c) b os
noncomputable def k1Rc(p:Program)(w:World)(c b:Bool)(os:OsState):Seen:=k1R p (w.withFollow "comprehension-iter-twice" c) b os
noncomputable def ok9(p:Program)(P:Params):Bool:=aEa (T8 p P) 775 844 (D9 p P)
noncomputable def k2L(p:Program)(w:World)(b:Bool)(os:OsState):Seen:=seenOf (aCb (D10 p (wf w b).params)) (aDt treeTable p (wf w b) 11 aBm 2 844 8021 (S9 p (wf w b) os) (piecesOf (sl (cb p) 3 1) (aCa p (tA p w b os).code) (tA p w b os).code ⟨105,4,105,13⟩ (tA p w b os).stack) [])
noncomputable def k2R(p:Program)(w:World)(b:Bool)(os:OsState):Seen:=some (.next,937,3286,(tA p w b os).code,⟨106,4,106,12⟩,true,#[],boot_drawn,os,aAt (D10 p (wf w b).params))
noncomputable def k2Lc(p:Program)(w:World)(c b:Bool)(os:OsState):Seen:=k2L p (w.withFollow "comprehension-iter-twice" c) b os
noncomputable def k2Rc(p:Program)(w:World)(c b:Bool)(os:OsState):Seen:=k2R p (w.withFollow "comprehension-iter-twice" c) b os
noncomputable def ok10(p:Program)(P:Params):Bool:=aEa (T9 p P) 844 937 (D10 p P)
noncomputable def k3L(p:Program)(w:World)(b:Bool)(os:OsState):Seen:=seenOf (aCb (D11 p (wf w b).params)) (aDt treeTable p (wf w b) 11 aBm 2 937 6451 (S10 p (wf w b) os) (piecesOf (sl (cb p) 4 1) (aCa p (tA p w b os).code) (tA p w b os).code ⟨106,4,106,12⟩ (tA p w b os).stack) [])
noncomputable def k3R(p:Program)(w:World)(b:Bool)(os:OsState):Seen:=some (.next,1023,3824,(tA p w b os).code,⟨107,4,107,14⟩,true,#[],boot_drawn,os,aAt (D11 p (wf w b).params))
noncomputable def k3Lc(p:Program)(w:World)(c b:Bool)(os:OsState):Seen:=k3L p (w.withFollow "comprehension-iter-twice" c) b os
noncomputable def k3Rc(p:Program)(w:World)(c b:Bool)(os:OsState):Seen:=k3R p (w.withFollow "comprehension-iter-twice" c) b os
noncomputable def ok11(p:Program)(P:Params):Bool:=aEa (T10 p P) 937 1023 (D11 p P)
noncomputable def k4L(p:Program)(w:World)(b:Bool)(os:OsState):Seen:=seenOf (aCb (D12 p (wf w b).params)) (aDt treeTable p (wf w b) 11 aBm 2 1023 2816 (S11 p (wf w b) os) (piecesOf (sl (cb p) 5 1) (aCa p (tA p w b os).code) (tA p w b os).code ⟨107,4,107,14⟩ (tA p w b os).stack) [])
noncomputable def k4R(p:Program)(w:World)(b:Bool)(os:OsState):Seen:=some (.next,1028,4012,(tA p w b os).code,⟨108,4,108,9⟩,true,#[],boot_drawn,os,aAt (D12 p (wf w b).params))
noncomputable def k4Lc(p:Program)(w:World)(c b:Bool)(os:OsState):Seen:=k4L p (w.withFollow "comprehension-iter-twice" c) b os
noncomputable def k4Rc(p:Program)(w:World)(c b:Bool)(os:OsState):Seen:=k4R p (w.withFollow "comprehension-iter-twice" c) b os
noncomputable def ok12(p:Program)(P:Params):Bool:=aEa (T11 p P) 1023 1028 (D12 p P)
noncomputable def k5L(p:Program)(w:World)(b:Bool)(os:OsState):Seen:=seenOf (aCb (D13 p (wf w b).params)) (aDt treeTable p (wf w b) 11 aBm 1 1028 137 (S12 p (wf w b) os) (⟨.pure (.done .next),(tA p w b os).code,⟨108,4,108,9⟩,(tA p w b os).stack⟩) [])
noncomputable def k5R(p:Program)(w:World)(b:Bool)(os:OsState):Seen:=some (.next,1035,4020,cE p,⟨102,0,108,79⟩,true,#[],boot_drawn,os,aAt (D13 p (wf w b).params))
noncomputable def ok13(p:Program)(P:Params):Bool:=aEa (T12 p P) 1028 1035 (D13 p P)
noncomputable def g2L(p:Program)(w:World)(b:Bool)(os:OsState):Seen:=seenOf (aCb (D14 p (wf w b).params)) (aDt treeTable p (wf w b) 11 aBm 1 1035 5221 (S13 p (wf w b) os) (piecesOf (sl p.main.body 25 55) (env0 p) (cE p) ⟨102,0,108,79⟩ B0) [])
noncomputable def g2R(p:Program)(w:World)(b:Bool)(os:OsState):Seen:=some (.next,1326,4421,cE p,⟨234,0,234,5⟩,true,#[],boot_drawn,os,aAt (D14 p (wf w b).params))
noncomputable def g2Lc(p:Program)(w:World)(c b:Bool)(os:OsState):Seen:=g2L p (w.withFollow "comprehension-iter-twice" c) b os
noncomputable def g2Rc(p:Program)(w:World)(c b:Bool)(os:OsState):Seen:=g2R p (w.withFollow "comprehension-iter-twice" c) b os
noncomputable def ok14(p:Program)(P:Params):Bool:=aEa (T13 p P) 1035 1326 (D14 p P)
noncomputable def g3L(p:Program)(w:World)(b:Bool)(os:OsState):Seen:=seenOf (aCb (D15 p (wf w b).params)) (aDt treeTable p (wf w b) 11 aBm 1 1326 10 (S14 p (wf w b) os) (piecesOf (sl p.main.body 80 1) (env0 p) (cE p) ⟨234,0,234,5⟩ B0) [])
noncomputable def g3R(p:Program)(w:World)(b:Bool)(os:OsState):Seen:=some (.next,1326,4423,cE p,⟨235,0,235,8⟩,true,#[],boot_drawn,os,aAt (D15 p (wf w b).params))
noncomputable def ok15(p:Program)(P:Params):Bool:=aEa (T14 p P) 1326 1326 (D15 p P)
noncomputable def g4L(p:Program)(w:World)(b:Bool)(os:OsState):Seen:=seenOf (aCb (D16 p (wf w b).params)) (aDt treeTable p (wf w b) 11 aBm 1 1326 6445 (S15 p (wf w b) os) (piecesOf (sl p.main.body 81 75) (env0 p) (cE p) ⟨235,0,235,8⟩ B0) [])
noncomputable def g4R(p:Program)(w:World)(b:Bool)(os:OsState):Seen:=some (.next,2238,5891,cE p,⟨1017,0,1052,15⟩,true,#[],boot_drawn,os,aAt (D16 p (wf w b).params))
noncomputable def ok16(p:Program)(P:Params):Bool:=aEa (T15 p P) 1326 2238 (D16 p P)
noncomputable def e1L(p:Program)(w:World)(b:Bool)(os:OsState):Seen:=seenOf (aCb []) (aDt treeTable p (wf w b) 11 aBm 0 2238 2 (S16 p (wf w b) os) (⟨.pure (.done .next),cE p,⟨1017,0,1052,15⟩,B0⟩) [])
noncomputable def e1R(p:Program)(w:World)(b:Bool)(os:OsState):Seen:=some (.ret .none,2238,5891,.builtin "claim.caller" {},⟨0,0,0,0⟩,true,#[],boot_drawn,os,aAt [])
lay_quick Mine.PL Mine.PR
lay_quick Mine.PX Mine.PY
lay_quick Mine.ok0 Mine.b0L
lay_quick Mine.b0R Mine.g1L
lay_quick Mine.g1R Mine.ok1
lay_quick Mine.AL Mine.AR
lay_quick Mine.AX Mine.AY
lay_quick Mine.ok2 Mine.kbL
lay_quick Mine.kbR Mine.FL
lay_quick Mine.FR Mine.FX
lay_quick Mine.FY Mine.ok3
lay_quick Mine.f0L Mine.f0R
lay_quick Mine.f1L Mine.f1R
lay_quick Mine.ok4 Mine.f2L
lay_quick Mine.f2R Mine.ok5
lay_quick Mine.f3L Mine.f3R
lay_quick Mine.ok6 Mine.f4L
lay_quick Mine.f4R Mine.ok7
lay_quick Mine.f5L Mine.f5R
lay_quick Mine.ok8 Mine.k1Lc
lay_quick Mine.k1Rc Mine.ok9
lay_quick Mine.k2Lc Mine.k2Rc
lay_quick Mine.ok10 Mine.k3Lc
lay_quick Mine.k3Rc Mine.ok11
lay_quick Mine.k4Lc Mine.k4Rc
lay_quick Mine.ok12 Mine.k5L
lay_quick Mine.k5R Mine.ok13
lay_quick Mine.g2Lc Mine.g2Rc
lay_quick Mine.ok14 Mine.g3L
lay_quick Mine.g3R Mine.ok15
lay_quick Mine.g4L Mine.g4R
lay_quick Mine.ok16 Mine.e1L
lay_quick Mine.e1R
theorem aXz(w:World)(os:OsState):PySem.W.Fast.tw9588804118351252907 pw w true os=PySem.W.Fast.tw7958758591476829057 pw w true os:=aAa (by k_slotget)
theorem aRv(w:World)(os:OsState):PySem.W.Fast.tw9588804118351252907 pw w false os=PySem.W.Fast.tw7958758591476829057 pw w false os:=aAa (by k_slotget)
theorem bMe(P:Params):Mine.ok1 pw P=true:=aAa (by k_slotget)
theorem bFz(w:World)(os:OsState):PySem.W.Fast.tw16996473458877569837 pw w true os=PySem.W.Fast.tw4589257599896061007 pw w true os:=aAa (by k_slotget)
theorem aZw(w:World)(os:OsState):PySem.W.Fast.tw11329468437036916810 pw w true os=PySem.W.Fast.tw10715460683722531910 pw w true os:=aAa (by k_slotget)
theorem aZx(w:World)(os:OsState):PySem.W.Fast.tw16996473458877569837 pw w false os=PySem.W.Fast.tw4589257599896061007 pw w false os:=aAa (by k_slotget)
theorem aS1(w:World)(os:OsState):PySem.W.Fast.tw11329468437036916810 pw w false os=PySem.W.Fast.tw10715460683722531910 pw w false os:=aAa (by k_slotget)
theorem bMc(P:Params):Mine.ok2 pw P=true:=aAa (by k_slotget)
theorem aXk(w:World)(os:OsState):PySem.W.Fast.tw6670847731854367270 pw w true os=PySem.W.Fast.tw13701746702511309733 pw w true os:=aAa (by k_slotget)
theorem aRm(w:World)(os:OsState):PySem.W.Fast.tw6670847731854367270 pw w false os=PySem.W.Fast.tw13701746702511309733 pw w false os:=aAa (by k_slotget)
theorem bFs(w:World)(os:OsState):PySem.W.Fast.tw5806207915472016589 pw w true os=PySem.W.Fast.tw692864426593075864 pw w true os:=aAa (by k_slotget)
theorem aZu(w:World)(os:OsState):PySem.W.Fast.tw385687049628483166 pw w true os=PySem.W.Fast.tw2272141232180619779 pw w true os:=aAa (by k_slotget)
theorem aZv(w:World)(os:OsState):PySem.W.Fast.tw5806207915472016589 pw w false os=PySem.W.Fast.tw692864426593075864 pw w false os:=aAa (by k_slotget)
theorem aSz(w:World)(os:OsState):PySem.W.Fast.tw385687049628483166 pw w false os=PySem.W.Fast.tw2272141232180619779 pw w false os:=aAa (by k_slotget)
theorem bMa(P:Params):Mine.ok3 pw P=true:=aAa (by k_slotget)
theorem aYd(w:World)(os:OsState):PySem.W.Fast.tw13091977617976505578 pw w true os=PySem.W.Fast.tw15536097115767189893 pw w true os:=aAa (by k_slotget)
theorem aR5(w:World)(os:OsState):PySem.W.Fast.tw13091977617976505578 pw w false os=PySem.W.Fast.tw15536097115767189893 pw w false os:=aAa (by k_slotget)
theorem aX9(w:World)(os:OsState):PySem.W.Fast.tw18035445846385052267 pw w true os=PySem.W.Fast.tw9023676639306687168 pw w true os:=aAa (by k_slotget)
theorem aR1(w:World)(os:OsState):PySem.W.Fast.tw18035445846385052267 pw w false os=PySem.W.Fast.tw9023676639306687168 pw w false os:=aAa (by k_slotget)
theorem bL2(P:Params):Mine.ok7 pw P=true:=aAa (by k_slotget)
theorem aX8(w:World)(os:OsState):PySem.W.Fast.tw9158924615000684045 pw w true os=PySem.W.Fast.tw6470231775247104867 pw w true os:=aAa (by k_slotget)
theorem aR0(w:World)(os:OsState):PySem.W.Fast.tw9158924615000684045 pw w false os=PySem.W.Fast.tw6470231775247104867 pw w false os:=aAa (by k_slotget)
theorem bL0(P:Params):Mine.ok8 pw P=true:=aAa (by k_slotget)
theorem aXl(w:World)(os:OsState):PySem.W.Fast.tw17773488148790343662 pw w true os=PySem.W.Fast.tw1235828557660505163 pw w true os:=aAa (by k_slotget)
theorem aRn(w:World)(os:OsState):PySem.W.Fast.tw17773488148790343662 pw w false os=PySem.W.Fast.tw1235828557660505163 pw w false os:=aAa (by k_slotget)
theorem bDm(P:Params):Mine.ok13 pw P=true:=aAa (by k_slotget)
theorem aXy(w:World)(os:OsState):PySem.W.Fast.tw16159552291436763957 pw w true os=PySem.W.Fast.tw13288564745619151606 pw w true os:=aAa (by k_slotget)
theorem aRu(w:World)(os:OsState):PySem.W.Fast.tw16159552291436763957 pw w false os=PySem.W.Fast.tw13288564745619151606 pw w false os:=aAa (by k_slotget)
theorem bDi(P:Params):Mine.ok15 pw P=true:=aAa (by k_slotget)
theorem aYc(w:World)(os:OsState):PySem.W.Fast.tw2810258696894818080 pw w true os=PySem.W.Fast.tw209020484999160636 pw w true os:=aAa (by k_slotget)
theorem aR4(w:World)(os:OsState):PySem.W.Fast.tw2810258696894818080 pw w false os=PySem.W.Fast.tw209020484999160636 pw w false os:=aAa (by k_slotget)
theorem bL8(P:Params):Mine.ok4 pw P=true:=aAa (by k_slotget)
theorem aYb(w:World)(os:OsState):PySem.W.Fast.tw10922169470897902743 pw w true os=PySem.W.Fast.tw18090686364414206119 pw w true os:=aAa (by k_slotget)
theorem aR3(w:World)(os:OsState):PySem.W.Fast.tw10922169470897902743 pw w false os=PySem.W.Fast.tw18090686364414206119 pw w false os:=aAa (by k_slotget)
theorem bL6(P:Params):Mine.ok5 pw P=true:=aAa (by k_slotget)
theorem aYa(w:World)(os:OsState):PySem.W.Fast.tw6075106442219943775 pw w true os=PySem.W.Fast.tw586148729730072234 pw w true os:=aAa (by k_slotget)
theorem aR2(w:World)(os:OsState):PySem.W.Fast.tw6075106442219943775 pw w false os=PySem.W.Fast.tw586148729730072234 pw w false os:=aAa (by k_slotget)
theorem bL4(P:Params):Mine.ok6 pw P=true:=aAa (by k_slotget)
theorem aHt(w:World)(os:OsState):PySem.W.Fast.tw8446052708872322797 pw w true true os=PySem.W.Fast.tw6964882779058855270 pw w true true os:=aAa (by k_slotget)
theorem aGl(w:World)(os:OsState):PySem.W.Fast.tw8446052708872322797 pw w false true os=PySem.W.Fast.tw6964882779058855270 pw w false true os:=aAa (by k_slotget)
theorem aGk(w:World)(os:OsState):PySem.W.Fast.tw8446052708872322797 pw w true false os=PySem.W.Fast.tw6964882779058855270 pw w true false os:=aAa (by k_slotget)
theorem aFc(w:World)(os:OsState):PySem.W.Fast.tw8446052708872322797 pw w false false os=PySem.W.Fast.tw6964882779058855270 pw w false false os:=aAa (by k_slotget)
theorem bLy(P:Params):Mine.ok9 pw P=true:=aAa (by k_slotget)
theorem aHq(w:World)(os:OsState):PySem.W.Fast.tw4148589339419333408 pw w true true os=PySem.W.Fast.tw17262092865370245688 pw w true true os:=aAa (by k_slotget)
theorem aGf(w:World)(os:OsState):PySem.W.Fast.tw4148589339419333408 pw w false true os=PySem.W.Fast.tw17262092865370245688 pw w false true os:=aAa (by k_slotget)
theorem aGe(w:World)(os:OsState):PySem.W.Fast.tw4148589339419333408 pw w true false os=PySem.W.Fast.tw17262092865370245688 pw w true false os:=aAa (by k_slotget)
theorem aE9(w:World)(os:OsState):PySem.W.Fast.tw4148589339419333408 pw w false false os=PySem.W.Fast.tw17262092865370245688 pw w false false os:=aAa (by k_slotget)
theorem bDo(P:Params):Mine.ok12 pw P=true:=aAa (by k_slotget)
theorem aHs(w:World)(os:OsState):PySem.W.Fast.tw7422928889339467704 pw w true true os=PySem.W.Fast.tw5906136293618658792 pw w true true os:=aAa (by k_slotget)
theorem aGj(w:World)(os:OsState):PySem.W.Fast.tw7422928889339467704 pw w false true os=PySem.W.Fast.tw5906136293618658792 pw w false true os:=aAa (by k_slotget)
theorem aGi(w:World)(os:OsState):PySem.W.Fast.tw7422928889339467704 pw w true false os=PySem.W.Fast.tw5906136293618658792 pw w true false os:=aAa (by k_slotget)
theorem aFb(w:World)(os:OsState):PySem.W.Fast.tw7422928889339467704 pw w false false os=PySem.W.Fast.tw5906136293618658792 pw w false false os:=aAa (by k_slotget)
theorem bDs(P:Params):Mine.ok10 pw P=true:=aAa (by k_slotget)
theorem aHr(w:World)(os:OsState):PySem.W.Fast.tw662114681984696309 pw w true true os=PySem.W.Fast.tw4472108207669296149 pw w true true os:=aAa (by k_slotget)
theorem aGh(w:World)(os:OsState):PySem.W.Fast.tw662114681984696309 pw w false true os=PySem.W.Fast.tw4472108207669296149 pw w false true os:=aAa (by k_slotget)
theorem aGg(w:World)(os:OsState):PySem.W.Fast.tw662114681984696309 pw w true false os=PySem.W.Fast.tw4472108207669296149 pw w true false os:=aAa (by k_slotget)
theorem aFa(w:World)(os:OsState):PySem.W.Fast.tw662114681984696309 pw w false false os=PySem.W.Fast.tw4472108207669296149 pw w false false os:=aAa (by k_slotget)
theorem bDq(P:Params):Mine.ok11 pw P=true:=aAa (by k_slotget)
theorem aH3(w:World)(os:OsState):PySem.W.Fast.tw11754249585926265981 pw w true true os=PySem.W.Fast.tw16199768273113039474 pw w true true os:=aAa (by k_slotget)
theorem aGo(w:World)(os:OsState):PySem.W.Fast.tw11754249585926265981 pw w false true os=PySem.W.Fast.tw16199768273113039474 pw w false true os:=aAa (by k_slotget)
theorem aGn(w:World)(os:OsState):PySem.W.Fast.tw11754249585926265981 pw w true false os=PySem.W.Fast.tw16199768273113039474 pw w true false os:=aAa (by k_slotget)
theorem aFe(w:World)(os:OsState):PySem.W.Fast.tw11754249585926265981 pw w false false os=PySem.W.Fast.tw16199768273113039474 pw w false false os:=aAa (by k_slotget)
theorem bDk(P:Params):Mine.ok14 pw P=true:=aAa (by k_slotget)
theorem aXx(w:World)(os:OsState):PySem.W.Fast.tw15834100501186273958 pw w true os=PySem.W.Fast.tw15940780887796651855 pw w true os:=aAa (by k_slotget)
theorem aRt(w:World)(os:OsState):PySem.W.Fast.tw15834100501186273958 pw w false os=PySem.W.Fast.tw15940780887796651855 pw w false os:=aAa (by k_slotget)
theorem bDg(P:Params):Mine.ok16 pw P=true:=aAa (by k_slotget)
theorem bFq(w:World)(os:OsState):PySem.W.Fast.tw9597475453388154465 pw w true os=PySem.W.Fast.tw8270569564782688562 pw w true os:=aAa (by k_slotget)
theorem aZs(w:World)(os:OsState):PySem.W.Fast.tw11443315224394572708 pw w true os=PySem.W.Fast.tw5425466910448837421 pw w true os:=aAa (by k_slotget)
theorem aZt(w:World)(os:OsState):PySem.W.Fast.tw9597475453388154465 pw w false os=PySem.W.Fast.tw8270569564782688562 pw w false os:=aAa (by k_slotget)
theorem aSy(w:World)(os:OsState):PySem.W.Fast.tw11443315224394572708 pw w false os=PySem.W.Fast.tw5425466910448837421 pw w false os:=aAa (by k_slotget)
theorem bMg(P:Params):Mine.ok0 pw P=true:=aAa (by k_slotget)
theorem aZi(w:World)(os:OsState):PySem.W.Fast.tw7362045505482810672 pw w true os=Mine.b0R pw w true os:=aAa (by k_slotget)
theorem aSw(w:World)(os:OsState):PySem.W.Fast.tw7362045505482810672 pw w false os=Mine.b0R pw w false os:=aAa (by k_slotget)
theorem aYw(w:World)(os:OsState):PySem.W.Fast.tw15579843232970039105 pw w true os=PySem.W.Fast.tw18370583350962266113 pw w true os:=aAa (by k_slotget)
theorem aSl(w:World)(os:OsState):PySem.W.Fast.tw15579843232970039105 pw w false os=PySem.W.Fast.tw18370583350962266113 pw w false os:=aAa (by k_slotget)
theorem aD6{t:Thread}{cur:Sem Fin}{pos:Pos}(h1:t.cur=cur)(h2:t.pos=pos):t=⟨cur,t.code,pos,t.stack⟩:=by
 cases t;cases h1;cases h2;rfl
section
variable {p:Program} {w:World} {b d:Nat} {B:List Frame} {env:Env}
theorem aPp(hB:splitAtGen B=none)(hd:B.length=d)(hb:b<d){n:Nat}{s s':Shared}{l:List Stmt}{c c':Code}{pos p':Pos}{f:Flow}
  (h:segRun treeTable p w 11 (some (.ref 6)) d n s (blockOf l env c pos B)=some (f,s',c',p')) :
  Leads p w b n s ⟨denote treeTable (.body l env),c,pos,B⟩ s' (aE5 doneF (leaveH env) (l.drop 0) env c' p' B):=by
 subst hd
 exact aLr hB hb h
theorem aZm(hB:splitAtGen B=none)(hd:B.length=d)(hb:b<d){n:Nat}{s s':Shared}{l:List Stmt}{c c':Code}{pos p':Pos}{f:Flow}
  (h:segRun treeTable p w 11 (some (.ref 6)) d n s (aEe c pos B)=some (f,s',c',p')) :
  Leads p w b n s ⟨denote treeTable (.func l env),c,pos,B⟩ s' (aE5 aMu (aC1 env) (l.drop 0) env c' p' B):=by
 subst hd
 exact aLq hB hb h
theorem aBh(hB:splitAtGen B=none)(hd:B.length=d)(hb:b<d){K:Flow→Sem Fin}{H:Value→Sem Fin}{n i m j:Nat}{s s':Shared}{l:List Stmt}{c c':Code}{pos p':Pos}(hj:i+m=j)
  (h:segRun treeTable p w 11 (some (.ref 6)) d n s (piecesOf ((l.drop i).take m) env c pos B)=some (.next,s',c',p')) :
  Leads p w b n s (aE5 K H (l.drop i) env c pos B) s' (aE5 K H (l.drop j) env c' p' B):=by
 subst hd hj
 rw[aFt l i m]
 exact aHo (f:=.next) hB hb h
theorem bFg(hB:splitAtGen B=none)(hd:B.length=d)(hb:b<d){H:Value→Sem Fin}{n i m:Nat}{s s':Shared}{l:List Stmt}{c c':Code}{pos p':Pos}{v:Value}
  (h:segRun treeTable p w 11 (some (.ref 6)) d n s (piecesOf ((l.drop i).take m) env c pos B)=some (.ret v,s',c',p')) :
  Leads p w b n s (aE5 aMu H (l.drop i) env c pos B) s' ⟨ret v,c',p',B⟩:=by
 subst hd
 rw[aFt l i m]
 exact aHo (f:=.ret v) hB hb h
theorem aUu{s:Shared}{l:List Stmt}{i:Nat}{H:Value→Sem Fin}{c:Code}{pos:Pos}(hl:l.length≤i):Leads p w b 0 s (aE5 doneF H (l.drop i) env c pos B) s ⟨.pure (.done .next),c,pos,B⟩:=by
 rw[List.drop_eq_nil_of_le hl]
 intro N r q
 rw[Nat.zero_add]
 exact q
end
theorem aKv{tb:String→Option Builtin}{p:Program}{w:World}{n₀:Nat}{ann:Option Value}{b m n k':Nat}{T:BT}{life:Life}{gens gens':Array GenState}{drawn drawn':Drawn}{toks:Nat}{os os':OsState}{t:Thread}{f:Flow}{c:Code}{q:Pos}
  (h:seenOf (aCb []) (aDt tb p w n₀ ann b m n ⟨T,m,life,gens,drawn,toks,os⟩ t [])=some (f,m,k',c,q,true,gens',drawn',os',aAt [])) :
  segRun tb p w n₀ ann b n (SharedT.abs ⟨T,m,life,gens,drawn,toks,os⟩) t=some (f,(SharedT.abs ⟨T,m,life,gens',drawn',k',os'⟩),c,q):=by
 have ok:aEa T m m []=true:=by
  have e:upTo m m []=true:=Nat.beq_refl m
  unfold aEa
  rw[show aCb []=[] from rfl,e]
  rfl
 exact chunk (D:=[]) h ok
theorem aK3{t:Thread}:through t=(endAt 0 t).isSome:=by
 obtain⟨cur,code,pos,st⟩:=t
 cases st with
 |cons=>rfl
 |nil =>
  cases cur with
  |pure x=>cases x<;>rfl
  |_=>rfl
theorem aDa{tb:String→Option Builtin}{p:Program}{w:World}{n₀:Nat}{ann:Option Value}{f:Flow}{s':Shared}{c:Code}{q:Pos}:∀ (n:Nat) (s:Shared) (t:Thread),segRun tb p w n₀ ann 0 n s t=some (f,s',c,q)→topRun tb p w n₀ ann n s t=some s'
 | 0,_,_,h=>nnS h
 |n+1,s,t,h=>by
  unfold segRun at h
  unfold topRun
  rw[aK3]
  generalize endAt 0 t=o at h ⊢
  cases o with
  |some g=>cases h;rfl
  |none =>
   generalize stepOk n₀ ann t=o at h
   cases o with
   |false=>exact nnS h
   |true =>
    generalize hs:step (denote tb) p w s t=o at h
    cases o with
    |halt o s'=>exact nnS h
    |go s₂ t₂=>exact aDa n s₂ t₂ h
theorem P_b(w:World)(b:Bool)(os:OsState):PL pw w b os=PR pw w b os:=((congrFun (congrFun (congrFun (congrFun PySem.W.Fast.te9597475453388154465 pw) w) b) os)).trans ((by cases b;exact aZt w os;exact bFq w os:PySem.W.Fast.tw9597475453388154465 pw w b os=PySem.W.Fast.tw8270569564782688562 pw w b os).trans ((congrFun (congrFun (congrFun (congrFun PySem.W.Fast.te8270569564782688562 pw) w) b) os)).symm)
theorem cAy(w:World)(b:Bool)(os:OsState):PX pw w b os=PY pw w b os:=((congrFun (congrFun (congrFun (congrFun PySem.W.Fast.te11443315224394572708 pw) w) b) os)).trans ((by cases b;exact aSy w os;exact aZs w os:PySem.W.Fast.tw11443315224394572708 pw w b os=PySem.W.Fast.tw5425466910448837421 pw w b os).trans ((congrFun (congrFun (congrFun (congrFun PySem.W.Fast.te5425466910448837421 pw) w) b) os)).symm)
theorem bMh(P:Params):ok0 pw P=true:=(rfl).trans (bMg P)
theorem cAx(w:World)(b:Bool)(os:OsState):b0L pw w b os=b0R pw w b os:=((congrFun (congrFun (congrFun (congrFun PySem.W.Fast.te7362045505482810672 pw) w) b) os)).trans ((by cases b;exact aSw w os;exact aZi w os:PySem.W.Fast.tw7362045505482810672 pw w b os=Mine.b0R pw w b os).trans (rfl).symm)
theorem bZz(w:World)(b:Bool)(os:OsState):g1L pw w b os=g1R pw w b os:=((congrFun (congrFun (congrFun (congrFun PySem.W.Fast.te9588804118351252907 pw) w) b) os)).trans ((by cases b;exact aRv w os;exact aXz w os:PySem.W.Fast.tw9588804118351252907 pw w b os=PySem.W.Fast.tw7958758591476829057 pw w b os).trans ((congrFun (congrFun (congrFun (congrFun PySem.W.Fast.te7958758591476829057 pw) w) b) os)).symm)
theorem bMf(P:Params):ok1 pw P=true:=(rfl).trans (bMe P)
theorem A_b(w:World)(b:Bool)(os:OsState):AL pw w b os=AR pw w b os:=((congrFun (congrFun (congrFun (congrFun PySem.W.Fast.te16996473458877569837 pw) w) b) os)).trans ((by cases b;exact aZx w os;exact bFz w os:PySem.W.Fast.tw16996473458877569837 pw w b os=PySem.W.Fast.tw4589257599896061007 pw w b os).trans ((congrFun (congrFun (congrFun (congrFun PySem.W.Fast.te4589257599896061007 pw) w) b) os)).symm)
theorem cBp(w:World)(b:Bool)(os:OsState):AX pw w b os=AY pw w b os:=((congrFun (congrFun (congrFun (congrFun PySem.W.Fast.te11329468437036916810 pw) w) b) os)).trans ((by cases b;exact aS1 w os;exact aZw w os:PySem.W.Fast.tw11329468437036916810 pw w b os=PySem.W.Fast.tw10715460683722531910 pw w b os).trans ((congrFun (congrFun (congrFun (congrFun PySem.W.Fast.te10715460683722531910 pw) w) b) os)).symm)
theorem bMd(P:Params):ok2 pw P=true:=(rfl).trans (bMc P)
theorem bZf(w:World)(b:Bool)(os:OsState):kbL pw w b os=kbR pw w b os:=((congrFun (congrFun (congrFun (congrFun PySem.W.Fast.te6670847731854367270 pw) w) b) os)).trans ((by cases b;exact aRm w os;exact aXk w os:PySem.W.Fast.tw6670847731854367270 pw w b os=PySem.W.Fast.tw13701746702511309733 pw w b os).trans ((congrFun (congrFun (congrFun (congrFun PySem.W.Fast.te13701746702511309733 pw) w) b) os)).symm)
theorem F_b(w:World)(b:Bool)(os:OsState):FL pw w b os=FR pw w b os:=((congrFun (congrFun (congrFun (congrFun PySem.W.Fast.te5806207915472016589 pw) w) b) os)).trans ((by cases b;exact aZv w os;exact bFs w os:PySem.W.Fast.tw5806207915472016589 pw w b os=PySem.W.Fast.tw692864426593075864 pw w b os).trans ((congrFun (congrFun (congrFun (congrFun PySem.W.Fast.te692864426593075864 pw) w) b) os)).symm)
theorem cAz(w:World)(b:Bool)(os:OsState):FX pw w b os=FY pw w b os:=((congrFun (congrFun (congrFun (congrFun PySem.W.Fast.te385687049628483166 pw) w) b) os)).trans ((by cases b;exact aSz w os;exact aZu w os:PySem.W.Fast.tw385687049628483166 pw w b os=PySem.W.Fast.tw2272141232180619779 pw w b os).trans ((congrFun (congrFun (congrFun (congrFun PySem.W.Fast.te2272141232180619779 pw) w) b) os)).symm)
theorem bMb(P:Params):ok3 pw P=true:=(rfl).trans (bMa P)
theorem cAc(w:World)(b:Bool)(os:OsState):f0L pw w b os=f0R pw w b os:=((congrFun (congrFun (congrFun (congrFun PySem.W.Fast.te13091977617976505578 pw) w) b) os)).trans ((by cases b;exact aR5 w os;exact aYd w os:PySem.W.Fast.tw13091977617976505578 pw w b os=PySem.W.Fast.tw15536097115767189893 pw w b os).trans ((congrFun (congrFun (congrFun (congrFun PySem.W.Fast.te15536097115767189893 pw) w) b) os)).symm)
theorem cAa(w:World)(b:Bool)(os:OsState):f1L pw w b os=f1R pw w b os:=((congrFun (congrFun (congrFun (congrFun PySem.W.Fast.te2810258696894818080 pw) w) b) os)).trans ((by cases b;exact aR4 w os;exact aYc w os:PySem.W.Fast.tw2810258696894818080 pw w b os=PySem.W.Fast.tw209020484999160636 pw w b os).trans ((congrFun (congrFun (congrFun (congrFun PySem.W.Fast.te209020484999160636 pw) w) b) os)).symm)
theorem bL9(P:Params):ok4 pw P=true:=(rfl).trans (bL8 P)
theorem bZ8(w:World)(b:Bool)(os:OsState):f2L pw w b os=f2R pw w b os:=((congrFun (congrFun (congrFun (congrFun PySem.W.Fast.te10922169470897902743 pw) w) b) os)).trans ((by cases b;exact aR3 w os;exact aYb w os:PySem.W.Fast.tw10922169470897902743 pw w b os=PySem.W.Fast.tw18090686364414206119 pw w b os).trans ((congrFun (congrFun (congrFun (congrFun PySem.W.Fast.te18090686364414206119 pw) w) b) os)).symm)
theorem bL7(P:Params):ok5 pw P=true:=(rfl).trans (bL6 P)
theorem bZ6(w:World)(b:Bool)(os:OsState):f3L pw w b os=f3R pw w b os:=((congrFun (congrFun (congrFun (congrFun PySem.W.Fast.te6075106442219943775 pw) w) b) os)).trans ((by cases b;exact aR2 w os;exact aYa w os:PySem.W.Fast.tw6075106442219943775 pw w b os=PySem.W.Fast.tw586148729730072234 pw w b os).trans ((congrFun (congrFun (congrFun (congrFun PySem.W.Fast.te586148729730072234 pw) w) b) os)).symm)
theorem bL5(P:Params):ok6 pw P=true:=(rfl).trans (bL4 P)
theorem bZ4(w:World)(b:Bool)(os:OsState):f4L pw w b os=f4R pw w b os:=((congrFun (congrFun (congrFun (congrFun PySem.W.Fast.te18035445846385052267 pw) w) b) os)).trans ((by cases b;exact aR1 w os;exact aX9 w os:PySem.W.Fast.tw18035445846385052267 pw w b os=PySem.W.Fast.tw9023676639306687168 pw w b os).trans ((congrFun (congrFun (congrFun (congrFun PySem.W.Fast.te9023676639306687168 pw) w) b) os)).symm)
theorem bL3(P:Params):ok7 pw P=true:=(rfl).trans (bL2 P)
theorem bZ2(w:World)(b:Bool)(os:OsState):f5L pw w b os=f5R pw w b os:=((congrFun (congrFun (congrFun (congrFun PySem.W.Fast.te9158924615000684045 pw) w) b) os)).trans ((by cases b;exact aR0 w os;exact aX8 w os:PySem.W.Fast.tw9158924615000684045 pw w b os=PySem.W.Fast.tw6470231775247104867 pw w b os).trans ((congrFun (congrFun (congrFun (congrFun PySem.W.Fast.te6470231775247104867 pw) w) b) os)).symm)
theorem bL1(P:Params):ok8 pw P=true:=(rfl).trans (bL0 P)
theorem bQu(w:World)(c b:Bool)(os:OsState):k1Lc pw w c b os=k1Rc pw w c b os:=((congrFun (congrFun (congrFun (congrFun (congrFun PySem.W.Fast.te8446052708872322797 pw) w) c) b) os)).trans ((by cases c;cases b;exact aFc w os;exact aGl w os;cases b;exact aGk w os;exact aHt w os:PySem.W.Fast.tw8446052708872322797 pw w c b os=PySem.W.Fast.tw6964882779058855270 pw w c b os).trans ((congrFun (congrFun (congrFun (congrFun (congrFun PySem.W.Fast.te6964882779058855270 pw) w) c) b) os)).symm)
theorem bZp(w:World)(b:Bool)(os:OsState):k1L pw w b os=k1R pw w b os:=byRow2 "comprehension-iter-twice" (P:=fun w=>k1L pw w b os=k1R pw w b os) (fun w=>bQu w false b os) (fun w=>bQu w true b os) w
theorem bLz(P:Params):ok9 pw P=true:=(rfl).trans (bLy P)
theorem bQt(w:World)(c b:Bool)(os:OsState):k2Lc pw w c b os=k2Rc pw w c b os:=((congrFun (congrFun (congrFun (congrFun (congrFun PySem.W.Fast.te7422928889339467704 pw) w) c) b) os)).trans ((by cases c;cases b;exact aFb w os;exact aGj w os;cases b;exact aGi w os;exact aHs w os:PySem.W.Fast.tw7422928889339467704 pw w c b os=PySem.W.Fast.tw5906136293618658792 pw w c b os).trans ((congrFun (congrFun (congrFun (congrFun (congrFun PySem.W.Fast.te5906136293618658792 pw) w) c) b) os)).symm)
theorem bZn(w:World)(b:Bool)(os:OsState):k2L pw w b os=k2R pw w b os:=byRow2 "comprehension-iter-twice" (P:=fun w=>k2L pw w b os=k2R pw w b os) (fun w=>bQt w false b os) (fun w=>bQt w true b os) w
theorem bDt(P:Params):ok10 pw P=true:=(rfl).trans (bDs P)
theorem bQs(w:World)(c b:Bool)(os:OsState):k3Lc pw w c b os=k3Rc pw w c b os:=((congrFun (congrFun (congrFun (congrFun (congrFun PySem.W.Fast.te662114681984696309 pw) w) c) b) os)).trans ((by cases c;cases b;exact aFa w os;exact aGh w os;cases b;exact aGg w os;exact aHr w os:PySem.W.Fast.tw662114681984696309 pw w c b os=PySem.W.Fast.tw4472108207669296149 pw w c b os).trans ((congrFun (congrFun (congrFun (congrFun (congrFun PySem.W.Fast.te4472108207669296149 pw) w) c) b) os)).symm)
theorem bZl(w:World)(b:Bool)(os:OsState):k3L pw w b os=k3R pw w b os:=byRow2 "comprehension-iter-twice" (P:=fun w=>k3L pw w b os=k3R pw w b os) (fun w=>bQs w false b os) (fun w=>bQs w true b os) w
theorem bDr(P:Params):ok11 pw P=true:=(rfl).trans (bDq P)
theorem bQr(w:World)(c b:Bool)(os:OsState):k4Lc pw w c b os=k4Rc pw w c b os:=((congrFun (congrFun (congrFun (congrFun (congrFun PySem.W.Fast.te4148589339419333408 pw) w) c) b) os)).trans ((by cases c;cases b;exact aE9 w os;exact aGf w os;cases b;exact aGe w os;exact aHq w os:PySem.W.Fast.tw4148589339419333408 pw w c b os=PySem.W.Fast.tw17262092865370245688 pw w c b os).trans ((congrFun (congrFun (congrFun (congrFun (congrFun PySem.W.Fast.te17262092865370245688 pw) w) c) b) os)).symm)
theorem bZj(w:World)(b:Bool)(os:OsState):k4L pw w b os=k4R pw w b os:=byRow2 "comprehension-iter-twice" (P:=fun w=>k4L pw w b os=k4R pw w b os) (fun w=>bQr w false b os) (fun w=>bQr w true b os) w
theorem bDp(P:Params):ok12 pw P=true:=(rfl).trans (bDo P)
theorem bZh(w:World)(b:Bool)(os:OsState):k5L pw w b os=k5R pw w b os:=((congrFun (congrFun (congrFun (congrFun PySem.W.Fast.te17773488148790343662 pw) w) b) os)).trans ((by cases b;exact aRn w os;exact aXl w os:PySem.W.Fast.tw17773488148790343662 pw w b os=PySem.W.Fast.tw1235828557660505163 pw w b os).trans ((congrFun (congrFun (congrFun (congrFun PySem.W.Fast.te1235828557660505163 pw) w) b) os)).symm)
theorem bDn(P:Params):ok13 pw P=true:=(rfl).trans (bDm P)
theorem bQz(w:World)(c b:Bool)(os:OsState):g2Lc pw w c b os=g2Rc pw w c b os:=((congrFun (congrFun (congrFun (congrFun (congrFun PySem.W.Fast.te11754249585926265981 pw) w) c) b) os)).trans ((by cases c;cases b;exact aFe w os;exact aGo w os;cases b;exact aGn w os;exact aH3 w os:PySem.W.Fast.tw11754249585926265981 pw w c b os=PySem.W.Fast.tw16199768273113039474 pw w c b os).trans ((congrFun (congrFun (congrFun (congrFun (congrFun PySem.W.Fast.te16199768273113039474 pw) w) c) b) os)).symm)
theorem bZx(w:World)(b:Bool)(os:OsState):g2L pw w b os=g2R pw w b os:=byRow2 "comprehension-iter-twice" (P:=fun w=>g2L pw w b os=g2R pw w b os) (fun w=>bQz w false b os) (fun w=>bQz w true b os) w
theorem bDl(P:Params):ok14 pw P=true:=(rfl).trans (bDk P)
theorem bZv(w:World)(b:Bool)(os:OsState):g3L pw w b os=g3R pw w b os:=((congrFun (congrFun (congrFun (congrFun PySem.W.Fast.te16159552291436763957 pw) w) b) os)).trans ((by cases b;exact aRu w os;exact aXy w os:PySem.W.Fast.tw16159552291436763957 pw w b os=PySem.W.Fast.tw13288564745619151606 pw w b os).trans ((congrFun (congrFun (congrFun (congrFun PySem.W.Fast.te13288564745619151606 pw) w) b) os)).symm)
theorem bDj(P:Params):ok15 pw P=true:=(rfl).trans (bDi P)
theorem bZt(w:World)(b:Bool)(os:OsState):g4L pw w b os=g4R pw w b os:=((congrFun (congrFun (congrFun (congrFun PySem.W.Fast.te15834100501186273958 pw) w) b) os)).trans ((by cases b;exact aRt w os;exact aXx w os:PySem.W.Fast.tw15834100501186273958 pw w b os=PySem.W.Fast.tw15940780887796651855 pw w b os).trans ((congrFun (congrFun (congrFun (congrFun PySem.W.Fast.te15940780887796651855 pw) w) b) os)).symm)
theorem bDh(P:Params):ok16 pw P=true:=(rfl).trans (bDg P)
theorem cAp(w:World)(b:Bool)(os:OsState):e1L pw w b os=e1R pw w b os:=((congrFun (congrFun (congrFun (congrFun PySem.W.Fast.te15579843232970039105 pw) w) b) os)).trans ((by cases b;exact aSl w os;exact aYw w os:PySem.W.Fast.tw15579843232970039105 pw w b os=PySem.W.Fast.tw18370583350962266113 pw w b os).trans ((congrFun (congrFun (congrFun (congrFun PySem.W.Fast.te18370583350962266113 pw) w) b) os)).symm)
theorem P_s(w:World)(b:Bool)(os:OsState):segGo treeTable pw (wf w b) 11 aBm 0 12 (Sb pw (wf w b) os).abs (topStub pw)=some ((S0 pw (wf w b) os).abs,tP pw w b os):=by
 have h:=P_b w b os
 have ok:=bMh (wf w b).params
 unfold ok0 at ok
 unfold PL PR PG Sb at h
 unfold tP PG Sb S0 T0
 have k:=aJl h ok
 exact k
theorem cAw(w:World)(b:Bool)(os:OsState):segRun treeTable pw (wf w b) 11 aBm 1 1 (S0 pw (wf w b) os).abs (blockOf pw.main.body (env0 pw) (cE pw) ⟨0,0,0,0⟩ B0)=some (.next,(S0 pw (wf w b) os).abs,cE pw,⟨0,0,0,0⟩):=by
 have h:=cAx w b os
 unfold b0L b0R S0 at h
 unfold S0
 exact aKv h
theorem bZy(w:World)(b:Bool)(os:OsState):segRun treeTable pw (wf w b) 11 aBm 1 2738 (S0 pw (wf w b) os).abs (piecesOf (sl pw.main.body 0 24) (env0 pw) (cE pw) ⟨0,0,0,0⟩ B0)=some (.next,(S1 pw (wf w b) os).abs,cE pw,⟨84,0,101,16⟩):=by
 have h:=bZz w b os
 have ok:=bMf (wf w b).params
 unfold ok1 at ok
 unfold g1L g1R S0 at h
 unfold S0 S1 T1
 have k:=chunk h ok
 exact k
theorem A_s(w:World)(b:Bool)(os:OsState):segGo treeTable pw (wf w b) 11 aBm 1 59 (S1 pw (wf w b) os).abs (piecesOf (sl pw.main.body 24 1) (env0 pw) (cE pw) ⟨84,0,101,16⟩ B0)=some ((S2 pw (wf w b) os).abs,tA pw w b os):=by
 have h:=A_b w b os
 have ok:=bMd (wf w b).params
 unfold ok2 at ok
 unfold AL AR AG S1 at h
 unfold tA AG S1 S2 T2
 have k:=aJl h ok
 exact k
theorem bZe(w:World)(b:Bool)(os:OsState):segRun treeTable pw (wf w b) 11 aBm 2 1 (S2 pw (wf w b) os).abs (blockOf (cb pw) (aCa pw (tA pw w b os).code) (tA pw w b os).code ⟨102,0,108,79⟩ (tA pw w b os).stack)=some (.next,(S2 pw (wf w b) os).abs,(tA pw w b os).code,⟨102,0,108,79⟩):=by
 have h:=bZf w b os
 unfold kbL kbR S2 at h
 unfold S2
 exact aKv h
theorem F_s(w:World)(b:Bool)(os:OsState):segGo treeTable pw (wf w b) 11 aBm 2 14 (S2 pw (wf w b) os).abs (piecesOf (sl (cb pw) 0 1) (aCa pw (tA pw w b os).code) (tA pw w b os).code ⟨102,0,108,79⟩ (tA pw w b os).stack)=some ((S3 pw (wf w b) os).abs,tF pw w b os):=by
 have h:=F_b w b os
 have ok:=bMb (wf w b).params
 unfold ok3 at ok
 unfold FL FR FG S2 at h
 unfold tF FG S2 S3 T3
 have k:=aJl h ok
 exact k
theorem cAb(w:World)(b:Bool)(os:OsState):segRun treeTable pw (wf w b) 11 aBm 3 2 (S3 pw (wf w b) os).abs (aEe (tF pw w b os).code ⟨103,13,103,21⟩ (tF pw w b os).stack)=some (.next,(S3 pw (wf w b) os).abs,(tF pw w b os).code,⟨103,13,103,21⟩):=by
 have h:=cAc w b os
 unfold f0L f0R S3 at h
 unfold S3
 exact aKv h
theorem bZ9(w:World)(b:Bool)(os:OsState):segRun treeTable pw (wf w b) 11 aBm 3 9361 (S3 pw (wf w b) os).abs (piecesOf (sl (fb pw) 0 5) (aCa pw (tF pw w b os).code) (tF pw w b os).code ⟨103,13,103,21⟩ (tF pw w b os).stack)=some (.next,(S4 pw (wf w b) os).abs,(tF pw w b os).code,⟨89,4,89,79⟩):=by
 have h:=cAa w b os
 have ok:=bL9 (wf w b).params
 unfold ok4 at ok
 unfold f1L f1R S3 at h
 unfold S3 S4 T4
 have k:=chunk h ok
 exact k
theorem bZ7(w:World)(b:Bool)(os:OsState):segRun treeTable pw (wf w b) 11 aBm 3 6754 (S4 pw (wf w b) os).abs (piecesOf (sl (fb pw) 5 4) (aCa pw (tF pw w b os).code) (tF pw w b os).code ⟨89,4,89,79⟩ (tF pw w b os).stack)=some (.next,(S5 pw (wf w b) os).abs,(tF pw w b os).code,⟨93,4,93,64⟩):=by
 have h:=bZ8 w b os
 have ok:=bL7 (wf w b).params
 unfold ok5 at ok
 unfold f2L f2R S4 at h
 unfold S4 S5 T5
 have k:=chunk h ok
 exact k
theorem bZ5(w:World)(b:Bool)(os:OsState):segRun treeTable pw (wf w b) 11 aBm 3 9062 (S5 pw (wf w b) os).abs (piecesOf (sl (fb pw) 9 6) (aCa pw (tF pw w b os).code) (tF pw w b os).code ⟨93,4,93,64⟩ (tF pw w b os).stack)=some (.next,(S6 pw (wf w b) os).abs,(tF pw w b os).code,⟨99,24,99,97⟩):=by
 have h:=bZ6 w b os
 have ok:=bL5 (wf w b).params
 unfold ok6 at ok
 unfold f3L f3R S5 at h
 unfold S5 S6 T6
 have k:=chunk h ok
 exact k
theorem bZ3(w:World)(b:Bool)(os:OsState):segRun treeTable pw (wf w b) 11 aBm 3 4 (S6 pw (wf w b) os).abs (piecesOf (sl (fb pw) 15 2) (aCa pw (tF pw w b os).code) (tF pw w b os).code ⟨99,24,99,97⟩ (tF pw w b os).stack)=some (.ret (.ref 209),(S7 pw (wf w b) os).abs,(tF pw w b os).code,⟨101,11,101,16⟩):=by
 have h:=bZ4 w b os
 have ok:=bL3 (wf w b).params
 unfold ok7 at ok
 unfold f4L f4R S6 at h
 unfold S6 S7 T7
 have k:=chunk h ok
 exact k
theorem bZ1(w:World)(b:Bool)(os:OsState):segRun treeTable pw (wf w b) 11 aBm 2 11 (S7 pw (wf w b) os).abs (⟨ret (.ref 209),(tF pw w b os).code,⟨101,11,101,16⟩,(tF pw w b os).stack⟩)=some (.next,(S8 pw (wf w b) os).abs,(tA pw w b os).code,⟨103,4,103,10⟩):=by
 have h:=bZ2 w b os
 have ok:=bL1 (wf w b).params
 unfold ok8 at ok
 unfold f5L f5R S7 at h
 unfold S7 S8 T8
 have k:=chunk h ok
 exact k
theorem bZo(w:World)(b:Bool)(os:OsState):segRun treeTable pw (wf w b) 11 aBm 2 6756 (S8 pw (wf w b) os).abs (piecesOf (sl (cb pw) 1 2) (aCa pw (tA pw w b os).code) (tA pw w b os).code ⟨103,4,103,10⟩ (tA pw w b os).stack)=some (.next,(S9 pw (wf w b) os).abs,(tA pw w b os).code,⟨105,4,105,13⟩):=by
 have h:=bZp w b os
 have ok:=bLz (wf w b).params
 unfold ok9 at ok
 unfold k1L k1R S8 at h
 unfold S8 S9 T9
 have k:=chunk h ok
 exact k
theorem bZm(w:World)(b:Bool)(os:OsState):segRun treeTable pw (wf w b) 11 aBm 2 8021 (S9 pw (wf w b) os).abs (piecesOf (sl (cb pw) 3 1) (aCa pw (tA pw w b os).code) (tA pw w b os).code ⟨105,4,105,13⟩ (tA pw w b os).stack)=some (.next,(S10 pw (wf w b) os).abs,(tA pw w b os).code,⟨106,4,106,12⟩):=by
 have h:=bZn w b os
 have ok:=bDt (wf w b).params
 unfold ok10 at ok
 unfold k2L k2R S9 at h
 unfold S9 S10 T10
 have k:=chunk h ok
 exact k
theorem bZk(w:World)(b:Bool)(os:OsState):segRun treeTable pw (wf w b) 11 aBm 2 6451 (S10 pw (wf w b) os).abs (piecesOf (sl (cb pw) 4 1) (aCa pw (tA pw w b os).code) (tA pw w b os).code ⟨106,4,106,12⟩ (tA pw w b os).stack)=some (.next,(S11 pw (wf w b) os).abs,(tA pw w b os).code,⟨107,4,107,14⟩):=by
 have h:=bZl w b os
 have ok:=bDr (wf w b).params
 unfold ok11 at ok
 unfold k3L k3R S10 at h
 unfold S10 S11 T11
 have k:=chunk h ok
 exact k
theorem bZi(w:World)(b:Bool)(os:OsState):segRun treeTable pw (wf w b) 11 aBm 2 2816 (S11 pw (wf w b) os).abs (piecesOf (sl (cb pw) 5 1) (aCa pw (tA pw w b os).code) (tA pw w b os).code ⟨107,4,107,14⟩ (tA pw w b os).stack)=some (.next,(S12 pw (wf w b) os).abs,(tA pw w b os).code,⟨108,4,108,9⟩):=by
 have h:=bZj w b os
 have ok:=bDp (wf w b).params
 unfold ok12 at ok
 unfold k4L k4R S11 at h
 unfold S11 S12 T12
 have k:=chunk h ok
 exact k
theorem bZg(w:World)(b:Bool)(os:OsState):segRun treeTable pw (wf w b) 11 aBm 1 137 (S12 pw (wf w b) os).abs (⟨.pure (.done .next),(tA pw w b os).code,⟨108,4,108,9⟩,(tA pw w b os).stack⟩)=some (.next,(S13 pw (wf w b) os).abs,cE pw,⟨102,0,108,79⟩):=by
 have h:=bZh w b os
 have ok:=bDn (wf w b).params
 unfold ok13 at ok
 unfold k5L k5R S12 at h
 unfold S12 S13 T13
 have k:=chunk h ok
 exact k
theorem bZw(w:World)(b:Bool)(os:OsState):segRun treeTable pw (wf w b) 11 aBm 1 5221 (S13 pw (wf w b) os).abs (piecesOf (sl pw.main.body 25 55) (env0 pw) (cE pw) ⟨102,0,108,79⟩ B0)=some (.next,(S14 pw (wf w b) os).abs,cE pw,⟨234,0,234,5⟩):=by
 have h:=bZx w b os
 have ok:=bDl (wf w b).params
 unfold ok14 at ok
 unfold g2L g2R S13 at h
 unfold S13 S14 T14
 have k:=chunk h ok
 exact k
theorem bZu(w:World)(b:Bool)(os:OsState):segRun treeTable pw (wf w b) 11 aBm 1 10 (S14 pw (wf w b) os).abs (piecesOf (sl pw.main.body 80 1) (env0 pw) (cE pw) ⟨234,0,234,5⟩ B0)=some (.next,(S15 pw (wf w b) os).abs,cE pw,⟨235,0,235,8⟩):=by
 have h:=bZv w b os
 have ok:=bDj (wf w b).params
 unfold ok15 at ok
 unfold g3L g3R S14 at h
 unfold S14 S15 T15
 have k:=chunk h ok
 exact k
theorem bZs(w:World)(b:Bool)(os:OsState):segRun treeTable pw (wf w b) 11 aBm 1 6445 (S15 pw (wf w b) os).abs (piecesOf (sl pw.main.body 81 75) (env0 pw) (cE pw) ⟨235,0,235,8⟩ B0)=some (.next,(S16 pw (wf w b) os).abs,cE pw,⟨1017,0,1052,15⟩):=by
 have h:=bZt w b os
 have ok:=bDh (wf w b).params
 unfold ok16 at ok
 unfold g4L g4R S15 at h
 unfold S15 S16 T16
 have k:=chunk h ok
 exact k
theorem cAo(w:World)(b:Bool)(os:OsState):segRun treeTable pw (wf w b) 11 aBm 0 2 (S16 pw (wf w b) os).abs (⟨.pure (.done .next),cE pw,⟨1017,0,1052,15⟩,B0⟩)=some (.ret .none,(S16 pw (wf w b) os).abs,.builtin "claim.caller" {},⟨0,0,0,0⟩):=by
 have h:=cAp w b os
 unfold e1L e1R S16 at h
 unfold S16
 exact aKv h
theorem bIr(w:World)(b:Bool)(os:OsState):tA pw w b os=⟨denote treeTable (.body (cb pw) (aCa pw (tA pw w b os).code)),(tA pw w b os).code,⟨102,0,108,79⟩,(tA pw w b os).stack⟩∧(tA pw w b os).stack.length=2∧splitAtGen (tA pw w b os).stack=none:=by
 have h:=cBp w b os
 unfold AX AY at h
 simp only[Prod.mk.injEq] at h
 refine bEz h fun h1 h2 h3 h4 h5=>?_
 exact⟨aD6 h1 h3,h4,h5⟩
theorem bIq(w:World)(b:Bool)(os:OsState):tF pw w b os=⟨denote treeTable (.func (fb pw) (aCa pw (tF pw w b os).code)),(tF pw w b os).code,⟨103,13,103,21⟩,(tF pw w b os).stack⟩∧(tF pw w b os).stack.length=3∧splitAtGen (tF pw w b os).stack=none:=by
 have h:=cAz w b os
 unfold FX FY at h
 simp only[Prod.mk.injEq] at h
 refine bEz h fun h1 h2 h3 h4 h5=>?_
 exact⟨aD6 h1 h3,h4,h5⟩
theorem bIp(w:World)(b:Bool)(os:OsState):tP pw w b os=⟨denote treeTable (cE pw),cE pw,⟨0,0,0,0⟩,B0⟩:=by
 have h:=cAy w b os
 unfold PX PY at h
 simp only[Prod.mk.injEq] at h
 refine bNn h fun h1 h2 h3 h4 h5 h6=>?_
 rw[aD6 h1 h3,h2,h5]
theorem bIv(w:World)(b:Bool)(os:OsState):segRun treeTable pw (wf w b) 11 aBm 2 ((14+(2+(9361+(6754+(9062+4)))))+11) (S2 pw (wf w b) os).abs (piecesOf (sl (cb pw) 0 1) (aCa pw (tA pw w b os).code) (tA pw w b os).code ⟨102,0,108,79⟩ (tA pw w b os).stack)=some (.next,(S8 pw (wf w b) os).abs,(tA pw w b os).code,⟨103,4,103,10⟩):=by
 refine aJi (bIq w b os) fun e hl hs=>?_
 have l0:=Leads.of_go (F_s w b os)
 rw[e] at l0
 have l1:=aZm (b:=2) (l:=fb pw) (env:=aCa pw (tF pw w b os).code) hs hl (by decide) (cAb w b os)
 have l2:=aBh (b:=2) (K:=aMu) (H:=aC1 (aCa pw (tF pw w b os).code)) (l:=fb pw) (i:=0) (m:=5) (j:=5) hs hl (by decide) rfl (bZ9 w b os)
 have l3:=aBh (b:=2) (K:=aMu) (H:=aC1 (aCa pw (tF pw w b os).code)) (l:=fb pw) (i:=5) (m:=4) (j:=9) hs hl (by decide) rfl (bZ7 w b os)
 have l4:=aBh (b:=2) (K:=aMu) (H:=aC1 (aCa pw (tF pw w b os).code)) (l:=fb pw) (i:=9) (m:=6) (j:=15) hs hl (by decide) rfl (bZ5 w b os)
 have l5:=bFg (b:=2) (H:=aC1 (aCa pw (tF pw w b os).code)) (l:=fb pw) (i:=15) (m:=2) hs hl (by decide) (bZ3 w b os)
 exact (l0.trans (l1.trans (l2.trans (l3.trans (l4.trans l5))))).end_ (bZ1 w b os)
theorem bE4:(cb pw).length≤6:=by
 decide +kernel
theorem aSu:pw.main.body.length≤156:=by
 decide +kernel
theorem aXj(w:World)(b:Bool)(os:OsState):segRun treeTable pw (wf w b) 11 aBm 1 ((59+(1+(((14+(2+(9361+(6754+(9062+4)))))+11)+(6756+(8021+(6451+(2816+0)))))))+137) (S1 pw (wf w b) os).abs (piecesOf (sl pw.main.body 24 1) (env0 pw) (cE pw) ⟨84,0,101,16⟩ B0)=some (.next,(S13 pw (wf w b) os).abs,cE pw,⟨102,0,108,79⟩):=by
 refine aJi (bIr w b os) fun e hl hs=>?_
 have l0:=Leads.of_go (A_s w b os)
 rw[e] at l0
 have l1:=aPp (b:=1) (l:=cb pw) (env:=aCa pw (tA pw w b os).code) hs hl (by decide) (bZe w b os)
 have l2:=aBh (b:=1) (K:=doneF) (H:=leaveH (aCa pw (tA pw w b os).code)) (l:=cb pw) (i:=0) (m:=1) (j:=1) hs hl (by decide) rfl (bIv w b os)
 have l3:=aBh (b:=1) (K:=doneF) (H:=leaveH (aCa pw (tA pw w b os).code)) (l:=cb pw) (i:=1) (m:=2) (j:=3) hs hl (by decide) rfl (bZo w b os)
 have l4:=aBh (b:=1) (K:=doneF) (H:=leaveH (aCa pw (tA pw w b os).code)) (l:=cb pw) (i:=3) (m:=1) (j:=4) hs hl (by decide) rfl (bZm w b os)
 have l5:=aBh (b:=1) (K:=doneF) (H:=leaveH (aCa pw (tA pw w b os).code)) (l:=cb pw) (i:=4) (m:=1) (j:=5) hs hl (by decide) rfl (bZk w b os)
 have l6:=aBh (b:=1) (K:=doneF) (H:=leaveH (aCa pw (tA pw w b os).code)) (l:=cb pw) (i:=5) (m:=1) (j:=6) hs hl (by decide) rfl (bZi w b os)
 have l7:=aUu (p:=pw) (w:=wf w b) (b:=1) (B:=(tA pw w b os).stack) (env:=aCa pw (tA pw w b os).code) (s:=(S12 pw (wf w b) os).abs) (l:=cb pw) (i:=6) (H:=leaveH (aCa pw (tA pw w b os).code)) (c:=(tA pw w b os).code) (pos:=⟨108,4,108,9⟩) bE4
 exact (l0.trans (l1.trans (l2.trans (l3.trans (l4.trans (l5.trans (l6.trans l7))))))).end_ (bZg w b os)
noncomputable def aDi:Nat:=(12+(1+(2738+(((59+(1+(((14+(2+(9361+(6754+(9062+4)))))+11)+(6756+(8021+(6451+(2816+0)))))))+137)+(5221+(10+(6445+0)))))))+2
theorem bFo(w:World)(b:Bool)(os:OsState):segRun treeTable pw (wf w b) 11 aBm 0 aDi (Sb pw (wf w b) os).abs (topStub pw)=some (.ret .none,(S16 pw (wf w b) os).abs,.builtin "claim.caller" {},⟨0,0,0,0⟩):=by
 have hs:splitAtGen B0=none:=rfl
 have hl:B0.length=1:=rfl
 have l0:=Leads.of_go (P_s w b os)
 rw[bIp w b os] at l0
 have l1:=aPp (b:=0) (l:=pw.main.body) (env:=env0 pw) hs hl (by decide) (cAw w b os)
 have l2:=aBh (b:=0) (K:=doneF) (H:=leaveH (env0 pw)) (l:=pw.main.body) (i:=0) (m:=24) (j:=24) hs hl (by decide) rfl (bZy w b os)
 have l3:=aBh (b:=0) (K:=doneF) (H:=leaveH (env0 pw)) (l:=pw.main.body) (i:=24) (m:=1) (j:=25) hs hl (by decide) rfl (aXj w b os)
 have l4:=aBh (b:=0) (K:=doneF) (H:=leaveH (env0 pw)) (l:=pw.main.body) (i:=25) (m:=55) (j:=80) hs hl (by decide) rfl (bZw w b os)
 have l5:=aBh (b:=0) (K:=doneF) (H:=leaveH (env0 pw)) (l:=pw.main.body) (i:=80) (m:=1) (j:=81) hs hl (by decide) rfl (bZu w b os)
 have l6:=aBh (b:=0) (K:=doneF) (H:=leaveH (env0 pw)) (l:=pw.main.body) (i:=81) (m:=75) (j:=156) hs hl (by decide) rfl (bZs w b os)
 have l7:=aUu (p:=pw) (w:=wf w b) (b:=0) (B:=B0) (env:=env0 pw) (s:=(S16 pw (wf w b) os).abs) (l:=pw.main.body) (i:=156) (H:=leaveH (env0 pw)) (c:=cE pw) (pos:=⟨1017,0,1052,15⟩) aSu
 exact (l0.trans (l1.trans (l2.trans (l3.trans (l4.trans (l5.trans (l6.trans l7))))))).end_ (cAo w b os)
theorem bA0(w:World)(os:OsState):topRun treeTable pw w 11 aBm aDi (Sb pw w os).abs (topStub pw)=some (S16 pw w os).abs :=
 byRow2 "special-get-raises" (P:=fun w=>topRun treeTable pw w 11 aBm aDi (Sb pw w os).abs (topStub pw)=some (S16 pw w os).abs)
  (fun w=>aDa _ _ _ (bFo w false os)) (fun w=>aDa _ _ _ (bFo w true os)) w
theorem aPl(P:Params):(aCm P).list 11=(boot_heap P).objs.toList:=aAa (by k_slotget)
theorem aIa(P:Params):(boot_heap P).life=aBn:=aAa (by k_slotget)
theorem aZc(P:Params):absHeap (aCm P) 11 aBn=boot_heap P:=by
 have h1:=aPl P
 have h2:=aIa P
 revert h1 h2
 generalize boot_heap P=H
 intro h1 h2
 obtain⟨o,l⟩:=H
 dsimp only at h1 h2
 subst h2
 unfold absHeap
 rw[h1]
theorem aUr(P:Params):boot_heap P=btH P:=by
 have h1:btL P=(boot_heap P).objs.toList:=aAa (by k_slotget)
 have h2:=aIa P
 revert h1 h2
 generalize boot_heap P=H
 intro h1 h2
 obtain⟨⟨o⟩,l⟩:=H
 dsimp only at h1 h2
 subst h2
 unfold btH
 rw[h1]
theorem aH9:boot_toks=181:=rfl
theorem boot_abs(w:World)(os:OsState):(Sb pw w os).abs=⟨boot_heap w.params,Array.mk [],boot_drawn,boot_toks,os⟩:=by
 unfold Sb SharedT.abs
 dsimp only
 rw[aZc,aH9]
theorem aQj(P:Params):((boot_heap P).isNs mainGlobals&&(Array.mk []:Array GenState).size==0,(boot_heap P).objs.size,(boot_heap P).nsMap mainGlobals "__annotations__")=(true,11,aBm):=aAa (by k_slotget)
noncomputable def hT(p:Program)(P:Params):Heap:=absHeap (T16 p P) 2238 aBn
noncomputable def lo:List Str:=[q14,q18,q19,q33,aF6,bCr,bCq,bCp,bCo,bCn,bCm,bCk,bCj,bCi,bCh,bCg,bCf,bHm,bCd,bCc,bCa,bHl,bB9,bB8,bLh,aP6,bQd,bP8,bP7,bK8,bK7,bK6,bK5,bK4,bK3,aP3,bK1,bK0,aP0,q13,q15,q16,q17,q20,q21,q22,q23,q24,q25,q26,q27,q28,q29,q30,q31,q32,q34,aNa,aLf,aLe,aLd,bCv,bHs,aTo,aQb,aM9,aDk,aIn,aQa,aP9,aP8,aP7,aIm,aIl,aIk,aIj,aIh,aG3,aIi,aIg,bCu,bCt,bCs,bCl,bCe,bHr,bHq,bHp,bHo,bHn,bCb,bHj,aM8,aM7,aM6,aM5,bQl,bQk,bQj,bQi,bQh,bQg,bQf,bQe,bQc,bQb,bQa,bP9,bP6,aP5,aTn,aTm,aTl,aP4,bLg,bLf,bP5,bLe,bP4,bLd,bLc,bLb,bLa,bK9,aQ2,aTk,aTj,aTi,aTh,aTg,aTf,aTe,aTd,aTc,aTb,aM4,bK2,bKz,aM3,aM2,aP2,aP1,aE2,aM1,aM0,aIf,aMz]
noncomputable def qP(p:Program):Program:={ p with main:={ p.main with body:=[F p 155] } }
noncomputable def sT(p:Program)(w:World)(os:OsState):Shared:=⟨hT p w.params,#[],boot_drawn,5891,os⟩
noncomputable def xT(p:Program)(s:Shared):Bool:=xlAt (qP p) [] s&&recOk [] s
noncomputable def look1(p:Program)(w:World)(os:OsState):Bool:=staticsOk (importedModules p.main.body) (btH w.params) (hT p w.params)&&namesBound p (hT p w.params)&&gensDone (sT p w os)&&laidKept (btH w.params) (hT p w.params)
noncomputable def look2(p:Program)(w:World)(os:OsState):=openSeen (qP p) lo (importedModules p.main.body) (xT p) true (sT p w os)
noncomputable def good2(p:Program):=openGood (qP p) lo
lay_quick Mine.look1
lay_quick Mine.look2 Mine.good2
theorem aZr(w:World)(os:OsState):(S16 pw w os).abs=⟨absHeap (T16 pw w.params) 2238 aBn,#[],boot_drawn,5891,os⟩:=by
 unfold S16 SharedT.abs
 dsimp only
theorem aU2(w:World)(os:OsState):topRun treeTable pw w 11 aBm aDi ⟨boot_heap w.params,Array.mk [],boot_drawn,boot_toks,os⟩ (topStub pw)=some ⟨hT pw w.params,#[],boot_drawn,5891,os⟩:=by
 have h:=bA0 w os
 rw[boot_abs,aZr] at h
 unfold hT
 exact h
theorem aX0:Nat.ble aDi 100000=true:=by decide
noncomputable def boL(p:Program)(w:World):Option (Heap×Array GenState×Drawn×Nat):=(importEnds treeTable (opening p) w 600 (start (opening p)).1 (start (opening p)).2).map (fun s=>(s.heap,s.gens,s.drawn,s.toks))
noncomputable def boR(w:World):Option (Heap×Array GenState×Drawn×Nat):=some (btH w.params,Array.mk [],boot_drawn,boot_toks)
lay_quick Mine.boL
theorem cAu(w:World):PySem.W.Fast.tw5469650922079030942 pw w=boR w:=aAa (by k_slotget)
theorem cAv(w:World):boL pw w=boR w:=(congrFun (congrFun PySem.W.Fast.te5469650922079030942 pw) w).trans (cAu w)
theorem aMn(s:Shared):fenceModules? pw s=some s:=by kernel_rfl!
theorem aQk(w:World):(fencedOpening treeTable pw w 100000).map (fun s=>(s.heap,s.gens,s.drawn,s.toks))=some (boot_heap w.params,Array.mk [],boot_drawn,boot_toks):=by
 have h:=cAv w
 unfold boL boR at h
 rw[← aUr] at h
 refine aAd (Option.map_eq_some_iff.mp h) fun s hs hv=>?_
 have m:=importEnds_mono (100000-600) _ _ _ _ hs
 unfold fencedOpening
 rw[show (100000:Nat)=600+(100000-600) from rfl,m]
 show ((fenceModules? pw s)).map _=_
 rw[aMn s]
 exact congrArg some hv
theorem aW7(w:World)(os:OsState):PySem.W.Fast.tw18309523048354253811 pw w os=true:=aAa (by k_slotget)
theorem aW8(w:World)(os:OsState):look1 pw w os=true:=(congrFun (congrFun (congrFun PySem.W.Fast.te18309523048354253811 pw) w) os).trans (aW7 w os)
theorem aW5(w:World)(os:OsState):PySem.W.Fast.tw2328526617337647392 pw w os=PySem.W.Fast.tw14205110778110953275 pw:=aAa (by k_slotget)
theorem aW6(w:World)(os:OsState):look2 pw w os=good2 pw:=(congrFun (congrFun (congrFun PySem.W.Fast.te2328526617337647392 pw) w) os).trans ((aW5 w os).trans (congrFun PySem.W.Fast.te14205110778110953275 pw).symm)
theorem looks (w : World) : (fun os => ((staticsOk (importedModules pw.main.body) (boot_heap w.params) (hT pw w.params) && namesBound pw (hT pw w.params) && gensDone ⟨hT pw w.params, #[], boot_drawn, 5891, os⟩ && laidKept (boot_heap w.params) (hT pw w.params)),
        openSeen (qP pw) lo (importedModules pw.main.body) (xT pw) true ⟨hT pw w.params, #[], boot_drawn, 5891, os⟩, (⟨hT pw w.params, #[], boot_drawn, 5891, os⟩ : Shared).heap)) = fun _ => (true, openGood (qP pw) lo, hT pw w.params) := by
  funext os
  have h1 := aW8 w os
  have h2 := aW6 w os
  unfold look1 sT at h1
  rw [← aUr] at h1
  unfold look2 good2 sT at h2
  rw [h1, h2]
theorem left:LeftO pw (qP pw) lo (xT pw) (fun s=>s.heap) (fun w=>hT pw w.params) 100000 true :=
 LeftO.of_pieces (H₀:=boot_heap) (H₁:=hT pw) (gs₀:=Array.mk []) (gs₁:=#[]) (d₀:=boot_drawn) (d₁:=boot_drawn) (k₀:=boot_toks) (k₁:=5891) (m₀:=11) (ann:=aBm) (M:=aDi)
  aQk (fun w=>aQj w.params) aU2 aX0 looks
noncomputable def yP(w:World)(h:Heap):Prop:=∀ b o,(hT pw w.params).get? b=some o→h.get? b=some o
theorem bIi(w:World)(s:Shared)(e:s.heap=hT pw w.params):yP w s.heap:=fun b o g=>by rw[e];exact g
theorem aQf(w:World)(h h':Heap)(x:yP w h)(k:∀ b o,h.get? b=some o→h'.get? b=some o):yP w h':=fun b o g=>k b o (x b o g)
theorem holds(d:DefRec)(kwd:List (Str×Expr))(hdef:defOf (qP pw) PySem.Challenge.rw_nz0234_01.name=some (d,kwd))(hp:pw.theDef PySem.Challenge.rw_nz0234_01.name=some (d.params,d.body,d.scope))(hk:kwWritten? d.params.kwonlyargs d.params.kw_defaults=some kwd)
 (hwr:(!PySem.Challenge.rw_nz0234_01.row.writes||PySem.Challenge.rw_nz0234_01.row.records.isEmpty)=true)
 (ok:(chainsOk (qP pw)&&opensWell PySem.Challenge.rw_nz0234_01.row.prog&&(frees PySem.Challenge.rw_nz0234_01.row.toRowW&&PySem.Challenge.rw_nz0234_01.row.within.isEmpty))=true)
 (hb:pw.bare) (hw:PySem.Challenge.rw_nz0234_01.row.toRowW.promised)
 (call:WalkO (qP pw) lo (XL (qP pw) []) yP PySem.Challenge.rw_nz0234_01.row.toRowW d kwd fun f vs=>PySem.call f vs):PySem.Challenge.rw_nz0234_01.Holds :=
 holds_law said fun s=>holds_open (q:=qP pw) (loose:=lo) (Xt:=xT pw) (XP:=XL (qP pw) []) (Yf:=fun s=>s.heap) (Ya:=fun w=>hT pw w.params) (YP:=yP) (N:=100000) left bIi aQf
  (fun s e=>xl_of s (Bool.and_eq_true_iff.mp e).1) XL.keeps hdef hp hk (fun s e=>recFacts_of (Bool.and_eq_true_iff.mp e).2) hwr s ok hb hw call
noncomputable def fdN:Stmt→Str
 | .FunctionDef n _ _ _ _ _ _ _ _ _=>n
 |_=>⟨#[]⟩
noncomputable def fdQ:Stmt→Pos
 | .FunctionDef _ _ _ _ _ _ _ _ _ q=>q
 |_=>⟨0,0,0,0⟩
noncomputable def aQd(p:Program):DefRec:=⟨fdN (F p 155),fdP (F p 155),fdB (F p 155),fdS (F p 155),fdQ (F p 155)⟩
theorem aXi:defOf (qP pw) PySem.Challenge.rw_nz0234_01.name=some (aQd pw,[]):=aAa (by k_slotget)
theorem aXe:pw.theDef PySem.Challenge.rw_nz0234_01.name=some ((aQd pw).params,(aQd pw).body,(aQd pw).scope):=aAa (by k_slotget)
theorem bD3:kwWritten? (aQd pw).params.kwonlyargs (aQd pw).params.kw_defaults=some []:=aAa (by k_slotget)
theorem bD0:(!PySem.Challenge.rw_nz0234_01.row.writes||PySem.Challenge.rw_nz0234_01.row.records.isEmpty)=true:=aAa (by k_slotget)
theorem bD2:(chainsOk (qP pw)&&opensWell PySem.Challenge.rw_nz0234_01.row.prog&&(frees PySem.Challenge.rw_nz0234_01.row.toRowW&&PySem.Challenge.rw_nz0234_01.row.within.isEmpty))=true:=aAa (by k_slotget)
theorem aRk:pw.bare:=⟨rfl,rfl,rfl,rfl,rfl,aAa (by k_slotget)⟩
theorem aHp:PySem.Challenge.rw_nz0234_01.row.toRowW.promised:=by w_witness2
theorem of_walk(call:WalkO (qP pw) lo (XL (qP pw) []) yP PySem.Challenge.rw_nz0234_01.row.toRowW (aQd pw) [] fun f vs=>PySem.call f vs):PySem.Challenge.rw_nz0234_01.Holds :=
 holds (aQd pw) [] aXi aXe bD3 bD0 bD2 aRk aHp call
end Mine
end
open PySem PySem.W PyProof.Rows PySem.Spec PySem.Calls
namespace Mine
structure Kept(h h':Heap)(A:List Addr):Prop where
 size:h.objs.size≤h'.objs.size
 keep:∀ b o,h.get? b=some o→b∉A→h'.get? b=some o
theorem aDl(h:Heap)(A:List Addr):Kept h (hideAll h A) A:=⟨Nat.le_of_eq (hideAll_size A h).symm,fun _ _ e n=>hideAll_get A e n⟩
inductive Pick (x:Addr×Obj):List (Addr×Obj)→List (Addr×Obj)→Prop
 |head {l}:Pick x (x::l) l
 |tail {y l l'}:Pick x l l'→Pick x (y::l) (y::l')
theorem Pick.mem{x:Addr×Obj}{l l':List (Addr×Obj)}(p:Pick x l l'):x∈l∧∀ y∈l',y∈l:=by
 induction p with
 |head=>exact⟨.head _,fun _ h=>.tail _ h⟩
 |tail _ ih=>exact⟨.tail _ ih.1,fun y hy=>by cases hy with|head=>exact .head _|tail _ h=>exact .tail _ (ih.2 y h)⟩
noncomputable def Away(r:List (Addr×Obj)):List Addr→Prop
 | []=>True
 |a::A=>(∀ p∈r,p.1≠a)∧Away r A
theorem Away.out{r:List (Addr×Obj)}{A:List Addr}(x:Away r A)(p:Addr×Obj)(hp:p∈r):p.1∉A:=by
 induction A with
 |nil=>exact List.not_mem_nil
 |cons a A ih =>
  intro q
  rcases List.mem_cons.mp q with q|q
  ·exact x.1 p hp q
  ·exact ih x.2 q
structure Apart(a b:Nat):Prop where
 ne:a≠b
noncomputable def AllNe(d:Nat):List (Addr×Obj)→Prop
 | []=>True
 |p::r=>Apart p.1 d∧AllNe d r
theorem allNe_of{d:Nat}:∀ {l:List (Addr×Obj)},(∀ p∈l,p.1≠d)→AllNe d l
 | [],_=>trivial
 |p::_,h=>⟨⟨h p (.head _)⟩,allNe_of fun q hq=>h q (.tail _ hq)⟩
section
variable {prog:Program} {w:World} {A A₀:Around} {s:Shared} {K:Frag} {L:Addr} {h₀ base:Heap} {m mg mb:Str→Option Value} {news:List (Addr×Obj)} {p:Program} {loose:List Str} {mean:ExcName→Option Value}
theorem bNg{env:Env}{outer:List Env}{R:Result→Shared→Prop}{name qual:Str}{params:Arguments}{body:List Stmt}{scope:Scope}{dV kV doc pm cdv ct oc:Value}{an od:Option Addr}{osl:Array (Option Value)}{f:Addr}{args:Args}{binds:List (Str×Value)}
  (B:Below A₀ base outer h₀) (F:Fr h₀ L s.heap m) (X₀:K.In h₀) (N:News h₀ L s.heap news) (T:Top p loose mean mg mb h₀) (hA:A.frames=some (env::outer)) (hf:env.frame=some L) (hke:env.scope.kind=.function)
  (ho:K.lookup f=some ⟨oc,od,.func (fnOf name qual params body scope dV kV doc pm an cdv ct),osl⟩) (hcd:codeIn K cdv qual=true) (hroom:A.depth<recursionLimit)
  (hbind:BindsTo s (fnOf name qual params body scope dV kV doc pm an cdv ct) args binds) (hloc:∀ y∈binds,scope.names.lookup y.1=some .local)
  (h:∀ g L' h₁,Kept s.heap g (news.map (·.1))→s.heap.objs.size=L'→Fr g L' h₁ (fun y=>binds.reverse.lookup y)→News g L' h₁ news→(∀ p∈news,p.1<L')→Below A base (env::outer) g→K.In g→Top p loose mean mg mb g →
   wpAny (model prog w) (A.deeper (envOf qual scope L' f cdv)) (execs body (envOf qual scope L' f cdv))
    (fun fl s'=>LeaveK h₀ L m g (fun r s''=>Kept g s''.heap []→R r s'') (match fl with | .ret v=>v|_=>.none) s')
    (fun e s'=>wpAny (model prog w) (A.deeper (envOf qual scope L' f cdv)) (leaving (envOf qual scope L' f cdv) e) (fun _ s''=>R (.error e) s'') (fun e' s''=>R (.error e') s'') s')
    { s with heap:=h₁,toks:=s.toks+binds.length })
  (hco:scope.isCoroutine=false) (hgen:scope.isGenerator=false) (hk:scope.kind=.function)
  (hcell:∀ x∈scope.names,x.2≠.cell):codeAny (model prog w) A (.call (.ref f) args) R s:=by
 refine bH5 (groundX (R:=fun r s''=>Kept (hideAll s.heap (news.map (·.1))) s''.heap []→R r s'') B F N hA hf hke) fun FG BG st lv=>?_
 refine codeAny_call_def (fd:=fnOf name qual params body scope dV kV doc pm an cdv ct) (body:=body) (binds:=binds) hroom ((X₀.keeps F.keep) _ _ ho) rfl (T.nolimit.keeps F.keep) (codeRec_of (X₀.keeps F.keep) hcd) rfl hbind hcell hloc (fun h₁ hns hk₁=>?_) hco hgen hk
 refine wpAny_mono (h _ s.heap.objs.size h₁ (aDl _ _) rfl ⟨hns,fun b o e=>hk₁ b o (of_hideAll _ e),Nat.le_of_eq (hideAll_size _ _)⟩
  (fun p hp=>⟨hk₁ _ _ (N p hp).1,Nat.ne_of_lt (Heap.lt_size (N p hp).1),hideAll_none _ (List.mem_map_of_mem hp)⟩) (fun p hp=>Heap.lt_size (N p hp).1) BG (X₀.keeps st) (T.keeps st)) (fun fl s' hl=>?_) fun _ _ y=>y
 have hl':=hl
 refine aSk hl' fun L' m' news' F' N' k=>?_
 exact lv _ _ hl ⟨Nat.le_trans F'.above (Nat.le_of_lt F'.ns.lt),fun b o e _=>F'.keep b o e⟩
end
theorem bY1{x y:Int}(h0:0<y)(h:y≤4294967296):Builtin.divisionGoesByPylong x y=false:=by
 refine PyProof.noPylong_of_log2 ?_
 have:y.natAbs.log2<33:=(Nat.log2_lt (by lia)).mpr (by lia)
 lia
section
variable {prog:Program} {w:World} {A:Around} {E:Value→Shared→Prop} {s:Shared} {h₀:Heap} {L:Addr} {news:List (Addr×Obj)} {Q:Value→Shared→Prop}
theorem aNd{a n r:Int}{t u:Tok}(hn:0≤n)(hn2:n≤1000000)(ha:a.natAbs<2 ^ 64)(hr:a ^ n.toNat=r)(h:Q (.int r s.toks) { s with toks:=s.toks+1 }) :
  wpAny (model prog w) A (binaryOp .Pow (.int a t) (.int n u)) Q E s:=pow_int_small hn hn2 ha (hr▸h)
theorem aRb{a b:Int}{t u:Tok}(hb:0<b)(h:Q (.int (a%b) s.toks) { s with toks:=s.toks+1 }):wpAny (model prog w) A (binaryOp .Mod (.int a t) (.int b u)) Q E s :=
 mod_int (Int.ne_of_gt hb) (by rw[Int.fmod_eq_emod_of_nonneg _ (Int.le_of_lt hb)];exact h)
theorem aYx{a b:Int}{t u:Tok}(hb:0<b)(hb2:b≤4294967296)(h:Q (.int (a/b) s.toks) { s with toks:=s.toks+1 }):wpAny (model prog w) A (binaryOp .FloorDiv (.int a t) (.int b u)) Q E s :=
 floordiv_int (Int.ne_of_gt hb) (by rw[Int.fdiv_eq_ediv_of_nonneg _ (Int.le_of_lt hb)];exact h) (Or.inl (bY1 hb hb2))
end
section
variable {prog:Program} {w:World} {s:Shared} {K:Frag}
theorem aOg{A:Around}{R:Result→Shared→Prop}{name qual:Str}{params:Arguments}{body:List Stmt}{scope:Scope}{dV kV doc pm cdv ct oc:Value}{an od:Option Addr}{osl:Array (Option Value)}{f:Addr}{args:Args}{binds:List (Str×Value)}
  (X:K.In s.heap) (hlim:s.heap.NoLimit) (ho:K.lookup f=some ⟨oc,od,.func (fnOf name qual params body scope dV kV doc pm an cdv ct),osl⟩) (hcd:codeIn K cdv qual=true) (hroom:A.depth<recursionLimit)
  (hbind:BindsTo s (fnOf name qual params body scope dV kV doc pm an cdv ct) args binds) (hkind:(binds.all fun y=>scope.names.lookup y.1==some .local||scope.names.lookup y.1==some .cell)=true)
  (hnd:((cellsFrom 0 scope.names []).map (·.1)).Nodup)
  (h:∀ L h₁ tk cells,s.heap.objs.size=L→Fr s.heap L h₁ (bindL (envOfC qual scope L f cdv).kindOf binds fun _=>none)→News s.heap L h₁ cells →
   CellsAre (bindC (envOfC qual scope L f cdv).kindOf binds fun _=>none) (cellsFrom (L+1) scope.names []) cells →
   wpAny (model prog w) (A.deeper (envOfC qual scope L f cdv)) (execs body (envOfC qual scope L f cdv))
    (fun fl s'=>R (.ok (.ret (match fl with | .ret v=>v|_=>.none))) s')
    (fun e s'=>wpAny (model prog w) (A.deeper (envOfC qual scope L f cdv)) (leaving (envOfC qual scope L f cdv) e) (fun _ s''=>R (.error e) s'') (fun e' s''=>R (.error e') s'') s')
    { s with heap:=h₁,toks:=tk })
  (hco:scope.isCoroutine=false) (hgen:scope.isGenerator=false) (hk:scope.kind=.function):codeAny (model prog w) A (.call (.ref f) args) R s:=by
 refine codeAny_call_function hroom (X _ _ ho) rfl hco hgen rfl (codeRec_of X hcd) (hbind _ _ _ _ ?_)
 refine wpAny_newFunctionEnv_cells hk (kindsX hkind _) fun env' he s' x=>?_
 subst he
 refine⟨hlim.keeps x.toInCall.keep,codeAny_func ?_⟩
 refine aGs x.done fun h₁ tk r4_2 _=>?_
 subst r4_2
 have hk₁:=x.toInCall.keep
 refine aAd (Cl.news (h₀:=s.heap) (Nat.le_refl _) fun n c hm=>⟨x.cell n c (lookup_of_mem_nodup (cellsFrom_names scope.names 0 (s.heap.objs.size+1) [] [] rfl▸hnd) hm),x.above n c hm⟩) fun cells NC Y=>?_
 exact h _ h₁ tk cells rfl ⟨x.toInCall.ns,hk₁,Nat.le_refl _⟩ NC Y
end
section
noncomputable abbrev exO(C d:Addr)(vs:Array Value):Obj:={ cls:=.ref C,dict:=some d,data:=.fields vs }
structure Fl(base:Heap)(l:List Env)(e C d:Addr)(a0 fl:Value)(h:Heap):Prop where
 stays:base.StaysIn h
 new:base.get? e=none
 frames:h.FunFrames base l
 obj:∃ vs T oT ts,h.get? e=some (exO C d vs)∧vs.size=6∧vs[2]?=some a0∧vs[1]?=some (.ref T)∧base.get? T=none∧T≠e∧h.get? T=some oT∧oT.data=.fields ts∧ts[3]?=some fl
variable {M:Model} {A:Around} {E:Value→Shared→Prop} {s:Shared} {base:Heap} {env:Env} {outer l:List Env} {L e C d:Addr} {vs:Array Value} {a0 fl:Value} {Q:Unit→Shared→Prop}
theorem aN8{b:Addr}{o:Obj}{ws:Array Value}(hl:s.heap.FunFrames base l)(hb:s.heap.get? b=some o)(hd:o.data=.fields ws):b∉l.filterMap (·.frame):=fun hm=>by
 refine aBa (hl.mem hm) fun _ z0_1=>?_
 obtain⟨o',ho,hn⟩:=z0_1
 rw[hb] at ho
 cases ho
 exact hn ws hd
theorem aUm{head:Value}{hadNext:Bool}(hfr:A.frames=some (env::outer))(hl:s.heap.FunFrames base (env::outer))(hf:env.frame=some L)(he:s.heap.get? e=some (exO C d vs))(hk:base.StaysIn s.heap)(hen:base.get? e=none)
  (hsz:vs.size=6) (h0:vs[2]?=some a0) (h:∀ h',Fl base (env::outer) e C d a0 (rawInt L) h'→s.heap.UpToSlots h'→Q () { s with heap:=h' }) :
  wpAny M A (do let a ← frameOf env;let pl ← entryPlaceOf L hadNext;let b ← EntryCells.newEntry head a .none (rawInt L) .none pl;setField (.ref e) 1 b) Q E s:=by
 have ne:=aN8 hl he rfl
 refine wpAny_bind (wpAny_frameOf_fun hfr hl hf fun h₁ k₁=>?_)
 refine wpAny_bind (wpAny_entryPlaceOf fun pl hpl=>?_)
 unfold EntryCells.newEntry newFields
 refine wpAny_bind (wpAny_newObj_type ?_ (hpl.sizeOk5 _ _ _ _ _))
 have he₁:h₁.get? e=some (exO C d vs):=(k₁.2.1 e ne).trans he
 have hTe:h₁.objs.size≠e:=Nat.ne_of_gt (Heap.lt_size he₁)
 have up₁:s.heap.UpToSlots h₁:=fun b o hb _=>k₁.2.2 b o hb
 have st₁:base.StaysIn h₁:=fun b o hb=>(k₁.2.1 b fun hm=>by rw[(hl.mem hm).1] at hb;cases hb).trans (hk b o hb)
 generalize ho:([head,Value.ref L,.none,rawInt L,.none]++(if pl.isEmpty then List.replicate 6 Value.none else pl)).toArray=ts
 have h3:ts[3]?=some (rawInt L):=by rw[← ho];simp
 have he₂:=Heap.get?_push_of_some (h:=h₁) { cls:=.type "traceback",dict:=none,data:=.fields ts } he₁
 refine wpAny_setField he₂ rfl (by lia) (h _ ?_ ?_)
 ·have up₂:∀ b o,b≠e→h₁.get? b=some o→((h₁.push { cls:=.type "traceback",dict:=none,data:=.fields ts }).update e (Obj.mapFields (·.setIfInBounds 1 (Value.ref h₁.objs.size)))).get? b=some o:=fun b o hbe hb=>by
   rw[Heap.get?_update_other _ _ (Ne.symm hbe)];exact Heap.get?_push_of_some _ hb
  refine⟨fun b o hb=>up₂ b o (fun q=>by rw[q,hen] at hb;cases hb) (st₁ b o hb),hen,hl.of_keeps fun b o hb hn=>?_,vs.setIfInBounds 1 (.ref h₁.objs.size),h₁.objs.size,{ cls:=.type "traceback",dict:=none,data:=.fields ts },ts,?_,by simp[hsz],by simp[h0],by simp[hsz],?_,hTe,?_,rfl,h3⟩
  ·obtain⟨sl,hs⟩:=k₁.2.2 b o hb
   exact⟨_,up₂ b _ (fun q=>by rw[q,he] at hb;cases hb;exact hn _ rfl) hs,rfl⟩
  ·exact Heap.get?_update_self _ he₂ rfl
  ·cases q:base.get? h₁.objs.size with
   |none=>rfl
   |some o=>exact absurd (Heap.lt_size (st₁ _ _ q)) (Nat.lt_irrefl _)
  ·rw[Heap.get?_update_other _ _ (Ne.symm hTe)];exact Heap.get?_push_size h₁ rfl
 ·refine up₁.trans fun b o hb hn=>⟨o.slots,?_⟩
  rw[Heap.get?_update_other _ _ (fun q:e=b=>by rw[← q,he₁] at hb;cases hb;exact hn _ rfl)]
  exact Heap.get?_push_of_some _ hb
theorem aFm(hfr:A.frames=some (env::outer))(hl:s.heap.FunFrames base (env::outer))(hf:env.frame=some L)(he:s.heap.get? e=some (exO C d vs))(hk:base.StaysIn s.heap)(hen:base.get? e=none)
  (hsz:vs.size=6) (h0:vs[2]?=some a0) (h1:vs[1]?=some .none) (h:∀ h',Fl base (env::outer) e C d a0 (rawInt L) h'→s.heap.UpToSlots h'→Q () { s with heap:=h' }):wpAny M A (noteFrame (.ref e) env) Q E s:=by
 unfold noteFrame
 simp only[hf]
 refine wpAny_bind (wpAny_field he rfl h1 ?_)
 rw[if_neg (by decide)]
 exact aUm hfr hl hf he hk hen hsz h0 h
theorem aEh(hfr:A.frames=some (env::outer))(hf:env.frame=some L)(x:Fl base (env::outer) e C d a0 .none s.heap)
  (h:∀ h',Fl base (env::outer) e C d a0 (rawInt L) h'→s.heap.UpToSlots h'→Q () { s with heap:=h' }):wpAny M A (noteFrame (.ref e) env) Q E s:=by
 obtain⟨st,hen,hl,vs,T,oT,ts,he,hsz,h0,h1,hnT,hTe,hT,hdT,h3⟩:=x
 unfold noteFrame
 simp only[hf]
 refine wpAny_bind (wpAny_field he rfl h1 ?_)
 rw[if_pos (by simp)]
 refine wpAny_bind (wpAny_field hT hdT h3 ?_)
 rw[if_neg (by simp[rawInt])]
 refine wpAny_bind (wpAny_setField hT hdT (Array.getElem?_eq_some_iff.mp h3).1 ?_)
 have ot:∀ b,b≠T→(s.heap.update T (Obj.mapFields (·.setIfInBounds 3 Value.none))).get? b=s.heap.get? b:=fun b hb=>Heap.get?_update_other _ _ (Ne.symm hb)
 have nT:∀ b o,s.heap.get? b=some o→(∀ ws,o.data≠.fields ws)→b≠T:=fun b o hb hn q=>by rw[q,hT] at hb;cases hb;exact hn _ hdT
 refine aUm hfr (hl.of_keeps fun b o hb hn=>⟨o,(ot b (nT b o hb hn)).trans hb,rfl⟩) hf ((ot e (Ne.symm hTe)).trans he)
  (fun b o hb=>(ot b fun q=>by rw[q,hnT] at hb;cases hb).trans (st b o hb)) hen hsz h0 fun h' y u=>h h' y ?_
 exact fun b o hb hn=>u b o ((ot b (nT b o hb hn)).trans hb) hn
theorem aLk(hf:env.frame=some L)(x:Fl base l e C d a0 (rawInt L) s.heap)(h:Q () s):wpAny M A (noteFrame (.ref e) env) Q E s:=by
 obtain⟨st,hen,hl,vs,T,oT,ts,he,hsz,h0,h1,hnT,hTe,hT,hdT,h3⟩:=x
 unfold noteFrame
 simp only[hf]
 refine wpAny_bind (wpAny_field he rfl h1 ?_)
 rw[if_pos (by simp)]
 refine wpAny_bind (wpAny_field hT hdT h3 ?_)
 rw[if_pos (by simp)]
 exact wpAny_pure h
theorem flight{fr:Option Addr}(x:Fl base l e C d a0 fl s.heap)(h:∀ h',Fl base l e C d a0 (fr.elim .none fun f=>rawInt f) h'→s.heap.UpToSlots h'→Q () { s with heap:=h' }):wpAny M A (setFlight (.ref e) fr) Q E s:=by
 obtain⟨st,hen,hl,vs,T,oT,ts,he,hsz,h0,h1,hnT,hTe,hT,hdT,h3⟩:=x
 unfold setFlight
 refine wpAny_bind (wpAny_field he rfl h1 ?_)
 rw[if_pos (by simp)]
 have ot:∀ b,b≠T→(s.heap.update T (Obj.mapFields (·.setIfInBounds 3 (fr.elim Value.none fun f=>rawInt f)))).get? b=s.heap.get? b:=fun b hb=>Heap.get?_update_other _ _ (Ne.symm hb)
 have nT:∀ b o,s.heap.get? b=some o→(∀ ws,o.data≠.fields ws)→b≠T:=fun b o hb hn q=>by rw[q,hT] at hb;cases hb;exact hn _ hdT
 have hd':=Obj.data_mapFields hdT (·.setIfInBounds 3 (fr.elim Value.none fun f=>rawInt f))
 refine wpAny_setField hT hdT (Array.getElem?_eq_some_iff.mp h3).1 (h _ ?_ ?_)
 ·refine⟨fun b o hb=>(ot b fun q=>by rw[q,hnT] at hb;cases hb).trans (st b o hb),hen,hl.of_keeps fun b o hb hn=>⟨o,(ot b (nT b o hb hn)).trans hb,rfl⟩,vs,T,_,_,(ot e (Ne.symm hTe)).trans he,hsz,h0,h1,hnT,hTe,
   Heap.get?_update_self _ hT (Obj.isFreed_of_fields hd'),hd',?_⟩
  simp[(Array.getElem?_eq_some_iff.mp h3).1]
 ·exact fun b o hb hn=>⟨o.slots,(ot b (nT b o hb hn)).trans hb⟩
end
section
structure Flown(G:Heap)(l:List Env)(A:List Addr)(outs:List (Addr×Obj))(e C d:Addr)(od:Obj)(a0:Value)(h':Heap):Prop where
 ex:∃ B,(∀ b o,G.get? b=some o→b∉l.filterMap (·.frame)→b∉A→B.get? b=some o)∧(∀ q∈outs,B.get? q.1=some q.2)∧B.get? d=some od∧Fl B l e C d a0 .none h'
 outs_:∀ q∈outs,q.1∈A∨G.get? q.1=none
 dnew:G.get? d=none
 enew:G.get? e=none
 up:∀ b∈l.filterMap (·.frame),∀ o,G.get? b=some o→∃ sl,h'.get? b=some { o with slots:=sl }
theorem aBq{h g:Heap}{A:List Addr}(k:Kept h g A){b:Addr}(e:g.get? b=none):b∈A∨h.get? b=none:=by
 by_cases hA:b∈A
 ·exact .inl hA
 ·cases q:h.get? b with
  |none=>exact .inr rfl
  |some o=>rw[k.keep _ _ q hA] at e;cases e
theorem aB1{g h:Heap}(k:∀ b o,g.get? b=some o→h.get? b=some o){b:Addr}(e:h.get? b=none):g.get? b=none:=kts_none k e
variable {M:Model} {A:Around} {E:Value→Shared→Prop} {s':Shared} {base g G h₀:Heap} {l:List Env} {L a e C d:Addr} {m:Str→Option Value} {name:Str} {scope:Scope} {cd:Value} {Q:Unit→Shared→Prop} {outs rest ins:List (Addr×Obj)} {vs:Array Value} {od:Obj} {a0:Value} {I:List Addr}
theorem aLp(kg:Kept h₀ g I)(hI:∀ b∈I,g.get? b=none)(K:Below A base l g)(F:Fr g L G m)(N:News g L G (ins++rest))(aw:Away rest (ins.map (·.1)))(x:Flown G (envOf name scope L a cd::l) (ins.map (·.1)) outs e C d od a0 s'.heap)
  (hd:d∉I) (hE:e∉I) (hQ:∀ h',Flown h₀ l I (outs++rest) e C d od a0 h'→Q () { s' with heap:=h' }) :
  wpAny M (A.deeper (envOf name scope L a cd)) (leaving (envOf name scope L a cd) (.ref e)) Q E s':=by
 obtain⟨⟨B,b1,b2,b3,x⟩,o1,dn,en,up⟩:=x
 have nL:g.get? L=none:=kts_self F
 have fr:∀ b∈l.filterMap (·.frame),∃ o,g.get? b=some o∧∀ ws,o.data≠.fields ws:=fun b hb=>(K.frames.mem hb).2
 have hfs:∀ b∈l.filterMap (·.frame),b∈(envOf name scope L a cd::l).filterMap (·.frame):=fun b hb=>List.mem_cons_of_mem _ hb
 refine wpAny_bind (aEh (Around.frames_deeper K.stack) rfl x fun h₁ x₁ u₁=>?_)
 refine flight x₁ fun h₂ x₂ u₂=>hQ h₂ ⟨⟨B,fun b o hb n1 n2=>?_,fun q hq=>?_,b3,x₂.stays,x₂.new,x₂.frames.2.2,x₂.obj⟩,fun q hq=>?_,(aBq kg (aB1 F.keep dn)).resolve_left hd,(aBq kg (aB1 F.keep en)).resolve_left hE,fun b hb o ho=>?_⟩
 ·have hg:=kg.keep b o hb n2
  refine b1 b o (F.keep b o hg) (fun hm=>?_) fun hm=>?_
  ·rcases kts_mem hm with z|z
   ·rw[z,nL] at hg;cases hg
   ·exact n1 z
  ·refine aAd (List.mem_map.mp hm) fun p hp z=>?_
   have:=(N p (List.mem_append_left _ hp)).2.2
   rw[z,hg] at this;cases this
 ·rcases List.mem_append.mp hq with hq|hq
  ·exact b2 q hq
  ·have n:=N q (List.mem_append_right _ hq)
   refine b1 _ _ n.1 (fun hm=>?_) (aw.out q hq)
   rcases kts_mem hm with z|z
   ·exact n.2.1 z
   ·refine aAd (fr _ z) fun o ho _=>?_
    rw[n.2.2] at ho;cases ho
 ·rcases List.mem_append.mp hq with hq|hq
  ·rcases o1 q hq with z|z
   ·refine aAd (List.mem_map.mp z) fun p hp z=>?_
    exact aBq kg (z▸(N p (List.mem_append_left _ hp)).2.2)
   ·exact aBq kg (aB1 F.keep z)
  ·exact aBq kg (N q (List.mem_append_right _ hq)).2.2
 ·refine aAd (fr b hb) fun o' ho' hn=>?_
  have hg:=kg.keep b o ho fun hi=>by rw[hI b hi] at ho';cases ho'
  rw[hg] at ho';cases ho'
  refine aA6 (up b (hfs b hb) o (F.keep b o hg)) fun sl hs=>?_
  refine aA6 ((u₁.trans u₂) b _ hs hn) fun sl' hs'=>?_
  exact⟨sl',hs'⟩
end
section
variable {A₀:Around} {base g G B h₅:Heap} {outer:List Env} {L a:Addr} {m:Str→Option Value} {name:Str} {scope:Scope} {cd:Value}
theorem aRr(K:Below A₀ base outer g)(F:Fr g L G m)(hB:∀ b o,g.get? b=some o→b∉outer.filterMap (·.frame)→B.get? b=some o)(hBh:B.StaysIn h₅)
  (up:∀ b∈(envOf name scope L a cd::outer).filterMap (·.frame),∀ o,G.get? b=some o→∃ sl,h₅.get? b=some { o with slots:=sl }) :
  ∃ g',KtsTurn (outer.filterMap (·.frame)) g g'∧Fr g' L h₅ m∧Below A₀ base outer g':=by
 obtain⟨T,S⟩:=kts_turn_at (h:=h₅) (fs:=outer.filterMap (·.frame)) (g:=g)
  (fun b hb=>let ⟨_,o,ho,_⟩:=K.frames.mem hb;⟨o,ho⟩)
  (fun b o e nm=>hBh b o (hB b o e nm))
  (fun b o e hm=>up b (List.mem_cons_of_mem _ hm) o (F.keep b o e))
 refine⟨_,T,⟨?_,S,by rw[T.size];exact F.above⟩,⟨K.stack,fun b o e=>T.other b o (K.stays b o e) (fun hm=>by
  rw[(K.frames.mem hm).1] at e
  cases e),K.frames.of_keeps fun b o e _=>?_⟩⟩
 ·refine aSk F.ns fun o es ep ho hd r=>?_
  refine aA6 (up L (List.mem_filterMap.mpr ⟨_,.head _,rfl⟩) o ho) fun sl hs=>?_
  exact⟨_,es,ep,hs,hd,r⟩
 ·refine aA6 (T.up e) fun sl hs=>?_
  exact⟨_,hs,rfl⟩
end
theorem aBr{G:Heap}{d:Nat}{l:List (Addr×Obj)}(e:G.get? d=none)(h:∀ q∈l,G.get? q.1=some q.2):AllNe d l:=allNe_of fun q hq z=>by
 have:=h q hq;rw[z,e] at this;cases this
section
variable {prog:Program} {w:World} {A₀:Around} {E:Value→Shared→Prop} {s':Shared} {base g g₀ G:Heap} {outer:List Env} {L a e C d:Addr} {m:Str→Option Value} {name:Str} {scope:Scope} {cd:Value}
 {n:Str} {b₀:Stmt} {suite:List Stmt} {pos np:Pos} {hrest:List ExceptHandler} {Q:Flow→Shared→Prop} {outs rest ins:List (Addr×Obj)} {od:Obj} {a0:Value} {KF:Frag}
 {p:Program} {loose:List Str} {mean:ExcName→Option Value} {mg mb:Str→Option Value} {x:Str}
theorem aUd{KF:Frag}{g₂ h:Heap}{gs:Array GenState}{dr:Drawn}{t:Nat}{os:OsState}{C e:Addr}{oe:Obj}{M:Model}{A:Around}{E:Value→Shared→Prop}{Q:Bool→Shared→Prop}(X:KF.In g₂)(q:ktsIn KF C "ValueError"=true)(keep:∀ b o,g₂.get? b=some o→h.get? b=some o)(he:h.get? e=some oe)(hcls:oe.cls=.ref C)
  (hq:Q true ⟨h,gs,dr,t,os⟩):wpAny M A (excMatches (.ref e) (.ref C)) Q E ⟨h,gs,dr,t,os⟩:=by
 obtain⟨nm,q',N',bs,bm,hdct,sn,sub,ab,col,dd,k0,k1,k2,k3,k5,newId,hC,hbase,_⟩:=kts_cls X q
 exact wpAny_excMatches_sub_self (keep _ _ hC) he hcls hbase hq
theorem Fl.at_{base h:Heap}{l:List Env}{e C d:Addr}{a0 fl:Value}(x:Fl base l e C d a0 fl h):∃ vs,h.get? e=some (exO C d vs)∧vs.size=6∧vs[2]?=some a0 :=
 x.obj.imp fun _ h=>bAp h fun _ _ _ a h=>⟨a,h.1,h.2.1⟩
structure Caught(A₀:Around)(base g G:Heap)(outer:List Env)(L e C d:Addr)(m:Str→Option Value)(outs rest:List (Addr×Obj))(od:Obj)(h₃ g₃:Heap):Prop where
 T:KtsTurn (outer.filterMap (·.frame)) g g₃
 F:Fr g₃ L h₃ m
 K:Below A₀ base outer g₃
 news:∀ vs,h₃.get? e=some (exO C d vs)→News g₃ L h₃ ((e,exO C d vs)::(d,od)::(outs++rest))
 de:d≠e
theorem aH8{h':Heap}(R:Flown G (envOf name scope L a cd::outer) (ins.map (·.1)) outs e C d od a0 h')(F:Fr g L G m)(K:Below A₀ base outer g)(N:News g L G (ins++rest))(aw:Away rest (ins.map (·.1)))
  (D:KtsDicts (outer.filterMap (·.frame)) g):∃ B,Fl B (envOf name scope L a cd::outer) e C d a0 .none h'∧∀ {fl:Value} {h₃:Heap},Fl B (envOf name scope L a cd::outer) e C d a0 fl h₃→h'.UpToSlots h₃→∃ g₃,Caught A₀ base g G outer L e C d m outs rest od h₃ g₃:=by
 obtain⟨⟨B,b1,b2,b3,fl⟩,o1,dn,en,up⟩:=R
 have nA:∀ b o,g.get? b=some o→b∉ins.map (·.1):=fun b o hb hm=>by
  refine aAd (List.mem_map.mp hm) fun p hp z=>?_
  have:=(N p (List.mem_append_left _ hp)).2.2
  rw[z,hb] at this;cases this
 have nL:g.get? L=none:=kts_self F
 have gB:∀ b o,g.get? b=some o→b∉outer.filterMap (·.frame)→B.get? b=some o:=fun b o hb hm=>b1 b o (F.keep b o hb) (fun hm'=>by
  rcases kts_mem hm' with z|z
  ·rw[z,nL] at hb;cases hb
  ·exact hm z) (nA b o hb)
 have dict:∀ b∈(envOf name scope L a cd::outer).filterMap (·.frame),∀ o,G.get? b=some o→∀ ws,o.data≠.fields ws:=fun b hb o ho ws hw=>by
  rcases kts_mem hb with z|z
  ·refine aSk F.ns fun oL es ep hL hd' _=>?_
   rw[z,hL] at ho;cases ho;rw[hd'] at hw;cases hw
  ·refine bAp (D b z) fun o' es n' ho' hd'=>?_
   have:=F.keep _ _ ho';rw[ho] at this;cases this;rw[hd'] at hw;cases hw
 have upto:∀ {h₁:Heap},h'.UpToSlots h₁→∀ b∈(envOf name scope L a cd::outer).filterMap (·.frame),∀ o,G.get? b=some o→∃ sl,h₁.get? b=some { o with slots:=sl }:=fun u b hb o ho=>by
  refine aA6 (up b hb o ho) fun sl hs=>?_
  exact u b { o with slots:=sl } hs (dict b hb o ho)
 have fr:∀ b∈outer.filterMap (·.frame),∃ o,g.get? b=some o:=fun b hb=>let ⟨_,o,ho,_⟩:=K.frames.mem hb;⟨o,ho⟩
 refine⟨B,fl,fun {fl h₃} x u=>?_⟩
 refine aDm (aRr (name:=name) (scope:=scope) (a:=a) (cd:=cd) K F gB x.stays (upto u)) fun g₃ T₃ F₃ K₃=>?_
 have hL:B.get? L=none:=by
  refine aJi x.frames fun _ z10_1 _=>?_
  refine aYv z10_1 fun L' _ hf hn' _=>?_
  obtain rfl:L=L':=Option.some.inj hf
  exact hn'
 have gnone:∀ b,G.get? b=none→g₃.get? b=none:=fun b hb=>T₃.none_ _ (aB1 F.keep hb)
 refine⟨g₃,T₃,F₃,K₃,fun vs he q hq=>?_,fun z=>?_⟩
 ·rcases List.mem_cons.mp hq with rfl|hq
  ·refine⟨he,fun z=>?_,gnone _ en⟩
   have he':=he
   rw[show e=L from z] at he'
   refine aSk F₃.ns fun oL es ep hL' hd' _=>?_
   rw[he'] at hL'
   cases hL'
   cases hd'
  ·rcases List.mem_cons.mp hq with rfl|hq
   ·refine⟨x.stays _ _ b3,fun z=>?_,gnone _ dn⟩
    have:=b3
    rw[show d=L from z,hL] at this
    cases this
   ·rcases List.mem_append.mp hq with hq|hq
    ·refine⟨x.stays _ _ (b2 q hq),fun z=>?_,?_⟩
     ·have:=b2 q hq
      rw[z,hL] at this
      cases this
     rcases o1 q hq with z|z
     ·refine aAd (List.mem_map.mp z) fun p hp z=>?_
      exact T₃.none_ _ (z▸(N p (List.mem_append_left _ hp)).2.2)
     ·exact gnone _ z
    ·have nq:=N q (List.mem_append_right _ hq)
     refine⟨x.stays _ _ (b1 _ _ nq.1 (fun hm=>?_) (aw.out q hq)),nq.2.1,T₃.none_ _ nq.2.2⟩
     rcases kts_mem hm with z|z
     ·exact nq.2.1 z
     ·refine aA6 (fr _ z) fun o ho=>?_
      rw[nq.2.2] at ho;cases ho
 ·have:=b3;rw[show d=e from z,x.new] at this;cases this
theorem aY5(R:Flown G (envOf name scope L a cd::outer) (ins.map (·.1)) outs e C d od a0 s'.heap)(F:Fr g L G m)(K:Below A₀ base outer g)(N:News g L G (ins++rest))(aw:Away rest (ins.map (·.1)))(XB:KF.In base)(TB:Top p loose mean mg mb base)
  (D:KtsDicts (outer.filterMap (·.frame)) g) (T0:KtsTurn (outer.filterMap (·.frame)) g₀ g) (q:ktsIn KF C "ValueError"=true) (ex:nsIn KF mainGlobals x=some (some (.ref C)))
  (k:∀ h' g' vs,vs.size=6→vs[2]?=some a0→KtsTurn (outer.filterMap (·.frame)) g₀ g'→Fr g' L h' m→News g' L h' ((e,exO C d vs)::(d,od)::(outs++rest))→Below A₀ base outer g'→KF.In g'→Top p loose mean mg mb g'→KtsDicts (outer.filterMap (·.frame)) g' →
   AllNe e ((d,od)::(ins++rest))→AllNe d (ins++rest)→(∀ q∈outs,q.1∈ins.map (·.1)∨AllNe q.1 (ins++rest)) →
   wpAny (model prog w) ((A₀.deeper (envOf name scope L a cd)).mark (some (.ref e))) (execs (b₀::suite) (envOf name scope L a cd)) Q
    (notedBy (model prog w) ((A₀.deeper (envOf name scope L a cd)).mark (some (.ref e))) (envOf name scope L a cd) (cameBackBy (model prog w) (A₀.deeper (envOf name scope L a cd)) (envOf name scope L a cd) E)) { s' with heap:=h' })
  (hk:scope.kind=.function:=by rfl) (hx:(envOf name scope L a cd).kindOf x=some .globalImplicit:=by rfl) (hd:(x==("__debug__":Str))=false:=by decide) :
  wpAny (model prog w) (A₀.deeper (envOf name scope L a cd)) (noteFrame (.ref e) (envOf name scope L a cd))
   (fun _ s₂=>wpAny (model prog w) (A₀.deeper (envOf name scope L a cd)) (setFlight (.ref e) none) (fun _ s₃ =>
    wpAny (model prog w) (A₀.deeper (envOf name scope L a cd)) (handleBy (.ref e) (envOf name scope L a cd) (.ExceptHandler (some (.Name x np)) none (b₀::suite) pos::hrest)) Q E s₃) E s₂) E s':=by
 refine aAd (aH8 R F K N aw D) fun B fl up=>?_
 have alive:∀ q∈ins++rest,G.get? q.1=some q.2:=fun q hq=>(N q hq).1
 refine aEh (Around.frames_deeper K.stack) rfl fl fun h₁ x₁ u₁=>?_
 refine flight x₁ fun h₂ x₂ u₂=>?_
 refine aA6 (up x₂ (u₁.trans u₂)) fun g₂ c₂=>?_
 have X₂:KF.In g₂:=XB.keeps c₂.K.stays
 have P₂:Top p loose mean mg mb g₂:=TB.keeps c₂.K.stays
 refine aAd x₂.at_ fun vs he _=>?_
 refine wpAny_handleBy_cons (codeAny_handlers_test (name_K c₂.F X₂ (topRead_of P₂) ex ?_ hk hx hd)) (by intro z;cases z)
 refine aUd X₂ q c₂.F.keep he rfl ?_
 refine codeAny_handlers_suite ?_
 refine flight x₂ fun h₃ x₃ u₃=>?_
 refine aA6 (up x₃ ((u₁.trans u₂).trans u₃)) fun g₃ c₃=>?_
 refine aDm x₃.at_ fun vs₃ he₃ z6 z2=>?_
 exact k h₃ g₃ vs₃ z6 z2 (T0.trans c₃.T) c₃.F (c₃.news _ he₃) c₃.K (XB.keeps c₃.K.stays) (TB.keeps c₃.K.stays) (D.turn c₃.T) ⟨⟨fun z=>c₃.de z⟩,aBr R.enew alive⟩ (aBr R.dnew alive) fun q hq=>(R.outs_ q hq).imp id fun e=>aBr e alive
theorem aSr(R:Flown G (envOf name scope L a cd::outer) (ins.map (·.1)) outs e C d od a0 s'.heap)(F:Fr g L G m)(K:Below A₀ base outer g)(N:News g L G (ins++rest))(aw:Away rest (ins.map (·.1)))(XB:KF.In base)(TB:Top p loose mean mg mb base)
  (D:KtsDicts (outer.filterMap (·.frame)) g) (T0:KtsTurn (outer.filterMap (·.frame)) g₀ g) (q:ktsIn KF C "ValueError"=true) (ex:nsIn KF mainGlobals x=some (some (.ref C)))
  (k:∀ h' g' vs,vs.size=6→vs[2]?=some a0→KtsTurn (outer.filterMap (·.frame)) g₀ g'→Fr g' L h' (fun y=>if y=n then some (.ref e) else m y)→News g' L h' ((e,exO C d vs)::(d,od)::(outs++rest))→Below A₀ base outer g'→KF.In g'→Top p loose mean mg mb g'→KtsDicts (outer.filterMap (·.frame)) g' →
   AllNe e ((d,od)::(ins++rest))→AllNe d (ins++rest)→(∀ q∈outs,q.1∈ins.map (·.1)∨AllNe q.1 (ins++rest)) →
   wpAny (model prog w) ((A₀.deeper (envOf name scope L a cd)).mark (some (.ref e))) (execs (b₀::suite) (envOf name scope L a cd))
    (fun f s₄=>wpAny (model prog w) (A₀.deeper (envOf name scope L a cd)) (do bindName (envOf name scope L a cd) n .none;unbindBehindTheSuite (envOf name scope L a cd) n pos) (fun _ s₅=>Q f s₅) E s₄)
    (fun _ _=>False) { s' with heap:=h',toks:=s'.toks+1 })
  (hk:scope.kind=.function:=by rfl) (hlo:(envOf name scope L a cd).kindOf n=some .local:=by rfl) (hx:(envOf name scope L a cd).kindOf x=some .globalImplicit:=by rfl) (hd:(x==("__debug__":Str))=false:=by decide) :
  wpAny (model prog w) (A₀.deeper (envOf name scope L a cd)) (noteFrame (.ref e) (envOf name scope L a cd))
   (fun _ s₂=>wpAny (model prog w) (A₀.deeper (envOf name scope L a cd)) (setFlight (.ref e) none) (fun _ s₃ =>
    wpAny (model prog w) (A₀.deeper (envOf name scope L a cd)) (handleBy (.ref e) (envOf name scope L a cd) (.ExceptHandler (some (.Name x np)) (some n) (b₀::suite) pos::hrest)) Q E s₃) E s₂) E s':=by
 refine aAd (aH8 R F K N aw D) fun B fl up=>?_
 have alive:∀ q∈ins++rest,G.get? q.1=some q.2:=fun q hq=>(N q hq).1
 refine aEh (Around.frames_deeper K.stack) rfl fl fun h₁ x₁ u₁=>?_
 refine flight x₁ fun h₂ x₂ u₂=>?_
 refine aA6 (up x₂ (u₁.trans u₂)) fun g₂ c₂=>?_
 have X₂:KF.In g₂:=XB.keeps c₂.K.stays
 have P₂:Top p loose mean mg mb g₂:=TB.keeps c₂.K.stays
 refine aAd x₂.at_ fun vs he _=>?_
 refine wpAny_handleBy_cons (codeAny_handlers_test (name_K c₂.F X₂ (topRead_of P₂) ex ?_ hk hx hd)) (by intro z;cases z)
 refine aUd X₂ q c₂.F.keep he rfl ?_
 refine codeAny_handlers_suite_as ?_
 refine flight x₂ fun h₃ x₃ u₃=>?_
 refine aA6 (up x₃ ((u₁.trans u₂).trans u₃)) fun g₃ c₃=>?_
 refine aDm x₃.at_ fun vs₃ he₃ z6 z2=>?_
 refine stN c₃.F (c₃.news _ he₃) (fun h₄ F₄ N₄=>wpAny_mono (k h₄ g₃ vs₃ z6 z2 (T0.trans c₃.T) F₄ N₄ c₃.K (XB.keeps c₃.K.stays) (TB.keeps c₃.K.stays) (D.turn c₃.T) ⟨⟨fun z=>c₃.de z⟩,aBr R.enew alive⟩ (aBr R.dnew alive) fun q hq=>(R.outs_ q hq).imp id fun e=>aBr e alive) (fun _ _ x=>x) fun _ _ x=>x.elim) hk hlo
end
section
set_option tactic.hygienic true
open PySem PySem.W PyProof.Rows PySem.Spec PySem.Calls PySem.Builtin PySem.Builtin.ObjectAttr
noncomputable def isT(v:Value)(s:String):Bool:=match v with
 | .type a=>a==s
 |_=>false
theorem aHu{v:Value}{s:String}(h:isT v s=true):v=.type s:=by
 cases v with
 |type a=>exact congrArg _ (beq_iff_eq.mp h)
 |_=>cases h
noncomputable def isR(v:Value):Bool:=match v with
 | .ref _=>true
 |_=>false
theorem bD7{v:Value}(h:isR v=true):∃ a,v=.ref a:=by
 cases v with
 |ref a=>exact⟨a,rfl⟩
 |_=>cases h
noncomputable def hd1{α:Type}(l:List α)(k:α→List α→Bool):Bool:=match l with
 | []=>false
 |a::r=>k a r
theorem aFd{α:Type}{l:List α}{k:α→List α→Bool}(h:hd1 l k=true):∃ a r,l=a::r∧k a r=true:=by
 cases l with
 |nil=>exact nomatch h
 |cons a r=>exact⟨a,r,rfl,h⟩
noncomputable def four(l:List Value):Bool:=hd1 l fun a l=>hd1 l fun b l=>hd1 l fun c l=>hd1 l fun d l=>l.isEmpty&&(isT a "ValueError"&&(isT b "Exception"&&(isT c "BaseException"&&isT d "object")))
noncomputable def aB0:List Value→Bool
 | []=>false
 |v::r=>bif isR v then aB0 r else four (v::r)
theorem aX1{l:List Value}(h:four l=true):l=[.type "ValueError",.type "Exception",.type "BaseException",.type "object"] :=
 aGs (aFd h) fun _ _ e0 h=>aGs (aFd h) fun _ _ e1 h=>aGs (aFd h) fun _ _ e2 h=>aGs (aFd h) fun _ _ e3 h=>aBa (Bool.and_eq_true_iff.mp h) fun h0 h=>aBa (Bool.and_eq_true_iff.mp h) fun h1 h=>aBa (Bool.and_eq_true_iff.mp h) fun h2 h=>aBa (Bool.and_eq_true_iff.mp h) fun h3 h4=>by
  rw[e0,e1,e2,e3,List.isEmpty_iff.mp h0,aHu h1,aHu h2,aHu h3,aHu h4]
theorem aDy{P:List Value→Prop}(b:P [.type "ValueError",.type "Exception",.type "BaseException",.type "object"])(s:∀ c r,P r→P (.ref c::r)):∀ {l:List Value},aB0 l=true→P l
 | [],h=>nomatch h
 |v::r,h=>by
  unfold aB0 at h
  cases e:isR v with
  |true =>
   rw[e] at h
   refine aA6 (bD7 e) fun c r3_1=>?_
   subst r3_1
   exact s c r (aDy b s h)
  |false =>
   rw[e] at h
   rw[aX1 h];exact b
theorem aMv(self:Value){l:List Value}(h:aB0 l=true):refuseLoop self "__setattr__" l=pure () :=
 aDy (P:=fun l=>refuseLoop self "__setattr__" l=pure ()) (PySem.F.store_ValueError.passes self) (fun c r ih=>by rw[refuseLoop_ref];exact ih) h
theorem aFq(X:Value)(hX:X=.type "object"∨X=.type "BaseException"∨X=.type "ValueError"){l:List Value}(h:aB0 l=true):l.contains X=true :=
 aDy (P:=fun l=>l.contains X=true) (by rcases hX with rfl|rfl|rfl<;>decide) (fun c r ih=>by rw[List.contains_cons,ih,Bool.or_true]) h
noncomputable def aDo(K:Frag)(C:Addr):Bool:=(clsIn K C).any fun cd=>aB0 cd.mro
section
variable {prog:Program} {w:World} {A:Around} {s:Shared} {K:Frag} {x C d L:Addr} {h₀:Heap} {m:Str→Option Value} {R:Result→Shared→Prop} {E:Value→Shared→Prop} {rest ledger:List (Addr×Obj)}
theorem aT6{M:Model}{h:Heap}{ox:Obj}{od:Option Obj}{X:Value}(hX:X=.type "object"∨X=.type "BaseException"∨X=.type "ValueError")(XK:K.In h)(I:InstAt h x ox C od)(hp:aDo K C=true):Looks M h (isInstance (.ref x) X) true:=by
 refine aAd (any_some hp) fun cd hc ho=>?_
 have ne:cd.mro.isEmpty=false:=by cases q:cd.mro with|nil=>rw[q] at ho;cases ho|cons _ _=>rfl
 exact I.type.andThen (looks_mroIn XK (by unfold mroIn;rw[hc,Option.bind_some,if_neg (by rw[ne];decide),aFq X hX ho]))
theorem aKc{ox:Obj}{od:Option Obj}{name:Str}{tk:Tok}{v:Value}(X:K.In s.heap)(I:InstAt s.heap x ox C od)(hp:aDo K C=true)(ht:takerIn K C name=some none)
  (h:∀ b,wpAny (model prog w) A.in1 (storeInOwnDict (.ref x) (.ref C) (.str name tk) name v b)
   (fun fin s'=>match fin with | .done f=>R (.ok f) s' | .again c'=>c'.quiet=true∧codeAny (model prog w) A c' R s') (fun e s'=>R (.error e) s') s) :
  codeAny (model prog w) A (.call (.builtin "object.__setattr__") ⟨[.ref x,.str name tk,v],[]⟩) R s:=by
 have SF:=PySem.F.store_object
 refine aAd (any_some hp) fun cd hc ho=>?_
 refine codeAny_call_builtin SF.slot.plain SF.entry (@check_slot (model prog w) _ _ s "object.__setattr__" "object" "__setattr__" (.ref x) [.str name tk,v] [] _ SF.kind SF.split (aT6 (.inl rfl) X I hp) (SF.args (.ref x) (.str name tk) v) ?_)
 refine aAd (Option.bind_eq_some_iff.mp ht) fun attr ha hr=>?_
 have hm:Looks (model prog w) s.heap (mroOf (.ref C)) cd.mro:=(looks_clsIn X hc).andThen .now
 have L3:Looks (model prog w) s.heap (storeTaker? attr) none:=by
  cases attr with
  |none=>cases hr;exact .now
  |some a =>
   refine aAd (Option.map_eq_some_iff.mp hr) fun b hb hb'=>?_
   refine (looks_takesIn X hb).andThen ?_
   cases b with
   |true=>cases hb'
   |false=>exact .now
 rw[osa_eq,refuse_eq]
 refine wpAny_bind (wpAny_bind (I.type.here (wpAny_bind (hm.here ?_))))
 rw[aMv _ ho]
 refine wpAny_pure (wpAny_bind (I.type.here (wpAny_bind ((looks_findIn X ha).here (wpAny_bind (L3.here ?_))))))
 exact h _
theorem aJw{es es':List DictEntry}{n n':Nat}{name:Str}{tk:Tok}{v:Value}{pre post:List (Addr×Obj)}(F:Fr h₀ L s.heap m)(N:News h₀ L s.heap (pre++(d,dictOf es n)::post))(h1:∀ p∈pre,p.1≠d)(h2:∀ p∈post,p.1≠d)
  (hl:(getL name es).isSome=true) (e:(putL name (PyData.keyHash w.params name) (.str name s.toks) v es,putN name es n)=(es',n')) (hz:es'.length≤1000) {Q:Fin→Shared→Prop}
  (h:∀ h',Fr h₀ L h' m→News h₀ L h' (pre++(d,dictOf es' n')::post)→Q (.done (.ret .none)) { s with heap:=h',toks:=s.toks+1 }) :
  wpAny (model prog w) A (storeInDict d (.str name tk) name v) Q E s:=by
 refine aBa (Prod.mk.inj e) fun e1 e2=>?_
 have e3:Obj.putName name (PyData.keyHash w.params name) (.str name s.toks) v (dictOf es n)=dictOf es' n':=by rw[putName_dict,e1,e2]
 refine aBa (news_upd (f:=Obj.putName name (PyData.keyHash w.params name) (.str name s.toks) v) F N h1 h2 e3 rfl) fun U1 U2=>?_
 have D:=(N (d,dictOf es n) (by simp)).1
 have D':=(U2 (d,dictOf es' n') (by simp)).1
 unfold storeInDict
 refine wpAny_bind (wpAny_pure (wpAny_bind ?_))
 unfold nsSet
 refine wpAny_bind (wpAny_bind (wpAny_askSetting (wpAny_pure (wpAny_bind (wpAny_mkText (wpAny_bind (wpAny_loadPart D ?_)))))))
 dsimp only
 have c:(!es.toArray.any (·.key.isStr name)&&es.toArray.any (·.refKey))=false:=by
  rw[← Array.any_toList,← Array.any_toList]
  unfold getL at hl
  split at hl
  ·rename_i en he
   rw[List.any_eq_true.mpr ⟨en,List.mem_of_find?_eq_some he,List.find?_some he⟩];rfl
  ·split at hl
   ·cases hl
   ·rename_i z;rw[Bool.not_eq_true] at z;rw[z,Bool.and_false]
 rw[aRefKeyMayBeTheName_at,c]
 refine wpAny_updatePart D ?_
 refine wpAny_bind (wpAny_lookBehind D' (pastItsLine_dict (by rw[List.size_toArray,sizeLine_eq];lia)) ?_)
 exact wpAny_pure (h _ U1 U2)
theorem aXp{h:Heap}{vs:Array Value}{od:Obj}(hx:h.get? x=some (exO C d vs))(hd:h.get? d=some od):InstAt h x (exO C d vs) C (some od):=⟨hx,rfl,rfl,hd⟩
theorem aT8{h:Heap}{vs:Array Value}(hx:h.get? x=some { cls:=.ref C,data:=.fields vs }):InstAt h x { cls:=.ref C,data:=.fields vs } C none:=⟨hx,rfl,rfl,trivial⟩
theorem aQ7{vs:Array Value}{es es':List DictEntry}{n n':Nat}{name:Str}{tk:Tok}{v:Value}{pre post:List (Addr×Obj)}(F:Fr h₀ L s.heap m)(X:K.In s.heap)(N:News h₀ L s.heap (pre++(d,dictOf es n)::post))(hx:s.heap.get? x=some (exO C d vs))
  (hp:aDo K C=true) (ht:takerIn K C name=some none) (hh:hasDictIn K C=true) (hl:(getL name es).isSome=true) (h1:∀ p∈pre,p.1≠d) (h2:∀ p∈post,p.1≠d)
  (e:(putL name (PyData.keyHash w.params name) (.str name s.toks) v es,putN name es n)=(es',n')) (hz:es'.length≤1000)
  (h:∀ h',Fr h₀ L h' m→News h₀ L h' (pre++(d,dictOf es' n')::post)→R (.ok (.ret .none)) { s with heap:=h',toks:=s.toks+1 }) :
  codeAny (model prog w) A (.call (.builtin "object.__setattr__") ⟨[.ref x,.str name tk,v],[]⟩) R s:=by
 have I:=aXp hx (N (d,dictOf es n) (by simp)).1
 refine aAd (any_some hh) fun cd hc hd'=>?_
 refine aKc X I hp ht fun b'=>?_
 refine wpAny_bind (wpAny_pure (wpAny_bind (wpAny_bind (wpAny_loadPart hx (wpAny_bind ((looks_clsIn X hc).here ?_))))))
 rw[hd']
 refine wpAny_pure (a:=some d) ?_
 exact aJw F N h1 h2 hl e hz fun h' F' N'=>h h' F' N'
theorem aNh{vs:Array Value}{name:Str}{tk:Tok}{v:Value}(F:Fr h₀ L s.heap m)(X:K.In s.heap)(N:News h₀ L s.heap ledger)(pk:Pick (x,{ cls:=.ref C,data:=.fields vs }) ledger rest)(aw:∀ p∈rest,p.1≠x)
  (hp:aDo K C=true) (ht:takerIn K C name=some none) (hh:hasDictIn K C=true)
  (h:∀ d h',Fr h₀ L h' m→News h₀ L h' ((d,dictOf [⟨PyData.keyHash w.params name,.str name s.toks,v⟩] 1)::(x,exO C d vs)::rest)→(∀ p∈ledger,p.1<d)→R (.ok (.ret .none)) { s with heap:=h',toks:=s.toks+1 }) :
  codeAny (model prog w) A (.call (.builtin "object.__setattr__") ⟨[.ref x,.str name tk,v],[]⟩) R s:=by
 have hx:=(N _ pk.mem.1).1
 have I:=aT8 hx
 refine aAd (any_some hh) fun cd hc hd'=>?_
 refine aKc X I hp ht fun b'=>?_
 refine wpAny_bind (wpAny_pure (wpAny_bind (wpAny_bind (wpAny_loadPart hx (wpAny_bind ((looks_clsIn X hc).here ?_))))))
 rw[hd']
 refine wpAny_bind (wpAny_alloc (wpAny_bind (wpAny_update (Heap.get?_push_of_some _ hx) (wpAny_pure ?_))))
 have lt:∀ p∈ledger,p.1<s.heap.objs.size:=fun p hp=>Heap.lt_size (N p hp).1
 have F₁:Fr h₀ L (s.heap.push { cls:=.type "dict",data:=.dict #[] }) m:=F.push _
 have N₁:News h₀ L (s.heap.push { cls:=.type "dict",data:=.dict #[] }) ([]++(x,{ cls:=.ref C,data:=.fields vs })::((s.heap.objs.size,dictOf [] 0)::rest)):=fun p hp=>by
  have M:=News.push F N (dictOf [] 0)
  rcases List.mem_cons.mp hp with rfl|hp
  ·exact M _ (.tail _ pk.mem.1)
  ·rcases List.mem_cons.mp hp with rfl|hp
   ·exact M _ (.head _)
   ·exact M _ (.tail _ (pk.mem.2 _ hp))
 obtain⟨F₂,N₂⟩:=news_upd (f:=fun o=>{ o with dict:=some s.heap.objs.size }) (o':=exO C s.heap.objs.size vs) F₁ N₁ (fun _ q=>nomatch q) (fun p hp=>by
  rcases List.mem_cons.mp hp with rfl|hp
  ·exact Nat.ne_of_gt (lt _ pk.mem.1)
  ·exact aw p hp) rfl rfl
 refine aJw (s:={ s with heap:=_ }) (es:=[]) (n:=0) (pre:=[(x,exO C s.heap.objs.size vs)]) (post:=rest) F₂ (fun p hp=>N₂ p (by simpa using hp)) (fun p hp=>?_) (fun p hp=>Nat.ne_of_lt (lt _ (pk.mem.2 _ hp))) rfl rfl (by simp[putL]) fun h' F' N'=>?_
 ·obtain rfl:=List.mem_singleton.mp hp
  exact Nat.ne_of_lt (show x<s.heap.objs.size from lt _ pk.mem.1)
 ·refine h _ h' F' (fun p hp=>N' p ?_) lt
  rcases List.mem_cons.mp hp with rfl|hp
  ·simp[putL,putN]
  ·rcases List.mem_cons.mp hp with rfl|hp
   ·simp
   ·simp[hp]
theorem aMr{vs:Array Value}{es es':List DictEntry}{n n':Nat}{name:Str}{v:Value}{Q:Unit→Shared→Prop}{news':List (Addr×Obj)}(F:Fr h₀ L s.heap m)(X₀:K.In h₀)(N:News h₀ L s.heap ledger)(hx:(x,exO C d vs)∈ledger)(hd:(d,dictOf es n)∈ledger)
  (hs:findIn K (.ref C) "__setattr__"=some (some (.builtin "object.__setattr__"))) (hp:aDo K C=true) (ht:takerIn K C name=some none) (hh:hasDictIn K C=true) (hl:(getL name es).isSome=true)
  (e:(putL name (PyData.keyHash w.params name) (.str name (s.toks+1)) v es,putN name es n)=(es',n')) (U:Upd d (dictOf es n) (dictOf es' n') ledger news') (hz:es'.length≤1000)
  (h:∀ h',Fr h₀ L h' m→News h₀ L h' news'→Q () { s with heap:=h',toks:=s.toks+2 }):wpAny (model prog w) A (setAttr (.ref x) name v) Q E s:=by
 refine bH3 U.split fun pre post r12_2 r12_3 a b=>?_
 subst r12_2
 subst r12_3
 exact set_plain (X₀.keeps F.keep) (aXp (N _ hx).1 (N _ hd).1) hs (aQ7 (s:={ s with toks:=s.toks+1 }) F (X₀.keeps F.keep) N (N _ hx).1 hp ht hh hl a b e hz fun h' F' N'=>h h' F' N')
theorem aK5{vs:Array Value}{name:Str}{v:Value}{Q:Unit→Shared→Prop}(F:Fr h₀ L s.heap m)(X₀:K.In h₀)(N:News h₀ L s.heap ledger)(pk:Pick (x,{ cls:=.ref C,data:=.fields vs }) ledger rest)(aw:∀ p∈rest,p.1≠x)
  (hs:findIn K (.ref C) "__setattr__"=some (some (.builtin "object.__setattr__"))) (hp:aDo K C=true) (ht:takerIn K C name=some none) (hh:hasDictIn K C=true)
  (h:∀ d h',Fr h₀ L h' m→News h₀ L h' ((d,dictOf [⟨PyData.keyHash w.params name,.str name (s.toks+1),v⟩] 1)::(x,exO C d vs)::rest)→(∀ p∈ledger,p.1<d)→Q () { s with heap:=h',toks:=s.toks+2 }) :
  wpAny (model prog w) A (setAttr (.ref x) name v) Q E s :=
 set_plain (X₀.keeps F.keep) (aT8 (N _ pk.mem.1).1) hs (aNh (s:={ s with toks:=s.toks+1 }) F (X₀.keeps F.keep) N pk aw hp ht hh fun d h' F' N' l=>h d h' F' N' l)
theorem bZq{vs:Array Value}{es:List DictEntry}{n:Nat}{name:Str}{v:Value}{expr:Bool}{attr:Option Value}{Q:Value→Shared→Prop}(F:Fr h₀ L s.heap m)(X₀:K.In h₀)(N:News h₀ L s.heap ledger)(hx:(x,exO C d vs)∈ledger)(hd:(d,dictOf es n)∈ledger)
  (hg:findIn K (.ref C) "__getattribute__"=some (some (.builtin "BaseException.__getattribute__"))) (hk:findIn K (.ref C) "__getattr__"=some none) (hp:aDo K C=true) (hh:hasDictIn K C=true) (ha:findIn K (.ref C) name=some attr) (hn:noGet K attr=true) (hl:getL name es=some (some v)) (hv:handedIn v=true)
  (h:Q v { s with toks:=s.toks+1 }):wpAny (model prog w) A (getAttr (.ref x) name expr) Q E s:=by
 have X:=X₀.keeps F.keep
 have I:=aXp (N _ hx).1 (N _ hd).1
 have hf:=findObj_own (od:=dictOf es n) hh ha hn (show lookIn name (dictOf es n)=_ from hl)
 obtain⟨hp',g,dd,t,os⟩:=s
 have L0:=I.type (M:=model prog w)
 have L1:=looks_findIn (M:=model prog w) X hg
 have L2:=looks_findIn (M:=model prog w) X hk
 have L3:=looks_find (M:=model prog w) X I hf
 unfold getAttr getAttrBy
 have f3:=PySem.F.attrBase_ValueError.ga.bind (.ref x)
 have hx0:(expr&&onTheHeap (Value.builtin "BaseException.__getattribute__"))=false:=by cases expr<;>rfl
 refine wpAny_bind (wpAny_mkText (wpAny_holding (wpAny_bind (L0.at (wpAny_bind (L1.at ?_))))))
 show wpAny _ _ (getAttrByItsOwn _ _ _ _ _ _) _ _ _
 unfold getAttrByItsOwn
 refine wpAny_bind (L2.at ?_)
 repeat (any_goals (first|assumption|wp_step))
 refine codeAny_call_builtin PySem.F.attrBase_ValueError.ga.plain PySem.F.entry_bexc_ga (@check_slot (model prog w) _ _ _ "BaseException.__getattribute__" "BaseException" "__getattribute__" (.ref x) [.str name t] [] _ (by decide +kernel) (by decide +kernel) (aT6 (.inr (.inl rfl)) X I hp) (PySem.F.args_bexc_ga _ _) ?_)
 refine wpAny_bind (wpAny_pure (wpAny_bind (wpAny_pure (wpAny_bind (L0.at (wpAny_bind (L3.at ?_)))))))
 refine wpAny_pure ?_
 show wpAny _ _ (handedOut v) _ _ _
 rw[handedOut_of hv]
 exact wpAny_pure h
end
end
theorem aHk{l:List Value}(h:aB0 l=true):l.contains (.type "AttributeError")=false∧l.contains (.type "NameError")=false :=
 aDy (P:=fun l=>l.contains (.type "AttributeError")=false∧l.contains (.type "NameError")=false) ⟨by decide,by decide⟩ (fun c r h=>by rw[List.contains_cons,List.contains_cons,h.1,h.2];exact⟨rfl,rfl⟩) h
section
variable {prog:Program} {w:World} {A:Around} {R:Result→Shared→Prop} {E:Value→Shared→Prop} {h:Heap} {g:Array GenState} {d:Drawn} {t:Nat} {os:OsState}
variable {nm q:Str} {C N:Addr} {bs bm:List Value} {hdct:Bool} {sn:List Str} {sub:List Value} {ab:Bool} {col:Option Bool} {dd:Option Addr} {k0 k1 k2 k3 k5:Option Value}
theorem aK0{M:Model}{rest:List Value}{Q:Unit→Shared→Prop}(hv:aB0 (.ref C::bm)=true)(hC:h.get? C=some (excClassObj nm q C N bs bm hdct sn sub ab col dd k0 k1 k2 k3 k5 "ValueError.__new__"))
  (hq:Q () ⟨h,g,d,t,os⟩):wpAny M A (checkBuiltinCall "ValueError.__new__" ⟨.ref C::rest,[]⟩) Q E ⟨h,g,d,t,os⟩:=by
 have F:=PySem.F.excBase_ValueError
 have hcont:=aFq (.type "ValueError") (.inr (.inr rfl)) hv
 have hstar:=F.noStar
 simp only[checkBuiltinCall,F.newKind,F.newSplit,F.newRow]
 repeat (first|refine wpAny_loadPart_at hC ?_|(refine wpAny_isSubtype_exc hC ?_;rw[hcont])|refine wpAny_staticBase_exc hC ?_|refine wpAny_madeBy_exc hC ?_|simp only[bne_self_eq_false,Bool.false_eq_true,if_false]|wp_step)
 exact hq
theorem bTh{rest:List Value}(hv:aB0 (.ref C::bm)=true)(hC:h.get? C=some (excClassObj nm q C N bs bm hdct sn sub ab col dd k0 k1 k2 k3 k5 "ValueError.__new__"))
  (hq:R (.ok (.ret (.ref (h.objs.size+1)))) ⟨(h.push { cls:=.type "tuple",data:=.seq rest.toArray }).push
   { cls:=.ref C,data:=.fields #[.ref h.objs.size,.none,.none,.none,.bool false,.none] },g,d,t,os⟩) (hrest:rest.length≤sizeLine:=by size_fits) :
  codeAny (model prog w) A (.builtin "ValueError.__new__" ⟨.ref C::rest,[]⟩) R ⟨h,g,d,t,os⟩:=by
 have F:=PySem.F.excBase_ValueError
 have hends:=F.ends
 have hcB:=aFq (.type "ValueError") (.inr (.inr rfl)) hv
 have hcA:=(aHk hv).1
 have hcN:=(aHk hv).2
 refine codeAny_builtinAt F.entry ?_
 unfold Builtin.«BaseException.__new__»
 refine PySem.wpAt_bind ?_
 show PySem.wpAt _ _ _ (stack >>= _) _ _ _
 refine PySem.wpAt_bind (PySem.wpAt_stack fun p below=>PySem.wpAt_of_wpAny ?_)
 wp_walk
 refine PySem.wpAt_of_wpAny ?_
 rw[F.owner]
 repeat (first|with_reducible refine wpAny_madeHere_exc F.canon hC ?_|with_reducible refine wpAny_loadPart_at hC ?_|(with_reducible refine wpAny_isSubtype_exc hC ?_;first|rw[hcB]|rw[hcA]|rw[hcN])|wp_step)
 show R _ _
 rw[Heap.size_push]
 exact hq
theorem aKz{rest:List Value}{fI:Addr}{oI:Obj}{Q:PySem.Fin→Shared→Prop}(hv:aB0 (.ref C::bm)=true)
  (hC:h.get? C=some (excClassObj nm q C N bs bm hdct sn sub ab col dd k0 k1 k2 k3 k5 "ValueError.__new__")) (hlk:∀ h',(∀ b o,h.get? b=some o→h'.get? b=some o)→Looks (model prog w) h' (typeLookup (.ref C) "__init__") (some (.ref fI))) (hfI:h.get? fI=some oI) (hfc:oI.cls=.type "function")
  (hq:wpAny (model prog w) A (call (.ref fI) (.ref (h.objs.size+1)::rest)) (fun r s'=>r=.none∧Q (.done (.ret (.ref (h.objs.size+1)))) s') E
   ⟨(h.push { cls:=.type "tuple",data:=.seq rest.toArray }).push { cls:=.ref C,data:=.fields #[.ref h.objs.size,.none,.none,.none,.bool false,.none] },g,d,t,os⟩) (hrest:rest.length≤sizeLine:=by size_fits) :
  wpAny (model prog w) A (Builtin.«type.__call__» ⟨.ref C::rest,[]⟩) Q E ⟨h,g,d,t,os⟩:=by
 repeat (first|with_reducible refine wpAny_loadPart_at hC ?_|with_reducible refine wpAny_madeBy_exc hC ?_|wp_step)
 refine codeAny_call_builtin_code (Code.quiet_builtin _ PySem.F.excBase_ValueError.quiet) (aK0 hv hC ?_)
 refine bTh hv hC ?_ hrest
 show wpAny _ _ _ _ _ _
 have up:∀ b o,h.get? b=some o→((h.push { cls:=.type "tuple",data:=.seq rest.toArray }).push { cls:=.ref C,data:=.fields #[.ref h.objs.size,.none,.none,.none,.bool false,.none] }).get? b=some o:=fun b o e=>Heap.get?_push_of_some _ (Heap.get?_push_of_some _ e)
 have hC₁:=up _ _ hC
 have hget:((h.push { cls:=.type "tuple",data:=.seq rest.toArray }).push { cls:=.ref C,data:=.fields #[.ref h.objs.size,.none,.none,.none,.bool false,.none] }).get? (h.objs.size+1)=some
   { cls:=.ref C,data:=.fields #[.ref h.objs.size,.none,.none,.none,.bool false,.none] }:=by heap_get
 have hcC:(Value.ref C::bm).contains (.ref C)=true:=by simp
 unfold isInstance
 repeat (first|with_reducible refine wpAny_loadPart_at hget ?_|(with_reducible refine wpAny_isSubtype_exc hC₁ ?_;rw[hcC])|wp_step)
 show wpAny _ _ (typeLookup (.ref C) _) _ _ _
 refine (hlk _ up).at ?_
 refine wpAny_holding (wpAny_bind ?_)
 unfold bindSpecial
 refine wpAny_bind (wpAny_typeOf (T:="function") ⟨_,up _ _ hfI,hfc⟩ ?_)
 rw[if_pos (by decide)]
 refine wpAny_pure (wpAny_bind (wpAny_mono hq (fun r s' hr=>?_) fun _ _ x=>x))
 obtain⟨rfl,hQ⟩:=hr
 wp_walk
 exact hQ
theorem bIk{rest:List Value}{fI:Addr}{oI:Obj}{Q:Value→Shared→Prop}(hv:aB0 (.ref C::bm)=true)
  (hC:h.get? C=some (excClassObj nm q C N bs bm hdct sn sub ab col dd k0 k1 k2 k3 k5 "ValueError.__new__")) (hlk:∀ h',(∀ b o,h.get? b=some o→h'.get? b=some o)→Looks (model prog w) h' (typeLookup (.ref C) "__init__") (some (.ref fI))) (hfI:h.get? fI=some oI) (hfc:oI.cls=.type "function")
  (hq:wpAny (model prog w) (A.under (.builtin "type.__call__" ⟨.ref C::rest,[]⟩)) (call (.ref fI) (.ref (h.objs.size+1)::rest)) (fun r s'=>r=.none∧Q (.ref (h.objs.size+1)) s') E
   ⟨(h.push { cls:=.type "tuple",data:=.seq rest.toArray }).push { cls:=.ref C,data:=.fields #[.ref h.objs.size,.none,.none,.none,.bool false,.none] },g,d,t,os⟩) (hrest:rest.length≤sizeLine:=by size_fits) :
  wpAny (model prog w) A (call (.ref C) rest) Q E ⟨h,g,d,t,os⟩:=by
 have f1:=tc_lookup
 have f2:=tc_bind (.ref C)
 have hT:(⟨h,g,d,t,os⟩:Shared).TypeIs (.ref C) "type":=⟨_,hC,rfl⟩
 refine wpAny_call (codeAny_of_tree ?_)
 show wpAny _ _ (callAny (.ref C) _) _ _ _
 repeat (any_goals (first|assumption|with_reducible refine wpAny_loadPart_at hC ?_|wp_step))
 refine⟨rfl,?_⟩
 exact codeAny_call_builtin_at (Code.quiet_builtin _ (by decide +kernel)) entry_typeCall (wpAny_check_type_call_sub hC (aKz (hrest:=hrest) hv hC hlk hfI hfc hq))
end
noncomputable def isB(v:Option Value)(s:String):Bool:=match v with
 |some (.builtin a)=>a==s
 |_=>false
theorem bEa{v:Option Value}{s:String}(h:isB v s=true):v=some (.builtin s):=by
 cases v with
 |none=>cases h
 |some v =>
  cases v with
  |builtin a=>rw[beq_iff_eq.mp h]
  |_=>cases h
noncomputable def bQv(v:Value)(C:Addr):Bool:=match v with
 | .ref a=>a==C
 |_=>false
theorem aXm{v:Value}{C:Addr}(h:bQv v C=true):v=.ref C:=by
 cases v with
 |ref a=>rw[beq_iff_eq.mp h]
 |_=>cases h
noncomputable def six(l:List (Option Value))(s:String):Bool:=hd1 l fun _ l=>hd1 l fun _ l=>hd1 l fun _ l=>hd1 l fun _ l=>hd1 l fun v l=>hd1 l fun _ l=>l.isEmpty&&isB v s
theorem bA5{l:List (Option Value)}{s:String}(h:six l s=true):∃ k0 k1 k2 k3 k5,l=[k0,k1,k2,k3,some (.builtin s),k5] :=
 aGs (aFd h) fun a _ e0 h=>aGs (aFd h) fun b _ e1 h=>aGs (aFd h) fun c _ e2 h=>aGs (aFd h) fun d _ e3 h=>aGs (aFd h) fun _ _ e4 h=>aGs (aFd h) fun f _ e5 h=>aBa (Bool.and_eq_true_iff.mp h) fun h0 h=>bQ5 a b c d f (by
  rw[e0,e1,e2,e3,e4,e5,List.isEmpty_iff.mp h0,bEa h])
noncomputable def aJt(K:Frag)(C:Addr):Bool:=match K.lookup C with
 |some o=>isT o.cls "type"&&(match o.data with
  | .cls cd=>(match cd.mro with
   |v::bm=>bQv v C&&(!cd.hasDel&&(aB0 (v::bm)&&six o.slots.toList "ValueError.__new__"))
   | []=>false)
  |_=>false)
 |none=>false
inductive VeCls (h:Heap) (C:Addr):Prop
 |mk (nm qn:Str) (N:Addr) (bs bm:List Value) (hdct:Bool) (sn:List Str) (sub:List Value) (ab:Bool) (col:Option Bool) (dd:Option Addr) (k0 k1 k2 k3 k5:Option Value)
  (hC:h.get? C=some (excClassObj nm qn C N bs bm hdct sn sub ab col dd k0 k1 k2 k3 k5 "ValueError.__new__")) (hv:aB0 (.ref C::bm)=true):VeCls h C
theorem aJs{K:Frag}{h:Heap}{C:Addr}(X:K.In h)(q:aJt K C=true):VeCls h C:=by
 unfold aJt at q
 generalize ho:K.lookup C=o at q
 cases o with
 |none=>cases q
 |some o =>
  obtain⟨cl,di,da,sl⟩:=o
  refine aBa (Bool.and_eq_true_iff.mp q) fun q1 q=>?_
  obtain rfl:cl=.type "type":=aHu q1
  cases da with
  |cls cd =>
   obtain⟨nm,bs,mro,ns,qn,hd,sn,sub,ab,col,del⟩:=cd
   cases mro with
   |nil=>cases q
   |cons v bm =>
    refine aBa (Bool.and_eq_true_iff.mp q) fun q2 q=>?_
    obtain rfl:v=.ref C:=aXm q2
    refine aBa (Bool.and_eq_true_iff.mp q) fun q3 q=>?_
    cases del with
    |true=>cases q3
    |false =>
     refine aBa (Bool.and_eq_true_iff.mp q) fun q4 q5=>?_
     obtain⟨l⟩:=sl
     refine bNi (bA5 q5) fun k0 k1 k2 k3 k5 e=>?_
     obtain rfl:l=_:=e
     exact⟨nm,qn,ns,bs,bm,hd,sn,sub,ab,col,di,k0,k1,k2,k3,k5,X _ _ ho,q4⟩
  |_=>cases q
section
variable {prog:Program} {w:World} {A:Around} {E:Value→Shared→Prop} {s:Shared} {K:Frag} {C L fI:Addr} {h₀:Heap} {m:Str→Option Value} {news:List (Addr×Obj)} {Q:Value→Shared→Prop} {rest:List Value}
noncomputable abbrev aS6(C t:Addr):Obj:={ cls:=.ref C,data:=.fields #[.ref t,.none,.none,.none,.bool false,.none] }
noncomputable abbrev aMk(l:List Value):Obj:={ cls:=.type "tuple",data:=.seq l.toArray }
theorem aY6(F:Fr h₀ L s.heap m)(X₀:K.In h₀)(N:News h₀ L s.heap news)(hq:aJt K C=true)(hi:findIn K (.ref C) "__init__"=some (some (.ref fI)))(hf:typeIn K (.ref fI)=some (.type "function"))(hr:rest.length≤10)
  (h:∀ t e h',Fr h₀ L h' m→News h₀ L h' ((e,aS6 C t)::(t,aMk rest)::news)→(∀ p∈news,p.1<t)→t<e →
   codeAny (model prog w) (A.under (.builtin "type.__call__" ⟨.ref C::rest,[]⟩)) (.call (.ref fI) ⟨.ref e::rest,[]⟩) (InitBack e fun r s'=>match r with | .ok (.ret v)=>Q v s' | .ok _=>False | .error e=>E e s') { s with heap:=h' }) :
  wpAny (model prog w) A (call (.ref C) rest) Q E s:=by
 have X:=X₀.keeps F.keep
 obtain⟨nm,qn,N',bs,bm,hdct,sn,sub,ab,col,dd,k0,k1,k2,k3,k5,hC,hv⟩:=aJs X hq
 refine aAd (Option.map_eq_some_iff.mp hf) fun oI hfI hfc=>?_
 obtain⟨hp,g,d,t,os⟩:=s
 have N₁:=News.push (F.push (aMk rest)) (News.push F N (aMk rest)) (aS6 C hp.objs.size)
 rw[Heap.size_push] at N₁
 refine bIk hv hC (fun h' k=>looks_findIn (X.keeps k) hi) (X _ _ hfI) hfc (wpAny_call (codeAny_mono (h hp.objs.size (hp.objs.size+1) _ ((F.push _).push _) N₁ (fun p hp'=>Heap.lt_size (N p hp').1) (Nat.lt_succ_self _)) fun r s' z=>?_)) (by rw[sizeLine_eq];omega)
 rcases r with e|(v|_|_|_)<;>exact z
end
section
open PySem PySem.W PyProof.Rows PySem.Spec PySem.Calls PySem.Builtin PySem.Builtin.Int PySem.Builtin.Str PySem.Builtin.Float
theorem hex_len:∀ (k fuel n:Nat) (ds:List Char),n<16 ^ (k+1)→(Nat.toDigitsCore 16 fuel n ds).length≤ds.length+(k+1)
 |k,0,n,ds,_=>by simp[Nat.toDigitsCore]
 | 0,fuel+1,n,ds,h=>by
  have h0:n/16=0:=by lia
  simp[Nat.toDigitsCore,h0]
 |k+1,fuel+1,n,ds,h=>by
  unfold Nat.toDigitsCore
  simp only
  split
  ·simp
  ·have:=hex_len k fuel (n/16) (Nat.digitChar (n%16)::ds) (by rw[Nat.pow_succ] at h;lia)
   simp only[List.length_cons] at this
   lia
theorem aLt{n:Nat}(h:n<16 ^ 16):(Nat.toDigits 16 n).length≤16:=by
 have:=hex_len 15 (n+1) n [] h
 simpa[Nat.toDigits] using this
noncomputable def aC3(neg:Bool)(digits:List Nat):PySem.Str :=
 let sign:List Nat:=if neg then [45] else []
 let ds:=if digits.isEmpty then [] else List.replicate ((0:_root_.Int).toNat-digits.length) 48++digits
 let pad:=((-1:_root_.Int)-((sign.length:_root_.Int)+(0:Nat)+(0:Nat))-ds.length).toNat
 ⟨(List.replicate pad 32++sign++[]++List.replicate 0 32++ds++[]++List.replicate 0 32).toArray⟩
theorem aHz{neg:Bool}{digits:List Nat}(h:digits.length≤16):(aC3 neg digits).length≤100:=by
 unfold aC3 Str.length
 have h0:((0:_root_.Int).toNat-digits.length)=0:=by simp
 cases digits with
 |nil=>cases neg<;>simp
 |cons x r =>
  simp only[List.length_cons] at h
  cases neg<;>simp<;>lia
theorem aMl{α:Type}{M:Model}{A:Around}{t t':Sem α}{Q:α→Shared→Prop}{E:Value→Shared→Prop}{s:Shared}(e:t=t')(h:wpAny M A t' Q E s):wpAny M A t Q E s:=e▸h
section
variable {prog:Program} {w:World} {A:Around} {E:Value→Shared→Prop} {s:Shared} {t:Tok} {a:_root_.Int}
theorem aOx{Q:Value→Shared→Prop}(hb:a.natAbs<16 ^ 16)(h:∀ (y:PySem.Str) t' k,y.length≤100→Q (.str y t') { s with toks:=k }):wpAny (model prog w) A (formatField (.int a t) (PySem.Str.ofString "x")) Q E s:=by
 have hl:(aC3 (decide (a<0)) ((Nat.toDigits 16 a.natAbs).map fun c=>c.toNat)).length≤100:=aHz (by rw[List.length_map];exact aLt hb)
 generalize hy:aC3 (decide (a<0)) ((Nat.toDigits 16 a.natAbs).map fun c=>c.toNat)=y at hl
 refine KXf.field_int (spec':=PySem.Str.ofString "x") (y:=y) rfl (by decide +kernel) (by decide +kernel) ?_ fun t' k=>h _ t' k hl
 intro u
 refine KPc.meets_of fun p' w' A' s' Q' E' h'=>?_
 refine aMl (t':=typeNameOf (.str (PySem.Str.ofString "x") u) >>= fun _=>typeNameOfCut 200 (.int a t) >>= fun _=>retStr (aC3 (decide (a<0)) ((Nat.toDigits 16 a.natAbs).map fun c=>c.toNat))) (by kernel_rfl) ?_
 refine wpAny_bind (wpAny_typeNameOf (T:="str") (typeIs_str _ _ _) (by decide) fun _=>?_)
 refine wpAny_bind (wpAny_typeNameOfCut_int ?_)
 exact KXf.ret_text hy (by rw[hy,sizeLine_eq];lia) h'
theorem aLw{spec:PySem.Str}{Q:Value→Shared→Prop}(hs:spec=PySem.Str.ofString "x")(hb:a.natAbs<16 ^ 16)(h:∀ (y:PySem.Str) t' k,y.length≤100→Q (.str y t') { s with toks:=k }):wpAny (model prog w) A (formatField (.int a t) spec) Q E s:=by
 subst hs
 exact aOx hb h
end
end
section
variable {prog:Program} {w:World} {A:Around} {E:Value→Shared→Prop} {s:Shared} {K:Frag} {C L x:Addr} {h₀:Heap} {m:Str→Option Value} {ledger rest:List (Addr×Obj)} {Q:Value→Shared→Prop} {v:Value}
theorem aIr{M:Model}{h:Heap}{g:Array GenState}{d:Drawn}{t:Nat}{os:OsState}{nm q:Str}{N:Addr}{bs bm:List Value}{hdct:Bool}{sn:List Str}{sub:List Value}{ab:Bool}{col:Option Bool}{dd:Option Addr}{k0 k1 k2 k3 k5:Option Value}{oe:Obj}{l:List Value}{Q:Unit→Shared→Prop}
  (hv:aB0 (.ref C::bm)=true) (hC:h.get? C=some (excClassObj nm q C N bs bm hdct sn sub ab col dd k0 k1 k2 k3 k5 "ValueError.__new__")) (he:h.get? x=some oe) (hcls:oe.cls=.ref C) (hq:Q () ⟨h,g,d,t,os⟩) :
  wpAny M A (checkBuiltinCall "ValueError.__init__" ⟨.ref x::l,[]⟩) Q E ⟨h,g,d,t,os⟩:=by
 have FE:=PySem.F.excBase_ValueError
 have hB:=aFq (.type "ValueError") (.inr (.inr rfl)) hv
 have hs:=FE.noStar
 simp only[checkBuiltinCall,FE.initKind,FE.initSplit,FE.initRow]
 repeat (first|(with_reducible refine wpAny_loadPart_at he ?_;rw[hcls])|with_reducible refine wpAny_loadPart_at hC ?_|(with_reducible refine wpAny_isSubtype_exc hC ?_;rw[hB])|wp_step)
 refine wpAny_onRaise ?_
 refine wpAny_of_eq (a:=()) (check_star_args _ _ _ _ _ _) hq
theorem bM3{t:Addr}(F:Fr h₀ L s.heap m)(X₀:K.In h₀)(N:News h₀ L s.heap ledger)(pk:Pick (x,aS6 C t) ledger rest)(aw:∀ p∈rest,p.1≠x)(hp:aJt K C=true)
  (h:∀ t' h',Fr h₀ L h' m→News h₀ L h' ((x,aS6 C t')::(t',aMk [v])::rest)→(∀ p∈ledger,p.1<t')→Q .none { s with heap:=h' }) :
  wpAny (model prog w) A (call (.builtin "ValueError.__init__") [.ref x,v]) Q E s:=by
 have FE:=PySem.F.excCall_ValueError
 have X:=X₀.keeps F.keep
 have hx:=(N _ pk.mem.1).1
 have lt:∀ p∈ledger,p.1<s.heap.objs.size:=fun p hp=>Heap.lt_size (N p hp).1
 have N₁:News h₀ L (s.heap.push (aMk [v])) ([]++(x,aS6 C t)::((s.heap.objs.size,aMk [v])::rest)):=fun p hp=>by
  have M:=News.push F N (aMk [v])
  rcases List.mem_cons.mp hp with rfl|hp
  ·exact M _ (.tail _ pk.mem.1)
  ·rcases List.mem_cons.mp hp with rfl|hp
   ·exact M _ (.head _)
   ·exact M _ (.tail _ (pk.mem.2 _ hp))
 obtain⟨F₂,N₂⟩:=news_upd (f:=Obj.mapFields (·.setIfInBounds 0 (.ref s.heap.objs.size))) (o':=aS6 C s.heap.objs.size) (F.push (aMk [v])) N₁ (fun _ q=>nomatch q) (fun p hp=>by
  rcases List.mem_cons.mp hp with rfl|hp
  ·exact Nat.ne_of_gt (lt _ pk.mem.1)
  ·exact aw p hp) rfl rfl
 have z:=h _ _ F₂ N₂ lt
 obtain⟨nm,qn,N',bs,bm,hdct,sn,sub,ab,col,dd,k0,k1,k2,k3,k5,hC,hv⟩:=aJs X hp
 obtain⟨hh,g,d,tk,os⟩:=s
 refine wpAny_call (codeAny_call_builtin FE.init.plain FE.initEntry (aIr hv hC hx rfl ?_))
 have hx₁:=Heap.get?_push_of_some (h:=hh) (aMk [v]) hx
 unfold Builtin.«BaseException.__init__»
 repeat (first|with_reducible refine wpAny_loadPart_at hx₁ ?_|wp_step)
 exact z
end
noncomputable abbrev vsX(t:Addr):Array Value:=#[.ref t,.none,.none,.none,.bool false,.none]
structure KeptS(G g:Heap)(I fs:List Addr):Prop where
 keep:∀ b o,G.get? b=some o→b∉I→b∉fs→g.get? b=some o
 up:∀ b∈fs,∀ o,G.get? b=some o→b∉I→∃ sl,g.get? b=some { o with slots:=sl }
 fresh:∀ b,g.get? b=none→b∈I∨G.get? b=none
theorem Kept.turn{G g g':Heap}{I fs:List Addr}(k:Kept G g I)(T:KtsTurn fs g g'):KeptS G g' I fs :=
 ⟨fun b o e n nf=>T.other b o (k.keep b o e n) nf,fun b hb o e n=>T.frame b o (k.keep b o e n) hb,fun b e=>aBq k (by
  cases q:g.get? b with
  |none=>rfl
  |some o=>obtain⟨sl,hs⟩:=T.up q;rw[hs] at e;cases e)⟩
section
variable {M:Model} {A:Around} {E:Value→Shared→Prop} {s':Shared} {base g G h₀:Heap} {l:List Env} {L a e C d:Addr} {m:Str→Option Value} {name:Str} {scope:Scope} {cd:Value} {Q:Unit→Shared→Prop} {outs rest ins:List (Addr×Obj)} {vs:Array Value} {od:Obj} {a0:Value} {I:List Addr}
theorem aFr{h₂:Heap}(kg:KeptS G g I (l.filterMap (·.frame)))(hI:∀ b∈I,g.get? b=none)(K:Below A base l g)(F:Fr g L s'.heap m)(N:News g L s'.heap ((e,exO C d vs)::(d,od)::outs))
  (hne:∀ q∈(d,od)::outs,q.1≠e) (hd:d∉I) (hE:e∉I)
  (x₂:Fl (hideAll s'.heap (e::(envOf name scope L a cd::l).filterMap (·.frame))) (envOf name scope L a cd::l) e C d a0 .none h₂) (u:s'.heap.UpToSlots h₂):Flown G l I outs e C d od a0 h₂:=by
 have nL:g.get? L=none:=kts_self F
 have fr:∀ b∈l.filterMap (·.frame),∃ o,g.get? b=some o∧∀ ws,o.data≠.fields ws:=fun b hb=>(K.frames.mem hb).2
 have inB:∀ b o,s'.heap.get? b=some o→b≠e→b≠L→b∉l.filterMap (·.frame)→(hideAll s'.heap (e::(envOf name scope L a cd::l).filterMap (·.frame))).get? b=some o:=fun b o hb n1 n2 n3=>hideAll_get _ hb fun hm=>by
  rcases List.mem_cons.mp hm with z|z
  ·exact n1 z
  ·rcases kts_mem z with z|z
   ·exact n2 z
   ·exact n3 z
 have outB:∀ q∈(d,od)::outs,(hideAll s'.heap (e::(envOf name scope L a cd::l).filterMap (·.frame))).get? q.1=some q.2:=fun q hq=>by
  have n:=N q (.tail _ hq)
  refine inB _ _ n.1 (hne q hq) n.2.1 fun hm=>?_
  refine aAd (fr _ hm) fun o ho _=>?_
  rw[n.2.2] at ho;cases ho
 refine⟨⟨_,fun b o hb n1 n2=>?_,fun q hq=>outB q (.tail _ hq),outB _ (.head _),x₂.stays,x₂.new,x₂.frames.2.2,x₂.obj⟩,fun q hq=>kg.fresh _ (N q (.tail _ (.tail _ hq))).2.2,(kg.fresh _ (N (d,od) (.tail _ (.head _))).2.2).resolve_left hd,(kg.fresh _ (N (e,exO C d vs) (.head _)).2.2).resolve_left hE,fun b hb o ho=>?_⟩
 ·have hg:=kg.keep b o hb n2 n1
  refine inB b o (F.keep b o hg) (fun z=>?_) (fun z=>?_) n1
  ·have:=(N _ (.head _)).2.2;rw[← z] at this;dsimp only at this;rw[hg] at this;cases this
  ·rw[z,nL] at hg;cases hg
 ·refine aAd (fr b hb) fun o' ho' hn=>?_
  obtain⟨sl0,hg⟩:=kg.up b hb o ho fun hi=>by rw[hI b hi] at ho';cases ho'
  rw[hg] at ho';cases ho'
  have hF:=F.keep b _ hg
  refine aA6 (u b _ hF hn) fun sl hs=>?_
  exact⟨sl,hs⟩
theorem aRj(kg:KeptS G g I (l.filterMap (·.frame)))(hI:∀ b∈I,g.get? b=none)(K:Below A base l g)(F:Fr g L s'.heap m)(N:News g L s'.heap ((e,exO C d vs)::(d,od)::outs))(hsz:vs.size=6)(h0:vs[2]?=some a0)(h1:vs[1]?=some .none)
  (hne:∀ q∈(d,od)::outs,q.1≠e) (hd:d∉I) (hE:e∉I) (hQ:∀ h',Flown G l I outs e C d od a0 h'→Q () { s' with heap:=h' }) (hk:scope.kind=.function:=by rfl) :
  wpAny M (A.deeper (envOf name scope L a cd)) (leaving (envOf name scope L a cd) (.ref e)) Q E s':=by
 have K':=K.push (name:=name) (a:=a) (cd:=cd) F hk
 have hfr:s'.heap.FunFrames (hideAll s'.heap (e::(envOf name scope L a cd::l).filterMap (·.frame))) (envOf name scope L a cd::l) :=
  funFrames_hide K'.frames fun env he b hb=>List.mem_cons_of_mem _ (List.mem_filterMap.mpr ⟨env,he,hb⟩)
 refine wpAny_bind (aFm K'.stack hfr rfl (N _ (.head _)).1 (fun b o q=>of_hideAll _ q) (hideAll_none _ (.head _)) hsz h0 h1 fun h₁ x₁ u₁=>?_)
 exact flight x₁ fun h₂ x₂ u₂=>hQ h₂ (aFr kg hI K F N hne hd hE x₂ (u₁.trans u₂))
end
noncomputable def aIe(K:Frag)(E:Value→Shared→Prop)(v:Value)(s:Shared):Prop :=
 ∃ e C d t,v=.ref e∧K.In s.heap∧aJt K C=true∧s.heap.get? e=some (exO C d (vsX t))∧E (.ref e) s
theorem aU3{K:Frag}{E:Value→Shared→Prop}{s:Shared}{h₀:Heap}{L e C d t:Addr}{m:Str→Option Value}{ledger:List (Addr×Obj)}(F:Fr h₀ L s.heap m)(X:K.In h₀)(N:News h₀ L s.heap ledger)(hx:(e,exO C d (vsX t))∈ledger)(hv:aJt K C=true)(h:E (.ref e) s):aIe K E (.ref e) s :=
 ⟨e,C,d,t,rfl,X.keeps F.keep,hv,(N _ hx).1,h⟩
noncomputable abbrev vsN(t e1:Addr):Array Value:=#[.ref t,.none,.ref e1,.none,.bool true,.none]
noncomputable def upX(h:Heap)(e e1:Addr):Heap:=((h.update e (Obj.mapFields (·.setIfInBounds 3 .none))).update e (Obj.mapFields (·.setIfInBounds 4 (.bool true)))).update e (Obj.mapFields (·.setIfInBounds 2 (.ref e1)))
noncomputable def aE0(K:Frag)(e1:Addr)(E:Value→Shared→Prop)(v:Value)(s:Shared):Prop :=
 ∃ e C d t C1 d1 vs1,v=.ref e∧K.In s.heap∧aJt K C=true∧s.heap.get? e=some (exO C d (vsX t))∧e1≠e∧s.heap.get? e1=some (exO C1 d1 vs1)∧vs1[2]?=some .none∧E (.ref e) { s with heap:=upX s.heap e e1 }
theorem aQl{K:Frag}{E:Value→Shared→Prop}{s:Shared}{h₀:Heap}{L e e1 C C1 d d1 t:Addr}{vs1:Array Value}{m:Str→Option Value}{ledger rest:List (Addr×Obj)}(F:Fr h₀ L s.heap m)(X:K.In h₀)(N:News h₀ L s.heap ledger)
  (hx1:(e1,exO C1 d1 vs1)∈ledger) (pk:Pick (e,exO C d (vsX t)) ledger rest) (aw:∀ p∈rest,p.1≠e) (n:e1≠e) (h2:vs1[2]?=some .none) (hv:aJt K C=true) (h:∀ h',Fr h₀ L h' m→News h₀ L h' ((e,exO C d (vsN t e1))::rest)→E (.ref e) { s with heap:=h' }):aE0 K e1 E (.ref e) s:=by
 refine⟨e,C,d,t,C1,d1,vs1,rfl,X.keeps F.keep,hv,(N _ pk.mem.1).1,n,(N _ hx1).1,h2,?_⟩
 have N₁:News h₀ L s.heap ([]++(e,exO C d (vsX t))::rest):=fun p hp=>by
  rcases List.mem_cons.mp hp with rfl|hp
  ·exact N _ pk.mem.1
  ·exact N _ (pk.mem.2 _ hp)
 refine aBa (news_upd (f:=Obj.mapFields (·.setIfInBounds 3 .none)) (o':=exO C d #[.ref t,.none,.none,.none,.bool false,.none]) F N₁ (fun _ q=>nomatch q) aw rfl rfl) fun F₂ N₂=>?_
 refine aBa (news_upd (f:=Obj.mapFields (·.setIfInBounds 4 (.bool true))) (o':=exO C d #[.ref t,.none,.none,.none,.bool true,.none]) F₂ N₂ (fun _ q=>nomatch q) aw rfl rfl) fun F₃ N₃=>?_
 refine aBa (news_upd (f:=Obj.mapFields (·.setIfInBounds 2 (.ref e1))) (o':=exO C d (vsN t e1)) F₃ N₃ (fun _ q=>nomatch q) aw rfl rfl) fun F₄ N₄=>?_
 exact h _ F₄ N₄
theorem aCg:entryFor table "proto.unchain"=some Builtin.«proto.unchain»:=entryFor_of_tree (by kernel_rfl)
section
variable {prog:Program} {w:World} {A:Around} {E:Value→Shared→Prop} {s:Shared} {env:Env} {Q:Flow→Shared→Prop} {x:PySem.Expr} {pos cp:Pos} {cpos:Nat} {e1:Addr}
theorem aIu{K:Frag}(hh:A.handled=none)(h:wpAny (model prog w) A (eval x env) (fun v s₁=>aIe K E v s₁) E s):wpAny (model prog w) A (exec (.Raise (some x) none pos) env) Q E s:=by
 rw[arm_exec_Raise]
 have h':wpAny (model prog w) A (do let v ← eval x env;standAt pos;pure v) (fun v s₁=>aIe K E v s₁) E s:=wpAny_bind (wpAny_mono h (fun v s₁ h₁=>wpAny_bind (wpAny_standAt (wpAny_pure h₁))) fun _ _ x=>x)
 refine wpAny_bind (wpAny_standAt ?_)
 show wpAny _ _ (raiseStmt env (some (do let v ← eval x env;standAt pos;pure v)) none) _ _ _
 unfold raiseStmt
 refine wpAny_bind (wpAny_mono h' (fun v s₁ h₁=>?_) fun _ _ x=>x)
 refine bRf h₁ fun e C d t r7_4 X hv he hE=>?_
 subst r7_4
 obtain⟨nm,qn,N',bs,bm,hdct,sn,sub,ab,col,dd,k0,k1,k2,k3,k5,hC,hq⟩:=aJs X hv
 have hcB:=aFq (.type "BaseException") (.inr (.inl rfl)) hq
 obtain⟨hp,g,dr,tk,os⟩:=s₁
 repeat (first|with_reducible refine wpAny_loadPart_at he ?_|with_reducible refine wpAny_loadPart_at hC ?_|(with_reducible refine wpAny_isSubtype_exc hC ?_;rw[hcB])|wp_step)
 exact wpAny_raiseNew_none hh hE
theorem aG9{α:Type}{e:Addr}{C1 d1:Addr}{vs1:Array Value}{Q:α→Shared→Prop}(hh:A.handled=some (.ref e1))(n:e1≠e)(h1:s.heap.get? e1=some (exO C1 d1 vs1))(h2:vs1[2]?=some .none){oe:Obj}{ws:Array Value}(he:s.heap.get? e=some oe)(hd:oe.data=.fields ws)(hsz:2<ws.size)
  (h:E (.ref e) { s with heap:=s.heap.update e (Obj.mapFields (·.setIfInBounds 2 (.ref e1))) }):wpAny (model prog w) A (raiseNew (.ref e):Sem α) Q E s:=by
 unfold raiseNew
 refine wpAny_bind (wpAny_handled ?_)
 rw[hh]
 dsimp only
 rw[if_pos (by simp[n])]
 refine wpAny_bind (wpAny_holding (wpAny_runValue (codeAny_builtin aCg ?_)))
 unfold Builtin.«proto.unchain»
 dsimp only
 refine wpAny_bind (wpAny_field h1 rfl h2 ?_)
 rw[if_pos (by simp)]
 refine wpAny_pure ?_
 refine wpAny_bind (wpAny_setField he hd hsz ?_)
 exact wpAny_throw h
theorem aK8{K:Frag}(hh:A.handled=some (.ref e1))(h:wpAny (model prog w) A (eval x env) (fun v s₁=>aE0 K e1 E v s₁) E s):wpAny (model prog w) A (exec (.Raise (some x) (some (.Constant .none cpos cp)) pos) env) Q E s:=by
 rw[arm_exec_Raise]
 have h':wpAny (model prog w) A (do let v ← eval x env;standAt pos;pure v) (fun v s₁=>aE0 K e1 E v s₁) E s:=wpAny_bind (wpAny_mono h (fun v s₁ h₁=>wpAny_bind (wpAny_standAt (wpAny_pure h₁))) fun _ _ x=>x)
 refine wpAny_bind (wpAny_standAt ?_)
 show wpAny _ _ (raiseStmt env (some (do let v ← eval x env;standAt pos;pure v)) (some (do let c ← eval (.Constant .none cpos cp) env;standAt pos;pure c))) _ _ _
 unfold raiseStmt
 refine wpAny_bind (wpAny_mono h' (fun v s₁ h₁=>?_) fun _ _ x=>x)
 refine bNh h₁ fun e C d t C1 d1 vs1 z_=>bNm z_ fun r10_7 X hv he hne he1 h2 hE=>?_
 subst r10_7
 obtain⟨nm,qn,N',bs,bm,hdct,sn,sub,ab,col,dd,k0,k1,k2,k3,k5,hC,hq⟩:=aJs X hv
 have hcB:=aFq (.type "BaseException") (.inr (.inl rfl)) hq
 obtain⟨hp,g,dr,tk,os⟩:=s₁
 repeat (first|with_reducible refine wpAny_loadPart_at he ?_|with_reducible refine wpAny_loadPart_at hC ?_|(with_reducible refine wpAny_isSubtype_exc hC ?_;rw[hcB])|wp_step)
 have hCe:e≠C:=fun z=>by rw[z] at he;rw[show Heap.get? _ C=_ from hC] at he;cases he
 have e1':((hp.update e (Obj.mapFields (·.setIfInBounds 3 Value.none))).update e (Obj.mapFields (·.setIfInBounds 4 (Value.bool true)))).get? e1=some (exO C1 d1 vs1):=by
  rw[Heap.get?_update_other _ _ (Ne.symm hne),Heap.get?_update_other _ _ (Ne.symm hne)];exact he1
 have eC':((hp.update e (Obj.mapFields (·.setIfInBounds 3 Value.none))).update e (Obj.mapFields (·.setIfInBounds 4 (Value.bool true)))).get? C=some (excClassObj nm qn C N' bs bm hdct sn sub ab col dd k0 k1 k2 k3 k5 "ValueError.__new__"):=by
  rw[Heap.get?_update_other _ _ hCe,Heap.get?_update_other _ _ hCe];exact hC
 have ee':((hp.update e (Obj.mapFields (·.setIfInBounds 3 Value.none))).update e (Obj.mapFields (·.setIfInBounds 4 (Value.bool true)))).get? e=some (exO C d #[.ref t,.none,.none,.none,.bool true,.none]):=by
  rw[Heap.get?_update_self _ (Heap.get?_update_self _ he rfl) rfl];rfl
 refine wpAny_loadPart_at eC' ?_
 repeat (first|with_reducible refine wpAny_loadPart_at ee' ?_|with_reducible refine wpAny_loadPart_at eC' ?_|wp_step)
 exact aG9 hh hne e1' h2 ee' rfl (by simp) hE
end
section
variable {w:World} {A₀:Around} {s:Shared} {L:Addr} {h₀ base g:Heap} {m mg mb:Str→Option Value} {p:Program} {loose:List Str} {mean:ExcName→Option Value} {outer:List Env} {news:List (Addr×Obj)} {env:Env}
theorem aSm(F:Fr h₀ L s.heap m)(N:News h₀ L s.heap news)(D:KtsDicts (outer.filterMap (·.frame)) h₀)(kg:Kept s.heap g (news.map (·.1)))(hf:env.frame=some L):KtsDicts ((env::outer).filterMap (·.frame)) g:=by
 have nin:∀ b,(b=L∨∃ o,h₀.get? b=some o)→b∉news.map (·.1):=fun b hb hm=>by
  refine aAd (List.mem_map.mp hm) fun p hp r0_2=>?_
  subst r0_2
  rcases hb with z|⟨o,z⟩
  ·exact (N p hp).2.1 z
  ·rw[(N p hp).2.2] at z;cases z
 intro b hb
 rw[List.filterMap_cons,hf] at hb
 rcases List.mem_cons.mp hb with rfl|hb
 ·refine aSk F.ns fun o es n ho hd _=>?_
  exact⟨o,es,n,kg.keep _ _ ho (nin _ (.inl rfl)),hd⟩
 ·refine bAp (D b hb) fun o es n ho hd=>?_
  exact⟨o,es,n,kg.keep _ _ (F.keep _ _ ho) (nin _ (.inr ⟨o,ho⟩)),hd⟩
variable {prog:Program} {K:Params→Frag} {hd:Option Value} {lv:Nat} {f:Addr} {args:List Value} {ins ledger rest:List (Addr×Obj)} {Post:Value→List (Addr×Obj)→Prop} {PostX:Addr→Obj→Value→List (Addr×Obj)→Prop} {dp un:Nat} {gd:Option (List Code)} {cn:Str} {cs:Scope} {a:Addr} {ccd:Value} {cl:List (Str×Addr)} {Q E:Value→Shared→Prop}
end
theorem News.swap{h₀ h:Heap}{L:Addr}{a b:Addr×Obj}{l:List (Addr×Obj)}(N:News h₀ L h (a::b::l)):News h₀ L h (b::a::l):=fun p hp=>N p (by
 rcases List.mem_cons.mp hp with rfl|hp
 ·exact .tail _ (.head _)
 ·rcases List.mem_cons.mp hp with rfl|hp
  ·exact .head _
  ·exact .tail _ (.tail _ hp))
section
open Sem (wp)
noncomputable def CtxOk(h:Heap)(e1:Addr)(A:List Addr):Prop :=
 ∃ C d vs,h.get? e1=some (exO C d vs)∧e1∉A∧(vs[2]?=some .none∨∃ e0 C0 d0 vs0,vs[2]?=some (.ref e0)∧h.get? e0=some (exO C0 d0 vs0)∧e0∉A∧e0≠e1∧vs0[2]?=some .none)
theorem CtxOk.keeps{h h':Heap}{e1:Addr}{A:List Addr}(c:CtxOk h e1 A)(k:∀ b o,h.get? b=some o→b∉A→h'.get? b=some o):CtxOk h' e1 []:=by
 refine aSk c fun C d vs he n r=>?_
 refine⟨C,d,vs,k _ _ he n,List.not_mem_nil,?_⟩
 rcases r with r|⟨e0,C0,d0,vs0,h2,h0,n0,ne,r⟩
 ·exact .inl r
 ·exact .inr ⟨e0,C0,d0,vs0,h2,k _ _ h0 n0,List.not_mem_nil,ne,r⟩
section
variable {prog:Program} {w:World} {A:Around} {E:Value→Shared→Prop} {s:Shared} {e e1:Addr}
theorem aK1{Q:Value→Shared→Prop}(c:CtxOk s.heap e1 [])(ne:∀ o,s.heap.get? e=some o→∀ C d vs,o≠exO C d vs)(h:Q .none s) :
  wpAny (model prog w) A (runValue (.builtin "proto.unchain" ⟨[.ref e,.ref e1,.ref e1,.bool false],[]⟩)) Q E s:=by
 obtain⟨C,d,vs,h1,-,r⟩:=c
 refine wpAny_runValue (codeAny_builtin aCg ?_)
 unfold Builtin.«proto.unchain»
 dsimp only
 rcases r with r|⟨e0,C0,d0,vs0,h2,h0,-,n0,r⟩
 ·refine wpAny_bind (wpAny_field h1 rfl r ?_)
  rw[if_pos (by simp)]
  exact wpAny_pure h
 ·refine wpAny_bind (wpAny_field h1 rfl h2 ?_)
  have ne0:e0≠e:=fun z=>ne _ (z▸h0) _ _ _ rfl
  rw[if_neg (by simp),if_neg (by simp[ne0]),if_neg (by simp[n0])]
  simp only[Bool.false_eq_true,if_false]
  refine wpAny_bind (wpAny_pure (wpAny_pure ⟨Code.quiet_builtin _ (by decide +kernel),codeAny_builtin aCg ?_⟩))
  unfold Builtin.«proto.unchain»
  dsimp only
  refine wpAny_bind (wpAny_field h0 rfl r ?_)
  rw[if_pos (by simp)]
  exact wpAny_pure h
theorem aQy{α:Type}{Q:α→Shared→Prop}{oe:Obj}{ws:Array Value}(hh:A.handled=some (.ref e1))(c:CtxOk s.heap e1 [])(ne:∀ o,s.heap.get? e=some o→∀ C d vs,o≠exO C d vs)(he:s.heap.get? e=some oe)(hd:oe.data=.fields ws)(hz:2<ws.size)
  (h:E (.ref e) { s with heap:=s.heap.update e (Obj.mapFields (·.setIfInBounds 2 (.ref e1))) }):wpAny (model prog w) A (raiseNew (.ref e):Sem α) Q E s:=by
 have n:e1≠e:=fun z=>by
  refine bAp c fun C d vs h1 _=>?_
  exact ne _ (z▸h1) _ _ _ rfl
 unfold raiseNew
 refine wpAny_bind (wpAny_handled ?_)
 rw[hh]
 dsimp only
 rw[if_pos (by simp[n])]
 refine wpAny_bind (wpAny_holding (aK1 c ne ?_))
 exact wpAny_bind (wpAny_setField he hd hz (wpAny_throw h))
theorem aU1{it t:Addr}{i:Nat}{items:Array Value}{Q:Option Value→Shared→Prop}(hh:A.handled=some (.ref e1))(c:CtxOk s.heap e1 [])(hit:IsTupIter s.heap it t i)(ht:IsTup s.heap t items)(hx:items[i]?=none)
  (hQ:∀ h',Heap.ExtBut it s.heap h'→Q none { s with heap:=h' }):wpAny (model prog w) A (pyNext (.ref it)) Q E s:=by
 refine aDm (id hit) fun oi ho hc hd=>?_
 refine aDm (id ht) fun ot hot _ z3_3=>?_
 obtain⟨nt,hdt⟩:=z3_3
 unfold pyNext
 refine wpAny_bind (wpAny_attempt (wpAny_callSpecial?_slot (name:=Str.ofString "__next__") hit.typeIs slot_tupleiter_next (wpAny_call_entry slot_tupleiter_next hit.typeIs entry_tupleiter_next ?_ (args_tupleiter_next _))))
 show wpAny _ _ (field (.ref it) 0 >>= _) _ _ s
 refine wpAny_bind (wpAny_field ho hd (x:=.ref t) rfl ?_)
 show wpAny _ _ (if (Value.ref t==Value.none)=true then _ else _) _ _ s
 rw[if_neg (by simp)]
 show wpAny _ _ (field (.ref it) 1 >>= _) _ _ s
 refine wpAny_bind (wpAny_field ho hd (x:=.int i 0) rfl ?_)
 show wpAny _ _ (seqItems? (.ref t) >>= _) _ _ s
 refine wpAny_bind (wpAny_seqItems hot hdt ?_)
 simp only[Int.toNat_natCast,hx]
 refine wpAny_bind (wpAny_rule (wpAny_bind (wpAny_setField ho hd (by simp) ?_)))
 show wpAny _ _ (newExc (.type "StopIteration") [] >>= _) _ _ _
 refine wpAny_bind ?_
 simp only[newExc,newTuple]
 refine wpAny_bind (wpAny_newObj_type ?_ (by size_fits))
 refine wpAny_bind (m:=firstArgMember _ _) (wpAny_of_eq (a:=Value.none) (by first|rfl|(simp only[firstArgMember];rfl)) ?_)
 refine wpAny_newObj_type ?_ (by size_fits)
 generalize hX:(Obj.mapFields (fun x=>x.setIfInBounds 0 Value.none):Obj→Obj)=f
 have push_ne:∀ (h:Heap) (x:Obj) b o,h.get? b=some o→(h.push x).get? b=some o:=fun h x b o q=>Heap.get?_push_of_some x q
 dsimp only
 generalize hw:((#[Value.ref (s.heap.update it f).objs.size,Value.none,Value.none,Value.none,Value.bool false,Value.none]++ownMembersOf (Value.type "StopIteration") []:Array Value))=ws
 have hz:2<ws.size:=by rw[← hw,Array.size_append];simp;lia
 have up:∀ b o,b≠it→s.heap.get? b=some o→(((s.heap.update it f).push { cls:=Value.type "tuple",data:=Data.seq #[] }).push { cls:=Value.type "StopIteration",data:=Data.fields ws }).get? b=some o:=fun b o hb q =>
  push_ne _ _ _ _ (push_ne _ _ _ _ (by rw[Heap.get?_update_other _ _ (Ne.symm hb)];exact q))
 have ni:∀ C d vs,oi≠exO C d vs:=fun C d vs z=>by rw[z] at hc;cases hc
 have c':CtxOk (((s.heap.update it f).push { cls:=Value.type "tuple",data:=Data.seq #[] }).push { cls:=Value.type "StopIteration",data:=Data.fields ws }) e1 []:=by
  refine aSk c fun C d vs h1 m1 r=>?_
  have b1:e1≠it:=fun z=>by rw[z,ho] at h1;exact ni _ _ _ (Option.some.inj h1)
  refine⟨C,d,vs,up _ _ b1 h1,m1,?_⟩
  rcases r with r|⟨e0,C0,d0,vs0,h2,h0,m0,n0,r⟩
  ·exact .inl r
  ·have b0:e0≠it:=fun z=>by rw[z,ho] at h0;exact ni _ _ _ (Option.some.inj h0)
   exact .inr ⟨e0,C0,d0,vs0,h2,up _ _ b0 h0,m0,n0,r⟩
 have he:=Heap.get?_push_size ((s.heap.update it f).push { cls:=Value.type "tuple",data:=Data.seq #[] }) (o:={ cls:=Value.type "StopIteration",data:=Data.fields ws }) rfl
 refine aQy hh c' (fun o q C d vs z=>?_) he rfl hz ?_
 ·rw[he] at q;cases q;cases z
 have he':=Heap.get?_update_self (Obj.mapFields (·.setIfInBounds 2 (Value.ref e1))) he rfl
 refine wpAny_bind (wpAny_isInstance (T:="StopIteration") (b:=true) ⟨_,he',rfl⟩ isSubtype_stop ?_)
 rw[if_pos rfl]
 refine wpAny_pure (hQ _ fun b o hb q=>?_)
 rw[Heap.get?_update_other _ _ (fun z=>?_)]
 ·exact up b o hb q
 ·have l1:=Heap.lt_size q
  have l2:(s.heap.update it f).objs.size=s.heap.objs.size:=by simp[Heap.update,Heap.objs]
  have l3:((s.heap.update it f).push { cls:=Value.type "tuple",data:=Data.seq #[] }).objs.size=(s.heap.update it f).objs.size+1:=Heap.size_push ..
  rw[l3,l2] at z
  rw[← z] at l1
  exact Nat.lt_irrefl _ (Nat.lt_of_lt_of_le l1 (Nat.le_succ _))
theorem aRo{t:Addr}{items:Array Value}{Q:List Value→Shared→Prop}(hh:A.handled=some (.ref e1))(c:CtxOk s.heap e1 [])(ht:IsTup s.heap t items)
  (hQ:∀ h',Heap.ExtBut s.heap.objs.size s.heap h'→Q items.toList { s with heap:=h' }):wpAny (model prog w) A (unpackItems (.ref t) items.size none) Q E s:=by
 have hlt:t≠s.heap.objs.size:=by obtain⟨o,ho,_⟩:=ht;exact Nat.ne_of_lt (Heap.lt_size ho)
 unfold unpackItems notIterableAtAll
 refine wpAny_bind (wpAny_bind (wpAny_specialOf ht.typeIs slot_tuple_iter.lookup (wpAny_pure ?_)))
 simp only[Option.isNone_some,Bool.false_eq_true,if_false]
 refine wpAny_bind (wpAny_holding (iter_tuple ht ?_))
 refine wpAny_bind (wpAny_holding (draw_tuple hlt items.size 0 _ _ ⟨_,Heap.get?_push_size _ rfl,rfl,rfl⟩ (ht.push _) (by lia) fun h₁ it₁ sb=>?_))
 have all:List.take items.size (List.drop 0 items.toList)=items.toList:=by rw[List.drop_zero];exact List.take_of_length_le (by simp)
 rw[all,if_neg (by simp)]
 have stays:∀ b o,s.heap.get? b=some o→h₁.get? b=some o:=fun b o q=>sb.extBut b o (Nat.ne_of_lt (Heap.lt_size q)) (Heap.get?_push_of_some _ q)
 refine wpAny_bind (wpAny_holding (aU1 hh (c.keeps fun b o q _=>stays b o q) it₁ ((ht.push _).extBut sb.extBut hlt) (by simp) fun h₂ x₂=>?_))
 simp only[Option.isSome_none,Bool.false_eq_true,if_false]
 exact wpAny_pure (hQ h₂ fun b o hb q=>x₂ b o hb (stays b o q))
end
end
section
variable {prog:Program} {w:World} {A:Around} {s:Shared} {Q E:Value→Shared→Prop} {a b n r q:Int} {t u:Tok}
theorem bI4(hn:0≤n)(e:(2:Int) ^ n.toNat=q)(hq:0<q)(h:Q (.int (a/q) s.toks) { s with toks:=s.toks+1 }):wpAny (model prog w) A (binaryOp .RShift (.int a t) (.int n u)) Q E s :=
 rshift_int hn (by rw[e,Int.fdiv_eq_ediv_of_nonneg _ (Int.le_of_lt hq)];exact h)
theorem bMt(hn:0≤n)(hn2:n≤64)(h0:0≤a)(h1:a<18446744073709551616)(e:(2:Int) ^ n.toNat=q)(h:Q (.int (a*q) s.toks) { s with toks:=s.toks+1 }):wpAny (model prog w) A (binaryOp .LShift (.int a t) (.int n u)) Q E s :=
 lshift_int_small hn (by lia) (by lia) (by rw[e];exact h)
end
theorem aZd(x:Int):Builtin.bitAnd x 128=x/128%2*128:=kbt_bit x 7
theorem aZe(x:Int):Builtin.bitAnd x 8=x/8%2*8:=kbt_bit x 3
theorem aUs(x:Int):Builtin.bitAnd x 131072=x/131072%2*131072:=kbt_bit x 17
theorem aUt(x:Int):Builtin.bitAnd x 2048=x/2048%2*2048:=kbt_bit x 11
noncomputable def aBd:Nat→Int→Int→Int
 | 0,_,_=>0
 |n+1,x,y=>2*aBd n (x/2) (y/2)+(if y%2=1 then x%2 else 0)
theorem aAy:∀ (n:Nat) (x y:Int),0≤y→y<2 ^ n→Builtin.bitAnd x y=aBd n x y
 | 0,x,y,h0,h1=>by
  have:y=0:=by simp at h1;lia
  subst this
  have:=bitAnd_range x (Int.le_refl 0)
  simp only[aBd];lia
 |n+1,x,y,h0,h1=>by
  rw[kbt_halves,aAy n (x/2) (y/2) (by lia) (by rw[Int.pow_succ] at h1;lia),aBd]
  congr 1
  have:=Int.emod_two_eq x
  by_cases hy:y%2=1<;>simp only[hy,and_true,and_false,if_true,if_false]
  rcases this with h|h<;>simp[h]
noncomputable def dis:Nat→Int→Int→Bool
 | 0,_,_=>true
 |n+1,a,b=>!(a%2==1&&b%2==1)&&dis n (a/2) (b/2)
theorem aFw:∀ (n:Nat) (x a b:Int),dis n a b=true→aBd n x (a+b)=aBd n x a+aBd n x b
 | 0,_,_,_,_=>rfl
 |n+1,x,a,b,h=>by
  have h:=Bool.and_eq_true_iff.mp h
  have ih:=aFw n (x/2) (a/2) (b/2) h.2
  have h1:¬ (a%2=1∧b%2=1):=fun q=>by
   have:=h.1
   simp[q.1,q.2] at this
  have e:(a+b)/2=a/2+b/2:=by lia
  unfold aBd
  rw[e,ih]
  rcases Int.emod_two_eq a with ha|ha
  ·rw[show (a+b)%2=b%2 by lia,ha,if_neg (show ¬ (0:Int)=1 by decide)];lia
  ·have hb:b%2=0:=by have:=Int.emod_two_eq b;lia
   rw[show (a+b)%2=1 by lia,ha,hb,if_pos rfl,if_neg (show ¬ (0:Int)=1 by decide)];lia
theorem aBw{x a b c:Int}(h:(decide (0≤a)&&(decide (0≤b)&&(decide (a+b=c)&&(decide (c<4294967296)&&dis 32 a b))))=true):Builtin.bitAnd x c=Builtin.bitAnd x a+Builtin.bitAnd x b:=by
 simp only[Bool.and_eq_true,decide_eq_true_eq] at h
 obtain⟨h1,h2,h3,h4,h5⟩:=h
 subst h3
 have p:(2:Int) ^ 32=4294967296:=rfl
 rw[aAy 32 x (a+b) (by lia) (by lia),aAy 32 x a h1 (by lia),aAy 32 x b h2 (by lia),aFw 32 x a b h5]
theorem aC6(x:Int):Builtin.bitAnd x 6144=x/2048%4*2048:=by
 rw[aBw (c:=6144) (a:=2048) (b:=4096) (by decide),aUt,show Builtin.bitAnd x 4096=x/4096%2*4096 from kbt_bit x 12]
 lia
theorem aI4(x p:Int)(hp:0<p):x%(p*2)=2*(x/2%p)+x%2:=by
 have h1:=Int.emod_nonneg (x/2) (show p≠0 by lia)
 have h2:=Int.emod_lt_of_pos (x/2) hp
 have h3:=Int.emod_add_mul_ediv (x/2) p
 have h4:x=(2*(x/2%p)+x%2)+(p*2)*(x/2/p):=by
  have:(p*2)*(x/2/p)=2*(p*(x/2/p)):=by rw[Int.mul_comm p 2,Int.mul_assoc]
  lia
 exact (kbt_unique (a:=x) (b:=p*2) (q:=x/2/p) (by lia) (by lia) (by lia) (by lia)).2
theorem aFv:∀ (n:Nat) (x y:Int),0≤y→y<2 ^ n→aBd n x y+aBd n x (2 ^ n-1-y)=x%2 ^ n
 | 0,x,y,_,_=>by simp[aBd]
 |n+1,x,y,h0,h1=>by
  have hp:=kbt_pos n
  have e:=aFv n (x/2) (y/2) (by lia) (by rw[Int.pow_succ] at h1;lia)
  have h2:(2 ^ (n+1)-1-y)/2=2 ^ n-1-y/2:=by rw[Int.pow_succ];lia
  have h3:(2 ^ (n+1)-1-y)%2=1-y%2:=by rw[Int.pow_succ];lia
  rw[aBd,aBd,h2,h3,Int.pow_succ,aI4 x _ hp,← e]
  rcases Int.emod_two_eq y with h|h<;>simp[h]<;>lia
theorem aG0{x m k:Int}(h0:0≤x)(h1:x<4294967296)(hm:0≤m)(hk:0≤k)(e:m+k=4294967295):Builtin.bitAnd x m=x-Builtin.bitAnd x k:=by
 have h:=aFv 32 x k hk (by simp;lia)
 have e2:(2 ^ 32-1-k:Int)=m:=by simp;lia
 rw[e2,← aAy 32 x k hk (by simp;lia),← aAy 32 x m hm (by simp;lia)] at h
 simp at h;lia
theorem aZp{x:Int}(h0:0≤x)(h1:x<4294967296):Builtin.bitAnd x 4294967293=x-x/2%2*2:=by
 rw[aG0 h0 h1 (k:=2) (by decide) (by decide) (by decide)]
 have:=kbt_bit x 1;simp at this;rw[this]
theorem aZo{x:Int}(h0:0≤x)(h1:x<4294967296):Builtin.bitAnd x 4294967292=x-x%4:=by
 rw[aG0 h0 h1 (k:=3) (by decide) (by decide) (by decide),bitAnd_m2]
theorem bTk{a b c x:Int}:x-(a*8+(b*128+c*2048))=x-8*a-128*b-2048*c:=by lia
theorem bTj{a b c d e f g h i:Int}:a*2+(b*8+(c*32+(d*128+(e*256+(f*2048+(g*131072+(h*262144+i*524288)))))))=2*a+8*b+32*c+128*d+256*e+2048*f+131072*g+262144*h+524288*i:=by lia
theorem aPs{x:Int}(h0:0≤x)(h1:x<4294967296):Builtin.bitAnd x 4294961015=x-8*(x/8%2)-128*(x/128%2)-2048*(x/2048%4):=by
 rw[aG0 h0 h1 (k:=6280) (by decide) (by decide) (by decide),aBw (c:=6280) (a:=8) (b:=6272) (by decide),aZe,aBw (c:=6272) (a:=128) (b:=6144) (by decide),aZd,aC6]
 exact bTk
theorem aEy{x:Int}:Builtin.bitAnd x 924074=2*(x/2%2)+8*(x/8%2)+32*(x/32%2)+128*(x/128%2)+256*(x/256%2)+2048*(x/2048%4)+131072*(x/131072%2)+262144*(x/262144%2)+524288*(x/524288%2):=by
 rw[aBw (c:=924074) (a:=2) (b:=924072) (by decide),aBw (c:=924072) (a:=8) (b:=924064) (by decide),aBw (c:=924064) (a:=32) (b:=924032) (by decide),aBw (c:=924032) (a:=128) (b:=923904) (by decide),aBw (c:=923904) (a:=256) (b:=923648) (by decide),aBw (c:=923648) (a:=6144) (b:=917504) (by decide),aBw (c:=917504) (a:=131072) (b:=786432) (by decide),aBw (c:=786432) (a:=262144) (b:=524288) (by decide),aZe,aZd,aUs,aC6,
  show Builtin.bitAnd x 2=x/2%2*2 from kbt_bit x 1,show Builtin.bitAnd x 32=x/32%2*32 from kbt_bit x 5,show Builtin.bitAnd x 256=x/256%2*256 from kbt_bit x 8,show Builtin.bitAnd x 262144=x/262144%2*262144 from kbt_bit x 18,show Builtin.bitAnd x 524288=x/524288%2*524288 from kbt_bit x 19]
 exact bTj
theorem aT1{a b:Int}(ha:a%4294967296=0)(h0:0≤b)(h1:b<4294967296):Builtin.bitOr a b=a+b:=by
 rw[bitOr_and]
 have e:Builtin.bitAnd a b=0:=by
  rw[aAy 32 a b h0 (by simpa using h1)]
  have:∀ (n:Nat) (a b:Int),a%2 ^ n=0→aBd n a b=0:=by
   intro n
   induction n with
   |zero=>intro a b _;rfl
   |succ n ih =>
    intro a b h
    have h2:a%2=0:=by
     have:=Int.emod_emod_of_dvd a (show (2:Int)∣2 ^ (n+1) from⟨2 ^ n,by rw[Int.pow_succ,Int.mul_comm]⟩)
     rw[h] at this;simpa using this.symm
    have h3:a/2%2 ^ n=0:=by
     rw[Int.pow_succ] at h
     have hd:(2 ^ n*2:Int)∣a:=Int.dvd_of_emod_eq_zero h
     obtain⟨k,rfl⟩:=hd
     apply Int.emod_eq_zero_of_dvd
     refine⟨k,?_⟩
     rw[show (2 ^ n*2*k:Int)=2*(2 ^ n*k) by rw[Int.mul_comm (2 ^ n) 2,Int.mul_assoc]]
     exact Int.mul_ediv_cancel_left _ (by decide)
    simp only[aBd,ih _ _ h3,h2]
    simp
  exact this 32 a b (by simpa using ha)
 lia
noncomputable def subB:Nat→Int→Int→Bool
 | 0,_,_=>true
 |n+1,y,z=>(z%2==0||y%2==1)&&subB n (y/2) (z/2)
theorem aPr : ∀ (n : Nat) (x y z : Int), subB n y z = true → aBd n (Builtin.bitAnd x y) z = aBd n x z
  | 0, _, _, _, _ => rfl
  | n + 1, x, y, z, h => by
    rw [subB, Bool.and_eq_true, Bool.or_eq_true, beq_iff_eq, beq_iff_eq] at h
    have e := kbt_halves x y
    have e1 : Builtin.bitAnd x y / 2 = Builtin.bitAnd (x / 2) (y / 2) := by rw [e]; split <;> lia
    rw [aBd, aBd, e1, aPr n _ _ _ h.2]
    by_cases hz : z % 2 = 1
    · have hy : y % 2 = 1 := by rcases h.1 with h | h; · lia
                                · exact h
      have e2 : Builtin.bitAnd x y % 2 = x % 2 := by
        rw [e]; simp only [hy, and_true]; split <;> lia
      rw [e2]
    · simp only [hz, if_false]
theorem aPt(x:Int):Builtin.bitAnd (Builtin.bitAnd x 924074) 6144=x/2048%4*2048:=by
 rw[aAy 13 _ 6144 (by decide) (by decide),aPr 13 x 924074 6144 (by decide),← aAy 13 _ 6144 (by decide) (by decide),aC6]
theorem aD5(A:Around)(a:Args):(A.under (.builtin "type.__call__" a)).units=A.units+1:=by
 show A.units+Code.cUnits (.builtin "type.__call__" a)=_
 have:Code.cUnits (.builtin "type.__call__" a)=1:=by rfl
 rw[this]
section
variable {prog:Program} {w:World} {A:Around} {s:Shared} {Q E:Value→Shared→Prop} {a b n r q:Int} {t u:Tok}
theorem bTo(hn:0≤n)(h:Q (.int 0 s.toks) { s with toks:=s.toks+1 }):wpAny (model prog w) A (binaryOp .RShift (.int 0 t) (.int n u)) Q E s :=
 rshift_int hn (by rw[Int.zero_fdiv];exact h)
end
noncomputable def aMq(st md:Int):Int:=st-8*(st/8%2)-128*(st/128%2)-2048*(st/2048%4)+128*(st/8%2)+2048*md
theorem aKd{a b:Int}(e:Builtin.bitAnd a b=0):Builtin.bitOr a b=a+b:=by rw[bitOr_and,e];lia
theorem bFa(x:Int):Builtin.bitAnd x 4096=x/4096%2*4096:=kbt_bit x 12
theorem aL1(st:Int):∃ q r,st-8*(st/8%2)-128*(st/128%2)-2048*(st/2048%4)=8192*q+r∧0≤r∧r<2048∧r/128%2=0:=by
 refine⟨st/8192,st%2048-8*(st/8%2)-128*(st/128%2),by lia,by lia,by lia,by lia⟩
theorem aMm{st md k:Int}(h5:0≤st)(h6:st<4294967296)(h7:0≤md)(h8:md≤3)(hk:(k=128∧st/8%2*8≠0)∨(k=0∧st/8%2*8=0)) :
  Builtin.bitOr (Builtin.bitOr (Builtin.bitAnd st (Builtin.bitXor 4294967295 (Builtin.bitOr (Builtin.bitOr 128 8) 6144))) k) (md*2048)=aMq st md:=by
 rw[show Builtin.bitXor 4294967295 (Builtin.bitOr (Builtin.bitOr 128 8) 6144)=4294961015 by decide,aPs h5 h6]
 unfold aMq
 refine bH3 (aL1 st) fun q r e r0 r1 r2=>?_
 rw[e]
 have hk':k=128*(st/8%2)∧(k=0∨k=128):=by lia
 rw[← hk'.1]
 have e1:Builtin.bitAnd (8192*q+r) k=0:=by
  rcases hk'.2 with z|z<;>rw[z]
  ·have:=bitAnd_range (8192*q+r) (Int.le_refl 0);lia
  ·rw[aZd];lia
 rw[aKd e1]
 have e2:Builtin.bitAnd (8192*q+r+k) (md*2048)=0:=by
  have:md=0∨md=1∨md=2∨md=3:=by lia
  rcases this with rfl|rfl|rfl|rfl
  ·have:=bitAnd_range (8192*q+r+k) (Int.le_refl 0);simp only[Int.zero_mul];lia
  ·rw[show (1:Int)*2048=2048 by decide,aUt];lia
  ·rw[show (2:Int)*2048=4096 by decide,bFa];lia
  ·rw[show (3:Int)*2048=6144 by decide,aC6];lia
 rw[aKd e2]
 lia
section
set_option tactic.hygienic true
theorem aIs{kvs:List (Int×Value)}{k:Int}:(without kvs k).length≤kvs.length:=by
 unfold without
 exact List.length_filter_le ..
theorem aFg{kvs:List (Int×Value)}{k:Int}{v:Value}:(stored kvs k v).length≤kvs.length+1:=by
 unfold stored
 split<;>simp
theorem aD7:∀ {kvs:List (Int×Value)} {k:Int} {v:Value},valueAt (stored kvs k v) k=some v:=by
 intro kvs k v
 unfold stored valueAt
 split
 ·rename_i h
  induction kvs with
  |nil=>simp at h
  |cons p r ih =>
   by_cases e:p.1=k
   ·simp[e]
   ·have:(r.any fun kv=>decide (kv.1=k))=true:=by simpa[e] using h
    have:=ih this
    simp only[List.map_cons,e,if_false]
    rw[List.find?_cons_of_neg (by simp[e])]
    exact this
 ·rename_i h
  induction kvs with
  |nil=>simp
  |cons p r ih =>
   have e:¬ p.1=k:=fun z=>h (by simp[z])
   rw[List.cons_append,List.find?_cons_of_neg (by simp[e])]
   exact ih fun z=>h (by simp only[List.any_cons,z,Bool.or_true])
section
variable {prog:Program} {w:World} {A:Around} {E:Value→Shared→Prop} {s:Shared} {h₀:Heap} {L d:Addr} {m:Str→Option Value} {news:List (Addr×Obj)} {g:Obj→List (Addr×Obj)} {o:Obj} {kvs:List (Int×Value)} {k:Int} {v dflt:Value} {t:Tok}
theorem cBr{Q:Unit→Shared→Prop}(F:Fr h₀ L s.heap m)(N:News h₀ L s.heap news)(U:UpdF d o news g)(hd:o.IsDictOf (intKind prog w) kvs)(hz:kvs.length≤1000)
  (h:∀ h' o' kvs' tk,Fr h₀ L h' m→News h₀ L h' (g o')→o'.IsDictOf (intKind prog w) kvs'→kvs'.length≤kvs.length+1→valueAt kvs' k=some v→Q () { s with heap:=h',toks:=tk }):wpAny (model prog w) A (setItem (.ref d) (.int k t) v) Q E s :=
 kda_set (knd:=intKind prog w) F N U hd (intKind_is _ _ _ _) (by rw[sizeLine_eq];omega) fun h' o' F' N' hd'=>h h' o' _ _ F' N' hd' aFg aD7
theorem bYw{Q:Value→Shared→Prop}(F:Fr h₀ L s.heap m)(N:News h₀ L s.heap news)(U:UpdF d o news g)(hd:o.IsDictOf (intKind prog w) kvs)(lo:(d==sysModules)=false)(hz:kvs.length≤1000)
  (h:∀ v h' o' kvs' tk,Fr h₀ L h' m→News h₀ L h' (g o')→o'.IsDictOf (intKind prog w) kvs'→kvs'.length≤kvs.length→Q v { s with heap:=h',toks:=tk }):wpAny (model prog w) A (call (.builtin "dict.pop") [.ref d,.int k t,dflt]) Q E s:=by
 cases e:valueAt kvs k with
 |some v=>exact kob_pop (knd:=intKind prog w) F N U hd (intKind_is _ _ _ _) (.inr ⟨_,rfl⟩) rfl (PySem.F.args_dict_pop_3 _ _ _) e (by rw[sizeLine_eq];omega) fun h' o' F' N' hd'=>h v h' o' _ _ F' N' hd' aIs
 |none =>
  have hg:g o=news:=by
   refine aYv U.split fun pre post e1 e2 _=>?_
   rw[e2,e1]
  have hm:(d,o)∈news:=by
   refine aGs U.split fun pre post e1 _=>?_
   rw[e1];simp
  have hD:s.heap.DictOf (intKind prog w) d kvs:=Heap.dictOf_iff.mpr ⟨o,(N _ hm).1,hd⟩
  exact call_meetsIn PySem.F.slot_dict_pop hD.typeIs PySem.F.entry_dict_pop (PySem.F.args_dict_pop_3 _ _ _) (meets_dict_pop_default (intKind prog w) d (intKind_is _ _ _ _) lo rfl dflt) ⟨kvs,hD,e,h _ _ o kvs _ F (hg▸N) hd (Nat.le_refl _)⟩
end
section
variable {prog:Program} {w:World} {A:Around} {E:Value→Shared→Prop} {s:Shared} {env:Env} {Q:Flow→Shared→Prop} {x:PySem.Expr} {pos cp:Pos} {cpos:Nat} {e1:Addr}
theorem aG8{K:Frag}{g:Heap}(_X:K.In g)(hh:A.handled=none)(h:wpAny (model prog w) A (eval x env) (fun v s₁=>aIe K E v s₁) E s):wpAny (model prog w) A (exec (.Raise (some x) none pos) env) Q E s:=aIu hh h
theorem aIv{K:Frag}{g:Heap}(_X:K.In g)(hh:A.handled=some (.ref e1))(h:wpAny (model prog w) A (eval x env) (fun v s₁=>aE0 K e1 E v s₁) E s):wpAny (model prog w) A (exec (.Raise (some x) (some (.Constant .none cpos cp)) pos) env) Q E s:=aK8 hh h
end
end
theorem aLj{M:Model}{A:Around}{env:Env}{E:Value→Shared→Prop}{x:Value}{s:Shared}(h:wpAny M A (noteFrame x env) (fun _ s''=>E x s'') E s):notedBy M A env E x s:=h
section
set_option tactic.hygienic true
noncomputable def aI9:List DictEntry→Bool
 | []=>true
 |e::r=>(match e.key with | .int k _=>e.hash==hashInt k|_=>false)&&aI9 r
theorem aHx{l:List DictEntry}(h:aI9 l=true):∀ e∈l,∃ k t,e.key=.int k t∧e.hash=hashInt k:=by
 induction l with
 |nil=>intro e he;exact absurd he List.not_mem_nil
 |cons a r ih =>
  intro x hx
  have h:=Bool.and_eq_true_iff.mp h
  rcases List.mem_cons.mp hx with rfl|hx
  ·have h1:=h.1
   split at h1
   ·rename_i k t hk;exact⟨k,t,hk,eq_of_beq h1⟩
   ·cases h1
  ·exact ih h.2 x hx
noncomputable def aOj(o:Obj):Bool:=o.cls==.type "dict"&&o.dict.isNone&&o.slots.isEmpty
noncomputable def aCf(K:Frag)(a:Addr)(k:Int):Option (Option Value) :=
 match K.lookup a with
 |some o=>match o.data with
  | .dict es _=>if aOj o&&aI9 es.toList then some (findBy Value.isInt es k) else none
  |_=>none
 |none=>none
section
variable {prog:Program} {w:World} {A:Around} {E:Value→Shared→Prop} {s:Shared} {K:Frag} {h h₀:Heap} {L a:Addr} {m:Str→Option Value} {k:Int} {r:Option Value} {v:Value} {t:Tok} {news:List (Addr×Obj)}
theorem aBp(X:K.In h)(e:aCf K a k=some r):∃ f,h.MapOf (intKind prog w) a f∧f k=r:=by
 unfold aCf at e
 split at e
 ·rename_i o ho
  split at e
  ·rename_i es n hd
   split at e
   ·rename_i hc
    rw[Bool.and_eq_true] at hc
    refine aBa hc fun h1 h2=>?_
    simp only[aOj,Bool.and_eq_true,beq_iff_eq,Option.isNone_iff_eq_none,Array.isEmpty_iff] at h1
    refine⟨fun k=>findBy Value.isInt es k,⟨o,es,n,X _ _ ho,⟨h1.1.1,h1.1.2,h1.2⟩,hd,fun x hx=>?_,fun _=>rfl⟩,Option.some.inj e⟩
    refine aGs (aHx h2 x (by simpa using hx)) fun k t hk hh=>?_
    exact⟨k,by rw[hk];exact intKind_is _ _ _ _,hh⟩
   ·cases e
  ·cases e
 ·cases e
theorem inI{Q:Value→Shared→Prop}(F:Fr h₀ L s.heap m)(X:K.In h₀)(e:aCf K a k=some r)(lo:(a==sysModules)=false)(h:∀ tk,Q (.bool r.isSome) { s with toks:=tk }):wpAny (model prog w) A (compareOp .In (.int k t) (.ref a)) Q E s:=by
 refine aAd (aBp (prog:=prog) (w:=w) (X.keeps F.keep) e) fun f hm hf=>?_
 exact wpAny_in_of (intKind_is prog w k t) lo hm (by rw[hf];exact h _)
theorem bZr{Q:Value→Shared→Prop}(F:Fr h₀ L s.heap m)(X:K.In h₀)(e:aCf K a k=some (some v))(h:∀ tk,Q v { s with toks:=tk }):wpAny (model prog w) A (getItem (.ref a) (.int k t)) Q E s:=by
 refine aAd (aBp (prog:=prog) (w:=w) (X.keeps F.keep) e) fun f hm hf=>?_
 exact wpAny_getItem_of (intKind_is prog w k t) hm hf (h _)
theorem bM5{value slice:PySem.Expr}{Q:Value→Shared→Prop}(F:Fr h₀ L s.heap m)(X:K.In h₀)(e:aCf K a k=some (some v))(h:∀ tk,Q v { s with toks:=tk })
  (hs:subscripted slice false (.ref a) (.int k t)=operate [.ref a,.int k t] (getItem (.ref a) (.int k t))):wpAny (model prog w) A (subscriptTail value slice (.ref a) (.int k t)) Q E s:=by
 refine aAd (aBp (prog:=prog) (w:=w) (X.keeps F.keep) e) fun f hm hf=>?_
 exact tail_any hm.typeIs PySem.F.slot_dict_getitem.lookup (bZr F X e h) hs
theorem bN7{Q:Value→Shared→Prop}(F:Fr h₀ L s.heap m)(X:K.In h₀)(e:aCf K a k=some r)(lo:(a==sysModules)=false)(hv:r.getD .none=v)(h:∀ tk,Q v { s with toks:=tk }):wpAny (model prog w) A (call (.builtin "dict.get") [.ref a,.int k t]) Q E s:=by
 refine aAd (aBp (prog:=prog) (w:=w) (X.keeps F.keep) e) fun f hm hf=>?_
 exact call_meetsIn PySem.F.slot_dict_get hm.typeIs PySem.F.entry_dict_get (PySem.F.args_dict_get_2 _ _) (meets_dict_get (intKind prog w) a (intKind_is _ _ _ _) lo) ⟨f,hm,by rw[hf,hv];exact h _⟩
theorem bMk{pl:Sem Bool}{Q:Value×List Value→Shared→Prop}(F:Fr h₀ L s.heap m)(X:K.In h₀)(e:aCf K a 0=some r)(h:Q (.builtin "dict.get",[.ref a]) s):wpAny (model prog w) A (getMethod (.ref a) "get" pl) Q E s:=by
 refine aAd (aBp (prog:=prog) (w:=w) (X.keeps F.keep) e) fun f hm hf=>?_
 exact getMethod_builtin hm.typeIs PySem.F.plainAttrs_dict PySem.F.slot_dict_get PySem.F.type_dict_get hm.noDict h
end
end
section
variable {prog:Program} {w:World} {A:Around} {E:Value→Shared→Prop} {s:Shared} {h₀:Heap} {L d:Addr} {news:List (Addr×Obj)} {o:Obj} {kvs:List (Int×Value)} {k:Int} {v:Value} {x:Option Value} {t:Tok}
theorem bEd{Q:Value→Shared→Prop}(N:News h₀ L s.heap news)(hp:(d,o)∈news)(hd:o.IsDictOf (intKind prog w) kvs)(lo:(d==sysModules)=false)(hl:valueAt kvs k=x)(hv:x.getD .none=v)(h:∀ tk,Q v { s with toks:=tk }) :
  wpAny (model prog w) A (call (.builtin "dict.get") [.ref d,.int k t]) Q E s :=
 kdg_get1 (knd:=intKind prog w) N hp hd lo (intKind_is _ _ _ _) x hl (by rw[hv];exact h _)
end
theorem bDv{prog:Program}{w:World}{A:Around}{E:Value→Shared→Prop}{s:Shared}{h₀:Heap}{L:Addr}{m:Str→Option Value}{news:List (Addr×Obj)}{a b r:Int}{t u:Tok}{Q:Value→Shared→Prop}(F:Fr h₀ L s.heap m)(N:News h₀ L s.heap news)(hh:A.handled=none)(hr:(b<a∧b=r)∨(a≤b∧a=r))
  (h:∀ h' t tk,Fr h₀ L h' m→News h₀ L h' news→Q (.int r t) { s with heap:=h',toks:=tk }):wpAny (model prog w) A (call (.builtin "min") [.int a t,.int b u]) Q E s :=
 min_two_ints hh fun h' tk k=>by
  have F':Fr h₀ L h' m:=⟨by obtain⟨o,es,ep,e,q⟩:=F.ns;exact⟨o,es,ep,k _ _ e,q⟩,fun b o e=>k _ _ (F.keep b o e),F.above⟩
  have N':News h₀ L h' news:=fun p hp=>⟨k _ _ (N p hp).1,(N p hp).2⟩
  rcases hr with⟨c,rfl⟩|⟨c,rfl⟩
  ·rw[if_pos c];exact h h' _ tk F' N'
  ·rw[if_neg (by lia)];exact h h' _ tk F' N'
noncomputable def aUv(fs:List Addr)(h₀:Heap)(L:Addr)(m:Str→Option Value)(g:Heap)(R:Result→Shared→Prop)(v:Value)(s':Shared):Prop :=
 ∃ g' L' m' news',KtsTurn fs g g'∧Fr g' L' s'.heap m'∧News g' L' s'.heap news'∧(Fr h₀ L s'.heap m→News h₀ L s'.heap news'→R (.ok (.ret v)) s')
theorem aXc{fs:List Addr}{h₀ g g':Heap}{L L':Addr}{m m':Str→Option Value}{news':List (Addr×Obj)}{R:Result→Shared→Prop}{v:Value}{s':Shared}(F':Fr g' L' s'.heap m')(N':News g' L' s'.heap news')(T:KtsTurn fs g g')
  (k:Fr h₀ L s'.heap m→News h₀ L s'.heap news'→R (.ok (.ret v)) s'):aUv fs h₀ L m g R v s':=⟨g',L',m',news',T,F',N',k⟩
section
set_option tactic.hygienic true
theorem aGy:∀ {A:List Addr} {r:List (Addr×Obj)},(∀ p∈r,p.1∉A)→Away r A
 | [],_,_=>trivial
 |a::A,_,h=>⟨fun p hp z=>h p hp (z▸List.mem_cons_self ..),aGy fun p hp q=>h p hp (List.mem_cons_of_mem _ q)⟩
theorem aFy{kvs:List (Int×Value)}{k k':Int}{v:Value}(n:k'≠k):valueAt (stored kvs k v) k'=valueAt kvs k':=by
 unfold stored valueAt
 split
 ·rename_i hh
  clear hh
  induction kvs with
  |nil=>rfl
  |cons p r ih =>
   rw[List.map_cons]
   by_cases e:p.1=k
   ·rw[if_pos e,List.find?_cons_of_neg (by simp[e,Ne.symm n]),List.find?_cons_of_neg (by simp[e,Ne.symm n])]
    exact ih
   ·rw[if_neg e]
    by_cases e':p.1=k'
    ·rw[List.find?_cons_of_pos (by simp[e']),List.find?_cons_of_pos (by simp[e'])]
    ·rw[List.find?_cons_of_neg (by simp[e']),List.find?_cons_of_neg (by simp[e'])]
     exact ih
 ·rw[List.find?_append,List.find?_cons_of_neg (by simp[Ne.symm n])]
  simp
end
section
set_option tactic.hygienic true
noncomputable def aW9:List Nat→List Nat→Bool
 | [],m=>(match m with
  | []=>true
  |_=>false)
 |a::r,m=>(match m with
  | []=>false
  |b::s=>bif Nat.beq a b then aW9 r s else false)
theorem aKl:∀ {a b:List Nat},aW9 a b=true↔a=b
 | [],[]=>by simp[aW9]
 | [],_::_=>by simp[aW9]
 |_::_,[]=>by simp[aW9]
 |a::r,b::s=>by
  unfold aW9
  cases h:Nat.beq a b with
  |true=>have:=Nat.eq_of_beq_eq_true h;subst this;simp[aKl]
  |false=>have:=Nat.ne_of_beq_eq_false h;simp[this]
noncomputable def aB5(a b:Str):Bool:=aW9 a.cps.toList b.cps.toList
theorem aCc{a b:Str}:aB5 a b=true↔a=b:=by
 unfold aB5
 rw[aKl]
 constructor
 ·intro h;cases a;cases b;congr;exact Array.toList_inj.mp h
 ·intro h;rw[h]
theorem aCk{a b:Str}:aB5 a b=false↔a≠b:=by
 rw[← Bool.not_eq_true,aCc]
section
variable {β:Type}
noncomputable def lkS(x:Str):List (Str×β)→Option β
 | []=>none
 |p::r=>bif aB5 p.1 x then some p.2 else lkS x r
theorem aKk{x:Str}{p:Str×β}{r:List (Str×β)}:lkS x (p::r)=if p.1=x then some p.2 else lkS x r:=by
 show (bif aB5 p.1 x then some p.2 else lkS x r)=_
 by_cases h:p.1=x
 ·rw[if_pos h,aCc.mpr h];rfl
 ·rw[if_neg h,aCk.mpr h];rfl
theorem aFn{x:Str}:∀ {l:List (Str×β)},lkS x l=l.lookup x
 | []=>rfl
 |(y,v)::r=>by
  rw[aKk,List.lookup_cons]
  by_cases h:y=x
  ·subst h;simp
  ·rw[if_neg h,show (x==y)=false from beq_eq_false_iff_ne.mpr (Ne.symm h)];exact aFn
noncomputable def lkN(a:Nat):List (Nat×β)→Option β
 | []=>none
 |p::r=>bif Nat.beq p.1 a then some p.2 else lkN a r
theorem aHn{a:Nat}:∀ {l:List (Nat×β)},lkN a l=l.lookup a
 | []=>rfl
 |(y,v)::r=>by
  show (bif Nat.beq y a then some v else lkN a r)=_
  rw[List.lookup_cons]
  cases h:Nat.beq y a with
  |true=>have:=Nat.eq_of_beq_eq_true h;subst this;simp
  |false=>have:=Nat.ne_of_beq_eq_false h;rw[show (a==y)=false from beq_eq_false_iff_ne.mpr (Ne.symm this)];exact aHn
noncomputable def aJv(t:List (Nat×List (Str×β)))(a:Nat)(x:Str):Option β:=match lkN a t with
 |some l=>lkS x l
 |none=>none
theorem mem_of_lookup{α:Type}[BEq α][LawfulBEq α]{a:α}{b:β}:∀ {l:List (α×β)},l.lookup a=some b→(a,b)∈l
 | [],h=>by cases h
 |(y,v)::r,h=>by
  rw[List.lookup_cons] at h
  cases q:a==y with
  |true=>rw[q] at h;cases h;rw[eq_of_beq q];exact .head _
  |false=>rw[q] at h;exact .tail _ (mem_of_lookup h)
theorem aBz{t:List (Nat×List (Str×β))}{P:Nat→Str→β→Bool}(h:t.all (fun e=>e.2.all fun q=>P e.1 q.1 q.2)=true){a:Nat}{x:Str}{r:β}(e:aJv t a x=some r):P a x r=true:=by
 unfold aJv at e
 split at e
 ·rename_i l hl
  rw[aHn] at hl
  rw[aFn] at e
  exact List.all_eq_true.mp (List.all_eq_true.mp h _ (mem_of_lookup hl)) _ (mem_of_lookup e)
 ·cases e
noncomputable def aIo(a:Nat):List Nat→Bool
 | []=>false
 |b::r=>bif Nat.beq b a then true else aIo a r
theorem aCe{a:Nat}:∀ {l:List Nat},aIo a l=true→a∈l
 | [],h=>by cases h
 |b::r,h=>by
  unfold aIo at h
  cases q:Nat.beq b a with
  |true=>have:=Nat.eq_of_beq_eq_true q;subst this;exact .head _
  |false=>rw[q] at h;exact .tail _ (aCe h)
end
noncomputable def aBv(cs:Scope)(x:Str)(k:NameKind):Bool:=match lkS x cs.names with
 |some k'=>k'==k
 |none=>false
theorem aA5{cs:Scope}{x:Str}{k:NameKind}(h:aBv cs x k=true):cs.names.lookup x=some k:=by
 unfold aBv at h
 rw[aFn] at h
 split at h
 ·rename_i e;rw[e,eq_of_beq h]
 ·cases h
structure Vw where
 K:Frag
 O:Frag
 iv:Addr→Str→Option Value
 cells:Str→Option Nat
 hf:Addr→Bool
 ns:Addr→Str→Option (Option Value)
 fin:Addr→Str→Option (Option Value)
 pg:Addr→Bool
 px:Addr→Bool
 ps:Addr→Str→Bool
 xs:Addr→Str→Bool
 pf:Addr→Bool
 cv:Addr→Str→Option Value
 mkc:Addr→Option Addr
 mkx:Addr→Option Addr
 cm:Addr→Str→Option Addr
 mt:Addr→Str→Option Addr
 kp:Addr→Bool
 tp:Addr→Option (List Value)
 ve:Addr→Bool
theorem aC0{O K:Frag}{a:Addr}{k:Int}{r:Option Value}(h:∀ {a o},O.lookup a=some o→K.lookup a=some o)(e:aCf O a k=some r):aCf K a k=some r:=by
 unfold aCf at e ⊢
 split at e
 ·rename_i o ho;rw[h ho];exact e
 ·cases e
structure VOk(P:Params)(V:Vw):Prop where
 O:∀ {a o},V.O.lookup a=some o→V.K.lookup a=some o
 iv:∀ {x n v},V.iv x n=some v→∃ C dx sl es k,V.K.lookup x=some ⟨.ref C,some dx,.plain,sl⟩∧V.K.lookup dx=some (dictOf es k)∧getL n es=some (some v)∧findIn V.K (.ref C) n=some none∧plainGet V.K C n=true∧hasDictIn V.K C=true∧handedIn v=true
 sm:∃ o,V.K.lookup sysModules=some o
 k0:∃ o,V.K.lookup 0=some o
 ns:∀ {a x r},V.ns a x=some r→nsIn V.K a x=some r∧(a=mainGlobals∨(a≠sysModules∧∃ es n,V.K.lookup a=some ⟨.type "dict",none,.dict es n,#[]⟩∧KeysLit P es.toList))
 fin:∀ {C x r},V.fin C x=some r→findIn V.K (.ref C) x=some r
 pg:∀ {C},V.pg C=true→∀ n,plainGet V.K C n=true∧hasDictIn V.K C=true
 px:∀ {C},V.px C=true→findIn V.K (.ref C) "__getattribute__"=some (some (.builtin "BaseException.__getattribute__"))∧findIn V.K (.ref C) "__getattr__"=some none∧aDo V.K C=true∧hasDictIn V.K C=true
 xs:∀ {C x},V.xs C x=true→findIn V.K (.ref C) "__setattr__"=some (some (.builtin "object.__setattr__"))∧aDo V.K C=true∧takerIn V.K C x=some none∧hasDictIn V.K C=true
 ps:∀ {C x},V.ps C x=true→findIn V.K (.ref C) "__setattr__"=some (some (.builtin "object.__setattr__"))∧plainOver V.K C=true∧takerIn V.K C x=some none∧hasDictIn V.K C=true
 pf:∀ {f},V.pf f=true→∀ {oc od sl} {fd:FuncData},V.K.lookup f=some ⟨oc,od,.func fd,sl⟩→fd.globals=mainGlobals∧fd.closure=[]∧fd.builtins=builtinsNs∧codeIn V.K fd.code fd.qualname=true∧fd.scope.isCoroutine=false∧fd.scope.isGenerator=false∧fd.scope.kind=.function∧(∀ x∈fd.scope.names,x.2≠.cell)∧Nat.ble 20 fd.scope.names.length=false
 cv:∀ {x n a},V.cv x n=some a→∃ mc,typeIn V.K (.ref x)=some mc∧findCls V.K (.ref x) mc n=some (.val a)∧readsIn V.K x mc=true∧handedIn a=true
 mkc:∀ {C f},V.mkc C=some f→makesIn V.K C=true∧findIn V.K (.ref C) "__init__"=some (some (.ref f))∧isFn V.K (.ref f)=true
 mkx:∀ {C f},V.mkx C=some f→aJt V.K C=true∧findIn V.K (.ref C) "__init__"=some (some (.ref f))∧typeIn V.K (.ref f)=some (.type "function")
 cm:∀ {x n f},V.cm x n=some f→∃ mc,typeIn V.K (.ref x)=some mc∧findCls V.K (.ref x) mc n=some (.val (.ref f))∧readsIn V.K x mc=true∧specialIn V.K (.ref x) "__getattribute__"=some (some (.builtin "type.__getattribute__"))∧keepIn V.K (.ref f)=true
 mt:∀ {C n f},V.mt C n=some f→plainGet V.K C n=true∧findIn V.K (.ref C) n=some (some (.ref f))∧isFn V.K (.ref f)=true∧keepIn V.K (.ref f)=true
 kp:∀ {a},V.kp a=true→keepIn V.K (.ref a)=true
 tp:∀ {a l},V.tp a=some l→∃ sl,V.K.lookup a=some ⟨.type "tuple",none,.seq l.toArray 0,sl⟩
 ve:∀ {C},V.ve C=true→aJt V.K C=true∧ktsIn V.K C "ValueError"=true
end
inductive SV
 |k (v:Value)|a (i:Nat)|z (n:Int)|i (x:Int)|b (x:Bool)|s (y:Str)|t|u
inductive SO
 |inst (C d:Nat)
 |ns (es:List (Str×SV)) (n:Nat)
 |seq (tup:Bool) (vs:List SV) (n:Nat)
 |di (kvs:List (Int×SV))
 |dv (j:Option Nat) (n:Nat) (puts:List (Int×SV)) (facts:List (Int×Option SV))
 |ex (C d:Nat) (ctx:Option Nat)
 |xr (C:Nat)
 |xd (C d:Nat)
 |cell (y:Option SV)
 |raw (j:Nat)
 |any
structure Bet where
 d:Nat→List (Int×Value)
 o:Nat→Obj
noncomputable def gN{α:Type}:List α→Nat→Option α
 | [],_=>none
 |a::_,0=>some a
 |_::r,n+1=>gN r n
theorem aCq{α:Type}:∀ {l:List α} {i:Nat},gN l i=l[i]?
 | [],_=>by simp[gN]
 |_::_,0=>by simp[gN]
 |_::r,n+1=>by simp[gN,aCq (l:=r)]
noncomputable def stN{α:Type}:List α→Nat→α→List α
 | [],_,_=>[]
 |_::r,0,x=>x::r
 |a::r,n+1,x=>a::stN r n x
theorem bA3{α:Type}:∀ {l:List α} {i:Nat} {x:α},stN l i x=l.set i x
 | [],_,_=>rfl
 |_::_,0,_=>rfl
 |_::r,n+1,_=>congrArg _ (bA3 (l:=r))
inductive All2 {α β:Type} (R:α→β→Prop):List α→List β→Prop
 |nil:All2 R [] []
 |cons {a b l m}:R a b→All2 R l m→All2 R (a::l) (b::m)
namespace All2
variable {α β:Type} {R S:α→β→Prop}
theorem len{l:List α}{m:List β}(h:All2 R l m):l.length=m.length:=by induction h with|nil=>rfl|cons _ _ ih=>simp[ih]
theorem mono{l:List α}{m:List β}(f:∀ a b,R a b→S a b)(h:All2 R l m):All2 S l m:=by induction h with|nil=>exact .nil|cons r _ ih=>exact .cons (f _ _ r) ih
theorem get{l:List α}{m:List β}(h:All2 R l m):∀ {i:Nat} {a:α},gN l i=some a→∃ b,gN m i=some b∧R a b:=by
 induction h with
 |nil=>intro i a e;cases e
 |cons r _ ih=>intro i a e;cases i with
  |zero=>cases e;exact⟨_,rfl,r⟩
  |succ i=>exact ih e
theorem app{l l':List α}{m m':List β}(h:All2 R l m)(h':All2 R l' m'):All2 R (l++l') (m++m'):=by induction h with|nil=>exact h'|cons q _ ih=>exact .cons q ih
theorem snoc{l:List α}{m:List β}{a:α}{b:β}(h:All2 R l m)(r:R a b):All2 R (l++[a]) (m++[b]):=h.app (.cons r .nil)
theorem set{l:List α}{m:List β}(h:All2 R l m):∀ {i:Nat} {a:α} {b:β},R a b→All2 R (stN l i a) (stN m i b):=by
 induction h with
 |nil=>intro i a b r;exact .nil
 |cons q h ih=>intro i a b r;cases i with
  |zero=>exact .cons r h
  |succ i=>exact .cons q (ih r)
theorem map2{γ δ:Type}{T:γ→δ→Prop}{f:α→γ}{g:β→δ}{l:List α}{m:List β}(k:∀ a b,R a b→T (f a) (g b))(h:All2 R l m):All2 T (l.map f) (m.map g):=by induction h with|nil=>exact .nil|cons q _ ih=>exact .cons (k _ _ q) ih
theorem rev{l:List α}{m:List β}(h:All2 R l m):All2 R l.reverse m.reverse:=by induction h with|nil=>exact .nil|cons q _ ih=>rw[List.reverse_cons,List.reverse_cons];exact ih.snoc q
theorem cons1{a:α}{l:List β}(h:All2 R [a] l):∃ b,l=[b]∧R a b:=by
 cases h with|cons r t=>cases t;exact⟨_,rfl,r⟩
theorem cons2{a a':α}{l:List β}(h:All2 R [a,a'] l):∃ b b',l=[b,b']∧R a b∧R a' b':=by
 cases h with|cons r t=>obtain⟨b,rfl,q⟩:=t.cons1;exact⟨_,_,rfl,r,q⟩
end All2
noncomputable def Den(ads:List Addr):SV→Value→Prop
 | .k v,x=>x=v
 | .a i,x=>∃ a,gN ads i=some a∧x=.ref a
 | .z n,x=>∃ t,x=.int n t
 | .i n,x=>∃ t,x=.int n t
 | .b c,x=>x=.bool c
 | .s y,x=>∃ t,x=.str y t
 | .t,x=>∃ y t,x=.str y t
 | .u,_=>True
noncomputable def Pre(a b:List Addr):Prop:=∃ c,b=a++c
theorem Pre.refl(a:List Addr):Pre a a:=⟨[],by simp⟩
theorem Pre.trans{a b c:List Addr}(x:Pre a b)(y:Pre b c):Pre a c:=by
 obtain⟨u,rfl⟩:=x;obtain⟨v,rfl⟩:=y;exact⟨u++v,by simp⟩
theorem aEn{α:Type}:∀ {a b:List α} {i:Nat} {c:α},gN a i=some c→gN (a++b) i=some c
 | [],_,_,_,h=>by cases h
 |_::_,_,0,_,h=>h
 |_::r,_,n+1,_,h=>aEn (a:=r) h
theorem aBg{α:Type}:∀ {a:List α} {c:α},gN (a++[c]) a.length=some c
 | [],_=>rfl
 |_::r,_=>aBg (a:=r)
theorem Pre.get{a b:List Addr}(x:Pre a b){i:Nat}{c:Addr}(h:gN a i=some c):gN b i=some c:=by
 obtain⟨u,rfl⟩:=x;exact aEn h
theorem Pre.snoc(a:List Addr)(x:Addr):Pre a (a++[x]):=⟨[x],rfl⟩
theorem Pre.mem{a b:List Addr}(x:Pre a b){c:Addr}(h:c∈a):c∈b:=by obtain⟨u,rfl⟩:=x;exact List.mem_append_left _ h
theorem Den.mono{a b:List Addr}(p:Pre a b){x:SV}{v:Value}(h:Den a x v):Den b x v:=by
 cases x with
 |a i=>obtain⟨c,h,e⟩:=h;exact⟨c,p.get h,e⟩
 |_=>exact h
noncomputable abbrev Dens(ads:List Addr):List SV→List Value→Prop:=All2 (Den ads)
theorem Dens.mono{a b:List Addr}(p:Pre a b){x:List SV}{v:List Value}(h:Dens a x v):Dens b x v:=All2.mono (fun _ _=>Den.mono p) h
structure Ctx(V:Vw) where
 prog:Program
 w:World
 vo:VOk w.params V
 p:Program
 loose:List Str
 mean:ExcName→Option Value
 mg:Str→Option Value
 mb:Str→Option Value
 β:Bet
section
variable {V:Vw} (X:Ctx V)
noncomputable def NsE(ads:List Addr)(p:Str×SV)(e:DictEntry):Prop:=∃ t v,Den ads p.2 v∧e=⟨PyData.keyHash X.w.params p.1,.str p.1 t,v⟩
noncomputable def DiE(ads:List Addr)(p:Int×SV)(q:Int×Value):Prop:=q.1=p.1∧Den ads p.2 q.2
inductive PutR (ads:List Addr) (l0:List (Int×Value)):List (Int×SV)→List (Int×Value)→Prop
 |nil:PutR ads l0 [] l0
 |cons {k x r l v}:PutR ads l0 r l→Den ads x v→PutR ads l0 ((k,x)::r) (stored l k v)
noncomputable def FactR(ads:List Addr)(l:List (Int×Value))(f:Int×Option SV):Prop:=match f.2 with
 |none=>valueAt l f.1=none
 |some x=>∃ v,valueAt l f.1=some v∧Den ads x v
noncomputable def CtxR(ads:List Addr)(ctx:Option Nat)(a0:Value):Prop:=match ctx with
 |none=>a0=.none
 |some i=>∃ a,gN ads i=some a∧a0=.ref a
noncomputable abbrev bF4(tup:Bool)(l:List Value)(n:Nat):Obj:={ cls:=.type (if tup then "tuple" else "list"),data:=.seq l.toArray n }
noncomputable abbrev bIh(o:Obj)(l:List (Int×Value)):Prop:=o.IsDictOf (intKind X.prog X.w) l
noncomputable def DenO(ads:List Addr):SO→Obj→Prop
 | .inst C d,o=>∃ dx,gN ads d=some dx∧o=instObj C dx
 | .ns es n,o=>∃ l,All2 (NsE X ads) es l∧o=dictOf l n
 | .seq tup vs n,o=>∃ l,Dens ads vs l∧o=bF4 tup l n
 | .di kvs,o=>∃ l,All2 (DiE ads) kvs l∧bIh X o l
 | .dv j n puts facts,o=>∃ l0 l,(∀ i,j=some i→l0=X.β.d i)∧l0.length≤n∧PutR ads l0 puts l∧(∀ f∈facts,FactR ads l f)∧bIh X o l
 | .ex C d ctx,o=>∃ dx vs a0,gN ads d=some dx∧o=exO C dx vs∧vs[2]?=some a0∧CtxR ads ctx a0
 | .xr C,o=>∃ t,o=aS6 C t
 | .xd C d,o=>∃ dx t,gN ads d=some dx∧o=exO C dx (vsX t)
 | .cell y,o=>match y with
  |none=>o.data=.cell none
  |some y=>∃ v,Den ads y v∧o.data=.cell (some v)
 | .raw j,o=>o=X.β.o j
 | .any,_=>True
end
theorem NsE.mono{V:Vw}{X:Ctx V}{a b:List Addr}(p:Pre a b){x:Str×SV}{e:DictEntry}(h:NsE X a x e):NsE X b x e:=by
 obtain⟨t,v,d,rfl⟩:=h;exact⟨t,v,d.mono p,rfl⟩
theorem DiE.mono{a b:List Addr}(p:Pre a b){x:Int×SV}{e:Int×Value}(h:DiE a x e):DiE b x e:=⟨h.1,h.2.mono p⟩
theorem PutR.mono{a b:List Addr}(p:Pre a b){l0 l:List (Int×Value)}{ps:List (Int×SV)}(h:PutR a l0 ps l):PutR b l0 ps l:=by
 induction h with|nil=>exact .nil|cons _ d ih=>exact .cons ih (d.mono p)
theorem FactR.mono{a b:List Addr}(p:Pre a b){l:List (Int×Value)}{f:Int×Option SV}(h:FactR a l f):FactR b l f:=by
 obtain⟨k,x⟩:=f
 cases x with
 |none=>exact h
 |some x=>obtain⟨v,e,d⟩:=h;exact⟨v,e,d.mono p⟩
theorem CtxR.mono{a b:List Addr}(p:Pre a b){c:Option Nat}{v:Value}(h:CtxR a c v):CtxR b c v:=by
 cases c with
 |none=>exact h
 |some i=>obtain⟨x,e,q⟩:=h;exact⟨x,p.get e,q⟩
theorem DenO.mono{V:Vw}{X:Ctx V}{a b:List Addr}(p:Pre a b){x:SO}{o:Obj}(h:DenO X a x o):DenO X b x o:=by
 cases x with
 |inst C d=>obtain⟨c,h,e⟩:=h;exact⟨c,p.get h,e⟩
 |ns es n=>obtain⟨l,h,e⟩:=h;exact⟨l,h.mono fun _ _=>NsE.mono p,e⟩
 |seq t vs n=>obtain⟨l,h,e⟩:=h;exact⟨l,h.mono p,e⟩
 |di kvs=>obtain⟨l,h,e⟩:=h;exact⟨l,h.mono fun _ _=>DiE.mono p,e⟩
 |dv j n ps fs=>obtain⟨l0,l,h,n,q,f,e⟩:=h;exact⟨l0,l,h,n,q.mono p,fun x hx=>(f x hx).mono p,e⟩
 |ex C d c=>obtain⟨dx,vs,a0,h,e,s,c⟩:=h;exact⟨dx,vs,a0,p.get h,e,s,c.mono p⟩
 |xd C d=>obtain⟨dx,t,h,e⟩:=h;exact⟨dx,t,p.get h,e⟩
 |cell y=>cases y with
  |none=>exact h
  |some y=>obtain⟨v,h,e⟩:=h;exact⟨v,h.mono p,e⟩
 |_=>exact h
structure St where
 m:List (Str×SV)
 led:List SO
 orc:List Nat
structure Cf where
 cs:Scope
 hd:Option Nat
 lv:Nat
 po:Bool
structure Gd(V:Vw) where
 X:Ctx V
 A:Around
 cn:Str
 L:Addr
 a:Addr
 ccd:Value
 cl:List (Str×Addr)
 outer:List Env
 A₀:Around
 base:Heap
 g:Heap
 gens:Array GenState
 drawn:Drawn
 os:OsState
 cf:Cf
 E:Value→Shared→Prop
section
variable {V:Vw}
noncomputable abbrev Gd.env(G:Gd V):Env:=envX G.cn G.cf.cs G.L G.a G.ccd G.cl
noncomputable abbrev Gd.fs(G:Gd V):List Addr:=G.outer.filterMap (·.frame)
noncomputable abbrev Gd.M(G:Gd V):Model:=model G.X.prog G.X.w
noncomputable abbrev Gd.wp{α:Type}(G:Gd V)(t:Sem α)(Q:α→Shared→Prop)(s:Shared):Prop:=wpAny G.M G.A t Q G.E s
noncomputable abbrev Gd.at_(G:Gd V)(g:Heap):Gd V:={ G with g:=g }
noncomputable abbrev Cf.top(c:Cf):Bool:=Nat.ble 20 c.cs.names.length
structure Wd where
 ads:List Addr
 objs:List Obj
 m:Str→Option Value
 h:Heap
 t:Nat
noncomputable abbrev Gd.st(G:Gd V)(W:Wd):Shared:=⟨W.h,G.gens,G.drawn,W.t,G.os⟩
noncomputable abbrev Wd.l(W:Wd):List (Addr×Obj):=W.ads.zip W.objs
noncomputable abbrev aD3(x:Str)(l:List (Str×SV)):Option SV:=lkS x l
theorem aAr{x:Str}{p:Str×SV}{r:List (Str×SV)}:aD3 x (p::r)=if p.1=x then some p.2 else aD3 x r:=aKk
noncomputable def MD(ads:List Addr)(l:List (Str×SV))(m:Str→Option Value):Prop:=∀ x y,aD3 x l=some y→∃ v,m x=some v∧Den ads y v
theorem MD.mono{a b:List Addr}(p:Pre a b){l:List (Str×SV)}{m:Str→Option Value}(h:MD a l m):MD b l m:=fun x y e=>by
 obtain⟨v,q,d⟩:=h x y e;exact⟨v,q,d.mono p⟩
noncomputable def Own(G:Gd V):Prop:=(G.cf.top=false→G.A=G.A₀.deeper G.env∧G.cl=[])∧PassesOwn G.M G.A G.env G.E
structure Ok(G:Gd V):Prop where
 B:Below G.A₀ G.base G.outer G.g
 K:V.K.In G.g
 T:Top G.X.p G.X.loose G.X.mean G.X.mg G.X.mb G.g
 KB:V.K.In G.base
 TB:Top G.X.p G.X.loose G.X.mean G.X.mg G.X.mb G.base
 D:KtsDicts G.fs G.g
 fr:G.A.frames=some (G.env::G.outer)
 hk:G.cf.cs.kind=.function
 dp:G.A.depth+G.cf.lv<recursionLimit
 un:G.A.units+8*G.cf.lv<cLine
 tp:G.cf.top=true→G.outer=[]
 own:G.cf.po=true→Own G
noncomputable def Hdl(ads:List Addr)(A:Around):Option Nat→Prop
 |none=>A.handled=none
 |some j=>∃ e,gN ads j=some e∧A.handled=some (.ref e)
theorem Hdl.up{ads ads':List Addr}{A:Around}{hd:Option Nat}(h:Hdl ads A hd)(p:Pre ads ads'):Hdl ads' A hd:=by
 cases hd with
 |none=>exact h
 |some j=>obtain⟨x,q,r⟩:=h;exact⟨x,p.get q,r⟩
theorem Hdl.same{ads:List Addr}{hd:Option Nat}{A B:Around}(h:Hdl ads A hd)(e:B.handled=A.handled):Hdl ads B hd:=by
 cases hd with
 |none=>exact e.trans h
 |some j=>obtain⟨x,p,q⟩:=h;exact⟨x,p,e.trans q⟩
structure Sat(G:Gd V)(W:Wd)(σ:St):Prop where
 ok:Ok G
 F:Fr G.g G.L W.h W.m
 M:MD W.ads σ.m W.m
 N:News G.g G.L W.h W.l
 O:All2 (DenO G.X W.ads) σ.led W.objs
 len:W.ads.length=W.objs.length
 nd:W.ads.Nodup
 hd:Hdl W.ads G.A G.cf.hd
 cl:G.cf.top=true→∀ x i,V.cells x=some i→∃ a,gN W.ads i=some a∧G.cl.lookup x=some a
variable {G:Gd V} {W:Wd} {σ:St}
theorem Sat.K(S:Sat G W σ):V.K.In W.h:=S.ok.K.keeps S.F.keep
theorem aBe{α β:Type}:∀ {l:List α} {m:List β} {i:Nat} {d:α} {o:β},gN l i=some d→gN m i=some o→(d,o)∈l.zip m
 | [],_,_,_,_,h,_=>by cases h
 |_::_,[],_,_,_,_,h=>by cases h
 |_::_,_::_,0,_,_,h,k=>by cases h;cases k;exact .head _
 |_::l,_::m,i+1,_,_,h,k=>.tail _ (aBe (l:=l) (m:=m) h k)
theorem aBk{α:Type}:∀ {l:List α} {i:Nat} {d:α},gN l i=some d→i<l.length
 | [],_,_,h=>by cases h
 |_::_,0,_,_=>Nat.succ_pos _
 |_::r,i+1,_,h=>Nat.succ_lt_succ (aBk (l:=r) h)
theorem aAl{α:Type}:∀ {l:List α} {i:Nat},i<l.length→∃ d,gN l i=some d
 | [],_,h=>absurd h (Nat.not_lt_zero _)
 |a::_,0,_=>⟨a,rfl⟩
 |_::r,i+1,h=>aAl (l:=r) (Nat.lt_of_succ_lt_succ h)
theorem aB8{α:Type}:∀ {l:List α} {i:Nat} {d:α},gN l i=some d→d∈l
 | [],_,_,h=>by cases h
 |_::_,0,_,h=>by cases h;exact .head _
 |_::r,i+1,_,h=>.tail _ (aB8 (l:=r) h)
theorem aCh{α:Type}:∀ {l:List α} {d:α},d∈l→∃ i,gN l i=some d
 |_::_,_,.head _=>⟨0,rfl⟩
 |_::_,_,.tail _ h=>by obtain⟨i,e⟩:=aCh h;exact⟨i+1,e⟩
theorem aC4{α:Type}:∀ {l:List α} {i j:Nat} {d:α},l.Nodup→gN l i=some d→gN l j=some d→i=j
 | [],_,_,_,_,h,_=>by cases h
 |_::_,0,0,_,_,_,_=>rfl
 |a::r,0,j+1,_,nd,h,k=>by cases h;exact absurd (aB8 (l:=r) k) (List.nodup_cons.mp nd).1
 |a::r,i+1,0,_,nd,h,k=>by cases k;exact absurd (aB8 (l:=r) h) (List.nodup_cons.mp nd).1
 |a::r,i+1,j+1,_,nd,h,k=>congrArg _ (aC4 (l:=r) (List.nodup_cons.mp nd).2 h k)
theorem Sat.slot(S:Sat G W σ){i:Nat}{so:SO}{a:Addr}(e:gN σ.led i=some so)(ha:gN W.ads i=some a):∃ o,gN W.objs i=some o∧(a,o)∈W.l∧DenO G.X W.ads so o:=by
 refine aAd (S.O.get e) fun o h1 h2=>?_
 exact⟨o,h1,aBe ha h1,h2⟩
theorem Sat.hi(S:Sat G W σ){a:Addr}(h:G.g.get? a=none):@LT.lt Nat _ sysModules a:=by
 refine aA6 G.X.vo.sm fun o1 e1=>?_
 refine aA6 G.X.vo.k0 fun o0 e0=>?_
 have k1:=S.ok.K _ _ e1
 have k0:=S.ok.K _ _ e0
 rcases a with _|_|a
 ·rw[h] at k0;cases k0
 ·exact absurd (k1.symm.trans h) (fun z=>nomatch z)
 ·exact Nat.succ_lt_succ (Nat.succ_pos a)
theorem Sat.hiA(S:Sat G W σ){a:Addr}(h:a∈W.ads):@LT.lt Nat _ sysModules a:=by
 refine aA6 (aCh h) fun i hi=>?_
 refine aA6 (aAl (l:=W.objs) (S.len▸aBk hi)) fun o ho=>?_
 exact S.hi (S.N _ (aBe hi ho)).2.2
theorem Sat.low(S:Sat G W σ){i:Nat}{a:Addr}(ha:gN W.ads i=some a):(a==sysModules)=false :=
 beq_eq_false_iff_ne.mpr (Nat.ne_of_gt (S.hiA (aB8 ha)))
noncomputable abbrev Wd.tok(W:Wd)(t:Nat):Wd:=⟨W.ads,W.objs,W.m,W.h,t⟩
noncomputable abbrev Wd.new(W:Wd)(D:Addr)(o:Obj)(h:Heap)(t:Nat):Wd:=⟨W.ads++[D],W.objs++[o],W.m,h,t⟩
noncomputable abbrev Wd.put(W:Wd)(i:Nat)(o:Obj)(h:Heap)(t:Nat):Wd:=⟨W.ads,stN W.objs i o,W.m,h,t⟩
noncomputable abbrev Wd.hp(W:Wd)(m:Str→Option Value)(h:Heap)(t:Nat):Wd:=⟨W.ads,W.objs,m,h,t⟩
noncomputable abbrev St.new(σ:St)(o:SO):St:=⟨σ.m,σ.led++[o],σ.orc⟩
noncomputable abbrev St.put(σ:St)(i:Nat)(o:SO):St:=⟨σ.m,stN σ.led i o,σ.orc⟩
theorem Sat.tok(S:Sat G W σ)(t:Nat):Sat G (W.tok t) σ:=⟨S.ok,S.F,S.M,S.N,S.O,S.len,S.nd,S.hd,S.cl⟩
theorem Sat.orc(S:Sat G W σ)(r:List Nat):Sat G W ⟨σ.m,σ.led,r⟩:=⟨S.ok,S.F,S.M,S.N,S.O,S.len,S.nd,S.hd,S.cl⟩
theorem Sat.clUp(S:Sat G W σ){ads:List Addr}(p:Pre W.ads ads):G.cf.top=true→∀ x i,V.cells x=some i→∃ a,gN ads i=some a∧G.cl.lookup x=some a:=fun q x i e=>by
 obtain⟨a,k1,k2⟩:=S.cl q x i e;exact⟨a,p.get k1,k2⟩
theorem Sat.hp(S:Sat G W σ){l:List (Str×SV)}{m:Str→Option Value}{h:Heap}(t:Nat)(F:Fr G.g G.L h m)(M:MD W.ads l m)(N:News G.g G.L h W.l)(r:List Nat):Sat G (W.hp m h t) ⟨l,σ.led,r⟩ :=
 ⟨S.ok,F,M,N,S.O,S.len,S.nd,S.hd,S.cl⟩
theorem aBy{α β:Type}{l:List α}{m:List β}{a:α}{b:β}(h:l.length=m.length):(l++[a]).zip (m++[b])=l.zip m++[(a,b)]:=by
 rw[List.zip_append h];rfl
theorem Sat.new(S:Sat G W σ){D:Addr}{o:Obj}{so:SO}{h:Heap}(t:Nat)(F:Fr G.g G.L h W.m)(N:News G.g G.L h ((D,o)::W.l))(lt:∀ p∈W.l,p.1<D)(d:DenO G.X (W.ads++[D]) so o):Sat G (W.new D o h t) (σ.new so):=by
 refine⟨S.ok,F,S.M.mono (.snoc _ _),fun p hp=>?_,(S.O.mono fun _ _=>DenO.mono (.snoc _ _)).snoc d,by simp[S.len],?_,S.hd.up (.snoc _ _),S.clUp (.snoc _ _)⟩
 ·replace hp:p∈(W.ads++[D]).zip (W.objs++[o]):=hp
  rw[aBy S.len] at hp
  exact N p ((List.mem_append.mp hp).elim (.tail _) fun q=>List.mem_singleton.mp q▸.head _)
 ·refine List.nodup_append.mpr ⟨S.nd,by simp,fun a ha b hb e=>?_⟩
  refine aA6 (aCh ha) fun i hi=>?_
  refine aA6 (aAl (l:=W.objs) (S.len▸aBk hi)) fun q hq=>?_
  rw[e,List.mem_singleton.mp hb] at hi
  exact Nat.lt_irrefl _ (lt _ (aBe hi hq))
theorem aYy{S:Sat G W σ}{D:Addr}:Den (W.ads++[D]) (.a σ.led.length) (.ref D) :=
 ⟨D,by rw[S.O.len,← S.len];exact aBg,rfl⟩
theorem aF1{α:Type}:∀ {l:List α} {i:Nat} {x:α},(stN l i x).length=l.length
 | [],_,_=>rfl
 |_::_,0,_=>rfl
 |_::r,i+1,x=>congrArg Nat.succ (aF1 (l:=r))
theorem Sat.put(S:Sat G W σ){i:Nat}{o:Obj}{so:SO}{h:Heap}(t:Nat)(F:Fr G.g G.L h W.m)(N:News G.g G.L h (W.ads.zip (stN W.objs i o)))(d:DenO G.X W.ads so o):Sat G (W.put i o h t) (σ.put i so) :=
 ⟨S.ok,F,S.M,N,S.O.set d,S.len.trans aF1.symm,S.nd,S.hd,S.cl⟩
theorem aFz{d:Addr}{o o':Obj}:∀ {ads:List Addr} {objs:List Obj} {i:Nat},ads.Nodup→gN ads i=some d→gN objs i=some o→Upd d o o' (ads.zip objs) (ads.zip (stN objs i o'))
 | [],_,_,_,h,_=>by cases h
 |_::_,[],_,_,_,h=>by cases h
 |a::ads,x::objs,0,nd,h,h'=>by
  cases h;cases h'
  exact .head fun p hp e=>(List.nodup_cons.mp nd).1 (e▸(List.of_mem_zip hp).1)
 |a::ads,x::objs,i+1,nd,h,h'=>.tail (fun e=>(List.nodup_cons.mp nd).1 ((show a=d from e)▸aB8 (l:=ads) h)) (aFz (ads:=ads) (List.nodup_cons.mp nd).2 h h')
theorem aJu{d:Addr}{o:Obj}:∀ {ads:List Addr} {objs:List Obj} {i:Nat},ads.Nodup→gN ads i=some d→gN objs i=some o→UpdF d o (ads.zip objs) (fun o'=>ads.zip (stN objs i o'))
 | [],_,_,_,h,_=>by cases h
 |_::_,[],_,_,_,h=>by cases h
 |a::ads,x::objs,0,nd,h,h'=>by
  cases h;cases h'
  exact .head fun p hp e=>(List.nodup_cons.mp nd).1 (e▸(List.of_mem_zip hp).1)
 |a::ads,x::objs,i+1,nd,h,h'=>.tail (fun e=>(List.nodup_cons.mp nd).1 ((show a=d from e)▸aB8 (l:=ads) h)) (aJu (ads:=ads) (List.nodup_cons.mp nd).2 h h')
theorem Sat.upd(S:Sat G W σ){i:Nat}{a:Addr}{o:Obj}(ha:gN W.ads i=some a)(ho:gN W.objs i=some o):UpdF a o W.l (fun o'=>W.ads.zip (stN W.objs i o')):=aJu S.nd ha ho
end
structure XI where
 kind:Nat
 C:Addr
 es:List (Str×SV)
 n:Nat
 ctx:Option Nat
inductive Out (α:Type):Type
 |f
 |p (σ:St) (a:α)
 |t (σ:St) (a:α)
 |x (σ:St) (X:XI)
 |g (P:Prop) (o:Out α)
 |s (c:Bool) (o₁ o₂:Out α)
inductive Flw
 |n
 |r (y:SV)
theorem nn{α:Type}{a:α}{P:Prop}(h:none=some a):P:=nomatch h
section
variable {α β:Type}
noncomputable def bd(o:Out α)(k:St→α→Out β):Out β:=match o with
 | .p σ a=>k σ a
 | .x σ X=>.x σ X
 | .g P o=>.g P (bd o k)
 | .s b o₁ o₂=>.s b (bd o₁ k) (bd o₂ k)
 | .f=>.f
 | .t _ _=>.f
noncomputable def bn(o:Out Flw)(k:St→Out Flw):Out Flw:=match o with
 | .p σ .n=>k σ
 | .p σ (.r y)=>.p σ (.r y)
 | .t σ (.r y)=>.t σ (.r y)
 | .t _ .n=>.f
 | .x σ X=>.x σ X
 | .g P o=>.g P (bn o k)
 | .s b o₁ o₂=>.s b (bn o₁ k) (bn o₂ k)
 | .f=>.f
noncomputable def ifT(b:Bool)(o:Out α):Out α:=match b with
 |true=>o
 |false=>.f
noncomputable def onO{γ:Type}(x:Option γ)(k:γ→Out α):Out α:=match x with
 |some y=>k y
 |none=>.f
noncomputable def onN(y:SV)(k:Int→Bool→Out α):Out α:=match y with
 | .z n=>k n true
 | .i n=>k n false
 |_=>.f
noncomputable def onZ(y:SV)(k:Int→Out α):Out α:=match y with
 | .z n=>k n
 |_=>.f
noncomputable def onA(y:SV)(k:Nat→Out α):Out α:=match y with
 | .a i=>k i
 |_=>.f
noncomputable def onSeq(σ:St)(i:Nat)(k:Bool→List SV→Nat→Out α):Out α:=match gN σ.led i with
 |some (.seq t vs n)=>k t vs n
 |_=>.f
noncomputable def bDf(σ:St)(i:Nat)(k:List (Int×SV)→Out α):Out α:=match gN σ.led i with
 |some (.di kvs)=>k kvs
 |_=>.f
noncomputable def aNl(σ:St)(i:Nat)(k:List (Str×SV)→Nat→Out α):Out α:=match gN σ.led i with
 |some (.ns es n)=>k es n
 |_=>.f
noncomputable def br(c:Bool)(σ:St)(k:St→Bool→Out α):Out α:=match σ.orc with
 |a::r=>(match a with
  | 0=>.g (c=false) (k ⟨σ.m,σ.led,r⟩ false)
  |n+1=>(match n with
   | 0=>.g (c=true) (k ⟨σ.m,σ.led,r⟩ true)
   |_+1=>.s c (k ⟨σ.m,σ.led,r⟩ true) (k ⟨σ.m,σ.led,r⟩ false)))
 | []=>.f
end
section
variable {V:Vw}
structure Turn(G G':Gd V):Prop where
 eq:G'=G.at_ G'.g
 T:KtsTurn G.fs G.g G'.g
 ok:Ok G'
structure Exc(X:Ctx V)(ads:List Addr)(xi:XI)(e d:Addr)(od:Obj)(a0:Value):Prop where
 e_:e∉ads
 d_:d∉ads
 ed:e≠d
 el:@LT.lt Nat _ sysModules e
 dl:@LT.lt Nat _ sysModules d
 od_:DenO X ads (.ns xi.es xi.n) od
 ctx:CtxR ads xi.ctx a0
structure Led(X:Ctx V)(W:Wd)(led:List SO):Prop where
 O:All2 (DenO X W.ads) led W.objs
 len:W.ads.length=W.objs.length
 nd:W.ads.Nodup
 hi:∀ a∈W.ads,@LT.lt Nat _ sysModules a
noncomputable def aQe(G:Gd V)(W:Wd)(σ:St)(xi:XI)(e:Addr):Prop :=
 Led G.X W σ.led∧∃ d od a0,Exc G.X W.ads xi e d od a0 ∧
 match xi.kind with
 | 0=>∃ vs,Fr G.g G.L W.h W.m∧News G.g G.L W.h W.l∧News G.g G.L W.h [(e,exO xi.C d vs),(d,od)]∧vs.size=6∧vs[2]?=some a0∧vs[1]?=some .none
 | 1=>∃ vs h,Fr G.g G.L h W.m∧News G.g G.L h W.l∧News G.g G.L h [(e,exO xi.C d vs),(d,od)]∧h.UpToSlots W.h∧Fl (hideAll h (e::(G.env::G.outer).filterMap (·.frame))) (G.env::G.outer) e xi.C d a0 (rawInt G.L) W.h
 |_=>∃ h ads0 objs0,Fr G.g G.L h W.m∧MD W.ads σ.m W.m∧News G.g G.L h (ads0.zip objs0)∧ads0.length=objs0.length∧Pre ads0 W.ads∧Flown h (G.env::G.outer) ads0 W.l e xi.C d od a0 W.h
noncomputable def Hd{α:Type}(G:Gd V)(W:Wd):Out α→(Wd→St→α→Prop)→Prop
 | .f,_=>False
 | .p σ a,Φ=>∀ W',Pre W.ads W'.ads→Sat G W' σ→Φ W' σ a
 | .t σ a,Φ=>∀ G' W',Turn G G'→Pre W.ads W'.ads→Sat G' W' σ→Φ W' σ a
 | .x σ xi,_=>∀ G' W' e,Turn G G'→(xi.kind≠1→G'=G)→Pre W.ads W'.ads→aQe G' W' σ xi e→G.E (.ref e) (G.st W')
 | .g P o,Φ=>P∧Hd G W o Φ
 | .s c a b,Φ=>(c=true→Hd G W a Φ)∧(c=false→Hd G W b Φ)
variable {G:Gd V} {W W':Wd} {σ:St} {α β:Type} {Φ Ψ:Wd→St→α→Prop}
theorem Hd.up(p:Pre W.ads W'.ads):∀ {o:Out α},Hd G W o Φ→Hd G W' o Φ
 | .f,h=>h
 | .p _ _,h=>fun w q=>h w (p.trans q)
 | .t _ _,h=>fun g w t q=>h g w t (p.trans q)
 | .x _ _,h=>fun g w e t u q=>h g w e t u (p.trans q)
 | .g _ _,h=>⟨h.1,Hd.up p h.2⟩
 | .s _ _ _,h=>⟨fun e=>Hd.up p (h.1 e),fun e=>Hd.up p (h.2 e)⟩
theorem Hd.w{o:Out α}(x:Hd G W o Φ){l:List Obj}{m:Str→Option Value}{h:Heap}{t:Nat}:Hd G ⟨W.ads,l,m,h,t⟩ o Φ:=x.up (W':=⟨W.ads,l,m,h,t⟩) (.refl W.ads)
theorem Hd.to{k:St→α→Out β}{Φ:Wd→St→β→Prop}{Ψ:Wd→St→α→Prop}(f:∀ {W' σ a},Sat G W' σ→Pre W.ads W'.ads→Hd G W' (k σ a) Φ→Ψ W' σ a):∀ {o:Out α},Hd G W (Mine.bd o k) Φ→Hd G W o Ψ
 | .f,h=>h
 | .p _ _,h=>fun _ q S=>f S q (h.up q)
 | .t _ _,h=>False.elim h
 | .x _ _,h=>h
 | .g _ _,h=>⟨h.1,Hd.to f h.2⟩
 | .s _ _ _,h=>⟨fun e=>Hd.to f (h.1 e),fun e=>Hd.to f (h.2 e)⟩
theorem Hd.keep{k:St→α→Out β}{Φ:Wd→St→β→Prop}{Ψ:Wd→St→α→Prop}(f:∀ {W' σ a},Sat G W' σ→Pre W.ads W'.ads→Hd G W (k σ a) Φ→Ψ W' σ a):∀ {o:Out α},Hd G W (Mine.bd o k) Φ→Hd G W o Ψ
 | .f,h=>h
 | .p _ _,h=>fun _ q S=>f S q h
 | .t _ _,h=>False.elim h
 | .x _ _,h=>h
 | .g _ _,h=>⟨h.1,Hd.keep f h.2⟩
 | .s _ _ _,h=>⟨fun e=>Hd.keep f (h.1 e),fun e=>Hd.keep f (h.2 e)⟩
section
variable {P:Prop}
theorem ifT_e{b:Bool}{o:Out α}(h:Hd G W (ifT b o) Φ)(g:b=true→Hd G W o Φ→P):P:=by
 cases b with
 |true=>exact g rfl h
 |false=>exact h.elim
theorem onO_e{γ:Type}{x:Option γ}{k:γ→Out α}(h:Hd G W (onO x k) Φ)(g:∀ y,x=some y→Hd G W (k y) Φ→P):P:=by
 cases x with
 |some y=>exact g y rfl h
 |none=>exact h.elim
@[elab_as_elim] theorem aEf {y:SV} {k:Int→Bool→Out α} {ads:List Addr} {v:Value} {C:Value→Prop} (h:Hd G W (onN y k) Φ) (d:Den ads y v) (g:∀ x l t,Hd G W (k x l) Φ→C (.int x t)):C v:=by
 cases y with
 |z n=>obtain⟨t,rfl⟩:=d;exact g n true t h
 |i n=>obtain⟨t,rfl⟩:=d;exact g n false t h
 |_=>exact h.elim
@[elab_as_elim] theorem aNj {y:SV} {k:Int→Out α} {ads:List Addr} {v:Value} {C:Value→Prop} (h:Hd G W (onZ y k) Φ) (d:Den ads y v) (g:∀ x t,Hd G W (k x) Φ→C (.int x t)):C v:=by
 cases y with
 |z n=>obtain⟨t,rfl⟩:=d;exact g n t h
 |_=>exact h.elim
@[elab_as_elim] theorem aDn {y:SV} {k:Nat→Out α} {ads:List Addr} {v:Value} {C:Value→Prop} (h:Hd G W (onA y k) Φ) (d:Den ads y v) (g:∀ i a,gN ads i=some a→Hd G W (k i) Φ→C (.ref a)):C v:=by
 cases y with
 |a n=>obtain⟨t,q,rfl⟩:=d;exact g n t q h
 |_=>exact h.elim
theorem aCd{i:Nat}{a:Addr}{k:Bool→List SV→Nat→Out α}(h:Hd G W (onSeq σ i k) Φ)(S:Sat G W' σ)(ha:gN W'.ads i=some a)(g:∀ t vs n l,gN W'.objs i=some (bF4 t l n)→(a,bF4 t l n)∈W'.l→Dens W'.ads vs l→Hd G W (k t vs n) Φ→P):P:=by
 unfold onSeq at h
 cases e:gN σ.led i with
 |none=>rw[e] at h;exact h.elim
 |some so =>
  rw[e] at h
  cases so with
  |seq t vs n=>obtain⟨o,h1,h2,l,al,rfl⟩:=S.slot e ha;exact g t vs n l h1 h2 al h
  |_=>exact h.elim
theorem aNo{i:Nat}{a:Addr}{k:List (Int×SV)→Out α}(h:Hd G W (bDf σ i k) Φ)(S:Sat G W' σ)(ha:gN W'.ads i=some a)(g:∀ kvs o l,gN W'.objs i=some o→(a,o)∈W'.l→All2 (DiE W'.ads) kvs l→bIh G.X o l→Hd G W (k kvs) Φ→P):P:=by
 unfold bDf at h
 cases e:gN σ.led i with
 |none=>rw[e] at h;exact h.elim
 |some so =>
  rw[e] at h
  cases so with
  |di kvs=>obtain⟨o,h1,h2,l,al,r⟩:=S.slot e ha;exact g kvs o l h1 h2 al r h
  |_=>exact h.elim
theorem aNk{i:Nat}{a:Addr}{k:List (Str×SV)→Nat→Out α}(h:Hd G W (aNl σ i k) Φ)(S:Sat G W' σ)(ha:gN W'.ads i=some a)(g:∀ es n l,gN W'.objs i=some (dictOf l n)→(a,dictOf l n)∈W'.l→All2 (NsE G.X W'.ads) es l→Hd G W (k es n) Φ→P):P:=by
 unfold aNl at h
 cases e:gN σ.led i with
 |none=>rw[e] at h;exact h.elim
 |some so =>
  rw[e] at h
  cases so with
  |ns es n=>obtain⟨o,h1,h2,l,al,rfl⟩:=S.slot e ha;exact g es n l h1 h2 al h
  |_=>exact h.elim
theorem bIf{c:Bool}{k:St→Bool→Out α}(h:Hd G W (br c σ k) Φ)(g:∀ r,Hd G W (k ⟨σ.m,σ.led,r⟩ c) Φ→P):P:=by
 unfold br at h
 cases e:σ.orc with
 |nil=>rw[e] at h;exact h.elim
 |cons a r =>
  rw[e] at h
  cases a with
  |zero=>obtain⟨rfl,h⟩:=h;exact g r h
  |succ n=>cases n with
   |zero=>obtain⟨rfl,h⟩:=h;exact g r h
   |succ n=>cases c with
    |true=>exact g r (h.1 rfl)
    |false=>exact g r (h.2 rfl)
end
noncomputable abbrev PV(G:Gd V)(Q:Value→Shared→Prop):Wd→St→SV→Prop:=fun W _ y=>∀ v,Den W.ads y v→Q v (G.st W)
noncomputable abbrev PS(G:Gd V)(Q:List Value→Shared→Prop):Wd→St→List SV→Prop:=fun W _ y=>∀ v,Dens W.ads y v→Q v (G.st W)
noncomputable abbrev PB(G:Gd V)(Q:Bool→Shared→Prop):Wd→St→Bool→Prop:=fun W _ y=>Q y (G.st W)
noncomputable abbrev PU(G:Gd V)(Q:Unit→Shared→Prop):Wd→St→Unit→Prop:=fun W _ _=>Q () (G.st W)
noncomputable abbrev PF(G:Gd V)(Q:Flow→Shared→Prop):Wd→St→Flw→Prop:=fun W _ y=>match y with
 | .n=>Q .next (G.st W)
 | .r y=>∀ v,Den W.ads y v→Q (.ret v) (G.st W)
noncomputable abbrev PC(G:Gd V)(m:Str→Option Value)(Q:Value→Shared→Prop):Wd→St→SV→Prop:=fun W _ y=>W.m=m→∀ v,Den W.ads y v→Q v (G.st W)
noncomputable abbrev aJm(Q:Value→Shared→Prop)(E:Value→Shared→Prop):Result→Shared→Prop:=fun r s'=>match r with
 | .ok (.ret v)=>Q v s'
 | .ok _=>False
 | .error e=>E e s'
structure Rec where
 e:Cf→PySem.Expr→St→Out SV
 es:Cf→List PySem.Expr→St→Out (List SV)
 b:Cf→PySem.Expr→St→Out Bool
 st:Cf→Stmt→St→Out Flw
 bk:Cf→List Stmt→St→Out Flw
 fn:Cf→Addr→List SV→St→Out SV
structure Snd(V:Vw)(r:Rec):Prop where
 e:∀ {G:Gd V} {W σ x Q},Sat G W σ→Hd G W (r.e G.cf x σ) (PV G Q)→G.wp (eval x G.env) Q (G.st W)
 es:∀ {G:Gd V} {W σ l pos Q},Sat G W σ→Hd G W (r.es G.cf l σ) (PS G Q)→G.wp (spliced (backTo pos (starEach l G.env))) Q (G.st W)
 b:∀ {G:Gd V} {W σ x Q},Sat G W σ→Hd G W (r.b G.cf x σ) (PB G Q)→G.wp (isTrue x G.env (eval x G.env)) Q (G.st W)
 st:∀ {G:Gd V} {W σ x Q},Sat G W σ→Hd G W (r.st G.cf x σ) (PF G Q)→G.wp (exec x G.env) Q (G.st W)
 bk:∀ {G:Gd V} {W σ l Q},Sat G W σ→Hd G W (r.bk G.cf l σ) (PF G Q)→G.wp (execs l G.env) Q (G.st W)
 fn:∀ {G:Gd V} {W σ f args vs Q},Sat G W σ→Dens W.ads args vs→Hd G W (r.fn G.cf f args σ) (PC G W.m Q)→codeAny G.M G.A (.call (.ref f) ⟨vs,[]⟩) (aJm Q G.E) (G.st W)
variable {r:Rec}
theorem Snd.ev(R:Snd V r)(S:Sat G W σ){x:PySem.Expr}{k:St→SV→Out α}{Q:Value→Shared→Prop}(h:Hd G W (bd (r.e G.cf x σ) k) Φ)
  (g:∀ {W' σ' y v},Sat G W' σ'→Pre W.ads W'.ads→Den W'.ads y v→Hd G W' (k σ' y) Φ→Q v (G.st W')):G.wp (eval x G.env) Q (G.st W) :=
 R.e S (h.to fun S p h _ d=>g S p d h)
theorem Snd.evs(R:Snd V r)(S:Sat G W σ){l:List PySem.Expr}{pos:Pos}{k:St→List SV→Out α}{Q:List Value→Shared→Prop}(h:Hd G W (bd (r.es G.cf l σ) k) Φ)
  (g:∀ {W' σ' y v},Sat G W' σ'→Pre W.ads W'.ads→Dens W'.ads y v→Hd G W' (k σ' y) Φ→Q v (G.st W')):G.wp (spliced (backTo pos (starEach l G.env))) Q (G.st W) :=
 R.es S (h.to fun S p h _ d=>g S p d h)
theorem Snd.cond(R:Snd V r)(S:Sat G W σ){x:PySem.Expr}{k:St→Bool→Out α}{Q:Bool→Shared→Prop}(h:Hd G W (bd (r.b G.cf x σ) k) Φ)
  (g:∀ {W' σ' y},Sat G W' σ'→Pre W.ads W'.ads→Hd G W' (k σ' y) Φ→Q y (G.st W')):G.wp (isTrue x G.env (eval x G.env)) Q (G.st W) :=
 R.b S (h.to (Ψ:=PB G Q) fun S p h=>g S p h)
theorem bE9{k:St→Out Flw}{Q:Flow→Shared→Prop}{Q':Flow→Shared→Prop}{o:Out Flw}(h:Hd G W (Mine.bn o k) (PF G Q))(f:∀ W' σ,Sat G W' σ→Pre W.ads W'.ads→Hd G W' (k σ) (PF G Q)→Q' .next (G.st W'))(g:∀ v s,Q (.ret v) s→Q' (.ret v) s):Hd G W o (PF G Q'):=by
 induction o with
 |f=>exact h
 |p σ a=>cases a with
  |n=>exact fun W' p S=>f W' σ S p (h.up p)
  |r y=>exact fun W' p S v d=>g _ _ (h W' p S v d)
 |t σ a=>cases a with
  |n=>exact False.elim h
  |r y=>exact fun G' W' T p S v d=>g _ _ (h G' W' T p S v d)
 |x _ _=>exact h
 |g P o ih=>exact⟨h.1,ih h.2⟩
 |s c o1 o2 i1 i2=>exact⟨fun e=>i1 (h.1 e),fun e=>i2 (h.2 e)⟩
end
noncomputable def aG4:Value→SV
 | .int n _=>.z n
 | .str y _=>.s y
 |v=>.k v
theorem aBi{ads:List Addr}{v:Value}:Den ads (aG4 v) v:=by
 cases v with
 |int _ t=>exact⟨t,rfl⟩
 |str _ t=>exact⟨t,rfl⟩
 |_=>exact rfl
noncomputable def aC2(b:Bool):SV:=.k (.bool b)
noncomputable def bMj(V:Vw)(x:Str)(r:Option Value):Option SV:=match r with
 |some v=>some (aG4 v)
 |none=>bif aB5 x "__name__" then none else (bootBuiltins x).map aG4
noncomputable def aPj:SO→Option SV
 | .cell y=>y
 |_=>none
noncomputable def nameV(V:Vw)(cs:Scope)(x:Str)(σ:St):Option SV :=
 bif aB5 x "__debug__" then none else (lkS x cs.names).bind fun k=>match k with
  | .local=>aD3 x σ.m
  | .globalImplicit=>(V.ns mainGlobals x).bind (bMj V x)
  | .cell=>bif Nat.ble 20 cs.names.length then (V.cells x).bind fun i=>(gN σ.led i).bind aPj else none
  |_=>none
noncomputable def aKr(V:Vw)(cs:Scope)(x:Str)(σ:St):Out SV:=onO (nameV V cs x σ) (.p σ)
noncomputable def aO7(k:Const)(σ:St):Out SV:=match k with
 | .int n=>.p σ (.z n)
 | .str y=>.p σ (.s y)
 | .none=>.p σ (.k .none)
 | .bool b=>.p σ (aC2 b)
 |_=>.f
section
variable {V:Vw} {G:Gd V} {W:Wd} {σ:St} {α:Type} {Φ:Wd→St→α→Prop} {Q:Value→Shared→Prop} {P:Prop}
theorem aBu{b:Bool}(h:(!b)=true):b=false:=by cases b<;>first|rfl|cases h
theorem bIy{x y:Str}(h:(!(aB5 x y))=true):(x==y)=false:=beq_eq_false_iff_ne.mpr (aCk.mp (aBu h))
theorem aHg{i:Nat}{a:Addr}{k:SO→Out α}(h:Hd G W (onO (gN σ.led i) k) Φ)(S:Sat G W σ)(ha:gN W.ads i=some a)(g:∀ so o,gN W.objs i=some o→(a,o)∈W.l→DenO G.X W.ads so o→Hd G W (k so) Φ→P):P :=
 onO_e h fun so e h=>by obtain⟨o,h1,h2,h3⟩:=S.slot e ha;exact g so o h1 h2 h3 h
theorem bFc{c:Bool}{γ:Type}{x:Option γ}{y:γ}(h:(bif c then none else x)=some y):c=false∧x=some y:=by
 cases c with
 |true=>cases h
 |false=>exact⟨rfl,h⟩
theorem aGx{c:Bool}{γ:Type}{x:Option γ}{y:γ}(h:(bif c then x else none)=some y):c=true∧x=some y:=by
 cases c with
 |true=>exact⟨rfl,h⟩
 |false=>cases h
theorem aJz{x y:Str}(h:aB5 x y=false):(x==y)=false:=beq_eq_false_iff_ne.mpr (aCk.mp h)
theorem aCz{x:Str}{pos:Pos}{y:SV}(S:Sat G W σ)(e:nameV V G.cf.cs x σ=some y)(h:∀ v,Den W.ads y v→Q v (G.st W)):G.wp (eval (.Name x pos) G.env) Q (G.st W):=by
 refine aBa (bFc e) fun hd e=>?_
 replace hd:=aJz hd
 refine aAd (Option.bind_eq_some_iff.mp e) fun k hk e=>?_
 rw[aFn] at hk
 cases k with
 | «local»=>exact (S.M _ _ e).elim fun v q=>nameX_L S.F q.1 (h v q.2) S.ok.hk hk hd
 |globalImplicit =>
  refine aAd (Option.bind_eq_some_iff.mp e) fun r hn e=>?_
  cases r with
  |some v=>cases e;exact nameX_K S.F S.ok.K (topRead_of S.ok.T) (G.X.vo.ns hn).1 (h v aBi) S.ok.hk hk hd
  |none =>
   refine aBa (bFc e) fun he e=>?_
   refine aAd (Option.map_eq_some_iff.mp e) fun v hb r4_2=>?_
   subst r4_2
   exact nameX_B S.F S.ok.K (topRead_of S.ok.T) (G.X.vo.ns hn).1 hb (ne_of_beq_false (aJz he)) (h v aBi) S.ok.hk hk hd
 |cell =>
  refine aBa (aGx e) fun ht e=>?_
  refine aAd (Option.bind_eq_some_iff.mp e) fun i hi e=>?_
  refine aAd (Option.bind_eq_some_iff.mp e) fun so hso e=>?_
  refine aAd (S.cl ht x i hi) fun a k1 k2=>?_
  refine aDm (S.slot hso k1) fun o h1 h2 d=>?_
  cases so with
  |cell y=>cases e;exact d.elim fun v q=>wpAny_Name (wpAny_loadName_cell S.ok.hk hk k2 ⟨o,(S.N _ h2).1,q.2⟩ (h v q.1)) hd
  |_=>exact nn e
 |_=>exact nn e
theorem aEs{x:Str}{pos:Pos}(S:Sat G W σ)(h:Hd G W (aKr V G.cf.cs x σ) (PV G Q)):G.wp (eval (.Name x pos) G.env) Q (G.st W) :=
 onO_e h fun _ e h=>aCz S e (h W (.refl _) S)
theorem aLz{k:Const}{kk:Nat}{pos:Pos}(S:Sat G W σ)(h:Hd G W (aO7 k σ) (PV G Q)):G.wp (eval (.Constant k kk pos) G.env) Q (G.st W):=by
 cases k with
 |int n=>exact wpAny_Constant_int (h (W.tok (W.t+1)) (.refl _) (S.tok _) _ ⟨_,rfl⟩)
 |str y=>exact Constant_str (h (W.tok (W.t+1)) (.refl _) (S.tok _) _ ⟨_,rfl⟩)
 |none=>exact wpAny_Constant_none (h W (.refl _) S _ rfl)
 |bool b=>exact Constant_bool (h W (.refl _) S _ rfl)
 |_=>exact h.elim
end
noncomputable def num:SV→Option (Int×Bool)
 | .z n=>some (n,true)
 | .i x=>some (x,false)
 |_=>none
theorem aB3{ads:List Addr}{y:SV}{v:Value}{p:Int×Bool}(h:num y=some p)(d:Den ads y v):∃ t,v=.int p.1 t:=by
 cases y with
 |z n=>cases h;exact d
 |i n=>cases h;exact d
 |_=>exact nn h
noncomputable def mkI(l:Bool)(x:Int):SV:=match l with
 |true=>.z x
 |false=>.i x
theorem aEu{ads:List Addr}{l:Bool}{x:Int}{t:Tok}:Den ads (mkI l x) (.int x t):=by cases l<;>exact⟨t,rfl⟩
noncomputable def mkB(l:Bool)(b:Bool):SV:=match l with
 |true=>.k (.bool b)
 |false=>.b b
theorem aCu{ads:List Addr}{l b:Bool}:Den ads (mkB l b) (.bool b):=by cases l<;>rfl
section
variable {α:Type}
noncomputable def gd(l:Bool)(b:Bool)(P:Prop)(o:Out α):Out α:=match l with
 |true=>ifT b o
 |false=>.g P o
theorem bEe{V:Vw}{G:Gd V}{W:Wd}{Φ:Wd→St→α→Prop}{l b:Bool}{P C:Prop}{o:Out α}(h:Hd G W (gd l b P o) Φ)(hb:b=true→P)(g:P→Hd G W o Φ→C):C:=by
 cases l with
 |true=>exact ifT_e h fun q h=>g (hb q) h
 |false=>exact g h.1 h.2
end
noncomputable def aA4(n:Int):Int:=match (2:Int) ^ n.toNat with
 | .ofNat q=>.ofNat q
 | .negSucc q=>.negSucc q
theorem aIx{n:Int}:aA4 n=(2:Int) ^ n.toNat:=by unfold aA4;cases (2:Int) ^ n.toNat<;>rfl
theorem aQ6{n:Int}:0<aA4 n:=by rw[aIx];exact Int.pow_pos (by decide)
noncomputable def bt(a x b:Int):Bool:=decide (a≤x)&&decide (x≤b)
theorem aGv{a x b:Int}(h:bt a x b=true):a≤x∧x≤b:=by
 unfold bt at h;rwa [Bool.and_eq_true,decide_eq_true_eq,decide_eq_true_eq] at h
noncomputable def i64:Int:=18446744073709551615
noncomputable def bY4(lx:Bool)(x:Int)(ly:Bool)(y:Int)(o:Out SV):Out SV:=match ly with
 |true=>ifT (bt (-i64) y i64) o
 |false=>gd lx (bt (-i64) x i64) (-i64≤x∧x≤i64) o
noncomputable def bTn(lx:Bool)(x:Int)(ly:Bool)(y:Int)(σ:St):Out SV:=match ly with
 |true=>ifT (bt 0 y 64) (.p σ (mkI (lx&&true) (x/aA4 y)))
 |false=>ifT (lx&&x==0) (.g (0≤y) (.p σ (.z 0)))
noncomputable def binI(op:Operator)(x:Int)(lx:Bool)(y:Int)(ly:Bool)(σ:St):Out SV:=match op with
 | .Add=>.p σ (mkI (lx&&ly) (x+y))
 | .Sub=>.p σ (mkI (lx&&ly) (x-y))
 | .Mult=>bY4 lx x ly y (.p σ (mkI (lx&&ly) (x*y)))
 | .BitAnd=>.p σ (mkI (lx&&ly) (Builtin.bitAnd x y))
 | .BitOr=>.p σ (mkI (lx&&ly) (Builtin.bitOr x y))
 | .BitXor=>.p σ (mkI (lx&&ly) (Builtin.bitXor x y))
 | .Mod=>gd ly (bt 1 y i64) (1≤y∧y≤i64) (.p σ (mkI (lx&&ly) (x%y)))
 | .FloorDiv=>gd ly (bt 1 y 4294967296) (1≤y∧y≤4294967296) (.p σ (mkI (lx&&ly) (x/y)))
 | .RShift=>bTn lx x ly y σ
 | .LShift=>ifT (ly&&bt 0 y 64) (gd lx (bt 0 x i64) (0≤x∧x≤i64) (.p σ (mkI (lx&&ly) (x*aA4 y))))
 | .Pow=>ifT (ly&&bt 0 y 1000) (gd lx (bt (-i64) x i64) (-i64≤x∧x≤i64) (.p σ (mkI (lx&&ly) (x ^ y.toNat))))
 |_=>.f
noncomputable def bRh(op:CmpOp)(x:Int)(y:Int)(l:Bool):Option SV:=match op with
 | .Eq=>some (mkB l (x==y))
 | .NotEq=>some (mkB l (x != y))
 | .Lt=>some (mkB l (decide (x<y)))
 | .LtE=>some (mkB l (decide (x≤y)))
 | .Gt=>some (mkB l (decide (y<x)))
 | .GtE=>some (mkB l (decide (y≤x)))
 |_=>none
section
variable {V:Vw} {G:Gd V} {W:Wd} {σ:St} {Q:Value→Shared→Prop}
theorem aDq{z:Int}{l:Bool}(S:Sat G W σ)(h:Hd G W (.p σ (mkI l z)) (PV G Q)):Q (.int z W.t) (G.st (W.tok (W.t+1))):=h (W.tok (W.t+1)) (.refl _) (S.tok _) _ aEu
theorem aAc{a b:Bool}(h:(a&&b)=true):a=true∧b=true:=by rwa [Bool.and_eq_true] at h
theorem bFp{x:Int}(h:-i64≤x∧x≤i64):x.natAbs<2 ^ 64:=by unfold i64 at h;omega
theorem bQp{x:Int}(h:-i64≤x∧x≤i64):-2 ^ 64<x:=by unfold i64 at h;omega
theorem bQy{x:Int}(h:-i64≤x∧x≤i64):x<2 ^ 64:=by unfold i64 at h;omega
theorem aZg{op:Operator}{x y:Int}{lx ly:Bool}{t u:Tok}(S:Sat G W σ)(h:Hd G W (binI op x lx y ly σ) (PV G Q)):G.wp (binaryOp op (.int x t) (.int y u)) Q (G.st W):=by
 cases op with
 |Add=>exact add_int (aDq S h)
 |Sub=>exact sub_int (aDq S h)
 |BitAnd=>exact and_int (aDq S h)
 |BitOr=>exact or_int (aDq S h)
 |BitXor=>exact xor_int (aDq S h)
 |Mult=>cases ly with
  |true=>exact ifT_e h fun q h=>mul_int (aDq S h) (IntMulOk.of_right (intBits_le_64 (bQp (aGv q)) (bQy (aGv q))))
  |false=>exact bEe h aGv fun q h=>mul_int (aDq S h) (IntMulOk.of_left (intBits_le_64 (bQp q) (bQy q)))
 |Mod=>exact bEe h aGv fun q h=>aRb q.1 (aDq S h)
 |FloorDiv=>exact bEe h aGv fun q h=>aYx q.1 q.2 (aDq S h)
 |RShift=>cases ly with
  |true=>exact ifT_e h fun q h=>bI4 (aGv q).1 aIx.symm aQ6 (aDq S h)
  |false =>
   refine ifT_e h fun q h1=>?_
   have hx:x=0:=beq_iff_eq.mp (aAc q).2
   subst hx
   exact bTo h1.1 (h1.2 (W.tok (W.t+1)) (.refl _) (S.tok _) _ ⟨_,rfl⟩)
 |LShift=>exact ifT_e h fun q h=>bEe h aGv fun p h=>bMt (aGv (aAc q).2).1 (aGv (aAc q).2).2 p.1 (Int.lt_add_one_of_le p.2) aIx.symm (aDq S h)
 |Pow=>exact ifT_e h fun q h=>bEe h aGv fun p h=>pow_int_small (aGv (aAc q).2).1 (Int.le_trans (aGv (aAc q).2).2 (by decide)) (bFp p) (aDq S h)
 |_=>exact h.elim
theorem aY0{op:CmpOp}{x y:Int}{l:Bool}{t u:Tok}{z:SV}(e:bRh op x y l=some z)(h:∀ b,Den W.ads z (.bool b)→Q (.bool b) (G.st W)):G.wp (compareOp op (.int x t) (.int y u)) Q (G.st W):=by
 cases op with
 |Eq=>cases e;exact eq_int (h _ aCu)
 |NotEq=>cases e;exact ne_int (h _ aCu)
 |Lt=>cases e;exact lt_int (h _ aCu)
 |LtE=>cases e;exact le_int (h _ aCu)
 |Gt=>cases e;exact gt_int (h _ aCu)
 |GtE=>cases e;exact ge_int (h _ aCu)
 |_=>exact nn e
end
noncomputable def bIn:SV→Option Str
 | .s y=>some y
 |_=>none
noncomputable def bIm:List SV→Option (List Str)
 | []=>some []
 |y::r=>(bIn y).bind fun x=>(bIm r).map (x::·)
noncomputable def nums:List SV→Option (List Int×Bool)
 | []=>some ([],true)
 |y::r=>(num y).bind fun x=>(nums r).map fun q=>(x.1::q.1,x.2&&q.2)
noncomputable def aI6:List Value→Option (List Int)
 | []=>some []
 |v::r=>(num (aG4 v)).bind fun x=>(aI6 r).map (x.1::·)
theorem aEj:∀ {l:List Value} {ns:List Int},aI6 l=some ns→IntsAre l ns
 | [],ns,h=>by cases h;exact .nil
 |v::r,ns,h=>by
  refine aAd (Option.bind_eq_some_iff.mp h) fun x h1 h2=>?_
  refine aAd (Option.map_eq_some_iff.mp h2) fun q h3 r1_2=>?_
  subst r1_2
  refine aA6 (aB3 (ads:=[]) h1 aBi) fun t e=>?_
  exact e▸.cons x.1 t (aEj h3)
theorem aQh{ads:List Addr}:∀ {l:List SV} {ys:List Str} {vs:List Value},bIm l=some ys→Dens ads l vs→StrsAre vs ys:=by
 intro l
 induction l with
 |nil=>intro ys vs h a;cases h;cases a;exact .nil
 |cons y r ih =>
  intro ys vs h a
  cases a with
  |cons d a =>
   refine aAd (Option.bind_eq_some_iff.mp h) fun x h1 h2=>?_
   refine aAd (Option.map_eq_some_iff.mp h2) fun q h3 r4_2=>?_
   subst r4_2
   cases y with
   |s y=>cases h1;obtain⟨t,rfl⟩:=d;exact .cons _ t (ih h3 a)
   |_=>exact nn h1
theorem aGa{ads:List Addr}:∀ {l:List SV} {p:List Int×Bool} {vs:List Value},nums l=some p→Dens ads l vs→IntsAre vs p.1:=by
 intro l
 induction l with
 |nil=>intro p vs h a;cases h;cases a;exact .nil
 |cons y r ih =>
  intro p vs h a
  cases a with
  |cons d a =>
   refine aAd (Option.bind_eq_some_iff.mp h) fun x h1 h2=>?_
   refine aAd (Option.map_eq_some_iff.mp h2) fun q h3 r6_2=>?_
   subst r6_2
   refine aA6 (aB3 h1 d) fun t r7_1=>?_
   subst r7_1
   exact .cons x.1 t (ih h3 a)
noncomputable def aCt(k:Int):List (Int×SV)→Option SV
 | []=>none
 |p::r=>if p.1=k then some p.2 else aCt k r
theorem aKu{ads:List Addr}{k:Int}:∀ {kvs:List (Int×SV)} {l:List (Int×Value)},All2 (DiE ads) kvs l→FactR ads l (k,aCt k kvs):=by
 intro kvs l h
 induction h with
 |nil=>rfl
 | @cons p q r m d a ih =>
  obtain⟨x,y⟩:=p
  obtain⟨z,v⟩:=q
  obtain⟨e,d⟩:=d
  dsimp only at e d
  subst e
  unfold aCt
  by_cases h:z=k
  ·rw[if_pos h];exact⟨v,by rw[valueAt,List.find?_cons_of_pos (by simp[h])];rfl,d⟩
  ·rw[if_neg h]
   have e2:valueAt ((z,v)::m) k=valueAt m k:=by unfold valueAt;rw[List.find?_cons_of_neg (by simp[h])]
   unfold FactR at *
   dsimp only at *
   rw[e2];exact ih
theorem aJy{x y:Str}:aB5 x y=(x==y):=by
 by_cases h:x=y
 ·rw[aCc.mpr h,h];simp
 ·rw[aCk.mpr h,beq_eq_false_iff_ne.mpr h]
noncomputable def aI8:SV→Option Bool
 | .k v=>(match v with
  | .none=>some true
  | .ref _=>some false
  |_=>none)
 | .a _=>some false
 | .z _=>some false
 | .i _=>some false
 |_=>none
noncomputable def bNf(a b:SV):Option Bool:=match num a with
 |some x=>(match num b with
  |some y=>some (x.1==y.1)
  |none=>(aI8 b).bind fun c=>bif c then some false else none)
 |none=>(aI8 a).bind fun c=>bif c then (match num b with
  |some _=>some false
  |none=>(aI8 b).bind fun c=>bif c then some true else none) else none
theorem aFp{ads:List Addr}{y:SV}{v:Value}(h:aI8 y=some true)(d:Den ads y v):v=.none:=by
 cases y with
 |k w=>cases w with
  |none=>exact d
  |_=>cases h
 |_=>cases h
theorem aYr{ads:List Addr}{A:Around}{s:Shared}{a b:SV}{va vb:Value}{c:Bool}(h:bNf a b=some c)(da:Den ads a va)(db:Den ads b vb):PySem.SeqAt.EqAt A s va vb c:=by
 have no:∀ {x:SV} {w:Value} {y:Bool} {z:Option Bool},(aI8 x).bind (fun c=>bif c then z else none)=some y→Den ads x w→w=.none∧z=some y:=fun {x w y z} h d=>by
  refine aAd (Option.bind_eq_some_iff.mp h) fun c h1 h2=>?_
  cases c with
  |true=>exact⟨aFp h1 d,h2⟩
  |false=>cases h2
 unfold bNf at h
 cases ha:num a with
 |some x =>
  rw[ha] at h
  refine aA6 (aB3 ha da) fun t r12_1=>?_
  subst r12_1
  cases hb:num b with
  |some y =>
   rw[hb] at h
   refine aA6 (aB3 hb db) fun u r13_1=>?_
   subst r13_1
   cases h;exact PySem.SeqAt.EqAt.int_int _ _ _ _
  |none =>
   rw[hb] at h
   refine aBa (no h db) fun r14_0 e=>?_
   subst r14_0
   cases e;exact PySem.SeqAt.EqAt.int_none _ _
 |none =>
  rw[ha] at h
  refine aBa (no h da) fun r15_0 h=>?_
  subst r15_0
  cases hb:num b with
  |some y =>
   rw[hb] at h
   refine aA6 (aB3 hb db) fun u r16_1=>?_
   subst r16_1
   cases h;exact PySem.SeqAt.EqAt.none_int _ _
  |none =>
   rw[hb] at h
   refine aBa (no h db) fun r17_0 e=>?_
   subst r17_0
   cases e;exact PySem.SeqAt.EqAt.same _
noncomputable def aYs:List SV→List SV→Option (List Bool)
 | [],l=>(match l with
  | []=>some []
  |_::_=>none)
 |a::l,m=>(match m with
  | []=>none
  |b::m=>(bNf a b).bind fun x=>(aYs l m).map (x::·))
theorem aSh{ads:List Addr}{A:Around}{s:Shared}:∀ {l m:List SV} {vs ws:List Value} {r:List Bool},aYs l m=some r→Dens ads l vs→Dens ads m ws→vs.length=ws.length∧r.length=vs.length∧∀ j (h1:j<vs.length) (h2:j<ws.length),PySem.SeqAt.EqAt A s vs[j] ws[j] (r.getD j true):=by
 intro l
 induction l with
 |nil =>
  intro m vs ws r h a b
  cases m with
  |nil=>cases a;cases b;cases h;exact⟨rfl,rfl,fun j h1=>absurd h1 (Nat.not_lt_zero _)⟩
  |cons _ _=>cases h
 |cons x l ih =>
  intro m vs ws r h a b
  cases m with
  |nil=>cases h
  |cons y m =>
   refine aAd (Option.bind_eq_some_iff.mp h) fun c h1 h2=>?_
   refine aAd (Option.map_eq_some_iff.mp h2) fun q h3 r19_2=>?_
   subst r19_2
   cases a with
   |cons da a=>cases b with
    |cons db b =>
     refine aJi (ih h3 a b) fun e1 e2 e3=>?_
     refine⟨congrArg Nat.succ e1,congrArg Nat.succ e2,fun j j1 j2=>?_⟩
     cases j with
     |zero=>exact aYr h1 da db
     |succ j=>exact e3 j (Nat.lt_of_succ_lt_succ j1) (Nat.lt_of_succ_lt_succ j2)
noncomputable def allB:List Bool→Bool
 | []=>true
 |x::r=>(match r with
  | []=>x
  |_::_=>x&&allB r)
theorem aPu:∀ {r:List Bool},allB r=(List.range r.length).all (fun j=>r.getD j true)
 | []=>rfl
 |x::r=>by
  rw[List.length_cons,List.range_succ_eq_map,List.all_cons,List.all_map]
  have e:(List.all (List.range r.length) ((fun j=>(x::r).getD j true)∘Nat.succ))=(List.range r.length).all (fun j=>r.getD j true):=congrArg _ rfl
  rw[e,← aPu (r:=r)]
  cases r<;>simp[allB]
section
variable {α:Type}
noncomputable def onS(y:SV)(k:Str→Out α):Out α:=match y with
 | .s x=>k x
 |_=>.f
noncomputable def onK(y:SV)(k:Addr→Out α):Out α:=match y with
 | .k v=>(match v with
  | .ref a=>k a
  |_=>.f)
 |_=>.f
variable {V:Vw} {G:Gd V} {W:Wd} {σ:St} {Φ:Wd→St→α→Prop}
@[elab_as_elim] theorem aWs {y:SV} {k:Str→Out α} {ads:List Addr} {v:Value} {C:Value→Prop} (h:Hd G W (onS y k) Φ) (d:Den ads y v) (g:∀ x t,Hd G W (k x) Φ→C (.str x t)):C v:=by
 cases y with
 |s x=>obtain⟨t,rfl⟩:=d;exact g x t h
 |_=>exact h.elim
@[elab_as_elim] theorem aNm {y:SV} {k:Addr→Out α} {ads:List Addr} {v:Value} {C:Value→Prop} (h:Hd G W (onK y k) Φ) (d:Den ads y v) (g:∀ x,Hd G W (k x) Φ→C (.ref x)):C v:=by
 cases y with
 |k w=>cases w with
  |ref a=>cases d;exact g a h
  |_=>exact h.elim
 |_=>exact h.elim
end
noncomputable def bQ9(i j:Nat)(σ:St):Out SV:=onSeq σ i fun ta vs _=>onSeq σ j fun tb ws _=>ifT (ta==tb) (onO (aYs vs ws) fun r=>.p σ (.b (!allB r)))
noncomputable def aOa(V:Vw)(d:Addr)(x:Int)(σ:St):Out SV:=match aCf V.O d x with
 |some r=>.p σ (aC2 (!r.isSome))
 |none=>onO (V.tp d) fun l=>onO (aI6 l) fun ns=>.p σ (aC2 (!(ns.any (·==x))))
noncomputable def bQx(V:Vw)(x:Int)(lx:Bool)(b:SV)(σ:St):Out SV:=match b with
 | .a i=>onO (gN σ.led i) fun o=>(match o with
  | .seq tup vs _=>ifT tup (onO (nums vs) fun q=>.p σ (mkB (lx&&q.2) (q.1.any (·==x))))
  | .di kvs=>ifT lx (.p σ (aC2 (aCt x kvs).isSome))
  |_=>.f)
 |b=>onK b fun d=>ifT (lx&&!(d==sysModules)) (onO (aCf V.O d x) fun r=>.p σ (aC2 r.isSome))
noncomputable def inS(V:Vw)(x:Str)(b:SV)(σ:St):Out SV:=match b with
 | .a i=>onSeq σ i fun tup vs _=>ifT tup (onO (bIm vs) fun ys=>.p σ (aC2 (ys.any (aB5 · x))))
 |b=>onK b fun d=>ifT (!(d==mainGlobals)) (ifT (!(d==sysModules)) (onO (V.ns d x) fun r=>.p σ (aC2 r.isSome)))
noncomputable def bEw(V:Vw)(op:CmpOp)(x:Int)(lx:Bool)(b:SV)(σ:St):Out SV:=match op with
 | .In=>bQx V x lx b σ
 | .NotIn=>onK b fun d=>ifT (lx&&!(d==sysModules)) (aOa V d x σ)
 | .Is=>onO (aI8 b) fun c=>ifT c (.p σ (aC2 false))
 | .IsNot=>onO (aI8 b) fun c=>ifT c (.p σ (aC2 true))
 |_=>.f
noncomputable def bEv(V:Vw)(op:CmpOp)(a b:SV)(σ:St):Out SV:=match op with
 | .NotEq=>onA a fun i=>onA b fun j=>bQ9 i j σ
 | .Is=>onO (aI8 b) fun c=>ifT c (onO (aI8 a) fun r=>.p σ (aC2 r))
 | .IsNot=>onO (aI8 b) fun c=>ifT c (onO (aI8 a) fun r=>.p σ (aC2 (!r)))
 | .Eq=>onS a fun x=>onS b fun y=>.p σ (aC2 (aB5 x y))
 | .In=>onS a fun x=>inS V x b σ
 |_=>.f
noncomputable def aO8(V:Vw)(op:CmpOp)(a b:SV)(σ:St):Out SV:=match num a with
 |some x=>(match num b with
  |some y=>onO (bRh op x.1 y.1 (x.2&&y.2)) (.p σ)
  |none=>bEw V op x.1 x.2 b σ)
 |none=>bEv V op a b σ
theorem notI{prog:Program}{w:World}{A:Around}{E:Value→Shared→Prop}{s:Shared}{K:Frag}{h₀:Heap}{L a:Addr}{m:Str→Option Value}{k:Int}{t:Tok}{r:Option Value}{Q:Value→Shared→Prop}(F:Fr h₀ L s.heap m)(X:K.In h₀)(e:aCf K a k=some r)(lo:(a==sysModules)=false)(h:∀ tk,Q (.bool !r.isSome) { s with toks:=tk }):wpAny (model prog w) A (compareOp .NotIn (.int k t) (.ref a)) Q E s:=by
 refine aAd (aBp (prog:=prog) (w:=w) (X.keeps F.keep) e) fun f hm hf=>?_
 exact wpAny_notIn_of (intKind_is prog w k t) lo hm (by rw[hf];exact h _)
section
variable {V:Vw} {G:Gd V} {W:Wd} {σ:St} {Q:Value→Shared→Prop}
theorem aDd{x:SV}{v:Value}(S:Sat G W σ)(h:Hd G W (.p σ x) (PV G Q))(d:Den W.ads x v):Q v (G.st W):=h W (.refl _) S v d
theorem aDc{x:SV}{v:Value}(S:Sat G W σ)(h:Hd G W (.p σ x) (PV G Q))(t:Nat)(d:Den W.ads x v):Q v (G.st (W.tok t)):=h (W.tok t) (.refl _) (S.tok t) v d
theorem bOf{a b:Bool}(h:(a==b)=true):a=b:=by cases a<;>cases b<;>first|rfl|cases h
theorem aYi{i j:Nat}{a b:Addr}(S:Sat G W σ)(ha:gN W.ads i=some a)(hb:gN W.ads j=some b)(h:Hd G W (bQ9 i j σ) (PV G Q)):G.wp (compareOp .NotEq (.ref a) (.ref b)) Q (G.st W) :=
 aCd h S ha fun ta vs n l1 _ q2 al1 h=>aCd h S hb fun tb ws n2 l2 _ p2 al2 h=>ifT_e h fun ht h=>onO_e h fun r hr hz=>by
  cases bOf ht
  have hu:G.A.units<cLine:=Nat.lt_of_le_of_lt (Nat.le_add_right _ _) S.ok.un
  have key:∀ {B:Around},_:=fun {B}=>aSh (A:=B) (s:=G.st W) hr al1 al2
  obtain⟨e1,e2,-⟩:=key (B:=G.A)
  have fin:Q (.bool (!(List.range l1.length).all (fun j=>r.getD j true))) (G.st W):=by
   rw[← e2,← aPu];exact aDd S hz rfl
  refine cmp_ofNotEq ?_
  cases ta with
  |true =>
   refine PySem.SeqAt.RcNeAt.tuples (items:=l1.toArray) (items2:=l2.toArray) (News.isTup S.N q2) (News.isTup S.N p2) hu (fun j h1 h2=>(key (B:=G.A.in1)).2.2 j h1 h2) _ _ _ _ ?_
   simpa[e1] using fin
  |false =>
   exact PySem.SeqAt.RcNeAt.lists (items:=l1.toArray) (items2:=l2.toArray) (News.isList S.N q2) (News.isList S.N p2) e1 hu (fun j h1 h2=>(key (B:=G.A.in1)).2.2 j h1 h2) _ _ _ _ fin
theorem aN9{d:Addr}{x:Int}{t:Tok}(S:Sat G W σ)(lo:(d==sysModules)=false)(h:Hd G W (aOa V d x σ) (PV G Q)):G.wp (compareOp .NotIn (.int x t) (.ref d)) Q (G.st W):=by
 unfold aOa at h
 cases e:aCf V.O d x with
 |some r=>rw[e] at h;exact notI S.F S.ok.K (aC0 G.X.vo.O e) lo fun tk=>aDc S h tk rfl
 |none =>
  rw[e] at h
  exact onO_e h fun l hl h=>onO_e h fun ns hn h=>(G.X.vo.tp hl).elim fun sl q=>notin_tuple_ints ⟨_,S.K _ _ q,rfl,_,rfl⟩ (aEj hn) (aDd S h rfl)
theorem aOz{ads:List Addr}{l:List (Int×Value)}{k:Int}{y:Option SV}(h:FactR ads l (k,y)):((valueAt l k).isSome)=y.isSome:=by
 cases y with
 |none=>exact congrArg Option.isSome (show valueAt l k=none from h)
 |some y=>obtain⟨v,e,_⟩:=h;exact congrArg Option.isSome e
theorem aXt{x:Int}{lx:Bool}{t:Tok}{b:SV}{vb:Value}(S:Sat G W σ)(db:Den W.ads b vb)(h:Hd G W (bQx V x lx b σ) (PV G Q)):G.wp (compareOp .In (.int x t) vb) Q (G.st W):=by
 have kk:∀ {b:SV},Den W.ads b vb→Hd G W (onK b fun d=>ifT (lx&&!(d==sysModules)) (onO (aCf V.O d x) fun r=>.p σ (aC2 r.isSome))) (PV G Q)→G.wp (compareOp .In (.int x t) vb) Q (G.st W):=fun db h =>
  aNm h db fun d h=>ifT_e h fun q h=>onO_e h fun r hr h=>Mine.inI S.F S.ok.K (aC0 G.X.vo.O hr) (aBu (aAc q).2) fun tk=>aDc S h tk rfl
 cases b with
 |a i =>
  refine aAd db fun ad h1 r22_2=>?_
  subst r22_2
  refine aHg h S h1 fun so o ho hm d h=>?_
  cases so with
  |seq tup vs n =>
   refine aAd d fun l al r23_2=>?_
   subst r23_2
   refine ifT_e h fun e h=>?_
   cases e
   exact onO_e h fun q hq h=>in_tuple_ints (News.isTup S.N hm) (aGa hq al) (aDd S h aCu)
  |di kvs =>
   refine aAd d fun l al hdo=>?_
   exact ifT_e h fun e h=>kda_in (knd:=intKind G.X.prog G.X.w) S.N hm hdo (S.low h1) (intKind_is _ _ _ _) _ (aOz (aKu al)) (aDc S h _ rfl)
  |_=>exact h.elim
 |k v=>exact kk db h
 |_=>exact h.elim
theorem bEc{x:Str}{t:Tok}{b:SV}{vb:Value}(S:Sat G W σ)(db:Den W.ads b vb)(h:Hd G W (inS V x b σ) (PV G Q)):G.wp (compareOp .In (.str x t) vb) Q (G.st W):=by
 have kk:∀ {b:SV},Den W.ads b vb→Hd G W (onK b fun d=>ifT (!(d==mainGlobals)) (ifT (!(d==sysModules)) (onO (V.ns d x) fun r=>.p σ (aC2 r.isSome)))) (PV G Q)→G.wp (compareOp .In (.str x t) vb) Q (G.st W):=fun db h =>
  aNm h db fun d h=>ifT_e h fun q1 h=>ifT_e h fun q2 h=>onO_e h fun r hr h=>((G.X.vo.ns hr).2.resolve_left (ne_of_beq_false (aBu q1))).2.elim fun es q=>q.elim fun n q=>topIn_K S.F S.ok.K q.1 q.2 (G.X.vo.ns hr).1 (aBu q2) (aDc S h _ rfl)
 cases b with
 |a i =>
  refine aAd db fun ad h1 r25_2=>?_
  subst r25_2
  refine aCd h S h1 fun tup vs n l _ hm al h=>ifT_e h fun e h=>?_
  cases e
  exact onO_e h fun ys hys h=>in_tuple_strs (News.isTup S.N hm) (aQh hys al) (aDd S h (by simp only[aJy];rfl))
 |k v=>exact kk db h
 |_=>exact h.elim
theorem aXo{a:SV}{v:Value}{r:Bool}{s:Shared}{A:Around}{prog:Program}{w:World}{E:Value→Shared→Prop}(h:aI8 a=some r)(d:Den W.ads a v)(hq:Q (.bool r) s):wpAny (model prog w) A (compareOp .Is v .none) Q E s:=by
 cases a with
 |k x=>cases x with
  |none=>cases h;cases d;exact is_none_none hq
  |ref c=>cases h;cases d;exact is_ref_none hq
  |_=>exact nn h
 |a i=>cases h;obtain⟨c,_,rfl⟩:=d;exact is_ref_none hq
 |z n=>cases h;obtain⟨c,rfl⟩:=d;exact is_int_none hq
 |i n=>cases h;obtain⟨c,rfl⟩:=d;exact is_int_none hq
 |_=>exact nn h
theorem aRp{a:SV}{v:Value}{r:Bool}{s:Shared}{A:Around}{prog:Program}{w:World}{E:Value→Shared→Prop}(h:aI8 a=some r)(d:Den W.ads a v)(hq:Q (.bool !r) s):wpAny (model prog w) A (compareOp .IsNot v .none) Q E s:=by
 cases a with
 |k x=>cases x with
  |none=>cases h;cases d;exact isnot_none_none hq
  |ref c=>cases h;cases d;exact isnot_ref_none hq
  |_=>exact nn h
 |a i=>cases h;obtain⟨c,_,rfl⟩:=d;exact isnot_ref_none hq
 |z n=>cases h;obtain⟨c,rfl⟩:=d;exact isnot_int_none hq
 |i n=>cases h;obtain⟨c,rfl⟩:=d;exact isnot_int_none hq
 |_=>exact nn h
theorem aKs{op:CmpOp}{a b:SV}{va vb:Value}(S:Sat G W σ)(da:Den W.ads a va)(db:Den W.ads b vb)(h:Hd G W (aO8 V op a b σ) (PV G Q)):G.wp (compareOp op va vb) Q (G.st W):=by
 unfold aO8 at h
 cases ha:num a with
 |some x =>
  rw[ha] at h
  refine aA6 (aB3 ha da) fun t r26_1=>?_
  subst r26_1
  cases hb:num b with
  |some y =>
   rw[hb] at h
   refine aA6 (aB3 hb db) fun u r27_1=>?_
   subst r27_1
   exact onO_e h fun z hz h=>aY0 hz fun b d=>aDd S h d
  |none =>
   rw[hb] at h
   cases op with
   |In=>exact aXt S db h
   |NotIn=>exact aNm h db fun d h=>ifT_e h fun q h=>aN9 S (aBu (aAc q).2) h
   |Is=>exact onO_e h fun c hc h=>ifT_e h fun q h=>aFp (q▸hc) db▸is_int_none (aDd S h rfl)
   |IsNot=>exact onO_e h fun c hc h=>ifT_e h fun q h=>aFp (q▸hc) db▸isnot_int_none (aDd S h rfl)
   |_=>exact h.elim
 |none =>
  rw[ha] at h
  cases op with
  |NotEq=>exact aDn h da fun i x hx h=>aDn h db fun j y hy h=>aYi S hx hy h
  |Is=>exact onO_e h fun c hc h=>ifT_e h fun q h=>onO_e h fun r hr h=>aFp (q▸hc) db▸aXo hr da (aDd S h rfl)
  |IsNot=>exact onO_e h fun c hc h=>ifT_e h fun q h=>onO_e h fun r hr h=>aFp (q▸hc) db▸aRp hr da (aDd S h rfl)
  |Eq=>exact aWs h da fun x t h=>aWs h db fun y u h=>eq_str (aDd S h (congrArg _ aJy.symm))
  |In=>exact aWs h da fun x t h=>bEc S db h
  |_=>exact h.elim
noncomputable def aGq(y:SV)(σ:St):Out Bool:=match y with
 | .z n=>.p σ (n != 0)
 | .i x=>br (x != 0) σ .p
 | .k v=>(match v with
  | .bool b=>.p σ b
  | .none=>.p σ false
  |_=>.f)
 | .b x=>br x σ .p
 |_=>.f
theorem aCp{y:SV}{v:Value}{Q:Bool→Shared→Prop}(S:Sat G W σ)(d:Den W.ads y v)(h:Hd G W (aGq y σ) (PB G Q)):G.wp (truthy v) Q (G.st W):=by
 cases y with
 |z n=>obtain⟨t,rfl⟩:=d;exact truthy_int (h W (.refl _) S)
 |i n=>obtain⟨t,rfl⟩:=d;exact truthy_int (bIf h fun r h=>h W (.refl _) (S.orc r))
 |b n=>cases d;exact wpAny_truthy_bool (bIf h fun r h=>h W (.refl _) (S.orc r))
 |k v=>cases d;cases v with
  |bool b=>exact wpAny_truthy_bool (h W (.refl _) S)
  |none=>exact truthy_none (h W (.refl _) S)
  |_=>exact h.elim
 |_=>exact h.elim
end
theorem aIp{p:Prop}[d:Decidable p]{α:Type}{f:p→α}{q:α}(h:(if h:p then some (f h) else none)=some q):∃ h,f h=q:=match d with
 | .isTrue x=>⟨x,Option.some.inj ((dif_pos x).symm.trans h)⟩
 | .isFalse x=>nomatch (dif_neg x).symm.trans h
noncomputable def alt{γ β:Type}(x:Option γ)(k:γ→β)(d:β):β:=match x with
 |some y=>k y
 |none=>d
theorem aEz{γ β:Type}{x:Option γ}{k:γ→β}{d:β}{C:β→Prop}{P:Prop}(h:C (alt x k d))(g:∀ y,x=some y→C (k y)→P)(g':C d→P):P:=match x,h,g with
 |some y,h,g=>g y rfl h
 |none,h,_=>g' h
noncomputable def one{α:Type}(l:List α):Option α:=l.casesOn none fun a l=>l.casesOn (some a) fun _ _=>none
theorem aQ9{α:Type}{l:List α}{a:α}(h:one l=some a):l=[a]:=by
 cases l with
 |nil=>exact nomatch h
 |cons x l=>cases l with
  |nil=>exact congrArg (fun x=>[x]) (Option.some.inj h)
  |cons=>exact nomatch h
noncomputable def asN(e:PySem.Expr):Option (Str×Pos):=if h:e.ctorIdx=23 then some (PySem.Expr.Name.elim (motive_1:=fun _=>Str×Pos) e h fun a b=>(a,b)) else none
theorem aDh{e:PySem.Expr}{q:Str×Pos}(h:asN e=some q):e=.Name q.1 q.2:=(aIp h).elim fun c k=>PySem.Expr.Name.elim (motive_1:=fun e=>∀ c,PySem.Expr.Name.elim (motive_1:=fun _=>Str×Pos) e c (fun a b=>(a,b))=q→e=.Name q.1 q.2) e c (fun a b _ k=>congrArg (fun q:Str×Pos=>PySem.Expr.Name q.1 q.2) k) c k
noncomputable def asA(e:PySem.Expr):Option (PySem.Expr×Str×Pos):=if h:e.ctorIdx=20 then some (PySem.Expr.Attribute.elim (motive_1:=fun _=>PySem.Expr×Str×Pos) e h fun a b c=>(a,b,c)) else none
theorem aL8{e:PySem.Expr}{q:PySem.Expr×Str×Pos}(h:asA e=some q):e=.Attribute q.1 q.2.1 q.2.2:=(aIp h).elim fun c k=>PySem.Expr.Attribute.elim (motive_1:=fun e=>∀ c,PySem.Expr.Attribute.elim (motive_1:=fun _=>PySem.Expr×Str×Pos) e c (fun a b c=>(a,b,c))=q→e=.Attribute q.1 q.2.1 q.2.2) e c (fun a b c _ k=>congrArg (fun q:PySem.Expr×Str×Pos=>PySem.Expr.Attribute q.1 q.2.1 q.2.2) k) c k
noncomputable def asC(e:PySem.Expr):Option (PySem.Expr×List PySem.Expr×List Keyword×Pos):=if h:e.ctorIdx=16 then some (PySem.Expr.Call.elim (motive_1:=fun _=>PySem.Expr×List PySem.Expr×List Keyword×Pos) e h fun a b c d=>(a,b,c,d)) else none
theorem bFn{e:PySem.Expr}{q:PySem.Expr×List PySem.Expr×List Keyword×Pos}(h:asC e=some q):e=.Call q.1 q.2.1 q.2.2.1 q.2.2.2:=(aIp h).elim fun c k=>PySem.Expr.Call.elim (motive_1:=fun e=>∀ c,PySem.Expr.Call.elim (motive_1:=fun _=>PySem.Expr×List PySem.Expr×List Keyword×Pos) e c (fun a b c d=>(a,b,c,d))=q→e=.Call q.1 q.2.1 q.2.2.1 q.2.2.2) e c (fun a b c d _ k=>congrArg (fun q:PySem.Expr×List PySem.Expr×List Keyword×Pos=>PySem.Expr.Call q.1 q.2.1 q.2.2.1 q.2.2.2) k) c k
noncomputable def asK(e:PySem.Expr):Option (Const×Nat×Pos):=if h:e.ctorIdx=19 then some (PySem.Expr.Constant.elim (motive_1:=fun _=>Const×Nat×Pos) e h fun a b c=>(a,b,c)) else none
theorem aSx{e:PySem.Expr}{q:Const×Nat×Pos}(h:asK e=some q):e=.Constant q.1 q.2.1 q.2.2:=(aIp h).elim fun c k=>PySem.Expr.Constant.elim (motive_1:=fun e=>∀ c,PySem.Expr.Constant.elim (motive_1:=fun _=>Const×Nat×Pos) e c (fun a b c=>(a,b,c))=q→e=.Constant q.1 q.2.1 q.2.2) e c (fun a b c _ k=>congrArg (fun q:Const×Nat×Pos=>PySem.Expr.Constant q.1 q.2.1 q.2.2) k) c k
noncomputable def asL(e:PySem.Expr):Option (List PySem.Expr×Pos):=if h:e.ctorIdx=24 then some (PySem.Expr.List.elim (motive_1:=fun _=>List PySem.Expr×Pos) e h fun a b=>(a,b)) else none
theorem bFm{e:PySem.Expr}{q:List PySem.Expr×Pos}(h:asL e=some q):e=.List q.1 q.2:=(aIp h).elim fun c k=>PySem.Expr.List.elim (motive_1:=fun e=>∀ c,PySem.Expr.List.elim (motive_1:=fun _=>List PySem.Expr×Pos) e c (fun a b=>(a,b))=q→e=.List q.1 q.2) e c (fun a b _ k=>congrArg (fun q:List PySem.Expr×Pos=>PySem.Expr.List q.1 q.2) k) c k
noncomputable def asT(e:PySem.Expr):Option (List PySem.Expr×Nat×Pos):=if h:e.ctorIdx=25 then some (PySem.Expr.Tuple.elim (motive_1:=fun _=>List PySem.Expr×Nat×Pos) e h fun a b c=>(a,b,c)) else none
theorem bFj{e:PySem.Expr}{q:List PySem.Expr×Nat×Pos}(h:asT e=some q):e=.Tuple q.1 q.2.1 q.2.2:=(aIp h).elim fun c k=>PySem.Expr.Tuple.elim (motive_1:=fun e=>∀ c,PySem.Expr.Tuple.elim (motive_1:=fun _=>List PySem.Expr×Nat×Pos) e c (fun a b c=>(a,b,c))=q→e=.Tuple q.1 q.2.1 q.2.2) e c (fun a b c _ k=>congrArg (fun q:List PySem.Expr×Nat×Pos=>PySem.Expr.Tuple q.1 q.2.1 q.2.2) k) c k
noncomputable def asG(e:PySem.Expr):Option (PySem.Expr×List Comprehension×Scope×Pos):=if h:e.ctorIdx=8 then some (PySem.Expr.ListComp.elim (motive_1:=fun _=>PySem.Expr×List Comprehension×Scope×Pos) e h fun a b c d=>(a,b,c,d)) else none
theorem bOk{e:PySem.Expr}{q:PySem.Expr×List Comprehension×Scope×Pos}(h:asG e=some q):e=.ListComp q.1 q.2.1 q.2.2.1 q.2.2.2:=(aIp h).elim fun c k=>PySem.Expr.ListComp.elim (motive_1:=fun e=>∀ c,PySem.Expr.ListComp.elim (motive_1:=fun _=>PySem.Expr×List Comprehension×Scope×Pos) e c (fun a b c d=>(a,b,c,d))=q→e=.ListComp q.1 q.2.1 q.2.2.1 q.2.2.2) e c (fun a b c d _ k=>congrArg (fun q:PySem.Expr×List Comprehension×Scope×Pos=>PySem.Expr.ListComp q.1 q.2.1 q.2.2.1 q.2.2.2) k) c k
noncomputable def asF(e:PySem.Expr):Option (PySem.Expr×Int×Option PySem.Expr×Pos):=if h:e.ctorIdx=17 then some (PySem.Expr.FormattedValue.elim (motive_1:=fun _=>PySem.Expr×Int×Option PySem.Expr×Pos) e h fun a b c d=>(a,b,c,d)) else none
theorem bOl{e:PySem.Expr}{q:PySem.Expr×Int×Option PySem.Expr×Pos}(h:asF e=some q):e=.FormattedValue q.1 q.2.1 q.2.2.1 q.2.2.2:=(aIp h).elim fun c k=>PySem.Expr.FormattedValue.elim (motive_1:=fun e=>∀ c,PySem.Expr.FormattedValue.elim (motive_1:=fun _=>PySem.Expr×Int×Option PySem.Expr×Pos) e c (fun a b c d=>(a,b,c,d))=q→e=.FormattedValue q.1 q.2.1 q.2.2.1 q.2.2.2) e c (fun a b c d _ k=>congrArg (fun q:PySem.Expr×Int×Option PySem.Expr×Pos=>PySem.Expr.FormattedValue q.1 q.2.1 q.2.2.1 q.2.2.2) k) c k
noncomputable def asJ(e:PySem.Expr):Option (List PySem.Expr×Pos):=if h:e.ctorIdx=18 then some (PySem.Expr.JoinedStr.elim (motive_1:=fun _=>List PySem.Expr×Pos) e h fun a b=>(a,b)) else none
theorem bOi{e:PySem.Expr}{q:List PySem.Expr×Pos}(h:asJ e=some q):e=.JoinedStr q.1 q.2:=(aIp h).elim fun c k=>PySem.Expr.JoinedStr.elim (motive_1:=fun e=>∀ c,PySem.Expr.JoinedStr.elim (motive_1:=fun _=>List PySem.Expr×Pos) e c (fun a b=>(a,b))=q→e=.JoinedStr q.1 q.2) e c (fun a b _ k=>congrArg (fun q:List PySem.Expr×Pos=>PySem.Expr.JoinedStr q.1 q.2) k) c k
noncomputable def asM(e:PySem.Expr):Option (PySem.Expr×List CmpOp×List PySem.Expr×Pos):=if h:e.ctorIdx=15 then some (PySem.Expr.Compare.elim (motive_1:=fun _=>PySem.Expr×List CmpOp×List PySem.Expr×Pos) e h fun a b c d=>(a,b,c,d)) else none
theorem bFl{e:PySem.Expr}{q:PySem.Expr×List CmpOp×List PySem.Expr×Pos}(h:asM e=some q):e=.Compare q.1 q.2.1 q.2.2.1 q.2.2.2:=(aIp h).elim fun c k=>PySem.Expr.Compare.elim (motive_1:=fun e=>∀ c,PySem.Expr.Compare.elim (motive_1:=fun _=>PySem.Expr×List CmpOp×List PySem.Expr×Pos) e c (fun a b c d=>(a,b,c,d))=q→e=.Compare q.1 q.2.1 q.2.2.1 q.2.2.2) e c (fun a b c d _ k=>congrArg (fun q:PySem.Expr×List CmpOp×List PySem.Expr×Pos=>PySem.Expr.Compare q.1 q.2.1 q.2.2.1 q.2.2.2) k) c k
noncomputable def asU(e:PySem.Expr):Option (PySem.Expr×PySem.Expr×Pos):=if h:e.ctorIdx=21 then some (PySem.Expr.Subscript.elim (motive_1:=fun _=>PySem.Expr×PySem.Expr×Pos) e h fun a b c=>(a,b,c)) else none
theorem bFi{e:PySem.Expr}{q:PySem.Expr×PySem.Expr×Pos}(h:asU e=some q):e=.Subscript q.1 q.2.1 q.2.2:=(aIp h).elim fun c k=>PySem.Expr.Subscript.elim (motive_1:=fun e=>∀ c,PySem.Expr.Subscript.elim (motive_1:=fun _=>PySem.Expr×PySem.Expr×Pos) e c (fun a b c=>(a,b,c))=q→e=.Subscript q.1 q.2.1 q.2.2) e c (fun a b c _ k=>congrArg (fun q:PySem.Expr×PySem.Expr×Pos=>PySem.Expr.Subscript q.1 q.2.1 q.2.2) k) c k
noncomputable def asP(e:PySem.Expr):Option (PySem.Expr×Operator×PySem.Expr×Pos):=if h:e.ctorIdx=2 then some (PySem.Expr.BinOp.elim (motive_1:=fun _=>PySem.Expr×Operator×PySem.Expr×Pos) e h fun a b c d=>(a,b,c,d)) else none
theorem bOg{e:PySem.Expr}{q:PySem.Expr×Operator×PySem.Expr×Pos}(h:asP e=some q):e=.BinOp q.1 q.2.1 q.2.2.1 q.2.2.2:=(aIp h).elim fun c k=>PySem.Expr.BinOp.elim (motive_1:=fun e=>∀ c,PySem.Expr.BinOp.elim (motive_1:=fun _=>PySem.Expr×Operator×PySem.Expr×Pos) e c (fun a b c d=>(a,b,c,d))=q→e=.BinOp q.1 q.2.1 q.2.2.1 q.2.2.2) e c (fun a b c d _ k=>congrArg (fun q:PySem.Expr×Operator×PySem.Expr×Pos=>PySem.Expr.BinOp q.1 q.2.1 q.2.2.1 q.2.2.2) k) c k
noncomputable def asO(e:PySem.Expr):Option (UnaryOp×PySem.Expr×Pos):=if h:e.ctorIdx=3 then some (PySem.Expr.UnaryOp.elim (motive_1:=fun _=>UnaryOp×PySem.Expr×Pos) e h fun a b c=>(a,b,c)) else none
theorem bOh{e:PySem.Expr}{q:UnaryOp×PySem.Expr×Pos}(h:asO e=some q):e=.UnaryOp q.1 q.2.1 q.2.2:=(aIp h).elim fun c k=>PySem.Expr.UnaryOp.elim (motive_1:=fun e=>∀ c,PySem.Expr.UnaryOp.elim (motive_1:=fun _=>UnaryOp×PySem.Expr×Pos) e c (fun a b c=>(a,b,c))=q→e=.UnaryOp q.1 q.2.1 q.2.2) e c (fun a b c _ k=>congrArg (fun q:UnaryOp×PySem.Expr×Pos=>PySem.Expr.UnaryOp q.1 q.2.1 q.2.2) k) c k
noncomputable def asB(e:PySem.Expr):Option (BoolOp×List PySem.Expr×Pos):=if h:e.ctorIdx=0 then some (PySem.Expr.BoolOp.elim (motive_1:=fun _=>BoolOp×List PySem.Expr×Pos) e h fun a b c=>(a,b,c)) else none
theorem bOm{e:PySem.Expr}{q:BoolOp×List PySem.Expr×Pos}(h:asB e=some q):e=.BoolOp q.1 q.2.1 q.2.2:=(aIp h).elim fun c k=>PySem.Expr.BoolOp.elim (motive_1:=fun e=>∀ c,PySem.Expr.BoolOp.elim (motive_1:=fun _=>BoolOp×List PySem.Expr×Pos) e c (fun a b c=>(a,b,c))=q→e=.BoolOp q.1 q.2.1 q.2.2) e c (fun a b c _ k=>congrArg (fun q:BoolOp×List PySem.Expr×Pos=>PySem.Expr.BoolOp q.1 q.2.1 q.2.2) k) c k
noncomputable def asS(e:PySem.Const):Option (Str):=if h:e.ctorIdx=5 then some (PySem.Const.str.elim (motive:=fun _=>Str) e h fun a=>(a)) else none
theorem bFk{e:PySem.Const}{q:Str}(h:asS e=some q):e=.str q:=(aIp h).elim fun c k=>PySem.Const.str.elim (motive:=fun e=>∀ c,PySem.Const.str.elim (motive:=fun _=>Str) e c (fun a=>(a))=q→e=.str q) e c (fun a _ k=>congrArg (fun q:Str=>PySem.Const.str q) k) c k
noncomputable def asI(e:PySem.Const):Option (Int):=if h:e.ctorIdx=2 then some (PySem.Const.int.elim (motive:=fun _=>Int) e h fun a=>(a)) else none
theorem bOj{e:PySem.Const}{q:Int}(h:asI e=some q):e=.int q:=(aIp h).elim fun c k=>PySem.Const.int.elim (motive:=fun e=>∀ c,PySem.Const.int.elim (motive:=fun _=>Int) e c (fun a=>(a))=q→e=.int q) e c (fun a _ k=>congrArg (fun q:Int=>PySem.Const.int q) k) c k
noncomputable def aTy:SV→Bool
 | .k v=>handedIn v
 | .u=>false
 |_=>true
theorem aNg{ads:List Addr}{y:SV}{v:Value}(d:Den ads y v)(h:aTy y=true):handedIn v=true:=by
 cases y with
 |k x=>cases d;exact h
 |a i=>obtain⟨_,_,rfl⟩:=d;rfl
 |z n=>obtain⟨_,rfl⟩:=d;rfl
 |i n=>obtain⟨_,rfl⟩:=d;rfl
 |b n=>cases d;rfl
 |s n=>obtain⟨_,rfl⟩:=d;rfl
 |t=>obtain⟨_,_,rfl⟩:=d;rfl
 |u=>cases h
section
variable {V:Vw} {X:Ctx V}
theorem aI2{ads:List Addr}{name:Str}{es:List (Str×SV)}{l:List DictEntry}(h:All2 (NsE X ads) es l):l.any (·.refKey)=false∧l.any (·.key.isStr name)=(aD3 name es).isSome∧match aD3 name es with
  |none=>l.find? (·.key.isStr name)=none
  |some y=>∃ e,l.find? (·.key.isStr name)=some e∧Den ads y e.val:=by
 induction h with
 |nil=>exact⟨rfl,rfl,rfl⟩
 | @cons a b es l r _ ih =>
  obtain⟨x,y⟩:=a
  refine aGs r fun t v d r1_3=>?_
  subst r1_3
  refine aJi ih fun i1 i2 i3=>?_
  rw[aAr]
  dsimp only
  refine⟨i1,?_⟩
  by_cases e:x=name
  ·have k:(x==name)=true:=beq_iff_eq.mpr e
   rw[if_pos e]
   exact⟨by rw[List.any_cons,show (Value.str x t).isStr name=true from k];rfl,_,List.find?_cons_of_pos k,d⟩
  ·have k:(x==name)=false:=beq_eq_false_iff_ne.mpr e
   rw[if_neg e]
   refine⟨by rw[List.any_cons,show (Value.str x t).isStr name=false from k];exact i2,?_⟩
   rw[List.find?_cons_of_neg (by show ¬ (x==name)=true;rw[k];decide)]
   exact i3
theorem aH0{ads:List Addr}{name:Str}{es:List (Str×SV)}{l:List DictEntry}(h:All2 (NsE X ads) es l){y:SV}(e:aD3 name es=some y):∃ v,getL name l=some (some v)∧Den ads y v:=by
 refine aJi (aI2 (name:=name) h) fun _ _ i=>?_
 rw[e] at i
 refine aAd i fun z h1 h2=>?_
 exact⟨z.val,by unfold getL;rw[h1],h2⟩
theorem aEk{ads:List Addr}{name:Str}{es:List (Str×SV)}{l:List DictEntry}(h:All2 (NsE X ads) es l)(e:aD3 name es=none):getL name l=some none:=by
 refine aJi (aI2 (name:=name) h) fun i0 _ i=>?_
 rw[e] at i
 unfold getL;rw[show l.find? (·.key.isStr name)=none from i];dsimp only;rw[i0];rfl
end
noncomputable def bLt(σ:St)(d:Nat)(name:Str)(ok:Bool)(r:Option (Option Value)):Option SV:=(gN σ.led d).bind fun o=>match o with
 | .ns es _=>(aD3 name es).bind fun y=>r.bind fun q=>bif ok&&aTy y&&q.isNone then some y else none
 |_=>none
noncomputable def aZk(V:Vw)(x:Addr)(name:Str):Option SV:=match V.cv x name with
 |some a=>some (aG4 a)
 |none=>(V.iv x name).map aG4
noncomputable def aZj(V:Vw)(o:SV)(name:Str)(σ:St):Option SV:=match o with
 | .a i=>(gN σ.led i).bind fun so=>(match so with
  | .inst C d=>bLt σ d name (V.pg C) (V.fin C name)
  | .ex C d _=>bLt σ d name (V.px C) (V.fin C name)
  |_=>none)
 | .k v=>(match v with
  | .ref x=>aZk V x name
  |_=>none)
 |_=>none
noncomputable def aZl(V:Vw)(o:SV)(name:Str)(σ:St):Out SV:=onO (aZj V o name σ) (.p σ)
noncomputable def pick(x:Int)(ns:List Int):Int:=ns.getD x.toNat 0
noncomputable def bPk(tup:Bool)(vs:List SV)(i:SV)(σ:St):Out SV:=match i with
 | .z x=>ifT (bt 0 x 99999) (onO (gN vs x.toNat) (.p σ))
 | .i x=>ifT (!tup&&Nat.ble vs.length 1000) (match σ.orc with
  |k::r=>(match k with
   | 0=>onO (nums vs) fun q=>.g (0≤x∧x<vs.length) (.p ⟨σ.m,σ.led,r⟩ (.i (pick x q.1)))
   |k+1=>onO (gN vs k) fun y=>.g (x=k) (.p ⟨σ.m,σ.led,r⟩ y))
  | []=>.f)
 |_=>.f
noncomputable def bF1(V:Vw)(a:Addr)(i:SV)(σ:St):Out SV:=match i with
 | .z x=>(match aCf V.O a x with
  |some r=>onO r fun v=>.p σ (aG4 v)
  |none=>onO (V.tp a) fun l=>ifT (bt 0 x 99999) (onO (gN l x.toNat) fun v=>.p σ (aG4 v)))
 |i=>onS i fun y=>ifT (!(a==mainGlobals)) (onO (V.ns a y) fun r=>onO r fun v=>.p σ (aG4 v))
noncomputable def bEp(V:Vw)(o i:SV)(σ:St):Out SV:=match o with
 | .a j=>onO (gN σ.led j) fun so=>(match so with
  | .seq tup vs _=>bPk tup vs i σ
  | .di kvs=>onZ i fun x=>onO (aCt x kvs) (.p σ)
  |_=>.f)
 |o=>onK o fun a=>bF1 V a i σ
noncomputable def aCy(e:PySem.Expr):Bool:=!Nat.beq e.ctorIdx 26
theorem aBs{sl:PySem.Expr}{o i:Value}(h:aCy sl=true):subscripted sl false o i=operate [o,i] (getItem o i):=by
 cases sl<;>first|rfl|cases h
theorem bA6{x:Int}{n:Nat}(h0:0≤x)(h:x.toNat<n):seqIndex? x n=some x.toNat:=by
 show (if (decide (0≤(if x<0 then x+(n:Int) else x))&&decide ((if x<0 then x+(n:Int) else x)<(n:Int)))=true then some ((if x<0 then x+(n:Int) else x)).toNat else none)=_
 rw[if_neg (show ¬ x<0 by lia),if_pos]
 rw[Bool.and_eq_true,decide_eq_true_eq,decide_eq_true_eq]
 lia
theorem ints_get{vs:List Value}{ns:List Int}(h:IntsAre vs ns):∀ k<vs.length,∃ t,vs[k]?=some (.int (ns.getD k 0) t):=by
 induction h with
 |nil=>exact fun k h=>absurd h (Nat.not_lt_zero _)
 |cons n t r ih =>
  intro k h
  cases k with
  |zero=>exact⟨t,rfl⟩
  |succ k=>exact ih k (Nat.lt_of_succ_lt_succ h)
section
variable {V:Vw} {G:Gd V} {W:Wd} {σ:St} {Q:Value→Shared→Prop}
theorem aT0{d:Nat}{dx:Addr}{name:Str}{ok:Bool}{r:Option (Option Value)}{y:SV}(S:Sat G W σ)(hdx:gN W.ads d=some dx)(h:bLt σ d name ok r=some y):∃ n l v,(dx,dictOf l n)∈W.l∧getL name l=some (some v)∧Den W.ads y v∧ok=true∧handedIn v=true∧r=some none:=by
 refine aAd (Option.bind_eq_some_iff.mp h) fun so h1 h=>?_
 refine aDm (S.slot h1 hdx) fun o h2 h3 d=>?_
 cases so with
 |ns es n =>
  refine aAd d fun l al r8_2=>?_
  subst r8_2
  refine aAd (Option.bind_eq_some_iff.mp h) fun z h4 h=>?_
  refine aAd (Option.bind_eq_some_iff.mp h) fun q r10_1 h=>?_
  subst r10_1
  refine aBa (aGx h) fun hc e=>?_
  cases e
  refine aAd (aH0 al h4) fun v k1 k2=>?_
  exact⟨n,l,v,h3,k1,k2,(aAc (aAc hc).1).1,aNg k2 (aAc (aAc hc).1).2,congrArg some (Option.isNone_iff_eq_none.mp (aAc hc).2)⟩
 |_=>exact nn h
theorem aKx{o y:SV}{v:Value}{name:Str}{expr:Bool}(S:Sat G W σ)(d:Den W.ads o v)(h:aZj V o name σ=some y)(hq:∀ t u,Den W.ads y u→Q u (G.st (W.tok t))):G.wp (getAttr v name expr) Q (G.st W):=by
 cases o with
 |a i =>
  refine aAd d fun x hx r13_2=>?_
  subst r13_2
  refine aAd (Option.bind_eq_some_iff.mp h) fun so h1 h=>?_
  refine aDm (S.slot h1 hx) fun o h2 hm d=>?_
  cases so with
  |inst C dd =>
   refine aAd d fun dx hdx r16_2=>?_
   subst r16_2
   refine bH2 (aT0 S hdx h) fun n l u hm2 k1 k2 k3 k4 k5=>?_
   exact get_own S.F S.ok.K (InstAt.of_news S.N hm hm2) (G.X.vo.pg k3 name).1 (G.X.vo.pg k3 name).2 (G.X.vo.fin k5) rfl k1 k4 (hq _ _ k2)
  |ex C dd ctx =>
   refine bNk d fun dx vs a0 hdx r18_4 _ _=>?_
   subst r18_4
   refine bH2 (aT0 S hdx h) fun n l u hm2 k1 k2 k3 k4 k5=>?_
   have k:=G.X.vo.px k3
   exact bZq S.F S.ok.K S.N hm hm2 k.1 k.2.1 k.2.2.1 k.2.2.2 (G.X.vo.fin k5) rfl k1 k4 (hq _ _ k2)
  |_=>exact nn h
 |k w =>
  cases d
  cases v with
  |ref x =>
   replace h:aZk V x name=some y:=h
   unfold aZk at h
   cases e:V.cv x name with
   |some a =>
    simp only[e] at h
    cases h
    exact (G.X.vo.cv e).elim fun mc q=>cls_val S.F S.ok.K q.1 q.2.2.1 q.2.1 q.2.2.2 (hq _ _ aBi)
   |none =>
    simp only[e] at h
    refine aAd (Option.map_eq_some_iff.mp h) fun a ha r20_2=>?_
    subst r20_2
    refine bNi (G.X.vo.iv ha) fun C dx sl es k z_=>bH4 z_ fun h1 h2 h3 h4 h5 h6 h7=>?_
    exact get_own S.F S.ok.K (InstAt.of_K S.K h1 h2) h5 h6 h4 rfl h3 h7 (hq _ _ aBi)
  |_=>exact nn h
 |_=>exact nn h
theorem aKy{o:SV}{v:Value}{name:Str}{expr:Bool}(S:Sat G W σ)(d:Den W.ads o v)(h:Hd G W (aZl V o name σ) (PV G Q)):G.wp (getAttr v name expr) Q (G.st W) :=
 onO_e h fun y hy h=>aKx S d hy fun t u du=>h (W.tok t) (.refl _) (S.tok t) u du
theorem aU8{tup:Bool}{vs:List SV}{l:List Value}{n:Nat}{i:SV}{vi:Value}{x:Addr}{value slice:PySem.Expr}(hsl:aCy slice=true)(S:Sat G W σ)(hm:(x,bF4 tup l n)∈W.l)(al:Dens W.ads vs l)(di:Den W.ads i vi)(h:Hd G W (bPk tup vs i σ) (PV G Q)):G.wp (subscriptTail value slice (.ref x) vi) Q (G.st W):=by
 cases i with
 |z k =>
  obtain⟨t,rfl⟩:=di
  refine ifT_e h fun q h=>onO_e h fun y hy hz=>(al.get hy).elim fun v z=>?_
  have z1:=aCq.symm.trans z.1
  have hk:k.toNat<l.length:=(List.getElem?_eq_some_iff.mp z1).1
  have b:=aGv q
  cases tup with
  |true=>exact item_tupleT (News.isTup S.N hm) (by lia) (by lia) (bA6 b.1 hk) (by simpa using z1) (aDd S hz z.2) (aBs hsl)
  |false=>exact tail_any (News.isList S.N hm).typeIs slot_list_getitem.lookup (wpAny_getItem_list (News.isList S.N hm) b.1 (by lia) (by simpa using z1) (aDd S hz z.2)) (aBs hsl)
 |i k =>
  obtain⟨t,rfl⟩:=di
  refine ifT_e h fun q hz=>?_
  cases aBu (aAc q).1
  have hb:=Nat.le_of_ble_eq_true (aAc q).2
  have len:=al.len
  have go:∀ {u:Value},0≤k→k<vs.length→l[k.toNat]?=some u→Q u (G.st W)→G.wp (subscriptTail value slice (.ref x) (.int k t)) Q (G.st W):=fun h0 h1 e g =>
   tail_any (News.isList S.N hm).typeIs slot_list_getitem.lookup (wpAny_getItem_list (News.isList S.N hm) h0 (by lia) (by simpa using e) g) (aBs hsl)
  cases e:σ.orc with
  |nil=>rw[e] at hz;exact hz.elim
  |cons o r =>
   rw[e] at hz
   cases o with
   |zero=>exact onO_e hz fun p hp h=>(ints_get (aGa hp al) k.toNat (by have:=h.1;lia)).elim fun t' e=>go h.1.1 h.1.2 e (h.2 W (.refl _) (S.orc r) _ ⟨t',rfl⟩)
   |succ o=>exact onO_e hz fun y hy h=>(al.get hy).elim fun v z=>go (by have:=h.1;lia) (by have:=h.1;have:=aBk hy;lia) (by rw[h.1];exact aCq.symm.trans z.1) (h.2 W (.refl _) (S.orc r) v z.2)
 |_=>exact h.elim
theorem aU9{a:Addr}{i:SV}{vi:Value}{value slice:PySem.Expr}(hsl:aCy slice=true)(S:Sat G W σ)(di:Den W.ads i vi)(h:Hd G W (bF1 V a i σ) (PV G Q)):G.wp (subscriptTail value slice (.ref a) vi) Q (G.st W):=by
 cases i with
 |z x =>
  refine aA6 di fun t r24_1=>?_
  subst r24_1
  unfold bF1 at h
  cases e:aCf V.O a x with
  |some r =>
   simp only[e] at h
   exact onO_e h fun v hv h=>bM5 S.F S.ok.K (by rw[aC0 G.X.vo.O e,hv]) (fun tk=>aDc S h tk aBi) (aBs hsl)
  |none =>
   simp only[e] at h
   refine onO_e h fun l hl h=>ifT_e h fun q h=>onO_e h fun v hv h=>(G.X.vo.tp hl).elim fun sl z=>?_
   have z1:=aCq.symm.trans hv
   have hk:x.toNat<l.length:=(List.getElem?_eq_some_iff.mp z1).1
   have b:=aGv q
   exact topTup_K S.F S.ok.K z (by lia) (by lia) (bA6 b.1 hk) z1 (aDd S h aBi) (aBs hsl)
 |s y =>
  refine aA6 di fun t r25_1=>?_
  subst r25_1
  exact ifT_e h fun q h=>onO_e h fun r hr h=>onO_e h fun v hv h=>((G.X.vo.ns hr).2.resolve_left (ne_of_beq_false (aBu q))).2.elim fun es z=>z.elim fun n z=>topItem_K S.F S.ok.K z.1 z.2 (by rw[(G.X.vo.ns hr).1,hv]) (aDc S h _ aBi) (aBs hsl)
 |_=>exact h.elim
theorem aSb{o i:SV}{vo vi:Value}{value slice:PySem.Expr}(hsl:aCy slice=true)(S:Sat G W σ)(d:Den W.ads o vo)(di:Den W.ads i vi)(h:Hd G W (bEp V o i σ) (PV G Q)):G.wp (subscriptTail value slice vo vi) Q (G.st W):=by
 cases o with
 |a j =>
  refine aAd d fun x hx r26_2=>?_
  subst r26_2
  refine aHg h S hx fun so o ho hm d h=>?_
  cases so with
  |seq tup vs n=>obtain⟨l,al,rfl⟩:=d;exact aU8 hsl S hm al di h
  |di kvs =>
   refine aAd d fun l al hdo=>?_
   refine aNj h di fun z t h=>onO_e h fun y hy h=>?_
   have g:=aKu (k:=z) al
   rw[hy] at g
   exact g.elim fun v q=>kdt_tail (knd:=intKind G.X.prog G.X.w) S.N hm hdo (kdt_getItem (knd:=intKind G.X.prog G.X.w) S.N hm hdo (intKind_is _ _ _ _) q.1 (aDc S h _ q.2)) (aBs hsl)
  |_=>exact h.elim
 |k v=>exact (show Hd G W (onK (.k v) fun a=>bF1 V a i σ) (PV G Q)→_ from fun h=>aNm h d fun a h=>aU9 hsl S di h) h
 |_=>exact h.elim
end
noncomputable def aHm(x y:Int):Int:=if y<x then y else x
section
variable {V:Vw} {G:Gd V} {W:Wd} {σ:St} {Q:Value→Shared→Prop} {α:Type} {Φ:Wd→St→α→Prop} {P:Prop}
theorem bYx{l:List SV}{k:SV→SV→Out α}{vs:List Value}(h:Hd G W (match l with | [a,b]=>k a b|_=>.f) Φ)(a:Dens W.ads l vs)(g:∀ x y v u,l=[x,y]→vs=[v,u]→Den W.ads x v→Den W.ads y u→Hd G W (k x y) Φ→P):P:=by
 cases a with
 |nil=>exact h.elim
 |cons d1 a=>cases a with
  |nil=>exact h.elim
  |cons d2 a=>cases a with
   |nil=>exact g _ _ _ _ rfl rfl d1 d2 h
   |cons _ _=>exact h.elim
end
noncomputable def on2{α:Type}(l:List SV)(k:SV→SV→Out α):Out α:=match l with
 | [a,b]=>k a b
 |_=>.f
noncomputable def on1{α:Type}(l:List SV)(k:SV→Out α):Out α:=match l with
 | [a]=>k a
 |_=>.f
noncomputable def bRe(cf:Cf)(id:String)(vs:List SV)(σ:St):Out SV:=ifT (id=="min"&&cf.hd.isNone) (on2 vs fun a b=>onN a fun x lx=>onN b fun y ly=>match σ.orc with
 |k::r=>(match k with
  | 0=>.p ⟨σ.m,σ.led,r⟩ (mkI (lx&&ly) (aHm x y))
  |k+1=>.g (aHm x y=k) (.p ⟨σ.m,σ.led,r⟩ (.z k)))
 | []=>.f)
noncomputable def aPg(a b:List (Int×SV)):List (Int×SV):=b.foldl (fun acc p=>bif (aCt p.1 acc).isSome then acc.map (fun q=>if q.1=p.1 then (q.1,p.2) else q) else acc++[p]) a
noncomputable def bEn(i:Nat)(vs:List SV)(σ:St):Out SV:=on1 vs fun y=>onA y fun j=>bDf σ i fun a=>bDf σ j fun b=>ifT (Nat.ble (a.length+b.length) 1000&&!(Nat.beq i j)) (.p (σ.put i (.di (aPg a b))) (.k .none))
noncomputable def boolOf:SV→Option (Bool×Bool)
 | .b c=>some (c,false)
 | .k v=>(match v with
  | .bool c=>some (c,true)
  |_=>none)
 |_=>none
noncomputable def bQ8(id:String)(vs:List SV)(σ:St):Out SV:=ifT (id=="int") (on1 vs fun y=>onO (boolOf y) fun c=>.p σ (mkI c.2 (bif c.1 then 1 else 0)))
noncomputable def bHy{α:Type}(σ:St)(i:Nat)(k:Nat→List (Int×SV)→List (Int×Option SV)→Option Nat→Out α):Out α:=match gN σ.led i with
 |some (.dv j n puts facts)=>k n puts facts j
 |_=>.f
noncomputable def bEt(i:Nat)(vs:List SV)(σ:St):Out SV:=bHy σ i fun _ _ facts _=>match facts with
 |p::_=>(match vs with
  |a::r=>onN a fun x _=>.g (x=p.1) (match r with
   | []=>.p σ (p.2.getD (.k .none))
   |d::r=>ifT r.isEmpty (.p σ (p.2.getD d)))
  | []=>.f)
 | []=>.f
noncomputable def bEq(i:Nat)(vs:List SV)(σ:St):Out SV:=bHy σ i fun n puts _ _=>on2 vs fun a _=>onN a fun _ _=>.g (n+puts.length≤1000) (.p (σ.put i (.dv none (n+puts.length) [] [])) .u)
noncomputable def bRb(V:Vw)(a:Addr)(vs:List SV)(σ:St):Out SV:=on1 vs fun y=>onZ y fun x=>ifT (!(a==sysModules)) (onO (aCf V.O a x) fun r=>.p σ (aG4 (r.getD .none)))
noncomputable def bQ7(V:Vw)(vs:List SV)(σ:St):Out SV:=on2 vs fun a _=>onA a fun i=>onO (gN σ.led i) fun so=>match so with
 | .xr C=>ifT (V.ve C) (.p (σ.new .any) (.k .none))
 |_=>.f
noncomputable def bE3(n:Nat)(σ':St)(y:SV):Out SV:=ifT ((aI8 y).getD false) (.p σ' (.a n))
noncomputable def aYn(V:Vw)(r:Rec)(cf:Cf)(C:Addr)(args:List SV)(σ:St):Out SV:=match cf.lv with
 | 0=>.f
 |lv+1=>onO (V.mkc C) fun fI=>bd (r.fn ⟨cf.cs,cf.hd,lv,false⟩ fI (.a (σ.led.length+1)::args) ((σ.new (.ns [] 0)).new (.inst C σ.led.length))) (bE3 (σ.led.length+1))
noncomputable def bNd(V:Vw)(r:Rec)(cf:Cf)(C:Addr)(args:List SV)(σ:St):Out SV:=match cf.lv with
 | 0=>.f
 |lv+1=>ifT (Nat.ble args.length 10) (onO (V.mkx C) fun fI=>bd (r.fn ⟨cf.cs,cf.hd,lv,false⟩ fI (.a (σ.led.length+1)::args) ((σ.new .any).new (.xr C))) (bE3 (σ.led.length+1)))
noncomputable def aY7(V:Vw)(r:Rec)(cf:Cf)(a:Addr)(vs:List SV)(σ:St):Out SV:=match V.pf a||V.hf a with
 |true=>r.fn cf a vs σ
 |false=>aYn V r cf a vs σ
section
variable {V:Vw} {G:Gd V} {W:Wd} {σ:St} {Q:Value→Shared→Prop} {α:Type} {Φ:Wd→St→α→Prop} {P:Prop} {r:Rec}
theorem aWx{l:List SV}{k:SV→Out α}{vs:List Value}{C:List Value→Prop}(h:Hd G W (on1 l k) Φ)(a:Dens W.ads l vs)(g:∀ x v,Den W.ads x v→Hd G W (k x) Φ→C [v]):C vs:=by
 cases a with
 |nil=>exact h.elim
 |cons d1 a=>cases a with
  |nil=>exact g _ _ d1 h
  |cons _ _=>exact h.elim
theorem aWw{l:List SV}{k:SV→SV→Out α}{vs:List Value}{C:List Value→Prop}(h:Hd G W (on2 l k) Φ)(a:Dens W.ads l vs)(g:∀ x y v u,Den W.ads x v→Den W.ads y u→Hd G W (k x y) Φ→C [v,u]):C vs:=by
 cases a with
 |nil=>exact h.elim
 |cons d1 a=>cases a with
  |nil=>exact h.elim
  |cons d2 a=>cases a with
   |nil=>exact g _ _ _ _ d1 d2 h
   |cons _ _=>exact h.elim
theorem aT3{i:Nat}{a:Addr}{k:Nat→List (Int×SV)→List (Int×Option SV)→Option Nat→Out α}(h:Hd G W (bHy σ i k) Φ)(S:Sat G W σ)(ha:gN W.ads i=some a)
  (g:∀ n puts facts j o l0 l,gN W.objs i=some o→(a,o)∈W.l→(∀ i,j=some i→l0=G.X.β.d i)→l0.length≤n→PutR W.ads l0 puts l→(∀ f∈facts,FactR W.ads l f)→bIh G.X o l→Hd G W (k n puts facts j) Φ→P):P:=by
 unfold bHy at h
 cases e:gN σ.led i with
 |none=>rw[e] at h;exact h.elim
 |some so =>
  rw[e] at h
  cases so with
  |dv j n ps fs=>obtain⟨o,h1,h2,l0,l,q1,q2,q3,q4,q5⟩:=S.slot e ha;exact g n ps fs j o l0 l h1 h2 q1 q2 q3 q4 q5 h
  |_=>exact h.elim
theorem bDw{x y:Int}:(y<x∧y=aHm x y)∨(x≤y∧x=aHm x y):=by
 unfold aHm
 by_cases q:y<x
 ·rw[if_pos q];exact .inl ⟨q,rfl⟩
 ·rw[if_neg q];exact .inr ⟨by lia,rfl⟩
theorem aYq{id:String}{vs:List SV}{ws:List Value}(S:Sat G W σ)(a:Dens W.ads vs ws)(h:Hd G W (bRe G.cf id vs σ) (PV G Q)):G.wp (call (.builtin id) ws) Q (G.st W):=by
 refine ifT_e h fun q hz=>?_
 cases beq_iff_eq.mp (aAc q).1
 have hh:=S.hd
 rw[Option.isNone_iff_eq_none.mp (aAc q).2] at hh
 refine aWw (C:=fun ws=>G.wp (call (.builtin "min") ws) Q (G.st W)) hz a fun a b va vb da db h=>aEf h da fun x lx t h=>aEf h db fun y ly u h=>?_
 refine bDv S.F S.N hh (bDw (x:=x) (y:=y)) fun h' t tk F' N'=>?_
 cases e:σ.orc with
 |nil=>rw[e] at h;exact h.elim
 |cons k r =>
  rw[e] at h
  cases k with
  |zero=>exact h (W.hp W.m h' tk) (.refl _) (S.hp tk F' S.M N' r) _ aEu
  |succ k=>exact h.2 (W.hp W.m h' tk) (.refl _) (S.hp tk F' S.M N' r) _ ⟨t,by rw[h.1]⟩
theorem aYh{id:String}{vs:List SV}{ws:List Value}(S:Sat G W σ)(a:Dens W.ads vs ws)(h:Hd G W (bQ8 id vs σ) (PV G Q)):G.wp (call (.type id) ws) Q (G.st W):=by
 refine ifT_e h fun q hz=>?_
 cases beq_iff_eq.mp q
 refine aWx (C:=fun ws=>G.wp (call (.type "int") ws) Q (G.st W)) hz a fun y v d h=>onO_e h fun c hc hy=>?_
 have hv:v=.bool c.1:=by
  cases y with
  |b c=>cases hc;exact d
  |k w=>cases w with
   |bool c=>cases hc;exact d
   |_=>exact nn hc
  |_=>exact nn hc
 subst hv
 refine call_int_bool (aDc S hy _ ?_)
 cases c.1<;>exact aEu
theorem aIb{ads:List Addr}{k:Int}{kvs:List (Int×SV)}{l:List (Int×Value)}(h:All2 (DiE ads) kvs l):(l.any fun kv=>decide (kv.1=k))=(aCt k kvs).isSome:=by
 induction h with
 |nil=>rfl
 | @cons p q r m d _ ih =>
  rw[List.any_cons,ih,d.1]
  rw[show aCt k (p::r)=if p.1=k then some p.2 else aCt k r from rfl]
  by_cases e:p.1=k
  ·rw[if_pos e,decide_eq_true e];rfl
  ·rw[if_neg e,decide_eq_false e];rfl
theorem aS3{ads:List Addr}{a:List (Int×SV)}{la:List (Int×Value)}{p:Int×SV}{q:Int×Value}(r:DiE ads p q)(ha:All2 (DiE ads) a la):All2 (DiE ads) (bif (aCt p.1 a).isSome then a.map (fun q=>if q.1=p.1 then (q.1,p.2) else q) else a++[p]) (stored la q.1 q.2):=by
 unfold stored
 rw[show (la.any fun kv=>decide (kv.1=q.1))=(aCt p.1 a).isSome from r.1▸aIb ha]
 cases (aCt p.1 a).isSome with
 |true =>
  refine ha.map2 fun x y e=>?_
  rw[e.1,r.1]
  split
  ·exact⟨rfl,r.2⟩
  ·exact e
 |false=>exact ha.snoc ⟨r.1,r.2⟩
theorem aJj{ads:List Addr}{b:List (Int×SV)}{lb:List (Int×Value)}{a:List (Int×SV)}{la:List (Int×Value)}(h:All2 (DiE ads) b lb)(ha:All2 (DiE ads) a la):All2 (DiE ads) (aPg a b) (PySem.merged la lb):=by
 induction h generalizing a la with
 |nil=>exact ha
 |cons r _ ih=>exact ih (aS3 r ha)
theorem bTi{d o₂:Addr}{o:Obj}{kvs more:List (Int×Value)}{news:List (Addr×Obj)}{g:Obj→List (Addr×Obj)}{o2:Obj}{prog:Program}{w:World}{A:Around}{E:Value→Shared→Prop}{s:Shared}{h₀:Heap}{L:Addr}{m:Str→Option Value}{Q:Value→Shared→Prop}
  (F:Fr h₀ L s.heap m) (N:News h₀ L s.heap news) (U:UpdF d o news g) (hd:o.IsDictOf (intKind prog w) kvs) (h2:(o₂,o2)∈news) (hd2:o2.IsDictOf (intKind prog w) more) (hne:d≠o₂) (lo:(o₂==sysModules)=false) (hsz:kvs.length+more.length≤sizeLine)
  (h:∀ h' o',Fr h₀ L h' m→News h₀ L h' (g o')→o'.IsDictOf (intKind prog w) (PySem.merged kvs more)→Q .none { s with heap:=h' }):wpAny (model prog w) A (call (.builtin "dict.update") [.ref d,.ref o₂]) Q E s:=by
 refine bH3 U.split fun pre post r0_2 hg a b=>?_
 subst r0_2
 have hm:=N (d,o) (List.mem_append_right _ (.head _))
 have hD:s.heap.DictOf (intKind prog w) d kvs:=Heap.dictOf_iff.mpr ⟨o,hm.1,hd⟩
 refine call_meetsIn PySem.F.slot_dict_update hD.typeIs PySem.F.entry_dict_update (PySem.F.args_dict_update_2 _ _) (meets_dict_update (intKind prog w) d o₂ hne lo)
  ⟨kvs,more,hD,Heap.dictOf_iff.mpr ⟨o2,(N _ h2).1,hd2⟩,hsz,fun h' hmm _ hs=>?_⟩
 refine aAd (Heap.dictOf_iff.mp hmm) fun o' ho' hd'=>?_
 exact h h' o' (F.change hs hm.2.1 hm.2.2) (hg o'▸N.setIn a b hs ho') hd'
theorem aR9{i:Nat}{x:Addr}{vs:List SV}{ws:List Value}(S:Sat G W σ)(hx:gN W.ads i=some x)(a:Dens W.ads vs ws)(h:Hd G W (bEn i vs σ) (PV G Q)):G.wp (call (.builtin "dict.update") (.ref x::ws)) Q (G.st W) :=
 aWx (C:=fun ws=>G.wp (call (.builtin "dict.update") (.ref x::ws)) Q (G.st W)) h a fun y v d h=>aDn h d fun j z hz h=>aNo h S hx fun a o1 l1 q1 _ al1 hd1 h=>aNo h S hz fun b o2 l2 _ p2 al2 hd2 h=>ifT_e h fun q h =>
  bTi S.F S.N (S.upd hx q1) hd1 p2 hd2 (fun e=>Nat.ne_of_beq_eq_false (aBu (aAc q).2) (aC4 S.nd hx (e▸hz))) (S.low hz) (by have:=Nat.le_of_ble_eq_true (aAc q).1;rw[al1.len,al2.len] at this;rw[sizeLine_eq];lia)
   fun h' o' F' N' hd'=>h (W.put i o' h' W.t) (.refl _) (S.put _ F' N' ⟨_,aJj al2 al1,hd'⟩) _ rfl
theorem aDw{ads:List Addr}{l0 l:List (Int×Value)}{ps:List (Int×SV)}{n:Nat}(h:PutR ads l0 ps l)(hl:l0.length≤n):l.length≤n+ps.length:=by
 induction h with
 |nil=>exact hl
 | @cons k x r l v _ _ ih=>have:=aFg (kvs:=l) (k:=k) (v:=v);simp only[List.length_cons];lia
theorem aSe{i:Nat}{x:Addr}{vs:List SV}{ws:List Value}(S:Sat G W σ)(hx:gN W.ads i=some x)(a:Dens W.ads vs ws)(h:Hd G W (bEt i vs σ) (PV G Q)):G.wp (call (.builtin "dict.get") (.ref x::ws)) Q (G.st W) :=
 aT3 h S hx fun n puts facts j o l0 l _ hm _ _ _ hf hdo h=>by
  cases facts with
  |nil=>exact h.elim
  |cons p fs =>
   obtain⟨k,f⟩:=p
   have hk:=hf _ (.head _)
   cases a with
   |nil=>exact h.elim
   |cons d a =>
    refine aEf h d fun z lz t h=>?_
    obtain⟨rfl,h⟩:=h
    cases a with
    |nil=>cases f with
     |none=>exact bEd S.N hm hdo (S.low hx) hk rfl fun tk=>aDc S h tk rfl
     |some y=>exact hk.elim fun u q=>bEd S.N hm hdo (S.low hx) q.1 rfl fun tk=>aDc S h tk q.2
    |cons d' a =>
     refine ifT_e h fun e h=>?_
     cases a with
     |nil=>cases f with
      |none=>exact kdg_get2 (knd:=intKind G.X.prog G.X.w) S.N hm hdo (S.low hx) (intKind_is _ _ _ _) none hk (aDc S h _ d')
      |some y=>exact hk.elim fun u q=>kdg_get2 (knd:=intKind G.X.prog G.X.w) S.N hm hdo (S.low hx) (intKind_is _ _ _ _) (some u) q.1 (aDc S h _ q.2)
     |cons _ _=>cases e
theorem aSc{i:Nat}{x:Addr}{vs:List SV}{ws:List Value}(S:Sat G W σ)(hx:gN W.ads i=some x)(a:Dens W.ads vs ws)(h:Hd G W (bEq i vs σ) (PV G Q)):G.wp (call (.builtin "dict.pop") (.ref x::ws)) Q (G.st W) :=
 aT3 h S hx fun n puts facts j o l0 l hi hm _ hl0 hp _ hdo h=>aWw (C:=fun ws=>G.wp (call (.builtin "dict.pop") (.ref x::ws)) Q (G.st W)) h a fun a b va vb da db h=>aEf h da fun z lz t h =>
  have hlen:=aDw hp hl0
  bYw S.F S.N (S.upd hx hi) hdo (S.low hx) (by have:=h.1;lia) fun v h' o' kvs' tk F' N' hd' hl'=>h.2 (W.put i o' h' tk) (.refl _) (S.put tk F' N' ⟨kvs',kvs',(fun _ q=>nomatch q),by lia,.nil,(fun _ q=>nomatch q),hd'⟩) v trivial
theorem aYk{a:Addr}{vs:List SV}{ws:List Value}(S:Sat G W σ)(d:Dens W.ads vs ws)(h:Hd G W (bRb V a vs σ) (PV G Q)):G.wp (call (.builtin "dict.get") (.ref a::ws)) Q (G.st W) :=
 aWx (C:=fun ws=>G.wp (call (.builtin "dict.get") (.ref a::ws)) Q (G.st W)) h d fun y v d h=>aNj h d fun x t h=>ifT_e h fun q h=>onO_e h fun r hr h=>bN7 S.F S.ok.K (aC0 G.X.vo.O hr) (aBu q) rfl fun tk=>aDc S h tk aBi
theorem aDx:∀ {ads:List Addr} {objs:List Obj} {i:Nat} {x:Addr} {o:Obj},ads.Nodup→gN ads i=some x→gN objs i=some o→∃ rest,Pick (x,o) (ads.zip objs) rest∧(∀ p∈rest,p.1≠x)∧∀ o' p,p∈ads.zip (stN objs i o')→p=(x,o')∨p∈rest
 | [],_,_,_,_,_,h,_=>by cases h
 |_::_,[],_,_,_,_,_,h=>by cases h
 |a::ads,q::objs,0,x,o,nd,h,h'=>by
  cases h;cases h'
  exact⟨_,.head,fun p hp e=>(List.nodup_cons.mp nd).1 (e▸(List.of_mem_zip hp).1),fun o' p hp=>List.mem_cons.mp hp⟩
 |a::ads,q::objs,i+1,x,o,nd,h,h'=>by
  refine aDm (aDx (ads:=ads) (objs:=objs) (List.nodup_cons.mp nd).2 h h') fun rest h1 h2 h3=>?_
  refine⟨(a,q)::rest,.tail h1,fun p hp=>?_,fun o' p hp=>?_⟩
  ·rcases List.mem_cons.mp hp with rfl|hp
   ·intro e;exact (List.nodup_cons.mp nd).1 ((show a=x from e)▸aB8 (l:=ads) h)
   ·exact h2 p hp
  ·rcases List.mem_cons.mp hp with rfl|hp
   ·exact .inr (.head _)
   ·exact (h3 o' p hp).imp id (.tail _)
theorem Sat.putNew(S:Sat G W σ){i:Nat}{x D:Addr}{o' oD:Obj}{so sD:SO}{h:Heap}{rest:List (Addr×Obj)}(t:Nat)(hr:∀ p,p∈W.ads.zip (stN W.objs i o')→p=(x,o')∨p∈rest)(F:Fr G.g G.L h W.m)(N:News G.g G.L h ((x,o')::(D,oD)::rest))(lt:∀ p∈W.l,p.1<D)(d:DenO G.X (W.ads++[D]) so o')(dD:DenO G.X (W.ads++[D]) sD oD) :
  Sat G ⟨W.ads++[D],stN W.objs i o'++[oD],W.m,h,t⟩ ⟨σ.m,stN σ.led i so++[sD],σ.orc⟩:=by
 have hl:W.ads.length=(stN W.objs i o').length:=S.len.trans aF1.symm
 refine⟨S.ok,F,S.M.mono (.snoc _ _),fun p hp=>?_,((S.O.mono fun _ _=>DenO.mono (.snoc _ _)).set d).snoc dD,by simp[hl],?_,S.hd.up (.snoc _ _),S.clUp (.snoc _ _)⟩
 ·replace hp:p∈(W.ads++[D]).zip (stN W.objs i o'++[oD]):=hp
  rw[aBy hl] at hp
  rcases List.mem_append.mp hp with hp|hp
  ·rcases hr p hp with rfl|hp
   ·exact N _ (.head _)
   ·exact N p (.tail _ (.tail _ hp))
  ·rw[List.mem_singleton.mp hp];exact N _ (.tail _ (.head _))
 ·refine List.nodup_append.mpr ⟨S.nd,by simp,fun a ha b hb e=>?_⟩
  refine aA6 (aCh ha) fun i hi=>?_
  refine aA6 (aAl (l:=W.objs) (S.len▸aBk hi)) fun q hq=>?_
  rw[e,List.mem_singleton.mp hb] at hi
  exact Nat.lt_irrefl _ (lt _ (aBe hi hq))
theorem aYg{vs:List SV}{ws:List Value}(S:Sat G W σ)(a:Dens W.ads vs ws)(h:Hd G W (bQ7 V vs σ) (PV G Q)):G.wp (call (.builtin "ValueError.__init__") ws) Q (G.st W) :=
 aWw (C:=fun ws=>G.wp (call (.builtin "ValueError.__init__") ws) Q (G.st W)) h a fun a b va vb da db h=>aDn h da fun i x hx h=>onO_e h fun so e h=>by
  refine aDm (S.slot e hx) fun o ho hm d=>?_
  cases so with
  |xr C =>
   refine aA6 d fun t r8_1=>?_
   subst r8_1
   refine ifT_e h fun q h=>?_
   refine aDm (aDx S.nd hx ho) fun rest h1 h2 h3=>?_
   refine bM3 S.F S.ok.K S.N h1 h2 (G.X.vo.ve q).1 fun t' h' F' N' lt=>?_
   have S':=S.putNew (so:=.xr C) (sD:=.any) W.t (h3 _) F' N' lt ⟨t',rfl⟩ trivial
   have e2:stN σ.led i (.xr C)=σ.led:=by
    clear S' h h1 h2 h3
    have:∀ (l:List SO) (i:Nat),gN l i=some (.xr C)→stN l i (.xr C)=l:=fun l=>by
     induction l with
     |nil=>intro i _;rfl
     |cons a l ih=>intro i e;cases i with
      |zero=>cases e;rfl
      |succ i=>exact congrArg _ (ih i e)
    exact this _ _ e
   rw[e2] at S'
   exact h _ (.snoc _ _) S' _ rfl
  |_=>exact h.elim
theorem aEt(A:Around)(C:Addr)(l:List Value):(A.under (.builtin "type.__call__" ⟨.ref C::l,[]⟩)).depth=A.depth+1:=rfl
theorem aY2{n:Nat}{y:SV}{v:Value}{x:Addr}(S:Sat G W σ)(d:Den W.ads y v)(hx:gN W.ads n=some x)(h:Hd G W (bE3 n σ y) (PV G Q)):v=.none∧Q (.ref x) (G.st W) :=
 ifT_e h fun q h=>by
  refine⟨?_,h W (.refl _) S _ ⟨x,hx,rfl⟩⟩
  cases e:aI8 y with
  |none=>rw[e] at q;cases q
  |some b=>rw[e] at q;cases (show b=true from q);exact aFp e d
noncomputable abbrev Gd.cls(G:Gd V)(C:Addr)(vs:List Value)(lv:Nat)(E:Value→Shared→Prop):Gd V:={ G with A:=G.A.under (.builtin "type.__call__" ⟨.ref C::vs,[]⟩),cf:=⟨G.cf.cs,G.cf.hd,lv,false⟩,E:=E }
theorem Ok.cls(O:Ok G){lv:Nat}(e:G.cf.lv=lv+1)(C:Addr)(vs:List Value):Ok (G.cls C vs lv G.E):=by
 have dp:=O.dp
 have un:=O.un
 rw[e] at dp un
 exact⟨O.B,O.K,O.T,O.KB,O.TB,O.D,O.fr,O.hk,by show (G.A.under _).depth+lv<_;rw[aEt];lia,by show (G.A.under _).units+8*lv<_;rw[aD5];lia,O.tp,fun q=>nomatch q⟩
theorem Ok.up(O:Ok G){G':Gd V}{C:Addr}{vs:List Value}{lv:Nat}(O':Ok G')(eq:G'=(G.cls C vs lv G.E).at_ G'.g):Ok (G.at_ G'.g):=by
 rw[eq] at O'
 exact⟨O'.B,O'.K,O'.T,O.KB,O.TB,O'.D,O.fr,O.hk,O.dp,O.un,O.tp,O.own⟩
theorem aUq{C:Addr}{vs:List Value}{args:List SV}{fI x:Addr}{σ2:St}{W2:Wd}{n lv:Nat}(R:Snd V r)(hlv:G.cf.lv=lv+1)(S2:Sat G W2 σ2)(hx:gN W2.ads n=some x)(a:Dens W2.ads args vs)(h:Hd G W2 (bd (r.fn ⟨G.cf.cs,G.cf.hd,lv,false⟩ fI (.a n::args) σ2) (bE3 n)) (PV G Q)) :
  codeAny G.M (G.A.under (.builtin "type.__call__" ⟨.ref C::vs,[]⟩)) (.call (.ref fI) ⟨.ref x::vs,[]⟩) (fun r s'=>match r with | .ok (.ret v)=>v=.none∧Q (.ref x) s' | .ok _=>False | .error e=>G.E e s') (G.st W2):=by
 have S3:Sat (G.cls C vs lv G.E) W2 σ2:=⟨S2.ok.cls hlv C vs,S2.F,S2.M,S2.N,S2.O,S2.len,S2.nd,S2.hd.same rfl,S2.cl⟩
 refine R.fn (G:=G.cls C vs lv G.E) (Q:=fun v s'=>v=.none∧Q (.ref x) s') S3 (.cons (show Den W2.ads (.a n) (.ref x) from⟨x,hx,rfl⟩) a) ?_
 revert h
 generalize r.fn ⟨G.cf.cs,G.cf.hd,lv,false⟩ fI (.a n::args) σ2=o
 intro h
 induction o with
 |f=>exact h
 |p σ3 y=>exact fun W3 p S4 _ v d=>aY2 (G:=G) (W:=W3) (σ:=σ3) ⟨S2.ok,S4.F,S4.M,S4.N,S4.O,S4.len,S4.nd,S4.hd.same rfl,S4.cl⟩ d (p.get hx) (Hd.up p (show Hd G W2 (bE3 n σ3 y) (PV G Q) from h))
 |t _ _=>exact False.elim h
 |x σ3 xi =>
  intro G' W3 e T hT p SX
  have te:=T.eq
  exact h (G.at_ G'.g) W3 e ⟨rfl,T.T,S2.ok.up T.ok te⟩ (fun q=>by have:=hT q;rw[this]) p (by rw[te] at SX;exact SX)
 |g P o ih=>exact⟨h.1,ih h.2⟩
 |s c o1 o2 i1 i2=>exact⟨fun e=>i1 (h.1 e),fun e=>i2 (h.2 e)⟩
theorem aSf{C:Addr}{args:List SV}{vs:List Value}(R:Snd V r)(S:Sat G W σ)(a:Dens W.ads args vs)(h:Hd G W (aYn V r G.cf C args σ) (PV G Q)):G.wp (call (.ref C) vs) Q (G.st W):=by
 unfold aYn at h
 cases e:G.cf.lv with
 |zero=>rw[e] at h;exact h.elim
 |succ lv =>
  rw[e] at h
  refine onO_e h fun fI hf h=>?_
  have k:=G.X.vo.mkc hf
  refine call_cls S.F S.ok.K S.N k.1 k.2.1 k.2.2 fun x dx h' F' N' lt1 lt2=>?_
  have hlen:σ.led.length=W.ads.length:=by rw[S.O.len,S.len]
  have N1:News G.g G.L h' ((dx,dictOf [] 0)::W.l):=fun p hp=>N' p (.tail _ hp)
  have S1:=S.new (so:=.ns [] 0) W.t F' N1 lt1 ⟨[],.nil,rfl⟩
  have S2:=S1.new (D:=x) (o:=instObj C dx) (so:=.inst C σ.led.length) W.t F' (fun p hp=>by
   rcases List.mem_cons.mp hp with rfl|hp
   ·exact N' _ (.head _)
   ·exact S1.N p hp) (fun p hp=>by
   replace hp:p∈(W.ads++[dx]).zip (W.objs++[dictOf [] 0]):=hp
   rw[aBy S.len] at hp
   rcases List.mem_append.mp hp with hp|hp
   ·exact Nat.lt_trans (lt1 p hp) lt2
   ·rw[List.mem_singleton.mp hp];exact lt2) ⟨dx,by rw[hlen];exact aEn aBg,rfl⟩
  have pre:Pre W.ads (W.ads++[dx]++[x]):=(Pre.snoc _ _).trans (.snoc _ _)
  refine codeAny_mono (aUq (n:=σ.led.length+1) R e S2 (by rw[hlen];have:=aBg (a:=W.ads++[dx]) (c:=x);simpa using this) (a.mono pre) (Hd.up pre h)) fun rr s' z=>?_
  rcases rr with e|fl
  ·exact z
  ·cases fl<;>first|exact z|exact z.elim
theorem aYf{C:Addr}{args:List SV}{vs:List Value}(R:Snd V r)(S:Sat G W σ)(a:Dens W.ads args vs)(h:Hd G W (bNd V r G.cf C args σ) (PV G Q)):G.wp (call (.ref C) vs) Q (G.st W):=by
 unfold bNd at h
 cases e:G.cf.lv with
 |zero=>rw[e] at h;exact h.elim
 |succ lv =>
  rw[e] at h
  refine ifT_e h fun hb h=>onO_e h fun fI hf h=>?_
  have k:=G.X.vo.mkx hf
  refine aY6 S.F S.ok.K S.N k.1 k.2.1 k.2.2 (a.len▸Nat.le_of_ble_eq_true hb) fun t x h' F' N' lt1 lt2=>?_
  have hlen:σ.led.length=W.ads.length:=by rw[S.O.len,S.len]
  have N1:News G.g G.L h' ((t,aMk vs)::W.l):=fun p hp=>N' p (.tail _ hp)
  have S1:=S.new (so:=.any) W.t F' N1 lt1 trivial
  have S2:=S1.new (D:=x) (o:=aS6 C t) (so:=.xr C) W.t F' (fun p hp=>by
   rcases List.mem_cons.mp hp with rfl|hp
   ·exact N' _ (.head _)
   ·exact S1.N p hp) (fun p hp=>by
   replace hp:p∈(W.ads++[t]).zip (W.objs++[aMk vs]):=hp
   rw[aBy S.len] at hp
   rcases List.mem_append.mp hp with hp|hp
   ·exact Nat.lt_trans (lt1 p hp) lt2
   ·rw[List.mem_singleton.mp hp];exact lt2) ⟨t,rfl⟩
  have pre:Pre W.ads (W.ads++[t]++[x]):=(Pre.snoc _ _).trans (.snoc _ _)
  refine codeAny_mono (aUq (n:=σ.led.length+1) R e S2 (by rw[hlen];have:=aBg (a:=W.ads++[t]) (c:=x);simpa using this) (a.mono pre) (Hd.up pre h)) fun rr s' z=>?_
  rcases rr with e|fl
  ·exact z
  ·cases fl<;>first|exact z|exact z.elim
end
section
set_option tactic.hygienic true
noncomputable def notStar(e:PySem.Expr):Bool:=!Nat.beq e.ctorIdx 22
theorem aAb{e:PySem.Expr}{rest:List PySem.Expr}{env:Env}(h:notStar e=true):starEach (e::rest) env=(false,eval e env)::starEach rest env:=by
 cases e<;>first|rfl|cases h
theorem aA7{pos:Pos}{env:Env}:∀ {l:List PySem.Expr},l.all notStar=true→(backTo pos (starEach l env)).any (·.1)=false∧(backTo pos (starEach l env)).all (!·.1)=true
 | [],_=>⟨rfl,rfl⟩
 |e::r,h=>by
  rw[List.all_cons,Bool.and_eq_true] at h
  rw[aAb h.1]
  exact aA7 (pos:=pos) (env:=env) h.2
noncomputable def aN5:PySem.Expr→Bool
 | .Name _ _=>true
 | .Attribute _ _ _=>true
 |_=>false
theorem aZh{o:PySem.Expr}{attr:Str}{env:Env}{w:Sem Value}(h:aN5 o=true):attributeBase o attr env w=w:=by
 cases o<;>first|rfl|cases h
theorem aOc{M:Model}{A:Around}{E:Value→Shared→Prop}{s:Shared}{env:Env}{o:PySem.Expr}{name:Str}{apos pos:Pos}{args:List PySem.Expr}{Q:Value→Shared→Prop}
  (hb:aN5 o=true) (ha:args.all notStar=true) (hl:Nat.blt args.length 30=true) (hp:(apos.endLine==pos.line)=true)
  (h:∀ pl,wpAny M A (eval o env) (fun ov s₁=>wpAny M A (getMethod ov name pl) (fun fx s₂=>wpAny M A (callWith pos fx.1 fx.2 (backTo pos (starEach args env)) []) Q E s₂) E s₁) E s):wpAny M A (eval (Expr.Call (Expr.Attribute o name apos) args [] pos) env) Q E s:=by
 refine MethodCall_ (h (do return (← importBound o env).getD true)) ?_
 have hf:methodCallForm args.length (backTo pos (starEach args env)) []=true:=by
  unfold methodCallForm
  rw[(aA7 ha).2]
  have:args.length<30:=Nat.le_of_ble_eq_true hl
  simp[this]
 show (attributeBase o name env (eval o env) >>= fun ov=>standAt apos.atName >>= fun _=>methodCall o name apos pos env ov (args.length+0) (backTo pos (starEach args env)) [])=_
 rw[aZh hb]
 unfold methodCall
 rw[Nat.add_zero,hf]
 unfold calleeOf methodCallPos
 rw[hp]
 rfl
noncomputable def aD4(r:Rec)(cf:Cf)(args:List PySem.Expr)(σ:St)(k:St→List SV→Out SV):Out SV:=match args with
 | []=>k σ []
 |e::l=>bd (r.es cf (e::l) σ) k
noncomputable def aGz(r:Rec)(cf:Cf)(args:List PySem.Expr)(σ:St)(k:St→List SV→Out SV):Out SV:=match args with
 | []=>.f
 |e::l=>bd (r.es cf (e::l) σ) k
noncomputable def aW0(V:Vw)(r:Rec)(cf:Cf)(i:Nat)(name:Str)(args:List PySem.Expr)(σ:St)(so:SO):Out SV:=match so with
 | .inst C d=>aNl σ d fun es _=>onO (V.mt C name) fun f=>ifT (aD3 name es).isNone (aD4 r cf args σ fun σ2 vs=>r.fn cf f (.a i::vs) σ2)
 | .di _=>ifT (aB5 name "update") (aGz r cf args σ fun σ2 vs=>bEn i vs σ2)
 | .dv _ _ _ _=>(match aB5 name "get" with
  |true=>aGz r cf args σ fun σ2 vs=>bEt i vs σ2
  |false=>ifT (aB5 name "pop") (aGz r cf args σ fun σ2 vs=>bEq i vs σ2))
 |_=>.f
noncomputable def aWz(V:Vw)(r:Rec)(cf:Cf)(a:Addr)(name:Str)(args:List PySem.Expr)(σ:St):Out SV:=match V.cm a name with
 |some f=>aD4 r cf args σ fun σ2 vs=>r.fn cf f vs σ2
 |none=>ifT (aB5 name "get") (onO (aCf V.O a 0) fun _=>aGz r cf args σ fun σ2 vs=>bRb V a vs σ2)
noncomputable def aUf(V:Vw)(r:Rec)(cf:Cf)(ov:SV)(name:Str)(args:List PySem.Expr)(σ:St):Out SV:=match ov with
 | .a i=>onO (gN σ.led i) (aW0 V r cf i name args σ)
 | .k v=>(match v with
  | .ref a=>aWz V r cf a name args σ
  | .type id=>ifT (id=="ValueError") (ifT (aB5 name "__init__") (aGz r cf args σ fun σ2 vs=>bQ7 V vs σ2))
  |_=>.f)
 |_=>.f
noncomputable def bMi(V:Vw)(r:Rec)(cf:Cf)(args:List PySem.Expr)(σ1:St)(f:SV):Out SV:=match f with
 | .k v=>(match v with
  | .ref a=>ifT (V.kp a) (aD4 r cf args σ1 (fun σ2 vs=>aY7 V r cf a vs σ2))
  | .builtin id=>aGz r cf args σ1 (fun σ2 vs=>bRe cf id vs σ2)
  | .type id=>aGz r cf args σ1 (fun σ2 vs=>bQ8 id vs σ2)
  |_=>.f)
 |_=>.f
noncomputable def aYp(V:Vw)(r:Rec)(cf:Cf)(o:PySem.Expr)(name:Str)(apos:Pos)(args:List PySem.Expr)(pos:Pos)(σ:St):Out SV :=
 ifT (aN5 o&&args.all notStar) (ifT (Nat.blt args.length 30&&(apos.endLine==pos.line)) (bd (r.e cf o σ) (fun σ1 ov=>aUf V r cf ov name args σ1)))
noncomputable def aUi(V:Vw)(r:Rec)(cf:Cf)(f:PySem.Expr)(args:List PySem.Expr)(pos:Pos)(σ:St):Out SV:=alt (asA f) (fun q=>aYp V r cf q.1 q.2.1 q.2.2 args pos σ) (onO (asN f) fun q=>ifT (args.all notStar) (bd (aKr V cf.cs q.1 σ) (bMi V r cf args)))
section
variable {V:Vw} {G:Gd V} {W:Wd} {σ:St} {Q:Value→Shared→Prop} {r:Rec}
theorem aJb{f:Addr}{args:List SV}{vs:List Value}(R:Snd V r)(S:Sat G W σ)(a:Dens W.ads args vs)(h:Hd G W (r.fn G.cf f args σ) (PV G Q)):G.wp (call (.ref f) vs) Q (G.st W) :=
 wpAny_call (codeAny_mono (R.fn (Q:=Q) S a (by
  revert h
  generalize r.fn G.cf f args σ=o
  intro h
  induction o with
  |f=>exact h
  |p _ _=>exact fun W' p S _=>h W' p S
  |t _ _=>exact fun G' W' T p S _=>h G' W' T p S
  |x _ _=>exact h
  |g P o ih=>exact⟨h.1,ih h.2⟩
  |s c o1 o2 i1 i2=>exact⟨fun e=>i1 (h.1 e),fun e=>i2 (h.2 e)⟩)) fun rr s' z=>by
  rcases rr with e|fl
  ·exact z
  ·cases fl<;>first|exact z|exact z.elim)
theorem aSs{f:Addr}{args:List SV}{vs:List Value}(R:Snd V r)(S:Sat G W σ)(a:Dens W.ads args vs)(h:Hd G W (aY7 V r G.cf f args σ) (PV G Q)):G.wp (call (.ref f) vs) Q (G.st W):=by
 unfold aY7 at h
 cases e:V.pf f||V.hf f with
 |true=>rw[e] at h;exact aJb R S a h
 |false=>rw[e] at h;exact aSf R S a h
theorem aZn{a:Addr}{first:List Value}{args:List PySem.Expr}{pos:Pos}{k:St→List SV→Out SV}(R:Snd V r)(S:Sat G W σ)(hk:keepIn V.K (.ref a)=true)(hst:args.all notStar=true)(h:Hd G W (aD4 r G.cf args σ k) (PV G Q))
  (g:∀ {W' σ' ys vs},Sat G W' σ'→Pre W.ads W'.ads→Dens W'.ads ys vs→Hd G W' (k σ' ys) (PV G Q)→G.wp (call (.ref a) (first++vs)) Q (G.st W')) :
  G.wp (callWith pos (.ref a) first (backTo pos (starEach args G.env)) []) Q (G.st W):=by
 cases args with
 |nil=>exact callWith_K0 S.K hk (g S (.refl _) .nil h)
 |cons e l =>
  have hst:=aAc (by rwa [List.all_cons] at hst)
  exact callWith_K S.ok.K hk (R.evs S h fun S' p d h'=>⟨S'.K,g S' p d h'⟩) (aAb hst.1) (aA7 hst.2).1
theorem aL9{id:String}{first:List Value}{args:List PySem.Expr}{pos:Pos}{k:St→List SV→Out SV}(R:Snd V r)(S:Sat G W σ)(hst:args.all notStar=true)(h:Hd G W (aGz r G.cf args σ k) (PV G Q))
  (g:∀ {W' σ' ys vs},Sat G W' σ'→Pre W.ads W'.ads→Dens W'.ads ys vs→Hd G W' (k σ' ys) (PV G Q)→G.wp (call (.builtin id) (first++vs)) Q (G.st W')) :
  G.wp (callWith pos (.builtin id) first (backTo pos (starEach args G.env)) []) Q (G.st W):=by
 cases args with
 |nil=>exact h.elim
 |cons e l =>
  have hst:=aAc (by rwa [List.all_cons] at hst)
  exact callWith_method1 (R.evs S h g) (aAb hst.1) (aA7 hst.2).1
theorem bOn{id:String}{args:List PySem.Expr}{pos:Pos}{k:St→List SV→Out SV}(R:Snd V r)(S:Sat G W σ)(hst:args.all notStar=true)(h:Hd G W (aGz r G.cf args σ k) (PV G Q))
  (g:∀ {W' σ' ys vs},Sat G W' σ'→Pre W.ads W'.ads→Dens W'.ads ys vs→Hd G W' (k σ' ys) (PV G Q)→G.wp (call (.type id) vs) Q (G.st W')) :
  G.wp (callWith pos (.type id) [] (backTo pos (starEach args G.env)) []) Q (G.st W):=by
 cases args with
 |nil=>exact h.elim
 |cons e l =>
  have hst:=aAc (by rwa [List.all_cons] at hst)
  exact PyProof.Rows.callWith_type1 (R.evs S h g) (aAb hst.1) (aA7 hst.2).1
noncomputable abbrev behind(G:Gd V)(Q:Value→Shared→Prop)(pos:Pos)(args:List PySem.Expr):Value×List Value→Shared→Prop:=fun fx s₂=>G.wp (callWith pos fx.1 fx.2 (backTo pos (starEach args G.env)) []) Q s₂
theorem aCj{x y:Str}(h:aB5 x y=true):x=y:=aCc.mp h
theorem aRd{i:Nat}{x:Addr}{name:Str}{args:List PySem.Expr}{pl:Sem Bool}{pos:Pos}{so:SO}{o:Obj}(R:Snd V r)(S:Sat G W σ)(hx:gN W.ads i=some x)(hm:(x,o)∈W.l)(d:DenO G.X W.ads so o)(hst:args.all notStar=true)(h:Hd G W (aW0 V r G.cf i name args σ so) (PV G Q)) :
  G.wp (getMethod (.ref x) name pl) (behind G Q pos args) (G.st W):=by
 cases so with
 |inst C dd =>
  refine aAd d fun dx hdx r0_2=>?_
  subst r0_2
  exact aNk h S hdx fun es n l _ hm2 al h=>onO_e h fun f hf h=>ifT_e h fun q h =>
   let k:=G.X.vo.mt hf
   method_inst S.F S.ok.K (InstAt.of_news S.N hm hm2) k.1 k.2.1 k.2.2.1 (aEk al (Option.isNone_iff_eq_none.mp q)) (aZn R S k.2.2.2 hst h fun S' p dv h'=>aJb R S' (.cons (show Den _ (.a i) (.ref x) from⟨x,p.get hx,rfl⟩) dv) h')
 |di kvs =>
  refine aAd d fun l al hdo=>?_
  exact ifT_e h fun q h=>aCj q▸kob_method (knd:=intKind G.X.prog G.X.w) PySem.F.slot_dict_update PySem.F.type_dict_update S.N hm hdo (aL9 (first:=[.ref x]) R S hst h fun S' p dv h'=>aR9 S' (p.get hx) dv h')
 |dv j n ps fs =>
  refine aPd d fun l0 l _ _ _ _ hdo=>?_
  unfold aW0 at h
  cases e:aB5 name "get" with
  |true=>simp only[e] at h;exact aCj e▸kdg_method (knd:=intKind G.X.prog G.X.w) S.N hm hdo (aL9 (first:=[.ref x]) R S hst h fun S' p dv h'=>aSe S' (p.get hx) dv h')
  |false=>simp only[e] at h;exact ifT_e h fun q h=>aCj q▸kob_method (knd:=intKind G.X.prog G.X.w) PySem.F.slot_dict_pop PySem.F.type_dict_pop S.N hm hdo (aL9 (first:=[.ref x]) R S hst h fun S' p dv h'=>aSc S' (p.get hx) dv h')
 |_=>exact h.elim
theorem aUy{K:Frag}:findCls K (.type "ValueError") (.type "type") "__init__"=some (.val (.builtin "ValueError.__init__")):=by kernel_rfl
theorem aUw:typeOf (.type "ValueError")=pure (.type "type"):=by kernel_rfl
theorem aUx:Manifest.isStub "ValueError"=false:=by decide +kernel
theorem aUz:handedIn (.builtin "ValueError.__init__")=true:=by decide +kernel
theorem bAy{prog:Program}{w:World}{A:Around}{E:Value→Shared→Prop}{s:Shared}{K:Frag}{h₀:Heap}{L:Addr}{m:Str→Option Value}{pl:Sem Bool}{Q:Value×List Value→Shared→Prop}(F:Fr h₀ L s.heap m)(X₀:K.In h₀)(h:Q (.builtin "ValueError.__init__",[]) { s with toks:=s.toks+1 }):wpAny (model prog w) A (getMethod (.type "ValueError") "__init__" pl) Q E s :=
 by with_reducible exact method_type F X₀ aUw aUx aUy aUz h
theorem aRc{a:Addr}{name:Str}{args:List PySem.Expr}{pl:Sem Bool}{pos:Pos}(R:Snd V r)(S:Sat G W σ)(hst:args.all notStar=true)(h:Hd G W (aWz V r G.cf a name args σ) (PV G Q)) :
  G.wp (getMethod (.ref a) name pl) (behind G Q pos args) (G.st W):=by
 unfold aWz at h
 cases e:V.cm a name with
 |some f =>
  simp only[e] at h
  refine bRg (G.X.vo.cm e) fun mc k1 k2 k3 k4 k5=>?_
  exact method_of_cls S.F S.ok.K k4 (cls_val S.F S.ok.K k1 k3 k2 rfl (aZn (W:=W.tok (W.t+1)) R (S.tok _) k5 hst (Hd.up (W:=W) (W':=W.tok (W.t+1)) (.refl W.ads) h) fun S' p dv h'=>aJb R S' dv h'))
 |none =>
  simp only[e] at h
  exact ifT_e h fun q h=>onO_e h fun rr hr h=>aCj q▸bMk S.F S.ok.K (aC0 G.X.vo.O hr) (aL9 (first:=[.ref a]) R S hst h fun S' p dv h'=>aYk S' dv h')
theorem aO5{ov:SV}{v:Value}{name:Str}{args:List PySem.Expr}{pl:Sem Bool}{pos:Pos}(R:Snd V r)(S:Sat G W σ)(d:Den W.ads ov v)(hst:args.all notStar=true)(h:Hd G W (aUf V r G.cf ov name args σ) (PV G Q)) :
  G.wp (getMethod v name pl) (behind G Q pos args) (G.st W):=by
 cases ov with
 |a i=>obtain⟨x,hx,rfl⟩:=d;exact aHg h S hx fun so o ho hm d h=>aRd R S hx hm d hst h
 |k w =>
  cases d
  cases v with
  |ref a=>exact aRc R S hst h
  |type id =>
   refine ifT_e h fun q h1=>ifT_e h1 fun q2 h2=>?_
   have e1:=beq_iff_eq.mp q
   have e2:=aCj q2
   clear h h1 q q2
   subst e1 e2
   exact bAy S.F S.ok.K (aL9 (W:=W.tok (W.t+1)) (first:=[]) R (S.tok _) hst (Hd.up (W:=W) (W':=W.tok (W.t+1)) (.refl W.ads) h2) fun S' p dv h'=>aYg S' dv h')
  |_=>exact h.elim
 |_=>exact h.elim
theorem aO9{f:PySem.Expr}{args:List PySem.Expr}{pos:Pos}(R:Snd V r)(S:Sat G W σ)(h:Hd G W (aUi V r G.cf f args pos σ) (PV G Q)):G.wp (eval (.Call f args [] pos) G.env) Q (G.st W):=by
 refine aEz (C:=fun o=>Hd G W o (PV G Q)) h (fun q hq h=>?_) fun h=>onO_e h fun q hq h=>?_
 ·rw[aL8 hq]
  exact ifT_e h fun q h=>ifT_e h fun q2 h=>aOc (aAc q).1 (aAc q).2 (aAc q2).1 (aAc q2).2 fun pl=>R.ev S h fun S' p d h'=>aO5 R S' d (aAc q).2 h'
 ·rw[aDh hq]
  refine ifT_e h fun hst h=>Call_ (aEs S (h.to (Ψ:=PV G _) fun S' p h v d=>?_))
  rename_i W' σ' y
  cases y with
  |k w =>
   cases d
   cases v with
   |ref a=>exact ifT_e h fun hk h=>aZn (first:=[]) R S' (G.X.vo.kp hk) hst h fun S2 p2 d2 h2=>aSs R S2 d2 h2
   |builtin id=>exact aL9 (first:=[]) R S' hst h fun S2 p2 d2 h2=>aYq S2 d2 h2
   |type id=>exact bOn R S' hst h fun S2 p2 d2 h2=>aYh S2 d2 h2
   |_=>exact h.elim
  |_=>exact h.elim
end
end
noncomputable def aKg(tup:Bool)(vs:List SV)(σ:St):Out SV:=ifT (Nat.ble vs.length 1000) (.p (σ.new (.seq tup vs 0)) (.a σ.led.length))
noncomputable def bRk(op:Operator)(i:Nat)(b:SV)(σ:St):Out SV:=match op with
 | .Mult=>onZ b fun k=>onSeq σ i fun tup vs _=>onO (nums vs) fun _=>ifT (!tup&&bt 0 k 999) (ifT (Nat.ble (vs.length*k.toNat) 1000) (.p (σ.new (.seq false (List.replicate k.toNat vs).flatten 0)) (.a σ.led.length)))
 | .Add=>onA b fun j=>onSeq σ i fun tup vs _=>onSeq σ j fun tup2 ws _=>ifT (!tup&&!tup2) (ifT (Nat.ble (vs.length+ws.length) 1000) (.p (σ.new (.seq false (vs++ws) 0)) (.a σ.led.length)))
 |_=>.f
noncomputable def bEx(op:Operator)(a b:SV)(σ:St):Out SV:=match a with
 | .a i=>bRk op i b σ
 |a=>onN a fun x lx=>onN b fun y ly=>binI op x lx y ly σ
noncomputable def aUp:SV→Option (Bool×Bool)
 | .z n=>some (n != 0,true)
 | .i x=>some (x != 0,false)
 | .k v=>(match v with
  | .bool b=>some (b,true)
  | .none=>some (false,true)
  |_=>none)
 | .b x=>some (x,false)
 |_=>none
noncomputable def bAr(e:PySem.Expr):Option Int:=(asK e).bind fun k=>asI k.1
noncomputable def isPow(o:Operator):Bool:=match o with
 | .Pow=>true
 |_=>false
noncomputable def peI(V:Vw)(cs:Scope)(σ:St)(e:PySem.Expr):Option Int:=bif Nat.beq e.ctorIdx 19 then bAr e else bif Nat.beq e.ctorIdx 2 then (asP e).bind fun q=>bif isPow q.2.1 then (bAr q.1).bind fun a=>(bAr q.2.2.1).bind fun b=>bif bt 0 b 1000&&bt (-i64) a i64 then some (a ^ b.toNat) else none else none
 else (asN e).bind fun q=>(nameV V cs q.1 σ).bind fun x=>(num x).map (·.1)
noncomputable def aRq(n:Nat):List Nat→Bool
 | []=>false
 |a::l=>Nat.beq n a||aRq n l
noncomputable def aHe(e:PySem.Expr):Bool:=aRq e.ctorIdx [2,23,20,16,21,19]
noncomputable def ifU(V:Vw)(r:Rec)(cf:Cf)(body orelse:PySem.Expr)(σ:St)(b:Bool):Out SV:=match peI V cf.cs σ body with
 |some x=>(match peI V cf.cs σ orelse with
  |some z=>.p σ (.i (bif b then x else z))
  |none=>br b σ fun σ2 q=>r.e cf (bif q then body else orelse) σ2)
 |none=>br b σ fun σ2 q=>r.e cf (bif q then body else orelse) σ2
noncomputable def ifK(V:Vw)(r:Rec)(cf:Cf)(body orelse:PySem.Expr)(σ:St)(y:SV):Out SV:=onO (aUp y) fun c=>match c.2 with
 |true=>r.e cf (bif c.1 then body else orelse) σ
 |false=>ifU V r cf body orelse σ c.1
noncomputable def bIa(V:Vw)(r:Rec)(cf:Cf)(l:PySem.Expr)(op:CmpOp)(rr:PySem.Expr)(σ:St):Out SV:=ifT (!(behindInMarks op rr)) (bd (r.e cf l σ) fun σ1 a=>bd (r.e cf rr σ1) fun σ2 b=>aO8 V op a b σ2)
noncomputable def bLv{α:Type}(ops:List CmpOp)(rs:List PySem.Expr)(k:CmpOp→PySem.Expr→Out α):Out α:=match ops with
 | [op]=>(match rs with
  | [rr]=>k op rr
  |_=>.f)
 |_=>.f
noncomputable def bEs(V:Vw)(r:Rec)(cf:Cf)(t body orelse:PySem.Expr)(σ:St):Out SV:=bif aHe t then bd (r.e cf t σ) fun σ1 y=>ifK V r cf body orelse σ1 y
 else alt (asM t) (fun q=>bLv q.2.1 q.2.2.1 fun op rr=>bd (bIa V r cf q.1 op rr σ) fun σ3 y=>ifK V r cf body orelse σ3 y) (bd (r.b cf t σ) fun σ1 b=>r.e cf (bif b then body else orelse) σ1)
noncomputable def aKf:List (Int×SV)→Bool
 | []=>true
 |p::r=>(aCt p.1 r).isNone&&aKf r
noncomputable def bD6(k:Option PySem.Expr):Option Int:=k.bind bAr
theorem aEw{e:PySem.Expr}{n:Int}(h:bAr e=some n):∃ a b,e=.Constant (.int n) a b :=
 aAd (Option.bind_eq_some_iff.mp h) fun q hq h=>bQ6 q.2.1 q.2.2 (by rw[aSx hq,bOj h])
theorem oB{α β:Type}{x:Option α}{f:α→Option β}{y:β}{R:Prop}(h:x.bind f=some y)(k:∀ a,x=some a→f a=some y→R):R:=aAd (Option.bind_eq_some_iff.mp h) k
theorem bOe{α:Type}{C:α→Prop}{b:Bool}{x y:α}(h:C (bif b then x else y)):C x∨C y:=by
 cases b
 ·exact .inr h
 ·exact .inl h
theorem aSv{α:Type}{C:α→Prop}{P:Prop}{b:Bool}{x y:α}(h:C (bif b then x else y))(g:b=true→C x→P)(g':C y→P):P:=by
 cases b
 ·exact g' h
 ·exact g rfl h
theorem aXn{o:Operator}(h:isPow o=true):o=.Pow:=by cases o<;>first|rfl|cases h
noncomputable def aJe(r:Rec)(cf:Cf)(kk:St→List (Int×SV)→Out SV):List (Option PySem.Expr)→List PySem.Expr→St→List (Int×SV)→Out SV
 | [],vs,σ,acc=>(match vs with
  | []=>kk σ acc
  |_::_=>.f)
 |k::ks,vs,σ,acc=>(match vs with
  | []=>.f
  |v::vs=>onO (bD6 k) fun n=>bd (r.e cf v σ) fun σ1 y=>aJe r cf kk ks vs σ1 (acc++[(n,y)]))
noncomputable def bNo(d:Nat)(σ:St)(kvs:List (Int×SV)):Out SV:=bDf σ d fun l=>ifT l.isEmpty (ifT (aKf kvs) (.p (σ.put d (.di kvs)) (.a d)))
noncomputable def aUh(r:Rec)(cf:Cf)(keys:List (Option PySem.Expr))(vals:List PySem.Expr)(σ:St):Out SV:=match keys with
 | []=>ifT vals.isEmpty (.p (σ.new (.di [])) (.a σ.led.length))
 |k::ks=>ifT (intLits (k::ks)) (ifT ((k::ks).all (·.isSome)) (ifT (Nat.beq (k::ks).length vals.length&&Nat.ble (k::ks).length 15) (aJe r cf (bNo σ.led.length) (k::ks) vals (σ.new (.di [])) [])))
noncomputable def bEi(sp:Option PySem.Expr)(p:Int×Bool):Option Prop:=match sp with
 |none=>some (0≤p.1∧p.1<100)
 |some e=>(asJ e).bind fun l=>(one l.1).bind fun c=>(asK c).bind fun k=>(asS k.1).bind fun y=>bif aB5 y "x" then some (0≤p.1∧p.1<4294967296) else bif aB5 y "08x" then some (p.1=4294967295) else none
noncomputable def bQ3(e:PySem.Expr):Option Prop:=(asK e).bind fun k=>(asS k.1).bind fun y=>bif Nat.ble y.length 100 then some True else none
noncomputable def bQ4(V:Vw)(cs:Scope)(σ:St)(e:PySem.Expr):Option Prop:=(asF e).bind fun f=>(asN f.1).bind fun x=>bif f.2.1==-1 then (nameV V cs x.1 σ).bind fun y=>(num y).bind (bEi f.2.2.1) else none
noncomputable def bEj(V:Vw)(cs:Scope)(σ:St)(e:PySem.Expr):Option Prop:=bif Nat.beq e.ctorIdx 19 then bQ3 e else bQ4 V cs σ e
noncomputable def aO1(V:Vw)(cs:Scope)(σ:St):List PySem.Expr→Option Prop
 | []=>some True
 |e::r=>(bEj V cs σ e).bind fun P=>(aO1 V cs σ r).map fun R=>P∧R
noncomputable def evJ(V:Vw)(cs:Scope)(l:List PySem.Expr)(σ:St):Out SV:=match l with
 |a::b::r=>ifT (Nat.ble r.length 7) (onO (aO1 V cs σ (a::b::r)) fun P=>.g P (.p σ .t))
 |_=>.f
noncomputable def evE(V:Vw)(r:Rec)(cf:Cf)(x:PySem.Expr)(σ:St):Out SV:=match x with
 | .Name y _=>aKr V cf.cs y σ
 | .Constant k _ _=>aO7 k σ
 | .BinOp l op rr _=>bd (r.e cf l σ) fun σ1 a=>bd (r.e cf rr σ1) fun σ2 b=>bEx op a b σ2
 | .Compare l ops rs _=>bLv ops rs fun op rr=>bIa V r cf l op rr σ
 | .Attribute o attr _=>(match o with
  | .Name y _=>bd (aKr V cf.cs y σ) fun σ1 o=>aZl V o attr σ1
  |_=>.f)
 | .Call f args kws pos=>(match kws with
  | []=>aUi V r cf f args pos σ
  |_::_=>.f)
 | .Subscript v sl _=>ifT (aCy sl) (bd (r.e cf v σ) fun σ1 o=>bd (r.e cf sl σ1) fun σ2 i=>bEp V o i σ2)
 | .Tuple elts _ _=>bd (r.es cf elts σ) fun σ1 vs=>aKg true vs σ1
 | .List elts _=>bd (r.es cf elts σ) fun σ1 vs=>aKg false vs σ1
 | .Dict keys vals _=>aUh r cf keys vals σ
 | .IfExp t b o _=>bEs V r cf t b o σ
 | .JoinedStr l _=>evJ V cf.cs l σ
 |_=>.f
noncomputable def bRc(r:Rec)(cf:Cf)(l:List PySem.Expr)(σ:St):Out (List SV):=match l with
 | []=>.p σ []
 |e::rest=>ifT (notStar e) (bd (r.e cf e σ) fun σ1 y=>bd (r.es cf rest σ1) fun σ2 ys=>.p σ2 (y::ys))
section
variable {V:Vw} {G:Gd V} {W:Wd} {σ:St} {Q:Value→Shared→Prop} {r:Rec}
theorem aOe{D:Addr}{o:Obj}{so:SO}{h':Heap}(S:Sat G W σ)(h:Hd G W (.p (σ.new so) (.a σ.led.length)) (PV G Q))(F:Fr G.g G.L h' W.m)(N:News G.g G.L h' ((D,o)::W.l))(lt:∀ p∈W.l,p.1<D)(d:DenO G.X (W.ads++[D]) so o):Q (.ref D) (G.st (W.hp W.m h' W.t)) :=
 h (W.new D o h' W.t) (.snoc _ _) (S.new _ F N lt d) _ (aYy (S:=S))
theorem aLl{vs:List SV}{ws:List Value}(S:Sat G W σ)(a:Dens W.ads vs ws)(h:Hd G W (aKg true vs σ) (PV G Q)):G.wp (newTuple ws) Q (G.st W) :=
 ifT_e h fun hb h=>kup_newTuple S.F S.N (fun D h' F' N' lt=>aOe S h F' N' lt ⟨ws,a.mono (.snoc _ _),rfl⟩) (by have:=Nat.le_of_ble_eq_true hb;rw[sizeLine_eq,← a.len];lia)
theorem aLm{vs:List SV}{ws:List Value}(S:Sat G W σ)(a:Dens W.ads vs ws)(h:Hd G W (aKg false vs σ) (PV G Q)):G.wp (newList ws) Q (G.st W) :=
 ifT_e h fun hb h=>newList_K S.F S.N (fun D h' F' N' lt=>aOe S h F' N' lt ⟨ws,a.mono (.snoc _ _),rfl⟩) (by have:=Nat.le_of_ble_eq_true hb;rw[sizeLine_eq,← a.len];lia)
theorem All2.rep{α β:Type}{R:α→β→Prop}{l:List α}{m:List β}(h:All2 R l m):∀ k:Nat,All2 R (List.replicate k l).flatten (List.replicate k m).flatten
 | 0=>.nil
 |k+1=>h.app (All2.rep h k)
theorem bY0{a b:Bool}(h:(!a&&!b)=true):a=false∧b=false:=⟨aBu (aAc h).1,aBu (aAc h).2⟩
theorem aZf{op:Operator}{i:Nat}{x:Addr}{b:SV}{vb:Value}(S:Sat G W σ)(hx:gN W.ads i=some x)(db:Den W.ads b vb)(h:Hd G W (bRk op i b σ) (PV G Q)):G.wp (binaryOp op (.ref x) vb) Q (G.st W):=by
 cases op with
 |Mult =>
  refine aNj h db fun k t h=>aCd h S hx fun tup vs n l _ hm al h=>onO_e h fun ns hns h=>ifT_e h fun q h=>ifT_e h fun q2 hz=>?_
  cases aBu (aAc q).1
  have b:=aGv (aAc q).2
  have hb2:=Nat.le_of_ble_eq_true q2
  exact KM.mul S.F S.N (News.isList S.N hm) (aGa hns al) (by lia) (by lia) (by rw[← al.len];lia) fun D h' F' N' lt _ _ _ _ _ _=>aOe S hz F' N' lt ⟨_,(al.rep _).mono fun _ _=>Den.mono (.snoc _ _),rfl⟩
 |Add =>
  refine aDn h db fun j y hy h=>aCd h S hx fun tup vs n l _ hm al h=>aCd h S hy fun tup2 ws n2 l2 _ hm2 al2 h=>ifT_e h fun q h=>ifT_e h fun q2 hz=>?_
  refine aBa (bY0 q) fun e1 e2=>?_
  subst e1 e2
  have hb:=Nat.le_of_ble_eq_true q2
  rw[al.len,al2.len] at hb
  exact add_lists S.F S.N (News.isList S.N hm) (News.isList S.N hm2) (fun h' F' N'=>aOe S hz F' N' (fun p hp=>Heap.lt_size (S.N p hp).1) ⟨_,(al.app al2).mono fun _ _=>Den.mono (.snoc _ _),rfl⟩) (by rw[sizeLine_eq];lia)
 |_=>exact h.elim
theorem aSg{op:Operator}{a b:SV}{va vb:Value}(S:Sat G W σ)(da:Den W.ads a va)(db:Den W.ads b vb)(h:Hd G W (bEx op a b σ) (PV G Q)):G.wp (binaryOp op va vb) Q (G.st W):=by
 have kk:∀ {a:SV},Den W.ads a va→Hd G W (onN a fun x lx=>onN b fun y ly=>binI op x lx y ly σ) (PV G Q)→G.wp (binaryOp op va vb) Q (G.st W):=fun da h=>aEf h da fun x lx t h=>aEf h db fun y ly u h=>aZg S h
 cases a with
 |a i=>obtain⟨x,hx,rfl⟩:=da;exact aZf S hx db h
 |z n=>exact kk da h
 |i n=>exact kk da h
 |_=>exact h.elim
theorem aPh{y:SV}{v:Value}{c:Bool×Bool}{s:Shared}{QB:Bool→Shared→Prop}(e:aUp y=some c)(d:Den W.ads y v)(h:QB c.1 s):G.wp (truthy v) QB s:=by
 cases y with
 |z n=>cases e;obtain⟨t,rfl⟩:=d;exact truthy_int h
 |i n=>cases e;obtain⟨t,rfl⟩:=d;exact truthy_int h
 |b x=>cases e;cases d;exact wpAny_truthy_bool h
 |k w=>cases d;cases v with
  |bool b=>cases e;exact wpAny_truthy_bool h
  |none=>cases e;exact truthy_none h
  |_=>exact nn e
 |_=>exact nn e
theorem aTz{x:PySem.Expr}{n:Int}(S:Sat G W σ)(e:peI V G.cf.cs σ x=some n)(h:Hd G W (.p σ (.i n)) (PV G Q)):G.wp (eval x G.env) Q (G.st W) :=
 aSv (C:=fun o=>o=some n) e (fun _ e=>bAq (aEw e) fun _ _ q=>q▸wpAny_Constant_int (h (W.tok (W.t+1)) (.refl _) (S.tok _) _ ⟨_,rfl⟩)) fun e=>aSv (C:=fun o=>o=some n) e (fun _ e=>oB e fun q hq e=>aBa (aGx e) fun ho e=>oB e fun a h1 e=>oB e fun b h2 e=>bAq (aEw h1) fun _ _ k1=>bAq (aEw h2) fun _ _ k2=>aBa (aGx e) fun q e=>by
  rw[bOg hq,aXn ho,k1,k2]
  rw[← Option.some.inj e] at h
  exact wpAny_BinOp (wpAny_Constant_int (wpAny_Constant_int (pow_int_small (aGv (aAc q).1).1 (Int.le_trans (aGv (aAc q).1).2 (by decide)) (bFp (aGv (aAc q).2)) (h (W.tok (W.t+1+1+1)) (.refl _) (S.tok _) _ ⟨_,rfl⟩))))) fun e=>oB e fun x hx e=>oB e fun z hz e=>aAd (Option.map_eq_some_iff.mp e) fun q hq r=>by
  rw[aDh hx]
  rw[← r] at h
  exact aCz S hz fun v d=>h W (.refl _) S v (aB3 hq d)
theorem aRs{b:Bool}{body orelse:PySem.Expr}(R:Snd V r)(S:Sat G W σ)(h:Hd G W (r.e G.cf (bif b then body else orelse) σ) (PV G Q)):if b=true then G.wp (eval body G.env) Q (G.st W) else G.wp (eval orelse G.env) Q (G.st W):=by
 cases b with
 |true=>exact R.e S h
 |false=>exact R.e S h
theorem aUa{body orelse:PySem.Expr}{y:SV}{v:Value}(R:Snd V r)(S:Sat G W σ)(d:Den W.ads y v)(h:Hd G W (ifK V r G.cf body orelse σ y) (PV G Q)) :
  G.wp (truthy v) (fun b s₂=>if b=true then G.wp (eval body G.env) Q s₂ else G.wp (eval orelse G.env) Q s₂) (G.st W) :=
 onO_e h fun c hc h=>aPh hc d (by
  obtain⟨b,l⟩:=c
  cases l with
  |true=>exact aRs R S h
  |false =>
   replace h:Hd G W (ifU V r G.cf body orelse σ b) (PV G Q):=h
   unfold ifU at h
   cases e1:peI V G.cf.cs σ body with
   |none=>simp only[e1] at h;exact bIf h fun o h=>aRs R (S.orc o) h
   |some x =>
    cases e2:peI V G.cf.cs σ orelse with
    |none=>simp only[e1,e2] at h;exact bIf h fun o h=>aRs R (S.orc o) h
    |some z =>
     simp only[e1,e2] at h
     cases b with
     |true=>exact aTz S e1 h
     |false=>exact aTz S e2 h)
theorem aT2{α:Type}{Φ:Wd→St→α→Prop}{ops:List CmpOp}{rs:List PySem.Expr}{k:CmpOp→PySem.Expr→Out α}{P:Prop}(h:Hd G W (bLv ops rs k) Φ)(g:∀ op rr,ops=[op]→rs=[rr]→Hd G W (k op rr) Φ→P):P:=by
 cases ops with
 |nil=>exact h.elim
 |cons op ops=>cases ops with
  |cons _ _=>exact h.elim
  |nil=>cases rs with
   |nil=>exact h.elim
   |cons rr rs=>cases rs with
    |cons _ _=>exact h.elim
    |nil=>exact g op rr rfl rfl h
theorem aD2{α:Type}{Φ:Wd→St→α→Prop}{op:CmpOp}{a b:SV}{va vb:Value}{k:St→SV→Out α}{Q₁:Value→Shared→Prop}(S:Sat G W σ)(da:Den W.ads a va)(db:Den W.ads b vb)(h:Hd G W (bd (aO8 V op a b σ) k) Φ)
  (g:∀ {W' σ' y v},Sat G W' σ'→Pre W.ads W'.ads→Den W'.ads y v→Hd G W' (k σ' y) Φ→Q₁ v (G.st W')):G.wp (compareOp op va vb) Q₁ (G.st W) :=
 aKs S da db (h.to fun S p h _ d=>g S p d h)
theorem aC5{α β γ:Type}{o:Out α}{k:St→α→Out β}{l:St→β→Out γ}:bd (bd o k) l=bd o fun σ a=>bd (k σ a) l:=by
 induction o with
 |f=>rfl
 |p _ _=>rfl
 |t _ _=>rfl
 |x _ _=>rfl
 |g P o ih=>exact congrArg _ ih
 |s c a b i j=>exact congr (congrArg _ i) j
theorem bFe{α β:Type}{b:Bool}{o:Out α}{k:St→α→Out β}:bd (ifT b o) k=ifT b (bd o k):=by cases b<;>rfl
theorem aSd{t body orelse:PySem.Expr}{pos:Pos}(R:Snd V r)(S:Sat G W σ)(h:Hd G W (bEs V r G.cf t body orelse σ) (PV G Q)):G.wp (eval (.IfExp t body orelse pos) G.env) Q (G.st W):=by
 refine IfExp_ (aSv (C:=fun o=>Hd G W o (PV G Q)) h (fun e h=>isTrue_plain (R.ev S h fun S' p d h'=>aUa R S' d h') (by cases t<;>first|rfl|cases e)) fun h=>aEz (C:=fun o=>Hd G W o (PV G Q)) h (fun q hq h=>?_) fun h=>R.cond S h fun S' p h'=>aRs R S' h')
 refine aT2 h fun op rr e1 e2 hz=>?_
 rw[bFl hq,e1,e2]
 unfold bIa at hz
 rw[bFe] at hz
 refine ifT_e hz fun hm h=>?_
 rw[aC5] at h
 refine wpAny_isTrue_Compare1 (R.ev S h fun S1 p1 d1 h1=>?_) (aBu hm)
 rw[aC5] at h1
 exact R.ev S1 h1 fun S2 p2 d2 h2=>aD2 S2 (d1.mono p2) d2 h2 fun S3 p3 d3 h3=>aUa R S3 d3 h3
noncomputable def KV(ads:List Addr)(p:Int×SV)(q:Value×Value):Prop:=(∃ t,q.1=.int p.1 t)∧Den ads p.2 q.2
theorem KV.mono{a b:List Addr}(p:Pre a b){x:Int×SV}{y:Value×Value}(h:KV a x y):KV b x y:=⟨h.1,h.2.mono p⟩
theorem bM0{ads:List Addr}{l:List (Int×SV)}{m:List (Value×Value)}(h:All2 (KV ads) l m):All2 (DiE ads) l (intKeyPairs m)∧allIntKeys m=true:=by
 induction h with
 |nil=>exact⟨.nil,rfl⟩
 | @cons a b l m r _ ih =>
  obtain⟨x,y⟩:=b
  obtain⟨⟨t,rfl⟩,d⟩:=r
  exact⟨.cons ⟨rfl,d⟩ ih.1,ih.2⟩
theorem aRa{ads:List Addr}{l:List (Int×SV)}{m:List (Int×Value)}(h:All2 (DiE ads) l m):aKf l=true→(m.map (·.1)).Nodup:=by
 induction h with
 |nil=>intro _;exact .nil
 | @cons a b l m r hh ih =>
  intro q
  have q:=aAc (show ((aCt a.1 l).isNone&&aKf l)=true from q)
  rw[List.map_cons,List.nodup_cons]
  refine⟨fun z=>?_,ih q.2⟩
  refine aAd (List.mem_map.mp z) fun p hp e=>?_
  have g:=aIb (k:=a.1) hh
  rw[Option.isNone_iff_eq_none.mp q.1] at g
  exact absurd (List.any_eq_false.mp g p hp) (by simp[e,r.1])
theorem aLy{kk:St→List (Int×SV)→Out SV}{pos:Pos}(R:Snd V r):∀ (ks:List (Option PySem.Expr)) (vs:List PySem.Expr) (W:Wd) (σ:St) (acc:List (Int×SV)) (accV:List (Value×Value)) (Q₁:List (Value×Value)→Shared→Prop),
  Sat G W σ→All2 (KV W.ads) acc accV→Hd G W (aJe r G.cf kk ks vs σ acc) (PV G Q) →
  (∀ {W' σ' kvs ps},Sat G W' σ'→Pre W.ads W'.ads→All2 (KV W'.ads) kvs (accV++ps)→Hd G W' (kk σ' kvs) (PV G Q)→Q₁ ps (G.st W')) →
  G.wp (evalPairs (pairTrees ks vs G.env pos)) Q₁ (G.st W):=by
 intro ks
 induction ks with
 |nil =>
  intro vs W σ acc accV Q₁ S a h g
  cases vs with
  |nil=>exact pairTrees_nil_walk (g S (.refl _) (by rw[List.append_nil];exact a) h)
  |cons _ _=>exact h.elim
 |cons k ks ih =>
  intro vs W σ acc accV Q₁ S a h g
  cases vs with
  |nil=>exact h.elim
  |cons v vs =>
   refine onO_e h fun n hk h=>?_
   refine aAd (Option.bind_eq_some_iff.mp hk) fun e r12_1 hk=>?_
   subst r12_1
   refine bAq (aEw hk) fun a1 a2 r13_2=>?_
   subst r13_2
   refine pairTrees_cons_walk (wpAny_Constant_int (R.ev (W:=W.tok (W.t+1)) (S.tok _) (Hd.up (W:=W) (W':=W.tok (W.t+1)) (.refl W.ads) h) fun {W1 σ1 y v} S1 p1 d1 h1=>?_))
   exact ih _ W1 σ1 _ (accV++[(.int n W.t,v)]) _ S1 ((a.mono fun _ _=>KV.mono p1).snoc ⟨⟨_,rfl⟩,d1⟩) h1 fun S' p al h'=>g S' (Pre.trans p1 p) (by simpa using al) h'
theorem aO6{keys:List (Option PySem.Expr)}{vals:List PySem.Expr}{pos:Pos}(R:Snd V r)(S:Sat G W σ)(h:Hd G W (aUh r G.cf keys vals σ) (PV G Q)):G.wp (eval (.Dict keys vals pos) G.env) Q (G.st W):=by
 cases keys with
 |nil =>
  refine ifT_e h fun q h=>?_
  cases vals with
  |nil=>exact newDict_K S.F S.N (Top.nolimit S.ok.T) fun d h' o F' N' lt lo _ _ hi _=>aOe S h F' N' lt ⟨[],.nil,hi⟩
  |cons _ _=>cases q
 |cons k ks =>
  refine ifT_e h fun q1 h=>ifT_e h fun q2 h=>ifT_e h fun q3 h=>?_
  have h3:=Nat.eq_of_beq_eq_true (aAc q3).1
  refine kdn_int q1 S.F S.N (Top.nolimit S.ok.T) q2 h3 (List.cons_ne_nil _ _) (Nat.le_of_ble_eq_true (aAc q3).2) fun d h' o F' N' lt lo hdo=>?_
  have S1:=S.new (so:=.di []) W.t F' N' lt ⟨[],.nil,hdo⟩
  refine aLy (W:=W.new d o h' W.t) R _ _ _ [] [] _ S1 .nil (Hd.up (W:=W) (.snoc _ _) h) fun {W2 σ2 kvs ps} S' p al h'=>?_
  rw[List.nil_append] at al
  have hx:gN W2.ads σ.led.length=some d:=p.get (by rw[S.O.len,← S.len];exact aBg)
  refine aNo h' S' hx fun l o2 l2 h5 h6 al2 hd2 h'=>ifT_e h' fun he h'=>ifT_e h' fun hnd hz=>?_
  cases l with
  |cons _ _=>cases he
  |nil =>
   cases al2
   obtain⟨k1,k2⟩:=bM0 al
   exact kdn_made_int S'.F S'.N (S'.upd hx h5) hd2 k2 (aRa k1 hnd) fun h9 o9 F9 N9 hd9=>hz (W2.put _ o9 h9 (W2.t+ps.length)) (.refl _) (S'.put _ F9 N9 ⟨_,k1,hd9⟩) _ ⟨d,hx,rfl⟩
end
section
variable {prog:Program} {w:World} {A:Around} {E:Value→Shared→Prop} {s:Shared} {Q:Value→Shared→Prop}
theorem aRx{t:Tok}(h:∀ t' k,Q (.str (Str.ofString "ffffffff") t') { s with toks:=k }):wpAny (model prog w) A (formatField (.int 4294967295 t) (PySem.Str.ofString "08x")) Q E s:=by
 refine KXf.field_int (spec':=PySem.Str.ofString "08x") (y:=Str.ofString "ffffffff") rfl (by decide +kernel) (by decide +kernel) ?_ h
 intro u
 refine KPc.meets_of fun p' w' A' s' Q' E' h'=>?_
 refine aMl (t':=typeNameOf (.str (PySem.Str.ofString "08x") u) >>= fun _=>typeNameOfCut 200 (.int 4294967295 t) >>= fun _=>retStr (Str.ofString "ffffffff")) (by kernel_rfl) ?_
 refine wpAny_bind (wpAny_typeNameOf (T:="str") (typeIs_str _ _ _) (by decide) fun _=>?_)
 refine wpAny_bind (wpAny_typeNameOfCut_int ?_)
 exact KXf.ret_text rfl (by decide +kernel) h'
theorem aYz:∀ n:Fin 100,(Str.ofString (toString (Int.ofNat n.val))).length≤100:=by decide +kernel
theorem aOy{a:Int}{t:Tok}(h0:0≤a)(h1:a<100)(h:∀ (y:Str) t' k,y.length≤100→Q (.str y t') { s with toks:=k }):wpAny (model prog w) A (formatField (.int a t) Str.empty) Q E s:=by
 refine aA6 (Int.eq_ofNat_of_zero_le h0) fun n r0_1=>?_
 subst r0_1
 have hn:n<100:=by lia
 refine formatField_int_small ?_ (h _ _ _ (aYz ⟨n,hn⟩))
 by_cases e:n=0
 ·subst e;decide
 ·have:n.log2<7:=(Nat.log2_lt e).mpr (by lia)
  show n.log2<1920
  lia
end
section
variable {V:Vw} {G:Gd V} {W:Wd} {σ:St} {Q:Value→Shared→Prop} {r:Rec}
noncomputable def aPw(s:Shared)(Q:Value→Shared→Prop):Prop:=∀ (y:Str) t k,y.length≤100→Q (.str y t) { s with toks:=k }
theorem aX6{e:PySem.Expr}{P:Prop}(he:bQ3 e=some P)(h:aPw (G.st W) Q):G.wp (eval e G.env) Q (G.st W) :=
 oB he fun k hk he=>oB he fun y hy he=>by
  rw[aSx hk,bFk hy]
  exact Constant_str (h y _ _ (Nat.le_of_ble_eq_true (aGx he).1))
theorem aRy{e:PySem.Expr}{p:Int×Bool}{u:Tok}{P:Prop}(he:bEi (some e) p=some P)(hP:P)(h:aPw (G.st W) Q):G.wp (eval e G.env) (fun r s=>∃ sp t,r=.str sp t∧wpAny (model G.X.prog G.X.w) G.A (formatField (.int p.1 u) sp) Q G.E s) (G.st W) :=
 oB he fun l hl he=>oB he fun c hc he=>oB he fun k hk he=>oB he fun z hz he=>by
  rw[bOi hl,aQ9 hc,aSx hk,bFk hz]
  refine JoinedStr_one (Constant_str ⟨z,_,rfl,?_⟩)
  cases e1:aB5 z "x" with
  |true =>
   rw[e1] at he
   have e2:=Option.some.inj he
   subst e2
   exact aLw (aCj e1) (by have:=hP.1;have:=hP.2;lia) fun y t' k hl=>h y t' k hl
  |false =>
   rw[e1] at he
   refine aBa (aGx he) fun e2 he=>?_
   have e3:=Option.some.inj he
   subst e3
   rw[aCj e2,show p.1=4294967295 from hP]
   exact aRx fun t' k=>h _ t' k (by decide +kernel)
theorem aX7{e:PySem.Expr}{P:Prop}(S:Sat G W σ)(he:bQ4 V G.cf.cs σ e=some P)(hP:P)(h:aPw (G.st W) Q):G.wp (eval e G.env) Q (G.st W) :=
 oB he fun f hf he=>oB he fun x hx he=>aBa (aGx he) fun hc he=>oB he fun y hy he=>oB he fun q hq he=>by
  rw[bOl hf,aDh hx,beq_iff_eq.mp hc]
  cases hs:f.2.2.1 with
  |none =>
   rw[hs] at he
   have e:=Option.some.inj he
   subst e
   refine FormattedValue_plain (aCz S hy fun u d=>?_)
   refine aA6 (aB3 hq d) fun t r=>?_
   subst r
   exact aOy hP.1 hP.2 fun y t k hl=>h y t k hl
  |some s =>
   rw[hs] at he
   refine wpAny_FormattedValue_spec (aCz S hy fun u d=>?_)
   refine aA6 (aB3 hq d) fun t r=>?_
   subst r
   exact aRy he hP h
theorem aRz{e:PySem.Expr}{P:Prop}(S:Sat G W σ)(he:bEj V G.cf.cs σ e=some P)(hP:P)(h:aPw (G.st W) Q):G.wp (eval e G.env) Q (G.st W):=(bOe (C:=fun o=>o=some P) he).elim (fun he=>aX6 he h) fun he=>aX7 S he hP h
theorem bM1{x:Sem Value}{rest:List (Sem Value)}{out:Str}{n:Nat}{s:Shared}{A:Around}{M:Model}{E:Value→Shared→Prop}(hl:out.length≤n)(hn:n≤1000)(h:∀ Q,aPw s Q→wpAny M A x Q E s)(k:∀ (out':Str) t,out'.length≤n+100→wpAny M A (joinParts out' rest) Q E { s with toks:=t }):wpAny M A (joinParts out (x::rest)) Q E s :=
 joinParts_cons (h _ fun y t k' hy=>by
  have:(out++y).length≤n+100:=by rw[strLen_append];lia
  exact⟨by rw[sizeLine_eq];lia,k _ _ this⟩)
theorem aO0:∀ (l:List PySem.Expr) {P:Prop} {W:Wd} {out:Str} {n:Nat} (S:Sat G W σ) (he:aO1 V G.cf.cs σ l=some P) (hP:P) (hl:out.length≤n) (hn:n+100*l.length≤1000)
  (h:∀ y t k,Q (.str y t) (G.st (W.tok k))),G.wp (joinParts out (evalEach l G.env)) Q (G.st W):=by
 intro l
 induction l with
 |nil=>intro P W out n S he hP hl hn h;exact joinParts_nilE (joinParts_nil (h _ _ (W.t+1)) (by rw[sizeLine_eq];simp only[List.length_nil] at hn;lia))
 |cons e l ih =>
  intro P W out n S he hP hl hn h
  refine aAd (Option.bind_eq_some_iff.mp he) fun P1 h1 he=>?_
  refine aAd (Option.map_eq_some_iff.mp he) fun P2 h2 r8_2=>?_
  subst r8_2
  simp only[List.length_cons] at hn
  exact joinParts_consE (bM1 hl (by lia) (fun Q' hQ=>aRz S h1 hP.1 hQ) fun out' t hl'=>ih (W:=W.tok t) (S.tok t) h2 hP.2 hl' (by lia) fun y t' k=>h y t' k)
theorem bEr{l:List PySem.Expr}{pos:Pos}(S:Sat G W σ)(h:Hd G W (evJ V G.cf.cs l σ) (PV G Q)):G.wp (eval (.JoinedStr l pos) G.env) Q (G.st W):=by
 cases l with
 |nil=>exact h.elim
 |cons a l=>cases l with
  |nil=>exact h.elim
  |cons b l=>exact ifT_e h fun hb h=>onO_e h fun P hP h=>JoinedStr_many (aO0 (a::b::l) (n:=0) S hP h.1 (Nat.le_refl _) (by have:=Nat.le_of_ble_eq_true hb;simp only[List.length_cons];lia) fun y t k=>h.2 (W.tok k) (.refl _) (S.tok k) _ ⟨y,t,rfl⟩)
theorem aY1{l rr:PySem.Expr}{op:CmpOp}{pos:Pos}(R:Snd V r)(S:Sat G W σ)(h:Hd G W (bIa V r G.cf l op rr σ) (PV G Q)):G.wp (eval (.Compare l [op] [rr] pos) G.env) Q (G.st W) :=
 ifT_e h fun hm h=>wpAny_Compare1 (R.ev S h fun S1 p1 d1 h1=>R.ev S1 h1 fun S2 p2 d2 h2=>aKs S2 (d1.mono p2) d2 h2) (aBu hm)
theorem bEu{x:PySem.Expr}(R:Snd V r)(S:Sat G W σ)(h:Hd G W (evE V r G.cf x σ) (PV G Q)):G.wp (eval x G.env) Q (G.st W):=by
 cases x with
 |Name y p=>exact aEs S h
 |Constant k a b=>exact aLz S h
 |BinOp l op rr p=>exact wpAny_BinOp (R.ev S h fun S1 p1 d1 h1=>R.ev S1 h1 fun S2 p2 d2 h2=>aSg S2 (d1.mono p2) d2 h2)
 |Compare l ops rs p=>exact aT2 h fun op rr e1 e2 h=>by subst e1 e2;exact aY1 R S h
 |Attribute o attr p=>cases o with
  |Name y q=>exact Attribute_Name_ (aEs S (h.to fun S' p h v d=>aKy S' d h))
  |_=>exact h.elim
 |Call f args kws p=>cases kws with
  |nil=>exact aO9 R S h
  |cons _ _=>exact h.elim
 |Subscript v sl p=>exact ifT_e h fun hs h=>Subscript_ (R.ev S h fun S1 p1 d1 h1=>R.ev S1 h1 fun S2 p2 d2 h2=>aSb hs S2 (d1.mono p2) d2 h2)
 |Tuple l k p=>exact Tuple_ (R.evs S h fun S1 p1 d1 h1=>aLl S1 d1 h1)
 |List l p=>exact List_ (R.evs S h fun S1 p1 d1 h1=>aLm S1 d1 h1)
 |Dict ks vs p=>exact aO6 R S h
 |IfExp t b o p=>exact aSd R S h
 |JoinedStr l p=>exact bEr S h
 |_=>exact h.elim
theorem aYm{l:List PySem.Expr}{pos:Pos}{Q:List Value→Shared→Prop}(R:Snd V r)(S:Sat G W σ)(h:Hd G W (bRc r G.cf l σ) (PS G Q)):G.wp (spliced (backTo pos (starEach l G.env))) Q (G.st W):=by
 cases l with
 |nil=>exact args_nil (h W (.refl _) S _ .nil)
 |cons e l=>exact ifT_e h fun hst h=>args_cons (R.ev S h fun S1 p1 d1 h1=>R.evs S1 h1 fun {W2 σ2 y v} S2 p2 d2 h2=>h2 W2 (.refl _) S2 _ (.cons (d1.mono p2) d2)) (aAb hst)
end
noncomputable def aKw(V:Vw)(op:CmpOp)(a:SV)(σ1:St)(b:SV):Out Bool:=bd (aO8 V op a b σ1) fun σ2 y=>aGq y σ2
noncomputable def aJf(V:Vw)(r:Rec)(cf:Cf):SV→List CmpOp→List PySem.Expr→St→Out Bool
 |_,[],_,_=>.f
 |a,op::ops,es,σ=>(match es with
  | []=>.f
  |e::es=>(match ops with
   | []=>ifT es.isEmpty (bd (r.e cf e σ) (aKw V op a))
   |_::_=>ifT (!es.isEmpty) (bd (r.e cf e σ) fun σ1 b=>bd (aKw V op a σ1 b) fun σ3 t=>match t with
    |true=>aJf V r cf b ops es σ3
    |false=>.p σ3 false)))
noncomputable def bRd(V:Vw)(r:Rec)(cf:Cf)(l:PySem.Expr)(ops:List CmpOp)(rs:List PySem.Expr)(σ:St):Out Bool:=match ops with
 | []=>.f
 |op::ops=>(match rs with
  | []=>.f
  |rr::rs=>(match ops with
   | []=>ifT (rs.isEmpty&&!(behindInMarks op rr)) (bd (r.e cf l σ) fun σ1 a=>bd (r.e cf rr σ1) fun σ2 b=>aKw V op a σ2 b)
   |o2::ops=>(match rs with
    | []=>.f
    |r2::rs=>ifT (!(lastMarks (op::o2::ops) (rr::r2::rs))) (bd (r.e cf l σ) fun σ1 a=>aJf V r cf a (op::o2::ops) (rr::r2::rs) σ1))))
noncomputable def aUj(r:Rec)(cf:Cf)(op:BoolOp)(l:List PySem.Expr)(pos:Pos)(σ:St):Out Bool:=match op with
 | .And=>(match l with
  | []=>.p σ true
  |y::rest=>bd (r.b cf y σ) fun σ1 t=>match t with
   |true=>r.b cf (.BoolOp .And rest pos) σ1
   |false=>.p σ1 false)
 | .Or=>(match l with
  | []=>.p σ false
  |y::rest=>bd (r.b cf y σ) fun σ1 t=>match t with
   |true=>.p σ1 true
   |false=>r.b cf (.BoolOp .Or rest pos) σ1)
noncomputable def evB(V:Vw)(r:Rec)(cf:Cf)(x:PySem.Expr)(σ:St):Out Bool:=bif aHe x then bd (r.e cf x σ) fun σ1 y=>aGq y σ1
 else alt (asM x) (fun q=>bRd V r cf q.1 q.2.1 q.2.2.1 σ) (alt (asB x) (fun q=>aUj r cf q.1 q.2.1 q.2.2 σ) (onO (asO x) fun q=>match q.1 with
  | .Not=>bd (r.b cf q.2.1 σ) fun σ1 t=>.p σ1 (!t)
  |_=>.f))
section
variable {V:Vw} {G:Gd V} {W:Wd} {σ:St} {Q:Bool→Shared→Prop} {r:Rec}
theorem aK2{α:Type}{Φ:Wd→St→α→Prop}{y:SV}{v:Value}{k:St→Bool→Out α}{Q₁:Bool→Shared→Prop}(S:Sat G W σ)(d:Den W.ads y v)(h:Hd G W (bd (aGq y σ) k) Φ)
  (g:∀ {W' σ' t},Sat G W' σ'→Pre W.ads W'.ads→Hd G W' (k σ' t) Φ→Q₁ t (G.st W')):G.wp (truthy v) Q₁ (G.st W) :=
 aCp S d (h.to (Ψ:=PB G Q₁) fun S p h=>g S p h)
theorem aL0{pos:Pos}(R:Snd V r):∀ (ops:List CmpOp) (es:List PySem.Expr) (a:SV) (va:Value) (W:Wd) (σ:St),Sat G W σ→Den W.ads a va →
  Hd G W (aJf V r G.cf a ops es σ) (PB G Q)→G.wp (testChain pos va ops (evalEach es G.env)) Q (G.st W):=by
 intro ops
 induction ops with
 |nil=>intro es a va W σ S d h;exact h.elim
 |cons op ops ih =>
  intro es a va W σ S d h
  cases es with
  |nil=>exact h.elim
  |cons e es=>cases ops with
   |nil =>
    refine ifT_e h fun q hz=>?_
    cases es with
    |cons _ _=>cases q
    |nil=>exact test_last (R.ev S hz fun S1 p1 d1 h1=>aD2 S1 (d.mono p1) d1 h1 fun S2 p2 d2 h2=>aCp S2 d2 h2)
   |cons o2 ops =>
    refine ifT_e h fun q hz=>?_
    cases es with
    |nil=>cases q
    |cons e2 es =>
     refine test_link (R.ev S hz fun {W1 σ1 y1 v1} S1 p1 d1 h1=>?_)
     unfold aKw at h1
     rw[aC5] at h1
     refine aD2 S1 (d.mono p1) d1 h1 fun {W2 σ2 y2 v2} S2 p2 d2 h2=>aK2 S2 d2 h2 fun {W3 σ3 t} S3 p3 h3=>?_
     cases t with
     |true=>exact ih (e2::es) y1 v1 W3 σ3 S3 ((d1.mono p2).mono p3) h3
     |false=>exact h3 W3 (.refl _) S3
theorem aYo{l:PySem.Expr}{ops:List CmpOp}{rs:List PySem.Expr}{pos:Pos}(R:Snd V r)(S:Sat G W σ)(h:Hd G W (bRd V r G.cf l ops rs σ) (PB G Q)):G.wp (isTrue (.Compare l ops rs pos) G.env (eval (.Compare l ops rs pos) G.env)) Q (G.st W):=by
 cases ops with
 |nil=>exact h.elim
 |cons op ops=>cases rs with
  |nil=>exact h.elim
  |cons rr rs=>cases ops with
   |nil =>
    refine ifT_e h fun q hz=>?_
    cases rs with
    |cons _ _=>cases (aAc q).1
    |nil=>exact wpAny_isTrue_Compare1 (R.ev S hz fun S1 p1 d1 h1=>R.ev S1 h1 fun S2 p2 d2 h2=>aD2 S2 (d1.mono p2) d2 h2 fun S3 p3 d3 h3=>aCp S3 d3 h3) (aBu (aAc q).2)
   |cons o2 ops=>cases rs with
    |nil=>exact h.elim
    |cons r2 rs=>exact ifT_e h fun hm h=>isTrue_chain (R.ev S h fun S1 p1 d1 h1=>aL0 R _ _ _ _ _ _ S1 d1 h1) (aBu hm)
theorem aPa{op:BoolOp}{l:List PySem.Expr}{p:Pos}(R:Snd V r)(S:Sat G W σ)(h:Hd G W (aUj r G.cf op l p σ) (PB G Q)):G.wp (isTrue (.BoolOp op l p) G.env (eval (.BoolOp op l p) G.env)) Q (G.st W):=by
 cases op with
 |And=>cases l with
  |nil=>exact isTrue_and_nil (h W (.refl _) S)
  |cons y l=>exact isTrue_and (R.cond S h fun {W1 σ1 t} S1 p1 h1=>by
    cases t with
    |true=>exact R.b S1 h1
    |false=>exact h1 W1 (.refl _) S1)
 |Or=>cases l with
  |nil=>exact isTrue_or_nil (h W (.refl _) S)
  |cons y l=>exact isTrue_or (R.cond S h fun {W1 σ1 t} S1 p1 h1=>by
    cases t with
    |true=>exact h1 W1 (.refl _) S1
    |false=>exact R.b S1 h1)
theorem bEy{x:PySem.Expr}(R:Snd V r)(S:Sat G W σ)(h:Hd G W (evB V r G.cf x σ) (PB G Q)):G.wp (isTrue x G.env (eval x G.env)) Q (G.st W):=by
 refine aSv (C:=fun o=>Hd G W o (PB G Q)) h (fun e h=>isTrue_plain (R.ev S h fun S' p d h'=>aCp S' d h') (by cases x<;>first|rfl|cases e)) fun h=>aEz (C:=fun o=>Hd G W o (PB G Q)) h (fun q hq h=>?_) fun h=>aEz (C:=fun o=>Hd G W o (PB G Q)) h (fun q hq h=>?_) fun h=>onO_e h fun q hq h=>?_
 ·rw[bFl hq]
  exact aYo R S h
 ·rw[bOm hq]
  exact aPa R S h
 ·rw[bOh hq]
  obtain⟨op,y,p⟩:=q
  cases op with
  |Not=>exact isTrue_not (R.cond S h fun {W1 σ1 t} S1 p1 h1=>h1 W1 (.refl _) S1)
  |_=>exact h.elim
end
noncomputable def aFh(cs:Scope)(x:Str)(y:SV)(σ:St):Out Unit:=ifT (aBv cs x .local) (.p ⟨(x,y)::σ.m,σ.led,σ.orc⟩ ())
noncomputable def aS2(V:Vw)(cs:Scope)(x:Str)(y:SV)(σ:St):Out Unit:=onO (V.cells x) fun i=>onO (gN σ.led i) fun so=>match so with
 | .cell _=>ifT (aBv cs x .cell&&Nat.ble 20 cs.names.length) (.p (σ.put i (.cell (some y))) ())
 |_=>.f
noncomputable def aTw(name:Str)(y:SV):List (Str×SV)→List (Str×SV)
 | []=>[(name,y)]
 |p::r=>bif aB5 p.1 name then (p.1,y)::r else p::aTw name y r
noncomputable def bLs(o:Option SV)(n:Nat):Nat:=match o with
 |some _=>n
 |none=>n+1
noncomputable def bF3(V:Vw)(ov:SV)(name:Str)(y:SV)(σ:St):Out Unit:=onA ov fun i=>onO (gN σ.led i) fun so=>match so with
 | .inst C d=>ifT (V.ps C name) (aNl σ d fun es n=>ifT (Nat.ble es.length 900) (.p (σ.put d (.ns (aTw name y es) (bLs (aD3 name es) n))) ()))
 | .xd C d=>ifT (V.xs C name) (aNl σ d fun es n=>ifT (Nat.ble es.length 900) (.p (σ.put d (.ns (aTw name y es) (bLs (aD3 name es) n))) ()))
 | .xr C=>ifT (V.xs C name) (.p ⟨σ.m,stN σ.led i (.xd C σ.led.length)++[.ns [(name,y)] 1],σ.orc⟩ ())
 |_=>.f
noncomputable def bIw:List SV→Nat→SV→Option (List SV)
 | [],_,_=>none
 |x::r,k,v=>(match k with
  | 0=>some (v::r)
  |k+1=>(bIw r k v).map (x::·))
noncomputable def bE0(k:Int)(y:SV)(kvs:List (Int×SV)):List (Int×SV):=bif (aCt k kvs).isSome then kvs.map (fun p=>if p.1=k then (p.1,y) else p) else kvs++[(k,y)]
noncomputable def bIx(ov iv y:SV)(σ:St):Out Unit:=onA ov fun j=>onO (gN σ.led j) fun so=>match so with
 | .seq tup vs n=>onZ iv fun x=>ifT (!tup&&bt 0 x 99999) (onO (bIw vs x.toNat y) fun q=>.p (σ.put j (.seq tup q n)) ())
 | .di kvs=>onZ iv fun x=>ifT (Nat.ble kvs.length 1000) (.p (σ.put j (.di (bE0 x y kvs))) ())
 | .dv b n puts facts=>onN iv fun x _=>.g (n+puts.length≤1000) (.p (σ.put j (.dv b n ((x,y)::puts) [(x,some y)])) ())
 |_=>.f
section
variable {V:Vw} {X:Ctx V}
theorem aHd{name:Str}{y:SV}{p:Str×SV}{r:List (Str×SV)}:aTw name y (p::r)=if p.1=name then (p.1,y)::r else p::aTw name y r:=by
 show (bif aB5 p.1 name then _ else _)=_
 by_cases h:p.1=name
 ·rw[if_pos h,aCc.mpr h];rfl
 ·rw[if_neg h,aCk.mpr h];rfl
theorem aKa{ads:List Addr}{name:Str}{y:SV}{v:Value}{t:Tok}(d:Den ads y v){es:List (Str×SV)}{l:List DictEntry}(h:All2 (NsE X ads) es l):All2 (NsE X ads) (aTw name y es) (putL name (PyData.keyHash X.w.params name) (.str name t) v l):=by
 induction h with
 |nil=>exact .cons ⟨t,v,d,rfl⟩ .nil
 | @cons a b es l r hh ih =>
  obtain⟨x,z⟩:=a
  refine aGs r fun t' v' d' r1_3=>?_
  subst r1_3
  rw[aHd]
  unfold putL
  dsimp only
  by_cases e:x=name
  ·rw[if_pos e,if_pos (by show (x==name)=true;rw[e];exact beq_self_eq_true _)]
   exact .cons ⟨t',v,d,rfl⟩ hh
  ·rw[if_neg e,if_neg (by show ¬ (x==name)=true;rw[beq_iff_eq];exact e)]
   exact .cons ⟨t',v',d',rfl⟩ ih
theorem aKb{name:Str}{y:SV}:∀ {es:List (Str×SV)},(aTw name y es).length≤es.length+1
 | []=>Nat.le_refl _
 |p::r=>by
  rw[aHd]
  split
  ·exact Nat.le_succ _
  ·exact Nat.succ_le_succ aKb
end
theorem aQt{ads:List Addr}{y:SV}{v:Value}(d:Den ads y v):∀ {vs:List SV} {l:List Value} {k:Nat} {q:List SV},Dens ads vs l→bIw vs k y=some q→∃ q',ki_setL l k v=some q'∧Dens ads q q':=by
 intro vs l k q h
 induction h generalizing k q with
 |nil=>intro e;cases e
 | @cons a b vs l r hh ih =>
  intro e
  cases k with
  |zero=>cases e;exact⟨_,rfl,.cons d hh⟩
  |succ k =>
   refine aAd (Option.map_eq_some_iff.mp e) fun q2 h2 r2_2=>?_
   subst r2_2
   refine aAd (ih h2) fun q' e1 e2=>?_
   exact⟨b::q',by unfold ki_setL;rw[e1],.cons r e2⟩
theorem aPf{ads:List Addr}{k:Int}{y:SV}{v:Value}(d:Den ads y v){kvs:List (Int×SV)}{l:List (Int×Value)}(h:All2 (DiE ads) kvs l):All2 (DiE ads) (bE0 k y kvs) (stored l k v) :=
 aS3 (p:=(k,y)) (q:=(k,v)) ⟨rfl,d⟩ h
section
variable {V:Vw} {G:Gd V} {W:Wd} {σ:St} {Q:Unit→Shared→Prop} {r:Rec}
theorem MD.put{ads:List Addr}{l:List (Str×SV)}{m:Str→Option Value}{x:Str}{y:SV}{v:Value}(M:MD ads l m)(d:Den ads y v):MD ads ((x,y)::l) (fun z=>if z=x then some v else m z):=fun z w e=>by
 have e:(if x=z then some y else aD3 z l)=some w:=(aAr (p:=(x,y)) (r:=l)).symm.trans e
 by_cases q:x=z
 ·rw[if_pos q] at e;cases e;exact⟨v,if_pos q.symm,d⟩
 ·rw[if_neg q] at e;exact (M z w e).elim fun u k=>⟨u,(if_neg (Ne.symm q)).trans k.1,k.2⟩
theorem aD8{x:Str}{y:SV}{v:Value}(S:Sat G W σ)(d:Den W.ads y v)(h:Hd G W (aFh G.cf.cs x y σ) (PU G Q)):G.wp (storeName G.env x v) Q (G.st W) :=
 ifT_e h fun hk h=>storeX_L S.F S.N (fun h' F' N'=>h (W.hp (fun z=>if z=x then some v else W.m z) h' (W.t+1)) (.refl _) (S.hp _ F' (S.M.put d) N' _)) S.ok.hk (aA5 hk)
theorem aMp{x:Str}{y:SV}{v:Value}(S:Sat G W σ)(d:Den W.ads y v)(h:Hd G W (aS2 V G.cf.cs x y σ) (PU G Q)):G.wp (storeName G.env x v) Q (G.st W) :=
 onO_e h fun i hi h=>onO_e h fun so hso h=>by
  cases so with
  |cell y0 =>
   refine ifT_e h fun q h=>(S.cl (aAc q).2 x i hi).elim fun a k=>?_
   refine aDm (S.slot hso k.1) fun o h1 h2 dd=>?_
   have:∃ v0,o.data=.cell v0:=by
    cases y0 with
    |none=>exact⟨_,dd⟩
    |some y1=>exact dd.elim fun v q=>⟨_,q.2⟩
   exact this.elim fun v0 hd=>storeX_C S.F S.N k.2 (S.upd k.1 h1) hd (fun h' o' F' N' hd'=>h (W.put i o' h' W.t) (.refl _) (S.put _ F' N' ⟨v,d,hd'⟩)) S.ok.hk (aA5 (aAc q).1)
  |_=>exact h.elim
theorem bDu{ads:List Addr}{name:Str}{y:SV}{v:Value}{t:Tok}{es:List (Str×SV)}{l:List DictEntry}{n:Nat}{X:Ctx V}(d:Den ads y v)(al:All2 (NsE X ads) es l):DenO X ads (.ns (aTw name y es) (bLs (aD3 name es) n)) (dictOf (putL name (PyData.keyHash X.w.params name) (.str name t) v l) (putN name l n)):=by
 refine⟨_,aKa (t:=t) d al,?_⟩
 unfold putN
 rw[(aI2 (name:=name) al).2.1]
 cases aD3 name es<;>rfl
theorem aOo{ads:List Addr}{name:Str}{es:List (Str×SV)}{l:List DictEntry}{X:Ctx V}(al:All2 (NsE X ads) es l):(getL name l).isSome=true:=by
 cases e:aD3 name es with
 |none=>rw[aEk al e];rfl
 |some y=>exact (aH0 al e).elim fun v q=>by rw[q.1];rfl
theorem aTv{ads:List Addr}{name:Str}{y:SV}{v:Value}{t:Tok}{es:List (Str×SV)}{l:List DictEntry}{X:Ctx V}(d:Den ads y v)(al:All2 (NsE X ads) es l)(h:Nat.ble es.length 900=true):(putL name (PyData.keyHash X.w.params name) (.str name t) v l).length≤1000:=by
 rw[← (aKa (t:=t) d al).len]
 have:=aKb (name:=name) (y:=y) (es:=es)
 have:=Nat.le_of_ble_eq_true h
 omega
theorem aIt{ov y:SV}{vo v:Value}{name:Str}(S:Sat G W σ)(do_:Den W.ads ov vo)(d:Den W.ads y v)(h:Hd G W (bF3 V ov name y σ) (PU G Q)):G.wp (setAttr vo name v) Q (G.st W) :=
 aDn h do_ fun i x hx h=>aHg h S hx fun so o ho hm dd h=>by
  cases so with
  |inst C dn =>
   refine aAd dd fun dx hdx r5_2=>?_
   subst r5_2
   exact ifT_e h fun q h=>aNk h S hdx fun es n l ho2 hm2 al h=>ifT_e h fun q2 h =>
    let k:=G.X.vo.ps q
    set_dict S.F S.ok.K S.N (InstAt.of_news S.N hm hm2) rfl k.1 k.2.1 k.2.2.1 k.2.2.2 (aOo al) rfl (aFz S.nd hdx ho2) (aTv d al q2) fun h' F' N'=>h (W.put dn _ h' (W.t+2)) (.refl _) (S.put _ F' N' (bDu d al))
  |xd C dn =>
   refine aGs dd fun dx t hdx r6_3=>?_
   subst r6_3
   exact ifT_e h fun q h=>aNk h S hdx fun es n l ho2 hm2 al h=>ifT_e h fun q2 h =>
    let k:=G.X.vo.xs q
    aMr S.F S.ok.K S.N hm hm2 k.1 k.2.1 k.2.2.1 k.2.2.2 (aOo al) rfl (aFz S.nd hdx ho2) (aTv d al q2) fun h' F' N'=>h (W.put dn _ h' (W.t+2)) (.refl _) (S.put _ F' N' (bDu d al))
  |xr C =>
   refine aA6 dd fun t r7_1=>?_
   subst r7_1
   refine ifT_e h fun q h=>?_
   refine aDm (aDx S.nd hx ho) fun rest h1 h2 h3=>?_
   have k:=G.X.vo.xs q
   refine aK5 S.F S.ok.K S.N h1 h2 k.1 k.2.1 k.2.2.1 k.2.2.2 fun D h' F' N' lt=>?_
   have N2:=News.swap N'
   exact h ⟨W.ads++[D],stN W.objs i (exO C D (vsX t))++[_],W.m,h',W.t+2⟩ (.snoc _ _) (S.putNew _ (h3 _) F' N2 lt ⟨D,t,by rw[S.O.len,← S.len];exact aBg,rfl⟩ ⟨_,.cons ⟨_,v,d.mono (.snoc _ _),rfl⟩ .nil,rfl⟩)
  |_=>exact h.elim
theorem aMs{ov iv y:SV}{vo vi v:Value}(S:Sat G W σ)(do_:Den W.ads ov vo)(di:Den W.ads iv vi)(d:Den W.ads y v)(h:Hd G W (bIx ov iv y σ) (PU G Q)):G.wp (setItem vo vi v) Q (G.st W) :=
 aDn h do_ fun j x hx h=>aHg h S hx fun so o ho hm dd h=>by
  cases so with
  |seq tup vs n =>
   refine aAd dd fun l al r9_2=>?_
   subst r9_2
   refine aNj h di fun z t h=>ifT_e h fun q h=>onO_e h fun q2 hq2 hz=>?_
   cases aBu (aAc q).1
   have b:=aGv (aAc q).2
   exact (aQt d al hq2).elim fun q' e=>ki_set S.F S.N b.1 (by omega) (by simpa using e.1) (aFz S.nd hx ho) fun h' F' N'=>hz (W.put j _ h' W.t) (.refl _) (S.put _ F' N' ⟨q',e.2,rfl⟩)
  |di kvs =>
   refine aAd dd fun l al hdo=>?_
   exact aNj h di fun z t h=>ifT_e h fun q h=>kda_set (knd:=intKind G.X.prog G.X.w) S.F S.N (S.upd hx ho) hdo (intKind_is _ _ _ _) (by have:=Nat.le_of_ble_eq_true q;rw[al.len] at this;rw[sizeLine_eq];omega) fun h' o' F' N' hd'=>h (W.put j o' h' (W.t+1)) (.refl _) (S.put _ F' N' ⟨_,aPf d al,hd'⟩)
  |dv b n puts facts =>
   refine aPd dd fun l0 l hj0 hl0 hp hf hdo=>?_
   exact aEf h di fun z lz t h=>kda_set (knd:=intKind G.X.prog G.X.w) S.F S.N (S.upd hx ho) hdo (intKind_is _ _ _ _) (by have:=aDw hp hl0;have:=h.1;rw[sizeLine_eq];omega) fun h' o' F' N' hd' =>
    h.2 (W.put j o' h' (W.t+1)) (.refl _) (S.put _ F' N' ⟨l0,_,hj0,hl0,.cons hp d,fun f hf=>List.mem_singleton.mp hf▸⟨v,aD7,d⟩,hd'⟩)
  |_=>exact h.elim
end
noncomputable def aJx(V:Vw)(cf:Cf)(x:Str)(σ:St)(y:SV):Out Unit:=match aBv cf.cs x .cell with
 |true=>aS2 V cf.cs x y σ
 |false=>aFh cf.cs x y σ
noncomputable def aPq(V:Vw)(r:Rec)(cf:Cf)(t:PySem.Expr)(y:SV)(σ:St):Out Unit:=alt (asN t) (fun q=>aJx V cf q.1 σ y) (alt (asA t) (fun q=>bd (r.e cf q.1 σ) fun σ1 ov=>bF3 V ov q.2.1 y σ1) (onO (asU t) fun q=>bd (r.e cf q.1 σ) fun σ1 ov=>bd (r.e cf q.2.1 σ1) fun σ2 iv=>bIx ov iv y σ2))
noncomputable def aJp(V:Vw)(r:Rec)(cf:Cf):List PySem.Expr→List SV→St→Out Unit
 | [],ys,σ=>(match ys with
  | []=>.p σ ()
  |_::_=>.f)
 |t::ts,ys,σ=>(match ys with
  | []=>.f
  |y::ys=>ifT (notStar t) (bd (aPq V r cf t y σ) fun σ1 _=>aJp V r cf ts ys σ1))
noncomputable def aJo(cf:Cf):List Str→List SV→St→Out Unit
 | [],ys,σ=>(match ys with
  | []=>.p σ ()
  |_::_=>.f)
 |x::xs,ys,σ=>(match ys with
  | []=>.f
  |y::ys=>bd (aFh cf.cs x y σ) fun σ1 _=>aJo cf xs ys σ1)
noncomputable def bAo:SO→Option (Option Nat)
 | .ex _ _ c=>some c
 |_=>none
noncomputable def aGu(σ:St):Option Nat→Bool
 |none=>true
 |some j=>(match (gN σ.led j).bind bAo with
  |some c=>(match c with
   |none=>true
   |some i=>(match (gN σ.led i).bind bAo with
    |some c=>c.isNone&&!(Nat.beq i j)
    |none=>false))
  |none=>false)
noncomputable def bIl(V:Vw)(r:Rec)(cf:Cf)(elts:List PySem.Expr)(σ:St)(y:SV):Out Unit:=onA y fun i=>onSeq σ i fun tup vs _=>ifT tup (ifT (Nat.beq vs.length elts.length) (ifT (elts.all notStar) (ifT (aGu σ cf.hd) (aJp V r cf elts vs σ))))
noncomputable def swp(cf:Cf)(names:List Str)(σ:St)(y:SV):Out Unit:=onA y fun i=>onSeq σ i fun tup vs _=>ifT tup (ifT (Nat.beq vs.length names.length) (ifT cf.hd.isNone (aJo cf names.reverse vs.reverse σ)))
noncomputable def bOp(old:SV)(y:SV)(k:SV→Out Unit):Out Unit:=onN old fun x lx=>onN y fun z lz=>k (mkI (lx&&lz) (x+z))
noncomputable def aEi(e:PySem.Expr):Bool:=!aRq e.ctorIdx [8,9,10]
noncomputable def aYt(cs:Scope):Env:=envX "" cs 0 0 .none []
noncomputable def aJd(r:Rec)(cf:Cf)(t:PySem.Expr)(b:List Stmt):Nat→St→Out Flw
 | 0,_=>.f
 |n+1,σ=>bd (r.b cf t σ) fun σ1 q=>match q with
  |true=>bn (r.bk cf b σ1) fun σ2=>aJd r cf t b n σ2
  |false=>.p σ1 .n
noncomputable def fin(o:Out Unit):Out Flw:=bd o fun σ _=>.p σ .n
noncomputable def asg(V:Vw)(r:Rec)(cf:Cf)(t:PySem.Expr)(v:PySem.Expr)(σ:St):Out Unit:=alt (asT t) (fun q=>onO (pureOf (swappedStores [.Tuple q.1 q.2.1 q.2.2] v (aYt cf.cs))) fun o=>alt o (fun names=>bd (r.e cf v σ) (swp cf names)) (bd (r.e cf v σ) (bIl V r cf q.1)))
 (alt (asN t) (fun q=>bd (r.e cf v σ) (aJx V cf q.1)) (alt (asA t) (fun q=>bd (r.e cf v σ) fun σ1 y=>bd (r.e cf q.1 σ1) fun σ2 ov=>bF3 V ov q.2.1 y σ2) (onO (asU t) fun q=>bd (r.e cf v σ) fun σ1 y=>bd (r.e cf q.1 σ1) fun σ2 ov=>bd (r.e cf q.2.1 σ2) fun σ3 iv=>bIx ov iv y σ3)))
noncomputable def aug(V:Vw)(r:Rec)(cf:Cf)(t:PySem.Expr)(v:PySem.Expr)(σ:St):Out Unit:=alt (asN t) (fun q=>ifT (aBv cf.cs q.1 .local) (onO (aD3 q.1 σ.m) fun old=>bd (r.e cf v σ) fun σ1 y=>bOp old y fun z=>aFh cf.cs q.1 z σ1)) (onO (asA t) fun q=>bd (r.e cf q.1 σ) fun σ1 ov=>bd (aZl V ov q.2.1 σ1) fun σ2 old=>bd (r.e cf v σ2) fun σ3 y=>bOp old y fun z=>bF3 V ov q.2.1 z σ3)
noncomputable def bNc(r:Rec)(cf:Cf)(e:Option PySem.Expr)(σ:St):Out Flw:=match e with
 |some e=>bd (r.e cf e σ) fun σ1 y=>.p σ1 (.r y)
 |none=>.p σ (.r (.k .none))
noncomputable def exB(r:Rec)(cf:Cf)(l:List Stmt)(σ:St):Out Flw:=match l with
 | []=>.p σ .n
 |st::rest=>bn (r.st cf st σ) fun σ1=>r.bk cf rest σ1
section
variable {V:Vw} {G:Gd V} {W:Wd} {σ:St} {r:Rec}
theorem aG5{x:Str}{y:SV}{v:Value}{Q:Unit→Shared→Prop}(S:Sat G W σ)(d:Den W.ads y v)(h:Hd G W (aJx V G.cf x σ y) (PU G Q)):G.wp (storeName G.env x v) Q (G.st W):=by
 unfold aJx at h
 cases e:aBv G.cf.cs x .cell with
 |true=>simp only[e] at h;exact aMp S d h
 |false=>simp only[e] at h;exact aD8 S d h
theorem aL7{t:PySem.Expr}{y:SV}{v:Value}{Q:Unit→Shared→Prop}(R:Snd V r)(S:Sat G W σ)(d:Den W.ads y v)(h:Hd G W (aPq V r G.cf t y σ) (PU G Q)):G.wp (assign t G.env v) Q (G.st W):=by
 refine aEz (C:=fun o=>Hd G W o (PU G Q)) h (fun q hq h=>?_) fun h=>aEz (C:=fun o=>Hd G W o (PU G Q)) h (fun q hq h=>?_) fun h=>onO_e h fun q hq h=>?_
 ·rw[aDh hq];exact assign_Name (aG5 S d h)
 ·rw[aL8 hq];exact kas_attr (R.ev S h fun S1 p1 d1 h1=>aIt S1 d1 (d.mono p1) h1)
 ·rw[bFi hq];exact kas_sub (R.ev S h fun S1 p1 d1 h1=>R.ev S1 h1 fun S2 p2 d2 h2=>aMs S2 (d1.mono p2) d2 ((d.mono p1).mono p2) h2)
theorem aCn{t:PySem.Expr}{ts:List PySem.Expr}{env:Env}(h:notStar t=true):assignEach (t::ts) env=(false,assign t env)::assignEach ts env:=by cases t<;>first|rfl|cases h
theorem aL6{Q:Unit→Shared→Prop}(R:Snd V r):∀ (ts:List PySem.Expr) (ys:List SV) (vs:List Value) (W:Wd) (σ:St),Sat G W σ→Dens W.ads ys vs→Hd G W (aJp V r G.cf ts ys σ) (PU G Q)→G.wp (assignInOrder ((assignEach ts G.env).map (·.2)) vs) Q (G.st W):=by
 intro ts
 induction ts with
 |nil=>intro ys vs W σ S a h;cases a with
  |nil=>exact assignInOrder_nil (h W (.refl _) S)
  |cons _ _=>exact h.elim
 |cons t ts ih=>intro ys vs W σ S a h;cases a with
  |nil=>exact h.elim
  | @cons y v ys vs d a =>
   refine ifT_e h fun hst h=>?_
   rw[aCn hst]
   exact assignInOrder_cons (aL7 R S d (h.to (Ψ:=PU G _) fun {W1 σ1 _} S1 p1 h1=>ih _ _ W1 σ1 S1 (Dens.mono p1 a) h1))
theorem aL5{Q:Unit→Shared→Prop}:∀ (xs:List Str) (ys:List SV) (vs:List Value) (W:Wd) (σ:St),Sat G W σ→Dens W.ads ys vs→Hd G W (aJo G.cf xs ys σ) (PU G Q)→G.wp (assignInOrder (xs.map fun n=>bindName G.env n) vs) Q (G.st W):=by
 intro xs
 induction xs with
 |nil=>intro ys vs W σ S a h;cases a with
  |nil=>exact assignInOrder_nil (h W (.refl _) S)
  |cons _ _=>exact h.elim
 |cons x xs ih=>intro ys vs W σ S a h;cases a with
  |nil=>exact h.elim
  | @cons y v ys vs d a=>exact assignInOrder_cons (bindName_ (aD8 S d (h.to (Ψ:=PU G _) fun {W1 σ1 _} S1 p1 h1=>ih _ _ W1 σ1 S1 (Dens.mono p1 a) h1)))
theorem aO4{i:Nat}{a:Addr}{c:Option Nat}(S:Sat G W σ)(ha:gN W.ads i=some a)(h:(gN σ.led i).bind bAo=some c):∃ C d vs a0,W.h.get? a=some (exO C d vs)∧vs[2]?=some a0∧CtxR W.ads c a0:=by
 refine aAd (Option.bind_eq_some_iff.mp h) fun so h1 h2=>?_
 cases so with
 |ex C d ctx=>cases h2;obtain⟨o,k1,k2,dx,vs,a0,k3,rfl,k4,k5⟩:=S.slot h1 ha;exact⟨C,dx,vs,a0,(S.N _ k2).1,k4,k5⟩
 |_=>exact nn h2
theorem aJk{e1:Addr}{j:Nat}(S:Sat G W σ)(he:gN W.ads j=some e1)(h:aGu σ (some j)=true):CtxOk W.h e1 []:=by
 unfold aGu at h
 cases e:(gN σ.led j).bind bAo with
 |none=>simp only[e] at h;cases h
 |some c =>
  simp only[e] at h
  refine bNj (aO4 S he e) fun C d vs a0 k1 k2 k3=>?_
  cases c with
  |none=>exact⟨C,d,vs,k1,List.not_mem_nil,.inl (k2.trans (congrArg some k3))⟩
  |some i =>
   refine aAd k3 fun a ha r2_2=>?_
   subst r2_2
   cases e2:(gN σ.led i).bind bAo with
   |none=>simp only[e2] at h;cases h
   |some c2 =>
    simp only[e2] at h
    refine bNj (aO4 S ha e2) fun C2 d2 vs2 a2 q1 q2 q3=>?_
    rw[Option.isNone_iff_eq_none.mp (aAc h).1] at q3
    exact⟨C,d,vs,k1,List.not_mem_nil,.inr ⟨a,C2,d2,vs2,k2,q1,List.not_mem_nil,fun z=>Nat.ne_of_beq_eq_false (aBu (aAc h).2) (aC4 S.nd ha (z▸he)),q2.trans (congrArg some q3)⟩⟩
theorem aSj{ts:List PySem.Expr}{env:Env}(q:ts.all notStar=true):(assignEach ts env).length=ts.length∧(assignEach ts env).findIdx? (·.1)=none:=by
 induction ts with
 |nil=>exact⟨rfl,rfl⟩
 |cons t ts ih =>
  have q:=aAc (show (notStar t&&ts.all notStar)=true by rwa [← List.all_cons])
  rw[aCn q.1]
  refine aBa (ih q.2) fun e1 e2=>?_
  exact⟨congrArg Nat.succ e1,by rw[List.findIdx?_cons,e2];rfl⟩
theorem aMi{elts:List PySem.Expr}{kk:Nat}{pos:Pos}{y:SV}{v:Value}{Q:Unit→Shared→Prop}(R:Snd V r)(S:Sat G W σ)(d:Den W.ads y v)(h:Hd G W (bIl V r G.cf elts σ y) (PU G Q)):G.wp (assign (.Tuple elts kk pos) G.env v) Q (G.st W) :=
 aDn h d fun i x hx h=>aCd h S hx fun tup vs n l _ hm al h=>ifT_e h fun ht h=>ifT_e h fun hl h=>ifT_e h fun hst h=>ifT_e h fun hc hz=>by
  cases ht
  have hl:=Nat.eq_of_beq_eq_true hl
  refine aBa (aSj (env:=G.env) hst) fun e1 e2=>?_
  have ht:=News.isTup S.N hm
  have k:∀ h',Fr G.g G.L h' W.m→News G.g G.L h' W.l→G.wp (assignInOrder ((assignEach elts G.env).map (·.2)) l) Q (G.st (W.hp W.m h' W.t)):=fun h' F' N' =>
   aL6 R elts vs _ (W.hp W.m h' W.t) σ (S.hp _ F' S.M N' _) al hz.w
  have hh:=S.hd
  cases q:G.cf.hd with
  |none =>
   rw[q] at hh
   exact unpackN_ S.F S.N ht hh (by rw[e1,← hl,al.len];rfl) e2 k
  |some j =>
   rw[q] at hh hc
   refine aAd hh fun e he hA=>?_
   rw[assign_Tuple]
   refine wpAny_bind (wpAny_standAt ?_)
   unfold unpack
   rw[e1,e2,← hl,al.len]
   have hsz:l.length=l.toArray.size:=rfl
   rw[hsz]
   exact wpAny_bind (wpAny_holding (aRo hA (aJk S he hc) ht fun h' he'=>k h' (S.F.extBut he' (Nat.le_refl _)) (S.N.extBut he' (Nat.le_refl _))))
theorem nc{value:PySem.Expr}{t:Option PySem.Expr}{l:Nat}{env:Env}(h:aEi value=true):swapsWith value t l env=pure false:=by
 cases value<;>first|rfl|cases h
theorem aH4{o:Out Unit}{Q:Flow→Shared→Prop}(h:Hd G W (fin o) (PF G Q)):Hd G W o (PU G fun _ s=>Q .next s) :=
 Hd.to (k:=fun σ _=>Out.p σ Flw.n) (Φ:=PF G Q) (Ψ:=PU G fun _ s=>Q .next s) (fun {W1 _ _} S p h=>h W1 (.refl _) S) h
theorem bA1{names:List Str}{y:SV}{v:Value}{Q:Flow→Shared→Prop}(S:Sat G W σ)(d:Den W.ads y v)(h:Hd G W (fin (swp G.cf names σ y)) (PF G Q)) :
  G.wp (unpackItems v names.length none) (fun items s₂=>G.wp (assignInOrder (names.reverse.map fun n=>bindName G.env n) items.reverse) (fun _=>Q .next) s₂) (G.st W) :=
 aDn (aH4 h) d fun i x hx h=>aCd h S hx fun tup vs n l _ hm al h=>ifT_e h fun ht h=>ifT_e h fun hl h=>ifT_e h fun hn hz=>by
  cases ht
  have hh:=S.hd
  rw[Option.isNone_iff_eq_none.mp hn] at hh
  exact unpackItemsN_ S.F S.N (News.isTup S.N hm) hh (by rw[← Nat.eq_of_beq_eq_true hl,al.len];rfl) fun h' F' N'=>aL5 _ vs.reverse _ (W.hp W.m h' W.t) σ (S.hp _ F' S.M N' _) al.rev hz.w
theorem bAt{t:PySem.Expr}{b:List Stmt}{Q:Flow→Shared→Prop}(R:Snd V r)(hP:PassesOwn G.M G.A G.env G.E):∀ (n:Nat) (W:Wd) (σ:St),Sat G W σ→Hd G W (aJd r G.cf t b n σ) (PF G Q)→WhlRest G.X.prog G.X.w G.A G.E G.env t b [] Q n (G.st W):=by
 intro n
 induction n with
 |zero=>intro W σ S h;exact h.elim
 |succ n ih =>
  intro W σ S h
  refine whl_turn hP (R.cond S h fun {W1 σ1 q} S1 p1 h1=>?_)
  cases q with
  |false=>exact WhlIf.no rfl (wpAny_execs_nil (h1 W1 (.refl _) S1))
  |true=>exact WhlIf.yes rfl (R.bk S1 (bE9 h1 (fun W2 σ2 S2 p2 h2=>ih W2 σ2 S2 h2) fun _ _ q=>q))
theorem bEm{l:List Stmt}{Q:Flow→Shared→Prop}(R:Snd V r)(S:Sat G W σ)(h:Hd G W (exB r G.cf l σ) (PF G Q)):G.wp (execs l G.env) Q (G.st W):=by
 cases l with
 |nil=>exact wpAny_execs_nil (h W (.refl _) S)
 |cons st l=>exact wpAny_execs_cons (R.st S (bE9 h (fun W2 σ2 S2 p2 h2=>R.bk S2 h2) fun _ _ q=>q))
theorem Snd.evf(R:Snd V r)(S:Sat G W σ){x:PySem.Expr}{k:St→SV→Out Unit}{P:Value→Shared→Prop}{Φ:Wd→St→Flw→Prop}(h:Hd G W (fin (bd (r.e G.cf x σ) k)) Φ)
  (g:∀ {W' σ' y v},Sat G W' σ'→Pre W.ads W'.ads→Den W'.ads y v→Hd G W' (fin (k σ' y)) Φ→P v (G.st W')):G.wp (eval x G.env) P (G.st W):=by
 unfold fin at h
 rw[aC5] at h
 exact R.ev S h g
theorem aJc{γ:Type}{x:Option γ}{k:γ→Out Unit}{Q:Flow→Shared→Prop}{P:Prop}(h:Hd G W (fin (onO x k)) (PF G Q))(g:∀ y,x=some y→Hd G W (fin (k y)) (PF G Q)→P):P:=by
 cases x with
 |none=>exact h.elim
 |some y=>exact g y rfl h
theorem bFh{t v:PySem.Expr}{pos:Pos}{Q:Flow→Shared→Prop}(hn:aEi v=true)(R:Snd V r)(S:Sat G W σ)(h:Hd G W (fin (asg V r G.cf t v σ)) (PF G Q)):G.wp (exec (.Assign [t] v pos) G.env) Q (G.st W):=by
 refine aEz (C:=fun o=>Hd G W (fin o) (PF G Q)) h (fun q hq h=>?_) fun h=>aEz (C:=fun o=>Hd G W (fin o) (PF G Q)) h (fun q hq h=>?_) fun h=>aEz (C:=fun o=>Hd G W (fin o) (PF G Q)) h (fun q hq h=>?_) fun h=>aJc h fun q hq h=>?_
 ·rw[bFj hq]
  have hs:swapsWithSole [.Tuple q.1 q.2.1 q.2.2] v pos.line G.env=pure false:=by unfold swapsWithSole;exact nc hn
  refine aJc h fun o e h=>?_
  cases o with
  |none=>exact Assign_Tuple (R.evf S h fun S1 p1 d1 h1=>aMi R S1 d1 (aH4 h1)) hs (of_pureOf e)
  |some names=>exact Assign_Tuple_swapped (R.evf S h fun S1 p1 d1 h1=>bA1 S1 d1 h1) hs (of_pureOf e)
 ·rw[aDh hq];exact wpAny_Assign_Name (R.evf S h fun S1 p1 d1 h1=>aG5 S1 d1 (aH4 h1)) (nc hn)
 ·rw[aL8 hq];exact plainObj_wpAny_Assign_Attribute (R.evf S h fun S1 p1 d1 h1=>R.evf S1 h1 fun S2 p2 d2 h2=>aIt S2 d2 (d1.mono p2) (aH4 h2)) (nc hn)
 ·rw[bFi hq];exact wpAny_Assign_Subscript (R.evf S h fun S1 p1 d1 h1=>R.evf S1 h1 fun S2 p2 d2 h2=>R.evf S2 h2 fun S3 p3 d3 h3=>aMs S3 (d2.mono p3) d3 ((d1.mono p2).mono p3) (aH4 h3)) (nc hn)
theorem aZq{old y:SV}{vo v:Value}{k:SV→Out Unit}{Q:Flow→Shared→Prop}{P:Value→Shared→Prop}(S:Sat G W σ)(d0:Den W.ads old vo)(d:Den W.ads y v)(h:Hd G W (fin (bOp old y k)) (PF G Q))(g:∀ {z u t},Den W.ads z u→Hd G W (k z) (PU G fun _ s=>Q .next s)→P u (G.st (W.tok t))):G.wp (inplaceOp .Add vo v) P (G.st W) :=
 aEf (aH4 h) d0 fun x lx t h=>aEf h d fun z lz u h=>iadd_int (g (t:=W.t+1) aEu h)
theorem aRh{x:Str}{y:SV}{Q:Value→Shared→Prop}(S:Sat G W σ)(hk:aBv G.cf.cs x .local=true)(hy:aD3 x σ.m=some y)(h:∀ v,Den W.ads y v→Q v (G.st W)):G.wp (loadName G.env x) Q (G.st W) :=
 (S.M _ _ hy).elim fun v q=>wpAny_loadName_local S.ok.hk (aA5 hk) S.F.ns q.1 (h v q.2)
theorem bEh{α:Type}{o:Out α}{k:St→α→Out Unit}:fin (bd o k)=bd o fun σ a=>fin (k σ a):=aC5
theorem bFf{t v:PySem.Expr}{pos:Pos}{Q:Flow→Shared→Prop}(R:Snd V r)(S:Sat G W σ)(h:Hd G W (fin (aug V r G.cf t v σ)) (PF G Q)):G.wp (exec (.AugAssign t .Add v pos) G.env) Q (G.st W):=by
 refine aEz (C:=fun o=>Hd G W (fin o) (PF G Q)) h (fun q hq h=>?_) fun h=>aJc h fun q hq h=>?_
 ·rw[aDh hq]
  refine ifT_e (aH4 h) fun hk h1=>onO_e h1 fun old ho h1=>?_
  refine wpAny_AugAssign_Name (aRh S hk ho fun vo d0=>R.ev S h1 fun S1 p1 d1 h1=>aEf h1 (d0.mono p1) fun x lx t h=>aEf h d1 fun z lz u h=>iadd_int (aD8 (S1.tok _) aEu h.w))
 ·rw[aL8 hq]
  refine wpAny_AugAssign_AttributeAny (R.evf S h fun {W1 σ1 y1 v1} S1 p1 d1 h1=>?_)
  rw[bEh] at h1
  exact aKy S1 d1 (h1.to fun S2 p2 h2 v2 d2=>R.evf S2 h2 fun S3 p3 d3 h3=>aZq S3 (d2.mono p3) d3 h3 fun dz h=>aIt (S3.tok _) ((d1.mono p2).mono p3) dz h.w)
end
noncomputable def aL4{α:Type}(ns:List Str)(D:List α):List α:=D.drop (D.length-ns.length)
noncomputable def aL3{α:Type}(ns:List Str)(vs D:List α):List (Str×α) :=
 (((ns.drop (ns.length-(aL4 ns D).length)).zip (aL4 ns D)).foldl (fun sl p=>if (sl.lookup p.1).isNone then sl++[(p.1,p.2)] else sl) (ns.zip vs))
noncomputable def aDr{α:Type}(ns:List Str)(vs D:List α):List (Str×α):=ns.filterMap fun n=>((aL3 ns vs D).lookup n).map (n,·)
noncomputable def bindM{α:Type}(ns:List Str)(vs D:List α):List Str:=(ns.take (ns.length-(aL4 ns D).length)).filter fun n=>((ns.zip vs).lookup n).isNone
theorem aEp{α β:Type}{f:α→β→Sem (ForInStep β)}{g:β→α→β}(hf:∀ a b,f a b=pure (.yield (g b a))):∀ (l:List α) (b:β),forIn l b f=pure (l.foldl g b)
 | [],b=>by rw[List.forIn_nil];rfl
 |a::l,b=>by
  rw[List.forIn_cons,hf]
  exact aEp hf l (g b a)
theorem aL2{fd:FuncData}{as:List PySem.Arg}{kd:List (Option PySem.Expr)}{ds:List PySem.Expr}{vs:List Value}{M:Model}{A:Around}{E:Value→Shared→Prop}{s:Shared}{Q:List (Str×Value)→Shared→Prop}{D:List Value}
 (hp:fd.params=⟨[],as,none,[],kd,none,ds⟩) (hl:vs.length≤as.length) (hm:bindM (as.map (·.arg)) vs D=[])
 (hd:∀ k:Option (Array Value)→Sem (List (Str×Value)),((∀ x,x=none∨x=some D.toArray→(x.getD #[]).toList=D→wpAny M A (k x) Q E s)→wpAny M A (seqItems? fd.defaults >>= k) Q E s))
 (h:Q (aDr (as.map (·.arg)) vs D) s):wpAny M A (bindArgs fd ⟨vs,[]⟩) Q E s:=by
 unfold bindArgs
 rw[hp]
 simp only[List.map_nil,List.nil_append]
 refine hd _ fun x _ hx=>?_
 rw[hx]
 have c1:(decide (vs.length>(as.map (·.arg)).length)&&(none:Option PySem.Arg).isNone)=false:=by simp;lia
 rw[if_neg (by rw[c1];decide)]
 have c2:(!(bindM (as.map (·.arg)) vs D).isEmpty)=false:=by rw[hm];rfl
 rw[if_neg (by show ¬ (!(bindM (as.map (·.arg)) vs D).isEmpty)=true;rw[c2];decide)]
 rw[aEp (g:=fun sl p=>if (sl.lookup p.1).isNone then sl++[(p.1,p.2)] else sl) (fun a b=>by by_cases q:(List.lookup a.1 b).isNone=true<;>simp only[q,if_true,if_false,Bool.false_eq_true])]
 refine wpAny_bind (wpAny_pure ?_)
 rw[List.forIn_nil]
 refine wpAny_bind (wpAny_pure ?_)
 rw[if_neg (by simp)]
 rw[List.append_nil]
 exact wpAny_pure h
section
variable {α β:Type} {R:α→β→Prop}
noncomputable def PRl(R:α→β→Prop)(a:Str×α)(b:Str×β):Prop:=a.1=b.1∧R a.2 b.2
theorem aFx:∀ {ns:List Str} {vs:List α} {ws:List β},All2 R vs ws→All2 (PRl R) (ns.zip vs) (ns.zip ws)
 | [],_,_,_=>.nil
 |_::_,_,_,.nil=>.nil
 |_::_,_,_,.cons r h=>.cons ⟨rfl,r⟩ (aFx h)
theorem aDb{n:Str}{l:List (Str×α)}{m:List (Str×β)}(h:All2 (PRl R) l m):match l.lookup n with
  |none=>m.lookup n=none
  |some a=>∃ b,m.lookup n=some b∧R a b:=by
 induction h with
 |nil=>rfl
 | @cons a b l m r _ ih =>
  obtain⟨x,a⟩:=a
  obtain⟨y,b⟩:=b
  obtain⟨e,r⟩:=r
  dsimp only at e r
  subst e
  rw[List.lookup_cons,List.lookup_cons]
  cases q:n==x with
  |true=>exact⟨_,rfl,r⟩
  |false=>exact ih
theorem lookup_none{n:Str}{l:List (Str×α)}{m:List (Str×β)}(h:All2 (PRl R) l m):(l.lookup n).isNone=(m.lookup n).isNone:=by
 have:=aDb (n:=n) h
 cases q:l.lookup n with
 |none=>rw[q] at this;rw[this];rfl
 |some a=>rw[q] at this;obtain⟨b,e,_⟩:=this;rw[e];rfl
theorem aKt:∀ {k:Nat} {l:List α} {m:List β},All2 R l m→All2 R (l.drop k) (m.drop k)
 | 0,_,_,h=>h
 |_+1,_,_,.nil=>.nil
 |k+1,_::l,_::m,.cons _ h=>by rw[List.drop_succ_cons,List.drop_succ_cons];exact aKt (k:=k) h
theorem aOt{l:List (Str×α)}{m:List (Str×β)}(q:All2 (PRl R) l m):∀ {a:List (Str×α)} {b:List (Str×β)},All2 (PRl R) a b →
  All2 (PRl R) (l.foldl (fun sl p=>if (sl.lookup p.1).isNone then sl++[(p.1,p.2)] else sl) a) (m.foldl (fun sl p=>if (sl.lookup p.1).isNone then sl++[(p.1,p.2)] else sl) b):=by
 induction q with
 |nil=>exact fun h=>h
 |cons r t ih =>
  intro a b h
  refine ih ?_
  show All2 (PRl R) (if _ then _ else _) (if _ then _ else _)
  rw[← r.1,lookup_none h]
  split
  ·exact h.snoc ⟨rfl,r.2⟩
  ·exact h
theorem aEx{ns:List Str}{D:List α}{D':List β}(d:All2 R D D'):All2 R (aL4 ns D) (aL4 ns D'):=by
 unfold aL4;rw[d.len];exact aKt d
theorem aPm{ns:List Str}{vs D:List α}{ws D':List β}(h:All2 R vs ws)(d:All2 R D D'):All2 (PRl R) (aL3 ns vs D) (aL3 ns ws D'):=by
 unfold aL3
 rw[(aEx (ns:=ns) d).len]
 exact aOt (aFx (aEx d)) (aFx h)
theorem aPo{ns:List Str}{vs D:List α}{ws D':List β}(h:All2 R vs ws)(d:All2 R D D'):All2 (PRl R) (aDr ns vs D) (aDr ns ws D'):=by
 unfold aDr
 have hS:=aPm (ns:=ns) h d
 generalize aL3 ns vs D=S at hS
 generalize aL3 ns ws D'=S' at hS
 induction ns with
 |nil=>exact .nil
 |cons n ns ih =>
  rw[List.filterMap_cons,List.filterMap_cons]
  have:=aDb (n:=n) hS
  cases q:S.lookup n with
  |none=>rw[q] at this;rw[this];exact ih
  |some a=>rw[q] at this;obtain⟨b,e,r⟩:=this;rw[e];exact .cons ⟨rfl,r⟩ ih
theorem aPn{ns:List Str}{vs D:List α}{ws D':List β}(h:All2 R vs ws)(d:All2 R D D'):bindM ns vs D=bindM ns ws D':=by
 unfold bindM
 rw[(aEx (ns:=ns) d).len]
 congr 1
 funext n
 rw[lookup_none (aFx h)]
end
theorem aJn{ads:List Addr}{l:List (Str×SV)}{m:List (Str×Value)}(h:All2 (PRl (Den ads)) l m):MD ads l (fun y=>m.lookup y):=fun x y e=>by
 have:=aDb (n:=x) h
 rw[← aFn,show lkS x l=some y from e] at this
 exact this
noncomputable def aF8(p:Arguments):Option (List PySem.Arg):=match p.posonlyargs with
 | []=>(match p.vararg with
  |none=>(match p.kwonlyargs with
   | []=>(match p.kwarg with
    |none=>some p.args
    |some _=>none)
   |_::_=>none)
  |some _=>none)
 |_::_=>none
theorem aI0{p:Arguments}{as:List PySem.Arg}(h:aF8 p=some as):p=⟨[],as,none,[],p.kw_defaults,none,p.defaults⟩:=by
 obtain⟨a,b,c,d,e,f,g⟩:=p
 unfold aF8 at h
 cases a with
 |cons _ _=>cases h
 |nil=>cases c with
  |some _=>cases h
  |none=>cases d with
   |cons _ _=>cases h
   |nil=>cases f with
    |some _=>cases h
    |none=>cases h;rfl
noncomputable def bE1(V:Vw):Value→Option (List Value)
 | .none=>some []
 | .ref T=>V.tp T
 |_=>none
noncomputable def fnD(V:Vw)(f:Addr):Option FuncData:=(lkN f V.O).bind fun o=>match o.data with
 | .func fd=>some fd
 |_=>none
noncomputable def leave(top:Bool)(m:List (Str×SV)):Out Flw→Out SV
 | .p σ a=>(match a with
  | .n=>.p ⟨m,σ.led,σ.orc⟩ (.k .none)
  | .r x=>.p ⟨m,σ.led,σ.orc⟩ x)
 | .t σ a=>(match a with
  | .n=>.f
  | .r x=>ifT top (.p ⟨m,σ.led,σ.orc⟩ x))
 | .x σ X=>.x ⟨m,σ.led,σ.orc⟩ ⟨2,X.C,X.es,X.n,X.ctx⟩
 | .g P o=>.g P (leave top m o)
 | .s b o₁ o₂=>.s b (leave top m o₁) (leave top m o₂)
 | .f=>.f
noncomputable def aPb(r:Rec)(cf:Cf)(fd:FuncData)(body:List Stmt)(bs:List (Str×SV))(σ:St):Out SV:=match cf.lv with
 | 0=>.f
 |lv+1=>ifT (bs.all (fun y=>aBv fd.scope y.1 .local)) (leave cf.top σ.m (r.bk ⟨fd.scope,cf.hd,lv,true⟩ body ⟨bs.reverse,σ.led,σ.orc⟩))
noncomputable def bNe(V:Vw)(r:Rec)(cf:Cf)(f:Addr)(args:List SV)(σ:St):Out SV:=onO (fnD V f) fun fd=>match fd.body with
 | .stmts body=>onO (aF8 fd.params) fun as=>onO (bE1 V fd.defaults) fun D=>ifT (V.pf f) (ifT (Nat.ble args.length as.length) (ifT (bindM (as.map (·.arg)) args (D.map aG4)).isEmpty (aPb r cf fd body (aDr (as.map (·.arg)) args (D.map aG4)) σ)))
 |_=>.f
theorem aEo{ads:List Addr}{objs:List Obj}(h:ads.length=objs.length):(ads.zip objs).map (·.1)=ads:=by
 rw[List.map_fst_zip];lia
theorem aNf{fd:FuncData}{body:List Stmt}(h1:fd.globals=mainGlobals)(h2:fd.closure=[])(h3:fd.builtins=builtinsNs)(hb:fd.body=.stmts body):fd=fnOf fd.name fd.qualname fd.params body fd.scope fd.defaults fd.kwdefaults fd.doc fd.pyModule fd.annotations fd.code fd.closureTuple:=by
 obtain⟨a,b,p,bd,sc,gl,cl,d,k,dc,pm,an,cd,ct,bi⟩:=fd
 dsimp only at h1 h2 h3 hb
 subst h1 h2 h3 hb
 rfl
section
variable {prog:Program} {w:World} {A A₀:Around} {s:Shared} {K:Frag} {L:Addr} {h₀ base:Heap} {m mg mb:Str→Option Value} {news:List (Addr×Obj)} {p:Program} {loose:List Str} {mean:ExcName→Option Value}
theorem aYu{env:Env}{outer:List Env}{R:Result→Shared→Prop}{name qual:Str}{params:Arguments}{body:List Stmt}{scope:Scope}{dV kV doc pm cdv ct oc:Value}{an od:Option Addr}{osl:Array (Option Value)}{f:Addr}{args:Args}{binds:List (Str×Value)}
  (B:Below A₀ base outer h₀) (F:Fr h₀ L s.heap m) (X₀:K.In h₀) (N:News h₀ L s.heap news) (T:Top p loose mean mg mb h₀) (hA:A.frames=some (env::outer)) (hf:env.frame=some L) (hke:env.scope.kind=.function)
  (ho:K.lookup f=some ⟨oc,od,.func (fnOf name qual params body scope dV kV doc pm an cdv ct),osl⟩) (hcd:codeIn K cdv qual=true) (hroom:A.depth<recursionLimit)
  (hbind:BindsTo s (fnOf name qual params body scope dV kV doc pm an cdv ct) args binds) (hloc:∀ y∈binds,scope.names.lookup y.1=some .local)
  (h:∀ g L' h₁,Kept s.heap g (news.map (·.1))→s.heap.objs.size=L'→Fr g L' h₁ (fun y=>binds.reverse.lookup y)→News g L' h₁ news→(∀ p∈news,p.1<L')→Below A base (env::outer) g→K.In g→Top p loose mean mg mb g →
   wpAny (model prog w) (A.deeper (envOf qual scope L' f cdv)) (execs body (envOf qual scope L' f cdv))
    (fun fl s'=>LeaveK h₀ L m g R (match fl with | .ret v=>v|_=>.none) s'∨(outer=[]∧aUv [L] h₀ L m g R (match fl with | .ret v=>v|_=>.none) s'))
    (fun e s'=>wpAny (model prog w) (A.deeper (envOf qual scope L' f cdv)) (leaving (envOf qual scope L' f cdv) e) (fun _ s''=>R (.error e) s'') (fun e' s''=>R (.error e') s'') s')
    { s with heap:=h₁,toks:=s.toks+binds.length })
  (hco:scope.isCoroutine=false) (hgen:scope.isGenerator=false) (hk:scope.kind=.function)
  (hcell:∀ x∈scope.names,x.2≠.cell):codeAny (model prog w) A (.call (.ref f) args) R s:=by
 refine bH5 (groundX (R:=R) B F N hA hf hke) fun FG BG st lv=>?_
 have kp:=aDl s.heap (news.map (·.1))
 have nL₀:h₀.get? L=none:=kts_self F
 refine codeAny_call_def (fd:=fnOf name qual params body scope dV kV doc pm an cdv ct) (body:=body) (binds:=binds) hroom ((X₀.keeps F.keep) _ _ ho) rfl (T.nolimit.keeps F.keep) (codeRec_of (X₀.keeps F.keep) hcd) rfl hbind hcell hloc (fun h₁ hns hk₁=>?_) hco hgen hk
 refine wpAny_mono (h _ s.heap.objs.size h₁ kp rfl ⟨hns,fun b o e=>hk₁ b o (of_hideAll _ e),Nat.le_of_eq (hideAll_size _ _)⟩
  (fun p hp=>⟨hk₁ _ _ (N p hp).1,Nat.ne_of_lt (Heap.lt_size (N p hp).1),hideAll_none _ (List.mem_map_of_mem hp)⟩) (fun p hp=>Heap.lt_size (N p hp).1) BG (X₀.keeps st) (T.keeps st)) (fun fl s' hl=>?_) fun _ _ y=>y
 rcases hl with hl|⟨ho',hl⟩
 ·exact lv _ _ hl
 ·subst ho'
  refine cAj hl fun g' L' m' news' T' F' N' k=>?_
  refine aSk FG.ns fun oL es ep hL hLd hLr=>?_
  refine aA6 (T'.up hL) fun sl hs=>?_
  have stays:∀ b o,h₀.get? b=some o→s'.heap.get? b=some o:=fun b o e=>F'.keep b o (T'.other b o (st b o e) fun q=>by
   rw[List.mem_singleton.mp q,nL₀] at e;cases e)
  refine k ⟨⟨_,es,ep,F'.keep _ _ hs,hLd,hLr⟩,stays,F.above⟩ (fun p hp=>⟨(N' p hp).1,fun q=>?_,?_⟩)
  ·have:=(N' p hp).2.2;rw[q,hs] at this;cases this
  ·cases q:h₀.get? p.1 with
   |none=>rfl
   |some o =>
    refine aA6 (T'.up (st _ _ q)) fun sl' hs'=>?_
    have:=(N' p hp).2.2
    rw[hs'] at this;cases this
end
section
variable {V:Vw} {G:Gd V} {W:Wd} {σ:St} {r:Rec}
theorem aSn{M:Model}{A:Around}{α:Type}{s:Shared}{Q:α→Shared→Prop}{E:Value→Shared→Prop}{v:Value}{D:List Value}{P:Params}(vo:VOk P V)(h:bE1 V v=some D)(K:V.K.In s.heap)(k:Option (Array Value)→Sem α)(g:∀ x,x=none∨x=some D.toArray→(x.getD #[]).toList=D→wpAny M A (k x) Q E s):wpAny M A (seqItems? v >>= k) Q E s:=by
 cases v with
 |none=>cases h;exact wpAny_bind (wpAny_of_eq (a:=none) (by rfl) (g none (.inl rfl) rfl))
 |ref T=>exact (vo.tp h).elim fun sl q=>wpAny_bind (wpAny_seqItems (K _ _ q) rfl (g (some D.toArray) (.inr rfl) rfl))
 |_=>exact nn h
noncomputable abbrev Gd.call(G:Gd V)(fd:FuncData)(f L':Addr)(g:Heap)(lv:Nat)(E:Value→Shared→Prop):Gd V:={ X:=G.X,A:=G.A.deeper (envOf fd.qualname fd.scope L' f fd.code),cn:=fd.qualname,L:=L',a:=f,ccd:=fd.code,cl:=[],outer:=G.env::G.outer,A₀:=G.A,base:=G.base,g:=g,gens:=G.gens,drawn:=G.drawn,os:=G.os,cf:=⟨fd.scope,G.cf.hd,lv,true⟩,E:=E }
theorem aRw{fd:FuncData}{f L' lv:Nat}{g:Heap}{E':Value→Shared→Prop}{R:Unit→Shared→Prop}{G2:Gd V}{W':Wd}{σ':St}{xi:XI}{e:Addr}
  (S:Sat G W σ) (kg:Kept W.h g W.ads) (hI:∀ b∈W.ads,g.get? b=none) (hk:fd.scope.kind=.function) (T:Turn (G.call fd f L' g lv E') G2) (hT:xi.kind≠1→G2=G.call fd f L' g lv E') (p:Pre W.ads W'.ads) (SX:aQe G2 W' σ' xi e)
  (k:∀ W2,Pre W.ads W2.ads→aQe G W2 ⟨σ.m,σ'.led,σ'.orc⟩ ⟨2,xi.C,xi.es,xi.n,xi.ctx⟩ e→R () (G.st W2)) {E2:Value→Shared→Prop} :
  wpAny G.M (G.A.deeper (envOf fd.qualname fd.scope L' f fd.code)) (leaving (envOf fd.qualname fd.scope L' f fd.code) (.ref e)) R E2 (G.st W'):=by
 refine aBa SX fun Ld z10_1=>?_
 obtain⟨d,od,a0,EX,SX⟩:=z10_1
 have hid:=aEo S.len
 have dn:d∉W.ads:=fun z=>EX.d_ (p.mem z)
 have en:e∉W.ads:=fun z=>EX.e_ (p.mem z)
 have te:=T.eq
 have tt:=T.T
 have tb:=T.ok.B
 have tk:=T.ok.hk
 rw[te] at SX EX Ld tb tk
 have fin:∀ h' ,Flown W.h (G.env::G.outer) W.ads W'.l e xi.C d od a0 h'→R () (G.st ⟨W'.ads,W'.objs,W.m,h',W'.t⟩):=fun h' fl =>
  k ⟨W'.ads,W'.objs,W.m,h',W'.t⟩ p ⟨⟨Ld.O,Ld.len,Ld.nd,Ld.hi⟩,d,od,a0,⟨EX.e_,EX.d_,EX.ed,EX.el,EX.dl,EX.od_,EX.ctx⟩,W.h,W.ads,W.objs,S.F,S.M.mono p,S.N,S.len,p,fl⟩
 have outs:∀ {h:Heap} {vs:Array Value},News G2.g L' h W'.l→News G2.g L' h [(e,exO xi.C d vs),(d,od)]→News G2.g L' h ((e,exO xi.C d vs)::(d,od)::W'.l):=fun L2 N2 q hq=>by
  rcases List.mem_cons.mp hq with rfl|hq
  ·exact N2 _ (.head _)
  ·rcases List.mem_cons.mp hq with rfl|hq
   ·exact N2 _ (.tail _ (.head _))
   ·exact L2 _ hq
 have hne:∀ q∈(d,od)::W'.l,q.1≠e:=fun q hq=>by
  rcases List.mem_cons.mp hq with rfl|hq
  ·exact Ne.symm EX.ed
  ·intro z;exact EX.e_ (z▸(List.of_mem_zip hq).1)
 obtain⟨kd,C,es,n,cx⟩:=xi
 cases kd with
 |zero =>
  refine bNl SX fun vs F2 NL N2 hsz h2 h1=>?_
  exact aRj (kg.turn tt) (fun b hb=>tt.none_ b (hI b hb)) tb F2 (outs NL N2) hsz h2 h1 hne dn en (fun h' fl=>fin h' fl) hk
 |succ kd=>cases kd with
 |zero =>
  refine aPd SX fun vs h F2 NL N2 up fl=>?_
  refine wpAny_bind (aLk (L:=L') rfl fl ?_)
  exact flight fl fun h₃ x₃ u₃=>fin h₃ (aFr (s':={ G.st W' with heap:=h }) (kg.turn tt) (fun b hb=>tt.none_ b (hI b hb)) tb F2 (outs NL N2) hne dn en x₃ (up.trans u₃))
 |succ kd =>
  refine bH2 SX fun h ads0 objs0 F2 M2 N0 len0 p0 fl=>?_
  have e0:=hT (fun q=>nomatch q)
  have fl':Flown h ((G.call fd f L' g lv E').env::G.env::G.outer) ((ads0.zip objs0).map (·.1)) W'.l e C d od a0 W'.h:=by rw[aEo len0];exact fl
  rw[e0] at tb F2 N0
  refine aLp kg hI tb F2 (ins:=ads0.zip objs0) (rest:=[]) (by rw[List.append_nil];exact N0) (aGy fun _ h=>nomatch h) fl' dn en fun h' fl2=>fin h' (by rw[List.append_nil] at fl2;exact fl2)
theorem aRi{m:List (Str×SV)}{o:Out Flw}{top:Bool}{Φ:Wd→St→SV→Prop}{G1:Gd V}{W1:Wd}{Q:Flow→Shared→Prop}(h:Hd G W (leave top m o) Φ)(pw:Pre W.ads W1.ads)
  (kn:∀ {W' σ' y},Sat G1 W' σ'→Pre W.ads W'.ads→(∀ W2,W2.ads=W'.ads→Sat G W2 ⟨m,σ'.led,σ'.orc⟩→Φ W2 ⟨m,σ'.led,σ'.orc⟩ y)→∀ v,Den W'.ads y v→Q (.ret v) (G1.st W'))
  (kn0:∀ {W' σ'},Sat G1 W' σ'→Pre W.ads W'.ads→(∀ W2,W2.ads=W'.ads→Sat G W2 ⟨m,σ'.led,σ'.orc⟩→Φ W2 ⟨m,σ'.led,σ'.orc⟩ (.k .none))→Q .next (G1.st W'))
  (kt:∀ {G2 W' σ' y},top=true→Turn G1 G2→Sat G2 W' σ'→Pre W.ads W'.ads→(∀ W2,W2.ads=W'.ads→Sat G W2 ⟨m,σ'.led,σ'.orc⟩→Φ W2 ⟨m,σ'.led,σ'.orc⟩ y)→∀ v,Den W'.ads y v→Q (.ret v) (G1.st W'))
  (kx:∀ {G2 W' σ' e} {xi:XI},Turn G1 G2→(xi.kind≠1→G2=G1)→Pre W.ads W'.ads→aQe G2 W' σ' xi e→(∀ W2,Pre W.ads W2.ads→aQe G W2 ⟨m,σ'.led,σ'.orc⟩ ⟨2,xi.C,xi.es,xi.n,xi.ctx⟩ e→G.E (.ref e) (G.st W2))→G1.E (.ref e) (G1.st W')) (O:Ok G):Hd G1 W1 o (PF G1 Q):=by
 induction o with
 |f=>exact h
 |p σ a=>cases a with
  |n=>exact fun W' p S=>kn0 S (pw.trans p) fun W2 e S2=>h W2 (e▸pw.trans p) S2
  |r y=>exact fun W' p S v d=>kn S (pw.trans p) (fun W2 e S2=>h W2 (e▸pw.trans p) S2) v d
 |t σ a=>cases a with
  |n=>exact False.elim h
  |r y=>exact fun G2 W' T p S v d=>ifT_e h fun ht h=>kt ht T S (pw.trans p) (fun W2 e S2=>h W2 (e▸pw.trans p) S2) v d
 |x σ xi=>exact fun G2 W' e T hT p SX=>kx T hT (pw.trans p) SX fun W2 p2 SX2=>h G W2 e ⟨rfl,.refl,O⟩ (fun _=>rfl) p2 SX2
 |g P o ih=>exact⟨h.1,ih h.2⟩
 |s c o1 o2 i1 i2=>exact⟨fun e=>i1 (h.1 e),fun e=>i2 (h.2 e)⟩
theorem aH7{ads:List Addr}:∀ {D:List Value},Dens ads (D.map aG4) D
 | []=>.nil
 |_::_=>.cons aBi aH7
theorem aT4{fd:FuncData}{f L' lv:Nat}{g:Heap}{E':Value→Shared→Prop}{P:Prop}(h:Nat.ble 20 fd.scope.names.length=false)(q:(G.call fd f L' g lv E').cf.top=true):P:=absurd (h.symm.trans q) (fun z=>nomatch z)
theorem aYl{f:Addr}{args:List SV}{vs:List Value}{Q:Value→Shared→Prop}(R:Snd V r)(S:Sat G W σ)(a:Dens W.ads args vs)(h:Hd G W (bNe V r G.cf f args σ) (PC G W.m Q)):codeAny G.M G.A (.call (.ref f) ⟨vs,[]⟩) (aJm Q G.E) (G.st W) :=
 onO_e h fun fd hf h=>by
  refine aAd (Option.bind_eq_some_iff.mp hf) fun o ho hd=>?_
  rw[aHn] at ho
  replace ho:=G.X.vo.O ho
  obtain⟨oc,od,da,osl⟩:=o
  cases da with
  |func fd' =>
   cases hd
   cases hb:fd.body with
   |stmts body =>
    rw[hb] at h
    refine onO_e h fun as hp h=>onO_e h fun D hD h=>ifT_e h fun hpl h=>ifT_e h fun hle h=>ifT_e h fun hmi h=>?_
    refine cAs (G.X.vo.pf hpl ho) fun q1 q2 q3 hcd hco hgen hk hcell htp=>?_
    have eta:=aNf q1 q2 q3 hb
    have dD:Dens W.ads (D.map aG4) D:=aH7
    have hm0:bindM (as.map (·.arg)) vs D=[]:=by
     rw[← aPn a dD];simpa using hmi
    have hlen:vs.length≤as.length:=by rw[← a.len];exact Nat.le_of_ble_eq_true hle
    have bs:=aPo (ns:=as.map (·.arg)) a dD
    have hbind:BindsTo (G.st W) fd ⟨vs,[]⟩ (aDr (as.map (·.arg)) vs D):=fun M A E Q hq=>aL2 (aI0 hp) hlen hm0 (fun k g=>aSn G.X.vo hD S.K k g) hq
    rw[eta] at ho hbind
    replace h:Hd G W (aPb r G.cf fd body (aDr (as.map (·.arg)) args (D.map aG4)) σ) (PC G W.m Q):=h
    unfold aPb at h
    cases hlv:G.cf.lv with
    |zero=>simp only[hlv] at h;exact h.elim
    |succ lv =>
     simp only[hlv] at h
     refine ifT_e h fun hall h=>?_
     have hloc:∀ y∈aDr (as.map (·.arg)) vs D,fd.scope.names.lookup y.1=some .local:=fun y hy=>by
      refine aA6 (aCh hy) fun i hi=>?_
      refine aA6 (aAl (l:=aDr (as.map (·.arg)) args (D.map aG4)) (by rw[bs.len];exact aBk hi)) fun z hz=>?_
      refine aAd (bs.get hz) fun b e1 e2=>?_
      rw[hi] at e1;cases e1
      rw[← e2.1];exact aA5 (List.all_eq_true.mp hall _ (aB8 hz))
     have dp:=S.ok.dp
     have un:=S.ok.un
     rw[hlv] at dp un
     refine aYu (binds:=aDr (as.map (·.arg)) vs D) S.ok.B S.F S.ok.K S.N S.ok.T S.ok.fr rfl S.ok.hk ho hcd (by lia) hbind hloc (fun g L' h₁ kg hs' F' N' lt B' K' T'=>?_) hco hgen hk hcell
     rw[aEo S.len] at kg
     have D':=aSm (env:=G.env) (outer:=G.outer) S.F S.N S.ok.D ((aEo S.len).symm▸kg) rfl
     have hI:∀ b∈W.ads,g.get? b=none:=fun b hb=>by
      refine aA6 (aCh hb) fun i hi=>?_
      refine aA6 (aAl (l:=W.objs) (S.len▸aBk hi)) fun o ho=>?_
      exact (N' _ (aBe hi ho)).2.2
     have O':∀ E',(Own (G.call fd f L' g lv E'))→Ok (G.call fd f L' g lv E'):=fun E' ow=>⟨B',K',T',S.ok.KB,S.ok.TB,D',Around.frames_deeper S.ok.fr,hk,by show G.A.depth+1+lv<_;lia,by show G.A.units+3+8*lv<_;lia,fun q=>aT4 htp q,fun _=>ow⟩
     have S':∀ E',Own (G.call fd f L' g lv E')→Sat (G.call fd f L' g lv E') ⟨W.ads,W.objs,_,h₁,W.t+(aDr (as.map (·.arg)) vs D).length⟩ ⟨(aDr (as.map (·.arg)) args (D.map aG4)).reverse,σ.led,σ.orc⟩:=fun E' ow =>
      ⟨O' E' ow,F',aJn bs.rev,N',S.O,S.len,S.nd,S.hd.same rfl,fun q=>aT4 htp q⟩
     refine R.bk (S' _ ⟨fun _=>⟨rfl,rfl⟩,PassesOwn.leaving⟩) (aRi h (.refl _) ?_ ?_ ?_ ?_ S.ok)
     ·exact fun {W1 σ1 y} S1 p k v d=>.inl <| leaveK_ S1.F S1.N fun F3 N3=>k ⟨W1.ads,W1.objs,W.m,W1.h,W1.t⟩ rfl ⟨S.ok,F3,S.M.mono p,N3,S1.O,S1.len,S1.nd,S.hd.up p,S.clUp p⟩ rfl v d
     ·exact fun {W1 σ1} S1 p k=>.inl <| leaveK_ S1.F S1.N fun F3 N3=>k ⟨W1.ads,W1.objs,W.m,W1.h,W1.t⟩ rfl ⟨S.ok,F3,S.M.mono p,N3,S1.O,S1.len,S1.nd,S.hd.up p,S.clUp p⟩ rfl .none rfl
     ·intro G2 W1 σ1 y ht T2 S1 p k v d
      have ho:=S.ok.tp ht
      have te:=T2.eq
      have tt:KtsTurn [G.L] g G2.g:=by
       have:=T2.T
       rw[show Gd.fs _=[G.L] from by show (G.env::G.outer).filterMap (·.frame)=[G.L];rw[ho];rfl] at this
       exact this
      have F1:=S1.F
      have N1:=S1.N
      have O1:=S1.O
      rw[te] at F1 N1 O1
      exact .inr ⟨ho,aXc F1 N1 tt fun F3 N3=>k ⟨W1.ads,W1.objs,W.m,W1.h,W1.t⟩ rfl ⟨S.ok,F3,S.M.mono p,N3,O1,S1.len,S1.nd,S.hd.up p,S.clUp p⟩ rfl v d⟩
     ·exact fun {G2 W1 σ1 e xi} T2 hT2 p SX k=>aRw S kg hI hk T2 hT2 p SX k
   |_=>rw[hb] at h;exact h.elim
  |_=>exact nn hd
end
noncomputable def clV(k:Nat):SV→Bool
 | .a i=>Nat.blt i k
 |_=>true
noncomputable def clN(k:Nat):Option Nat→Bool
 |none=>true
 |some i=>Nat.blt i k
noncomputable def clS(k:Nat):Option SV→Bool
 |none=>true
 |some y=>clV k y
noncomputable def clO(k:Nat):SO→Bool
 | .inst _ d=>Nat.blt d k
 | .ns es _=>es.all fun p=>clV k p.2
 | .seq _ vs _=>vs.all fun y=>clV k y
 | .di kvs=>kvs.all fun p=>clV k p.2
 | .dv _ _ puts facts=>(puts.all fun p=>clV k p.2)&&facts.all fun p=>clS k p.2
 | .ex _ d ctx=>Nat.blt d k&&clN k ctx
 | .xr _=>true
 | .xd _ d=>Nat.blt d k
 | .cell y=>clS k y
 | .raw j=>Nat.blt j 1000
 | .any=>true
section
variable {V:Vw} {a b:List Addr} {k:Nat}
theorem Den.cut(hk:∀ i,i<k→gN a i=gN b i){y:SV}{v:Value}(c:clV k y=true)(h:Den a y v):Den b y v:=by
 cases y with
 |a i=>obtain⟨x,h,e⟩:=h;exact⟨x,(hk i (Nat.le_of_ble_eq_true c)).symm.trans h,e⟩
 |_=>exact h
theorem All2.cut{α β:Type}{R S:α→β→Prop}{P:α→Bool}(f:∀ x y,P x=true→R x y→S x y){l:List α}{m:List β}(h:l.all P=true)(r:All2 R l m):All2 S l m:=by
 induction r with
 |nil=>exact .nil
 | @cons x y l m q _ ih =>
  have h:=aAc (show (P x&&l.all P)=true from h)
  exact .cons (f _ _ h.1 q) (ih h.2)
theorem PutR.cut(hk:∀ i,i<k→gN a i=gN b i){l0 l:List (Int×Value)}{ps:List (Int×SV)}(h:PutR a l0 ps l):(ps.all fun p=>clV k p.2)=true→PutR b l0 ps l:=by
 induction h with
 |nil=>intro _;exact .nil
 | @cons z x r l v _ d ih =>
  intro this
  have this:=aAc (show (clV k x&&r.all fun p=>clV k p.2)=true from this)
  exact .cons (ih this.2) (d.cut hk this.1)
theorem DenO.cut{X:Ctx V}{β':Bet}(hβ:β'.d=X.β.d)(hβo:∀ j,j<1000→β'.o j=X.β.o j)(hk:∀ i,i<k→gN a i=gN b i){x:SO}{o:Obj}(h:clO k x=true)(d:DenO X a x o):DenO { X with β:=β' } b x o:=by
 have lt:∀ {e y},Nat.blt e k=true→gN a e=some y→gN b e=some y:=fun q r=>(hk _ (Nat.le_of_ble_eq_true q)).symm.trans r
 cases x with
 |inst C e=>obtain⟨y,h1,h2⟩:=d;exact⟨y,lt h h1,h2⟩
 |ns es n=>obtain⟨l,al,e⟩:=d;exact⟨l,All2.cut (P:=fun p:Str×SV=>clV k p.2) (fun x y c r=>by obtain⟨t,v,q,z⟩:=r;exact⟨t,v,q.cut hk c,z⟩) h al,e⟩
 |seq tup vs n=>obtain⟨l,al,e⟩:=d;exact⟨l,All2.cut (P:=fun y=>clV k y) (fun x y c r=>Den.cut hk c r) h al,e⟩
 |di kvs=>obtain⟨l,al,e⟩:=d;exact⟨l,All2.cut (P:=fun p:Int×SV=>clV k p.2) (fun x y c r=>⟨r.1,r.2.cut hk c⟩) h al,e⟩
 |dv j n puts facts =>
  refine aPd d fun l0 l h1 h2 h3 h4 h5=>?_
  have h:=aAc h
  refine⟨l0,l,by rw[hβ];exact h1,h2,h3.cut hk h.1,fun f hf=>?_,h5⟩
  have c:=List.all_eq_true.mp h.2 f hf
  have r:=h4 f hf
  obtain⟨q,x⟩:=f
  cases x with
  |none=>exact r
  |some x=>obtain⟨v,e,d⟩:=r;exact⟨v,e,d.cut hk c⟩
 |ex C e ctx =>
  refine bNk d fun dx vs a0 h1 h2 h3 h4=>?_
  have h:=aAc h
  refine⟨dx,vs,a0,lt h.1 h1,h2,h3,?_⟩
  cases ctx with
  |none=>exact h4
  |some i=>obtain⟨x,e,q⟩:=h4;exact⟨x,lt h.2 e,q⟩
 |xr C=>exact d
 |xd C e=>obtain⟨dx,t,h1,h2⟩:=d;exact⟨dx,t,lt h h1,h2⟩
 |cell y =>
  cases y with
  |none=>exact d
  |some y=>obtain⟨v,q,e⟩:=d;exact⟨v,q.cut hk h,e⟩
 |raw j=>exact (show o=X.β.o j from d).trans (hβo j (Nat.le_of_ble_eq_true h)).symm
 |any=>trivial
theorem All2.take{α β:Type}{R:α→β→Prop}{l:List α}{m:List β}(h:All2 R l m):∀ k,All2 R (l.take k) (m.take k):=by
 induction h with
 |nil=>intro k;rw[List.take_nil,List.take_nil];exact .nil
 |cons r _ ih=>intro k;cases k with
  |zero=>exact .nil
  |succ k=>exact .cons r (ih k)
theorem aEm{α:Type}:∀ {l:List α} {n i:Nat},i<n→gN (l.take n) i=gN l i
 | [],n,i,_=>by rw[List.take_nil]
 |_::_,0,_,h=>absurd h (Nat.not_lt_zero _)
 |_::_,n+1,0,_=>rfl
 |_::r,n+1,i+1,h=>aEm (l:=r) (Nat.lt_of_succ_lt_succ h)
end
noncomputable def aMx(V:Vw)(fromN:Bool)(cf:Cf)(n i:Nat)(σ:St):Out Flw:=onO (gN σ.led i) fun so=>match so with
 | .xd C d=>aNl σ d fun es m=>ifT (V.ve C) (ifT (Nat.ble n i&&Nat.ble n d&&!(Nat.beq i d)) (ifT ((σ.led.take n).all (clO n)) (ifT (es.all fun p=>clV n p.2) (match fromN with
  |false=>ifT cf.hd.isNone (.x ⟨σ.m,σ.led.take n,σ.orc⟩ ⟨0,C,es,m,none⟩)
  |true=>onO cf.hd fun j=>ifT (Nat.blt j n) (onO ((gN σ.led j).bind bAo) fun c=>ifT c.isNone (.x ⟨σ.m,σ.led.take n,σ.orc⟩ ⟨0,C,es,m,some j⟩))))))
 |_=>.f
noncomputable def aEr(V:Vw)(r:Rec)(cf:Cf)(fromN:Bool)(x:Str)(args:List PySem.Expr)(σ:St):Out Flw :=
 ifT (args.all notStar&&!args.isEmpty) (onO (nameV V cf.cs x σ) fun f=>onK f fun C=>ifT (V.kp C&&V.ve C) (bd (r.es cf args σ) fun σ2 vs=>bd (bNd V r cf C vs σ2) fun σ3 y=>onA y fun i=>aMx V fromN cf σ2.led.length i σ3))
section
variable {V:Vw} {G:Gd V} {W:Wd} {σ:St} {r:Rec} {Φ:Wd→St→Flw→Prop}
noncomputable abbrev Wd.cut(W:Wd)(n:Nat)(h:Heap):Wd:=⟨W.ads.take n,W.objs.take n,W.m,h,W.t⟩
theorem aDs{α β:Type}:∀ {l:List α} {m:List β} {n:Nat} {p:α×β},p∈(l.take n).zip (m.take n)→p∈l.zip m
 | [],_,n,_,h=>by rw[List.take_nil] at h;cases h
 |_::_,[],n,_,h=>by rw[List.take_nil,List.zip_nil_right] at h;cases h
 |_::_,_::_,0,_,h=>by cases h
 |_::l,_::m,n+1,_,h=>by
  rcases List.mem_cons.mp h with rfl|h
  ·exact .head _
  ·exact .tail _ (aDs h)
theorem aKh{α:Type}:∀ {l:List α} {n:Nat} {d:α},d∈l.take n→∃ i,i<n∧gN l i=some d
 | [],n,_,h=>by rw[List.take_nil] at h;cases h
 |_::_,0,_,h=>by cases h
 |a::l,n+1,_,h=>by
  rcases List.mem_cons.mp h with rfl|h
  ·exact⟨0,Nat.succ_pos _,rfl⟩
  ·obtain⟨i,h1,h2⟩:=aKh h;exact⟨i+1,Nat.succ_lt_succ h1,h2⟩
theorem Sat.ledCut(S:Sat G W σ){n:Nat}(h:(σ.led.take n).all (clO n)=true)(hp:Heap):Led G.X (W.cut n hp) (σ.led.take n) :=
 ⟨All2.cut (P:=clO n) (fun x y c d=>DenO.cut (X:=G.X) (β':=G.X.β) rfl (fun _ _=>rfl) (fun i hi=>(aEm hi).symm) c d) h (S.O.take n),by simp[S.len],List.Nodup.sublist (List.take_sublist _ _) S.nd,fun a ha=>S.hiA (List.mem_of_mem_take ha)⟩
theorem aI3(S:Sat G W σ){n i:Nat}{x:Addr}(hx:gN W.ads i=some x)(hn:n≤i):x∉W.ads.take n:=fun q=>by
 refine aAd (aKh q) fun j h1 h2=>?_
 have:=aC4 S.nd hx h2
 lia
theorem aJ5{W0:Wd}{i n C d m:Nat}{e dx:Addr}{es:List (Str×SV)}{ctx:Option Nat}{a0:Value}{od:Obj}{vs:Array Value}{h':Heap}(S:Sat G W σ)(hW:W0.ads=W.ads.take n)(he:gN W.ads i=some e)(hd:gN W.ads d=some dx)(hn:(Nat.ble n i&&Nat.ble n d&&!(Nat.beq i d))=true)(hc:(σ.led.take n).all (clO n)=true)(hc2:(es.all fun p=>clV n p.2)=true)(dd:DenO G.X W.ads (.ns es m) od)
  (F:Fr G.g G.L h' W.m) (N1:News G.g G.L h' ((W.cut n h').l)) (N2:News G.g G.L h' [(e,exO C dx vs),(dx,od)]) (hsz:vs.size=6) (h2:vs[2]?=some a0) (h1:vs[1]?=some .none) (hctx:CtxR (W.ads.take n) ctx a0)
  (h:Hd G W0 (.x ⟨σ.m,σ.led.take n,σ.orc⟩ ⟨0,C,es,m,ctx⟩) Φ):G.E (.ref e) (G.st (W.cut n h')):=by
 have q:=aAc hn
 have q1:=aAc q.1
 exact h G (W.cut n h') e ⟨rfl,.refl,S.ok⟩ (fun _=>rfl) (hW▸.refl _) ⟨S.ledCut hc h',dx,od,a0,⟨aI3 S he (Nat.le_of_ble_eq_true q1.1),aI3 S hd (Nat.le_of_ble_eq_true q1.2),fun z=>Nat.ne_of_beq_eq_false (aBu q.2) (aC4 S.nd he (z▸hd)),S.hiA (aB8 he),S.hiA (aB8 hd),DenO.cut (X:=G.X) (k:=n) (β':=G.X.β) rfl (fun _ _=>rfl) (fun i hi=>(aEm hi).symm) hc2 dd,hctx⟩,vs,F,N1,N2,hsz,h2,h1⟩
theorem aFj{fromN:Bool}{x:Str}{xp p:Pos}{args:List PySem.Expr}{Th:Value→Shared→Prop}(R:Snd V r)(S:Sat G W σ)(h:Hd G W (aEr V r G.cf fromN x args σ) Φ)
  (g:∀ {W2 W3 σ3 i e n},W2.ads=W3.ads.take n→Sat G W3 σ3→Pre W.ads W2.ads→gN W3.ads i=some e→Hd G W2 (aMx V fromN G.cf n i σ3) Φ→Th (.ref e) (G.st W3)):G.wp (eval (.Call (.Name x xp) args [] p) G.env) Th (G.st W) :=
 ifT_e h fun hst h=>onO_e h fun f hf h=>Call_ (aCz S hf fun v d=>aNm h d fun C h=>ifT_e h fun hk h=>by
  cases args with
  |nil=>cases (aAc hst).2
  |cons e l =>
   have hst:=aAc (show (notStar e&&l.all notStar)=true from (aAc hst).1)
   refine callWith_K S.ok.K (G.X.vo.kp (aAc hk).1) (R.evs S h fun {W2 σ2 ys vs} S2 p2 d2 h2=>⟨S2.K,aYf R S2 d2 (h2.keep (Ψ:=PV G Th) fun {W3 σ3 y} S3 p3 h3 v dv=>aDn h3 dv fun i e he h3=>g ?_ S3 p2 he h3)⟩) (aAb hst.1) (aA7 hst.2).1
   refine aA6 p3 fun u hu=>?_
   rw[hu,S2.O.len,← S2.len,List.take_left])
theorem Sat.cutN(S:Sat G W σ)(n:Nat):News G.g G.L W.h (W.cut n W.h).l:=fun p hp=>S.N p (aDs hp)
theorem Pick.inv{x:Addr×Obj}{l l':List (Addr×Obj)}(p:Pick x l l'):∀ y∈l,y=x∨y∈l':=by
 induction p with
 |head=>exact fun y h=>List.mem_cons.mp h
 |tail _ ih=>exact fun y h=>(List.mem_cons.mp h).elim (fun e=>.inr (e▸.head _)) fun h=>(ih y h).imp id (.tail _)
theorem aHa{fromN:Bool}{n i:Nat}{e:Addr}{W0:Wd}(S:Sat G W σ)(hW:W0.ads=W.ads.take n)(he:gN W.ads i=some e)(h:Hd G W0 (aMx V fromN G.cf n i σ) Φ) :
  (fromN=false→G.cf.hd=none→aIe V.K G.E (.ref e) (G.st W))∧(fromN=true→∀ j e1,G.cf.hd=some j→gN W.ads j=some e1→aE0 V.K e1 G.E (.ref e) (G.st W)) :=
 onO_e h fun so hso h=>by
  refine aDm (S.slot hso he) fun o ho hm d=>?_
  cases so with
  |xd C dn =>
   refine aGs d fun dx t hdx r6_3=>?_
   subst r6_3
   have h':Hd G W0 (aNl σ dn _) Φ:=h
   unfold aNl at h'
   refine aA6 (aAl (l:=σ.led) (i:=dn) (by rw[S.O.len,← S.len];exact aBk hdx)) fun so2 hso2=>?_
   rw[hso2] at h'
   cases so2 with
   |ns es m =>
    refine aDm (S.slot hso2 hdx) fun od ho2 hm2 d2=>?_
    replace h':Hd G W0 (ifT (V.ve C) _) Φ:=h'
    refine ifT_e h' fun hv h=>ifT_e h fun hn h=>ifT_e h fun hc h=>ifT_e h fun hc2 h=>?_
    have N2:∀ {vs:Array Value} {h':Heap},(h'.get? e=some (exO C dx vs))→News G.g G.L h' W.l→News G.g G.L W.h W.l→h'.get? dx=some od→News G.g G.L h' [(e,exO C dx vs),(dx,od)]:=fun k1 _ N k2 p hp=>by
     rcases List.mem_cons.mp hp with rfl|hp
     ·exact⟨k1,(N _ hm).2⟩
     ·rw[List.mem_singleton.mp hp];exact⟨k2,(N _ hm2).2⟩
    cases fromN with
    |false =>
     refine⟨fun _ hh=>ifT_e h fun _ h=>aU3 S.F S.ok.K S.N hm (G.X.vo.ve hv).1 ?_,fun q=>nomatch q⟩
     exact aJ5 S hW he hdx hn hc hc2 d2 S.F (S.cutN n) (N2 (S.N _ hm).1 S.N S.N (S.N _ hm2).1) rfl rfl rfl (show CtxR _ none Value.none from rfl) h
    |true =>
     refine⟨fun q=>(nomatch q),fun _ j e1 hj he1=>onO_e h fun j' hj' h=>ifT_e h fun hjn h=>onO_e h fun c hcx h=>ifT_e h fun hcn h=>?_⟩
     cases hj.symm.trans hj'
     refine bNj (aO4 S he1 hcx) fun C1 d1 vs1 a1 k1 k2 k3=>?_
     rw[Option.isNone_iff_eq_none.mp hcn] at k3
     refine aA6 (aAl (l:=W.objs) (i:=j) (S.len▸aBk he1)) fun o1 ho1=>?_
     have m1:=aBe he1 ho1
     have eo:=(S.N _ m1).1.symm.trans k1
     cases eo
     refine aDm (aDx S.nd he ho) fun rest pk aw _=>?_
     have q1:=aAc (aAc hn).1
     have ne:e1≠e:=fun z=>by have:=aC4 S.nd he1 (z▸he);have:=Nat.le_of_ble_eq_true q1.1;have:j<n:=Nat.le_of_ble_eq_true hjn;lia
     refine aQl S.F S.ok.K S.N m1 pk aw ne (k2.trans (congrArg some k3)) (G.X.vo.ve hv).1 fun h3 F3 N3=>?_
     have N4:∀ p∈W.l,p.1≠e→h3.get? p.1=some p.2∧p.1≠G.L∧G.g.get? p.1=none:=fun p hp z=>(pk.inv p hp).elim (fun q=>absurd (congrArg Prod.fst q) z) fun q=>N3 p (.tail _ q)
     have hne:dx≠e:=fun z=>Nat.ne_of_beq_eq_false (aBu (aAc hn).2) (aC4 S.nd he (z▸hdx))
     refine aJ5 (vs:=vsN t e1) (a0:=.ref e1) S hW he hdx hn hc hc2 d2 F3 (fun p hp=>N4 p (aDs hp) ?_) (fun p hp=>?_) rfl rfl rfl (show CtxR _ (some j) _ from⟨e1,by rw[aEm (Nat.le_of_ble_eq_true hjn)];exact he1,rfl⟩) h
     ·intro z
      exact aI3 S he (Nat.le_of_ble_eq_true q1.1) (z▸(List.of_mem_zip hp).1)
     ·rcases List.mem_cons.mp hp with rfl|hp
      ·exact N3 _ (.head _)
      ·rw[List.mem_singleton.mp hp];exact N4 _ hm2 hne
   |_=>exact False.elim h'
  |_=>exact h.elim
theorem aGr{x:Str}{xp p pos:Pos}{args:List PySem.Expr}{Q:Flow→Shared→Prop}(R:Snd V r)(S:Sat G W σ)(hh:G.cf.hd=none)(h:Hd G W (aEr V r G.cf false x args σ) Φ):G.wp (exec (.Raise (some (.Call (.Name x xp) args [] p)) none pos) G.env) Q (G.st W):=by
 have hA:=S.hd
 rw[hh] at hA
 exact aG8 S.ok.K hA (aFj R S h fun hW S3 _ he h3=>(aHa S3 hW he h3).1 rfl hh)
theorem aH6{x:Str}{xp p pos cp:Pos}{kk j:Nat}{args:List PySem.Expr}{Q:Flow→Shared→Prop}(R:Snd V r)(S:Sat G W σ)(hh:G.cf.hd=some j)(h:Hd G W (aEr V r G.cf true x args σ) Φ):G.wp (exec (.Raise (some (.Call (.Name x xp) args [] p)) (some (.Constant .none kk cp)) pos) G.env) Q (G.st W):=by
 have hA:=S.hd
 rw[hh] at hA
 exact hA.elim fun e1 q=>aIv S.ok.K q.2 (aFj R S h fun hW S3 p3 he h3=>(aHa S3 hW he h3).2 rfl j e1 hh (by
  have:=p3.get q.1
  rw[hW] at this
  exact (aEm (by have:=aBk this;simp at this;lia)).symm.trans this))
end
noncomputable def hmap(named:Bool):Out Flw→Out Flw
 | .p σ a=>(match a with
  | .n=>.f
  | .r y=>.t ⟨[],σ.led,σ.orc⟩ (.r y))
 | .x σ xi=>ifT (!named&&Nat.beq xi.kind 0) (.x σ ⟨1,xi.C,xi.es,xi.n,xi.ctx⟩)
 | .g P o=>.g P (hmap named o)
 | .s b o₁ o₂=>.s b (hmap named o₁) (hmap named o₂)
 | .t _ _=>.f
 | .f=>.f
noncomputable def bY2(cs:Scope):Option Str→Bool
 |none=>true
 |some y=>aBv cs y .local
noncomputable def nmM(n:Nat)(m:List (Str×SV)):Option Str→List (Str×SV)
 |none=>m
 |some y=>(y,.a n)::m
noncomputable def refOf:Value→Option Addr
 | .ref a=>some a
 |_=>none
noncomputable def aXw(V:Vw)(r:Rec)(cf:Cf)(x:Str)(nm:Option Str)(suite:List Stmt)(σ:St)(xi:XI):Out Flw :=
 ifT (Nat.beq xi.kind 2&&aBv cf.cs x .globalImplicit) (ifT (!(aB5 x "__debug__")) (onO (V.ns mainGlobals x) fun u=>onO u fun v=>onO (refOf v) fun C=>ifT (Nat.beq C xi.C) (ifT (V.ve xi.C&&bY2 cf.cs nm)
  (hmap nm.isSome (r.bk ⟨cf.cs,some σ.led.length,cf.lv,false⟩ suite ⟨nmM σ.led.length σ.m nm,σ.led++[.ex xi.C (σ.led.length+1) xi.ctx]++[.ns xi.es xi.n],σ.orc⟩)))))
noncomputable def bF0(V:Vw)(r:Rec)(cf:Cf)(x:Str)(nm:Option Str)(suite:List Stmt):Out Flw→Out Flw
 | .p σ a=>.p σ a
 | .x σ xi=>aXw V r cf x nm suite σ xi
 | .g P o=>.g P (bF0 V r cf x nm suite o)
 | .s b o₁ o₂=>.s b (bF0 V r cf x nm suite o₁) (bF0 V r cf x nm suite o₂)
 | .t _ _=>.f
 | .f=>.f
noncomputable def bEo(V:Vw)(r:Rec)(cf:Cf)(body:List Stmt)(x:Str)(nm:Option Str)(suite:List Stmt)(σ:St):Out Flw :=
 ifT (cf.po&&cf.hd.isNone) (ifT (!cf.top) (bF0 V r cf x nm suite (r.bk ⟨cf.cs,cf.hd,cf.lv,false⟩ body σ)))
section
variable {A₀:Around} {base g G B h₅:Heap} {outer:List Env} {L a:Addr} {m:Str→Option Value} {name:Str} {scope:Scope} {cd:Value}
theorem aSq{A:Around}{env:Env}(hE:env=envOf name scope L a cd)(hA:A=A₀.deeper env)(R:Flown G (env::outer) (ins.map (·.1)) outs e C d od a0 s'.heap)(F:Fr g L G m)(K:Below A₀ base outer g)(N:News g L G (ins++rest))(aw:Away rest (ins.map (·.1)))(XB:KF.In base)(TB:Top p loose mean mg mb base)
  (D:KtsDicts (outer.filterMap (·.frame)) g) (T0:KtsTurn (outer.filterMap (·.frame)) g₀ g) (q:ktsIn KF C "ValueError"=true) (ex:nsIn KF mainGlobals x=some (some (.ref C)))
  (k:∀ h' g' vs,vs.size=6→vs[2]?=some a0→KtsTurn (outer.filterMap (·.frame)) g₀ g'→Fr g' L h' m→News g' L h' ((e,exO C d vs)::(d,od)::(outs++rest))→Below A₀ base outer g'→KF.In g'→Top p loose mean mg mb g'→KtsDicts (outer.filterMap (·.frame)) g' →
   AllNe e ((d,od)::(ins++rest))→AllNe d (ins++rest)→(∀ q∈outs,q.1∈ins.map (·.1)∨AllNe q.1 (ins++rest)) →
   wpAny (model prog w) (A.mark (some (.ref e))) (execs (b₀::suite) env) Q
    (notedBy (model prog w) (A.mark (some (.ref e))) env (cameBackBy (model prog w) A env E)) { s' with heap:=h' })
  (hk:scope.kind=.function) (hx:env.kindOf x=some .globalImplicit) (hd:(x==("__debug__":Str))=false) :
  wpAny (model prog w) A (noteFrame (.ref e) env)
   (fun _ s₂=>wpAny (model prog w) A (setFlight (.ref e) none) (fun _ s₃ =>
    wpAny (model prog w) A (handleBy (.ref e) env (.ExceptHandler (some (.Name x np)) none (b₀::suite) pos::hrest)) Q E s₃) E s₂) E s':=by
 subst hE hA
 exact aY5 R F K N aw XB TB D T0 q ex k hk hx hd
theorem aPk{A:Around}{env:Env}(hE:env=envOf name scope L a cd)(hA:A=A₀.deeper env)(R:Flown G (env::outer) (ins.map (·.1)) outs e C d od a0 s'.heap)(F:Fr g L G m)(K:Below A₀ base outer g)(N:News g L G (ins++rest))(aw:Away rest (ins.map (·.1)))(XB:KF.In base)(TB:Top p loose mean mg mb base)
  (D:KtsDicts (outer.filterMap (·.frame)) g) (T0:KtsTurn (outer.filterMap (·.frame)) g₀ g) (q:ktsIn KF C "ValueError"=true) (ex:nsIn KF mainGlobals x=some (some (.ref C)))
  (k:∀ h' g' vs,vs.size=6→vs[2]?=some a0→KtsTurn (outer.filterMap (·.frame)) g₀ g'→Fr g' L h' (fun y=>if y=n then some (.ref e) else m y)→News g' L h' ((e,exO C d vs)::(d,od)::(outs++rest))→Below A₀ base outer g'→KF.In g'→Top p loose mean mg mb g'→KtsDicts (outer.filterMap (·.frame)) g' →
   AllNe e ((d,od)::(ins++rest))→AllNe d (ins++rest)→(∀ q∈outs,q.1∈ins.map (·.1)∨AllNe q.1 (ins++rest)) →
   wpAny (model prog w) (A.mark (some (.ref e))) (execs (b₀::suite) env)
    (fun f s₄=>wpAny (model prog w) A (do bindName env n .none;unbindBehindTheSuite env n pos) (fun _ s₅=>Q f s₅) E s₄)
    (fun _ _=>False) { s' with heap:=h',toks:=s'.toks+1 })
  (hk:scope.kind=.function) (hlo:env.kindOf n=some .local) (hx:env.kindOf x=some .globalImplicit) (hd:(x==("__debug__":Str))=false) :
  wpAny (model prog w) A (noteFrame (.ref e) env)
   (fun _ s₂=>wpAny (model prog w) A (setFlight (.ref e) none) (fun _ s₃ =>
    wpAny (model prog w) A (handleBy (.ref e) env (.ExceptHandler (some (.Name x np)) (some n) (b₀::suite) pos::hrest)) Q E s₃) E s₂) E s':=by
 subst hE hA
 exact aSr R F K N aw XB TB D T0 q ex k hk hlo hx hd
end
section
variable {V:Vw} {G:Gd V} {W:Wd} {σ:St} {r:Rec}
theorem aLi{M:Model}{A A₀:Around}{env:Env}{outer:List Env}{cn:Str}{cs:Scope}{L a e C d:Addr}{ccd:Value}{vs:Array Value}{a0:Value}{g' base:Heap}{s:Shared}{eh:Value}{m:Str→Option Value}{E:Value→Shared→Prop}(hE:env=envOf cn cs L a ccd)(hA:A=A₀.deeper env)(tb:Below A₀ base outer g')(F:Fr g' L s.heap m)(tk:cs.kind=.function)(hx:s.heap.get? e=some (exO C d vs))(hsz:vs.size=6)(h2:vs[2]?=some a0)(h1:vs[1]?=some .none)
  (h:∀ h₂,s.heap.UpToSlots h₂→Fl (hideAll s.heap (e::(env::outer).filterMap (·.frame))) (env::outer) e C d a0 (rawInt L) h₂→E (.ref e) { s with heap:=h₂ }):notedBy M (A.mark (some eh)) env (cameBackBy M A env E) (.ref e) s:=by
 subst hE hA
 have K':=tb.push (name:=cn) (a:=a) (cd:=ccd) F tk
 have hfr:s.heap.FunFrames (hideAll s.heap (e::(envOf cn cs L a ccd::outer).filterMap (·.frame))) (envOf cn cs L a ccd::outer) :=
  funFrames_hide K'.frames fun env he b hb=>List.mem_cons_of_mem _ (List.mem_filterMap.mpr ⟨env,he,hb⟩)
 refine aLj (aFm (A:=(A₀.deeper (envOf cn cs L a ccd)).mark (some eh)) K'.stack hfr rfl hx (fun b o q=>of_hideAll _ q) (hideAll_none _ (.head _)) hsz h2 h1 fun h₁ x₁ u₁=>?_)
 refine bRf x₁.obj fun vs1 TT oT ts he _ _ hT1 _=>?_
 refine wpAny_bind (wpAny_field he rfl hT1 ?_)
 rw[if_neg (by simp)]
 exact flight (s:={ s with heap:=h₁ }) (fr:=some L) x₁ fun h₂ x₂ u₂=>h h₂ (u₁.trans u₂) x₂
theorem aUl(hcl:G.cl=[]):G.env=envOf G.cn G.cf.cs G.L G.a G.ccd:=by
 show envX G.cn G.cf.cs G.L G.a G.ccd G.cl=_
 rw[hcl];rfl
theorem aN7{G':Gd V}{g':Heap}{eh:Value}{hdl:Option Nat}{E2:Value→Shared→Prop}{W':Wd}{σ3:St}{xi:XI}{e:Addr}(T:Turn G (G.at_ g'))(hcl:G.cl=[])(hdp:G.A=G.A₀.deeper G.env)(hk0:xi.kind=0)(he:G'={ G with A:=G.A.mark (some eh),g:=g',cf:=⟨G.cf.cs,hdl,G.cf.lv,false⟩,E:=E2 })(SX:aQe G' W' σ3 xi e)
  (h:∀ W2,W2.ads=W'.ads→aQe (G.at_ g') W2 σ3 ⟨1,xi.C,xi.es,xi.n,xi.ctx⟩ e→G.E (.ref e) (G.st W2)):notedBy G.M (G.A.mark (some eh)) G.env (cameBackBy G.M G.A G.env G.E) (.ref e) (G.st W'):=by
 subst he
 refine aBa SX fun Ld z1_1=>?_
 obtain⟨d,od,a0,EX,SX⟩:=z1_1
 obtain⟨kd,C,es,n,cx⟩:=xi
 cases hk0
 refine bNl SX fun vs F N N2 hsz h2 h1=>?_
 exact aLi (s:=G.st W') (aUl hcl) hdp T.ok.B F T.ok.hk (N2 _ (.head _)).1 hsz h2 h1 fun h₂ u x₂=>h ⟨W'.ads,W'.objs,W'.m,h₂,W'.t⟩ rfl ⟨⟨Ld.O,Ld.len,Ld.nd,Ld.hi⟩,d,od,a0,⟨EX.e_,EX.d_,EX.ed,EX.el,EX.dl,EX.od_,EX.ctx⟩,vs,W'.h,F,N,N2,u,x₂⟩
theorem aOl{o:Out Flw}{named:Bool}{G2:Gd V}{W2:Wd}{Q Q2:Flow→Shared→Prop}(h:Hd G W (hmap named o) (PF G Q))(p0:Pre W.ads W2.ads)
  (kr:∀ {W' σ' y},Sat G2 W' σ'→Pre W.ads W'.ads→(∀ {G' W3},Turn G G'→W3.ads=W'.ads→Sat G' W3 ⟨[],σ'.led,σ'.orc⟩→∀ v,Den W'.ads y v→Q (.ret v) (G.st W3))→∀ v,Den W'.ads y v→Q2 (.ret v) (G2.st W'))
  (kx:∀ {G' W' σ' e} {xi:XI},Turn G2 G'→(xi.kind≠1→G'=G2)→Pre W.ads W'.ads→aQe G' W' σ' xi e→named=false→xi.kind=0→(∀ {G3 W3},Turn G G3→W3.ads=W'.ads→aQe G3 W3 σ' ⟨1,xi.C,xi.es,xi.n,xi.ctx⟩ e→G.E (.ref e) (G.st W3))→G2.E (.ref e) (G2.st W')):Hd G2 W2 o (PF G2 Q2):=by
 induction o with
 |f=>exact h
 |p σ a=>cases a with
  |n=>exact False.elim h
  |r y=>exact fun W' p S v d=>kr S (p0.trans p) (fun {G' W3} T e S3 v d=>h G' W3 T (e▸p0.trans p) S3 v (e▸d)) v d
 |t _ _=>exact False.elim h
 |x σ xi=>exact fun G' W' e T hT p SX=>ifT_e h fun q h=>kx T hT (p0.trans p) SX (aBu (aAc q).1) (Nat.eq_of_beq_eq_true (aAc q).2) fun {G3 W3} T3 e3 SX3=>h G3 W3 e T3 (fun z=>(z rfl).elim) (e3▸p0.trans p) SX3
 |g P o ih=>exact⟨h.1,ih h.2⟩
 |s c o1 o2 i1 i2=>exact⟨fun e=>i1 (h.1 e),fun e=>i2 (h.2 e)⟩
theorem aXv{x:Str}{nm:Option Str}{b₀:Stmt}{suite:List Stmt}{xp hp:Pos}{xi:XI}{e:Addr}{G0:Gd V}{E0:Value→Shared→Prop}{Q:Flow→Shared→Prop}(hnt:G.cf.top=false)(R:Snd V r)(O:Ok G)(S0:Hdl W.ads G.A G.cf.hd)(ho:Own G)(e0:G0={ G with cf:=⟨G.cf.cs,G.cf.hd,G.cf.lv,false⟩,E:=E0 })(SX:aQe G0 W σ xi e)(h:Hd G W (aXw V r G.cf x nm (b₀::suite) σ xi) (PF G Q)) :
  G.wp (noteFrame (.ref e) G.env) (fun _ s₂=>G.wp (setFlight (.ref e) none) (fun _ s₃=>G.wp (handleBy (.ref e) G.env [.ExceptHandler (some (.Name x xp)) nm (b₀::suite) hp]) Q s₃) s₂) (G.st W) :=
 ifT_e h fun q1 h=>ifT_e h fun q2 h=>onO_e h fun u hu h=>onO_e h fun v hv h=>onO_e h fun C hC h=>ifT_e h fun q3 h=>ifT_e h fun q4 h=>by
  subst e0
  have k1:=Nat.eq_of_beq_eq_true (aAc q1).1
  have k2:=aA5 (aAc q1).2
  have k3:=bIy q2
  have k5:=(G.X.vo.ve (aAc q4).1).2
  have k4:nsIn V.K mainGlobals x=some (some (.ref xi.C)):=by
   cases v with
   |ref a=>cases hC;rw[← Nat.eq_of_beq_eq_true q3,(G.X.vo.ns hu).1];subst_vars;rfl
   |_=>cases hC
  refine aBa SX fun Ld z4_1=>?_
  obtain⟨d,od,a0,EX,SX⟩:=z4_1
  obtain⟨kd,C',es,n,cx⟩:=xi
  cases k1
  refine bH2 SX fun hh ads0 objs0 F M N0 len0 p0 fl=>?_
  have hA:=ho.1 hnt
  have hlen:σ.led.length=W.ads.length:=by rw[Ld.O.len,Ld.len]
  have pre:Pre W.ads (W.ads++[e]++[d]):=(Pre.snoc _ _).trans (.snoc _ _)
  have hd2:∀ (A':Around),A'.handled=some (.ref e)→Hdl (W.ads++[e]++[d]) A' (some σ.led.length):=fun A' q=>⟨e,by rw[hlen];exact aEn aBg,q⟩
  have fl':Flown hh (G.env::G.outer) ((ads0.zip objs0).map (·.1)) W.l e C' d od a0 W.h:=by rw[aEo len0];exact fl
  have N0':News G.g G.L hh (ads0.zip objs0++[]):=by rw[List.append_nil];exact N0
  have ln:W.ads.length=W.objs.length:=Ld.len
  -- the ledger behind a catch
  have led:∀ {g' h' vs t} {m':Str→Option Value},vs[2]?=some a0→Fr g' G.L h' m'→News g' G.L h' ((e,exO C' d vs)::(d,od)::(W.l++[]))→MD (W.ads++[e]++[d]) (nmM σ.led.length σ.m nm) m'→Below G.A₀ G.base G.outer g'→V.K.In g'→Top G.X.p G.X.loose G.X.mean G.X.mg G.X.mb g'→KtsDicts G.fs g'→∀ E2,
    Sat { G with A:=G.A.mark (some (.ref e)),g:=g',cf:=⟨G.cf.cs,some σ.led.length,G.cf.lv,false⟩,E:=E2 } ⟨W.ads++[e]++[d],W.objs++[exO C' d vs]++[od],m',h',t⟩ ⟨nmM σ.led.length σ.m nm,σ.led++[.ex C' (σ.led.length+1) cx]++[.ns es n],σ.orc⟩:=fun {g' h' vs t m'} h2 F' N' M' B' K' P' D' E2=>by
   refine⟨⟨B',K',P',O.KB,O.TB,D',O.fr,O.hk,O.dp,O.un,O.tp,fun q=>nomatch q⟩,F',M',fun p hp=>?_,((Ld.O.mono fun _ _=>DenO.mono pre).snoc (show DenO G.X (W.ads++[e]++[d]) (.ex C' (σ.led.length+1) cx) (exO C' d vs) from⟨d,vs,a0,by rw[hlen];have:=aBg (a:=W.ads++[e]) (c:=d);simpa using this,rfl,h2,EX.ctx.mono pre⟩)).snoc (EX.od_.mono pre),by simp[ln],?_,hd2 _ rfl,fun q=>absurd (hnt.symm.trans q) (fun z=>nomatch z)⟩
   ·rw[List.append_nil] at N'
    replace hp:p∈(W.ads++[e]++[d]).zip (W.objs++[exO C' d vs]++[od]):=hp
    rw[aBy (by simp[ln]),aBy ln] at hp
    rcases List.mem_append.mp hp with hp|hp
    ·rcases List.mem_append.mp hp with hp|hp
     ·exact N' p (.tail _ (.tail _ hp))
     ·rw[List.mem_singleton.mp hp];exact N' _ (.head _)
    ·rw[List.mem_singleton.mp hp];exact N' _ (.tail _ (.head _))
   ·rw[List.append_assoc]
    refine List.nodup_append.mpr ⟨Ld.nd,by simp[EX.ed],fun a ha b hb q=>?_⟩
    subst q
    simp only[List.cons_append,List.nil_append,List.mem_cons,List.not_mem_nil,or_false] at hb
    rcases hb with rfl|rfl
    ·exact EX.e_ ha
    ·exact EX.d_ ha
  have tu:∀ {g'},KtsTurn G.fs G.g g'→Below G.A₀ G.base G.outer g'→V.K.In g'→Top G.X.p G.X.loose G.X.mean G.X.mg G.X.mb g'→KtsDicts G.fs g'→Turn G (G.at_ g'):=fun T' B' K' P' D'=>⟨rfl,T',⟨B',K',P',O.KB,O.TB,D',O.fr,O.hk,O.dp,O.un,O.tp,O.own⟩⟩
  refine aBa hA fun hA hcl=>?_
  have hE:=aUl hcl
  cases nm with
  |none =>
   refine aSq hE hA fl' F O.B N0' (aGy fun _ h=>nomatch h) O.KB O.TB O.D .refl k5 k4 (fun h' g' vs hsz h2 T' F' N' B' K' P' D' l1 l2 l3=>?_) O.hk k2 k3
   have t:=tu T' B' K' P' D'
   refine R.bk (led (t:=W.t) h2 F' N' (M.mono pre) B' K' P' D' _) (aOl h pre ?_ ?_)
   ·exact fun {W1 σ1 y} S1 p k v d1=>k t rfl ⟨t.ok,S1.F,(fun _ _ q=>nomatch q),S1.N,S1.O,S1.len,S1.nd,S0.up p,fun q=>absurd (hnt.symm.trans q) (fun z=>nomatch z)⟩ v d1
   ·intro G' W1 σ1 e1 xi1 T1 hT1 p SX1 _ hk0 k
    exact aN7 (g':=g') t hcl hA hk0 (hT1 (by rw[hk0];decide)) SX1 fun W2 e2 SX2=>k t e2 SX2
  |some y =>
   refine aPk hE hA fl' F O.B N0' (aGy fun _ h=>nomatch h) O.KB O.TB O.D .refl k5 k4 (fun h' g' vs hsz h2 T' F' N' B' K' P' D' l1 l2 l3=>?_) O.hk (aA5 (aAc q4).2) k2 k3
   have t:=tu T' B' K' P' D'
   refine R.bk (led (t:=W.t+1) h2 F' N' (MD.put (M.mono pre) ⟨e,by rw[hlen];exact aEn aBg,rfl⟩) B' K' P' D' (fun _ _=>False)) (aOl h pre ?_ ?_)
   ·intro W1 σ1 y1 S1 p k v d1
    rw[hE]
    refine name_goes_keeps S1.F S1.N (fun h4 v4 F4 N4=>?_) O.hk (aA5 (aAc q4).2)
    exact k (W3:=⟨W1.ads,W1.objs,_,h4,_⟩) t rfl ⟨t.ok,F4,(fun _ _ q=>nomatch q),N4,S1.O,S1.len,S1.nd,S0.up p,fun q=>absurd (hnt.symm.trans q) (fun z=>nomatch z)⟩ v d1
   ·exact fun _ _ _ _ q=>nomatch q
theorem aSa{body:List Stmt}{x:Str}{nm:Option Str}{b₀:Stmt}{suite:List Stmt}{xp hp pos:Pos}{Q:Flow→Shared→Prop}(R:Snd V r)(S:Sat G W σ)(h:Hd G W (bEo V r G.cf body x nm (b₀::suite) σ) (PF G Q)):G.wp (exec (.Try body [.ExceptHandler (some (.Name x xp)) nm (b₀::suite) hp] [] [] pos) G.env) Q (G.st W) :=
 ifT_e h fun q1 h=>ifT_e h fun q2 h=>by
  have hnt:=aBu q2
  have hown:=S.ok.own (aAc q1).1
  refine wpAny_Try_except (R.bk (G:={ G with cf:=⟨G.cf.cs,G.cf.hd,G.cf.lv,false⟩,E:=_ }) (W:=W) (σ:=σ) ⟨⟨S.ok.B,S.ok.K,S.ok.T,S.ok.KB,S.ok.TB,S.ok.D,S.ok.fr,S.ok.hk,S.ok.dp,S.ok.un,S.ok.tp,fun q=>nomatch q⟩,S.F,S.M,S.N,S.O,S.len,S.nd,S.hd,S.cl⟩ ?_)
  revert h
  generalize r.bk ⟨G.cf.cs,G.cf.hd,G.cf.lv,false⟩ body σ=o
  intro h
  induction o with
  |f=>exact h
  |p σ1 a=>cases a with
   |n=>exact fun W1 p S1=>wpAny_execs_nil (h W1 p ⟨S.ok,S1.F,S1.M,S1.N,S1.O,S1.len,S1.nd,S1.hd,S1.cl⟩)
   |r y=>exact fun W1 p S1 v d=>h W1 p ⟨S.ok,S1.F,S1.M,S1.N,S1.O,S1.len,S1.nd,S1.hd,S1.cl⟩ v d
  |t _ _=>exact False.elim h
  |x σ1 xi =>
   intro G' W1 e T hT p SX
   have h:=Hd.up p (show Hd G W (aXw V r G.cf x nm (b₀::suite) σ1 xi) (PF G Q) from h)
   have hk:xi.kind=2:=ifT_e h fun q _=>Nat.eq_of_beq_eq_true (aAc q).1
   exact aXv hnt R S.ok (S.hd.up p) hown (hT (by rw[hk];decide)) SX h
  |g P o ih=>exact⟨h.1,ih h.2⟩
  |s c o1 o2 i1 i2=>exact⟨fun e=>i1 (h.1 e),fun e=>i2 (h.2 e)⟩
end
noncomputable def aAk:Nat→Nat→List SO
 | 0,_=>[]
 |n+1,i=>.raw i::aAk n (i+1)
noncomputable def aHv:Nat→Nat→List SO→Bool
 | 0,_,_=>true
 |n+1,i,l=>(match l with
  | []=>false
  |o::r=>(match o with
   | .raw j=>Nat.beq i j&&aHv n (i+1) r
   |_=>false))
noncomputable def aMg(o:Nat→Obj)(ex:List (Addr×Obj))(i:Nat):Obj:=if i<1000 then o i else match gN ex (i-1000) with
 |some p=>p.2
 |none=>⟨.none,none,.plain,#[]⟩
theorem aF9{o:Nat→Obj}{ex:List (Addr×Obj)}{i:Nat}(h:i<1000):aMg o ex i=o i:=if_pos h
theorem aI1{o:Nat→Obj}{ex:List (Addr×Obj)}{i:Nat}{p:Addr×Obj}(h:gN ex i=some p):aMg o ex (1000+i)=p.2:=by
 unfold aMg
 rw[if_neg (by lia),Nat.add_sub_cancel_left,h]
noncomputable def bf{α β:Type}(o:Out α)(k:St→α→Out β):Out β:=match o with
 | .p σ a=>k σ a
 | .g P o=>.g P (bf o k)
 | .s b o₁ o₂=>.s b (bf o₁ k) (bf o₂ k)
 |_=>.f
section
variable {V:Vw}
noncomputable abbrev Gd.wβ(G:Gd V)(β:Bet):Gd V:={ G with X:={ G.X with β:=β } }
noncomputable abbrev exβ(G:Gd V)(ex:List (Addr×Obj)):Gd V:=G.wβ ⟨G.X.β.d,aMg G.X.β.o ex⟩
variable {G G':Gd V} {W W1:Wd} {σ:St}
theorem Hd.bf{α β:Type}{k:St→α→Out β}{Φ:Wd→St→β→Prop}{Ψ:Wd→St→α→Prop}(f:∀ {W' σ a},Sat G' W' σ→Pre W1.ads W'.ads→Hd G W (k σ a) Φ→Ψ W' σ a):∀ {o:Out α},Hd G W (Mine.bf o k) Φ→Hd G' W1 o Ψ
 | .f,h=>h
 | .p _ _,h=>fun _ p S=>f S p h
 | .t _ _,h=>False.elim h
 | .x _ _,h=>False.elim h
 | .g _ _,h=>⟨h.1,Hd.bf f h.2⟩
 | .s _ _ _,h=>⟨fun e=>Hd.bf f (h.1 e),fun e=>Hd.bf f (h.2 e)⟩
theorem Ok.wβ(O:Ok G)(β:Bet):Ok (G.wβ β):=⟨O.B,O.K,O.T,O.KB,O.TB,O.D,O.fr,O.hk,O.dp,O.un,O.tp,O.own⟩
theorem aF4{X:Ctx V}{d:Nat→List (Int×Value)}{oo:Nat→Obj}{ads:List Addr}{all:List (Addr×Obj)}:∀ (ex:List (Addr×Obj)) (i:Nat),(∀ j,gN ex j=gN all (i+j))→All2 (DenO { X with β:=⟨d,aMg oo all⟩ } ads) (aAk ex.length (1000+i)) (ex.map (·.2))
 | [],_,_=>.nil
 |p::r,i,h=>.cons (aI1 (p:=p) (show gN all i=some p from (h 0).symm)).symm (aF4 r (i+1) fun j=>by rw[show i+1+j=i+(j+1) by lia];exact h (j+1))
theorem aDg{α:Type}{a b:List α}{i:Nat}(h:i<a.length):gN (a++b) i=gN a i:=by
 refine aA6 (aAl h) fun d hd=>?_
 rw[hd];exact aEn hd
theorem aCl{α:Type}:∀ {a b:List α} {i:Nat},gN (a++b) (a.length+i)=gN b i
 | [],b,i=>by simp
 |x::a,b,i=>by rw[List.length_cons,Nat.add_right_comm];exact aCl (a:=a)
noncomputable abbrev Wd.ext(W:Wd)(ex:List (Addr×Obj)):Wd:=⟨W.ads++ex.map (·.1),W.objs++ex.map (·.2),W.m,W.h,W.t⟩
theorem Sat.ext(S:Sat G W σ)(hcl:σ.led.all (clO σ.led.length)=true){ex:List (Addr×Obj)}(NX:News G.g G.L W.h ex)(nd:(W.ads++ex.map (·.1)).Nodup) :
  Sat (exβ G ex) (W.ext ex) ⟨σ.m,σ.led++aAk ex.length 1000,σ.orc⟩:=by
 have pre:Pre W.ads (W.ads++ex.map (·.1)):=⟨_,rfl⟩
 have hlen:σ.led.length=W.ads.length:=by rw[S.O.len,S.len]
 refine⟨S.ok.wβ _,S.F,S.M.mono pre,fun p hp=>?_,?_,by simp[S.len],nd,S.hd.up pre,S.clUp pre⟩
 ·replace hp:p∈(W.ads++ex.map (·.1)).zip (W.objs++ex.map (·.2)):=hp
  rw[List.zip_append S.len] at hp
  rcases List.mem_append.mp hp with hp|hp
  ·exact S.N p hp
  ·refine NX p ?_
   rw[List.zip_map'] at hp
   simpa using hp
 ·exact All2.app (All2.cut (P:=clO σ.led.length) (fun x y h d=>DenO.cut (X:=G.X) (β':=(exβ G ex).X.β) rfl (fun j hj=>aF9 hj) (fun i hi=>(aDg (by rw[← hlen];exact hi)).symm) h d) hcl S.O) (aF4 (X:=G.X) ex 0 fun j=>by rw[Nat.zero_add])
theorem aFo{X:Ctx V}{d:Nat→List (Int×Value)}{oo:Nat→Obj}{ads:List Addr}{all:List (Addr×Obj)}:∀ {n i:Nat} {l:List SO} {objs:List Obj},aHv n i l=true→All2 (DenO { X with β:=⟨d,aMg oo all⟩ } ads) l objs→∀ j<n,gN objs j=some (aMg oo all (i+j))
 | 0,_,_,_,_,_,j,h=>absurd h (Nat.not_lt_zero _)
 |n+1,i,[],_,h,_,_,_=>nomatch h
 |n+1,i,x::l,objs,h,a,j,hj=>by
  cases a with
  |cons d a=>cases x with
   |raw q =>
    have h:=aAc h
    have:=Nat.eq_of_beq_eq_true h.1
    subst this
    cases j with
    |zero=>exact congrArg some (show _=aMg oo all i from d)
    |succ j=>rw[show i+(j+1)=i+1+j by lia];exact aFo h.2 a j (by lia)
   |_=>cases h
theorem aPe{α β:Type}{R:α→β→Prop}{l:List α}{m:List β}(h:All2 R l m):∀ k,All2 R (l.drop k) (m.drop k):=by
 induction h with
 |nil=>intro k;rw[List.drop_nil,List.drop_nil];exact .nil
 |cons r t ih=>intro k;cases k with
  |zero=>exact .cons r t
  |succ k=>exact ih k
theorem aOq{α:Type}:∀ {l:List α} {k j:Nat},gN (l.drop k) j=gN l (k+j)
 | [],k,j=>by rw[List.drop_nil];rfl
 |x::l,0,j=>by rw[Nat.zero_add];rfl
 |x::l,k+1,j=>by rw[Nat.add_right_comm];exact aOq (l:=l)
theorem Sat.cut{σ':St}{W0 W':Wd}{ex:List (Addr×Obj)}{σ0:St}(S0:Sat G W0 σ0)(S:Sat (exβ G ex) W' σ')(pre:Pre (W0.ads++ex.map (·.1)) W'.ads)
  (hraw:aHv ex.length 1000 (σ'.led.drop σ0.led.length)=true) (hcl:(σ'.led.take σ0.led.length).all (clO σ0.led.length)=true) (hm:σ'.m.all (fun p=>clV σ0.led.length p.2)=true) :
  Sat G ⟨W0.ads,W'.objs.take σ0.led.length,W'.m,W'.h,W'.t⟩ ⟨σ'.m,σ'.led.take σ0.led.length,σ'.orc⟩∧News G.g G.L W'.h ex:=by
 have hlen:σ0.led.length=W0.ads.length:=by rw[S0.O.len,S0.len]
 refine aA6 pre fun rest hr=>?_
 have hk:∀ i,i<σ0.led.length→gN W'.ads i=gN W0.ads i:=fun i hi=>by
  rw[hr,List.append_assoc];exact aDg (by rw[← hlen];exact hi)
 have tk:W'.ads.take σ0.led.length=W0.ads:=by rw[hr,List.append_assoc,hlen,List.take_left]
 refine⟨⟨S0.ok,S.F,fun x y e=>?_,fun p hp=>S.N p (aDs (n:=σ0.led.length) (by rw[tk];exact hp)),?_,?_,S0.nd,S0.hd,S0.cl⟩,fun p hp=>?_⟩
 ·refine aAd (S.M x y e) fun v h1 h2=>?_
  have e':σ'.m.lookup x=some y:=by rw[← aFn];exact e
  exact⟨v,h1,h2.cut hk (List.all_eq_true.mp hm _ (mem_of_lookup e'))⟩
 ·exact All2.cut (P:=clO σ0.led.length) (fun x y h d=>DenO.cut (X:=(exβ G ex).X) (β':=G.X.β) rfl (fun j hj=>(aF9 hj).symm) hk h d) hcl (S.O.take _)
 ·have:=S.len
  have h2:=congrArg List.length hr
  simp only[List.length_append,List.length_map] at h2
  simp only[List.length_take]
  lia
 ·refine aA6 (aCh hp) fun j hj=>?_
  have:=aFo (X:=G.X) hraw (aPe S.O _) j (aBk hj)
  rw[aOq,aI1 hj] at this
  have ha:gN W'.ads (σ0.led.length+j)=some p.1:=by
   rw[hr,List.append_assoc,hlen,aCl]
   refine aEn ?_
   have:∀ (l:List (Addr×Obj)) (j:Nat),gN l j=some p→gN (l.map (·.1)) j=some p.1:=fun l=>by
    induction l with
    |nil=>intro j h;cases h
    |cons a l ih=>intro j h;cases j with
     |zero=>cases h;rfl
     |succ j=>exact ih j h
   exact this ex j hj
  exact S.N _ (aBe ha this)
end
noncomputable def bH7{α:Type}(k e:Nat)(kk:St→Out α)(σ:St):Out α:=ifT (aHv e 1000 (σ.led.drop k)) (ifT ((σ.led.take k).all (clO k)) (ifT (σ.m.all (fun p=>clV k p.2)) (kk ⟨σ.m,σ.led.take k,σ.orc⟩)))
noncomputable def bDd{α:Type}(a:Flw)(o:Out α):Out α:=match a with
 | .n=>o
 | .r _=>.f
noncomputable def aW4(V:Vw)(r:Rec)(cf:Cf)(elts:List PySem.Expr)(body:List Stmt):List SV→St→Out Flw
 | [],σ=>.p σ .n
 |v::rest,σ=>ifT (σ.led.all (clO σ.led.length)) (ifT (clV σ.led.length v)
   (bf (bIl V r cf elts ⟨σ.m,σ.led++aAk 2 1000,σ.orc⟩ v) fun σ2 _=>bf (r.bk cf body σ2) fun σ3 a=>bDd a (bH7 σ.led.length 2 (fun σ4=>aW4 V r cf elts body rest σ4) σ3)))
noncomputable def aUg(V:Vw)(r:Rec)(cf:Cf)(elts es:List PySem.Expr)(body:List Stmt)(σ:St):Out Flw :=
 ifT (cf.po&&cf.hd.isNone) (bd (r.es cf es σ) fun σ1 vs=>ifT (Nat.ble vs.length 1000) (aW4 V r cf elts body vs σ1))
section
variable {V:Vw} {G:Gd V} {W:Wd} {σ:St} {r:Rec}
theorem aLn{prog:Program}{w:World}{A:Around}{elts:List PySem.Expr}{kk:Nat}{pos:Pos}{I l:Addr}{i:Nat}{v:Value}{s:Shared}{Q:Unit→Shared→Prop}{E:Value→Shared→Prop}(hit:s.heap.IsListIter I l i)(hQ:Q () s):wpAny (model prog w) A (letOwnedTupleGo (.Tuple elts kk pos) (.ref I) v) Q E s:=by
 cases v with
 |ref T=>exact wpAny_letOwnedTupleGo_listiter hit hQ
 |_=>exact wpAny_pure hQ
theorem aUo{α:Type}{k e:Nat}{kk:St→Out α}{Φ:Wd→St→α→Prop}{P:Prop}(h:Hd G W (bH7 k e kk σ) Φ)(g:aHv e 1000 (σ.led.drop k)=true→(σ.led.take k).all (clO k)=true→σ.m.all (fun p=>clV k p.2)=true→Hd G W (kk ⟨σ.m,σ.led.take k,σ.orc⟩) Φ→P):P :=
 ifT_e h fun a h=>ifT_e h fun b h=>ifT_e h fun c h=>g a b c h
theorem aPv(S:Sat G W σ){D:Addr}(lt:∀ p∈W.l,p.1<D){a:Addr}(ha:a∈W.ads):@LT.lt Nat _ a D:=by
 refine aA6 (aCh ha) fun i hi=>?_
 refine aA6 (aAl (l:=W.objs) (S.len▸aBk hi)) fun o ho=>?_
 exact lt _ (aBe hi ho)
theorem aX2{elts es:List PySem.Expr}{body:List Stmt}{kk:Nat}{tp lp pos:Pos}{Q:Flow→Shared→Prop}(R:Snd V r)(S:Sat G W σ)(h:Hd G W (aUg V r G.cf elts es body σ) (PF G Q)):G.wp (exec (.For (.Tuple elts kk tp) (.List es lp) body [] pos) G.env) Q (G.st W) :=
 ifT_e h fun hck h=>by
  have hn:=Option.isNone_iff_eq_none.mp (aAc hck).2
  refine For_turns (h₀:=G.g) S.F (List_ (R.evs S h fun {W1 σ1 vs ws} S1 p1 d1 h1=>ifT_e h1 fun hb h1=>?_)) (fun x=>rfl) (S.ok.own (aAc hck).1).2
  have hb:=Nat.le_of_ble_eq_true hb
  refine newList_K S1.F S1.N (fun D h' F' N' lt=>?_) (by rw[sizeLine_eq,← d1.len];lia)
  have hD:=N' _ (.head _)
  have NL:News G.g G.L h' W1.l:=fun p hp=>N' p (.tail _ hp)
  have hl:h'.IsList D ws.toArray:=News.isList N' (.head _)
  have hDI:D≠h'.objs.size:=Nat.ne_of_lt (Heap.lt_size hD.1)
  have hh:=S1.hd
  rw[hn] at hh
  have ltI:∀ p∈W1.l,p.1<h'.objs.size:=fun p hp=>Heap.lt_size (NL p hp).1
  refine wpAny_pyIter_list hl ?_
  have hI0:G.g.get? h'.objs.size=none:=next_is_new F'
  have DI:@LT.lt Nat _ D h'.objs.size:=Heap.lt_size hD.1
  refine bNb h'.objs.size [h'.objs.size,D] [h'.objs.size] ws.toArray.size _ _ _ W1.m W1.l
   (fun i m₁ news₁=>∃ σi objsi,news₁=W1.ads.zip objsi∧MD W1.ads σi.m m₁∧All2 (DenO G.X W1.ads) σi.led objsi∧W1.ads.length=objsi.length∧Hd G W1 (aW4 V r G.cf elts body (vs.drop i) σi) (PF G Q))
   ⟨rfl,KTurns.ofWalks (Walks.list hh h'.objs.size D hDI ws.toArray) (fun i v s Q E st hq=>aLn st.1 hq),?_,?_,?_,⟨⟨_,Heap.get?_push_size _ rfl,rfl,rfl⟩,hl.at fun o e=>Heap.get?_push_of_some _ e⟩,F'.push _,(fun p hp=>⟨Heap.get?_push_of_some _ (NL p hp).1,(NL p hp).2⟩),⟨σ1,W1.objs,rfl,S1.M,S1.O,S1.len,h1⟩,?_,?_⟩
  ·intro q
   rcases List.mem_cons.mp q with q|q
   ·exact Nat.ne_of_lt F'.ns.lt q
   ·exact hD.2.1 (List.mem_singleton.mp q).symm
  ·intro b q;rw[List.mem_singleton.mp q];exact hI0
  ·intro p hp q;exact Nat.ne_of_lt (ltI p hp) (List.mem_singleton.mp q)
  ·intro i v m₁ news₁ h₁ tk₁ own hi hP hJ hnw own1 own2 own3 st F₁ N₁
   refine aPd hJ fun σi objsi r6_2 Mi Ai leni hi2=>?_
   subst r6_2
   have hPv:ws[i]?=some v:=by simpa using (show ws.toArray[i]?=some v from hP)
   have hiv:i<vs.length:=by rw[d1.len];exact (List.getElem?_eq_some_iff.mp hPv).1
   refine aAd (d1.get (aCq.trans (List.getElem?_eq_getElem hiv))) fun v' hv' dv=>?_
   rw[aCq,hPv] at hv';cases hv'
   rw[List.drop_eq_getElem_cons hiv] at hi2
   refine ifT_e hi2 fun hcl hi2=>ifT_e hi2 fun _ hi2=>?_
   have Ni:News G.g G.L h₁ (W1.ads.zip objsi):=fun p hp=>N₁ p (List.mem_append_right _ hp)
   have Si:Sat G ⟨W1.ads,objsi,m₁,h₁,tk₁⟩ σi:=⟨S1.ok,F₁,Mi,Ni,Ai,leni,S1.nd,S1.hd,S1.cl⟩
   refine aBa st fun z8_0 z8_1=>?_
   refine aAd z8_0 fun oI gI _=>?_
   refine aAd z8_1 fun oD gD _=>?_
   have mI:=own3 h'.objs.size (.head _) hI0 oI gI
   have mD:=own3 D (.tail _ (.head _)) hD.2.2 oD gD
   have NX:News G.g G.L h₁ [(h'.objs.size,oI),(D,oD)]:=fun p hp=>by
    rcases List.mem_cons.mp hp with rfl|hp
    ·exact N₁ _ (List.mem_append_left _ mI)
    ·rw[List.mem_singleton.mp hp];exact N₁ _ (List.mem_append_left _ mD)
   have nd:(W1.ads++[(h'.objs.size,oI),(D,oD)].map (·.1)).Nodup:=by
    refine List.nodup_append.mpr ⟨S1.nd,by simp[Ne.symm hDI],fun a ha b hb e=>?_⟩
    have l1:=aPv S1 lt ha
    simp only[List.map_cons,List.map_nil,List.mem_cons,List.not_mem_nil,or_false] at hb
    rcases hb with rfl|rfl
    ·exact Nat.ne_of_lt (Nat.lt_trans l1 DI) e
    ·exact Nat.ne_of_lt l1 e
   have Sx:=Si.ext hcl NX nd
   refine aMi (G:=exβ G [(h'.objs.size,oI),(D,oD)]) R Sx (dv.mono ⟨_,rfl⟩) (Hd.bf (fun {W2 σ2 _} S2 p2 h2=>R.bk (G:=exβ G [(h'.objs.size,oI),(D,oD)]) S2 (Hd.bf (fun {W3 σ3 a} S3 p3 h3=>?_) h2)) hi2)
   cases a with
   |r _=>exact False.elim h3
   |n =>
    refine aUo (show Hd G W1 (bH7 σi.led.length 2 _ σ3) (PF G Q) from h3) fun c1 c2 c3 h4=>?_
    refine aBa (Sat.cut Si S3 (Pre.trans p2 p3) c1 c2 c3) fun S4 NX4=>?_
    refine LoopStepV.next ⟨rfl,W3.h,W3.t,W3.m,W1.ads.zip (W3.objs.take σi.led.length),rfl,S4.F,fun p hp=>?_,fun p hp q=>?_,⟨_,W3.objs.take σi.led.length,rfl,S4.M,S4.O,S4.len,h4⟩⟩
    ·rcases List.mem_append.mp hp with hp|hp
     ·refine NX4 p ?_
      have g2:=own2 p hp
      rcases List.mem_cons.mp (own1 p hp) with q|q
      ·rw[q,gI] at g2;cases g2;rw[← q];exact .head _
      ·have q:=List.mem_singleton.mp q
       rw[q,gD] at g2;cases g2;rw[← q];exact .tail _ (.head _)
     ·exact S4.N p hp
    ·exact Nat.ne_of_lt (Nat.lt_trans (aPv S1 lt (List.of_mem_zip hp).1) DI) (List.mem_singleton.mp q)
  ·intro h₁ tk₁ m₁ news₁ F₁ N₁ hnw hJ
   refine aPd hJ fun σi objsi r10_2 Mi Ai leni hi2=>?_
   subst r10_2
   have e:vs.drop ws.toArray.size=[]:=by rw[List.drop_eq_nil_iff];simp[d1.len]
   rw[e] at hi2
   exact hi2 ⟨W1.ads,objsi,m₁,h₁,tk₁⟩ (.refl _) ⟨S1.ok,F₁,Mi,N₁,Ai,leni,S1.nd,S1.hd,S1.cl⟩
end
noncomputable def bE2(V:Vw)(r:Rec)(cf:Cf)(b at_ me:Str)(v:SV)(σ:St)(k:St→SV→Out Flw):Out Flw:=onO (V.cells b) fun i=>onO ((gN σ.led i).bind aPj) fun y=>onO (aZj V y at_ σ) fun o=>onA o fun j=>onO (gN σ.led j) fun so=>match so with
 | .inst C d=>aNl σ d fun es _=>onO (V.mt C me) fun f=>ifT (aD3 me es).isNone (bf (r.fn cf f [.a j,v] σ) fun σ2 z=>ifT (num z).isSome (k σ2 z))
 |_=>.f
noncomputable def aSo(V:Vw)(r:Rec)(cf:Cf)(x b at_ me:Str):List SV→List SV→St→Out Flw
 | [],acc,σ=>fin (aFh cf.cs x (.a σ.led.length) (σ.new (.seq false acc acc.length)))
 |v::rest,acc,σ=>ifT (σ.led.all (clO σ.led.length)) (bE2 V r ⟨cf.cs,cf.hd,cf.lv,false⟩ b at_ me v ⟨σ.m,σ.led++aAk 4 1000,σ.orc⟩ fun σ2 z=>bH7 σ.led.length 4 (fun σ4=>aSo V r cf x b at_ me rest (acc++[z]) σ4) σ2)
noncomputable def scN(cs:Scope)(n0 y' b' y b:Str):Bool:=aB5 y' y&&aB5 b' b&&(!(aB5 n0 b)&&!(aB5 y b))&&(!(aB5 n0 y)&&aBv cs b .cell)&&(!(aB5 b "__debug__")&&!(aB5 y "__debug__"))
noncomputable def bI3(cs sc:Scope)(y b:Str):Bool:=match sc.names with
 | [p,q,t]=>decide (p.2=.local)&&decide (q.2=.local)&&decide (t.2=.free)&&decide (sc.kind=.function)&&scN cs p.1 q.1 t.1 y b
 |_=>false
noncomputable def litE:List PySem.Expr→Option (List Int)
 | []=>some []
 |e::r=>(bAr e).bind fun n=>(litE r).map (n::·)
noncomputable def bPj(cs:Scope)(whole:PySem.Expr)(t:PySem.Expr)(ln:Nat):Bool:=(pureOf (swapsWith whole (some t) ln (aYt cs))).getD false
noncomputable def bRa(V:Vw)(r:Rec)(cf:Cf)(whole t:PySem.Expr)(x y y' b at_ me:Str)(ln:Nat)(pk:Bool)(sc:Scope)(es:List PySem.Expr)(σ:St):Out Flw :=
 ifT (pk&&cf.hd.isNone) (ifT (aB5 y y'&&bI3 cf.cs sc y b) (ifT (aBv cf.cs x .local&&cf.top) (ifT (bPj cf.cs whole t ln&&(V.cells b).isSome) (onO (litE es) fun ns=>ifT (Nat.ble ns.length 1000) (aSo V r cf x b at_ me (ns.map .z) [] σ)))))
section
theorem aPi{sc:Scope}{n0 y b:Str}{env:Env}{a:Addr}(hn:sc.names=[(n0,.local),(y,.local),(b,.free)])(ha:env.cells.lookup b=some a):closureFor sc env=pure [(b,a)]:=by
 have hc:cellOf env b=pure a:=by unfold cellOf;rw[ha]
 unfold closureFor
 rw[hn]
 simp only[List.forIn_cons,List.forIn_nil]
 have e1:(NameKind.local==NameKind.free)=false:=by decide
 have e2:(NameKind.free==NameKind.free)=true:=by decide
 simp only[e1,e2,if_true,if_false,Bool.false_eq_true,hc]
 rfl
theorem kind_free{sc:Scope}{n0 y b:Str}{env:Env}{cl:List (Str×Addr)}{C:Addr}(hn:sc.names=[(n0,.local),(y,.local),(b,.free)])(h0:n0≠b)(h1:y≠b)(hk:env.scope.kind=.function)(hb:env.kindOf b=some .cell):(compEnvC sc cl C env).kindOf b=some .cell:=by
 show List.lookup b (relabel sc env).names=some .cell
 unfold relabel
 dsimp only
 rw[hn]
 have e0:(b==n0)=false:=beq_eq_false_iff_ne.mpr (Ne.symm h0)
 have e1:(b==y)=false:=beq_eq_false_iff_ne.mpr (Ne.symm h1)
 simp[List.lookup_cons,e0,e1,hk,hb]
theorem aKm{sc:Scope}{n0 y b:Str}{env:Env}{cl:List (Str×Addr)}{C:Addr}(hn:sc.names=[(n0,.local),(y,.local),(b,.free)])(h0:n0≠y):(compEnvC sc cl C env).kindOf y=some .local:=by
 show List.lookup y (relabel sc env).names=some .local
 unfold relabel
 dsimp only
 rw[hn]
 have e0:(y==n0)=false:=beq_eq_false_iff_ne.mpr (Ne.symm h0)
 simp[List.lookup_cons,e0]
theorem aKe{D:Addr}:∀ {l:List (Addr×Obj)},LCg.Off1 D l→∀ p∈l,p.1≠D
 | [],_,_,h=>nomatch h
 |q::r,h,p,hp=>by
  rcases List.mem_cons.mp hp with rfl|hp
  ·exact h.1
  ·exact aKe h.2 p hp
theorem aWy{ads:List Addr}{y:SV}{v:Value}(h:(num y).isSome=true)(d:Den ads y v):∀ {b:List Addr},Den b y v:=by
 intro b
 cases y with
 |z n=>exact d
 |i n=>exact d
 |_=>cases h
theorem aGc{M:Model}{A:Around}{env:Env}{pos:Pos}:∀ {es:List PySem.Expr} {ns:List Int} {s:Shared} {Qs:List Value→Shared→Prop} {E:Value→Shared→Prop},litE es=some ns→(∀ ws t,(∀ b:List Addr,Dens b (ns.map .z) ws)→Qs ws { s with toks:=t })→wpAny M A (spliced (backTo pos (starEach es env))) Qs E s:=by
 intro es
 induction es with
 |nil=>intro ns s Qs E h g;cases h;exact args_nil (g [] s.toks fun _=>.nil)
 |cons e r ih =>
  intro ns s Qs E h g
  refine aAd (Option.bind_eq_some_iff.mp h) fun n h1 h=>?_
  refine aAd (Option.map_eq_some_iff.mp h) fun l hl r1_2=>?_
  subst r1_2
  refine bAq (aEw h1) fun _ _ r2_2=>?_
  subst r2_2
  exact args_cons (wpAny_Constant_int (ih hl fun ws t a=>g _ t fun b=>.cons ⟨_,rfl⟩ (a b))) (aAb rfl)
theorem aVj{cs sc:Scope}{y b:Str}(h:bI3 cs sc y b=true):∃ n0,sc.names=[(n0,.local),(y,.local),(b,.free)]∧sc.kind=.function∧n0≠b∧y≠b∧n0≠y∧cs.names.lookup b=some .cell∧(b==("__debug__":Str))=false∧(y==("__debug__":Str))=false:=by
 unfold bI3 at h
 cases e:sc.names with
 |nil=>rw[e] at h;cases h
 |cons p l=>cases l with
  |nil=>rw[e] at h;cases h
  |cons q l=>cases l with
   |nil=>rw[e] at h;cases h
   |cons t l=>cases l with
    |cons _ _=>rw[e] at h;cases h
    |nil =>
     rw[e] at h
     obtain⟨p1,p2⟩:=p
     obtain⟨q1,q2⟩:=q
     obtain⟨t1,t2⟩:=t
     simp only[Bool.and_eq_true,decide_eq_true_eq,scN,Bool.not_eq_true'] at h
     obtain⟨⟨⟨⟨rfl,rfl⟩,rfl⟩,hk⟩,⟨⟨⟨h1,h2⟩,h3,h4⟩,h5,h7⟩,h8,h9⟩:=h
     have h1:=aCj h1
     have h2:=aCj h2
     subst h1 h2
     exact⟨p1,rfl,hk,aCk.mp h3,aCk.mp h4,aCk.mp h5,aA5 h7,aJz h8,aJz h9⟩
end
section
variable {V:Vw} {G:Gd V} {W:Wd} {σ:St} {r:Rec}
theorem aSp{b at_ me y n0:Str}{bp ap mp yp cp:Pos}{sc:Scope}{ca:Addr}{ci:Nat}{C:Addr}{m₂:Str→Option Value}{v0:SV}{v:Value}{Q:Value→Shared→Prop}{W0:Wd}{G0:Gd V}{Φ:Wd→St→Flw→Prop}{k:St→SV→Out Flw}(R:Snd V r)(S:Sat G W σ)
  (hsc:sc.names=[(n0,.local),(y,.local),(b,.free)]) (hk:sc.kind=.function) (h0b:n0≠b) (hyb:y≠b) (h0y:n0≠y) (hcb:G.cf.cs.names.lookup b=some .cell) (hdb:(b==("__debug__":Str))=false) (hdy:(y==("__debug__":Str))=false)
  (hp:(mp.endLine==cp.line)=true) (hV:V.cells b=some ci) (hci:gN W.ads ci=some ca) (hNs:W.h.Ns C m₂) (hx:m₂ y=some v) (dv:Den W.ads v0 v) (h:Hd G0 W0 (bE2 V r G.cf b at_ me v0 σ k) Φ)
  (g:∀ {W2 σ2 z u},Sat G W2 σ2→Pre W.ads W2.ads→W2.m=W.m→(∀ ads,Den ads z u)→Hd G0 W0 (k σ2 z) Φ→Q u (G.st W2)) :
  G.wp (eval (.Call (.Attribute (.Attribute (.Name b bp) at_ ap) me mp) [.Name y yp] [] cp) (compEnvC sc [(b,ca)] C G.env)) Q (G.st W) :=
 onO_e h fun i hi h=>onO_e h fun y0 hy0 h=>onO_e h fun o ho hz=>by
  cases hV.symm.trans hi
  refine aAd (Option.bind_eq_some_iff.mp hy0) fun so h1 h2=>?_
  refine aDm (S.slot h1 hci) fun oc q1 q2 d=>?_
  cases so with
  |cell yy =>
   cases h2
   refine aAd d fun vc dvc hdc=>?_
   refine aOc (env:=compEnvC sc [(b,ca)] C G.env) rfl rfl rfl hp fun pl=>?_
   refine Attribute_Name_ (ldCellK (c:=ca) (v:=vc) (by simp) ⟨oc,(S.N _ q2).1,hdc⟩ (aKx S dvc ho fun t1 u1 du1=>?_) hk (kind_free hsc h0b hyb S.ok.hk hcb) hdb)
   have S1:=S.tok t1
   refine aDn hz du1 fun j xx hj h=>onO_e h fun so hso h=>?_
   refine aDm (S1.slot hso hj) fun oi k1 k2 d=>?_
   cases so with
   |inst C1 dd =>
    refine aAd d fun dx hdx r12_2=>?_
    subst r12_2
    refine aA6 (aAl (l:=σ.led) (i:=dd) (by rw[S.O.len,← S.len];exact aBk hdx)) fun so2 hs2=>?_
    refine aDm (S1.slot hs2 hdx) fun o2 k3 k4 d2=>?_
    replace h:Hd G0 W0 (aNl σ dd _) Φ:=h
    unfold aNl at h
    rw[hs2] at h
    cases so2 with
    |ns es n =>
     refine aAd d2 fun l al r15_2=>?_
     subst r15_2
     refine onO_e h fun f hf h=>ifT_e h fun hno h=>?_
     have km:=G.X.vo.mt hf
     refine method_inst S1.F S.ok.K (InstAt.of_news S1.N k2 k4) km.1 km.2.1 km.2.2.1 (aEk al (Option.isNone_iff_eq_none.mp hno)) ?_
     refine callWith_K S.ok.K km.2.2.2 (args_cons (ldVarK hNs hx (args_nil ⟨S1.K,?_⟩) hk (aKm hsc h0y) hdy) (aAb rfl)) (aAb rfl) rfl
     refine wpAny_call (codeAny_mono (R.fn (Q:=Q) (W:=W.tok t1) (args:=[.a j,v0]) (vs:=[.ref xx,v]) S1 (.cons ⟨xx,hj,rfl⟩ (.cons dv .nil)) (Hd.bf (W:=W0) (G:=G0) (G':=G) (W1:=W.tok t1) (Ψ:=PC G W.m Q) (fun {W2 σ2 z} S2 p2 h2 em u du=>ifT_e h2 fun hz h2=>g S2 p2 em (fun _=>aWy hz du) h2) h)) fun rr s' z=>by
      rcases rr with e|fl
      ·exact z
      ·cases fl<;>first|exact z|exact z.elim)
    |_=>exact False.elim h
   |_=>exact h.elim
  |_=>exact nn h2
theorem bNs{x b at_ me y n0:Str}{bp ap mp yp cp:Pos}{sc:Scope}{ca D0:Addr}{o0:Obj}{its:Array Value}{k0:Nat}{hb:Heap}{tb:Nat}{Fin:List Value→List (Addr×Obj)→Prop}{ci:Nat}{Q:Flow→Shared→Prop}(R:Snd V r)(S:Sat G W σ)(hn:G.cf.hd=none)
  (hsc:sc.names=[(n0,.local),(y,.local),(b,.free)]) (hk:sc.kind=.function) (h0b:n0≠b) (hyb:y≠b) (h0y:n0≠y) (hcb:G.cf.cs.names.lookup b=some .cell) (hdb:(b==("__debug__":Str))=false) (hdy:(y==("__debug__":Str))=false)
  (hp:(mp.endLine==cp.line)=true) (hV:V.cells b=some ci) (hci:gN W.ads ci=some ca) (hD0:D0∉W.ads) (ho0:o0={ cls:=.type "list",data:=.seq its k0 })
  (hFin:∀ σ' objs' acc' ys',Dens W.ads acc' ys'→MD W.ads σ'.m W.m→All2 (DenO G.X W.ads) σ'.led objs'→W.ads.length=objs'.length→Hd G W (aSo V r G.cf x b at_ me [] acc' σ') (PF G Q)→Fin ys' ((D0,o0)::W.ads.zip objs')) :
  ∀ (vs:List SV) (i:Nat) (acc:List SV) (ys:List Value) (σ:St) (objs:List Obj),(∀ j y,gN vs j=some y→∃ v,its[i+j]?=some v∧Den W.ads y v)→Dens W.ads acc ys→MD W.ads σ.m W.m→All2 (DenO G.X W.ads) σ.led objs→W.ads.length=objs.length →
   Hd G W (aSo V r G.cf x b at_ me vs acc σ) (PF G Q) →
   LCg.CompRest G.X.prog G.X.w G.A G.g G.L W.m G.env (.Call (.Attribute (.Attribute (.Name b bp) at_ ap) me mp) [.Name y yp] [] cp) y sc [(b,ca)] ⟨hb,G.gens,G.drawn,tb,G.os⟩ (LCg.SrcAt G.g D0 its) (fun i v=>its[i]?=some v) Fin vs.length i ys ((D0,o0)::W.ads.zip objs):=by
 intro vs
 induction vs with
 |nil=>intro i acc ys σ objs _ a M A2 len h;exact LCg.CompRest.zero (hFin σ objs acc ys a M A2 len h)
 |cons w0 rest ih =>
  intro i acc ys σ objs hv a M A2 len h
  refine LCg.CompRest.succ ?_
  intro v I oI C oC D m₂ hp0 tk E' hP hC hx F N off ne3
  have N0:News G.g G.L hp0 (W.ads.zip objs):=fun p q=>N p (.tail _ (.tail _ (.tail _ (.tail _ q))))
  refine aAd (hv 0 w0 rfl) fun v' hv' dv=>?_
  rw[Nat.add_zero,show its[i]?=some v from hP] at hv'
  cases hv'
  refine ifT_e h fun hck h=>?_
  have Si:Sat { G with cf:=⟨G.cf.cs,G.cf.hd,G.cf.lv,false⟩,E:=E' } ⟨W.ads,objs,W.m,hp0,tk⟩ σ:=⟨⟨S.ok.B,S.ok.K,S.ok.T,S.ok.KB,S.ok.TB,S.ok.D,S.ok.fr,S.ok.hk,S.ok.dp,S.ok.un,S.ok.tp,fun q=>nomatch q⟩,F,M,N0,A2,len,S.nd,S.hd,S.cl⟩
  have S0:Sat G ⟨W.ads,objs,W.m,hp0,tk⟩ σ:=⟨S.ok,F,M,N0,A2,len,S.nd,S.hd,S.cl⟩
  have NX:News G.g G.L hp0 [(I,oI),(C,oC),(D,LCg.lst ys),(D0,o0)]:=fun p q=>N p (by
   simp only[List.mem_cons,List.not_mem_nil,or_false] at q ⊢
   rcases q with q|q|q|q
   ·exact .inl q
   ·exact .inr (.inl q)
   ·exact .inr (.inr (.inl q))
   ·exact .inr (.inr (.inr (.inl q))))
  have offm:=off.mem
  have apart:∀ a∈W.ads,a≠I∧a≠C∧a≠D:=fun a ha=>by
   refine aA6 (aCh ha) fun j hj=>?_
   refine aA6 (aAl (l:=objs) (len▸aBk hj)) fun o ho=>?_
   exact offm _ (.tail _ (aBe hj ho))
  have o3:=offm (D0,o0) (.head _)
  have nd2:(W.ads++[I,C,D,D0]).Nodup:=by
   refine List.nodup_append.mpr ⟨S.nd,?_,fun a ha b hb e=>?_⟩
   ·simp only[List.nodup_cons,List.mem_cons,List.not_mem_nil,or_false,not_or,not_false_eq_true,List.nodup_nil,and_true]
    exact⟨⟨ne3.1,ne3.2.1,fun e=>o3.1 e.symm⟩,⟨ne3.2.2,fun e=>o3.2.1 e.symm⟩,fun e=>o3.2.2 e.symm⟩
   ·subst e
    simp only[List.mem_cons,List.not_mem_nil,or_false] at hb
    have q:=apart a ha
    rcases hb with rfl|rfl|rfl|rfl
    ·exact q.1 rfl
    ·exact q.2.1 rfl
    ·exact q.2.2 rfl
    ·exact hD0 ha
  have Sx:=Si.ext hck NX nd2
  have pre:Pre W.ads (W.ads++[I,C,D,D0]):=⟨_,rfl⟩
  refine aSp (G:=exβ { G with cf:=⟨G.cf.cs,G.cf.hd,G.cf.lv,false⟩,E:=E' } [(I,oI),(C,oC),(D,LCg.lst ys),(D0,o0)]) R Sx hsc hk h0b hyb h0y hcb hdb hdy hp hV (pre.get hci) (hC.ns (N _ (.tail _ (.head _))).1) hx (dv.mono pre) h fun {W2 σ2 z u} S2 p2 em dz h2=>aUo h2 fun c1 c2 c3 h4=>?_
  refine aBa (Sat.cut Si S2 p2 c1 c2 c3) fun S4 NX4=>?_
  have em:W2.m=W.m:=em
  refine⟨W2.h,W2.t,(D0,o0)::W.ads.zip (W2.objs.take σ.led.length),rfl,em▸S4.F,fun p q=>?_,⟨o3,LCg.Off3.of fun p q=>apart _ (List.of_mem_zip q).1⟩,.inr ⟨o0,.head _,by rw[ho0],k0,by rw[ho0]⟩,ih (i+1) (acc++[z]) (ys++[u]) _ _ (fun j' y' e=>?_) (a.snoc (dz _)) (em▸S4.M) S4.O S4.len h4⟩
  ·simp only[List.mem_cons] at q
   rcases q with q|q|q|q|q
   ·exact NX4 _ (q▸.head _)
   ·exact NX4 _ (q▸.tail _ (.head _))
   ·exact NX4 _ (q▸.tail _ (.tail _ (.head _)))
   ·exact NX4 _ (q▸.tail _ (.tail _ (.tail _ (.head _))))
   ·exact S4.N _ q
  ·have:=hv (j'+1) y' e
   rwa [show i+1+j'=i+(j'+1) by omega]
theorem aYj{x y y' b at_ me:Str}{xp bp ap mp yp cp tp lp pos sp:Pos}{sc:Scope}{es:List PySem.Expr}{Q:Flow→Shared→Prop}(R:Snd V r)(S:Sat G W σ)
  (h:Hd G W (bRa V r G.cf (.ListComp (.Call (.Attribute (.Attribute (.Name b bp) at_ ap) me mp) [.Name y' yp] [] cp) [⟨.Name y tp,.List es lp,[],0⟩] sc pos) (.Name x xp) x y y' b at_ me sp.line (mp.endLine==cp.line) sc es σ) (PF G Q)) :
  G.wp (exec (.Assign [.Name x xp] (.ListComp (.Call (.Attribute (.Attribute (.Name b bp) at_ ap) me mp) [.Name y' yp] [] cp) [⟨.Name y tp,.List es lp,[],0⟩] sc pos) sp) G.env) Q (G.st W) :=
 ifT_e h fun q1 h=>ifT_e h fun q2 h=>ifT_e h fun q3 h=>ifT_e h fun q4 h=>onO_e h fun ns hns h=>ifT_e h fun hb hz=>by
  have hn:=Option.isNone_iff_eq_none.mp (aAc q1).2
  cases aCj (aAc q2).1
  refine cAq (aVj (aAc q2).2) fun n0 hn0 hkind h0b hyb h0y hcb hdb hdy=>?_
  refine aA6 (Option.isSome_iff_exists.mp (aAc q4).2) fun ci hci=>?_
  refine aAd (S.cl (aAc q3).2 b ci hci) fun ca hca hla=>?_
  have k5:=aA5 (aAc q3).1
  have hh:=S.hd
  rw[hn] at hh
  have hb:=Nat.le_of_ble_eq_true hb
  refine LCg.Assign_ListComp_U (F₀:=S.F) (cl:=[(b,ca)]) rfl ?_ (aPi hn0 hla) (by rw[hn0];simp) hkind (by rw[hn0];simp[List.lookup_cons,beq_eq_false_iff_ne.mpr (Ne.symm h0y)]) (by rw[hn0];simp[List.lookup_cons,beq_eq_false_iff_ne.mpr (Ne.symm h0y)]) k5 (by rw[show G.env.scope.kind=.function from S.ok.hk];rfl) ?_ (fun _=>rfl)
  ·have k7:=(aAc q4).1
   unfold bPj at k7
   cases e:pureOf (swapsWith (.ListComp (.Call (.Attribute (.Attribute (.Name b bp) at_ ap) me mp) [.Name y yp] [] cp) [⟨.Name y tp,.List es lp,[],0⟩] sc pos) (some (.Name x xp)) sp.line (aYt G.cf.cs)) with
   |none=>rw[e] at k7;cases k7
   |some c=>rw[e] at k7;cases (show c=true from k7);exact of_pureOf e
  ·refine List_ (aGc hns fun ws t aw=>?_)
   have hwl:ws.length=ns.length:=by have:=(aw []).len;simpa using this.symm
   refine newList_K (s:={ G.st W with toks:=t }) S.F S.N (fun D0 h' F' N' lt=>?_) (by rw[sizeLine_eq];omega)
   refine LCg.CompSrc.ledger hh F' N' (.head _) (by rw[sizeLine_eq,List.size_toArray];omega) fun g=>?_
   have hD0:D0∉W.ads:=fun q=>Nat.lt_irrefl _ (aPv S lt q)
   rw[List.size_toArray,hwl,← List.length_map (f:=SV.z) (as:=ns)]
   refine bNs (x:=x) (its:=ws.toArray) (o0:=PySem.W.listOf ws.toArray 0) R S hn hn0 hkind h0b hyb h0y hcb hdb hdy (aAc q1).1 hci hca hD0 rfl (fun σ' objs' acc' ys' a M' A2' len' h2=>?_) (ns.map .z) 0 [] [] σ W.objs (fun j y0 e=>?_) .nil S.M S.O S.len hz
   ·intro D hq tk FD ND o1
    replace h2:Hd G W (fin (aFh G.cf.cs x (.a σ'.led.length) (σ'.new (.seq false acc' acc'.length)))) (PF G Q):=h2
    refine ifT_e (aH4 h2) fun _ h2=>?_
    have off:=aKe o1
    have nD:D∉W.ads:=fun q=>by
     refine aA6 (aCh q) fun i hi=>?_
     refine aA6 (aAl (l:=objs') (len'▸aBk hi)) fun o ho=>?_
     exact off _ (.tail _ (aBe hi ho)) rfl
    have pre:Pre W.ads (W.ads++[D]):=.snoc _ _
    refine h2 ⟨W.ads++[D],objs'++[LCg.lst ys'],_,hq,tk⟩ pre ⟨S.ok,FD,MD.put (M'.mono pre) ⟨D,by rw[A2'.len,← len'];exact aBg,rfl⟩,fun p hp=>?_,(A2'.mono fun _ _=>DenO.mono pre).snoc ⟨ys',a.mono pre,by rw[a.len];rfl⟩,by simp[len'],?_,S.hd.up pre,S.clUp pre⟩
    ·replace hp:p∈(W.ads++[D]).zip (objs'++[LCg.lst ys']):=hp
     rw[aBy len'] at hp
     rcases List.mem_append.mp hp with hp|hp
     ·exact ND p (.tail _ (.tail _ hp))
     ·rw[List.mem_singleton.mp hp];exact ND _ (.head _)
    ·refine List.nodup_append.mpr ⟨S.nd,by simp,fun a ha b hb e=>?_⟩
     rw[List.mem_singleton.mp hb] at e
     exact nD (e▸ha)
   ·refine aAd ((aw W.ads).get e) fun v e1 e2=>?_
    exact⟨v,by rw[Nat.zero_add];simpa using aCq.symm.trans e1,e2⟩
end
noncomputable abbrev Hook:=Cf→Addr→List SV→St→Option (Out SV)
noncomputable abbrev LcT:=(PySem.Expr×List Comprehension×Scope×Pos)×(PySem.Expr×List PySem.Expr×List Keyword×Pos)×(PySem.Expr×Str×Pos)×(PySem.Expr×Str×Pos)×(Str×Pos)×(Str×Pos)×(Str×Pos)×List PySem.Expr×Pos
noncomputable def lcI(i:Comprehension):Option ((Str×Pos)×List PySem.Expr×Pos):=(asN i.target).bind fun j=>(asL i.iter).bind fun l=>bif i.ifs.isEmpty&&i.is_async==0 then some (j,l) else none
theorem bMz{i:Comprehension}{q:(Str×Pos)×List PySem.Expr×Pos}(h:lcI i=some q):i=⟨.Name q.1.1 q.1.2,.List q.2.1 q.2.2,[],0⟩ :=
 aAd (Option.bind_eq_some_iff.mp h) fun j hj h=>aAd (Option.bind_eq_some_iff.mp h) fun l hl h=>aBa (aGx h) fun q h=>by
  rw[← Option.some.inj h]
  obtain⟨it,ii,ifs,as⟩:=i
  rw[← aDh hj,← bFm hl,← List.isEmpty_iff.mp (aAc q).1,← beq_iff_eq.mp (aAc q).2]
noncomputable def lcW(v:PySem.Expr):Option LcT :=
 (asG v).bind fun a=>(asC a.1).bind fun b=>(asA b.1).bind fun c=>(asA c.1).bind fun d=>(asN d.1).bind fun e=>(one b.2.1).bind fun f=>(asN f).bind fun g=>(one a.2.1).bind fun i=>(lcI i).bind fun l=>bif b.2.2.1.isEmpty then some (a,b,c,d,e,g,l.1,l.2) else none
noncomputable def lcE(z:LcT):PySem.Expr:=.ListComp (.Call (.Attribute (.Attribute (.Name z.2.2.2.2.1.1 z.2.2.2.2.1.2) z.2.2.2.1.2.1 z.2.2.2.1.2.2) z.2.2.1.2.1 z.2.2.1.2.2) [.Name z.2.2.2.2.2.1.1 z.2.2.2.2.2.1.2] [] z.2.1.2.2.2) [⟨.Name z.2.2.2.2.2.2.1.1 z.2.2.2.2.2.2.1.2,.List z.2.2.2.2.2.2.2.1 z.2.2.2.2.2.2.2.2,[],0⟩] z.1.2.2.1 z.1.2.2.2
theorem bMy{v:PySem.Expr}{z:LcT}(h:lcW v=some z):v=lcE z :=
 aAd (Option.bind_eq_some_iff.mp h) fun a ha h=>aAd (Option.bind_eq_some_iff.mp h) fun b hb h=>aAd (Option.bind_eq_some_iff.mp h) fun c hc h=>aAd (Option.bind_eq_some_iff.mp h) fun d hd h=>aAd (Option.bind_eq_some_iff.mp h) fun e he h=>aAd (Option.bind_eq_some_iff.mp h) fun f hf h=>aAd (Option.bind_eq_some_iff.mp h) fun g hg h=>aAd (Option.bind_eq_some_iff.mp h) fun i hi h=>aAd (Option.bind_eq_some_iff.mp h) fun l hl h=>aBa (aGx h) fun q h=>by
  rw[← Option.some.inj h,bOk ha,bFn hb,aL8 hc,aL8 hd,aDh he,aQ9 hf,aDh hg,aQ9 hi,bMz hl,List.isEmpty_iff.mp q]
  rfl
noncomputable def bQq(V:Vw)(r:Rec)(cf:Cf)(x:Str)(xp:Pos)(v:PySem.Expr)(sp:Pos)(σ:St):Out Flw :=
 onO (lcW v) fun z=>bRa V r cf (lcE z) (.Name x xp) x z.2.2.2.2.2.2.1.1 z.2.2.2.2.2.1.1 z.2.2.2.2.1.1 z.2.2.2.1.2.1 z.2.2.1.2.1 sp.line (z.2.2.1.2.2.endLine==z.2.1.2.2.2.line) z.1.2.2.1 z.2.2.2.2.2.2.2.1 σ
noncomputable def aYe(V:Vw)(r:Rec)(cf:Cf)(ts:List PySem.Expr)(v:PySem.Expr)(sp:Pos)(σ:St):Out Flw:=match ts with
 | [t]=>(match aEi v with
  |true=>fin (asg V r cf t v σ)
  |false=>onO (asN t) fun n=>bQq V r cf n.1 n.2 v sp σ)
 |_=>.f
noncomputable def bQ1(σ:St)(y:SV):Out Flw:=onA y fun i=>onSeq σ i fun tup vs _=>ifT (!tup&&vs.isEmpty) (.p σ .n)
noncomputable def bEl(V:Vw)(r:Rec)(cf:Cf)(t iter:PySem.Expr)(body:List Stmt)(σ:St):Out Flw:=alt (asT t) (fun q=>onO (asL iter) fun l=>aUg V r cf q.1 l.1 body σ)
 (onO (asN t) fun n=>ifT (aRq iter.ctorIdx [20,23]) (ifT (cf.po&&cf.hd.isNone) (ifT (aBv cf.cs n.1 .local) (bd (r.e cf iter σ) bQ1))))
noncomputable def aF5(c:PySem.Expr)(k:Str→List PySem.Expr→Out Flw):Out Flw:=onO (asC c) fun a=>onO (asN a.1) fun n=>ifT a.2.2.1.isEmpty (k n.1 a.2.1)
noncomputable def bQw(c:Const):Bool:=Nat.beq c.ctorIdx 0
theorem bD9{c:Const}(h:bQw c=true):c=.none:=Const.none.elim (motive:=fun c=>c=.none) c (Nat.eq_of_beq_eq_true h) rfl
noncomputable def aO3(V:Vw)(r:Rec)(cf:Cf)(e c:Option PySem.Expr)(σ:St):Out Flw:=match e with
 |some e=>(match c with
  |none=>ifT cf.hd.isNone (aF5 e fun x args=>aEr V r cf false x args σ)
  |some c=>onO (asK c) fun k=>ifT (bQw k.1) (ifT cf.hd.isSome (aF5 e fun x args=>aEr V r cf true x args σ)))
 |none=>.f
noncomputable def bEk(V:Vw)(r:Rec)(cf:Cf)(body:List Stmt)(hs:List ExceptHandler)(σ:St):Out Flw:=onO (one hs) fun h=>(match h with
 | .ExceptHandler e nm suite _=>onO e fun e=>onO (asN e) fun n=>(match suite with
  |b₀::suite=>bEo V r cf body n.1 nm (b₀::suite) σ
  | []=>.f))
noncomputable def aUe(V:Vw)(r:Rec)(cf:Cf)(st:Stmt)(σ:St):Out Flw:=match st with
 | .Expr e _=>ifT (aEi e) (bd (r.e cf e σ) fun σ1 _=>.p σ1 .n)
 | .Assign ts v sp=>aYe V r cf ts v sp σ
 | .AugAssign t op v _=>(match op with
  | .Add=>fin (aug V r cf t v σ)
  |_=>.f)
 | .If t b o _=>bd (r.b cf t σ) fun σ1 q=>r.bk cf (bif q then b else o) σ1
 | .Return e _=>bNc r cf e σ
 | .Pass _=>.p σ .n
 | .While t b o _=>ifT (cf.po&&o.isEmpty) (aJd r cf t b 10 σ)
 | .For t iter body o _=>ifT o.isEmpty (bEl V r cf t iter body σ)
 | .Raise e c _=>aO3 V r cf e c σ
 | .Try body hs o f _=>ifT (o.isEmpty&&f.isEmpty) (bEk V r cf body hs σ)
 |_=>.f
noncomputable def bIs(V:Vw)(hk:Hook)(r:Rec):Rec where
 e:=fun cf x σ=>evE V r cf x σ
 es:=fun cf l σ=>bRc r cf l σ
 b:=fun cf x σ=>evB V r cf x σ
 st:=fun cf s σ=>aUe V r cf s σ
 bk:=fun cf l σ=>exB r cf l σ
 fn:=fun cf f args σ=>match hk cf f args σ with
  |some o=>o
  |none=>bNe V r cf f args σ
noncomputable def aZz(V:Vw)(hk:Hook):Nat→Rec
 | 0=>⟨fun _ _ _=>.f,fun _ _ _=>.f,fun _ _ _=>.f,fun _ _ _=>.f,fun _ _ _=>.f,fun _ _ _ _=>.f⟩
 |n+1=>bIs V hk (aZz V hk n)
noncomputable def aPy(V:Vw)(hk:Hook):Prop:=∀ {G:Gd V} {W:Wd} {σ:St} {f:Addr} {args:List SV} {vs:List Value} {Q:Value→Shared→Prop} {o:Out SV},Sat G W σ→Dens W.ads args vs→hk G.cf f args σ=some o →
 Hd G W o (PC G W.m Q)→codeAny G.M G.A (.call (.ref f) ⟨vs,[]⟩) (aJm Q G.E) (G.st W)
theorem noHook{V:Vw}:aPy V (fun _ _ _ _=>none):=fun _ _ h=>nomatch h
section
variable {V:Vw} {G:Gd V} {W:Wd} {σ:St} {r:Rec} {Q:Flow→Shared→Prop}
theorem aXd{x:Str}{xp sp:Pos}{v:PySem.Expr}(R:Snd V r)(S:Sat G W σ)(h:Hd G W (bQq V r G.cf x xp v sp σ) (PF G Q)):G.wp (exec (.Assign [.Name x xp] v sp) G.env) Q (G.st W) :=
 onO_e h fun z hz h=>by
  rw[bMy hz]
  exact aYj R S h
theorem aR8{ts:List PySem.Expr}{sp:Pos}{v:PySem.Expr}(R:Snd V r)(S:Sat G W σ)(h:Hd G W (aYe V r G.cf ts v sp σ) (PF G Q)):G.wp (exec (.Assign ts v sp) G.env) Q (G.st W):=by
 cases ts with
 |nil=>exact h.elim
 |cons t ts=>cases ts with
  |cons _ _=>exact h.elim
  |nil =>
   unfold aYe at h
   cases e:aEi v with
   |true=>simp only[e] at h;exact bFh e R S h
   |false =>
    simp only[e] at h
    refine onO_e h fun n hn h=>?_
    rw[aDh hn]
    exact aXd R S h
theorem aX3{x:Str}{xp pos:Pos}{iter:PySem.Expr}{body:List Stmt}(hset:∀ v,foldedSetIterable iter G.env v=pure v)(R:Snd V r)(S:Sat G W σ)(h:Hd G W (ifT (G.cf.po&&G.cf.hd.isNone) (ifT (aBv G.cf.cs x .local) (bd (r.e G.cf iter σ) bQ1))) (PF G Q)):G.wp (exec (.For (.Name x xp) iter body [] pos) G.env) Q (G.st W) :=
 ifT_e h fun q h=>ifT_e h fun hk h=>by
  have hn:=Option.isNone_iff_eq_none.mp (aAc q).2
  refine For_invVF (h₀:=G.g) (m:=W.m) S.F (aA5 hk) (by rw[show G.env.scope.kind=.function from S.ok.hk];rfl) (R.ev S h fun {W1 σ1 y1 v1} S1 p1 d1 h1=>?_) hset (S.ok.own (aAc q).1).2
  refine aDn h1 d1 fun i z hz h1=>aCd h1 S1 hz fun tup vs n l _ hm al h1=>ifT_e h1 fun e h1=>?_
  cases aBu (aAc e).1
  cases List.isEmpty_iff.mp (aAc e).2
  cases al
  have hh:=S1.hd
  rw[hn] at hh
  exact iter_listUnr hh S1.F S1.N hm rfl rfl fun I lt=>ListRest.zero fun h' tk F2 N2=>h1 (W1.hp W1.m h' tk) (.refl _) (S1.hp tk F2 S1.M N2 _)
theorem aR7{t iter:PySem.Expr}{body:List Stmt}{pos:Pos}(R:Snd V r)(S:Sat G W σ)(h:Hd G W (bEl V r G.cf t iter body σ) (PF G Q)):G.wp (exec (.For t iter body [] pos) G.env) Q (G.st W):=by
 refine aEz (C:=fun o=>Hd G W o (PF G Q)) h (fun q hq h=>onO_e h fun l hl h=>?_) fun h=>onO_e h fun q hq h=>ifT_e h fun k h=>?_
 ·rw[bFj hq,bFm hl]
  exact aX2 R S h
 ·rw[aDh hq]
  refine aX3 (fun _=>?_) R S h
  cases iter<;>first|rfl|cases k
theorem aFk{c:PySem.Expr}{k:Str→List PySem.Expr→Out Flw}{P:PySem.Expr→Prop}(h:Hd G W (aF5 c k) (PF G Q))(g:∀ x xp args p,Hd G W (k x args) (PF G Q)→P (.Call (.Name x xp) args [] p)):P c :=
 onO_e h fun a ha h=>onO_e h fun n hn h=>ifT_e h fun q h=>by
  rw[bFn ha,aDh hn,List.isEmpty_iff.mp q]
  exact g _ _ _ _ h
theorem aLx{e c:Option PySem.Expr}{pos:Pos}(R:Snd V r)(S:Sat G W σ)(h:Hd G W (aO3 V r G.cf e c σ) (PF G Q)):G.wp (exec (.Raise e c pos) G.env) Q (G.st W):=by
 cases e with
 |none=>exact h.elim
 |some e=>cases c with
  |none=>exact ifT_e h fun q h=>aFk (P:=fun e=>G.wp (exec (.Raise (some e) none pos) G.env) Q (G.st W)) h fun x xp args p h=>aGr R S (Option.isNone_iff_eq_none.mp q) h
  |some c =>
   exact onO_e h fun k hk h=>ifT_e h fun qc h=>by
    rw[aSx hk,bD9 qc]
    exact ifT_e h fun q h=>aFk (P:=fun e=>G.wp (exec (.Raise (some e) (some (.Constant .none _ _)) pos) G.env) Q (G.st W)) h fun x xp args p h=>(Option.isSome_iff_exists.mp q).elim fun j hj=>aH6 R S hj h
theorem aR6{body:List Stmt}{hs:List ExceptHandler}{pos:Pos}(R:Snd V r)(S:Sat G W σ)(h:Hd G W (bEk V r G.cf body hs σ) (PF G Q)):G.wp (exec (.Try body hs [] [] pos) G.env) Q (G.st W) :=
 onO_e h fun h1 hh h=>by
  rw[aQ9 hh]
  obtain⟨e,nm,suite,hp⟩:=h1
  refine onO_e h fun e' he h=>onO_e h fun n hn h=>?_
  rw[he,aDh hn]
  cases suite with
  |nil=>exact h.elim
  |cons b suite=>exact aSa R S h
theorem aO2{st:Stmt}(R:Snd V r)(S:Sat G W σ)(h:Hd G W (aUe V r G.cf st σ) (PF G Q)):G.wp (exec st G.env) Q (G.st W):=by
 cases st with
 |Expr e p=>exact ifT_e h fun hn h=>wpAny_Expr_any (R.ev S h fun {W1 _ _ _} S1 p1 d1 h1=>h1 W1 (.refl _) S1) (by unfold interactive;rw[show G.env.scope.kind=.function from S.ok.hk];rfl) (nc hn)
 |Assign ts v sp=>exact aR8 R S h
 |AugAssign t op v p=>cases op with
  |Add=>exact bFf R S h
  |_=>exact h.elim
 |If t b o p=>exact wpAny_If (R.cond S h fun {W1 σ1 q} S1 p1 h1=>by
   cases q with
   |true=>exact R.bk S1 h1
   |false=>exact R.bk S1 h1)
 |Return e p=>cases e with
  |some e=>exact wpAny_Return_some (R.ev S h fun {W1 _ _ v} S1 p1 d1 h1=>h1 W1 (.refl _) S1 v d1)
  |none=>exact wpAny_Return_none (h W (.refl _) S .none rfl)
 |Pass p=>exact wpAny_Pass (h W (.refl _) S)
 |While t b o p =>
  refine ifT_e h fun q h=>?_
  cases List.isEmpty_iff.mp (aAc q).2
  exact whl_start 10 (bAt R (S.ok.own (aAc q).1).2 10 W σ S (by assumption))
 |For t iter body o p =>
  refine ifT_e h fun q hz=>?_
  cases List.isEmpty_iff.mp q
  exact aR7 R S hz
 |Raise e c p=>exact aLx R S h
 |Try body hs o f p =>
  refine ifT_e h fun q hz=>?_
  cases List.isEmpty_iff.mp (aAc q).1
  cases List.isEmpty_iff.mp (aAc q).2
  exact aR6 R S hz
 |_=>exact h.elim
theorem aF2{hk:Hook}(HO:aPy V hk):∀ n,Snd V (aZz V hk n)
 | 0=>⟨fun _ h=>h.elim,fun _ h=>h.elim,fun _ h=>h.elim,fun _ h=>h.elim,fun _ h=>h.elim,fun _ _ h=>h.elim⟩
 |n+1 =>
  have R:=aF2 HO n
  ⟨bEu R,aYm R,bEy R,aO2 R,bEm R,fun {G W σ f args vs Q} S a h=>by
   replace h:Hd G W (match hk G.cf f args σ with|some o=>o|none=>bNe V (aZz V hk n) G.cf f args σ) (PC G W.m Q):=h
   cases e:hk G.cf f args σ with
   |some o=>rw[e] at h;exact HO S a e h
   |none=>rw[e] at h;exact aYl R S a h⟩
end
noncomputable def bAm(i:Nat):List Nat→Nat→Option Nat
 | [],_=>none
 |j::r,k=>bif Nat.beq j i then some k else bAm i r (k+1)
theorem aGm{i:Nat}:∀ {p:List Nat} {k q:Nat},bAm i p k=some q→∃ t,q=k+t∧gN p t=some i
 | [],_,_,h=>by cases h
 |j::r,k,q,h=>by
  unfold bAm at h
  cases e:Nat.beq j i with
  |true=>rw[e] at h;cases h;have:=Nat.eq_of_beq_eq_true e;subst this;exact⟨0,rfl,rfl⟩
  |false =>
   rw[e] at h
   refine aAd (aGm (show bAm i r (k+1)=some q from h)) fun t h1 h2=>?_
   exact⟨t+1,by lia,h2⟩
noncomputable def onI{α:Type}(x:Option Nat)(k:Nat→α)(d:α):α:=match x with
 |some i=>k i
 |none=>d
noncomputable def aS5(p:List Nat)(y:SV):SV:=match y with
 | .a i=>onI (bAm i p 0) .a .u
 |y=>y
noncomputable def bI6(p:List Nat):Option SV→Option SV
 |some y=>some (aS5 p y)
 |none=>none
noncomputable def bPr(p:List Nat)(x:SO):SO:=match x with
 | .inst C d=>onI (bAm d p 0) (.inst C) .any
 | .ns es n=>.ns (es.map fun q=>(q.1,aS5 p q.2)) n
 | .seq t vs n=>.seq t (vs.map (aS5 p)) n
 | .di kvs=>.di (kvs.map fun q=>(q.1,aS5 p q.2))
 | .dv j n puts facts=>.dv j n (puts.map fun q=>(q.1,aS5 p q.2)) (facts.map fun q=>(q.1,bI6 p q.2))
 | .cell y=>.cell (bI6 p y)
 | .raw j=>.raw j
 |_=>.any
noncomputable def aAp(p:List Nat)(ads:List Addr):List Addr:=p.map fun j=>ads.getD j 0
noncomputable abbrev aN6:Obj:=⟨.none,none,.plain,#[]⟩
noncomputable def aHl(p:List Nat)(objs:List Obj):List Obj:=p.map fun j=>objs.getD j aN6
noncomputable abbrev Wd.re(W:Wd)(p:List Nat):Wd:=⟨aAp p W.ads,aHl p W.objs,W.m,W.h,W.t⟩
theorem aUc{α β:Type}{f:α→β}:∀ {l:List α} {i:Nat},gN (l.map f) i=(gN l i).map f
 | [],_=>rfl
 |_::_,0=>rfl
 |_::r,i+1=>aUc (l:=r)
section
variable {ads:List Addr} {p:List Nat}
theorem aB7{t i:Nat}(h:gN p t=some i){a:Addr}(ha:gN ads i=some a):gN (aAp p ads) t=some a:=by
 unfold aAp
 rw[aUc,h,Option.map_some,List.getD,← aCq,ha];rfl
theorem bDe{α:Type}{x:Option Nat}{k:Nat→α}{d:α}{P:α→Prop}(h1:∀ i,x=some i→P (k i))(h2:P d):P (onI x k d):=by
 cases x with
 |some i=>exact h1 i rfl
 |none=>exact h2
theorem Den.ren{y:SV}{v:Value}(h:Den ads y v):Den (aAp p ads) (aS5 p y) v:=by
 cases y with
 |a i=>obtain⟨a,h,e⟩:=h;exact bDe (P:=fun y=>Den _ y v) (fun k hk=>by
   refine aAd (aGm hk) fun t h1 h2=>?_
   rw[Nat.zero_add] at h1
   subst h1
   exact⟨a,aB7 h2 h,e⟩) trivial
 |_=>exact h
theorem All2.mapL{α β γ:Type}{R:α→β→Prop}{S:γ→β→Prop}{f:α→γ}{l:List α}{m:List β}(k:∀ a b,R a b→S (f a) b)(h:All2 R l m):All2 S (l.map f) m:=by induction h with|nil=>exact .nil|cons q _ ih=>exact .cons (k _ _ q) ih
theorem PutR.ren{l0 l:List (Int×Value)}{ps:List (Int×SV)}(h:PutR ads l0 ps l):PutR (aAp p ads) l0 (ps.map fun q=>(q.1,aS5 p q.2)) l:=by
 induction h with
 |nil=>exact .nil
 |cons _ d ih=>exact .cons ih d.ren
theorem FactR.ren{l:List (Int×Value)}{g:Int×Option SV}(r:FactR ads l g):FactR (aAp p ads) l (g.1,bI6 p g.2):=by
 obtain⟨q,x⟩:=g
 cases x with
 |none=>exact r
 |some x=>obtain⟨v,e,d⟩:=r;exact⟨v,e,d.ren⟩
theorem DenO.ren{V:Vw}{X:Ctx V}{x:SO}{o:Obj}(d:DenO X ads x o):DenO X (aAp p ads) (bPr p x) o:=by
 cases x with
 |inst C e=>obtain⟨a,h1,h2⟩:=d;exact bDe (P:=fun y=>DenO X _ y o) (fun k hk=>by
   refine aAd (aGm hk) fun t q1 q2=>?_
   rw[Nat.zero_add] at q1
   subst q1
   exact⟨a,aB7 q2 h1,h2⟩) trivial
 |ns es n=>obtain⟨l,al,e⟩:=d;exact⟨l,All2.mapL (fun a b ⟨t,v,q,z⟩=>⟨t,v,q.ren,z⟩) al,e⟩
 |seq tup vs n=>obtain⟨l,al,e⟩:=d;exact⟨l,All2.mapL (fun _ _ r=>Den.ren r) al,e⟩
 |di kvs=>obtain⟨l,al,e⟩:=d;exact⟨l,All2.mapL (fun _ _ r=>⟨r.1,r.2.ren⟩) al,e⟩
 |dv j n puts facts =>
  refine aPd d fun l0 l h1 h2 h3 h4 h5=>?_
  refine⟨l0,l,h1,h2,h3.ren,fun f hf=>?_,h5⟩
  refine aAd (List.mem_map.mp hf) fun g hg r5_2=>?_
  subst r5_2
  exact (h4 g hg).ren
 |cell y=>cases y with
  |none=>exact d
  |some y=>obtain⟨v,q,e⟩:=d;exact⟨v,q.ren,e⟩
 |raw j=>exact d
 |_=>trivial
end
noncomputable def bAn(pat y:SV):Option SV:=match pat with
 | .u=>some .u
 | .i _=>(match y with
  | .z n=>some (.i n)
  | .i n=>some (.i n)
  |_=>none)
 | .z n=>(match y with
  | .z m=>bif decide (n=m) then some (.z m) else none
  |_=>none)
 | .a i=>(match y with
  | .a j=>bif Nat.beq i j then some (.a j) else none
  |_=>none)
 | .k _=>(match y with
  | .k v=>some (.k v)
  |_=>none)
 | .s x=>(match y with
  | .s z=>bif aB5 x z then some (.s x) else none
  |_=>none)
 |_=>none
noncomputable def aX4:List SV→List SV→Option (List SV)
 | [],l=>(match l with
  | []=>some []
  |_=>none)
 |p::r,l=>(match l with
  | []=>none
  |y::s=>(bAn p y).bind fun z=>(aX4 r s).map fun t=>z::t)
noncomputable def bM7:List (Str×SV)→List (Str×SV)→Option (List (Str×SV))
 | [],l=>(match l with
  | []=>some []
  |_=>none)
 |p::r,l=>(match l with
  | []=>none
  |y::s=>bif aB5 p.1 y.1 then (bAn p.2 y.2).bind fun z=>(bM7 r s).map fun t=>(p.1,z)::t else none)
noncomputable def bM8:List (Int×SV)→List (Int×SV)→Option (List (Int×SV))
 | [],l=>(match l with
  | []=>some []
  |_=>none)
 |p::r,l=>(match l with
  | []=>none
  |y::s=>(bAn p.2 y.2).bind fun z=>(bM8 r s).map fun t=>(y.1,z)::t)
noncomputable def bQ2(pat x:SO):Option SO:=match pat with
 | .any=>some .any
 | .inst C d=>(match x with
  | .inst C' d'=>bif Nat.beq C C'&&Nat.beq d d' then some (.inst C d) else none
  |_=>none)
 | .ns es n=>(match x with
  | .ns es' n'=>bif Nat.beq n n' then (bM7 es es').map fun t=>.ns t n else none
  |_=>none)
 | .seq t vs _=>(match x with
  | .seq t' vs' n'=>bif t==t' then (aX4 vs vs').map fun l=>.seq t l n' else none
  |_=>none)
 | .di es=>(match x with
  | .di es'=>(bM8 es es').map .di
  |_=>none)
 | .dv _ _ _ _=>(match x with
  | .dv j n ps fs=>some (.dv j n ps fs)
  |_=>none)
 | .cell y=>(match y with
  |none=>none
  |some y=>(match x with
   | .cell z=>(match z with
    |some z=>(bAn y z).map fun t=>.cell (some t)
    |none=>none)
   |_=>none))
 | .raw j=>(match x with
  | .raw i=>bif Nat.beq i j then some (.raw j) else none
  |_=>none)
 |_=>none
section
variable {V:Vw} {X:Ctx V} {ads:List Addr}
theorem aAq{α:Type}{b:Bool}{x:Option α}{y:α}(h:(bif b then x else none)=some y):b=true∧x=some y:=by
 cases b with
 |true=>exact⟨rfl,h⟩
 |false=>cases h
theorem aEq{pat y z:SV}{v:Value}(h:bAn pat y=some z)(d:Den ads y v):Den ads z v:=by
 cases pat with
 |u=>cases h;trivial
 |i _=>cases y with
  |z n=>cases h;exact d
  |i n=>cases h;exact d
  |_=>exact nn h
 |z n=>cases y with
  |z m=>cases (aAq h).2;exact d
  |_=>exact nn h
 |a n=>cases y with
  |a m=>cases (aAq h).2;exact d
  |_=>exact nn h
 |k _=>cases y with
  |k _=>cases h;exact d
  |_=>exact nn h
 |s x=>cases y with
  |s m=>obtain⟨q,h⟩:=aAq h;cases h;cases aCc.mp q;exact d
  |_=>exact nn h
 |_=>exact nn h
theorem aKp:∀ {pat y z:List SV} {v:List Value},aX4 pat y=some z→Dens ads y v→Dens ads z v
 | [],[],_,_,h,d=>by cases h;exact d
 | [],_::_,_,_,h,_=>by cases h
 |_::_,[],_,_,h,_=>by cases h
 |p::r,y::s,z,v,h,d=>by
  refine aAd (Option.bind_eq_some_iff.mp h) fun z1 h1 h=>?_
  refine aAd (Option.map_eq_some_iff.mp h) fun t h2 r7_2=>?_
  subst r7_2
  cases d with
  |cons d1 d2=>exact .cons (aEq h1 d1) (aKp h2 d2)
theorem aOu:∀ {pat y z:List (Str×SV)} {v:List DictEntry},bM7 pat y=some z→All2 (NsE X ads) y v→All2 (NsE X ads) z v
 | [],[],_,_,h,d=>by cases h;exact d
 | [],_::_,_,_,h,_=>by cases h
 |_::_,[],_,_,h,_=>by cases h
 |p::r,y::s,z,v,h,d=>by
  refine aBa (aAq h) fun q h=>?_
  refine aAd (Option.bind_eq_some_iff.mp h) fun z1 h1 h=>?_
  refine aAd (Option.map_eq_some_iff.mp h) fun t h2 r10_2=>?_
  subst r10_2
  cases d with
  |cons d1 d2 =>
   refine aGs d1 fun tt v dv e=>?_
   exact .cons ⟨tt,v,aEq h1 dv,by rw[aCc.mp q];exact e⟩ (aOu h2 d2)
theorem aOw:∀ {pat y z:List (Int×SV)} {v:List (Int×Value)},bM8 pat y=some z→All2 (DiE ads) y v→All2 (DiE ads) z v
 | [],[],_,_,h,d=>by cases h;exact d
 | [],_::_,_,_,h,_=>by cases h
 |_::_,[],_,_,h,_=>by cases h
 |p::r,y::s,z,v,h,d=>by
  refine aAd (Option.bind_eq_some_iff.mp h) fun z1 h1 h=>?_
  refine aAd (Option.map_eq_some_iff.mp h) fun t h2 r13_2=>?_
  subst r13_2
  cases d with
  |cons d1 d2=>exact .cons ⟨d1.1,aEq h1 d1.2⟩ (aOw h2 d2)
theorem aX5{pat x z:SO}{o:Obj}(h:bQ2 pat x=some z)(d:DenO X ads x o):DenO X ads z o:=by
 cases pat with
 |any=>cases h;trivial
 |inst C e=>cases x with
  |inst C' e' =>
   refine aBa (aAq h) fun q h=>?_
   cases h
   cases Nat.eq_of_beq_eq_true (aAc q).1
   cases Nat.eq_of_beq_eq_true (aAc q).2
   exact d
  |_=>exact nn h
 |ns es n=>cases x with
  |ns es' n' =>
   refine aBa (aAq h) fun q hz=>?_
   refine aAd (Option.map_eq_some_iff.mp hz) fun t h2 r16_2=>?_
   subst r16_2
   cases Nat.eq_of_beq_eq_true q
   refine aAd d fun l al e=>?_
   exact⟨l,aOu h2 al,e⟩
  |_=>exact nn h
 |seq t vs n=>cases x with
  |seq t' vs' n' =>
   refine aBa (aAq h) fun q hz=>?_
   refine aAd (Option.map_eq_some_iff.mp hz) fun t h2 r19_2=>?_
   subst r19_2
   cases eq_of_beq q
   refine aAd d fun l al e=>?_
   exact⟨l,aKp h2 al,e⟩
  |_=>exact nn h
 |di es=>cases x with
  |di es' =>
   refine aAd (Option.map_eq_some_iff.mp h) fun t h2 r21_2=>?_
   subst r21_2
   refine aAd d fun l al e=>?_
   exact⟨l,aOw h2 al,e⟩
  |_=>exact nn h
 |dv _ _ _ _=>cases x with
  |dv j n ps fs=>cases h;exact d
  |_=>exact nn h
 |cell y=>cases y with
  |none=>cases h
  |some y=>cases x with
   |cell z'=>cases z' with
    |none=>cases h
    |some z' =>
     refine aAd (Option.map_eq_some_iff.mp h) fun t h2 r23_2=>?_
     subst r23_2
     refine aAd d fun v dv e=>?_
     exact⟨v,aEq h2 dv,e⟩
   |_=>exact nn h
 |raw j=>cases x with
  |raw i =>
   refine aBa (aAq h) fun q h=>?_
   cases h
   cases Nat.eq_of_beq_eq_true q
   exact d
  |_=>exact nn h
 |_=>exact nn h
end
noncomputable def bEg(p:List Nat)(led:List SO):List Nat→List SO→Option (List SO)
 | [],pats=>(match pats with
  | []=>some []
  |_=>none)
 |j::r,pats=>(match pats with
  | []=>none
  |pat::ps=>(gN led j).bind fun x=>(bQ2 pat (bPr p x)).bind fun z=>(bEg p led r ps).map fun t=>z::t)
noncomputable def bH0(p:List Nat)(m:List (Str×SV)):List (Str×SV)→Option (List (Str×SV))
 | []=>some []
 |q::r=>(aD3 q.1 m).bind fun y=>(bAn q.2 (aS5 p y)).bind fun z=>(bH0 p m r).map fun t=>(q.1,z)::t
noncomputable def aHj:List Nat→Bool
 | []=>true
 |a::r=>!(aIo a r)&&aHj r
theorem aKi{a:Nat}:∀ {l:List Nat},a∈l→aIo a l=true
 |b::r,h=>by
  unfold aIo
  cases q:Nat.beq b a with
  |true=>rfl
  |false =>
   rcases List.mem_cons.mp h with rfl|h
   ·rw[Nat.beq_refl] at q;cases q
   ·exact aKi h
theorem aHi:∀ {l:List Nat},aHj l=true→l.Nodup
 | [],_=>.nil
 |a::r,h=>by
  have h:=aAc h
  refine List.nodup_cons.mpr ⟨fun q=>?_,aHi h.2⟩
  rw[aKi q] at h
  cases h.1
section
variable {V:Vw} {G:Gd V} {W:Wd} {σ:St}
theorem aOv(S:Sat G W σ){p:List Nat}:∀ {r:List Nat} {pats led':List SO},bEg p σ.led r pats=some led'→All2 (DenO G.X (aAp p W.ads)) led' (r.map fun j=>W.objs.getD j aN6)∧∀ j∈r,j<W.ads.length
 | [],[],_,h=>by cases h;exact⟨.nil,fun _ q=>nomatch q⟩
 | [],_::_,_,h=>by cases h
 |_::_,[],_,h=>by cases h
 |j::r,pat::ps,led',h=>by
  refine aAd (Option.bind_eq_some_iff.mp h) fun x h1 h=>?_
  refine aAd (Option.bind_eq_some_iff.mp h) fun z h2 h=>?_
  refine aAd (Option.map_eq_some_iff.mp h) fun t h3 r28_2=>?_
  subst r28_2
  refine aAd (S.O.get h1) fun o q1 q2=>?_
  refine aBa (aOv S h3) fun i1 i2=>?_
  refine⟨.cons ?_ i1,fun i hi=>?_⟩
  ·show DenO G.X _ z (W.objs.getD j aN6)
   rw[List.getD,← aCq,q1]
   exact aX5 h2 q2.ren
  ·rcases List.mem_cons.mp hi with rfl|hi
   ·rw[S.len];exact aBk q1
   ·exact i2 i hi
theorem aGp{p:List Nat}{m:List (Str×SV)}{ads:List Addr}{M:Str→Option Value}(hm:MD ads m M):∀ {nm m':List (Str×SV)},bH0 p m nm=some m'→MD (aAp p ads) m' M
 | [],_,h=>by cases h;exact fun _ _ e=>nomatch e
 |q::r,m',h=>by
  refine aAd (Option.bind_eq_some_iff.mp h) fun y h1 h=>?_
  refine aAd (Option.bind_eq_some_iff.mp h) fun z h2 h=>?_
  refine aAd (Option.map_eq_some_iff.mp h) fun t h3 r33_2=>?_
  subst r33_2
  intro x y' e
  rw[aAr] at e
  split at e
  ·cases e
   subst x
   refine aAd (hm _ _ h1) fun v k1 k2=>?_
   exact⟨v,k1,aEq h2 k2.ren⟩
  ·exact aGp hm h3 x y' e
theorem nodup_map_on{α β:Type}{f:α→β}:∀ {l:List α},l.Nodup→(∀ a∈l,∀ b∈l,f a=f b→a=b)→(l.map f).Nodup
 | [],_,_=>.nil
 |a::r,h,k=>by
  rw[List.nodup_cons] at h
  rw[List.map_cons,List.nodup_cons]
  refine⟨fun q=>?_,nodup_map_on h.2 fun x hx y hy=>k x (.tail _ hx) y (.tail _ hy)⟩
  refine aAd (List.mem_map.mp q) fun b hb e=>?_
  have:=k a (.head _) b (.tail _ hb) e.symm
  subst this
  exact h.1 hb
theorem Sat.remap{V':Vw}{G':Gd V'}(S:Sat G W σ)(ok:Ok G')(hG:G'.g=G.g∧G'.L=G.L∧G'.A=G.A∧G'.cf=G.cf∧G'.cl=G.cl)(hX:∀ ads so o,DenO G.X ads so o→DenO G'.X ads so o)(hn:G.cf.hd=none){p:List Nat}{led':List SO}{m':List (Str×SV)}{o':List Nat}
  (hl:∃ pats,bEg p σ.led p pats=some led') (hm:MD (aAp p W.ads) m' W.m) (hnd:aHj p=true) (hc:G.cf.top=true→∀ x i,V'.cells x=some i→∃ j,V.cells x=some j∧gN p i=some j) :
  Sat G' (W.re p) ⟨m',led',o'⟩:=by
 refine aA6 hl fun pats hl=>?_
 refine bEz hG fun e1 e2 e3 e4 e5=>?_
 refine aBa (aOv S hl) fun hO hp=>?_
 have getA:∀ {t i:Nat},gN p t=some i→∃ a,gN W.ads i=some a∧gN (aAp p W.ads) t=some a:=fun {t i} h=>by
  refine aA6 (aAl (hp i (aB8 h))) fun a ha=>?_
  exact⟨a,ha,aB7 h ha⟩
 refine⟨ok,by rw[e1,e2];exact S.F,hm,fun q hq=>?_,hO.mono (hX _),by simp[aAp,aHl],?_,?_,fun q x i e=>?_⟩
 ·rw[e1,e2]
  have hq:q∈(aAp p W.ads).zip (aHl p W.objs):=hq
  unfold aAp aHl at hq
  rw[List.zip_map'] at hq
  refine aAd (List.mem_map.mp hq) fun i hi r40_2=>?_
  subst r40_2
  have hi:=hp i hi
  refine aA6 (aAl hi) fun a ha=>?_
  refine aA6 (aAl (S.len▸hi)) fun o ho=>?_
  simp only[List.getD,← aCq,ha,ho,Option.getD_some]
  exact S.N _ (aBe ha ho)
 ·show (p.map fun j=>W.ads.getD j 0).Nodup
  refine nodup_map_on (aHi hnd) fun i hi j hj e=>?_
  refine aA6 (aAl (hp i hi)) fun a ha=>?_
  refine aA6 (aAl (hp j hj)) fun b hb=>?_
  simp only[List.getD,← aCq,ha,hb,Option.getD_some] at e
  subst e
  exact aC4 S.nd ha hb
 ·have:=S.hd
  rw[hn] at this
  rw[e4,hn,e3];exact this
 ·rw[e4] at q
  refine aAd (hc q x i e) fun j h1 h2=>?_
  refine aAd (S.cl q x j h1) fun a h3 h4=>?_
  refine aAd (getA h2) fun b h5 h6=>?_
  rw[h3] at h5;cases h5
  rw[e5]
  exact⟨a,h6,h4⟩
noncomputable def bH1(cells:List Nat)(p:List Nat)(pats:List SO)(nm:List (Str×SV))(σ:St):Out (List Nat) :=
 ifT (aHj p&&cells.all fun c=>match gN p c with
  |some j=>Nat.beq j c
  |none=>false) (onO (bEg p σ.led p pats) fun led'=>onO (bH0 p σ.m nm) fun m'=>.p ⟨m',led',[]⟩ p)
noncomputable def Hl{α:Type}:Out α→(St→α→Prop)→Prop
 | .f,_=>False
 | .p σ a,Φ=>Φ σ a
 | .t _ _,_=>False
 | .x _ _,_=>False
 | .g P o,Φ=>P∧Hl o Φ
 | .s c a b,Φ=>(c=true→Hl a Φ)∧(c=false→Hl b Φ)
theorem Hl.to{α β:Type}{k:St→α→Out β}{Φ:St→β→Prop}{Ψ:Wd→St→α→Prop}(f:∀ {W' σ a},Sat G W' σ→Pre W.ads W'.ads→Hl (k σ a) Φ→Ψ W' σ a):∀ {o:Out α},Hl (Mine.bf o k) Φ→Hd G W o Ψ
 | .f,h=>h
 | .p _ _,h=>fun _ q S=>f S q h
 | .t _ _,h=>False.elim h
 | .x _ _,h=>False.elim h
 | .g _ _,h=>⟨h.1,Hl.to f h.2⟩
 | .s _ _ _,h=>⟨fun e=>Hl.to f (h.1 e),fun e=>Hl.to f (h.2 e)⟩
theorem Hl.onO_e{α γ:Type}{x:Option γ}{k:γ→Out α}{Φ:St→α→Prop}(h:Hl (onO x k) Φ):∃ y,x=some y∧Hl (k y) Φ:=by
 cases x with
 |some y=>exact⟨y,rfl,h⟩
 |none=>exact h.elim
theorem Hl.ifT_e{α:Type}{b:Bool}{o:Out α}{Φ:St→α→Prop}(h:Hl (ifT b o) Φ):b=true∧Hl o Φ:=by
 cases b with
 |true=>exact⟨rfl,h⟩
 |false=>exact h.elim
theorem stretch{r:Rec}(R:Snd V r)(S:Sat G W σ)(hn:G.cf.hd=none){cells p:List Nat}{pats:List SO}{nm:List (Str×SV)}{ss:List Stmt}{Φ:St→List Nat→Prop}{Q:Flow→Shared→Prop}{pf:St→List Nat}
  (hc:∀ x i,V.cells x=some i→i∈cells)
  (h:Hl (Mine.bf (r.bk G.cf ss σ) fun σ' a=>bDd a (bH1 cells (pf σ') pats nm σ')) Φ)
  (q:∀ σ' p W',Φ σ' p→Pre W.ads W'.ads→Sat G (W'.re p) σ'→Q .next (G.st W')):G.wp (execs ss G.env) Q (G.st W):=by
 refine R.bk S (h.to fun {W' σ' a} S' pre h=>?_)
 cases a with
 |r _=>exact h.elim
 |n =>
  refine aBa (Hl.ifT_e h) fun h1 h=>?_
  refine aAd (Hl.onO_e h) fun led' h2 h=>?_
  refine aAd (Hl.onO_e h) fun m' h3 h=>?_
  refine q _ _ W' h pre (S'.remap S'.ok ⟨rfl,rfl,rfl,rfl,rfl⟩ (fun _ _ _ d=>d) hn ⟨_,h2⟩ (aGp S'.M h3) (aAc h1).1 fun _ x i e=>⟨i,e,?_⟩)
  have:=List.all_eq_true.mp (aAc h1).2 i (hc x i e)
  cases ez:gN (pf σ') i with
  |none=>rw[ez] at this;cases this
  |some j=>rw[ez] at this;cases Nat.eq_of_beq_eq_true this;rfl
end
noncomputable def vwc(ci:Nat)(K:Frag):Vw :=
 { K:=K,O:=vO pw,cells:=fun x=>bif aB5 x aAu then some ci else none,hf:=fun a=>aIo a vHF,iv:=aJv vIV,ns:=aJv vNS,fin:=aJv bAz,pg:=fun C=>aIo C vPG,px:=fun C=>aIo C vPX,ps:=fun C x=>aIo C vPG&&(aJv bAz C x).isSome,pf:=fun f=>aIo f vPF,cv:=aJv vCV,mkc:=fun C=>lkN C vMK,mt:=aJv vMT,kp:=fun a=>aIo a vKP,ve:=fun C=>aIo C vVE,xs:=fun C x=>(aJv vXS C x).isSome,mkx:=fun C=>lkN C bPi,cm:=aJv vCM,tp:=fun a=>lkN a vTP }
noncomputable def Vw.bare(V:Vw):Vw:={ V with cells:=fun _=>none }
theorem VOk.bare{P:Params}{V:Vw}(h:VOk P V):VOk P V.bare:=⟨h.O,h.iv,h.sm,h.k0,h.ns,h.fin,h.pg,h.px,h.xs,h.ps,h.pf,h.cv,h.mkc,h.mkx,h.cm,h.mt,h.kp,h.tp,h.ve⟩
noncomputable def erN{α:Type}:List α→Nat→List α
 | [],_=>[]
 |_::r,0=>r
 |a::r,n+1=>a::erN r n
theorem aJh{α β:Type}{f:α→β}:∀ {l:List α} {b:Nat},(erN l b).map f=erN (l.map f) b
 | [],_=>rfl
 |_::_,0=>rfl
 |x::r,b+1=>congrArg _ (aJh (l:=r))
theorem aJg{α:Type}{x:α}:∀ {l:List α} {b:Nat},x∈erN l b→x∈l
 |_::_,0,h=>.tail _ h
 |y::r,b+1,h=>by
  rcases List.mem_cons.mp (show x∈y::erN r b from h) with e|h
  ·exact e▸.head _
  ·exact .tail _ (aJg (l:=r) h)
theorem aUk{α:Type}:∀ {l:List α} {b:Nat} {a:α},l.Nodup→gN l b=some a→(a::erN l b).Nodup
 |x::r,0,a,nd,h=>by cases h;exact nd
 |x::r,b+1,a,nd,h=>by
  have nd':=List.nodup_cons.mp nd
  have ih:=List.nodup_cons.mp (aUk (l:=r) nd'.2 h)
  refine List.nodup_cons.mpr ⟨fun q=>?_,List.nodup_cons.mpr ⟨fun q=>nd'.1 (aJg q),ih.2⟩⟩
  rcases List.mem_cons.mp (show a∈x::erN r b from q) with e|q
  ·exact nd'.1 (e▸aB8 (l:=r) h)
  ·exact ih.1 q
theorem aPc{α:Type}:∀ {l:List α} {b i:Nat} {a:α},gN l i=some a→i≠b→a∈erN l b
 |x::r,0,0,a,h,n=>absurd rfl n
 |x::r,0,i+1,a,h,n=>aB8 (l:=r) h
 |x::r,b+1,0,a,h,n=>by cases h;exact .head _
 |x::r,b+1,i+1,a,h,n=>.tail _ (aPc (l:=r) h fun e=>n (congrArg _ e))
theorem aH1{α:Type}:∀ {l:List α} {b i:Nat} {x:α},i≠b→gN (stN l b x) i=gN l i
 | [],_,_,_,_=>rfl
 |_::_,0,0,_,n=>absurd rfl n
 |_::_,0,_+1,_,_=>rfl
 |_::_,_+1,0,_,_=>rfl
 |_::r,b+1,i+1,_,n=>aH1 (l:=r) fun e=>n (congrArg _ e)
theorem aH2{α:Type}:∀ {l:List α} {b:Nat} {x y:α},gN (stN l b x) b=some y→y=x
 |_::_,0,_,_,h=>by cases h;rfl
 |_::r,b+1,_,_,h=>aH2 (l:=r) h
noncomputable def others(b:Nat)(W:Wd):List (Addr×Obj):=erN W.l b
section
variable {V:Vw} {G:Gd V} {W W':Wd} {σ:St}
noncomputable abbrev Gd.fb(G:Gd V)(ex:List (Addr×Obj)):Gd V.bare:=⟨⟨G.X.prog,G.X.w,G.X.vo.bare,G.X.p,G.X.loose,G.X.mean,G.X.mg,G.X.mb,⟨G.X.β.d,aMg G.X.β.o ex⟩⟩,G.A,G.cn,G.L,G.a,G.ccd,G.cl,G.outer,G.A₀,G.base,G.g,G.gens,G.drawn,G.os,⟨G.cf.cs,none,5,false⟩,G.E⟩
theorem Ok.fb(O:Ok G)(h:5≤G.cf.lv)(ex:List (Addr×Obj)):Ok (G.fb ex):=⟨O.B,O.K,O.T,O.KB,O.TB,O.D,O.fr,O.hk,by show G.A.depth+5<_;have:=O.dp;lia,by show G.A.units+8*5<_;have:=O.un;lia,O.tp,fun q=>nomatch q⟩
noncomputable abbrev Wd.fb(W:Wd)(b:Nat)(a:Addr)(o:Obj):Wd:=⟨a::(others b W).map (·.1),o::(others b W).map (·.2),W.m,W.h,W.t⟩
theorem aIq{α β:Type}:∀ {l:List α} {m:List β},l.length=m.length→(l.zip m).map (·.1)=l
 | [],[],_=>rfl
 |a::l,b::m,h=>congrArg _ (aIq (Nat.succ.inj h))
theorem Sat.focus(S:Sat G W σ)(hn:G.cf.hd=none)(h5:5≤G.cf.lv){b:Nat}{so:SO}(hb:gN σ.led b=some so)(hcl:clO 0 so=true){a:Addr}(ha:gN W.ads b=some a){o:Obj}(hm:(a,o)∈W.l)(hd:DenO G.X W.ads so o)(orc:List Nat) :
  Sat (G.fb (others b W)) (W.fb b a o) ⟨[],so::aAk (others b W).length 1000,orc⟩:=by
 have hmap:(others b W).map (·.1)=erN W.ads b:=by unfold others;rw[aJh,aIq S.len]
 refine⟨S.ok.fb h5 _,S.F,(fun _ _ e=>nomatch e),fun p hp=>?_,?_,by simp,?_,?_,fun _ _ _ e=>nomatch e⟩
 ·have hp:p∈(a::(others b W).map (·.1)).zip (o::(others b W).map (·.2)):=hp
  rw[List.zip_cons_cons,List.zip_map'] at hp
  rcases List.mem_cons.mp hp with rfl|hp
  ·exact S.N _ hm
  ·exact S.N _ (aJg (l:=W.l) (b:=b) (by simpa[others] using hp))
 ·exact .cons (DenO.cut (X:=G.X) (β':=(G.fb (others b W)).X.β) (k:=0) rfl (fun j hj=>aF9 hj) (fun i hi=>absurd hi (Nat.not_lt_zero _)) hcl hd) (aF4 (X:=(G.fb (others b W)).X) _ 0 fun j=>by rw[Nat.zero_add])
 ·show (a::(others b W).map (·.1)).Nodup
  rw[hmap];exact aUk S.nd ha
 ·have:=S.hd
  rw[hn] at this
  exact this
theorem aMw{X:Ctx V}{d:Nat→List (Int×Value)}{oo:Nat→Obj}{ads:List Addr}{all:List (Addr×Obj)}:∀ (ex:List (Addr×Obj)) (i:Nat) (t:List Obj),(∀ j,gN ex j=gN all (i+j))→All2 (DenO { X with β:=⟨d,aMg oo all⟩ } ads) (aAk ex.length (1000+i)) t→t=ex.map (·.2)
 | [],_,t,_,h=>by cases h;rfl
 |p::r,i,t,e,h=>by
  cases (show All2 (DenO { X with β:=⟨d,aMg oo all⟩ } ads) (.raw (1000+i)::aAk r.length (1000+i+1)) t from h) with
  | @cons _ o _ t hd ht =>
   have hd:o=aMg oo all (1000+i):=hd
   rw[aI1 (p:=p) (show gN all i=some p from (e 0).symm)] at hd
   rw[List.map_cons,hd,aMw r (i+1) t (fun j=>by rw[show i+1+j=i+(j+1) by lia];exact e (j+1)) ht]
theorem Sat.unfocus(S:Sat G W σ){b:Nat}{so':SO}{a:Addr}{o:Obj}(ha:gN W.ads b=some a){σ2:St}(S':Sat (G.fb (others b W)) W' σ2)(pre:Pre (W.fb b a o).ads W'.ads)(h2:σ2.led=so'::aAk (others b W).length 1000)(hcl:clO 0 so'=true)(orc:List Nat)(hm:W'.m=W.m) :
  ∃ objs,Sat G ⟨W.ads,objs,W.m,W'.h,W'.t⟩ ⟨σ.m,stN σ.led b so',orc⟩:=by
 have hmap:(others b W).map (·.1)=erN W.ads b:=by unfold others;rw[aJh,aIq S.len]
 have O2:=S'.O
 rw[h2] at O2
 obtain⟨ads2,objs2,m2,hp2,t2⟩:=W'
 replace hm:m2=W.m:=hm
 subst hm
 replace O2:All2 (DenO (G.fb (others b W)).X ads2) (so'::aAk (others b W).length 1000) objs2:=O2
 cases O2 with
 | @cons _ o' _ t hd ht =>
  have et:=aMw (X:=(G.fb (others b W)).X) (others b W) 0 t (fun j=>by rw[Nat.zero_add]) ht
  obtain⟨rest,hr⟩:=pre
  replace hr:ads2=(a::(others b W).map (fun p:Addr×Obj=>p.1))++rest:=hr
  subst hr
  have hl:=S'.len
  have e0:rest=[]:=by
   rw[et] at hl
   simpa using hl
  subst e0
  have N2:News G.g G.L hp2 (((a::(others b W).map (fun p:Addr×Obj=>p.1))++[]).zip (o'::t)):=S'.N
  rw[et,List.append_nil,List.zip_cons_cons,List.zip_map'] at N2
  refine⟨stN W.objs b o',S.ok,S'.F,S.M,fun p hp=>?_,S.O.set (DenO.cut (X:=(G.fb (others b W)).X) (β':=G.X.β) (k:=0) rfl (fun j hj=>(aF9 hj).symm) (fun i hi=>absurd hi (Nat.not_lt_zero _)) hcl hd),by rw[aF1];exact S.len,S.nd,S.hd,S.cl⟩
  obtain⟨i,hi⟩:=List.getElem?_of_mem hp
  obtain⟨h3,h4⟩:=List.getElem?_zip_eq_some.mp hi
  rw[← aCq] at h3 h4
  by_cases e:i=b
  ·subst e
   rw[ha] at h3
   have:=aH2 h4
   have:p=(a,o'):=by cases p;simp_all
   rw[this];exact N2 _ (.head _)
  ·rw[aH1 e] at h4
   refine N2 _ (.tail _ (List.mem_map.mpr ⟨p,aPc (l:=W.l) (i:=i) ?_ e,rfl⟩))
   rw[aCq]
   exact List.getElem?_zip_eq_some.mpr ⟨by rw[← aCq];exact h3,by rw[← aCq];exact h4⟩
end
noncomputable def aXu(s n:Int):Int:=((s+15485867*n+13) ^ Int.toNat 5%2147483647*48271+7919*n) ^ Int.toNat 3%4611686018427387847/64
noncomputable def aB9(g s n many d g' n':Int):Prop:=(0<g∧d=g%many∧g'=g/many∧n'=n)∨(¬ 0<g∧d=aXu s (n+1)%many∧g'=g∧n'=n+1)
structure DrawOk(s n many:Int):Prop where
 m0:0<many
 m1:many≤4294967296
 s0:0≤s
 s1:s<2147483629
 n0:0≤n
 n1:n<100000
noncomputable def bF7(K:Frag):Rec:=aZz (vwc 13 K).bare (fun _ _ _ _=>none) 60
section
set_option tactic.hygienic true
theorem aQo(K:Frag)(cs:Scope)(g s n many:Int)(q:Nat)(tl:List SO):(bF7 K).fn ⟨cs,none,5,false⟩ 2213 [.a 0,.i many] ⟨[],.seq false [.i g,.i s,.i n] q::tl,[1]⟩ =
  .g (decide (0<g)=true) (.g (1≤many∧many≤i64) (.g (1≤many∧many≤4294967296) (.p ⟨[],.seq false [.i (g/many),.i s,.i n] q::tl,[]⟩ (.i (g%many))))):=aAa (by k_slotget)
theorem aU5(K:Frag)(cs:Scope)(g s n many:Int)(q:Nat)(tl:List SO):(bF7 K).fn ⟨cs,none,5,false⟩ 2213 [.a 0,.i many] ⟨[],.seq false [.i g,.i s,.i n] q::tl,[0]⟩ =
  .g (decide (0<g)=false) (.g (-i64≤s+15485867*(n+1)+13∧s+15485867*(n+1)+13≤i64) (.g (-i64≤(s+15485867*(n+1)+13) ^ Int.toNat 5%2147483647*48271+7919*(n+1)∧(s+15485867*(n+1)+13) ^ Int.toNat 5%2147483647*48271+7919*(n+1)≤i64) (.g (1≤many∧many≤i64) (.p ⟨[],.seq false [.i g,.i s,.i (n+1)] q::tl,[]⟩ (.i (aXu s (n+1)%many)))))):=aAa (by k_slotget)
theorem aLu{s n:Int}(h0:0≤s)(h1:s<2147483629)(h2:0≤n)(h3:n<100000):(-i64≤s+15485867*(n+1)+13∧s+15485867*(n+1)+13≤i64)∧(-i64≤(s+15485867*(n+1)+13) ^ Int.toNat 5%2147483647*48271+7919*(n+1)∧(s+15485867*(n+1)+13) ^ Int.toNat 5%2147483647*48271+7919*(n+1)≤i64):=by
 have:=Int.emod_nonneg ((s+15485867*(n+1)+13) ^ Int.toNat 5) (show (2147483647:Int)≠0 by decide)
 have:=Int.emod_lt_of_pos ((s+15485867*(n+1)+13) ^ Int.toNat 5) (show (0:Int)<2147483647 by decide)
 generalize (s+15485867*(n+1)+13) ^ Int.toNat 5%2147483647=z at *
 unfold i64
 lia
noncomputable def bHx{α:Type}(y:SV)(k:Int→Option α):Option α:=match y with
 | .i n=>k n
 |_=>none
theorem aNi{α:Type}{y:SV}{k:Int→Option α}{o:α}(h:bHx y k=some o):∃ n,y=.i n∧k n=some o:=by
 cases y with
 |i n=>exact⟨n,rfl,h⟩
 |_=>exact nn h
noncomputable def on3{α:Type}(l:List SV)(k:SV→SV→SV→Option α):Option α:=match l with
 | [a,b,c]=>k a b c
 |_=>none
theorem bLw{α:Type}{l:List SV}{k:SV→SV→SV→Option α}{o:α}(h:on3 l k=some o):∃ a b c,l=[a,b,c]∧k a b c=some o:=by
 unfold on3 at h
 split at h
 ·exact⟨_,_,_,rfl,h⟩
 ·exact nn h
noncomputable def aWv{α:Type}(σ:St)(b:Nat)(k:Int→Int→Int→Nat→Option α):Option α:=match gN σ.led b with
 |some so=>(match so with
  | .seq f l q=>bif f then none else on3 l fun x y z=>bHx x fun g=>bHx y fun s=>bHx z fun n=>k g s n q
  |_=>none)
 |none=>none
noncomputable def aWt{α:Type}(y:SV)(k:Int→Option α):Option α:=match y with
 | .i n=>k n
 | .z n=>k n
 |_=>none
noncomputable def aU7(D:Nat→Int×Int×Int)(args:List SV)(σ:St):Option (Out SV):=match args,σ.orc with
  | [.a b,m],k::r=>aWt m fun many=>aWv σ b fun g s n q=>some (.g (aB9 g s n many (D k).1 (D k).2.1 (D k).2.2∧DrawOk s n many) (.p ⟨σ.m,stN σ.led b (.seq false [.i (D k).2.1,.i s,.i (D k).2.2] q),r⟩ (.i (D k).1)))
  |_,_=>none
theorem aNn{α:Type}{y:SV}{k:Int→Option α}{o:α}(h:aWt y k=some o):∃ n,(y=.i n∨y=.z n)∧k n=some o:=by
 cases y with
 |i n=>exact⟨n,.inl rfl,h⟩
 |z n=>exact⟨n,.inr rfl,h⟩
 |_=>exact nn h
theorem aWu{α:Type}{σ:St}{b:Nat}{k:Int→Int→Int→Nat→Option α}{o:α}(h:aWv σ b k=some o):∃ g s n q,gN σ.led b=some (.seq false [.i g,.i s,.i n] q)∧k g s n q=some o:=by
 unfold aWv at h
 generalize gN σ.led b=so at h
 cases so with
 |none=>exact nn h
 |some so =>
  cases so with
  |seq f l q =>
   cases f with
   |true=>exact nn h
   |false =>
    refine bAp (bLw h) fun x y z r0_3 h=>?_
    subst r0_3
    refine aAd (aNi h) fun g r1_1 h=>?_
    subst r1_1
    refine aAd (aNi h) fun s r2_1 h=>?_
    subst r2_1
    refine aAd (aNi h) fun n r3_1 h=>?_
    subst r3_1
    exact⟨g,s,n,q,rfl,h⟩
  |_=>exact nn h
section
variable {K:Frag} {ci:Nat} {G:Gd (vwc ci K)} {W:Wd} {σ:St}
theorem aU6{P:Params}(vo:VOk P (vwc ci K)):Snd (vwc ci K).bare (bF7 K):=aF2 (V:=(vwc 13 K).bare) noHook 60
theorem aQp{D:Nat→Int×Int×Int}{args:List SV}{vs:List Value}{o:Out SV}{Q:Value→Shared→Prop}(hn:G.cf.hd=none)(hlv:5≤G.cf.lv)(S:Sat G W σ)(a:Dens W.ads args vs)(ho:aU7 D args σ=some o)
  (h:Hd G W o (PC G W.m Q)):codeAny G.M G.A (.call (.ref 2213) ⟨vs,[]⟩) (aJm Q G.E) (G.st W):=by
 unfold aU7 at ho
 split at ho
 ·rename_i b mv k r horc
  refine aAd (aNn ho) fun many hmv ho=>?_
  refine cAk (aWu ho) fun gi si ni q hb ho=>?_
  cases ho
  refine aBa h fun z6_0 h=>?_
  obtain⟨ht,hd⟩:=z6_0
  refine aYv a.cons2 fun v1 v2 r7_2 z7_3 d2=>?_
  subst r7_2
  obtain⟨x,hx,rfl⟩:=z7_3
  obtain⟨t,rfl⟩:∃ t,v2=.int many t:=by rcases hmv with rfl|rfl<;>exact d2
  refine aDm (S.slot hb hx) fun ob ho1 ho2 ho3=>?_
  have key:∀ (g' n':Int) (orc:List Nat) (d:Int),(∀ (tl:List SO) (Φ:Wd→St→SV→Prop),Hd (G.fb (others b W)) (W.fb b x ob) (.p ⟨[],.seq false [.i g',.i si,.i n'] q::tl,[]⟩ (.i d)) Φ→Hd (G.fb (others b W)) (W.fb b x ob) ((bF7 K).fn ⟨G.cf.cs,none,5,false⟩ 2213 [.a 0,.i many] ⟨[],.seq false [.i gi,.i si,.i ni] q::tl,orc⟩) Φ)→d=(D k).1→g'=(D k).2.1→n'=(D k).2.2→codeAny G.M G.A (.call (.ref 2213) ⟨[.ref x,.int many t],[]⟩) (aJm Q G.E) (G.st W):=fun g' n' orc d run e1 e2 e3=>by
   have S0:=S.focus hn hlv hb rfl hx ho2 ho3 orc
   refine (aU6 (K:=K) G.X.vo).fn (G:=G.fb (others b W)) (W:=W.fb b x ob) (Q:=Q) (args:=[.a 0,.i many]) S0 (.cons ⟨x,rfl,rfl⟩ (.cons ⟨t,rfl⟩ .nil)) (run _ (PC (G.fb (others b W)) W.m Q) (fun W' pre S' hm v dv=>?_))
   refine aA6 (Sat.unfocus S hx S' pre rfl rfl r hm) fun objs z=>?_
   have:=h ⟨W.ads,objs,W.m,W'.h,W'.t⟩ (.refl _) (by rw[← e2,← e3];exact z) rfl v (by rw[← e1];exact dv)
   exact this
  rcases ht with⟨h0,e1,e2,e3⟩|⟨h0,e1,e2,e3⟩
  ·exact key (gi/many) ni [1] (gi%many) (fun tl Φ hh=>by
    rw[aQo]
    have:=hd.m1
    have:=hd.m0
    exact⟨decide_eq_true h0,⟨by lia,by unfold i64;lia⟩,⟨by lia,by lia⟩,hh⟩) e1.symm e2.symm e3.symm
  ·exact key gi (ni+1) [0] (aXu si (ni+1)%many) (fun tl Φ hh=>by
    rw[aU5]
    have:=hd.m1
    have:=hd.m0
    refine aBa (aLu hd.s0 hd.s1 hd.n0 hd.n1) fun q1 q2=>?_
    exact⟨decide_eq_false h0,q1,q2,⟨by lia,by unfold i64;lia⟩,hh⟩) e1.symm e2.symm e3.symm
 ·cases ho
end
end
noncomputable def aB2:Scope:=fdS (F pw 155)
noncomputable def aRl:List Stmt:=fdB (F pw 155)
noncomputable def bQn:List Stmt→Nat→Stmt
 | [],_=>.Pass default
 |a::_,0=>a
 |_::r,n+1=>bQn r n
noncomputable def aBf:List Stmt:=match bQn aRl 4 with
 | .For _ _ b _ _=>b
 |_=>[]
noncomputable def cfL:Cf:=⟨aB2,none,300,true⟩
noncomputable def aAe(x:Int):Int:=2*(x/2%2)+8*(x/8%2)+32*(x/32%2)+128*(x/128%2)+256*(x/256%2)+131072*(x/131072%2)+262144*(x/262144%2)+524288*(x/524288%2)+(if x/2048%4=2 then 0 else 2048*(x/2048%4))
noncomputable def dr(l:List (Int×Int×Int))(k:Nat):Int×Int×Int:=match l with
 | []=>(0,0,0)
 |a::r=>(match k with
  | 0=>a
  |n+1=>dr r n)
noncomputable def aQr(args:List SV)(σ:St):Option (Out SV):=match args with
 | [m]=>aWt m fun x=>some (.g (0≤x∧x<4294967296) (.p σ (.i (aAe x))))
 |_=>none
noncomputable def hkL(D:Nat→Int×Int×Int):Hook:=fun cf f args σ=>bif cf.hd.isNone&&Nat.ble 20 cf.lv then bif Nat.beq f 2213 then aU7 D args σ else bif Nat.beq f 2225 then aQr args σ else none else none
noncomputable def bPq(K:Frag)(D:List (Int×Int×Int)):Rec:=aZz (vwc 13 K) (hkL (dr D)) 300
noncomputable def bNq(st:SV)(cy re:Int)(pl:Nat):List (Str×SV):=[(bB1,st),(bKq,.z 0),(bKo,.z 0),(bKp,.z 0),(bKk,.z 0),(q77,.z 0),(bKr,.i cy),(bKm,.i re),(bKl,.k .none),(bB2,.z 0),(bKn,.a pl)]
noncomputable def bDb(a b c d:SV):List (Int×SV):=[(261,.z 0),(262,.z 7),(320,.z 0),(321,.z 0),(322,.z 0),(323,.z 0),(773,a),(774,.z 7),(832,.z 0),(833,b),(834,c),(835,d)]
noncomputable def bNr(rg pc md:SV):List (Str×SV):=[(aV3,.a 8),(aV2,.u),(bJy,.u),(bBk,.a 2),(bGx,rg),(bGw,pc),(aE7,md),(bJz,.a 11),(bGl,.a 12)]
noncomputable def aD0(rg pc md st:SV)(cy re:Int)(a b c d:SV)(bg:Int)(wd kn:SO)(g s n:Int)(rw:List SO):List SO :=
 .inst 1899 1::.ns (bNr rg pc md) 9::.inst 1506 3::.ns (bNq st cy re 4) 11::.di (bDb a b c d)::.inst 2088 6::.ns [(aEd,.z 32),(aJ6,.i bg),(aMy,.i (bg+32)),(bJh,.a 7)] 4::wd ::
 .inst 2195 9::.ns [(aLa,.a 5),(bI9,.a 10)] 2::.seq false [] 0::kn::.di []::.cell (some (.a 0))::.seq false [.i g,.i s,.i n] 0::rw
noncomputable def mH(bg t:Int):List (Str×SV):=[(aG1,.a 14),(aJ6,.i bg),(aLa,.a 5),(aIw,.i t)]
noncomputable def aCi(st cy re bg:Int)(wd kn:SO)(g s n:Int)(rw:List SO):List SO:=aD0 .u .u .u (.i st) cy re .u .u .u .u bg wd kn g s n rw
noncomputable def rows0:List SO:=aAk 16 0
noncomputable def aDp(st cy re vc bg:Int)(wd kn:SO)(g s n:Int)(rw:List SO):List SO:=aD0 .u .u .u (.i st) cy re (.i vc) .u .u .u bg wd kn g s n rw
noncomputable def aXb(pc md st cy re vc:Int)(b c d:SV)(bg:Int)(wd kn:SO)(g s n:Int)(rw:List SO):List SO:=aD0 .u (.i pc) (.i md) (.i st) cy re (.i vc) b c d bg wd kn g s n rw
noncomputable def mA(bg t place:Int)(w:SV)(d:SV):List (Str×SV):=[(aZ2,d),(bPw,w),(aE6,.i place),(aG1,.a 14),(aJ6,.i bg),(aLa,.a 5),(aIw,.i t)]
noncomputable def mB(bg t place:Int)(w:SV)(d:SV)(vec wan low mode:Int):List (Str×SV):=(bTq,.i wan)::(aZ3,.i low)::(aE7,.i mode)::(bKw,.i vec)::mA bg t place w d
noncomputable def mC(bg t place vec low mode:Int)(told goes:SV)(cause value status:Int):List (Str×SV):=[(aTa,told),(bB1,.i status),(q65,.i cause),(q66,.i value),(bTp,goes),(aZ3,.i low),(aE7,.i mode),(bKw,.i vec),(aE6,.i place),(aG1,.a 14),(aJ6,.i bg),(aLa,.a 5),(aIw,.i t)]
noncomputable def aK6(K:Frag)(D:List (Int×Int×Int))(a b:Nat)(pf:St→List Nat)(pats:List SO)(nm:List (Str×SV))(σ:St):Out (List Nat):=bf ((bPq K D).bk cfL ((aBf.drop a).take b) σ) fun σ' x=>bDd x (bH1 [13] (pf σ') pats nm σ')
noncomputable def dv0:SO:=.dv none 0 [] []
noncomputable def frN:Nat→Nat→List Nat
 | 0,_=>[]
 |n+1,i=>i::frN n (i+1)
noncomputable def bF2(y:Option SV):Nat:=match y with
 |some (.a i)=>i
 |_=>0
noncomputable def bYz(led:List SO)(i:Nat)(x:Str):Nat:=match gN led i with
 |some (.ns es _)=>bF2 (aD3 x es)
 |_=>0
noncomputable def bM2(led:List SO)(i:Nat):Nat:=match gN led i with
 |some (.inst _ d)=>d
 |_=>0
noncomputable def bTm(led:List SO)(i k:Nat):Nat:=match gN led i with
 |some (.seq _ vs _)=>bF2 (gN vs k)
 |_=>0
noncomputable def dvN(led:List SO)(i:Nat):Nat:=match gN led i with
 |some (.dv _ _ ps _)=>(match ps with
  |p::_=>bF2 (some p.2)
  | []=>0)
 |_=>0
noncomputable def nmN(m:List (Str×SV))(x:Str):Nat:=bF2 (aD3 x m)
noncomputable def pA(k:Nat)(j:Nat)(σ:St):List Nat:=frN 15 0++(frN j 15++[nmN σ.m aZ2])
noncomputable def pA0(σ:St):List Nat:=frN 20 0++([21,22,23,25,26,27,28,29,30,31]++[20,nmN σ.m aZ2])
noncomputable def pB(σ:St):List Nat:=frN 32 0
noncomputable def aS4(q:Nat)(r i d:Nat):Nat→List Nat
 | 0=>[]
 |k+1=>aS4 q r i d k++(bif Nat.beq k q then [r,i,d] else [15+3*k,16+3*k,17+3*k])
noncomputable def pC(new:Bool)(q:Nat)(σ:St):List Nat:=frN 12 0++bYz σ.led 1 bGl::13::14::(bif new then (let r:=dvN σ.led 11;let i:=bTm σ.led r 2;aS4 q r i (bM2 σ.led i) 5++[30]) else frN 16 15)
noncomputable def pD(σ:St):List Nat:=frN 31 0
noncomputable def aAn:Nat→Int
 | 0=>1048691
 | 1=>115
 | 2=>1081491
 | 3=>4292866159
 | 4=>172163
 |_=>4294967295
noncomputable def aXq(nm:Str)(rd rs1 rs2 imm csr:Int):SO:=.ns [(aAf,.s nm),(bAk,.z rd),(bC5,.z rs1),(bC4,.z rs2),(bC3,.z imm),(bHw,.z csr)] 6
noncomputable def aVm(q i d:Nat):List SO:=[.seq true (match q with
 | 2=>[.z 0,.k (.ref 1083),.a i]
 | 4=>[.z 2,.k (.ref 1749),.a i]
 |_=>[.z 5,.k .none,.a i]) 0,.inst 140 d,match q with
 | 0=>aXq aMe 0 0 0 0 0
 | 1=>aXq aMf 0 0 0 0 0
 | 2=>aXq aJ8 1 1 0 1 0
 | 3=>aXq aNb 0 0 0 (-4) 0
 |_=>aXq aJ9 1 5 0 0 0]
noncomputable def aG7(q:Nat):Nat→List SO
 | 0=>[]
 |k+1=>aG7 q k++(bif Nat.beq k q then aVm q (16+3*q) (17+3*q) else [.raw (3*k),.raw (3*k+1),.raw (3*k+2)])
noncomputable def aBj(q:Nat):List SO:=aG7 q 5++[.raw 15]
noncomputable abbrev pcT(vc:Int):Int:=Builtin.bitAnd vc (Builtin.bitXor 4294967295 3)
noncomputable abbrev stT(st mode:Int):Int:=Builtin.bitOr (Builtin.bitOr (Builtin.bitAnd st (Builtin.bitXor 4294967295 (Builtin.bitOr (Builtin.bitOr 128 8) 6144))) (bif Builtin.bitAnd st 8 != 0 then 128 else 0)) (mode*aA4 11)
noncomputable abbrev x5V(bg:Int):Int:=bif bg != 64 then 64 else 2 ^ 31
noncomputable abbrev plc(bg d1 d2:Int):Int:=pick d2 [bg+4*d1,bg+28,bg+32,bg-4,bg+2,bg+5]%2 ^ 32
noncomputable def gs{α:Type}:List Prop→Out α→Out α
 | [],o=>o
 |P::r,o=>.g P (gs r o)
noncomputable abbrev sB{α:Type}(c:Bool)(o:Out α):Out α:=.s c o o
noncomputable def known0(nk:Nat):SO:=.dv (some 0) nk [] []
noncomputable def aOh(nk:Nat)(q:Nat):SO:=.dv (some 0) nk [] [(aAn q,none)]
noncomputable def bD4(nk:Nat)(q:Nat):SO:=.dv (some 0) nk [] [(aAn q,some (.a (15+3*q)))]
noncomputable def aGt(c v:Int):SO:=.seq true [.k .none,.z c,.i v] 0
noncomputable def bH6(g v:Int):SO:=.seq true [.i g,.z 0,.i v] 0
section
theorem aH5{M:Model}{A:Around}{env:Env}{Q:Flow→Shared→Prop}{E:Value→Shared→Prop}{l₂:List Stmt}{Γ:PySem.Ctx}(hΓ:Γ.In A):∀ (l₁:List Stmt) (p:Pos) (s:Shared),Sem.wp M Γ (execs l₁ env) (fun f _ s'=>match f with | .next=>wpAny M A (execs l₂ env) Q E s'|f=>Q f s') (fun e _ s'=>E e s') p s→Sem.wp M Γ (execs (l₁++l₂) env) (fun f _ s'=>Q f s') (fun e _ s'=>E e s') p s
 | [],p,s,h=>h Γ p hΓ
 |a::r,p,s,h=>by
  rw[List.cons_append,execs_cons,Sem.wp_bind']
  rw[execs_cons,Sem.wp_bind'] at h
  refine Sem.wp_mono M Γ _ (fun f p' s' h'=>?_) (fun _ _ _ h'=>h') _ _ h
  cases f with
  |next=>exact aH5 hΓ r p' s' h'
  |_=>exact h'
theorem aKq{M:Model}{A:Around}{env:Env}{Q:Flow→Shared→Prop}{E:Value→Shared→Prop}{s:Shared}{l₁ l₂:List Stmt}(h:wpAny M A (execs l₁ env) (fun f s'=>match f with | .next=>wpAny M A (execs l₂ env) Q E s'|f=>Q f s') E s):wpAny M A (execs (l₁++l₂) env) Q E s :=
 fun Γ p hΓ=>aH5 hΓ l₁ p s (h Γ p hΓ)
variable {V:Vw} {G:Gd V} {W:Wd} {σ:St}
theorem Sat.chg{m m':List (Str×SV)}{led led':List SO}{orc orc':List Nat}(S:Sat G W ⟨m,led,orc⟩)(β:Bet)(hO:All2 (DenO (G.wβ β).X W.ads) led' W.objs)(hm:MD W.ads m' W.m):Sat (G.wβ β) W ⟨m',led',orc'⟩ :=
 ⟨S.ok.wβ β,S.F,hm,S.N,hO,S.len,S.nd,S.hd,S.cl⟩
theorem All2.uncons{α β:Type}{R:α→β→Prop}{a:α}{l:List α}{m:List β}(h:All2 R (a::l) m):∃ b t,m=b::t∧R a b∧All2 R l t:=by
 cases h with|cons r t=>exact⟨_,_,rfl,r,t⟩
noncomputable def noB:SO→Bool
 | .inst _ _=>true
 | .ns _ _=>true
 | .seq _ _ _=>true
 | .di _=>true
 | .cell _=>true
 |_=>false
theorem DenO.noB{X:Ctx V}{β:Bet}{ads:List Addr}{so:SO}{o:Obj}(h:noB so=true)(d:DenO X ads so o):DenO { X with β:=β } ads so o:=by
 cases so<;>first|exact d|cases h
theorem All2.unapp{α β:Type}{R:α→β→Prop}{r:List α}:∀ {A:List α} {m:List β},All2 R (A++r) m→∃ a b,m=a++b∧All2 R A a∧All2 R r b
 | [],m,h=>⟨[],m,rfl,.nil,h⟩
 |x::A,m,h=>by
  obtain⟨b,t,rfl,r0,h⟩:=All2.uncons (show All2 R (x::(A++r)) m from h)
  obtain⟨c,d,rfl,e,f⟩:=All2.unapp h
  exact⟨b::c,d,rfl,.cons r0 e,f⟩
theorem All2.noB{X:Ctx V}{β:Bet}{ads:List Addr}{A:List SO}{l:List Obj}(h:All2 (DenO X ads) A l):A.all Mine.noB=true→All2 (DenO { X with β:=β } ads) A l:=by
 induction h with
 |nil=>intro _;exact .nil
 |cons d _ ih=>intro q;exact .cons (DenO.noB (aAc q).1 d) (ih (aAc q).2)
theorem aXa{X:Ctx V}{ads:List Addr}{A B C r:List SO}{x y:SO}{objs:List Obj}(hA:A.all Mine.noB=true)(hB:B.all Mine.noB=true)(hC:C.all Mine.noB=true)(h:All2 (DenO X ads) (A++x::(B++y::(C++r))) objs) :
  ∃ ox oy os,DenO X ads x ox∧DenO X ads y oy∧All2 (DenO X ads) r os∧(∀ i,gN objs (A.length+(B.length+(C.length+i+1)+1))=gN os i) ∧
   ∀ β x' y' r',DenO { X with β:=β } ads x' ox→DenO { X with β:=β } ads y' oy→All2 (DenO { X with β:=β } ads) r' os→All2 (DenO { X with β:=β } ads) (A++x'::(B++y'::(C++r'))) objs:=by
 obtain⟨oA,t,rfl,rA,h⟩:=All2.unapp h
 obtain⟨ox,t,rfl,rx,h⟩:=All2.uncons h
 obtain⟨oB,t,rfl,rB,h⟩:=All2.unapp h
 obtain⟨oy,t,rfl,ry,h⟩:=All2.uncons h
 obtain⟨oC,os,rfl,rC,h⟩:=All2.unapp h
 refine⟨ox,oy,os,rx,ry,h,fun i=>?_,fun β x' y' r' a b c=>(rA.noB hA).app (.cons a ((rB.noB hB).app (.cons b ((rC.noB hC).app c))))⟩
 rw[rA.len,rB.len,rC.len,aCl]
 show gN (oB++oy::(oC++os)) (oB.length+(oC.length+i+1))=_
 rw[aCl]
 show gN (oC++os) (oC.length+i)=_
 rw[aCl]
theorem aDz{X:Ctx V}{ads:List Addr}{rg pc md st a b c d:SV}{cy re bg g s n:Int}{wd kn:SO}{rw:List SO}{objs:List Obj}
  (h:All2 (DenO X ads) (aD0 rg pc md st cy re a b c d bg wd kn g s n rw) objs):∃ ow ok os,DenO X ads wd ow∧DenO X ads kn ok∧All2 (DenO X ads) rw os∧(∀ i,gN objs (15+i)=gN os i) ∧
   ∀ β wd' kn' rw',DenO { X with β:=β } ads wd' ow→DenO { X with β:=β } ads kn' ok→All2 (DenO { X with β:=β } ads) rw' os→All2 (DenO { X with β:=β } ads) (aD0 rg pc md st cy re a b c d bg wd' kn' g s n rw') objs:=by
 refine aFs (aXa (A:=(aD0 rg pc md st cy re a b c d bg wd kn g s n []).take 7) (B:=(aD0 rg pc md st cy re a b c d bg wd kn g s n []).drop 8 |>.take 3) (C:=(aD0 rg pc md st cy re a b c d bg wd kn g s n []).drop 12) rfl rfl rfl h) fun ow ok os h1 h2 h3 h4 h5=>?_
 refine⟨ow,ok,os,h1,h2,h3,fun i=>?_,h5⟩
 have:=h4 i
 rw[show 15+i=7+(3+(3+i+1)+1) by lia]
 exact this
theorem aJa{l:List Obj}{j:Nat}{o:Obj}(h:gN l j=some o):l.getD j aN6=o:=by rw[List.getD,← aCq,h];rfl
theorem aF3{X:Ctx V}{ads:List Addr}:∀ (os:List Obj) (k:Nat),(∀ j o,gN os j=some o→o=X.β.o (k+j))→All2 (DenO X ads) (aAk os.length k) os
 | [],_,_=>.nil
 |a::r,k,h=>.cons (h 0 a rfl) (aF3 r (k+1) fun j o e=>by rw[show k+1+j=k+(j+1) by lia];exact h (j+1) o e)
theorem Sat.close{rg pc md st a b c d:SV}{cy re bg g s n:Int}{nw nk:Nat}{pw' pk:List (Int×SV)}{fw fk:List (Int×Option SV)}{rw:List SO}{m:List (Str×SV)}{orc orc':List Nat}
  (S:Sat G W ⟨m,aD0 rg pc md st cy re a b c d bg (.dv none nw pw' fw) (.dv (some 0) nk pk fk) g s n rw,orc⟩) :
  ∃ β,Sat (G.wβ β) W ⟨m,aD0 rg pc md st cy re a b c d bg (.dv none (nw+pw'.length) [] []) (known0 (nk+pk.length)) g s n (aAk rw.length 0),orc'⟩∧PutR W.ads (G.X.β.d 0) pk (β.d 0)∧∀ j so,gN rw j=some so→DenO G.X W.ads so (β.o j):=by
 refine aFs (aDz S.O) fun ow ok os z8_3 z8_4 h3 _ k=>?_
 refine aPd z8_3 fun z0 z w1 w2 w3 w4 w5=>?_
 refine aPd z8_4 fun l0 l q1 q2 q3 q4 q5=>?_
 cases q1 0 rfl
 refine⟨⟨fun _=>l,fun j=>os.getD j aN6⟩,S.chg ⟨fun _=>l,fun j=>os.getD j aN6⟩ (k _ _ _ _ ⟨z,z,(fun _ e=>nomatch e),aDw w3 w2,.nil,(fun _ e=>nomatch e),w5⟩ ⟨l,l,(fun _ e=>rfl),aDw q3 q2,.nil,(fun _ e=>nomatch e),q5⟩ ?_) S.M,q3,fun j so e=>?_⟩
 ·rw[h3.len]
  exact aF3 os 0 fun j o e=>by rw[Nat.zero_add];exact (aJa e).symm
 ·refine aAd (h3.get e) fun o e1 e2=>?_
  show DenO G.X W.ads so (os.getD j aN6)
  rw[aJa e1];exact e2
theorem Sat.near{rg pc md st a b c d:SV}{cy re bg g s n:Int}{nk:Nat}{fk:List (Int×Option SV)}{wd:SO}{rw rw':List SO}{m m':List (Str×SV)}{orc orc':List Nat}
  (S:Sat G W ⟨m,aD0 rg pc md st cy re a b c d bg wd (known0 nk) g s n rw,orc⟩) (hm:MD W.ads m' W.m) (hf:∀ f∈fk,FactR W.ads (G.X.β.d 0) f) (hl:rw'.length=rw.length) (hr:∀ j so so' o,gN rw j=some so→gN rw' j=some so'→DenO G.X W.ads so o→DenO G.X W.ads so' o) :
  Sat G W ⟨m',aD0 rg pc md st cy re a b c d bg wd (.dv (some 0) nk [] fk) g s n rw',orc'⟩:=by
 refine aFs (aDz S.O) fun ow ok os h1 z10_4 h3 _ k=>?_
 refine aPd z10_4 fun l0 l q1 q2 q3 q4 q5=>?_
 cases q1 0 rfl
 cases q3
 refine S.chg (orc':=orc') G.X.β (k G.X.β _ _ _ h1 ⟨_,_,(fun i e=>by cases e;rfl),q2,.nil,hf,q5⟩ ?_) hm
 have key:∀ {rw rw':List SO} {os:List Obj},rw'.length=rw.length→(∀ j so so' o,gN rw j=some so→gN rw' j=some so'→DenO G.X W.ads so o→DenO G.X W.ads so' o)→All2 (DenO G.X W.ads) rw os→All2 (DenO G.X W.ads) rw' os:=fun {rw rw' os} hl hr h=>by
  induction h generalizing rw' with
  |nil=>cases List.length_eq_zero_iff.mp hl;exact .nil
  |cons d t ih=>cases rw' with
   |nil=>cases hl
   |cons x y=>exact .cons (hr 0 _ _ _ rfl rfl d) (ih (Nat.succ.inj hl) fun j so so' o e e'=>hr (j+1) so so' o e e')
 exact key hl hr h3
end
noncomputable def aAv(K:Frag):Prop:=∀ {ci:Nat} {G:Gd (vwc ci K)} {W:Wd} {σ:St} {args:List SV} {vs:List Value} {Q:Value→Shared→Prop} {o:Out SV},G.cf.hd=none→20≤G.cf.lv→Sat G W σ→Dens W.ads args vs→aQr args σ=some o →
 Hd G W o (PC G W.m Q)→codeAny G.M G.A (.call (.ref 2225) ⟨vs,[]⟩) (aJm Q G.E) (G.st W)
theorem aUb{ci:Nat}{K:Frag}(H:aAv K)(D:Nat→Int×Int×Int):aPy (vwc ci K) (hkL D):=fun {G W σ f args vs Q o} S a ho h=>by
 unfold hkL at ho
 refine aBa (aAq ho) fun q ho=>?_
 have q1:=Option.isNone_iff_eq_none.mp (aAc q).1
 have q2:=Nat.le_of_ble_eq_true (aAc q).2
 cases e:Nat.beq f 2213 with
 |true=>rw[e] at ho;cases Nat.eq_of_beq_eq_true e;exact aQp q1 (Nat.le_trans (by decide) q2) S a ho h
 |false =>
  rw[e] at ho
  refine aBa (aAq (show (bif Nat.beq f 2225 then aQr args σ else none)=some o from ho)) fun e2 ho=>?_
  cases Nat.eq_of_beq_eq_true e2
  exact H q1 q2 S a ho h
theorem aVk{K:Frag}(H:aAv K)(D:List (Int×Int×Int)):Snd (vwc 13 K) (bPq K D):=aF2 (aUb H (dr D)) 300
section
variable {K:Frag} {G:Gd (vwc 13 K)} {W:Wd} {σ:St}
theorem aY4:∀ x i,(vwc 13 K).cells x=some i→i∈[13]:=fun x i h=>by
 cases (aAq (show (bif aB5 x aAu then some 13 else none)=some i from h)).2
 exact .head _
theorem aVf(H:aAv K)(hcf:G.cf=cfL){D:List (Int×Int×Int)}{a b:Nat}{pf:St→List Nat}{pats:List SO}{nm:List (Str×SV)}{Φ:St→List Nat→Prop}{Q:Flow→Shared→Prop}(S:Sat G W σ)(h:Hl (aK6 K D a b pf pats nm σ) Φ)
  (q:∀ σ' p W',Φ σ' p→Pre W.ads W'.ads→Sat G (W'.re p) σ'→Q .next (G.st W')):G.wp (execs ((aBf.drop a).take b) G.env) Q (G.st W) :=
 stretch (p:=[]) (aVk H D) S (by rw[hcf];rfl) aY4 (by rw[hcf];exact h) q
end
noncomputable def gP{α:Type}{σ:St}{a:α}{Φ:St→α→Prop}(h:Φ σ a):Hl (.p σ a) Φ:=h
theorem aDu{V:Vw}{X:Ctx V}{β:Bet}{ads ads':List Addr}{q i1 d1 i:Nat}{so:SO}{o:Obj}(e:gN (aVm q i1 d1) i=some so)(hi:gN ads' i1=gN ads i1)(hd:gN ads' d1=gN ads d1)(h:DenO X ads so o):DenO { X with β:=β } ads' so o:=by
 have seqm:∀ {x y:SV},(∀ v,Den ads x v→Den ads' x v)→(∀ v,Den ads y v→Den ads' y v)→DenO X ads (.seq true [x,y,.a i1] 0) o→DenO { X with β:=β } ads' (.seq true [x,y,.a i1] 0) o:=fun {x y} hx hy ⟨l,al,e⟩=>by
  obtain⟨v1,t,rfl,r1,al⟩:=All2.uncons al
  obtain⟨v2,t,rfl,r2,al⟩:=All2.uncons al
  obtain⟨v3,t,rfl,⟨a,r3,r4⟩,al⟩:=All2.uncons al
  cases al
  exact⟨_,.cons (hx _ r1) (.cons (hy _ r2) (.cons ⟨a,hi.trans r3,r4⟩ .nil)),e⟩
 have insm:∀ {nm:Str} {a b c d f:Int},DenO X ads (aXq nm a b c d f) o→DenO { X with β:=β } ads' (aXq nm a b c d f) o:=fun {nm a b c d f} ⟨l,al,e⟩=>by
  obtain⟨v1,t,rfl,r1,al⟩:=All2.uncons al
  obtain⟨v2,t,rfl,r2,al⟩:=All2.uncons al
  obtain⟨v3,t,rfl,r3,al⟩:=All2.uncons al
  obtain⟨v4,t,rfl,r4,al⟩:=All2.uncons al
  obtain⟨v5,t,rfl,r5,al⟩:=All2.uncons al
  obtain⟨v6,t,rfl,r6,al⟩:=All2.uncons al
  cases al
  exact⟨_,.cons r1 (.cons r2 (.cons r3 (.cons r4 (.cons r5 (.cons r6 .nil))))),e⟩
 match i,e with
 | 0,e =>
  cases e
  match q,h with
  | 0,h=>exact seqm (fun _ h=>h) (fun _ h=>h) h
  | 1,h=>exact seqm (fun _ h=>h) (fun _ h=>h) h
  | 2,h=>exact seqm (fun _ h=>h) (fun _ h=>h) h
  | 3,h=>exact seqm (fun _ h=>h) (fun _ h=>h) h
  | 4,h=>exact seqm (fun _ h=>h) (fun _ h=>h) h
  |q+5,h=>exact seqm (fun _ h=>h) (fun _ h=>h) h
 | 1,e=>cases e;obtain⟨dx,h1,h2⟩:=h;exact⟨dx,hd.trans h1,h2⟩
 | 2,e =>
  cases e
  match q,h with
  | 0,h=>exact insm h
  | 1,h=>exact insm h
  | 2,h=>exact insm h
  | 3,h=>exact insm h
  | 4,h=>exact insm h
  |q+5,h=>exact insm h
 |_+3,e=>cases e
structure KI{V:Vw}(IT:Addr×Obj)(X:Ctx V)(ads:List Addr):Prop where
 bad:valueAt (X.β.d 0) (aAn 5)=none
 at_:∀ q<5,valueAt (X.β.d 0) (aAn q)=none∨∃ a,gN ads (15+3*q)=some a∧valueAt (X.β.d 0) (aAn q)=some (.ref a)∧∀ i so,gN (aVm q (16+3*q) (17+3*q)) i=some so→DenO X ads so (X.β.o (3*q+i))
 it:gN ads 30=some IT.1∧X.β.o 15=IT.2
theorem KI.keep{V:Vw}{IT:Addr×Obj}{X:Ctx V}{β:Bet}{ads ads':List Addr}(h:KI IT X ads)(ha:∀ i,15≤i→i<31→gN ads' i=gN ads i)(hd:β.d 0=X.β.d 0)(ho:∀ j<16,β.o j=X.β.o j):KI IT { X with β:=β } ads' where
 bad:=by rw[show ({ X with β:=β }:Ctx V).β.d 0=X.β.d 0 from hd];exact h.bad
 at_:=fun q hq=>by
  rw[show ({ X with β:=β }:Ctx V).β.d 0=X.β.d 0 from hd]
  refine (h.at_ q hq).imp id fun ⟨a,h1,h2,h3⟩=>⟨a,(ha _ (by lia) (by lia)).trans h1,h2,fun i so e=>?_⟩
  have hi:i<3:=by have:=aBk e;exact this
  rw[show ({ X with β:=β }:Ctx V).β.o (3*q+i)=X.β.o (3*q+i) from ho _ (by lia)]
  exact aDu e (ha _ (by lia) (by lia)) (ha _ (by lia) (by lia)) (h3 i so e)
 it:=⟨(ha 30 (by lia) (by lia)).trans h.it.1,(ho 15 (by lia)).trans h.it.2⟩
theorem aBb{g s n many:Int}(h:0<many):∃ d g' n',aB9 g s n many d g' n'∧0≤d∧d<many∧n≤n'∧n'≤n+1:=by
 by_cases hg:0<g
 ·exact⟨_,_,_,.inl ⟨hg,rfl,rfl,rfl⟩,Int.emod_nonneg _ (Int.ne_of_gt h),Int.emod_lt_of_pos _ h,Int.le_refl _,by lia⟩
 ·exact⟨_,_,_,.inr ⟨hg,rfl,rfl,rfl⟩,Int.emod_nonneg _ (Int.ne_of_gt h),Int.emod_lt_of_pos _ h,by lia,Int.le_refl _⟩
noncomputable abbrev wd0(nw:Nat):SO:=.dv none nw [] []
noncomputable def aCs(k:Nat)(place:Int):SO:=match k with
 | 0=>aGt 3 place
 | 1=>aGt 8 0
 | 2=>bH6 ((place+4)%2 ^ 32) 0
 | 3=>bH6 ((place-4)%2 ^ 32) 0
 | 4=>aGt 5 64
 | 5=>aGt 2 4294967295
 | 6=>aGt 0 place
 |_=>aGt 1 place
noncomputable def wSV(k:Nat)(w:Int):SV:=match k with
 | 6=>.i w
 | 7=>.i w
 |k=>.z (aAn k)
noncomputable abbrev mZ(place:Int):Prop:=(place%4 != 0)=false
noncomputable abbrev mL(bg place:Int):Prop:=decide (bg≤place)=true
noncomputable abbrev mH'(bg place:Int):Prop:=decide (place<bg+32)=true
noncomputable abbrev bAu(wan:Int):Prop:=0≤wan∧wan<4294967296
noncomputable abbrev tvK(c v:Int):Prop:=True∧(0≤c∧c<100)∧True∧(0≤v∧v<4294967296)∧True
noncomputable abbrev mdK(mode:Int):Prop:=0≤mode∧mode≤i64
noncomputable abbrev bHz(mode:Int):Prop:=(Builtin.bitAnd (8+mode) 2147483648 != 0)=false
noncomputable abbrev A4(b:Bool)(bg:Int):Int:=Builtin.bitAnd (x5V bg+bif b then Builtin.bitAnd (aAn 4) 4294967295/aA4 20 else 0) 4294967295
noncomputable abbrev J4(b:Bool)(place:Int):Int:=Builtin.bitAnd (place+bif b then (Builtin.bitOr (Builtin.bitOr (Builtin.bitAnd (Builtin.bitAnd (aAn 3) 4294967295/aA4 12) 255*aA4 12) (Builtin.bitAnd (Builtin.bitAnd (aAn 3) 4294967295/aA4 20) 1*aA4 11)) (Builtin.bitAnd (Builtin.bitAnd (aAn 3) 4294967295/aA4 21) 1023*aA4 1)-1048576) else -4) 4294967295
noncomputable abbrev dk9(g s n d g' n' many:Int):Prop:=aB9 g s n many d g' n'∧DrawOk s n many
noncomputable abbrev dH(g s n d0 g0 n0 d1 g1 n1 d2 g2 n2:Int)(x:Out (List Nat)):Out (List Nat):=gs [dk9 g s n d0 g0 n0 9,dk9 g0 s n0 d1 g1 n1 8,dk9 g1 s n1 d2 g2 n2 (bif decide (5<d0) then 6 else 2),0≤d2∧d2<6] x
noncomputable abbrev pSc(bg t st cy re g s n place:Int)(nw nk:Nat)(w:SV)(due:SO)(f:List Nat):Out (List Nat):=.p ⟨mA bg t place w (.a 31),aCi st cy re bg (wd0 nw) (known0 nk) g s n (rows0++[due]),[]⟩ (frN 31 0++f)
noncomputable abbrev bF5(K:Frag)(D:List (Int×Int×Int))(due:SO)(w:SV)(bg t st cy re g s n:Int)(nw nk:Nat)(orc:List Nat):Out (List Nat):=aK6 K D 0 1 (pA 0 16) (aCi 0 0 0 0 dv0 dv0 0 0 0 (rows0++[due])) (mA 0 0 0 w (.a 31)) ⟨mH bg t,aCi st cy re bg (wd0 nw) (known0 nk) g s n rows0,orc⟩
noncomputable def gA(bg place mode:Int)(nw nk:Nat)(b c:Bool)(q:Nat)(x:Out (List Nat)):Out (List Nat) :=
 gs [mL bg place,mH' bg place,(place%4==0)=true,mZ place,decide (place<bg)=false,decide (bg+32<place+4)=false,nw+0≤1000,(Builtin.bitAnd place 3 != 0)=false,(mode==3)=c,mL bg place,decide (place+4≤bg+32)=true,mZ place,decide (place<bg)=false,decide (bg+32<place+4)=false,place/aA4 2=place/aA4 2,Builtin.bitAnd (aAn q) 4294967295=aAn q] (gs (bif b then [nk+0≤1000] else []) x)
noncomputable def gT(mode vc wan:Int)(c:Bool)(x:Out (List Nat)):Out (List Nat):=gs [(mode==3)=c,mdK mode] (sB (Builtin.bitAnd vc 1 != 0) (gs [bAu wan] x))
noncomputable def fC(b:Bool)(q s:Nat):List Nat:=frN 12 0++(bif b then s::frN (2+3*q) 13++([46,45,44]++frN (13-3*q) (18+3*q)) else (bif Nat.ble s 12 then s else s-4)::frN 18 13)
noncomputable def knB(b:Bool)(nk q:Nat):SO:=bif b then aOh nk q else bD4 nk q
noncomputable def rwB(b:Bool)(q:Nat):List SO:=bif b then rows0 else aBj q
noncomputable def pkB(b:Bool)(q:Nat):List (Int×SV):=bif b then [(aAn q,.a (15+3*q))] else []
noncomputable def nB(c:Bool):Nat:=bif c then 1 else 0
noncomputable abbrev sTr(bg t place vec wan low mode cz v D st cy re vc g s n:Int)(nw nk:Nat)(pw pk:List (Int×SV))(fw fk:List (Int×Option SV))(rw:List SO):St:=⟨mC bg t place vec low mode (.i cz) (.k .none) cz v (aAe wan),aD0 .u (.i (pcT vc)) (.i 3) (.i (stT st mode)) (cy+1) re (.i vc) (.i place) (.i cz) (.i D) bg (.dv none nw pw fw) (.dv (some 0) nk pk fk) g s n rw,[]⟩
noncomputable abbrev sGo(bg t place vec wan low mode v go pc st cy re vc g s n:Int)(nw nk:Nat)(pw pk:List (Int×SV))(fw fk:List (Int×Option SV))(rw:List SO):St:=⟨mC bg t place vec low mode (.k .none) (.i go) 0 v (aAe wan),aD0 .u (.i pc) (.i mode) (.i st) (cy+1) (re+1) (.i vc) .u .u .u bg (.dv none nw pw fw) (.dv (some 0) nk pk fk) g s n rw,[]⟩
noncomputable abbrev fwB(q:Nat)(place:Int):List (Int×Option SV):=[(place/aA4 2,some (.z (aAn q)))]
noncomputable abbrev fkB(q:Nat):List (Int×Option SV):=[(aAn q,some (.a (15+3*q)))]
noncomputable abbrev aZy(K:Frag)(a n:Nat)(pf:St→List Nat)(rw:List SO)(w:SV)(bg t place vec wan low mode st cy re vc g s n':Int)(nw:Nat)(kn:SO)(rows:List SO)(orc:List Nat):Out (List Nat):=aK6 K [] a n pf (aXb 0 0 0 0 0 0 (.i 0) (.i 0) (.i 0) 0 dv0 dv0 0 0 0 rw) (mC 0 0 0 0 0 0 (.i 0) (.k .none) 0 0 0) ⟨mB bg t place w (.a 31) vec wan low mode,aDp st cy re vc bg (wd0 nw) kn g s n' rows,orc⟩
noncomputable abbrev bPp(K:Frag)(a n:Nat)(pf:St→List Nat)(rw:List SO)(w:SV)(bg t place vec wan low mode st cy re vc g s n':Int)(nw:Nat)(kn:SO)(rows:List SO)(orc:List Nat):Out (List Nat):=aK6 K [] a n pf (aXb 0 0 0 0 0 0 .u .u .u 0 dv0 dv0 0 0 0 rw) (mC 0 0 0 0 0 0 (.k .none) (.i 0) 0 0 0) ⟨mB bg t place w (.a 31) vec wan low mode,aDp st cy re vc bg (wd0 nw) kn g s n' rows,orc⟩
noncomputable abbrev bPo(K:Frag)(w bg t place vec wan low mode st cy re vc g s n:Int)(nw nk:Nat)(orc:List Nat):Out (List Nat):=aK6 K [] 7 1 pB (aDp 0 0 0 0 0 dv0 dv0 0 0 0 (aAk 17 0)) (mB 0 0 0 (.i 0) (.a 31) 0 0 0 0) ⟨mB bg t place (.i w) (.a 31) vec wan low mode,aDp st cy re vc bg (wd0 nw) (known0 nk) g s n (aAk 17 0),orc⟩
noncomputable def a15:List SO:=[.any,.any,.any,.any,.any,.any,.any,.any,.any,.any,.any,.any,.any,.any,.any,.raw 5]
theorem aK7(K:Frag)(bg st cy re g s n d0 g0 n0 d1 g1 n1:Int)(nw nk:Nat):aK6 K [(d0,g0,n0),(d1,g1,n1)] 0 1 pA0 (aCi 0 0 0 0 dv0 dv0 0 0 0 (a15++[(aGt 3 0)])) (mA 0 0 0 (.z (aAn 0)) (.a 31)) ⟨(mH bg 0),(aCi st cy re bg (.dv none nw [] []) (known0 nk) g s n (aAk 6 0)),[1,0,1,0,0,1,1]⟩ =
  gs [((0:Int)==0)=true,aB9 g s n 8 d0 g0 n0∧DrawOk s n 8,aB9 g0 s n0 2 d1 g1 n1∧DrawOk s n0 2,0≤d1∧d1<6,(plc bg d0 d1%4 != 0)=false,decide (bg≤plc bg d0 d1)=true,decide (plc bg d0 d1<bg+32)=true] (.p ⟨mA (bg) (0) (plc bg d0 d1) (.z (1048691)) (.a 31),(aCi st cy re bg (wd0 nw) (known0 nk) (g1) (s) (n1) (a15++[aGt 3 (plc bg d0 d1)])),[]⟩ (frN 20 0++[21,22,23,25,26,27,28,29,30,31,20,24])):=aAa (by k_slotget)
section
variable (K:Frag) (bg t st cy re g s n d0 g0 n0 d1 g1 n1 d2 g2 n2 d3 g3 n3:Int) (nw nk:Nat)
theorem aVh(k:Nat)(hk:k<6):bF5 K [(d0,g0,n0),(d1,g1,n1),(d2,g2,n2)] (aCs k 0) (wSV k 0) bg t st cy re g s n nw nk [0,0,1,2,0,1,k+1,0,1,1] =
  .g ((t==0)=false) (dH g s n d0 g0 n0 d1 g1 n1 d2 g2 n2 (gs [decide (d0<6)=true,d0=(k:Int),mZ (plc bg d1 d2),mL bg (plc bg d1 d2),mH' bg (plc bg d1 d2)] (pSc bg t st cy re g2 s n2 (plc bg d1 d2) nw nk (wSV k 0) (aCs k (plc bg d1 d2)) [34+k+nB (Nat.ble 3 k)]))):=by
 match k,hk with
 | 0,_ | 1,_ | 2,_ | 3,_ | 4,_ | 5,_=>exact aAa (by k_slotget)
theorem aVi(k:Nat)(hk:k<6):bF5 K [(d0,g0,n0),(d1,g1,n1),(d2,g2,n2),(d3,g3,n3)] (aCs k 0) (wSV k 0) bg t st cy re g s n nw nk [0,0,1,2,0,0,3,k+1,0,1,1] =
  .g ((t==0)=false) (dH g s n d0 g0 n0 d1 g1 n1 d2 g2 n2 (gs [decide (d0<6)=false,dk9 g2 s n2 d3 g3 n3 6,d3=(k:Int),mZ (plc bg d1 d2),mL bg (plc bg d1 d2),mH' bg (plc bg d1 d2)] (pSc bg t st cy re g3 s n3 (plc bg d1 d2) nw nk (wSV k 0) (aCs k (plc bg d1 d2)) [34+k+nB (Nat.ble 3 k)]))):=by
 match k,hk with
 | 0,_ | 1,_ | 2,_ | 3,_ | 4,_ | 5,_=>exact aAa (by k_slotget)
theorem aQx:bF5 K [(d0,g0,n0),(d1,g1,n1),(d2,g2,n2),(d3,g3,n3)] (aGt 0 0) (.i 0) bg t st cy re g s n nw nk [0,0,1,2,0,0,3,0,1] =
  .g ((t==0)=false) (dH g s n d0 g0 n0 d1 g1 n1 d2 g2 n2 (gs [decide (d0<6)=false,dk9 g2 s n2 d3 g3 n3 6,0≤d3∧d3<6,(plc bg d1 d2%4 != 0)=true] (pSc bg t st cy re g3 s n3 (plc bg d1 d2) nw nk (.i (pick d3 [1048691,115,1081491,4292866159,172163,4294967295])) (aGt 0 (plc bg d1 d2)) [33]))):=aAa (by k_slotget)
theorem aQw:bF5 K [(d0,g0,n0),(d1,g1,n1),(d2,g2,n2),(d3,g3,n3)] (aGt 1 0) (.i 0) bg t st cy re g s n nw nk [0,0,1,2,0,0,3,0,0,2,0] =
  .g ((t==0)=false) (dH g s n d0 g0 n0 d1 g1 n1 d2 g2 n2 (gs [decide (d0<6)=false,dk9 g2 s n2 d3 g3 n3 6,0≤d3∧d3<6,mZ (plc bg d1 d2)] (.s (decide (bg≤plc bg d1 d2)) (gs [decide (plc bg d1 d2<bg+32)=false] (pSc bg t st cy re g3 s n3 (plc bg d1 d2) nw nk (.i (pick d3 [1048691,115,1081491,4292866159,172163,4294967295])) (aGt 1 (plc bg d1 d2)) [33])) (pSc bg t st cy re g3 s n3 (plc bg d1 d2) nw nk (.i (pick d3 [1048691,115,1081491,4292866159,172163,4294967295])) (aGt 1 (plc bg d1 d2)) [33])))):=aAa (by k_slotget)
end
theorem bI2(K:Frag)(bg t st cy re g s n w place d0 g0 n0 d1 g1 n1 d2 g2 n2 d3 g3 n3 d4 g4 n4 d5 g5 n5:Int)(nw nk:Nat):aK6 K [(d0,g0,n0),(d1,g1,n1),(d2,g2,n2),(d3,g3,n3),(d4,g4,n4),(d5,g5,n5)] 1 4 pB (aCi 0 0 0 0 dv0 dv0 0 0 0 (aAk 17 0)) (mB 0 0 0 (.i 0) (.a 31) 0 0 0 0) ⟨(mA bg t place (.i w) (.a 31)),(aCi st cy re bg (wd0 nw) (known0 nk) g s n (aAk 17 0)),[0,1,0,2,3,4,5,0]⟩ =
  gs [aB9 g s n (2 ^ 30) d0 g0 n0∧DrawOk s n (2 ^ 30),aB9 g0 s n0 3 d1 g1 n1∧DrawOk s n0 3,0≤d1∧d1<3,aB9 g1 s n1 4 d2 g2 n2∧DrawOk s n1 4,aB9 g2 s n2 (2 ^ 32) d3 g3 n3∧DrawOk s n2 (2 ^ 32),aB9 g3 s n3 2 d4 g4 n4∧DrawOk s n3 2,aB9 g4 s n4 3 d5 g5 n5∧DrawOk s n4 3,0≤d5∧d5<3] (.p ⟨mB bg t place (.i w) (.a 31) (pick d1 [4096,4294967040,4*d0]+d2) (d3-2 ^ 17*(d3/2 ^ 17%2)) (2 ^ 32-1-d4) (pick d5 [3,0,1]),(aD0 (.u) (.u) (.u) (.i st) cy re (.u) (.u) (.u) (.u) bg (wd0 nw) (known0 nk) g5 s n5 (rows0++[.raw 16])),[]⟩ (frN 32 0)):=aAa (by k_slotget)
theorem bI1(K:Frag)(bg t st cy re g s n w place vec wan low mode:Int)(nw nk:Nat):aK6 K [] 5 1 pB (aDp 0 0 0 0 0 dv0 dv0 0 0 0 (aAk 17 0)) (mB 0 0 0 (.i 0) (.a 31) 0 0 0 0) ⟨(mB bg t place (.i w) (.a 31) vec wan low mode),(aCi st cy re bg (wd0 nw) (known0 nk) g s n (aAk 17 0)),[2]⟩ =
  .s (Builtin.bitAnd (Builtin.bitAnd (Builtin.bitAnd wan 4294967295) 924074) 6144==2*aA4 11) (gs [0≤cy/aA4 32∧cy/aA4 32≤i64,0≤re/aA4 32∧re/aA4 32≤i64] (.p ⟨mB bg t place (.i w) (.a 31) vec wan low mode,(aD0 (.u) (.u) (.u) (.i (Builtin.bitOr (Builtin.bitAnd (Builtin.bitAnd (Builtin.bitAnd wan 4294967295) 924074) (Builtin.bitXor 4294967295 6144)) (Builtin.bitAnd (Builtin.bitAnd (Builtin.bitAnd 0 4294967295) 924074) 6144))) (Builtin.bitOr (Builtin.bitAnd 6 4294967295*aA4 32) (Builtin.bitAnd (Builtin.bitOr (cy/aA4 32*aA4 32) (Builtin.bitAnd low 4294967295)) 4294967295)) (Builtin.bitOr (Builtin.bitAnd 9 4294967295*aA4 32) (Builtin.bitAnd (Builtin.bitOr (re/aA4 32*aA4 32) (Builtin.bitAnd low 4294967295)) 4294967295)) (.i (Builtin.bitAnd (Builtin.bitAnd vec 4294967295) (Builtin.bitXor 4294967295 2))) (.u) (.u) (.u) bg (wd0 nw) (known0 nk) g s n (rows0++[.raw 16])),[]⟩ (frN 32 0))) (gs [0≤cy/aA4 32∧cy/aA4 32≤i64,0≤re/aA4 32∧re/aA4 32≤i64] (.p ⟨mB bg t place (.i w) (.a 31) vec wan low mode,(aD0 (.u) (.u) (.u) (.i (Builtin.bitAnd (Builtin.bitAnd wan 4294967295) 924074)) (Builtin.bitOr (Builtin.bitAnd 6 4294967295*aA4 32) (Builtin.bitAnd (Builtin.bitOr (cy/aA4 32*aA4 32) (Builtin.bitAnd low 4294967295)) 4294967295)) (Builtin.bitOr (Builtin.bitAnd 9 4294967295*aA4 32) (Builtin.bitAnd (Builtin.bitOr (re/aA4 32*aA4 32) (Builtin.bitAnd low 4294967295)) 4294967295)) (.i (Builtin.bitAnd (Builtin.bitAnd vec 4294967295) (Builtin.bitXor 4294967295 2))) (.u) (.u) (.u) bg (wd0 nw) (known0 nk) g s n (rows0++[.raw 16])),[]⟩ (frN 32 0))):=aAa (by k_slotget)
theorem bI0(K:Frag)(bg t st cy re vc g s n w place vec wan low mode:Int)(nw nk:Nat):aK6 K [] 6 1 pB (aDp 0 0 0 0 0 dv0 dv0 0 0 0 (aAk 17 0)) (mB 0 0 0 (.i 0) (.a 31) 0 0 0 0) ⟨(mB bg t place (.i w) (.a 31) vec wan low mode),(aDp st cy re vc bg (wd0 nw) (known0 nk) g s n (aAk 17 0)),[0,0,1,5,1,5,1,5,1,5,1,5,1,5,1,5,1,5,0]⟩ =
  gs [decide (bg<bg)=false,decide (bg+32<bg+32)=false,decide (bg<bg+32)=true,aHm (4-Builtin.bitAnd bg 3) (bg+32-bg)=4,nw+0≤1000,decide (bg+4<bg+32)=true,aHm (4-Builtin.bitAnd (bg+4) 3) (bg+32-(bg+4))=4,nw+0+0≤1000,decide (bg+4+4<bg+32)=true,aHm (4-Builtin.bitAnd (bg+4+4) 3) (bg+32-(bg+4+4))=4,nw+0+0+0≤1000,decide (bg+4+4+4<bg+32)=true,aHm (4-Builtin.bitAnd (bg+4+4+4) 3) (bg+32-(bg+4+4+4))=4,nw+0+0+0+0≤1000,decide (bg+4+4+4+4<bg+32)=true,aHm (4-Builtin.bitAnd (bg+4+4+4+4) 3) (bg+32-(bg+4+4+4+4))=4,nw+0+0+0+0+0≤1000,decide (bg+4+4+4+4+4<bg+32)=true,aHm (4-Builtin.bitAnd (bg+4+4+4+4+4) 3) (bg+32-(bg+4+4+4+4+4))=4,nw+0+0+0+0+0+0≤1000,decide (bg+4+4+4+4+4+4<bg+32)=true,aHm (4-Builtin.bitAnd (bg+4+4+4+4+4+4) 3) (bg+32-(bg+4+4+4+4+4+4))=4,nw+0+0+0+0+0+0+0≤1000,decide (bg+4+4+4+4+4+4+4<bg+32)=true,aHm (4-Builtin.bitAnd (bg+4+4+4+4+4+4+4) 3) (bg+32-(bg+4+4+4+4+4+4+4))=4,nw+0+0+0+0+0+0+0+0≤1000,decide (bg+4+4+4+4+4+4+4+4<bg+32)=false] (.p ⟨mB bg t place (.i w) (.a 31) vec wan low mode,(aD0 (.u) (.u) (.u) (.i st) cy re (.i vc) (.u) (.u) (.u) bg (.dv none (nw+0+0+0+0+0+0+0+0) [] []) (known0 nk) g s n (rows0++[.raw 16])),[]⟩ (frN 32 0)):=aAa (by k_slotget)
theorem bM4{α:Type}{o t:Out α}{Φ:St→α→Prop}(e:o=t)(h:Hl t Φ):Hl o Φ:=e▸h
theorem gG{α:Type}{P:Prop}{o:Out α}{Φ:St→α→Prop}(h:P)(k:Hl o Φ):Hl (.g P o) Φ:=⟨h,k⟩
theorem gS{α:Type}{c:Bool}{a b:Out α}{Φ:St→α→Prop}(h:c=true→Hl a Φ)(k:c=false→Hl b Φ):Hl (.s c a b) Φ:=⟨h,k⟩
noncomputable abbrev aS0{V:Vw}(G:Gd V)(W:Wd)(Q:Flow→Shared→Prop)(σ':St)(p:List Nat):Prop:=∀ W',Pre W.ads W'.ads→Sat G (W'.re p) σ'→Q .next (G.st W')
section
variable {K:Frag} {G:Gd (vwc 13 K)} {W:Wd} {σ:St} {Q:Flow→Shared→Prop} {IT:Addr×Obj}
structure Run(G:Gd (vwc 13 K))(n:Nat)(Q:Flow→Shared→Prop)(s:Shared):Prop where
 h:G.wp (execs (aBf.drop n) G.env) Q s
structure RunS(G:Gd (vwc 13 K))(a b:Nat)(Q:Flow→Shared→Prop)(s:Shared):Prop where
 h:G.wp (execs ((aBf.drop a).take b) G.env) Q s
theorem RunS.tail{a b:Nat}{s:Shared}(e:(aBf.drop a).take b=aBf.drop a)(h:RunS G a b Q s):Run G a Q s:=⟨e▸h.h⟩
noncomputable def aQn(G:Gd (vwc 13 K))(n:Nat)(Q:Flow→Shared→Prop)(f:Flow)(s:Shared):Prop:=match f with
 | .next=>Run G n Q s
 |f=>Q f s
theorem aAo{a b c:Nat}{s:Shared}(hc:c=a+b)(h:RunS G a b (aQn G c Q) s):Run G a Q s:=by
 subst hc
 refine⟨?_⟩
 rw[← List.take_append_drop b (aBf.drop a),List.drop_drop]
 refine aKq (wpAny_mono h.h (fun f s' k=>?_) fun _ _ k=>k)
 cases f with
 |next=>exact k.h
 |_=>exact k
theorem seg_end(H:aAv K)(hcf:G.cf=cfL){D:List (Int×Int×Int)}{a b:Nat}{pf:St→List Nat}{pats:List SO}{nm:List (Str×SV)}{t:Out (List Nat)}(S:Sat G W σ)(e:aK6 K D a b pf pats nm σ=t)(h:Hl t (aS0 G W Q)):RunS G a b Q (G.st W) :=
 ⟨aVf H hcf S (bM4 e h) fun _ _ _ k p s=>k _ p s⟩
theorem aOs:∀ {n k i:Nat} {l:List Nat},i<n→gN (frN n k++l) i=some (k+i)
 | 0,_,_,_,h=>absurd h (Nat.not_lt_zero _)
 |n+1,k,0,_,_=>rfl
 |n+1,k,i+1,l,h=>by
  show gN (frN n (k+1)++l) i=_
  rw[aOs (Nat.lt_of_succ_lt_succ h),show k+1+i=k+(i+1) by lia]
theorem agree{p:List Nat}{ads ads':List Addr}{i:Nat}(hp:gN p i=some i)(pre:Pre ads ads')(hi:i<ads.length):gN (aAp p ads') i=gN ads i:=by
 refine aA6 (aAl hi) fun a ha=>?_
 rw[ha];exact aB7 hp (pre.get ha)
theorem aC7{n:Nat}{l:List Nat}{ads ads':List Addr}(pre:Pre ads ads')(hn:n≤ads.length):∀ i,i<n→gN (aAp (frN n 0++l) ads') i=gN ads i:=fun i hi =>
 agree (by rw[aOs hi,Nat.zero_add]) pre (Nat.lt_of_lt_of_le hi hn)
theorem Sat.alen(S:Sat G W σ):W.ads.length=σ.led.length:=by rw[S.O.len,S.len]
noncomputable def aHw(bg:Int):Prop:=64≤bg∧bg≤4294967264∧bg%4=0
noncomputable def aCo(k:Nat)(bg place:Int):Prop:=0≤place∧place<4294967296∧match k with
 | 6=>place%4≠0
 | 7=>place%4=0∧¬ (bg≤place∧place<bg+32)
 |_=>bg≤place∧place<bg+32∧place%4=0
structure Scene(IT:Addr×Obj)(G:Gd (vwc 13 K))(W:Wd)(bg t st cy re:Int)(nw nk:Nat)(g s n:Int)(k:Nat)(place w:Int):Prop where
 S:Sat G W ⟨mA bg t place (wSV k w) (.a 31),aCi st cy re bg (.dv none nw [] []) (known0 nk) g s n (aAk 17 0),[]⟩
 ki:KI IT G.X W.ads
 due:DenO G.X W.ads (aCs k place) (G.X.β.o 16)
 pl:aCo k bg place
theorem aCx{ads:List Addr}{l0 l:List (Int×Value)}(h:PutR ads l0 [] l):l=l0:=by cases h;rfl
theorem aDf{l:List SO}:∀ {n k i:Nat},i<n→gN (aAk n k++l) i=some (.raw (k+i))
 | 0,_,_,h=>absurd h (Nat.not_lt_zero _)
 |n+1,k,0,_=>rfl
 |n+1,k,i+1,h=>by
  show gN (aAk n (k+1)++l) i=_
  rw[aDf (Nat.lt_of_succ_lt_succ h),show k+1+i=k+(i+1) by lia]
theorem aD1{V:Vw}{X:Ctx V}{β:Bet}{ads ads':List Addr}{k:Nat}{place:Int}{o:Obj}(h:DenO X ads (aCs k place) o):DenO { X with β:=β } ads' (aCs k place) o:=by
 have key:∀ {x:SV} {c v:Int},(∀ v,Den ads x v→Den ads' x v)→DenO X ads (.seq true [x,.z c,.i v] 0) o→DenO { X with β:=β } ads' (.seq true [x,.z c,.i v] 0) o:=fun {x c v} hx ⟨l,al,e⟩=>by
  obtain⟨v1,t,rfl,r1,al⟩:=All2.uncons al
  obtain⟨v2,t,rfl,r2,al⟩:=All2.uncons al
  obtain⟨v3,t,rfl,r3,al⟩:=All2.uncons al
  cases al
  exact⟨_,.cons (hx _ r1) (.cons r2 (.cons r3 .nil)),e⟩
 match k,h with
 | 0,h=>exact key (fun _ h=>h) h
 | 1,h=>exact key (fun _ h=>h) h
 | 2,h=>exact key (fun _ h=>h) h
 | 3,h=>exact key (fun _ h=>h) h
 | 4,h=>exact key (fun _ h=>h) h
 | 5,h=>exact key (fun _ h=>h) h
 | 6,h=>exact key (fun _ h=>h) h
 |k+7,h=>exact key (fun _ h=>h) h
theorem Scene.of{bg t st cy re s g' n':Int}{nw nk k:Nat}{place w:Int}{W W':Wd}{p l:List Nat}(hp:p=frN 31 0++l)(h30:31≤W.ads.length)(ki:KI IT G.X W.ads)(pre:Pre W.ads W'.ads)(S:Sat G (W'.re p) ⟨mA bg t place (wSV k w) (.a 31),aCi st cy re bg (.dv none nw [] []) (known0 nk) g' s n' (rows0++[aCs k place]),[]⟩)(pl:aCo k bg place) :
  ∃ β,Scene IT (G.wβ β) (W'.re p) bg t st cy re nw nk g' s n' k place w:=by
 subst hp
 refine aDm (S.close (orc':=[])) fun β S1 P R=>?_
 exact⟨β,S1,ki.keep (fun i _ h=>aC7 pre h30 i h) (aCx P) fun j hj=>by
  have:=R j _ (aDf hj)
  rw[Nat.zero_add] at this
  exact this,aD1 (R 16 _ rfl),pl⟩
end
theorem aTx{bg d1 d2:Int}(h:aHw bg)(a:0≤d1)(b:d1<8)(c:0≤d2)(d:d2<2):aCo 0 bg (plc bg d1 d2):=by
 refine aJi h fun h1 h2 h3=>?_
 have:d2=0∨d2=1:=by lia
 rcases this with rfl|rfl
 ·show 0≤(bg+4*d1)%4294967296∧(bg+4*d1)%4294967296<4294967296∧bg≤(bg+4*d1)%4294967296∧(bg+4*d1)%4294967296<bg+32∧(bg+4*d1)%4294967296%4=0
  lia
 ·show 0≤(bg+28)%4294967296∧(bg+28)%4294967296<4294967296∧bg≤(bg+28)%4294967296∧(bg+28)%4294967296<bg+32∧(bg+28)%4294967296%4=0
  lia
theorem aNe{bg d1 d2:Int}:0≤plc bg d1 d2∧plc bg d1 d2<4294967296:=⟨Int.emod_nonneg _ (by decide),Int.emod_lt_of_pos _ (by decide)⟩
theorem aBl{a:Int}(h:a=0):(a != 0)=false:=by rw[h];rfl
theorem aGw{a b:Int}(h:a≠b):(a != b)=true:=by rw[bne,beq_eq_false_iff_ne.mpr h];rfl
structure BoxOk(s n:Int):Prop where
 s0:0≤s
 s1:s<2147483629
 n0:0≤n
 n1:n<90000
theorem BoxOk.dk{s n n' many:Int}(h:BoxOk s n)(a:n≤n')(b:n'≤n+1000)(c:0<many)(d:many≤4294967296):DrawOk s n' many:=⟨c,d,h.s0,h.s1,by have:=h.n0;lia,by have:=h.n1;lia⟩
section
variable {K:Frag} {G:Gd (vwc 13 K)} {W:Wd} {Q:Flow→Shared→Prop} {IT:Addr×Obj}
theorem plk{bg p:Int}{k:Nat}(hk:k<6)(h:aCo 0 bg p):aCo k bg p:=by
 match k,hk with
 | 0,_ | 1,_ | 2,_ | 3,_ | 4,_ | 5,_=>exact h
theorem cBq(H:aAv K)(hcf:G.cf=cfL){bg t st cy re g s n:Int}{nw nk:Nat}{orc:List Nat}(S0:Sat G W ⟨mH bg t,aCi st cy re bg (.dv none nw [] []) (known0 nk) g s n rows0,orc⟩)(ki:KI IT G.X W.ads)(ht:t≠0)(hb:aHw bg)(bx:BoxOk s n)
  (cont:∀ β W' k place w g' n',k<8→n≤n'→n'≤n+4→Scene IT (G.wβ β) W' bg t st cy re nw nk g' s n' k place w→Q .next (G.st W')):RunS G 0 1 Q (G.st W):=by
 have h30:31≤W.ads.length:=Nat.le_of_eq S0.alen.symm
 have S:∀ orc',Sat G W ⟨mH bg t,aCi st cy re bg (.dv none nw [] []) (known0 nk) g s n rows0,orc'⟩:=fun orc'=>⟨S0.ok,S0.F,S0.M,S0.N,S0.O,S0.len,S0.nd,S0.hd,S0.cl⟩
 refine aFs (aBb (g:=g) (s:=s) (n:=n) (many:=9) (by decide)) fun d0 g0 n0 t0 a0 b0 e0 f0=>?_
 refine aFs (aBb (g:=g0) (s:=s) (n:=n0) (many:=8) (by decide)) fun d1 g1 n1 t1 a1 b1 e1 f1=>?_
 have dk0:=bx.dk (Int.le_refl n) (by lia) (many:=9) (by decide) (by decide)
 have dk1:=bx.dk e0 (by lia) (many:=8) (by decide) (by decide)
 have hm:0<(bif decide (5<d0) then (6:Int) else 2)∧(bif decide (5<d0) then (6:Int) else 2)≤6∧(d0<6→(bif decide (5<d0) then (6:Int) else 2)=2):=by
  by_cases h:5<d0
  ·rw[decide_eq_true h];exact⟨by decide,by decide,fun q=>by lia⟩
  ·rw[decide_eq_false h];exact⟨by decide,by decide,fun _=>rfl⟩
 refine aFs (aBb (g:=g1) (s:=s) (n:=n1) hm.1) fun d2 g2 n2 t2 a2 b2 e2 f2=>?_
 have dk2:=bx.dk (n':=n1) (by lia) (by lia) hm.1 (by lia)
 have hd:∀ {x:Out (List Nat)},Hl x (aS0 G W Q)→Hl (.g ((t==0)=false) (dH g s n d0 g0 n0 d1 g1 n1 d2 g2 n2 x)) (aS0 G W Q):=fun h=>gG (beq_eq_false_iff_ne.mpr ht) (gG ⟨t0,dk0⟩ (gG ⟨t1,dk1⟩ (gG ⟨t2,dk2⟩ (gG ⟨a2,Int.lt_of_lt_of_le b2 hm.2.1⟩ h))))
 have fin:∀ {k:Nat} {w g' n':Int} {l:List Nat} {W':Wd},k<8→n≤n'→n'≤n+4→aCo k bg (plc bg d1 d2)→Pre W.ads W'.ads→Sat G (W'.re (frN 31 0++l)) ⟨mA bg t (plc bg d1 d2) (wSV k w) (.a 31),aCi st cy re bg (wd0 nw) (known0 nk) g' s n' (rows0++[aCs k (plc bg d1 d2)]),[]⟩→Q .next (G.st W') :=
  fun hk e f pl pre S'=>(Scene.of rfl h30 ki pre S' pl).elim fun β sc=>cont β (Wd.re _ _) _ _ _ _ _ hk e f sc
 have kk:∀ {d:Int},0≤d→d<6→d.toNat<6:=fun a b=>by lia
 have o2:n≤n2∧n2≤n+3:=by lia
 by_cases h6:d0<6
 ·have pl:=aTx hb a1 b1 a2 (by rw[← hm.2.2 h6];exact b2)
  have hk:=kk a0 h6
  exact seg_end H hcf (S _) (aVh K bg t st cy re g s n d0 g0 n0 d1 g1 n1 d2 g2 n2 nw nk _ hk) (hd (gG (decide_eq_true h6) (gG (Int.toNat_of_nonneg a0).symm (gG (aBl pl.2.2.2.2) (gG (decide_eq_true pl.2.2.1) (gG (decide_eq_true pl.2.2.2.1) (gP fun W' pre S'=>fin (Nat.lt_of_lt_of_le hk (by decide)) o2.1 (by lia) (plk hk pl) pre S')))))))
 ·refine aFs (aBb (g:=g2) (s:=s) (n:=n2) (many:=6) (by decide)) fun d3 g3 n3 t3 a3 b3 e3 f3=>?_
  have dk3:=bx.dk (n':=n2) o2.1 (by lia) (many:=6) (by decide) (by decide)
  have o3:n≤n3∧n3≤n+4:=by lia
  refine aBa (aNe (bg:=bg) (d1:=d1) (d2:=d2)) fun r0 r1=>?_
  have hh:∀ {x:Out (List Nat)},Hl x (aS0 G W Q)→Hl (.g ((t==0)=false) (dH g s n d0 g0 n0 d1 g1 n1 d2 g2 n2 (.g (decide (d0<6)=false) (.g (dk9 g2 s n2 d3 g3 n3 6) x)))) (aS0 G W Q):=fun h=>hd (gG (decide_eq_false h6) (gG ⟨t3,dk3⟩ h))
  by_cases hp:plc bg d1 d2%4=0
  ·by_cases hin:bg≤plc bg d1 d2∧plc bg d1 d2<bg+32
   ·have hk:=kk a3 b3
    exact seg_end H hcf (S _) (aVi K bg t st cy re g s n d0 g0 n0 d1 g1 n1 d2 g2 n2 d3 g3 n3 nw nk _ hk) (hh (gG (Int.toNat_of_nonneg a3).symm (gG (aBl hp) (gG (decide_eq_true hin.1) (gG (decide_eq_true hin.2) (gP fun W' pre S'=>fin (Nat.lt_of_lt_of_le hk (by decide)) o3.1 o3.2 (plk hk ⟨r0,r1,hin.1,hin.2,hp⟩) pre S'))))))
   ·have go:aS0 G W Q ⟨mA bg t (plc bg d1 d2) (.i (pick d3 [1048691,115,1081491,4292866159,172163,4294967295])) (.a 31),aCi st cy re bg (wd0 nw) (known0 nk) g3 s n3 (rows0++[aCs 7 (plc bg d1 d2)]),[]⟩ (frN 31 0++[33]):=fun W' pre S'=>fin (k:=7) (by decide) o3.1 o3.2 ⟨r0,r1,hp,hin⟩ pre S'
    exact seg_end H hcf (S _) (aQw K bg t st cy re g s n d0 g0 n0 d1 g1 n1 d2 g2 n2 d3 g3 n3 nw nk) (hh (gG ⟨a3,b3⟩ (gG (aBl hp) (gS (fun c=>gG (decide_eq_false fun q=>hin ⟨of_decide_eq_true c,q⟩) (gP go)) (fun _=>gP go)))))
  ·exact seg_end H hcf (S _) (aQx K bg t st cy re g s n d0 g0 n0 d1 g1 n1 d2 g2 n2 d3 g3 n3 nw nk) (hh (gG ⟨a3,b3⟩ (gG (aGw hp) (gP fun W' pre S'=>fin (k:=6) (by decide) o3.1 o3.2 ⟨r0,r1,hp⟩ pre S'))))
end
theorem aIy:aA4 32=4294967296:=rfl
theorem aIz:aA4 11=2048:=rfl
theorem aFf{x:Int}(h0:0≤x)(h1:x<4294967296):Builtin.bitAnd x 4294967295=x:=by rw[bitAnd_m32];lia
theorem aXf{x:Int}(h0:0≤x)(h1:x<4294967296)(c:(Builtin.bitAnd (Builtin.bitAnd (Builtin.bitAnd x 4294967295) 924074) 6144==2*aA4 11)=false):Builtin.bitAnd (Builtin.bitAnd x 4294967295) 924074=aAe x:=by
 rw[aFf h0 h1,aPt,aIz] at c
 rw[aFf h0 h1,aEy]
 have c:=beq_eq_false_iff_ne.mp c
 unfold aAe
 rw[if_neg (by lia)]
 lia
theorem aXg{x:Int}(h0:0≤x)(h1:x<4294967296)(c:(Builtin.bitAnd (Builtin.bitAnd (Builtin.bitAnd x 4294967295) 924074) 6144==2*aA4 11)=true):Builtin.bitOr (Builtin.bitAnd (Builtin.bitAnd (Builtin.bitAnd x 4294967295) 924074) (Builtin.bitXor 4294967295 6144)) (Builtin.bitAnd (Builtin.bitAnd (Builtin.bitAnd 0 4294967295) 924074) 6144)=aAe x:=by
 rw[aFf h0 h1,aPt,aIz] at c
 have c:=eq_of_beq c
 have r:=bitAnd_range x (show (0:Int)≤924074 by decide)
 rw[aFf h0 h1,show Builtin.bitAnd (Builtin.bitAnd (Builtin.bitAnd 0 4294967295) 924074) 6144=0 by decide,show Builtin.bitXor 4294967295 6144=4294961151 by decide,aG0 r.1 (by lia) (k:=6144) (by decide) (by decide) (by decide),aPt,bitOr_and]
 have z:∀ y:Int,Builtin.bitAnd y 0=0:=fun y=>by have:=bitAnd_range y (Int.le_refl 0);lia
 rw[z,aEy]
 unfold aAe
 rw[if_pos (by lia)]
 lia
theorem aGd{old low k:Int}(hk:0≤k)(hk1:k<4294967296)(h0:0≤low)(h1:low<4294967296):Builtin.bitOr (Builtin.bitAnd k 4294967295*aA4 32) (Builtin.bitAnd (Builtin.bitOr (old/aA4 32*aA4 32) (Builtin.bitAnd low 4294967295)) 4294967295)=k*4294967296+low:=by
 rw[aIy,aFf hk hk1,aFf h0 h1,aT1 (Int.mul_emod_left _ _) h0 h1,bitAnd_m32,Int.add_comm,Int.add_mul_emod_self_right,Int.emod_eq_of_lt h0 h1,aT1 (Int.mul_emod_left _ _) h0 h1]
theorem aOf{x:Int}(h0:0≤x)(h1:x<4294967296):Builtin.bitAnd (Builtin.bitAnd x 4294967295) (Builtin.bitXor 4294967295 2)=x-2*(x/2%2):=by
 rw[aFf h0 h1,show Builtin.bitXor 4294967295 2=4294967293 by decide,aZp h0 h1];lia
theorem bD1{x:Int}(h0:0≤x)(h1:x<4294967296):Builtin.bitAnd x (Builtin.bitXor 4294967295 3)=x-x%4:=by
 rw[show Builtin.bitXor 4294967295 3=4294967292 by decide,aZo h0 h1]
theorem aT5{st md:Int}(h5:0≤st)(h6:st<4294967296)(h7:0≤md)(h8:md≤3):Builtin.bitOr (Builtin.bitOr (Builtin.bitAnd st (Builtin.bitXor 4294967295 (Builtin.bitOr (Builtin.bitOr 128 8) 6144))) (bif Builtin.bitAnd st 8 != 0 then 128 else 0)) (md*aA4 11)=st-8*(st/8%2)-128*(st/128%2)-2 ^ 11*(st/2 ^ 11%4)+128*(st/8%2)+2 ^ 11*md:=by
 rw[aIz]
 refine (aMm h5 h6 h7 h8 ?_).trans (by unfold aMq;lia)
 rw[aZe]
 by_cases h:st/8%2*8=0
 ·rw[h];exact .inr ⟨rfl,rfl⟩
 ·exact .inl ⟨by rw[bne_iff_ne.mpr h];rfl,h⟩
section
set_option tactic.hygienic true
theorem mv{x e:Int}(h:x%4=0)(h1:x+4≤e):aHm (4-Builtin.bitAnd x 3) (e-x)=4:=by
 rw[bitAnd_m2,h]
 unfold aHm
 rw[if_neg (by lia)];rfl
theorem MD.conv{ads:List Addr}{M:Str→Option Value}:∀ {l l':List (Str×SV)},All2 (fun p q=>p.1=q.1∧∀ v,Den ads p.2 v→Den ads q.2 v) l l'→MD ads l M→MD ads l' M:=fun {l l'} h hm x y e=>by
 have:∃ y0,aD3 x l=some y0∧∀ v,Den ads y0 v→Den ads y v:=by
  clear hm
  induction h with
  |nil=>cases e
  | @cons p q l m r _ ih =>
   rw[aAr] at e
   rw[aAr,r.1]
   split at e
   ·rename_i h1;rw[if_pos h1];cases e;exact⟨_,rfl,r.2⟩
   ·rename_i h1;rw[if_neg h1];exact ih e
 refine aAd this fun y0 e0 k=>?_
 refine aAd (hm x y0 e0) fun v h1 h2=>?_
 exact⟨v,h1,k v h2⟩
theorem aEv{ads:List Addr}:∀ {l:List (Str×SV)},All2 (fun p q=>p.1=q.1∧∀ v,Den ads p.2 v→Den ads q.2 v) l l
 | []=>.nil
 |_::_=>.cons ⟨rfl,fun _ h=>h⟩ aEv
noncomputable def wI(k:Nat)(w:Int):Int:=match k with
 | 6=>w
 | 7=>w
 |k=>aAn k
theorem bAv{ads:List Addr}{k:Nat}{w:Int}{v:Value}:Den ads (wSV k w) v↔Den ads (.i (wI k w)) v:=by
 match k with
 | 0=>exact Iff.rfl
 | 1=>exact Iff.rfl
 | 2=>exact Iff.rfl
 | 3=>exact Iff.rfl
 | 4=>exact Iff.rfl
 | 5=>exact Iff.rfl
 | 6=>exact Iff.rfl
 | 7=>exact Iff.rfl
 |_+8=>exact Iff.rfl
theorem bY8{ads:List Addr}{M:Str→Option Value}{bg t place w:Int}{k:Nat}{d:SV}(h:MD ads (mA bg t place (wSV k w) d) M):MD ads (mA bg t place (.i (wI k w)) d) M :=
 MD.conv (l:=mA bg t place (wSV k w) d) (l':=mA bg t place (.i (wI k w)) d) (.cons ⟨rfl,fun _ h=>h⟩ (.cons ⟨rfl,fun _=>bAv.mp⟩ aEv)) h
theorem bY7{ads:List Addr}{M:Str→Option Value}{bg t place w vec wan low mode:Int}{k:Nat}{d:SV}(h:MD ads (mB bg t place (.i (wI k w)) d vec wan low mode) M):MD ads (mB bg t place (wSV k w) d vec wan low mode) M :=
 MD.conv (l:=mB bg t place (.i (wI k w)) d vec wan low mode) (l':=mB bg t place (wSV k w) d vec wan low mode) (.cons ⟨rfl,fun _ h=>h⟩ (.cons ⟨rfl,fun _ h=>h⟩ (.cons ⟨rfl,fun _ h=>h⟩ (.cons ⟨rfl,fun _ h=>h⟩ (.cons ⟨rfl,fun _ h=>h⟩ (.cons ⟨rfl,fun _=>bAv.mpr⟩ aEv)))))) h
theorem Sat.mm{V:Vw}{G:Gd V}{W:Wd}{m m':List (Str×SV)}{led:List SO}{orc orc':List Nat}(S:Sat G W ⟨m,led,orc⟩)(h:MD W.ads m' W.m):Sat G W ⟨m',led,orc'⟩:=⟨S.ok,S.F,h,S.N,S.O,S.len,S.nd,S.hd,S.cl⟩
structure Drew(vec wan low mode:Int):Prop where
 v0:0≤vec
 v1:vec<4294967296
 w0:0≤wan
 w1:wan<4294967296
 w17:wan/131072%2=0
 lo:low=4294967295∨low=4294967294
 md:mode=3∨mode=0∨mode=1
section
variable {K:Frag} {G:Gd (vwc 13 K)} {W:Wd} {Q:Flow→Shared→Prop}
structure Ready(IT:Addr×Obj)(G:Gd (vwc 13 K))(W:Wd)(bg t:Int)(nw nk:Nat)(g s n:Int)(k:Nat)(place w vec wan low mode:Int):Prop where
 S:Sat G W ⟨mB bg t place (wSV k w) (.a 31) vec wan low mode,aDp (aAe wan) (6*4294967296+low) (9*4294967296+low) (vec-2*(vec/2%2)) bg (.dv none nw [] []) (known0 nk) g s n (aAk 17 0),[]⟩
 ki:KI IT G.X W.ads
 due:DenO G.X W.ads (aCs k place) (G.X.β.o 16)
 pl:aCo k bg place
 dr:Drew vec wan low mode
theorem aWr{a b c d:Int}(h0:0≤d)(h1:d<3):(d=0∧pick d [a,b,c]=a)∨(d=1∧pick d [a,b,c]=b)∨(d=2∧pick d [a,b,c]=c):=by
 have:d=0∨d=1∨d=2:=by lia
 rcases this with rfl|rfl|rfl
 ·exact .inl ⟨rfl,rfl⟩
 ·exact .inr (.inl ⟨rfl,rfl⟩)
 ·exact .inr (.inr ⟨rfl,rfl⟩)
theorem bPf(H:aAv K)(hcf:G.cf=cfL){bg t st cy re g s n place w:Int}{nw nk:Nat}(S:∀ orc,Sat G W ⟨mA bg t place (.i w) (.a 31),aCi st cy re bg (.dv none nw [] []) (known0 nk) g s n (aAk 17 0),orc⟩)(bx:BoxOk s n)
  (cont:∀ W' g' n' vec wan low mode,n≤n'→n'≤n+6→Drew vec wan low mode→Pre W.ads W'.ads→Sat G (W'.re (frN 32 0)) ⟨mB bg t place (.i w) (.a 31) vec wan low mode,aCi st cy re bg (.dv none nw [] []) (known0 nk) g' s n' (aAk 17 0),[]⟩→Q .next (G.st W')):RunS G 1 4 Q (G.st W):=by
 refine aFs (aBb (g:=g) (s:=s) (n:=n) (many:=2 ^ 30) (by decide)) fun d0 g0 n0 t0 a0 b0 e0 f0=>?_
 refine aFs (aBb (g:=g0) (s:=s) (n:=n0) (many:=3) (by decide)) fun d1 g1 n1 t1 a1 b1 e1 f1=>?_
 refine aFs (aBb (g:=g1) (s:=s) (n:=n1) (many:=4) (by decide)) fun d2 g2 n2 t2 a2 b2 e2 f2=>?_
 refine aFs (aBb (g:=g2) (s:=s) (n:=n2) (many:=2 ^ 32) (by decide)) fun d3 g3 n3 t3 a3 b3 e3 f3=>?_
 refine aFs (aBb (g:=g3) (s:=s) (n:=n3) (many:=2) (by decide)) fun d4 g4 n4 t4 a4 b4 e4 f4=>?_
 refine aFs (aBb (g:=g4) (s:=s) (n:=n4) (many:=3) (by decide)) fun d5 g5 n5 t5 a5 b5 e5 f5=>?_
 have dk:∀ {n' many:Int},n≤n'→n'≤n+1000→0<many→many≤4294967296→DrawOk s n' many:=fun a b c d=>bx.dk a b c d
 have hv:=aWr (a:=4096) (b:=4294967040) (c:=4*d0) a1 b1
 have hmd:=aWr (a:=3) (b:=0) (c:=1) a5 b5
 have e30:(2:Int) ^ 30=1073741824:=rfl
 have e32:(2:Int) ^ 32=4294967296:=rfl
 have e17:(2:Int) ^ 17=131072:=rfl
 refine seg_end H hcf (S _) (bI2 K bg t st cy re g s n w place d0 g0 n0 d1 g1 n1 d2 g2 n2 d3 g3 n3 d4 g4 n4 d5 g5 n5 nw nk) (gG ⟨t0,dk (by lia) (by lia) (by decide) (by decide)⟩ (gG ⟨t1,dk (by lia) (by lia) (by decide) (by decide)⟩ (gG ⟨a1,b1⟩ (gG ⟨t2,dk (by lia) (by lia) (by decide) (by decide)⟩ (gG ⟨t3,dk (by lia) (by lia) (by decide) (by decide)⟩ (gG ⟨t4,dk (by lia) (by lia) (by decide) (by decide)⟩ (gG ⟨t5,dk (by lia) (by lia) (by decide) (by decide)⟩ (gG ⟨a5,b5⟩ (gP fun W' pre S'=>cont W' g5 n5 _ _ _ _ (by lia) (by lia) ?_ pre S')))))))))
 rw[e30] at b0
 rw[e32] at b3
 refine⟨?_,?_,?_,?_,?_,?_,?_⟩
 ·rcases hv with⟨_,h⟩|⟨_,h⟩|⟨_,h⟩<;>rw[h]<;>lia
 ·rcases hv with⟨_,h⟩|⟨_,h⟩|⟨_,h⟩<;>rw[h]<;>lia
 ·rw[e17];lia
 ·rw[e17];lia
 ·rw[e17];lia
 ·rw[e32];lia
 ·rcases hmd with⟨_,h⟩|⟨_,h⟩|⟨_,h⟩<;>rw[h]<;>decide
theorem bPe(H:aAv K)(hcf:G.cf=cfL){bg t st cy re g s n place w vec wan low mode:Int}{nw nk:Nat}(S:∀ orc,Sat G W ⟨mB bg t place (.i w) (.a 31) vec wan low mode,aCi st cy re bg (.dv none nw [] []) (known0 nk) g s n (aAk 17 0),orc⟩)(dr:Drew vec wan low mode)(hc:0≤cy∧cy<1000000000000)(hr:0≤re∧re<1000000000000)
  (cont:∀ W',Pre W.ads W'.ads→Sat G (W'.re (frN 32 0)) ⟨mB bg t place (.i w) (.a 31) vec wan low mode,aDp (aAe wan) (6*4294967296+low) (9*4294967296+low) (vec-2*(vec/2%2)) bg (.dv none nw [] []) (known0 nk) g s n (aAk 17 0),[]⟩→Q .next (G.st W')):RunS G 5 1 Q (G.st W):=by
 have gc:∀ {x:Int},0≤x∧x<1000000000000→0≤x/aA4 32∧x/aA4 32≤i64:=fun h=>by rw[aIy];unfold i64;lia
 have l0:0≤low:=by rcases dr.lo with h|h<;>lia
 have l1:low<4294967296:=by rcases dr.lo with h|h<;>lia
 refine seg_end H hcf (S _) (bI1 K bg t st cy re g s n w place vec wan low mode nw nk) (gS (fun c=>gG (gc hc) (gG (gc hr) (gP fun W' pre S'=>cont W' pre ?_))) (fun c=>gG (gc hc) (gG (gc hr) (gP fun W' pre S'=>cont W' pre ?_))))
 ·rw[aXg dr.w0 dr.w1 c,aGd (by decide) (by decide) l0 l1,aGd (by decide) (by decide) l0 l1,aOf dr.v0 dr.v1] at S'
  exact S'
 ·rw[aXf dr.w0 dr.w1 c,aGd (by decide) (by decide) l0 l1,aGd (by decide) (by decide) l0 l1,aOf dr.v0 dr.v1] at S'
  exact S'
theorem bPd(H:aAv K)(hcf:G.cf=cfL){bg t st cy re vc g s n place w vec wan low mode:Int}{nw nk:Nat}(S:∀ orc,Sat G W ⟨mB bg t place (.i w) (.a 31) vec wan low mode,aDp st cy re vc bg (.dv none nw [] []) (known0 nk) g s n (aAk 17 0),orc⟩)(hb:aHw bg)(hw:nw≤1000)
  (cont:∀ W',Pre W.ads W'.ads→Sat G (W'.re (frN 32 0)) ⟨mB bg t place (.i w) (.a 31) vec wan low mode,aDp st cy re vc bg (.dv none nw [] []) (known0 nk) g s n (aAk 17 0),[]⟩→Q .next (G.st W')):RunS G 6 1 Q (G.st W):=by
 refine aJi hb fun h1 h2 h3=>?_
 exact seg_end H hcf (S _) (bI0 K bg t st cy re vc g s n w place vec wan low mode nw nk) (gG (decide_eq_false (Int.lt_irrefl _)) (gG (decide_eq_false (Int.lt_irrefl _)) (gG (decide_eq_true (by lia)) (gG (mv (by lia) (by lia)) (gG hw (gG (decide_eq_true (by lia)) (gG (mv (by lia) (by lia)) (gG hw (gG (decide_eq_true (by lia)) (gG (mv (by lia) (by lia)) (gG hw (gG (decide_eq_true (by lia)) (gG (mv (by lia) (by lia)) (gG hw (gG (decide_eq_true (by lia)) (gG (mv (by lia) (by lia)) (gG hw (gG (decide_eq_true (by lia)) (gG (mv (by lia) (by lia)) (gG hw (gG (decide_eq_true (by lia)) (gG (mv (by lia) (by lia)) (gG hw (gG (decide_eq_true (by lia)) (gG (mv (by lia) (by lia)) (gG hw (gG (decide_eq_false (by lia)) (gP fun W' pre S'=>cont W' pre S'))))))))))))))))))))))))))))
end
end
theorem aVg(K:Frag)(bg t place vec low mode cause value status pc md st cy re vc g s n go:Int)(nw nk:Nat):aK6 K [] 13 4 pD (aCi 0 0 0 0 dv0 dv0 0 0 0 rows0) (mH 0 0) ⟨(mC bg t place vec low mode (.k .none) (.i go) cause value status),(aXb pc md st cy re vc .u .u .u bg (wd0 nw) (known0 nk) g s n rows0),[0,0,0,0,0,0]⟩ =
  gs [(!allB [Builtin.bitAnd cy 4294967295==(low+1)%2 ^ 32,Builtin.bitAnd (cy/aA4 32) 4294967295==6+(low+1)/2 ^ 32,Builtin.bitAnd re 4294967295==(low+bif true then 1 else 0)%2 ^ 32,Builtin.bitAnd (re/aA4 32) 4294967295==9+(low+bif true then 1 else 0)/2 ^ 32])=false,(!allB [true,pc==go,md==mode,st==status])=false] (.p ⟨mH (bg) (t),(aD0 (.u) (.u) (.u) (.i (st)) (cy) (re) (.u) (.u) (.u) (.u) (bg) (.dv none (nw) [] []) (.dv (some (0)) (nk) [] []) (g) (s) (n) rows0),[]⟩ (frN 31 0)):=aAa (by k_slotget)
theorem aQv(K:Frag)(bg t place vec low mode cause value status pc md st cy re vc g s n told b c d:Int)(nw nk:Nat):aK6 K [] 13 4 pD (aCi 0 0 0 0 dv0 dv0 0 0 0 rows0) (mH 0 0) ⟨(mC bg t place vec low mode (.i told) (.k .none) cause value status),(aXb pc md st cy re vc (.i b) (.i c) (.i d) bg (wd0 nw) (known0 nk) g s n rows0),[0,0,0,0]⟩ =
  gs [(!allB [Builtin.bitAnd cy 4294967295==(low+1)%2 ^ 32,Builtin.bitAnd (cy/aA4 32) 4294967295==6+(low+1)/2 ^ 32,Builtin.bitAnd re 4294967295==(low+bif !true then 1 else 0)%2 ^ 32,Builtin.bitAnd (re/aA4 32) 4294967295==9+(low+bif !true then 1 else 0)/2 ^ 32])=false,(cause != 0)=false,(!allB [b==b,c==cause,d==value,st==status-8*(status/8%2)-128*(status/128%2)-2 ^ 11*(status/2 ^ 11%4)+128*(status/8%2)+2 ^ 11*mode,vc==vec-2*(vec/2%2)])=false,(!allB [told==cause,pc==vec/4*4,md==3])=false] (.p ⟨mH (bg) (t),(aD0 (.u) (.u) (.u) (.i (st)) (cy) (re) (.u) (.u) (.u) (.u) (bg) (.dv none (nw) [] []) (.dv (some (0)) (nk) [] []) (g) (s) (n) rows0),[]⟩ (frN 31 0)):=aAa (by k_slotget)
theorem aQu(K:Frag)(bg t place vec low mode cause value status pc md st cy re vc g s n told b c d:Int)(nw nk:Nat):aK6 K [] 13 4 pD (aCi 0 0 0 0 dv0 dv0 0 0 0 rows0) (mH 0 0) ⟨(mC bg t place vec low mode (.i told) (.k .none) cause value status),(aXb pc md st cy re vc (.i b) (.i c) (.i d) bg (wd0 nw) (known0 nk) g s n rows0),[0,1,0,0]⟩ =
  gs [(!allB [Builtin.bitAnd cy 4294967295==(low+1)%2 ^ 32,Builtin.bitAnd (cy/aA4 32) 4294967295==6+(low+1)/2 ^ 32,Builtin.bitAnd re 4294967295==(low+bif !true then 1 else 0)%2 ^ 32,Builtin.bitAnd (re/aA4 32) 4294967295==9+(low+bif !true then 1 else 0)/2 ^ 32])=false,(cause != 0)=true,(!allB [b==place,c==cause,d==value,st==status-8*(status/8%2)-128*(status/128%2)-2 ^ 11*(status/2 ^ 11%4)+128*(status/8%2)+2 ^ 11*mode,vc==vec-2*(vec/2%2)])=false,(!allB [told==cause,pc==vec/4*4,md==3])=false] (.p ⟨mH (bg) (t),(aD0 (.u) (.u) (.u) (.i (st)) (cy) (re) (.u) (.u) (.u) (.u) (bg) (.dv none (nw) [] []) (.dv (some (0)) (nk) [] []) (g) (s) (n) rows0),[]⟩ (frN 31 0)):=aAa (by k_slotget)
theorem al0:(!allB [])=false:=rfl
theorem alc{a:Bool}{l:List Bool}(h:a=true)(k:(!allB l)=false):(!allB (a::l))=false:=by
 subst h;cases l with
 |nil=>rfl
 |cons b r=>exact k
theorem be{a b:Int}(h:a=b):(a==b)=true:=beq_iff_eq.mpr h
theorem aMo{a b c d e f g h m:Int}(ha:0≤a∧a<2)(hb:0≤b∧b<2)(hc:0≤c∧c<2)(hd:0≤d∧d<2)(he:0≤e∧e<2)(hf:0≤f∧f<2)(hg:0≤g∧g<2)(hh:0≤h∧h<2)(hm:0≤m∧m≤6144) :
  0≤2*a+8*b+32*c+128*d+256*e+131072*f+262144*g+524288*h+m∧2*a+8*b+32*c+128*d+256*e+131072*f+262144*g+524288*h+m<4294967296∧(2*a+8*b+32*c+128*d+256*e+131072*f+262144*g+524288*h+m)/131072%2=f:=by
 refine⟨by lia,by lia,?_⟩
 have e1:2*a+8*b+32*c+128*d+256*e+131072*f+262144*g+524288*h+m=(2*a+8*b+32*c+128*d+256*e+m)+131072*(f+2*(g+2*h)):=by lia
 rw[e1]
 have:0≤2*a+8*b+32*c+128*d+256*e+m∧2*a+8*b+32*c+128*d+256*e+m<131072:=by lia
 generalize 2*a+8*b+32*c+128*d+256*e+m=z at this ⊢
 generalize g+2*h=y
 lia
theorem m2(x:Int):0≤x%2∧x%2<2:=⟨Int.emod_nonneg _ (by decide),Int.emod_lt_of_pos _ (by decide)⟩
theorem aCv{x:Int}(h0:0≤x)(h1:x<4294967296):0≤aAe x∧aAe x<4294967296∧aAe x/131072%2=x/131072%2:=by
 refine aMo (m2 _) (m2 _) (m2 _) (m2 _) (m2 _) (m2 _) (m2 _) (m2 _) ?_
 split<;>lia
theorem aMh{vec:Int}(h0:0≤vec)(h1:vec<4294967296):0≤vec-2*(vec/2%2)∧vec-2*(vec/2%2)<4294967296∧(vec-2*(vec/2%2))-(vec-2*(vec/2%2))%4=vec/4*4:=by lia
theorem bH9{low c:Int}(hl:low=4294967295∨low=4294967294)(d:Int)(hd:d=0∨d=1):Builtin.bitAnd (c*4294967296+low+d) 4294967295=(low+d)%2 ^ 32:=by
 rw[bitAnd_m32,show (2:Int) ^ 32=4294967296 from rfl];lia
theorem bH8{low c:Int}(h0:0≤c)(h1:c<100)(hl:low=4294967295∨low=4294967294)(d:Int)(hd:d=0∨d=1):Builtin.bitAnd ((c*4294967296+low+d)/aA4 32) 4294967295=c+(low+d)/2 ^ 32:=by
 rw[bitAnd_m32,aIy,show (2:Int) ^ 32=4294967296 from rfl];lia
section
variable {K:Frag} {G:Gd (vwc 13 K)} {W:Wd} {Q:Flow→Shared→Prop}
theorem cA0(H:aAv K)(hcf:G.cf=cfL){bg t place vec wan low mode cz v D g s n:Int}{nw nk:Nat}(dr:Drew vec wan low mode)(hD:D=v)
  (S:∀ orc,Sat G W ⟨mC bg t place vec low mode (.i cz) (.k .none) cz v (aAe wan),aXb (pcT (vec-2*(vec/2%2))) 3 (stT (aAe wan) mode) (6*4294967296+low+1) (9*4294967296+low) (vec-2*(vec/2%2)) (.i place) (.i cz) (.i D) bg (.dv none nw [] []) (known0 nk) g s n rows0,orc⟩)
  (cont:∀ W' st,Pre W.ads W'.ads→Sat G (W'.re (frN 31 0)) ⟨mH bg t,aCi st (6*4294967296+low+1) (9*4294967296+low) bg (.dv none nw [] []) (known0 nk) g s n rows0,[]⟩→Q .next (G.st W')):RunS G 13 4 Q (G.st W):=by
 refine aJi (aMh dr.v0 dr.v1) fun v0 v1 v2=>?_
 refine aJi (aCv dr.w0 dr.w1) fun s0 s1 _=>?_
 have m0:0≤mode∧mode≤3:=by rcases dr.md with h|h|h<;>lia
 have e0:(9*4294967296+low)=9*4294967296+low+0:=by lia
 have g1:(!allB [Builtin.bitAnd (6*4294967296+low+1) 4294967295==(low+1)%2 ^ 32,Builtin.bitAnd ((6*4294967296+low+1)/aA4 32) 4294967295==6+(low+1)/2 ^ 32,Builtin.bitAnd (9*4294967296+low) 4294967295==(low+bif !true then 1 else 0)%2 ^ 32,Builtin.bitAnd ((9*4294967296+low)/aA4 32) 4294967295==9+(low+bif !true then 1 else 0)/2 ^ 32])=false :=
  alc (be (bH9 dr.lo 1 (.inr rfl))) (alc (be (bH8 (by decide) (by decide) dr.lo 1 (.inr rfl))) (alc (be (by rw[e0];exact bH9 dr.lo 0 (.inl rfl))) (alc (be (by rw[e0];exact bH8 (by decide) (by decide) dr.lo 0 (.inl rfl))) al0)))
 have g3:∀ b:Int,b=place∨b=b→True:=fun _ _=>trivial
 have g4:(!allB [cz==cz,pcT (vec-2*(vec/2%2))==vec/4*4,(3:Int)==3])=false:=alc (be rfl) (alc (be ((bD1 v0 v1).trans v2)) (alc (be rfl) al0))
 by_cases hc:cz=0
 ·exact seg_end H hcf (S _) (aQv K bg t place vec low mode cz v (aAe wan) (pcT (vec-2*(vec/2%2))) 3 (stT (aAe wan) mode) (6*4294967296+low+1) (9*4294967296+low) (vec-2*(vec/2%2)) g s n cz place cz D nw nk) (gG g1 (gG (aBl hc) (gG (alc (be rfl) (alc (be rfl) (alc (be hD) (alc (be (aT5 s0 s1 m0.1 m0.2)) (alc (be rfl) al0))))) (gG g4 (gP fun W' pre S'=>cont W' _ pre S')))))
 ·exact seg_end H hcf (S _) (aQu K bg t place vec low mode cz v (aAe wan) (pcT (vec-2*(vec/2%2))) 3 (stT (aAe wan) mode) (6*4294967296+low+1) (9*4294967296+low) (vec-2*(vec/2%2)) g s n cz place cz D nw nk) (gG g1 (gG (aGw hc) (gG (alc (be rfl) (alc (be rfl) (alc (be hD) (alc (be (aT5 s0 s1 m0.1 m0.2)) (alc (be rfl) al0))))) (gG g4 (gP fun W' pre S'=>cont W' _ pre S')))))
theorem cA1(H:aAv K)(hcf:G.cf=cfL){bg t place vec wan low mode cz v go pc g s n:Int}{nw nk:Nat}(dr:Drew vec wan low mode)(hp:pc=go)
  (S:∀ orc,Sat G W ⟨mC bg t place vec low mode (.k .none) (.i go) cz v (aAe wan),aXb pc mode (aAe wan) (6*4294967296+low+1) (9*4294967296+low+1) (vec-2*(vec/2%2)) .u .u .u bg (.dv none nw [] []) (known0 nk) g s n rows0,orc⟩)
  (cont:∀ W' st,Pre W.ads W'.ads→Sat G (W'.re (frN 31 0)) ⟨mH bg t,aCi st (6*4294967296+low+1) (9*4294967296+low+1) bg (.dv none nw [] []) (known0 nk) g s n rows0,[]⟩→Q .next (G.st W')):RunS G 13 4 Q (G.st W) :=
 seg_end H hcf (S _) (aVg K bg t place vec low mode cz v (aAe wan) pc mode (aAe wan) (6*4294967296+low+1) (9*4294967296+low+1) (vec-2*(vec/2%2)) g s n go nw nk)
  (gG (alc (be (bH9 dr.lo 1 (.inr rfl))) (alc (be (bH8 (by decide) (by decide) dr.lo 1 (.inr rfl))) (alc (be (bH9 dr.lo 1 (.inr rfl))) (alc (be (bH8 (by decide) (by decide) dr.lo 1 (.inr rfl))) al0)))) (gG (alc rfl (alc (be hp) (alc (be rfl) (alc (be rfl) al0)))) (gP fun W' pre S'=>cont W' _ pre S')))
end
section
variable (K:Frag) (b c x:Bool) (bg t place vec wan low mode v st cy re vc g s n go w:Int) (nw nk:Nat)
theorem sC0:aZy K 7 6 (pC b 0) (aBj 0) (.z (aAn 0)) bg t place vec wan low mode st cy re vc g s n nw (knB b nk 0) (rwB b 0++[aGt 3 v]) [1,1,1,0,0,0,0,nB c,1,1,0,0,0,nB c,2] =
  gA bg place mode nw nk b c 0 (gs [tvK 3 place] (gT mode vc wan c (.p (sTr bg t place vec wan low mode 3 v (Builtin.bitAnd place 4294967295) st cy re vc g s n nw nk [(place/aA4 2,.z (aAn 0))] (pkB b 0) (fwB 0 place) (fkB 0) (aBj 0)) (fC b 0 53)))):=by cases b<;>cases c<;>exact aAa (by k_slotget)
theorem sC1:aZy K 7 6 (pC b 1) (aBj 1) (.z (aAn 1)) bg t place vec wan low mode st cy re vc g s n nw (knB b nk 1) (rwB b 1++[aGt 8 v]) ([1,1,1,0,0,0,0,nB c,1,1,0,0,0]++(bif c then [1] else [0,0])++[2,0]) =
  gA bg place mode nw nk b c 1 (gs [tvK (8+mode) 0,(mode==3)=c] (gs (bif c then [] else [bHz mode,0≤Builtin.bitAnd (8+mode) 31]) (gs [mdK mode] (.s (Builtin.bitAnd vc 1 != 0) (gs [bHz mode,bAu wan] (.p (sTr bg t place vec wan low mode (8+mode) v (Builtin.bitAnd 0 4294967295) st cy re vc g s n nw nk [(place/aA4 2,.z (aAn 1))] (pkB b 1) (fwB 1 place) (fkB 1) (aBj 1)) (fC b 1 53))) (gs [bAu wan] (.p (sTr bg t place vec wan low mode (8+mode) v (Builtin.bitAnd 0 4294967295) st cy re vc g s n nw nk [(place/aA4 2,.z (aAn 1))] (pkB b 1) (fwB 1 place) (fkB 1) (aBj 1)) (fC b 1 53))))))):=by cases b<;>cases c<;>exact aAa (by k_slotget)
theorem sC2:bPp K 7 6 (pC b 2) (aBj 2) (.z (aAn 2)) bg t place vec wan low mode st cy re vc g s n nw (knB b nk 2) (rwB b 2++[bH6 go v]) [1,1,1,0,0,0,0,nB c,1,1,0,0,0,0] =
  gA bg place mode nw nk b c 2 (gs [bAu wan] (.p (sGo bg t place vec wan low mode v go (Builtin.bitAnd (place+4) 4294967295) st cy re vc g s n nw nk [(place/aA4 2,.z (aAn 2))] (pkB b 2) (fwB 2 place) (fkB 2) (aBj 2)) (fC b 2 12))):=by cases b<;>cases c<;>exact aAa (by k_slotget)
theorem sC3:bPp K 7 6 (pC b 3) (aBj 3) (.z (aAn 3)) bg t place vec wan low mode st cy re vc g s n nw (knB b nk 3) (rwB b 3++[bH6 go v]) [1,1,1,0,0,0,0,nB c,1,1,0,0,0,0] =
  gA bg place mode nw nk b c 3 (gs [(Builtin.bitAnd (J4 b place) 3 != 0)=false,bAu wan] (.p (sGo bg t place vec wan low mode v go (J4 b place) st cy re vc g s n nw nk [(place/aA4 2,.z (aAn 3))] (pkB b 3) (fwB 3 place) (fkB 3) (aBj 3)) (fC b 3 12))):=by cases b<;>cases c<;>exact aAa (by k_slotget)
theorem sC4:aZy K 7 6 (pC b 4) (aBj 4) (.z (aAn 4)) bg t place vec wan low mode st cy re vc g s n nw (knB b nk 4) (rwB b 4++[aGt 5 v]) ([1,1,1,0,0,0,0,nB c,1,1,0,0,0,0,0,nB c]++(bif x then [1,0] else [0])++[0,nB c,2]) =
  gA bg place mode nw nk b c 4 (gs [(Builtin.bitAnd (A4 b bg) (4-1) != 0)=false,(Builtin.bitAnd st 131072 != 0)=false,(mode==3)=c] (gs (bif x then [decide (bg≤A4 b bg)=true,decide (A4 b bg+4≤bg+32)=false] else [decide (bg≤A4 b bg)=false]) (gs [(A4 b bg%4 != 0)=false,tvK 5 (A4 b bg),tvK 5 (A4 b bg)] (gT mode vc wan c (.p (sTr bg t place vec wan low mode 5 (x5V bg) (Builtin.bitAnd (A4 b bg) 4294967295) st cy re vc g s n nw nk [(place/aA4 2,.z (aAn 4))] (pkB b 4) (fwB 4 place) (fkB 4) (aBj 4)) (fC b 4 55)))))):=by cases x<;>cases b<;>cases c<;>exact aAa (by k_slotget)
theorem sC5:aZy K 7 6 (pC false 0) (rows0) (.z (aAn 5)) bg t place vec wan low mode st cy re vc g s n nw (aOh nk 5) (rows0++[aGt 2 v]) [1,1,1,0,0,0,0,nB c,1,1,0,0,0,nB c,2] =
  gA bg place mode nw nk false c 5 (gs [True∧Builtin.bitAnd (aAn 5) 4294967295=4294967295∧True,tvK 2 (Builtin.bitAnd (aAn 5) 4294967295)] (gT mode vc wan c (.p (sTr bg t place vec wan low mode 2 v (Builtin.bitAnd (Builtin.bitAnd (aAn 5) 4294967295) 4294967295) st cy re vc g s n nw nk [(place/aA4 2,.z (aAn 5))] [] (fwB 5 place) [(aAn 5,none)] rows0) (fC false 0 53)))):=by cases c<;>exact aAa (by k_slotget)
theorem sC6:aZy K 8 5 (pC false 0) rows0 (.i w) bg t place vec wan low mode st cy re vc g s n nw (known0 nk) (rows0++[aGt 0 v]) [1,nB c,2] =
  gs [(Builtin.bitAnd place 3 != 0)=true,tvK 0 place] (gT mode vc wan c (.p (sTr bg t place vec wan low mode 0 v (Builtin.bitAnd place 4294967295) st cy re vc g s n nw nk [] [] [] [] rows0) (fC false 0 50))):=by cases c<;>exact aAa (by k_slotget)
theorem sC7:aZy K 8 5 (pC false 0) rows0 (.i w) bg t place vec wan low mode st cy re vc g s n nw (known0 nk) (rows0++[aGt 1 v]) ([0,nB c]++(bif x then [1,0] else [0])++[0,nB c,2]) =
  gs [(Builtin.bitAnd place 3 != 0)=false,(mode==3)=c] (gs (bif x then [mL bg place,decide (place+4≤bg+32)=false] else [decide (bg≤place)=false]) (gs [mZ place,tvK 1 place,tvK 1 place] (gT mode vc wan c (.p (sTr bg t place vec wan low mode 1 v (Builtin.bitAnd place 4294967295) st cy re vc g s n nw nk [] [] [] [] rows0) (fC false 0 53))))):=by cases x<;>cases c<;>exact aAa (by k_slotget)
theorem sS6:bPo K w bg t place vec wan low mode st cy re vc g s n nw nk [2,2,0] =
  .s (decide (bg≤place)) (.s (decide (place<bg+32)) (gs [(place%4==0)=false] (.p ⟨mB bg t place (.i w) (.a 31) vec wan low mode,aDp st cy re vc bg (wd0 nw) (known0 nk) g s n (aAk 17 0),[]⟩ (frN 32 0))) (.p ⟨mB bg t place (.i w) (.a 31) vec wan low mode,aDp st cy re vc bg (wd0 nw) (known0 nk) g s n (aAk 17 0),[]⟩ (frN 32 0))) (.p ⟨mB bg t place (.i w) (.a 31) vec wan low mode,aDp st cy re vc bg (wd0 nw) (known0 nk) g s n (aAk 17 0),[]⟩ (frN 32 0)):=aAa (by k_slotget)
theorem sS7:bPo K w bg t place vec wan low mode st cy re vc g s n nw nk [2,0] =
  .s (decide (bg≤place)) (gs [decide (place<bg+32)=false] (.p ⟨mB bg t place (.i w) (.a 31) vec wan low mode,aDp st cy re vc bg (wd0 nw) (known0 nk) g s n (aAk 17 0),[]⟩ (frN 32 0))) (.p ⟨mB bg t place (.i w) (.a 31) vec wan low mode,aDp st cy re vc bg (wd0 nw) (known0 nk) g s n (aAk 17 0),[]⟩ (frN 32 0)):=aAa (by k_slotget)
end
theorem aB6{q:Nat}:∀ {k:Nat},(aG7 q k).length=3*k
 | 0=>rfl
 |k+1=>by
  have:=aB6 (q:=q) (k:=k)
  unfold aG7
  rw[List.length_append,this]
  cases Nat.beq k q<;>rfl
theorem aG6{q j:Nat}:∀ {k:Nat},j<3*k→gN (aG7 q k) j=if j/3=q then gN (aVm q (16+3*q) (17+3*q)) (j%3) else some (.raw j)
 | 0,h=>absurd h (by lia)
 |k+1,h=>by
  unfold aG7
  by_cases hj:j<3*k
  ·rw[aDg (by rw[aB6];exact hj)]
   exact aG6 hj
  ·obtain⟨i,rfl⟩:∃ i,j=3*k+i:=⟨j-3*k,by lia⟩
   have hi:i<3:=by lia
   have:=aCl (a:=aG7 q k) (b:=bif Nat.beq k q then aVm q (16+3*q) (17+3*q) else [.raw (3*k),.raw (3*k+1),.raw (3*k+2)]) (i:=i)
   rw[aB6] at this
   rw[this,show (3*k+i)/3=k by lia,show (3*k+i)%3=i by lia]
   by_cases e:k=q
   ·subst e;rw[Nat.beq_refl,if_pos rfl];rfl
   ·rw[if_neg e,show Nat.beq k q=false from Bool.eq_false_iff.mpr fun h=>e (Nat.eq_of_beq_eq_true h)]
    match i,hi with
    | 0,_=>rfl
    | 1,_=>rfl
    | 2,_=>rfl
theorem aEc{q j:Nat}(h:j<15):gN (aBj q) j=if j/3=q then gN (aVm q (16+3*q) (17+3*q)) (j%3) else some (.raw j):=by
 unfold aBj
 rw[aDg (by rw[aB6];exact h)]
 exact aG6 h
theorem aJ3{q:Nat}:gN (aBj q) 15=some (.raw 15):=by
 have:=aCl (a:=aG7 q 5) (b:=[.raw 15]) (i:=0)
 rw[aB6] at this
 exact this
theorem aCw{q:Nat}:(aBj q).length=16:=by unfold aBj;rw[List.length_append,aB6];rfl
theorem aMt{j:Nat}(h:j<16):gN rows0 j=some (.raw j):=by
 have:=aDf (l:=[]) (n:=16) (k:=0) h
 rw[List.append_nil,Nat.zero_add] at this
 exact this
theorem aJr{a b:Nat}(ha:a<6)(hb:b<6)(h:a≠b):aAn a≠aAn b :=
 (by decide:∀ a<6,∀ b<6,a≠b→aAn a≠aAn b) a ha b hb h
section
variable {V:Vw} {X:Ctx V} {β:Bet} {ads ads1:List Addr} {q:Nat} {IT:Addr×Obj}
theorem KI.row(h:KI IT X ads)(hq:q<5)(ha:∀ i,15≤i→i<31→i/3≠5+q→gN ads1 i=gN ads i)(R:∀ j so,gN (aBj q) j=some so→DenO X ads1 so (β.o j))
  (hd:∀ k,k≠aAn q→valueAt (β.d 0) k=valueAt (X.β.d 0) k) (hv:∃ a,gN ads1 (15+3*q)=some a∧valueAt (β.d 0) (aAn q)=some (.ref a)):KI IT { X with β:=β } ads1 where
 bad:=(hd _ (aJr (by decide) (by lia) (by lia))).trans h.bad
 at_:=fun r hr=>by
  by_cases e:r=q
  ·subst e
   refine aAd hv fun a h1 h2=>?_
   refine .inr ⟨a,h1,h2,fun i so e=>?_⟩
   have hi:i<3:=aBk e
   refine aDu e rfl rfl (R (3*r+i) so ?_)
   rw[aEc (by lia),if_pos (by lia),show (3*r+i)%3=i by lia]
   exact e
  ·rw[show valueAt (({ X with β:=β }:Ctx V).β.d 0) (aAn r)=_ from hd _ (aJr (by lia) (by lia) e)]
   refine (h.at_ r hr).imp id fun ⟨a,h1,h2,h3⟩=>⟨a,(ha _ (by lia) (by lia) (by lia)).trans h1,h2,fun i so e=>?_⟩
   have hi:i<3:=aBk e
   have:=R (3*r+i) (.raw (3*r+i)) (by rw[aEc (by lia),if_neg (by lia)])
   rw[show ({ X with β:=β }:Ctx V).β.o (3*r+i)=X.β.o (3*r+i) from this]
   exact aDu e (ha _ (by lia) (by lia) (by lia)) (ha _ (by lia) (by lia) (by lia)) (h3 i so e)
 it:=⟨(ha 30 (by lia) (by lia) (by lia)).trans h.it.1,(show ({ X with β:=β }:Ctx V).β.o 15=X.β.o 15 from R 15 (.raw 15) aJ3).trans h.it.2⟩
theorem KI.new(h:KI IT X ads)(hq:q<5)(ha:∀ i,15≤i→i<31→i/3≠5+q→gN ads1 i=gN ads i)(P:PutR ads1 (X.β.d 0) [(aAn q,.a (15+3*q))] (β.d 0))(R:∀ j so,gN (aBj q) j=some so→DenO X ads1 so (β.o j)):KI IT { X with β:=β } ads1:=by
 generalize e:β.d 0=L at P
 cases P with
 |cons P d =>
  cases P
  refine aAd d fun a h1 r1_2=>?_
  subst r1_2
  exact h.row hq ha R (fun k n=>by rw[e];exact aFy n) ⟨a,h1,by rw[e];exact aD7⟩
theorem KI.old(h:KI IT X ads)(hq:q<5)(ha:∀ i,15≤i→i<31→gN ads1 i=gN ads i)(P:PutR ads1 (X.β.d 0) [] (β.d 0))(R:∀ j so,gN (aBj q) j=some so→DenO X ads1 so (β.o j))(hv:∃ a,gN ads (15+3*q)=some a∧valueAt (X.β.d 0) (aAn q)=some (.ref a)):KI IT { X with β:=β } ads1 :=
 h.row hq (fun i a b _=>ha i a b) R (fun k _=>by rw[aCx P]) (hv.imp fun a ⟨h1,h2⟩=>⟨(ha _ (by lia) (by lia)).trans h1,by rw[aCx P];exact h2⟩)
theorem KI.raws(h:KI IT X ads)(ha:∀ i,15≤i→i<31→gN ads1 i=gN ads i)(P:PutR ads1 (X.β.d 0) [] (β.d 0))(R:∀ j so,gN rows0 j=some so→DenO X ads1 so (β.o j)):KI IT { X with β:=β } ads1 :=
 h.keep ha (aCx P) fun j hj=>R j _ (aMt hj)
end
noncomputable def Head{K:Frag}(IT:Addr×Obj)(G:Gd (vwc 13 K))(W:Wd)(bg t s:Int)(lim:Nat):Prop:=∃ st cy re g n:Int,∃ nw nk:Nat,Sat G W ⟨mH bg t,aCi st cy re bg (.dv none nw [] []) (known0 nk) g s n rows0,[]⟩∧KI IT G.X W.ads∧(0≤cy∧cy<1000000000000)∧(0≤re∧re<1000000000000)∧(0≤n∧n≤100*lim)∧nw≤lim∧nk≤lim
section
variable {K:Frag} {G:Gd (vwc 13 K)} {W W1:Wd} {Q:Flow→Shared→Prop} {IT:Addr×Obj}
theorem bQ0{W W':Wd}(pre:Pre W.ads W'.ads)(h:W.ads.length=31):∀ i,15≤i→i<31→gN (aAp (frN 31 0) W'.ads) i=gN W.ads i:=fun i _ hi =>
 show gN (aAp (frN 31 0++[]) W'.ads) i=_ from aC7 pre (Nat.le_of_eq h.symm) i hi
theorem bAs(H:aAv K)(hcf:G.cf=cfL)(h17:(aBf.drop 13).take 4=aBf.drop 13){bg t place vec wan low mode cz v D g s n:Int}{nw nk lim:Nat}{pw' pk:List (Int×SV)}{fw fk:List (Int×Option SV)}{rw:List SO}(dr:Drew vec wan low mode)(hD:D=v)
  (S:Sat G W1 (sTr bg t place vec wan low mode cz v D (aAe wan) (6*4294967296+low) (9*4294967296+low) (vec-2*(vec/2%2)) g s n nw nk pw' pk fw fk rw))
  (hrw:aAk rw.length 0=rows0) (hb:(0≤n∧n≤100*lim)∧nw+pw'.length≤lim∧nk+pk.length≤lim)
  (ki:∀ β:Bet,PutR W1.ads (G.X.β.d 0) pk (β.d 0)→(∀ j so,gN rw j=some so→DenO G.X W1.ads so (β.o j))→KI IT { G.X with β:=β } W1.ads)
  (cont:∀ β W',Head IT (G.wβ β) W' bg t s lim→Q .next (G.st W')):Run G 13 Q (G.st W1):=by
 have l0:4294967294≤low∧low≤4294967295:=by rcases dr.lo with h|h<;>lia
 refine aDm (S.close (orc':=[])) fun β S2 P R=>?_
 rw[hrw] at S2
 have h30:W1.ads.length=31:=S2.alen
 refine RunS.tail (G:=G) h17 ⟨(?_:RunS (G.wβ β) 13 4 Q (G.st W1)).h⟩
 refine cA0 (G:=G.wβ β) (W:=W1) (Q:=Q) H hcf dr hD (fun orc=>S2.mm S2.M) fun W' st pre S3=>cont β (W'.re (frN 31 0)) ⟨st,_,_,g,n,_,_,S3,(ki β P R).keep (bQ0 pre h30) rfl (fun _ _=>rfl),by lia,by lia,hb.1,hb.2.1,hb.2.2⟩
theorem bRl(H:aAv K)(hcf:G.cf=cfL)(h17:(aBf.drop 13).take 4=aBf.drop 13){bg t place vec wan low mode v go pc g s n:Int}{nw nk lim:Nat}{pw' pk:List (Int×SV)}{fw fk:List (Int×Option SV)}{rw:List SO}(dr:Drew vec wan low mode)(hp:pc=go)
  (S:Sat G W1 (sGo bg t place vec wan low mode v go pc (aAe wan) (6*4294967296+low) (9*4294967296+low) (vec-2*(vec/2%2)) g s n nw nk pw' pk fw fk rw))
  (hrw:aAk rw.length 0=rows0) (hb:(0≤n∧n≤100*lim)∧nw+pw'.length≤lim∧nk+pk.length≤lim)
  (ki:∀ β:Bet,PutR W1.ads (G.X.β.d 0) pk (β.d 0)→(∀ j so,gN rw j=some so→DenO G.X W1.ads so (β.o j))→KI IT { G.X with β:=β } W1.ads)
  (cont:∀ β W',Head IT (G.wβ β) W' bg t s lim→Q .next (G.st W')):Run G 13 Q (G.st W1):=by
 have l0:4294967294≤low∧low≤4294967295:=by rcases dr.lo with h|h<;>lia
 refine aDm (S.close (orc':=[])) fun β S2 P R=>?_
 rw[hrw] at S2
 have h30:W1.ads.length=31:=S2.alen
 refine RunS.tail (G:=G) h17 ⟨(?_:RunS (G.wβ β) 13 4 Q (G.st W1)).h⟩
 refine cA1 (G:=G.wβ β) (W:=W1) (Q:=Q) H hcf dr hp (fun orc=>S2.mm S2.M) fun W' st pre S3=>cont β (W'.re (frN 31 0)) ⟨st,_,_,g,n,_,_,S3,(ki β P R).keep (bQ0 pre h30) rfl (fun _ _=>rfl),by lia,by lia,hb.1,hb.2.1,hb.2.2⟩
end
theorem gB{α:Type}{c:Bool}{a:Out α}{Φ:St→α→Prop}(h:Hl a Φ):Hl (.s c a a) Φ:=⟨fun _=>h,fun _=>h⟩
structure In8(bg place:Int):Prop where
 p1:decide (bg≤place)=true
 p2:decide (place<bg+32)=true
 p3:(place%4==0)=true
 p4:(place%4 != 0)=false
 p5:decide (place<bg)=false
 p6:decide (bg+32<place+4)=false
 p7:(Builtin.bitAnd place 3 != 0)=false
 p8:decide (place+4≤bg+32)=true
 al:place%4=0
theorem in8{bg place:Int}(h:bg≤place∧place<bg+32∧place%4=0)(hb:bg%4=0):In8 bg place :=
 ⟨decide_eq_true h.1,decide_eq_true h.2.1,be h.2.2,aBl h.2.2,decide_eq_false (by lia),decide_eq_false (by lia),aBl (by rw[bitAnd_m2];exact h.2.2),decide_eq_true (by lia),h.2.2⟩
theorem m31{mode:Int}(h:mode=3∨mode=0∨mode=1):Builtin.bitAnd (8+mode) 2147483648=0:=by rcases h with rfl|rfl|rfl<;>decide
theorem m8{mode:Int}(h:mode=3∨mode=0∨mode=1):0≤8+mode∧8+mode<100:=by lia
theorem m17{vec wan low mode:Int}(d:Drew vec wan low mode):Builtin.bitAnd (aAe wan) 131072=0:=by
 rw[aUs,(aCv d.w0 d.w1).2.2,d.w17];rfl
theorem j4{bg place:Int}(h:In8 bg place)(b:Bool):J4 b place=(place-4)%2 ^ 32∧Builtin.bitAnd (J4 b place) 3=0:=by
 have e:J4 b place=Builtin.bitAnd (place+-4) 4294967295:=by
  unfold J4
  exact congrArg (fun z=>Builtin.bitAnd (place+z) 4294967295) (by cases b<;>decide)
 have:=h.al
 rw[e,bitAnd_m2,bitAnd_m32]
 exact⟨rfl,by lia⟩
structure X5(bg A:Int):Prop where
 e:Builtin.bitAnd A 4294967295=x5V bg
 r:0≤A∧A<4294967296
 a:Builtin.bitAnd A (4-1)=0
 m:A%4=0
 o:∃ x:Bool,∀ {α:Type} {t:Out α} {Φ:St→α→Prop},Hl t Φ→Hl (gs (bif x then [decide (bg≤A)=true,decide (A+4≤bg+32)=false] else [decide (bg≤A)=false]) t) Φ
theorem x5{bg:Int}(hb:aHw bg)(b:Bool):X5 bg (A4 b bg):=by
 have e:A4 b bg=Builtin.bitAnd (x5V bg) 4294967295:=by
  unfold A4
  rw[show (bif b then Builtin.bitAnd (aAn 4) 4294967295/aA4 20 else 0)=0 by cases b<;>decide,Int.add_zero]
 rw[e]
 by_cases h:bg=64
 ·subst h;exact⟨by decide,by decide,by decide,by decide,true,fun h=>gG (by decide) (gG (by decide) h)⟩
 ·have e:x5V bg=64:=by unfold x5V;rw[aGw h];rfl
  have:=hb.1
  rw[e]
  exact⟨e.symm▸by decide,by decide,by decide,by decide,false,fun h=>gG (decide_eq_false (show ¬ bg≤64 by lia)) h⟩
section
variable {K:Frag} {G:Gd (vwc 13 K)} {W W1:Wd} {Q:Flow→Shared→Prop} {IT:Addr×Obj}
theorem lb{α β:Type}{l:List α}{m:List β}{n:Int}{nw nk lim:Nat}(h:(0≤n∧n≤100*(lim:Int))∧nw+1≤lim∧nk+1≤lim∧lim≤900)(e:Nat.ble l.length 1=true)(f:Nat.ble m.length 1=true):(0≤n∧n≤100*(lim:Int))∧nw+l.length≤lim∧nk+m.length≤lim :=
 ⟨h.1,Nat.le_trans (Nat.add_le_add_left (Nat.le_of_ble_eq_true e) _) h.2.1,Nat.le_trans (Nat.add_le_add_left (Nat.le_of_ble_eq_true f) _) h.2.2.1⟩
theorem Ready.move{bg t g s n place w vec wan low mode:Int}{nw nk k:Nat}{W2:Wd}(rd:Ready IT G W bg t nw nk g s n k place w vec wan low mode)(pre:Pre W.ads W2.ads)(S:Sat G (W2.re (frN 32 0)) ⟨mB bg t place (wSV k w) (.a 31) vec wan low mode,aDp (aAe wan) (6*4294967296+low) (9*4294967296+low) (vec-2*(vec/2%2)) bg (wd0 nw) (known0 nk) g s n (aAk 17 0),[]⟩):Ready IT G (W2.re (frN 32 0)) bg t nw nk g s n k place w vec wan low mode where
 S:=S
 ki:=rd.ki.keep (fun i _ h=>show gN (aAp (frN 32 0++[]) W2.ads) i=gN W.ads i from aC7 pre (Nat.le_of_eq (show W.ads.length=32 from rd.S.alen).symm) i (by lia)) rfl (fun _ _=>rfl)
 due:=aD1 rd.due
 pl:=rd.pl
 dr:=rd.dr
theorem aQ8{V:Vw}{X:Ctx V}{ads:List Addr}{d:SO}(h:DenO X ads d (X.β.o 16)):∀ j so so' o,gN (aAk 17 0) j=some so→gN (rows0++[d]) j=some so'→DenO X ads so o→DenO X ads so' o:=fun j so so' o e1 e2 r=>by
 have hj:j<17:=aBk e2
 by_cases h16:j<16
 ·have e3:=aDf (l:=[.raw 16]) (n:=16) (k:=0) h16
  have e4:=aDf (l:=[d]) (n:=16) (k:=0) h16
  cases e1.symm.trans e3
  cases e2.symm.trans e4
  exact r
 ·obtain rfl:j=16:=by lia
  cases e1
  cases e2
  replace r:o=X.β.o 16:=r
  rw[r];exact h
theorem bLu{V:Vw}{X:Ctx V}{ads:List Addr}{d:SO}{q:Nat}(hq:q<5)(h3:∀ i so,gN (aVm q (16+3*q) (17+3*q)) i=some so→DenO X ads so (X.β.o (3*q+i)))(h:DenO X ads d (X.β.o 16)):∀ j so so' o,gN (aAk 17 0) j=some so→gN (aBj q++[d]) j=some so'→DenO X ads so o→DenO X ads so' o:=fun j so so' o e1 e2 r=>by
 have hj:j<17:=by have:=aBk e2;rw[List.length_append,aCw] at this;exact this
 by_cases h16:j<16
 ·have e3:=aDf (l:=[.raw 16]) (n:=16) (k:=0) h16
  cases e1.symm.trans e3
  rw[aDg (by rw[aCw];exact h16)] at e2
  replace r:o=X.β.o (0+j):=r
  rw[Nat.zero_add] at r
  by_cases h15:j<15
  ·rw[aEc h15] at e2
   by_cases e:j/3=q
   ·rw[if_pos e] at e2
    rw[r,show j=3*q+j%3 by lia]
    exact h3 _ _ e2
   ·rw[if_neg e] at e2
    cases e2
    exact r
  ·obtain rfl:j=15:=by lia
   cases e2.symm.trans aJ3
   exact r
 ·obtain rfl:j=16:=by lia
  cases e1
  have e4:=aCl (a:=aBj q) (b:=[d]) (i:=0)
  rw[aCw] at e4
  cases e2.symm.trans e4
  replace r:o=X.β.o 16:=r
  rw[r];exact h
theorem aHf(b:Bool)(q:Nat):Nat.ble (pkB b q).length 1=true:=by cases b<;>rfl
section
variable {bg t g s n place w vec wan low mode:Int} {nw nk lim:Nat} (H:aAv K) (hcf:G.cf=cfL) (h17:(aBf.drop 13).take 4=aBf.drop 13) (hbg:aHw bg) (hb:(0≤n∧n≤100*lim)∧nw+1≤lim∧nk+1≤lim∧lim≤900) (cont:∀ β W',Head IT (G.wβ β) W' bg t s lim→Q .next (G.st W'))
theorem agP{p:List Nat}{ads ads':List Addr}{P:Nat→Prop}(hp:∀ i<31,15≤i→P i→gN p i=some i)(pre:Pre ads ads')(h:ads.length=32):∀ i,15≤i→i<31→P i→gN (aAp p ads') i=gN ads i:=fun i a b c=>agree (hp i b a c) pre (by lia)
theorem Ready.pick{q:Nat}(hq:q<5)(rd:Ready IT G W bg t nw nk g s n q place w vec wan low mode):∃ b:Bool,
  (∀ orc,Sat G W ⟨mB bg t place (wSV q w) (.a 31) vec wan low mode,aDp (aAe wan) (6*4294967296+low) (9*4294967296+low) (vec-2*(vec/2%2)) bg (wd0 nw) (knB b nk q) g s n (rwB b q++[aCs q place]),orc⟩) ∧
  ∀ {p:List Nat} {β:Bet} {ads:List Addr},(∀ i<31,15≤i→(b=true→i/3≠5+q)→gN p i=some i)→Pre W.ads ads→PutR (aAp p ads) (G.X.β.d 0) (pkB b q) (β.d 0)→(∀ j so,gN (aBj q) j=some so→DenO G.X (aAp p ads) so (β.o j))→KI IT { G.X with β:=β } (aAp p ads):=by
 have h31:W.ads.length=32:=rd.S.alen
 rcases rd.ki.at_ q hq with hn|⟨a,h1,h2,h3⟩
 ·exact⟨true,fun orc=>rd.S.near rd.S.M (fun f hf=>by cases List.mem_singleton.mp hf;exact hn) rfl (aQ8 rd.due),
   fun hp pre P R=>rd.ki.new hq (fun i a b c=>agP hp pre h31 i a b fun _=>c) P R⟩
 ·exact⟨false,fun orc=>rd.S.near rd.S.M (fun f hf=>by cases List.mem_singleton.mp hf;exact⟨_,h2,a,h1,rfl⟩) (by show (aBj q++_).length=_;rw[List.length_append,aCw];rfl) (bLu hq h3 rd.due),
   fun hp pre P R=>rd.ki.old hq (fun i a b=>agP hp pre h31 i a b fun h=>nomatch h) P R ⟨a,h1,h2⟩⟩
theorem gB1{b:Bool}{x:Out (List Nat)}{Φ:St→List Nat→Prop}(hk:nk≤1000)(h:Hl x Φ):Hl (gs (bif b then [nk+0≤1000] else []) x) Φ:=by
 cases b
 ·exact h
 ·exact gG hk h
theorem gM{c:Bool}{x:Out (List Nat)}{Φ:St→List Nat→Prop}(a:bHz mode)(b:0≤Builtin.bitAnd (8+mode) 31)(h:Hl x Φ):Hl (gs (bif c then [] else [bHz mode,0≤Builtin.bitAnd (8+mode) 31]) x) Φ:=by
 cases c
 ·exact gG a (gG b h)
 ·exact h
theorem aLv{q:Nat}{b c:Bool}{x:Out (List Nat)}{Φ:St→List Nat→Prop}(hbg:aHw bg)(hb:(0≤n∧n≤100*lim)∧nw+1≤lim∧nk+1≤lim∧lim≤900)(pl:aCo 0 bg place)(hc:(mode==3)=c)(hq:Builtin.bitAnd (aAn q) 4294967295=aAn q)(h:Hl x Φ):Hl (gA bg place mode nw nk b c q x) Φ:=by
 have hin:=in8 pl.2.2 hbg.2.2
 exact gG hin.p1 (gG hin.p2 (gG hin.p3 (gG hin.p4 (gG hin.p5 (gG hin.p6 (gG (show nw≤1000 by lia) (gG hin.p7 (gG hc (gG hin.p1 (gG hin.p8 (gG hin.p4 (gG hin.p5 (gG hin.p6 (gG rfl (gG hq (gB1 (by lia) h))))))))))))))))
theorem Drew.mo(d:Drew vec wan low mode):0≤mode∧mode≤i64:=by unfold i64;rcases d.md with h|h|h<;>lia
theorem aOp{vc:Int}{c:Bool}{x:Out (List Nat)}{Φ:St→List Nat→Prop}(d:Drew vec wan low mode)(hc:(mode==3)=c)(h:Hl x Φ):Hl (gT mode vc wan c x) Φ:=gG hc (gG d.mo (gB (gG ⟨d.w0,d.w1⟩ h)))
theorem tvk{c v:Int}(a:0≤c∧c<100)(b:0≤v∧v<4294967296):tvK c v:=⟨trivial,a,trivial,b,trivial⟩
noncomputable abbrev aPx(q s:Nat):Prop:=∀ b:Bool,∀ i<31,15≤i→(b=true→i/3≠5+q)→gN (fC b q s) i=some i
theorem kC0:aPx 0 53:=by decide
theorem kC1:aPx 1 53:=by decide
theorem kC2:aPx 2 12:=by decide
theorem kC3:aPx 3 12:=by decide
theorem kC4:aPx 4 55:=by decide
include H hcf h17 hbg hb cont
theorem C_0(rd:Ready IT G W bg t nw nk g s n 0 place w vec wan low mode):Run G 7 Q (G.st W):=by
 refine aAd (rd.pick (by decide)) fun b S1 ki=>?_
 exact aAo (a:=7) (b:=6) (c:=13) rfl (seg_end H hcf (S1 _) (sC0 K b _ bg t place vec wan low mode place _ _ _ _ g s n nw nk) (aLv hbg hb rd.pl rfl (by decide) (gG (tvk (by decide) ⟨rd.pl.1,rd.pl.2.1⟩) (aOp rd.dr rfl (gP fun W' pre S' =>
  bAs (W1:=W'.re _) H hcf h17 rd.dr (aFf rd.pl.1 rd.pl.2.1) S' rfl (lb hb rfl (aHf b _)) (fun β P R=>ki (kC0 b) pre P R) cont)))))
theorem C_1(rd:Ready IT G W bg t nw nk g s n 1 place w vec wan low mode):Run G 7 Q (G.st W):=by
 refine aAd (rd.pick (by decide)) fun b S1 ki=>?_
 have m:=aBl (m31 rd.dr.md)
 have fin:aS0 G W (aQn G 13 Q) (sTr bg t place vec wan low mode (8+mode) 0 (Builtin.bitAnd 0 4294967295) (aAe wan) (6*4294967296+low) (9*4294967296+low) (vec-2*(vec/2%2)) g s n nw nk [(place/aA4 2,.z (aAn 1))] (pkB b 1) (fwB 1 place) (fkB 1) (aBj 1)) (fC b 1 53):=fun W' pre S' =>
  bAs (W1:=W'.re _) H hcf h17 rd.dr rfl S' rfl (lb hb rfl (aHf b _)) (fun β P R=>ki (kC1 b) pre P R) cont
 exact aAo (a:=7) (b:=6) (c:=13) rfl (seg_end H hcf (S1 _) (sC1 K b _ bg t place vec wan low mode 0 _ _ _ _ g s n nw nk) (aLv hbg hb rd.pl rfl (by decide) (gG (tvk (m8 rd.dr.md) (by decide)) (gG rfl (gM m (bitAnd_range _ (by decide)).1 (gG rd.dr.mo (gS (fun _=>gG m (gG ⟨rd.dr.w0,rd.dr.w1⟩ (gP fin))) (fun _=>gG ⟨rd.dr.w0,rd.dr.w1⟩ (gP fin)))))))))
theorem C_2(rd:Ready IT G W bg t nw nk g s n 2 place w vec wan low mode):Run G 7 Q (G.st W):=by
 refine aAd (rd.pick (by decide)) fun b S1 ki=>?_
 exact aAo (a:=7) (b:=6) (c:=13) rfl (seg_end H hcf (S1 _) (sC2 K b _ bg t place vec wan low mode 0 _ _ _ _ g s n _ nw nk) (aLv hbg hb rd.pl rfl (by decide) (gG ⟨rd.dr.w0,rd.dr.w1⟩ (gP fun W' pre S' =>
  bRl (W1:=W'.re _) H hcf h17 rd.dr (bitAnd_m32 _) S' rfl (lb hb rfl (aHf b _)) (fun β P R=>ki (kC2 b) pre P R) cont))))
theorem C_3(rd:Ready IT G W bg t nw nk g s n 3 place w vec wan low mode):Run G 7 Q (G.st W):=by
 refine aAd (rd.pick (by decide)) fun b S1 ki=>?_
 have j:=j4 (in8 rd.pl.2.2 hbg.2.2) b
 exact aAo (a:=7) (b:=6) (c:=13) rfl (seg_end H hcf (S1 _) (sC3 K b _ bg t place vec wan low mode 0 _ _ _ _ g s n _ nw nk) (aLv hbg hb rd.pl rfl (by decide) (gG (aBl j.2) (gG ⟨rd.dr.w0,rd.dr.w1⟩ (gP fun W' pre S' =>
  bRl (W1:=W'.re _) H hcf h17 rd.dr j.1 S' rfl (lb hb rfl (aHf b _)) (fun β P R=>ki (kC3 b) pre P R) cont)))))
theorem C_4(rd:Ready IT G W bg t nw nk g s n 4 place w vec wan low mode):Run G 7 Q (G.st W):=by
 refine aAd (rd.pick (by decide)) fun b S1 ki=>?_
 obtain⟨e,r,a,m,x,o⟩:=x5 hbg b
 exact aAo (a:=7) (b:=6) (c:=13) rfl (seg_end H hcf (S1 _) (sC4 K b _ x bg t place vec wan low mode 64 _ _ _ _ g s n nw nk) (aLv hbg hb rd.pl rfl (by decide) (gG (aBl a) (gG (aBl (m17 rd.dr)) (gG rfl (o (gG (aBl m) (gG (tvk (by decide) r) (gG (tvk (by decide) r) (aOp rd.dr rfl (gP fun W' pre S' =>
  bAs (W1:=W'.re _) H hcf h17 rd.dr e S' rfl (lb hb rfl (aHf b _)) (fun β P R=>ki (kC4 b) pre P R) cont)))))))))))
theorem C_5(rd:Ready IT G W bg t nw nk g s n 5 place w vec wan low mode):Run G 7 Q (G.st W):=by
 have h31:W.ads.length=32:=rd.S.alen
 have S1:∀ orc,Sat G W ⟨mB bg t place (.z (aAn 5)) (.a 31) vec wan low mode,aDp (aAe wan) (6*4294967296+low) (9*4294967296+low) (vec-2*(vec/2%2)) bg (wd0 nw) (aOh nk 5) g s n (rows0++[aCs 5 place]),orc⟩:=fun orc=>rd.S.near rd.S.M (fun f hf=>by cases List.mem_singleton.mp hf;exact rd.ki.bad) rfl (aQ8 rd.due)
 exact aAo (a:=7) (b:=6) (c:=13) rfl (seg_end H hcf (S1 _) (sC5 K _ bg t place vec wan low mode 4294967295 _ _ _ _ g s n nw nk) (aLv hbg hb rd.pl rfl (by decide) (gG ⟨trivial,by decide,trivial⟩ (gG (tvk (by decide) (by decide)) (aOp rd.dr rfl (gP fun W' pre S' =>
  bAs (W1:=W'.re _) H hcf h17 rd.dr (by decide) S' rfl (lb hb rfl rfl) (fun β P R=>rd.ki.raws (fun i a b=>agP (P:=fun _=>True) (by decide) pre h31 i a b trivial) P R) cont))))))
end
end
section
variable {K:Frag} {G:Gd (vwc 13 K)} {W W1:Wd} {Q:Flow→Shared→Prop} {IT:Addr×Obj} {bg t g s n place w vec wan low mode:Int} {nw nk lim:Nat} (H:aAv K) (hcf:G.cf=cfL) (h17:(aBf.drop 13).take 4=aBf.drop 13) (hbg:aHw bg) (hb:(0≤n∧n≤100*lim)∧nw+1≤lim∧nk+1≤lim∧lim≤900)
include H hcf h17 hbg hb
theorem cBo(rd:Ready IT G W bg t nw nk g s n 6 place w vec wan low mode)(cont:∀ β W',Head IT (G.wβ β) W' bg t s lim→Q .next (G.st W')):Run G 8 Q (G.st W):=by
 have S1:∀ orc,Sat G W ⟨mB bg t place (.i w) (.a 31) vec wan low mode,aDp (aAe wan) (6*4294967296+low) (9*4294967296+low) (vec-2*(vec/2%2)) bg (wd0 nw) (known0 nk) g s n (rows0++[aCs 6 place]),orc⟩:=fun orc=>rd.S.near rd.S.M (fun f hf=>nomatch hf) rfl (aQ8 rd.due)
 have h31:W.ads.length=32:=rd.S.alen
 exact aAo (a:=8) (b:=5) (c:=13) rfl (seg_end H hcf (S1 _) (sC6 K _ bg t place vec wan low mode place _ _ _ _ g s n w nw nk)
  (gG (aGw (show Builtin.bitAnd place 3≠0 by rw[bitAnd_m2];exact rd.pl.2.2)) (gG (tvk (by decide) ⟨rd.pl.1,rd.pl.2.1⟩) (aOp rd.dr rfl (gP fun W' pre S' =>
   bAs (W1:=W'.re _) H hcf h17 rd.dr (aFf rd.pl.1 rd.pl.2.1) S' rfl (lb hb rfl rfl) (fun β P R=>rd.ki.raws (fun i a b=>agP (P:=fun _=>True) (by decide) pre h31 i a b trivial) P R) cont)))))
theorem C_6(rd:Ready IT G W bg t nw nk g s n 6 place w vec wan low mode)(cont:∀ β W',Head IT (G.wβ β) W' bg t s lim→Q .next (G.st W')):Run G 7 Q (G.st W):=by
 have S0:∀ orc,Sat G W ⟨mB bg t place (.i w) (.a 31) vec wan low mode,aDp (aAe wan) (6*4294967296+low) (9*4294967296+low) (vec-2*(vec/2%2)) bg (wd0 nw) (known0 nk) g s n (aAk 17 0),orc⟩:=fun orc=>rd.S.mm rd.S.M
 have go:aS0 G W (aQn G 8 Q) ⟨mB bg t place (.i w) (.a 31) vec wan low mode,aDp (aAe wan) (6*4294967296+low) (9*4294967296+low) (vec-2*(vec/2%2)) bg (wd0 nw) (known0 nk) g s n (aAk 17 0),[]⟩ (frN 32 0):=fun W2 pre2 S2 =>
  cBo (W:=W2.re (frN 32 0)) H hcf h17 hbg hb (rd.move pre2 S2) cont
 exact aAo (a:=7) (b:=1) (c:=8) rfl (seg_end H hcf (S0 _) (sS6 K bg t place vec wan low mode _ _ _ _ g s n w nw nk) (gS (fun _=>gS (fun _=>gG (beq_eq_false_iff_ne.mpr rd.pl.2.2) (gP go)) (fun _=>gP go)) (fun _=>gP go)))
theorem cBn(rd:Ready IT G W bg t nw nk g s n 7 place w vec wan low mode)(cont:∀ β W',Head IT (G.wβ β) W' bg t s lim→Q .next (G.st W')):Run G 8 Q (G.st W):=by
 have S1:∀ orc,Sat G W ⟨mB bg t place (.i w) (.a 31) vec wan low mode,aDp (aAe wan) (6*4294967296+low) (9*4294967296+low) (vec-2*(vec/2%2)) bg (wd0 nw) (known0 nk) g s n (rows0++[aCs 7 place]),orc⟩:=fun orc=>rd.S.near rd.S.M (fun f hf=>nomatch hf) rfl (aQ8 rd.due)
 have h31:W.ads.length=32:=rd.S.alen
 have hal:place%4=0:=rd.pl.2.2.1
 have h4:=hbg.2.2
 have o:∃ x:Bool,∀ {t:Out (List Nat)} {Φ:St→List Nat→Prop},Hl t Φ→Hl (gs (bif x then [mL bg place,decide (place+4≤bg+32)=false] else [decide (bg≤place)=false]) t) Φ:=by
  by_cases ho:bg≤place
  ·exact⟨true,fun h=>gG (decide_eq_true ho) (gG (decide_eq_false fun q=>rd.pl.2.2.2 ⟨ho,by lia⟩) h)⟩
  ·exact⟨false,fun h=>gG (decide_eq_false ho) h⟩
 refine aA6 o fun x o=>?_
 have tv:tvK 1 place:=tvk (by decide) ⟨rd.pl.1,rd.pl.2.1⟩
 exact aAo (a:=8) (b:=5) (c:=13) rfl (seg_end H hcf (S1 _) (sC7 K _ x bg t place vec wan low mode place _ _ _ _ g s n w nw nk)
  (gG (aBl (by rw[bitAnd_m2];exact hal)) (gG rfl (o (gG (aBl hal) (gG tv (gG tv (aOp rd.dr rfl (gP fun W' pre S' =>
   bAs (W1:=W'.re _) H hcf h17 rd.dr (aFf rd.pl.1 rd.pl.2.1) S' rfl (lb hb rfl rfl) (fun β P R=>rd.ki.raws (fun i a b=>agP (P:=fun _=>True) (by decide) pre h31 i a b trivial) P R) cont)))))))))
theorem C_7(rd:Ready IT G W bg t nw nk g s n 7 place w vec wan low mode)(cont:∀ β W',Head IT (G.wβ β) W' bg t s lim→Q .next (G.st W')):Run G 7 Q (G.st W):=by
 have S0:∀ orc,Sat G W ⟨mB bg t place (.i w) (.a 31) vec wan low mode,aDp (aAe wan) (6*4294967296+low) (9*4294967296+low) (vec-2*(vec/2%2)) bg (wd0 nw) (known0 nk) g s n (aAk 17 0),orc⟩:=fun orc=>rd.S.mm rd.S.M
 have go:aS0 G W (aQn G 8 Q) ⟨mB bg t place (.i w) (.a 31) vec wan low mode,aDp (aAe wan) (6*4294967296+low) (9*4294967296+low) (vec-2*(vec/2%2)) bg (wd0 nw) (known0 nk) g s n (aAk 17 0),[]⟩ (frN 32 0):=fun W2 pre2 S2 =>
  cBn (W:=W2.re (frN 32 0)) H hcf h17 hbg hb (rd.move pre2 S2) cont
 exact aAo (a:=7) (b:=1) (c:=8) rfl (seg_end H hcf (S0 _) (sS7 K bg t place vec wan low mode _ _ _ _ g s n w nw nk) (gS (fun c=>gG (decide_eq_false fun q=>rd.pl.2.2.2 ⟨of_decide_eq_true c,q⟩) (gP go)) (fun _=>gP go)))
end
section
variable {K:Frag} {G:Gd (vwc 13 K)} {W W1:Wd} {Q:Flow→Shared→Prop} {IT:Addr×Obj}
theorem cBm(H:aAv K)(hcf:G.cf=cfL)(h17:(aBf.drop 13).take 4=aBf.drop 13){bg t g s n place w vec wan low mode:Int}{nw nk lim k:Nat}(hk:k<8)(hbg:aHw bg)(hb:(0≤n∧n≤100*lim)∧nw+1≤lim∧nk+1≤lim∧lim≤900)(rd:Ready IT G W bg t nw nk g s n k place w vec wan low mode)(cont:∀ β W',Head IT (G.wβ β) W' bg t s lim→Q .next (G.st W')):Run G 7 Q (G.st W) :=
 match k,hk,rd with
 | 0,_,rd=>C_0 H hcf h17 hbg hb cont rd
 | 1,_,rd=>C_1 H hcf h17 hbg hb cont rd
 | 2,_,rd=>C_2 H hcf h17 hbg hb cont rd
 | 3,_,rd=>C_3 H hcf h17 hbg hb cont rd
 | 4,_,rd=>C_4 H hcf h17 hbg hb cont rd
 | 5,_,rd=>C_5 H hcf h17 hbg hb cont rd
 | 6,_,rd=>C_6 H hcf h17 hbg hb rd cont
 | 7,_,rd=>C_7 H hcf h17 hbg hb rd cont
 |k+8,h,_=>absurd h (by lia)
theorem aOb{W2:Wd}(pre:Pre W.ads W2.ads)(h:W.ads.length=32):∀ i,i<32→gN (aAp (frN 32 0) W2.ads) i=gN W.ads i:=fun i hi =>
 show gN (aAp (frN 32 0++[]) W2.ads) i=gN W.ads i from aC7 pre (Nat.le_of_eq h.symm) i hi
theorem bRm(H:aAv K)(hcf:G.cf=cfL)(h17:(aBf.drop 13).take 4=aBf.drop 13){bg t st cy re g s n place w:Int}{nw nk lim k:Nat}(hk:k<8)(hbg:aHw bg)(bx:BoxOk s n)(hc:0≤cy∧cy<1000000000000)(hr:0≤re∧re<1000000000000)(hb:(0≤n∧n+6≤100*lim)∧nw+1≤lim∧nk+1≤lim∧lim≤900)
  (sc:Scene IT G W bg t st cy re nw nk g s n k place w) (cont:∀ β W',Head IT (G.wβ β) W' bg t s lim→Q .next (G.st W')):Run G 1 Q (G.st W):=by
 have h31:W.ads.length=32:=sc.S.alen
 refine aAo (a:=1) (b:=4) (c:=5) rfl (bPf (w:=wI k w) H hcf (fun orc=>sc.S.mm (bY8 sc.S.M)) bx fun W1 g' n' vec wan low mode a1 a2 dr p1 S1=>(?_:Run G 5 Q (G.st W1)))
 have a31:=aOb p1 h31
 have l1:(W1.re (frN 32 0)).ads.length=32:=S1.alen
 refine aAo (a:=5) (b:=1) (c:=6) rfl (bPe (W:=W1.re (frN 32 0)) H hcf (fun orc=>S1.mm S1.M) dr hc hr fun W2 p2 S2=>(?_:Run G 6 Q (G.st W2)))
 have b31:=aOb p2 l1
 have l2:(W2.re (frN 32 0)).ads.length=32:=S2.alen
 refine aAo (a:=6) (b:=1) (c:=7) rfl (bPd (W:=W2.re (frN 32 0)) H hcf (fun orc=>S2.mm S2.M) hbg (by lia) fun W3 p3 S3=>(?_:Run G 7 Q (G.st W3)))
 have c31:=aOb p3 l2
 refine cBm (W:=W3.re (frN 32 0)) H hcf h17 hk hbg ⟨⟨by lia,by lia⟩,hb.2⟩ ⟨S3.mm (bY7 S3.M),sc.ki.keep (fun i _ h=>(c31 i (by lia)).trans ((b31 i (by lia)).trans (a31 i (by lia)))) rfl (fun _ _=>rfl),aD1 sc.due,sc.pl,dr⟩ cont
theorem aU0(H:aAv K)(hcf:G.cf=cfL)(h17:(aBf.drop 13).take 4=aBf.drop 13){bg t s:Int}{lim:Nat}(ht:t≠0)(hbg:aHw bg)(hs:0≤s∧s<2147483629)(hl:lim≤800)(hd:Head IT G W bg t s lim)(cont:∀ β W',Head IT (G.wβ β) W' bg t s (lim+1)→Q .next (G.st W')):Run G 0 Q (G.st W):=by
 refine bNh hd fun st cy re g n nw nk z_=>bH4 z_ fun S ki hc hr hn hw hk=>?_
 have bx:BoxOk s n:=⟨hs.1,hs.2,hn.1,by lia⟩
 refine aAo (a:=0) (b:=1) (c:=1) rfl (cBq H hcf S ki ht hbg bx fun β W' k place w g' n' hk8 a1 a2 sc=>?_)
 have:=bRm (G:=G.wβ β) (Q:=Q) H hcf h17 hk8 hbg ⟨hs.1,hs.2,by lia,by lia⟩ hc hr ⟨⟨by lia,by lia⟩,by lia,by lia,by lia⟩ sc fun β' W' h=>cont β' W' h
 exact⟨this.h⟩
end
section
variable {K:Frag} {G:Gd (vwc 13 K)} {W W1:Wd} {Q:Flow→Shared→Prop} {IT:Addr×Obj}
theorem KI.none{V:Vw}{X:Ctx V}{ads:List Addr}(h:X.β.d 0=[])(it:gN ads 30=some IT.1∧X.β.o 15=IT.2):KI IT X ads:=⟨by rw[h];rfl,fun q _=>.inl (by rw[h];rfl),it⟩
theorem bPg(H:aAv K)(hcf:G.cf=cfL){bg st cy re g s n:Int}{nw nk:Nat}(S:∀ orc,Sat G W ⟨mH bg 0,aCi st cy re bg (.dv none nw [] []) (known0 nk) g s n (aAk 6 0),orc⟩)(hi:gN W.ads 20=some IT.1∧G.X.β.o 5=IT.2)(hd:G.X.β.d 0=[])(hb:aHw bg)(bx:BoxOk s n)
  (cont:∀ β W' place g' n',n≤n'→n'≤n+4→Scene IT (G.wβ β) W' bg 0 st cy re nw nk g' s n' 0 place 0→Q .next (G.st W')):RunS G 0 1 Q (G.st W):=by
 refine aFs (aBb (g:=g) (s:=s) (n:=n) (many:=8) (by decide)) fun d0 g0 n0 t0 a0 b0 e0 f0=>?_
 refine aFs (aBb (g:=g0) (s:=s) (n:=n0) (many:=2) (by decide)) fun d1 g1 n1 t1 a1 b1 e1 f1=>?_
 have dk0:=bx.dk (Int.le_refl n) (by lia) (many:=8) (by decide) (by decide)
 have dk1:=bx.dk e0 (by lia) (many:=2) (by decide) (by decide)
 have pl:=aTx hb a0 b0 a1 b1
 refine seg_end H hcf (S _) (aK7 K bg st cy re g s n d0 g0 n0 d1 g1 n1 nw nk) (gG rfl (gG ⟨t0,dk0⟩ (gG ⟨t1,dk1⟩ (gG ⟨a1,by lia⟩ (gG (aBl pl.2.2.2.2) (gG (decide_eq_true pl.2.2.1) (gG (decide_eq_true pl.2.2.2.1) (gP fun W' pre S'=>?_))))))))
 refine aDm (S'.close (orc':=[])) fun β S1 P R=>?_
 have hd':β.d 0=[]:=(aCx P).trans hd
 exact cont β (W'.re _) _ _ _ (by lia) (by lia) ⟨S1,KI.none hd' ⟨aB7 (t:=30) (i:=20) rfl (pre.get hi.1),(show β.o 15=G.X.β.o 5 from R 15 (.raw 5) rfl).trans hi.2⟩,aD1 (k:=0) (R 16 _ rfl),pl⟩
theorem aQi(H:aAv K)(hcf:G.cf=cfL)(h17:(aBf.drop 13).take 4=aBf.drop 13){bg st cy re g s n:Int}{nw nk:Nat}(hbg:aHw bg)(hs:0≤s∧s<2147483629)(S:∀ orc,Sat G W ⟨mH bg 0,aCi st cy re bg (.dv none nw [] []) (known0 nk) g s n (aAk 6 0),orc⟩)(hi:gN W.ads 20=some IT.1∧G.X.β.o 5=IT.2)(hd:G.X.β.d 0=[])(hc:0≤cy∧cy<1000000000000)(hr:0≤re∧re<1000000000000)(hn:0≤n∧n≤50)(hw:nw=0∧nk=0)
  (cont:∀ β W',Head IT (G.wβ β) W' bg 0 s 1→Q .next (G.st W')):Run G 0 Q (G.st W):=by
 have bx:BoxOk s n:=⟨hs.1,hs.2,hn.1,by lia⟩
 refine aAo (a:=0) (b:=1) (c:=1) rfl (bPg H hcf S hi hd hbg bx fun β W' place g' n' a1 a2 sc=>?_)
 have:=bRm (G:=G.wβ β) (Q:=Q) (lim:=1) H hcf h17 (by decide) hbg ⟨hs.1,hs.2,by lia,by lia⟩ hc hr ⟨⟨by lia,by lia⟩,by lia,by lia,by lia⟩ sc fun β' W' h=>cont β' W' h
 exact⟨this.h⟩
theorem h17:(aBf.drop 13).take 4=aBf.drop 13:=aAa (by k_slotget)
end
noncomputable def bF6(K:Frag)(D:List (Int×Int×Int)):Rec:=aZz (vwc 1 K) (hkL (dr D)) 300
noncomputable def bPn(K:Frag)(D:List (Int×Int×Int))(a b:Nat)(cl p:List Nat)(pats:List SO)(nm:List (Str×SV))(σ:St):Out (List Nat):=bf ((bF6 K D).bk cfL ((aRl.drop a).take b) σ) fun σ' x=>bDd x (bH1 cl p pats nm σ')
noncomputable def mQ(bg:Int):List (Str×SV):=[(aG1,.a 14),(aJ6,.i bg),(aLa,.a 5)]
noncomputable def mS(bg:Int)(v:Value):List (Str×SV):=[(aG1,.a 14),(aJ6,.i bg),(aLa,.a 5),(aB4,.k v)]
noncomputable def bOc(g s n:Int):List SO:=[.seq false [.i g,.i s,.i n] 0,.cell none]
noncomputable def pP:List Nat:=[12,11,16,15,17,4,3,5,7,6,8,20,21,1,0,9,10,13,14,18]
noncomputable def bOo:List SO:=[.any,.any,.any,.any,.any]
noncomputable abbrev bgV(d0 d1:Int):Int:=pick d1 [64+4*d0,96,2 ^ 32-32]
theorem bIz(K:Frag)(v:Value)(g s n d0 g0 n0 d1 g1 n1:Int):bPn K [(d0,g0,n0),(d1,g1,n1)] 1 3 [] pP (aD0 .u .u .u (.i 0) 0 0 .u .u .u .u 0 (.di []) (.di []) 0 0 0 bOo) (mS 0 .none) ⟨[(aG1,.a 0),(aB4,.k v)],bOc g s n,[0,1,0,1,1,1,0,0]⟩ =
  .g (aB9 g s n 900 d0 g0 n0∧DrawOk s n 900) (.g (aB9 g0 s n0 3 d1 g1 n1∧DrawOk s n0 3) (.g (0≤d1∧d1<3) (.g (decide (0≤bgV d0 d1)=true) (.g (decide (bgV d0 d1<bgV d0 d1+32)=true) (.g (decide (bgV d0 d1+32≤4294967296)=true) (.g ((bgV d0 d1%4 != 0)=false) (.g (((bgV d0 d1+32)%4 != 0)=false) (.p ⟨mS (bgV d0 d1) v,aD0 .u .u .u (.i 0) 0 0 .u .u .u .u (bgV d0 d1) (.di []) (.di []) g1 s n1 bOo,[]⟩ pP)))))))):=aAa (by k_slotget)
section
variable {K:Frag} {G:Gd (vwc 1 K)} {W:Wd}
noncomputable abbrev Gd.to13(G:Gd (vwc 1 K))(vo:VOk G.X.w.params (vwc 13 K))(β:Bet):Gd (vwc 13 K):=⟨⟨G.X.prog,G.X.w,vo,G.X.p,G.X.loose,G.X.mean,G.X.mg,G.X.mb,β⟩,G.A,G.cn,G.L,G.a,G.ccd,G.cl,G.outer,G.A₀,G.base,G.g,G.gens,G.drawn,G.os,G.cf,G.E⟩
theorem Ok.to13(O:Ok G)(vo:VOk G.X.w.params (vwc 13 K))(β:Bet):Ok (G.to13 vo β):=⟨O.B,O.K,O.T,O.KB,O.TB,O.D,O.fr,O.hk,O.dp,O.un,O.tp,O.own⟩
theorem bNp{vo:VOk G.X.w.params (vwc 13 K)}:∀ (ads:List Addr) (so:SO) (o:Obj),DenO G.X ads so o→DenO (G.to13 vo G.X.β).X ads so o:=fun ads so o d=>by
 cases so<;>exact d
theorem aVl{K:Frag}(H:aAv K)(D:List (Int×Int×Int)):Snd (vwc 1 K) (bF6 K D):=aF2 (aUb H (dr D)) 300
theorem bDa(vo:VOk G.X.w.params (vwc 13 K))(hcf:G.cf=cfL){D:List (Int×Int×Int)}(H:Snd (vwc 1 K) (bF6 K D)){p:List Nat}{pats:List SO}{nm:List (Str×SV)}{σ:St}{a b:Nat}{t:Out (List Nat)}{Q:Flow→Shared→Prop}(S:Sat G W σ)(e:bPn K D a b [] p pats nm σ=t)(hp:gN p 13=some 1)
  (h:Hl t (fun σ' p'=>∀ W',Pre W.ads W'.ads→Sat (G.to13 vo G.X.β) (W'.re p) σ'→Q .next (G.st W'))):G.wp (execs ((aRl.drop a).take b) G.env) Q (G.st W):=by
 subst e
 have h0:Hl (Mine.bf ((bF6 K D).bk G.cf ((aRl.drop a).take b) σ) fun σ' x=>bDd x (bH1 [] p pats nm σ')) (fun σ' p'=>∀ W',Pre W.ads W'.ads→Sat (G.to13 vo G.X.β) (W'.re p) σ'→Q .next (G.st W')):=by rw[hcf];exact h
 refine H.bk S (h0.to fun {W' σ' x} S' pre h=>?_)
 cases x with
 |r _=>exact h.elim
 |n =>
  refine aBa (Hl.ifT_e h) fun h1 h=>?_
  refine aAd (Hl.onO_e h) fun led' h2 h=>?_
  refine aAd (Hl.onO_e h) fun m' h3 h=>?_
  refine h W' pre (S'.remap (S'.ok.to13 vo G.X.β) ⟨rfl,rfl,rfl,rfl,rfl⟩ bNp (by rw[hcf];rfl) ⟨_,h2⟩ (aGp S'.M h3) (aAc h1).1 fun _ x i e=>?_)
  have e0:=aAq (show (bif aB5 x aAu then some 13 else none)=some i from e)
  cases e0.2
  exact⟨1,by show (bif aB5 x aAu then some 1 else none)=some 1;rw[e0.1];rfl,hp⟩
end
section
variable {K:Frag} {G:Gd (vwc 13 K)} {W:Wd}
theorem Sat.start{bg g s n:Int}{m:List (Str×SV)}(S:Sat G W ⟨m,aD0 .u .u .u (.i 0) 0 0 .u .u .u .u bg (.di []) (.di []) g s n bOo,[]⟩) :
  ∃ β:Bet,β.d 0=[]∧∀ orc,Sat (G.wβ β) W ⟨m,aCi 0 0 0 bg (.dv none 0 [] []) (known0 0) g s n (aAk 5 0),orc⟩:=by
 refine aFs (aDz S.O) fun ow ok os z0_3 z0_4 h3 _ k=>?_
 refine aAd z0_3 fun l1 a1 d1=>?_
 refine aAd z0_4 fun l2 a2 d2=>?_
 cases a1
 cases a2
 refine⟨⟨fun _=>[],fun j=>os.getD j aN6⟩,rfl,fun orc=>S.chg ⟨fun _=>[],fun j=>os.getD j aN6⟩ (k _ _ _ _ ⟨[],[],(fun _ e=>nomatch e),Nat.le_refl 0,.nil,(fun _ e=>nomatch e),d1⟩ ⟨[],[],(fun _ e=>rfl),Nat.le_refl 0,.nil,(fun _ e=>nomatch e),d2⟩ ?_) S.M⟩
 have e5:os.length=5:=h3.len.symm
 have:=aF3 (X:={ G.X with β:=⟨fun _=>[],fun j=>os.getD j aN6⟩ }) (ads:=W.ads) os 0 fun j o e=>by rw[Nat.zero_add];exact (aJa e).symm
 rw[e5] at this
 exact this
end
section
variable {K:Frag} {G:Gd (vwc 1 K)} {W:Wd} {Q:Flow→Shared→Prop}
structure RunP(G:Gd (vwc 1 K))(a b:Nat)(Q:Flow→Shared→Prop)(s:Shared):Prop where
 h:G.wp (execs ((aRl.drop a).take b) G.env) Q s
theorem bFd{d0 d1:Int}(a0:0≤d0)(b0:d0<900)(a1:0≤d1)(b1:d1<3):aHw (bgV d0 d1):=by
 have e32:(2:Int) ^ 32=4294967296:=rfl
 rcases aWr (a:=64+4*d0) (b:=96) (c:=2 ^ 32-32) a1 b1 with⟨_,h⟩|⟨_,h⟩|⟨_,h⟩<;>(unfold aHw bgV;rw[h];lia)
theorem aNc(H:aAv K)(vo:VOk G.X.w.params (vwc 13 K))(hcf:G.cf=cfL){v:Value}{g s n:Int}(hs:0≤s∧s<2147483629)(hn:n=0)(S:∀ orc,Sat G W ⟨[(aG1,.a 0),(aB4,.k v)],bOc g s n,orc⟩)
  (cont:∀ β W' bg g' n',aHw bg→0≤n'→n'≤2→β.d 0=[]→(∀ orc,Sat (G.to13 vo β) W' ⟨mS bg v,aCi 0 0 0 bg (.dv none 0 [] []) (known0 0) g' s n' (aAk 5 0),orc⟩)→Q .next (G.st W')):RunP G 1 3 Q (G.st W):=by
 refine aFs (aBb (g:=g) (s:=s) (n:=n) (many:=900) (by decide)) fun d0 g0 n0 t0 a0 b0 e0 f0=>?_
 refine aFs (aBb (g:=g0) (s:=s) (n:=n0) (many:=3) (by decide)) fun d1 g1 n1 t1 a1 b1 e1 f1=>?_
 have bx:BoxOk s n:=⟨hs.1,hs.2,by lia,by lia⟩
 have hb:=bFd a0 b0 a1 b1
 refine aJi hb fun h1 h2 h3=>?_
 refine⟨bDa vo hcf (aVl H _) (S _) (bIz K v g s n d0 g0 n0 d1 g1 n1) rfl (gG ⟨t0,bx.dk (by lia) (by lia) (by decide) (by decide)⟩ (gG ⟨t1,bx.dk (by lia) (by lia) (by decide) (by decide)⟩ (gG ⟨a1,b1⟩ (gG (decide_eq_true (by lia)) (gG (decide_eq_true (by lia)) (gG (decide_eq_true (by lia)) (gG (aBl h3) (gG (aBl (by lia)) (gP fun W' pre S'=>?_)))))))))⟩
 refine aAd (Sat.start S') fun β hd S2=>?_
 exact cont β (W'.re pP) _ g1 n1 ⟨h1,h2,h3⟩ (by lia) (by lia) hd S2
end
noncomputable def lcS:Scope:=⟨.function,[(bI7,.local),(aS7,.local),(q66,.free)],false,false,[]⟩
noncomputable def stA:Stmt:=.Assign [(.Name aMc ⟨1012,4,1012,8⟩)] (.BinOp (.List [(.Constant (.int 1) 0 ⟨1012,12,1012,13⟩),(.Constant (.int 3) 0 ⟨1012,15,1012,16⟩),(.Constant (.int 5) 0 ⟨1012,18,1012,19⟩),(.Constant (.int 7) 0 ⟨1012,21,1012,22⟩),(.Constant (.int 8) 0 ⟨1012,24,1012,25⟩),(.Constant (.int 17) 0 ⟨1012,27,1012,29⟩),(.Constant (.int 18) 0 ⟨1012,31,1012,33⟩),(.Constant (.int 19) 0 ⟨1012,35,1012,37⟩)] ⟨1012,11,1012,38⟩) .Add (.IfExp (.Compare (.BinOp (.BinOp (.Name q66 ⟨1012,54,1012,59⟩) .FloorDiv (.BinOp (.Constant (.int 2) 0 ⟨1012,63,1012,64⟩) .Pow (.Constant (.int 11) 0 ⟨1012,68,1012,70⟩) ⟨1012,63,1012,70⟩) ⟨1012,54,1012,70⟩) .Mod (.Constant (.int 4) 0 ⟨1012,73,1012,74⟩) ⟨1012,54,1012,74⟩) [.NotEq] [(.Constant (.int 2) 0 ⟨1012,78,1012,79⟩)] ⟨1012,54,1012,79⟩) (.List [(.Constant (.int 11) 0 ⟨1012,43,1012,45⟩),(.Constant (.int 12) 0 ⟨1012,47,1012,49⟩)] ⟨1012,42,1012,50⟩) (.List [] ⟨1012,85,1012,87⟩) ⟨1012,42,1012,87⟩) ⟨1012,11,1012,88⟩) ⟨1012,4,1012,88⟩
noncomputable def stR:Stmt:=.Return (some (.Call (.Name aPz ⟨1013,11,1013,14⟩) [(.ListComp (.BinOp (.Constant (.int 2) 0 ⟨1013,16,1013,17⟩) .Pow (.Name aS7 ⟨1013,21,1013,23⟩) ⟨1013,16,1013,23⟩) [⟨(.Name aS7 ⟨1013,28,1013,30⟩),(.Name aMc ⟨1013,34,1013,38⟩),[(.Compare (.BinOp (.BinOp (.Name q66 ⟨1013,42,1013,47⟩) .FloorDiv (.BinOp (.Constant (.int 2) 0 ⟨1013,51,1013,52⟩) .Pow (.Name aS7 ⟨1013,56,1013,58⟩) ⟨1013,51,1013,58⟩) ⟨1013,42,1013,58⟩) .Mod (.Constant (.int 2) 0 ⟨1013,61,1013,62⟩) ⟨1013,42,1013,62⟩) [.Eq] [(.Constant (.int 1) 0 ⟨1013,66,1013,67⟩)] ⟨1013,42,1013,67⟩)],0⟩] lcS ⟨1013,15,1013,68⟩)] [] ⟨1013,11,1013,69⟩)) ⟨1013,4,1013,69⟩
noncomputable def stS:Scope:=⟨.function,[(q66,.cell),(aMc,.local),(aPz,.globalImplicit)],false,false,[(bI8,.str q66),(bI8,.str aMc),(bI8,.str aS7)]⟩
noncomputable def stP:Arguments:=⟨[],[⟨q66,none,⟨1011,16,1011,21⟩⟩],none,[],[],none,[]⟩
noncomputable def aE8(x:Int):List Int:=[1,3,5,7,8,17,18,19]++(if x/2048%4=2 then [] else [11,12])
section
variable {prog:Program} {w:World} {A:Around} {E:Value→Shared→Prop} {s:Shared} {h₀:Heap} {L f c:Addr} {m:Str→Option Value} {news:List (Addr×Obj)} {cn:Str} {ccd:Value} {o:Obj} {x:Int} {t:Tok}
theorem aKo{ns:List Int}:∀ {ws:List Value},Dens [] (ns.map .z) ws→IntsAre ws ns:=by
 induction ns with
 |nil=>intro ws h;cases h;exact .nil
 |cons n ns ih =>
  intro ws h
  refine aYv (All2.uncons (show Dens [] (.z n::ns.map .z) ws from h)) fun v r r0_2 z0_3 h2=>?_
  subst r0_2
  obtain⟨t,rfl⟩:=z0_3
  exact .cons _ _ (ih h2)
theorem bIu:stS.names.lookup aMc=some .local:=by decide
theorem aVc:stS.names.lookup q66=some .cell:=by decide
theorem bIt:stS.names.lookup aPz=some .globalImplicit:=by decide
theorem bPl{cl:List (Str×Addr)}:(envX cn stS L f ccd cl).kindOf aMc=some .local:=bIu
theorem bPm{cl:List (Str×Addr)}:(envX cn stS L f ccd cl).kindOf q66=some .cell:=aVc
theorem bTl{cl:List (Str×Addr)}:(envX cn stS L f ccd cl).kindOf aPz=some .globalImplicit:=bIt
structure WpS{α:Type}(M:Model)(A:Around)(t:Sem α)(Q:α→Shared→Prop)(E:Value→Shared→Prop)(s:Shared):Prop where
 h:wpAny M A t Q E s
theorem aVb{Q:Flow→Shared→Prop}(F:Fr h₀ L s.heap m)(N:News h₀ L s.heap ((c,o)::news))(hd:o.data=.cell (some (.int x t)))
  (k:∀ l ws h' tk,Fr h₀ L h' (fun y=>if y=aMc then some (.ref l) else m y)→News h₀ L h' ((c,o)::news)→h'.IsList l ws.toArray→IntsAre ws (aE8 x)→Q .next { s with heap:=h',toks:=tk }) :
  WpS (model prog w) A (exec stA (envX cn stS L f ccd [(q66,c)])) Q E s:=by
 refine⟨?_⟩
 unfold stA
 with_reducible refine wpAny_Assign_Name ?_ (nc (by with_unfolding_all rfl))
 with_reducible refine wpAny_BinOp ?_
 with_reducible refine List_ ?_
 with_reducible refine aGc (ns:=[1,3,5,7,8,17,18,19]) (by with_unfolding_all rfl) ?_
 intro ws t1 aw
 have i1:=aKo (aw [])
 refine newList_K (s:={ s with toks:=t1 }) F N ?_ (by rw[i1.length,sizeLine_eq];decide)
 intro D h1 F1 N1 lt1
 have l1:h1.IsList D ws.toArray:=News.isList N1 (.head _)
 have last:∀ {ms:List Int} {vs:List Value} {l2:Addr} {h2:Heap} {tk:Nat},(if x/2048%4=2 then [] else [11,12])=ms→IntsAre vs ms→h2.IsList l2 vs.toArray→Fr h₀ L h2 m→News h₀ L h2 ((D,listOf ws.toArray 0)::(c,o)::news) →
   WpS (model prog w) A (binaryOp .Add (.ref D) (.ref l2)) (fun v s'=>wpAny (model prog w) A (storeName (envX cn stS L f ccd [(q66,c)]) aMc v) (fun _ s''=>Q .next s'') E s') E { s with heap:=h2,toks:=tk }:=by
  intro ms vs l2 h2 tk e i2 il F2 N2
  refine⟨?_⟩
  have hm:ms.length≤2:=by rw[← e];split<;>decide
  refine add_lists_ints (s:={ s with heap:=h2,toks:=tk }) F2 N2 (News.isList N2 (.head _)) il i1 i2 ?_ (by rw[sizeLine_eq];simp only[List.length_cons,List.length_nil];lia)
  intro h3 F3 N3 i3
  refine storeX_L F3 N3 ?_ rfl bPl
  intro h4 F4 N4
  refine k _ _ h4 _ F4 (fun p hp=>N4 p (.tail _ (.tail _ hp))) (News.isList N4 (.head _)) ?_
  unfold aE8;rw[e];exact i3
 with_reducible refine IfExp_ ?_
 with_reducible refine wpAny_isTrue_Compare1 ?_ (by with_unfolding_all rfl)
 with_reducible refine wpAny_BinOp ?_
 with_reducible refine wpAny_BinOp ?_
 with_reducible refine nameX_C N1 (by with_unfolding_all rfl) (List.Mem.tail _ (List.Mem.head _)) hd ?_ (by with_unfolding_all rfl) bPm (by with_unfolding_all decide)
 with_reducible refine wpAny_BinOp ?_
 with_reducible refine wpAny_Constant_int ?_
 with_reducible refine wpAny_Constant_int ?_
 with_reducible refine aNd (r:=2048) (by with_unfolding_all decide) (by with_unfolding_all decide) (by with_unfolding_all decide) (by with_unfolding_all rfl) ?_
 with_reducible refine aYx (by with_unfolding_all decide) (by with_unfolding_all decide) ?_
 with_reducible refine wpAny_Constant_int ?_
 with_reducible refine aRb (by with_unfolding_all decide) ?_
 with_reducible refine wpAny_Constant_int ?_
 with_reducible refine ne_int ?_
 with_reducible refine wpAny_truthy_bool ?_
 by_cases e:x/2048%4=2
 ·rw[if_neg (by simp[e])]
  with_reducible refine List_ ?_
  with_reducible refine args_nil ?_
  refine newList_K (s:={ s with heap:=h1,toks:=_ }) F1 N1 ?_ (by decide)
  intro D2 h2 F2 N2 lt2
  exact (last (if_pos e) .nil (News.isList N2 (.head _)) F2 fun p hp=>N2 p (.tail _ hp)).h
 ·rw[if_pos (by simp[e])]
  with_reducible refine List_ ?_
  with_reducible refine aGc (ns:=[11,12]) (by with_unfolding_all rfl) ?_
  intro ws2 t2 aw2
  have i2:=aKo (aw2 [])
  refine newList_K (s:={ s with heap:=h1,toks:=_ }) F1 N1 ?_ (by rw[i2.length,sizeLine_eq];decide)
  intro D2 h2 F2 N2 lt2
  exact (last (if_neg e) i2 (News.isList N2 (.head _)) F2 fun p hp=>N2 p (.tail _ hp)).h
theorem aGb{a:Int}(h:a∈aE8 x):0≤a∧a≤19:=by
 unfold aE8 at h
 split at h<;>(simp only[List.cons_append,List.nil_append,List.append_nil,List.mem_cons,List.not_mem_nil,or_false] at h;omega)
theorem aQ5{a:Int}(h:a∈aE8 x):0<(2:Int) ^ a.toNat∧(2:Int) ^ a.toNat≤4294967296:=by
 refine⟨Int.pow_pos (by decide),?_⟩
 have:(2:Nat) ^ a.toNat≤2 ^ 19:=Nat.pow_le_pow_right (by decide) (by have:=aGb h;lia)
 have e:((2 ^ a.toNat:Nat):Int)=(2:Int) ^ a.toNat:=by simp
 have:((2 ^ a.toNat:Nat):Int)≤((2 ^ 19:Nat):Int):=Int.ofNat_le.mpr this
 rw[← e]
 lia
noncomputable abbrev bFb(x a:Int):Bool:=x/(2:Int) ^ a.toNat%2==1
theorem sum_cons(p:Int→Bool)(f:Int→Int)(n:Int)(l:List Int):(((n::l).filter p).map f).sum=(if p n=true then f n else 0)+((l.filter p).map f).sum:=by
 cases h:p n<;>simp[List.filter_cons,h]
theorem bOd(x k m:Int):(if (x/k%2==1)=true then m else 0)=m*(x/k%2):=by
 rcases Int.emod_two_eq (x/k) with h|h<;>simp[h]
theorem aQq(x:Int):(((aE8 x).filter (bFb x)).map (fun a:Int=>(2:Int) ^ a.toNat)).sum=aAe x:=by
 have b:∀ n:Int,(if bFb x n=true then (2:Int) ^ n.toNat else 0)=(2:Int) ^ n.toNat*(x/(2:Int) ^ n.toNat%2):=fun n=>bOd x _ _
 have e:∀ l:List Int,((([1,3,5,7,8,17,18,19]++l).filter (bFb x)).map (fun a:Int=>(2:Int) ^ a.toNat)).sum=2*(x/2%2)+(8*(x/8%2)+(32*(x/32%2)+(128*(x/128%2)+(256*(x/256%2)+(131072*(x/131072%2)+(262144*(x/262144%2)+(524288*(x/524288%2)+((l.filter (bFb x)).map (fun a:Int=>(2:Int) ^ a.toNat)).sum))))))):=fun l=>by
  simp only[List.cons_append,List.nil_append,sum_cons,b]
  rfl
 unfold aE8 aAe
 rw[e]
 by_cases h:x/2048%4=2
 ·rw[if_pos h,if_pos h]
  simp only[List.filter_nil,List.map_nil,List.sum_nil]
  lia
 ·rw[if_neg h,if_neg h]
  simp only[sum_cons,b,List.filter_nil,List.map_nil,List.sum_nil]
  have e1:(2:Int) ^ (11:Int).toNat=2048:=rfl
  have e2:(2:Int) ^ (12:Int).toNat=4096:=rfl
  rw[e1,e2]
  have:2048*(x/2048%4)=2048*(x/2048%2)+4096*(x/4096%2):=by lia
  rw[this]
  lia
end
section
variable {prog:Program} {w:World} {A:Around} {E:Value→Shared→Prop} {s:Shared} {h₀:Heap} {L f c:Addr} {m mg mb:Str→Option Value} {news:List (Addr×Obj)} {cn:Str} {ccd:Value} {o:Obj} {x:Int} {t:Tok} {K:Frag} {p:Program} {loose:List Str}
theorem bA2{Q:Flow→Shared→Prop}{kl:Addr}{ws:List Value}(F:Fr h₀ L s.heap m)(hm:m aMc=some (.ref kl))(N:News h₀ L s.heap ((c,o)::news))(hd:o.data=.cell (some (.int x t)))(hh:A.handled=none)(X:K.In h₀)(T:TopRead p loose mg mb h₀)(en:nsIn K mainGlobals aPz=some none)
  (hl:s.heap.IsList kl ws.toArray) (hi:IntsAre ws (aE8 x)) (k:∀ h' tk t',Fr h₀ L h' m→News h₀ L h' ((c,o)::news)→Q (.ret (.int (aAe x) t')) { s with heap:=h',toks:=tk }) :
  WpS (model prog w) A (exec stR (envX cn stS L f ccd [(q66,c)])) Q E s:=by
 refine⟨?_⟩
 unfold stR
 with_reducible refine wpAny_Return_some ?_
 refine Call_ ?_
 refine nameX_B (v:=.builtin "sum") F X T en ?bb ?bn ?_ ?bk bTl ?bd
 case bb=>exact aAa (by k_slotget)
 case bn=>decide
 case bk=>rfl
 case bd=>decide
 refine callWith_method1 (first:=[]) ?_ (aAb rfl) (aA7 (l:=[]) rfl).1
 refine args_cons ?_ (aAb rfl)
 refine ListComp_DC (h₀:=h₀) (L:=L) (m:=m) (news:=(c,o)::news) (K:=.int) (pz:=bFb x) (d:=fun a=>.int ((2:Int) ^ a.toNat)) (cl:=[(q66,c)]) hh ?c1 ?c2 rfl ?c3 ?c4 ?_ ?c5
 case c1=>exact aPi rfl rfl
 case c2=>decide
 case c3=>decide
 case c4=>decide
 case c5=>intro _;rfl
 refine nameX_L F hm ?_ rfl bPl (by decide)
 have kc:∀ C,(compEnvC lcS [(q66,c)] C (envX cn stS L f ccd [(q66,c)])).kindOf q66=some .cell:=fun C=>kind_free (n0:=bI7) (y:=aS7) rfl (by decide) (by decide) rfl bPm
 have kv:∀ C,(compEnvC lcS [(q66,c)] C (envX cn stS L f ccd [(q66,c)])).kindOf aS7=some .local:=fun C=>aKm (n0:=bI7) (b:=q66) rfl (by decide)
 refine⟨kl,ws,aE8 x,rfl,hl,hi.areOf,?_,F,N,?_,?_,?_⟩
 ·unfold aE8;split<;>(rw[sizeLine_eq];decide)
 ·intro C a v s2 m2 E2 ha hv hns hx hk
  obtain⟨u,rfl⟩:=hv
  obtain⟨a0,a1⟩:=aGb ha
  obtain⟨p0,p1⟩:=aQ5 ha
  refine wpAny_tests_one ?_
  with_reducible refine wpAny_isTrue_Compare1 ?_ (by with_unfolding_all rfl)
  with_reducible refine wpAny_BinOp ?_
  with_reducible refine wpAny_BinOp ?_
  refine ldCellK (c:=c) (v:=.int x t) rfl ⟨o,hk _ _ (N _ (.head _)).1,hd⟩ ?_ rfl (kc C) (by decide)
  with_reducible refine wpAny_BinOp ?_
  with_reducible refine wpAny_Constant_int ?_
  refine ldVarK hns hx ?_ rfl (kv C) (by decide)
  refine pow_int_small a0 (by lia) (by decide) ?_
  refine aYx p0 p1 ?_
  with_reducible refine wpAny_Constant_int ?_
  refine aRb (by decide) ?_
  with_reducible refine wpAny_Constant_int ?_
  refine eq_int ?_
  refine wpAny_truthy_bool ?_
  exact⟨rfl,_,_,rfl,fun _ _ e=>e⟩
 ·intro C a v s2 m2 E2 ha hv hz hns hx hk
  obtain⟨u,rfl⟩:=hv
  obtain⟨a0,a1⟩:=aGb ha
  with_reducible refine wpAny_BinOp ?_
  with_reducible refine wpAny_Constant_int ?_
  refine ldVarK hns hx ?_ rfl (kv C) (by decide)
  refine pow_int_small a0 (by lia) (by decide) ?_
  exact⟨.int _ _,_,_,rfl,fun _ _ e=>e⟩
 ·intro D ys h' tk F' N' hD il hc
  refine args_nil ?_
  have is:=CarriedAll.intsOf (f:=fun a:Int=>(2:Int) ^ a.toNat) hc
  refine LSm.sum_ints (s:={ s with heap:=h',toks:=tk }) F' N' hh il is ?_
  intro h2 tk2 t2 F2 N2
  rw[aQq]
  exact k h2 tk2 t2 F2 N2
noncomputable def bIo(M:Model)(A:Around)(env:Env)(rest:List Stmt)(Q:Flow→Shared→Prop)(E:Value→Shared→Prop)(f:Flow)(s:Shared):Prop:=match f with
 | .next=>WpS M A (execs rest env) Q E s
 |f=>Q f s
theorem WpS.cons{M:Model}{env:Env}{st:Stmt}{rest:List Stmt}{Q:Flow→Shared→Prop}(h:WpS M A (exec st env) (bIo M A env rest Q E) E s):WpS M A (execs (st::rest) env) Q E s :=
 ⟨wpAny_execs_cons (wpAny_mono h.h (fun f s' q=>by
  cases f with
  |next=>exact WpS.h q
  |_=>exact q) fun _ _ q=>q)⟩
theorem WpS.to{α:Type}{M:Model}{t:Sem α}{Q Q':α→Shared→Prop}(h:WpS M A t Q E s)(k:∀ f s',Q f s'→Q' f s'):wpAny M A t Q' E s:=wpAny_mono h.h k fun _ _ q=>q
theorem aVd{Q:Flow→Shared→Prop}(F:Fr h₀ L s.heap m)(N:News h₀ L s.heap ((c,o)::news))(hd:o.data=.cell (some (.int x t)))(hh:A.handled=none)(X:K.In h₀)(T:TopRead p loose mg mb h₀)(en:nsIn K mainGlobals aPz=some none)
  (k:∀ h' tk t' m',Fr h₀ L h' m'→News h₀ L h' ((c,o)::news)→Q (.ret (.int (aAe x) t')) { s with heap:=h',toks:=tk }) :
  WpS (model prog w) A (execs [stA,stR] (envX cn stS L f ccd [(q66,c)])) Q E s :=
 WpS.cons (aVb F N hd fun l ws h2 tk2 F2 N2 il ii=>WpS.cons (bA2 (s:={ s with heap:=h2,toks:=tk2 }) F2 (if_pos rfl) N2 hd hh X T en il ii fun h' tk t' F3 N3=>k h' tk t' _ F3 N3))
end
section
set_option tactic.hygienic true
structure StK(K:Frag):Prop where
 ob:K.lookup 2225=some ⟨.type "function",none,.func (fnX aIf aIf stP [stA,stR] stS [] .none .none .none (.str aLc 5834) none (.ref 2224) .none),#[]⟩
 cd:codeIn K (.ref 2224) aIf=true
 nm:nsIn K mainGlobals aPz=some none
theorem aQs{L:Nat}:cellsFrom (L+1) stS.names []=[(q66,L+1)]:=rfl
theorem aVe{v:Value}{k:Str→Option NameKind}(h:k q66=some .cell):bindC k [(q66,v)] (fun _=>none) q66=some v:=by
 show (if k q66=some .local then (fun _=>none) else fun y=>if y=q66 then some v else none) q66=some v
 rw[if_neg (by rw[h];exact nofun)]
 exact if_pos rfl
theorem aVa{K:Frag}(k:StK K):aAv K:=by
 intro ci G W σ args vs Q o hn hlv S a ho h
 unfold aQr at ho
 split at ho
 ·rename_i m
  refine aAd (aNn ho) fun x hx e=>?_
  cases e
  refine aBa h fun z1_0 h=>?_
  obtain⟨h0,h1⟩:=z1_0
  refine aAd a.cons1 fun v r2_1 d=>?_
  subst r2_1
  obtain⟨t,rfl⟩:∃ t,v=.int x t:=by rcases hx with rfl|rfl<;>exact d
  have dp:=S.ok.dp
  refine callX_cells (binds:=[(q66,.int x t)]) S.ok.B S.F S.N (Top.nolimit S.ok.T) S.ok.fr rfl S.ok.hk (S.K _ _ k.ob) rfl (codeRec_of S.K k.cd) (by lia) (BindsTo.of_eq rfl) (kindsX (by simp only[List.all_cons,List.all_nil,aVc];decide)) (by decide) ?_ rfl rfl rfl
  intro g L' hp tk cells F' F1 N1 Y B' st lt
  rw[aQs] at Y
  obtain⟨oc,rfl,hoc⟩:=CellsAre.one Y
  have hoc:oc.data=.cell (some (.int x t)):=hoc.trans (congrArg Data.cell (aVe (k:=fun y=>stS.names.lookup y) aVc))
  have eE:envOfC aIf stS L' 2225 (.ref 2224)=envX aIf stS L' 2225 (.ref 2224) [(q66,L'+1)]:=rfl
  rw[eE]
  have hh:=S.hd
  rw[hn] at hh
  replace N1:News g L' hp ((L'+1,oc)::W.l):=N1
  have kn:nsIn (vwc ci K).K mainGlobals aPz=some none:=k.nm
  have T':=topRead_of (S.ok.T.keeps st)
  have K':=S.ok.K.keeps st
  have A':(G.A.deeper (envX aIf stS L' 2225 (.ref 2224) [(q66,L'+1)])).handled=none:=hh
  generalize G.A.deeper (envX aIf stS L' 2225 (.ref 2224) [(q66,L'+1)])=A1 at A' ⊢
  with_reducible refine WpS.to (Q:=fun f s'=>∃ v,f=.ret v∧LeaveK G.g G.L W.m g (aJm Q G.E) v s') ?_ ?_
  ·with_reducible refine aVd (s:=⟨hp,G.gens,G.drawn,tk,G.os⟩) (c:=L'+1) (x:=x) (t:=t) F1 N1 hoc A' K' T' kn ?_
   intro h3 tk3 t3 m3 F3 N3
   refine⟨_,rfl,leaveK_ F3 N3 fun F4 N4=>?_⟩
   exact h ⟨W.ads,W.objs,W.m,h3,tk3⟩ (.refl _) ⟨S.ok,F4,S.M,fun p hp=>N4 p (.tail _ hp),S.O,S.len,S.nd,S.hd,S.cl⟩ rfl _ ⟨t3,rfl⟩
  ·rintro f s' ⟨v,rfl,q⟩
   exact q
 ·cases ho
end
structure Rest{V:Vw}(G:Gd V)(ads:List Addr)(objs:List Obj)(m:Str→Option Value)(nm:List (Str×SV))(led:List SO):Prop where
 M:MD ads nm m
 O:All2 (DenO G.X ads) led objs
 len:ads.length=objs.length
 nd:ads.Nodup
 cl:G.cf.top=true→∀ x i,V.cells x=some i→∃ a,gN ads i=some a∧G.cl.lookup x=some a
theorem Sat.rest{V:Vw}{G:Gd V}{W:Wd}{σ:St}(S:Sat G W σ):Rest G W.ads W.objs W.m σ.m σ.led:=⟨S.M,S.O,S.len,S.nd,S.cl⟩
noncomputable def KJ{V:Vw}(X:Ctx V)(ads:List Addr):Prop:=∀ (IT:Addr×Obj) (β':Bet) (ads':List Addr),(∀ i,15≤i→i<30→gN ads' i=gN ads i)→β'.d 0=X.β.d 0→(∀ j<15,β'.o j=X.β.o j)→(gN ads' 30=some IT.1∧β'.o 15=IT.2)→KI IT { X with β:=β' } ads'
theorem KI.swap{V:Vw}{IT0:Addr×Obj}{X:Ctx V}{ads:List Addr}(h:KI IT0 X ads):KJ X ads:=fun IT β ads' ha hd ho it=>{
 bad:=by rw[show ({ X with β:=β }:Ctx V).β.d 0=X.β.d 0 from hd];exact h.bad
 at_:=fun q hq=>by
  rw[show ({ X with β:=β }:Ctx V).β.d 0=X.β.d 0 from hd]
  refine (h.at_ q hq).imp id fun ⟨a,h1,h2,h3⟩=>⟨a,(ha _ (by lia) (by lia)).trans h1,h2,fun i so e=>?_⟩
  have hi:i<3:=by have:=aBk e;exact this
  rw[show ({ X with β:=β }:Ctx V).β.o (3*q+i)=X.β.o (3*q+i) from ho _ (by lia)]
  exact aDu e (ha _ (by lia) (by lia)) (ha _ (by lia) (by lia)) (h3 i so e)
 it:=it }
noncomputable def aWq(β:Bet)(k:Nat)(o:Obj):Bet:=⟨β.d,fun j=>if j=k then o else β.o j⟩
theorem aJ4{V:Vw}{X:Ctx V}{ads:List Addr}:∀ {k i:Nat} {os:List Obj},All2 (DenO X ads) (aAk k i) os→∀ j o,gN os j=some o→o=X.β.o (i+j)
 | 0,_,_,.nil,_,_,h=>nomatch h
 |k+1,i,_,.cons d _,0,_,h=>by cases h;exact d
 |k+1,i,_,.cons _ t,j+1,o,h=>by rw[show i+(j+1)=i+1+j by lia];exact aJ4 t j o h
theorem aFi:∀ {k i:Nat},aAk (k+1) i=aAk k i++[.raw (i+k)]
 | 0,i=>rfl
 |k+1,i=>by
  show SO.raw i::aAk (k+1) (i+1)=SO.raw i::(aAk k (i+1)++[.raw (i+(k+1))])
  rw[aFi,show i+1+k=i+(k+1) by lia]
section
variable {K:Frag} {G:Gd (vwc 13 K)}
theorem Rest.add{β:Bet}{ads:List Addr}{objs:List Obj}{m:Str→Option Value}{st cy re bg g s n:Int}{nw k:Nat}{kn:SO}{I:Addr}{oI:Obj}{m':Str→Option Value}{nm':List (Str×SV)}{h:Heap}{tk:Nat}(ok:Ok G)(hn:G.cf.hd=none)(hh:G.A.handled=none)
  (hkn:∀ ads o,DenO (G.wβ β).X ads kn o→DenO (G.wβ (aWq β k oI)).X ads kn o)
  (R:Rest (G.wβ β) ads objs m (mQ bg) (aCi st cy re bg (.dv none nw [] []) kn g s n (aAk k 0))) (hI:I∉ads) (F:Fr G.g G.L h m') (N:News G.g G.L h ((I,oI)::ads.zip objs)) (hM:MD ads nm' m') :
  ∀ orc,Sat (G.wβ (aWq β k oI)) ⟨ads++[I],objs++[oI],m',h,tk⟩ ⟨nm',aCi st cy re bg (.dv none nw [] []) kn g s n (aAk (k+1) 0),orc⟩:=fun orc=>by
 have pre:Pre ads (ads++[I]):=.snoc _ _
 refine aFs (aDz (R.O.mono fun _ _=>DenO.mono pre)) fun ow ok' os d1 d2 d3 _ kk=>?_
 have O2:=kk (aWq β k oI) (.dv none nw [] []) kn (aAk k 0) d1 (hkn _ _ d2) (by
  have hl:os.length=k:=by
   have:=d3.len.symm
   rw[this]
   clear this d3
   have:∀ k i,(aAk k i).length=k:=fun k=>by
    induction k with
    |zero=>intro i;rfl
    |succ k ih=>intro i;exact congrArg Nat.succ (ih (i+1))
   exact this k 0
  have:=aF3 (X:=(G.wβ (aWq β k oI)).X) (ads:=ads++[I]) os 0 fun j o e=>by
   have hj:j<k:=hl▸aBk e
   have:=aJ4 d3 j o e
   rw[this]
   show β.o (0+j)=if 0+j=k then oI else β.o (0+j)
   rw[if_neg (by lia)]
  rwa [hl] at this)
 have O3:=O2.snoc (a:=SO.raw k) (b:=oI) (show oI=(if k=k then oI else β.o k) from (if_pos rfl).symm)
 refine⟨ok.wβ _,F,hM.mono pre,fun p hp=>?_,?_,by simp[R.len],?_,?_,fun q x i e=>?_⟩
 ·replace hp:p∈(ads++[I]).zip (objs++[oI]):=hp
  rw[aBy R.len] at hp
  exact N p ((List.mem_append.mp hp).elim (.tail _) fun q=>List.mem_singleton.mp q▸.head _)
 ·rw[aFi,Nat.zero_add];exact O3
 ·refine List.nodup_append.mpr ⟨R.nd,by simp,fun a ha b hb e=>?_⟩
  rw[List.mem_singleton.mp hb] at e
  exact hI (e▸ha)
 ·show Hdl (ads++[I]) G.A G.cf.hd
  rw[hn];exact hh
 ·refine aAd (R.cl q x i e) fun a k1 k2=>?_
  exact⟨a,pre.get k1,k2⟩
end
section
set_option tactic.hygienic true
theorem KJ.move{V:Vw}{X:Ctx V}{ads ads1:List Addr}(h:KJ X ads)(ha:∀ i,i<30→gN ads1 i=gN ads i):KJ X ads1:=fun IT β ads' a hd ho it=>h IT β ads' (fun i h1 h2=>(a i h1 h2).trans (ha i h2)) hd ho it
theorem aLo{p:List Nat}{ads:List Addr}:(aAp p ads).length=p.length:=by unfold aAp;rw[List.length_map]
variable {K:Frag} {G:Gd (vwc 13 K)}
structure LJ0(G:Gd (vwc 13 K))(bg s:Int)(β:Bet)(ads:List Addr)(objs:List Obj)(m:Str→Option Value):Prop where
 d0:β.d 0=[]
 r:∃ g n,(0≤n∧n≤50)∧Rest (G.wβ β) ads objs m (mQ bg) (aCi 0 0 0 bg (.dv none 0 [] []) (known0 0) g s n (aAk 5 0))
structure LJ1(G:Gd (vwc 13 K))(bg s:Int)(lim:Nat)(β:Bet)(ads:List Addr)(objs:List Obj)(m:Str→Option Value):Prop where
 kj:KJ (G.wβ β).X ads
 r:∃ st cy re g n:Int,∃ nw nk:Nat,Rest (G.wβ β) ads objs m (mQ bg) (aCi st cy re bg (.dv none nw [] []) (known0 nk) g s n (aAk 15 0))∧(0≤cy∧cy<1000000000000)∧(0≤re∧re<1000000000000)∧(0≤n∧n≤100*lim)∧nw≤lim∧nk≤lim
noncomputable def LJ(G:Gd (vwc 13 K))(bg s:Int)(i:Nat)(m:Str→Option Value)(news:List (Addr×Obj)):Prop:=∃ β ads objs,news=ads.zip objs∧match i with
 | 0=>LJ0 G bg s β ads objs m
 |k+1=>LJ1 G bg s (k+1) β ads objs m
noncomputable abbrev stG(G:Gd (vwc 13 K))(h:Heap)(tk:Nat):Shared:=⟨h,G.gens,G.drawn,tk,G.os⟩
noncomputable abbrev bFr(G:Gd (vwc 13 K))(bg s:Int)(i:Nat)(I:Addr)(oI:Obj)(Q:Flow→Shared→Prop):Prop:=∀ h' tk' m' news',Fr G.g G.L h' m'→News G.g G.L h' ((I,oI)::news')→(∀ p∈news',p.1≠I)→LJ G bg s i m' news'→Q .next (stG G h' tk')
theorem bM9(bg st cy re g s n:Int)(nw nk:Nat):bEg (frN 30 0) (aCi st cy re bg (.dv none nw [] []) (known0 nk) g s n rows0) (frN 30 0) (aCi 0 0 0 0 dv0 dv0 0 0 0 (aAk 15 0))=some (aCi st cy re bg (.dv none nw [] []) (known0 nk) g s n (aAk 15 0)):=aAa (by k_slotget)
theorem bZ0(bg t:Int):bH0 (frN 30 0) (mH bg t) (mQ 0)=some (mQ bg):=aAa (by k_slotget)
theorem bY3:aHj (frN 30 0)=true:=aAa (by k_slotget)
theorem Head.next{bg t s:Int}{lim:Nat}{I:Addr}{oI:Obj}{β:Bet}{W:Wd}{Q:Flow→Shared→Prop}(hn:G.cf.hd=none)(hd:Head (I,oI) (G.wβ β) W bg t s (lim+1))(cont:bFr G bg s (lim+1) I oI Q):Q .next (G.st W):=by
 refine bNh hd fun st cy re g n nw nk z_=>bH4 z_ fun S ki hc hr hb hw hk=>?_
 have S1:=S.remap (G':=G.wβ β) (o':=[]) S.ok ⟨rfl,rfl,rfl,rfl,rfl⟩ (fun _ _ _ d=>d) hn ⟨_,bM9 bg st cy re g s n nw nk⟩ (aGp S.M (bZ0 bg t)) bY3 fun _ x i e=>⟨i,e,by cases (aAq (show (bif aB5 x aAu then some 13 else none)=some i from e)).2;rfl⟩
 have h31:W.ads.length=31:=S.alen
 have ag:∀ i,i<30→gN (aAp (frN 30 0) W.ads) i=gN W.ads i:=fun i hi=>show gN (aAp (frN 30 0++[]) W.ads) i=_ from aC7 (.refl _) (by omega) i hi
 refine aBa ki.it fun i1 i2=>?_
 replace i1:gN W.ads 30=some I:=i1
 replace i2:β.o 15=oI:=i2
 refine aDm (S.slot (i:=30) (so:=.raw 15) rfl i1) fun o _ hm d=>?_
 replace d:o=β.o 15:=d
 rw[i2] at d
 subst d
 refine cont W.h W.t W.m ((aAp (frN 30 0) W.ads).zip (aHl (frN 30 0) W.objs)) S.F (fun p hp=>?_) (fun p hp e=>?_) ⟨β,_,_,rfl,KJ.move ki.swap ag,st,cy,re,g,n,nw,nk,S1.rest,hc,hr,hb,hw,hk⟩
 ·rcases List.mem_cons.mp hp with rfl|hp
  ·exact S.N _ hm
  ·exact S1.N p hp
 ·refine aA6 (aCh (List.of_mem_zip hp).1) fun i hi=>?_
  have hl:i<30:=by have:=aBk hi;rw[aLo] at this;exact this
  rw[ag i hl,e] at hi
  have:=aC4 S.nd hi i1
  omega
theorem MD.turn{ads:List Addr}{m:Str→Option Value}{bg t:Int}{u:Tok}(h:MD ads (mQ bg) m):MD ads (mH bg t) (fun y=>if y=aIw then some (.int t u) else m y):=fun x y e=>by
 have n1:aG1≠aIw:=by decide
 have n2:aJ6≠aIw:=by decide
 have n3:aLa≠aIw:=by decide
 have key:∀ {z:Str} {w:SV},z≠aIw→aD3 z (mQ bg)=some w→∃ v,(if z=aIw then some (.int t u) else m z)=some v∧Den ads w v:=fun {z w} hz e=>by rw[if_neg hz];exact h z w e
 unfold mH at e
 rw[aAr] at e
 split at e
 ·rename_i q;cases q;cases e;exact key n1 rfl
 ·rw[aAr] at e
  split at e
  ·rename_i q;cases q;cases e;exact key n2 rfl
  ·rw[aAr] at e
   split at e
   ·rename_i q;cases q;cases e;exact key n3 rfl
   ·rw[aAr] at e
    split at e
    ·rename_i q;cases q;cases e;exact⟨_,if_pos rfl,u,rfl⟩
    ·cases e
theorem aMj(H:aAv K)(hcf:G.cf=cfL)(ok:Ok G)(hh:G.A.handled=none){bg s:Int}(hbg:aHw bg)(hs:0≤s∧s<2147483629){i:Nat}(hi:i<8){m:Str→Option Value}{news:List (Addr×Obj)}(J:LJ G bg s i m news){I:Addr}{oI:Obj}{h:Heap}{tk:Nat}{u:Tok}
  (hI:∀ p∈news,p.1≠I) (F:Fr G.g G.L h (fun y=>if y=aIw then some (.int (i:Int) u) else m y)) (N:News G.g G.L h ((I,oI)::news)) {Q:Flow→Shared→Prop} (cont:bFr G bg s (i+1) I oI Q):Run G 0 Q (stG G h tk):=by
 have hn:G.cf.hd=none:=by rw[hcf];rfl
 obtain⟨β,ads,objs,rfl,J⟩:=J
 have off:ads.length=objs.length→I∉ads:=fun e q=>by
  obtain⟨j,hj⟩:=aCh q
  obtain⟨o,ho⟩:=aAl (l:=objs) (e▸aBk hj)
  exact hI _ (aBe hj ho) rfl
 match i,J with
 | 0,J =>
  obtain⟨d0,g,n,hb,R⟩:=J
  have S:=R.add (tk:=tk) (oI:=oI) ok hn hh (fun ads o d=>d) (off R.len) F N (MD.turn (t:=0) R.M)
  have l20:ads.length=20:=by rw[R.len,← R.O.len];rfl
  have:=aQi (G:=G.wβ (aWq β 5 oI)) (IT:=(I,oI)) (Q:=Q) H hcf h17 hbg hs S ⟨by have:=aBg (a:=ads) (c:=I);rw[l20] at this;exact this,(show (if 5=5 then oI else β.o 5)=oI from if_pos rfl)⟩ d0 (by decide) (by decide) hb ⟨rfl,rfl⟩ fun β' W' hd=>Head.next (G:=G) (β:=β') (lim:=0) hn hd cont
  exact⟨this.h⟩
 |k+1,J =>
  obtain⟨kj,st,cy,re,g,n,nw,nk,R,hc,hr,hb,hw,hk⟩:=J
  have S:=R.add (tk:=tk) (oI:=oI) ok hn hh (fun ads o d=>d) (off R.len) F N (MD.turn (t:=((k+1:Nat):Int)) R.M)
  have l30:ads.length=30:=by rw[R.len,← R.O.len];rfl
  have i1:gN (ads++[I]) 30=some I:=by have:=aBg (a:=ads) (c:=I);rw[l30] at this;exact this
  have KI':=kj (I,oI) (aWq β 15 oI) (ads++[I]) (fun j a b=>aDg (by omega)) rfl (fun j hj=>if_neg (by omega)) ⟨i1,(show (if 15=15 then oI else β.o 15)=oI from if_pos rfl)⟩
  have:=aU0 (G:=G.wβ (aWq β 15 oI)) (W:=⟨ads++[I],objs++[oI],_,h,tk⟩) (IT:=(I,oI)) (Q:=Q) (t:=((k+1:Nat):Int)) (lim:=k+1) H hcf h17 (by omega) hbg hs (by omega) ⟨st,cy,re,g,n,nw,nk,S [],KI',hc,hr,hb,hw,hk⟩ fun β' W' hd=>Head.next (G:=G) (β:=β') (lim:=k+1) hn hd cont
  exact⟨this.h⟩
end
section
theorem bA4:∀ N:_root_.Fin 9,Builtin.Range.small 0 (N.val:Int) 1=true∧Builtin.Range.rangeSize 0 (N.val:Int) 1=(N.val:Int):=by decide
variable {K:Frag} {G:Gd (vwc 13 K)} {W:Wd}
theorem aW3(H:aAv K)(hcf:G.cf=cfL)(ok:Ok G)(hh:G.A.handled=none){bg s g n:Int}(hbg:aHw bg)(hs:0≤s∧s<2147483629)(S:∀ orc,Sat G W ⟨mQ bg,aCi 0 0 0 bg (.dv none 0 [] []) (known0 0) g s n (aAk 5 0),orc⟩)(hd:G.X.β.d 0=[])(hb:0≤n∧n≤50)
  {iter:PySem.Expr} {N:Nat} (hN:N≤8) {px pos:Pos} (hx:G.env.kindOf aIw=some .local) (hf:∀ x,foldedSetIterable iter G.env x=pure x)
  (hit:∀ Q':Value→Shared→Prop,(∀ r h tk t u v,Fr G.g G.L h W.m→News G.g G.L h W.l→IsRange h r 0 (N:Int) 1 t u v→Q' (.ref r) (stG G h tk))→WpS G.M G.A (eval iter G.env) Q' G.E (G.st W))
  {Q:Flow→Shared→Prop} (done:∀ h tk m,Fr G.g G.L h m→Q .next (stG G h tk)):WpS G.M G.A (exec (.For (.Name aIw px) iter aBf [] pos) G.env) Q G.E (G.st W):=by
 have hpo:G.cf.po=true:=by rw[hcf];rfl
 refine⟨For_invV G.g hx (by show (G.cf.cs.kind==.class||(G.cf.cs.kind==.module&&G.L != mainGlobals))=false;rw[ok.hk];rfl) (hit _ fun r h tk t u v F Nw hr=>?_).h hf (ok.own hpo).2⟩
 refine aBa (bA4 ⟨N,by lia⟩) fun sm sz=>?_
 refine wpAny_pyIter_range hr sm ?_
 have hI0:G.g.get? h.objs.size=none:=next_is_new F
 refine bNa h.objs.size [h.objs.size] [h.objs.size] N _ _ W.m W.l (LJ G bg s) ⟨rfl,(Walks.range hh h.objs.size 0 1 N).bound,?_,?_,?_,?_,F.push _,fun p hp=>⟨Heap.get?_push_of_some _ (Nw p hp).1,(Nw p hp).2⟩,?_,?_,fun h' tk' m' news' F' _ _ _=>done h' tk' m' F'⟩
 ·intro q;exact Nat.ne_of_lt F.ns.lt (List.mem_singleton.mp q)
 ·intro b q;rw[List.mem_singleton.mp q];exact hI0
 ·intro p hp q;exact Nat.ne_of_lt (Heap.lt_size (Nw p hp).1) (List.mem_singleton.mp q)
 ·show IsRangeIter _ _ _ _ _
  rw[show Builtin.Range.rangeSize 0 (N:Int) 1=(N:Int) from sz]
  simpa using Heap.get?_push_size _ rfl
 ·exact⟨G.X.β,W.ads,W.objs,rfl,hd,g,n,hb,(S []).rest⟩
 ·rintro i v m₁ news₁ s₁ own ⟨h₁,tk₁,rfl⟩ hi ⟨_,u1,rfl⟩ hJ hnw own1 own2 own3 st F₁ N₁
  obtain⟨oI,st'⟩:∃ oI,h₁.get? h.objs.size=some oI:=⟨_,st⟩
  have mI:=own3 h.objs.size (.head _) hI0 _ st'
  have e1:(0:Int)+(i:Int)*1=(i:Int):=by lia
  rw[e1] at F₁
  refine (aMj (Q:=LoopStepV G.g G.env.locals [h.objs.size] own (LJ G bg s (i+1)) (stG G h₁ tk₁) (fun v s'=>Q (.ret v) s') fun s'=>Q .next s') H hcf ok hh hbg hs (i:=i) (I:=h.objs.size) (oI:=oI) (h:=h₁) (by lia) hJ (fun p hp q=>hnw p hp (List.mem_singleton.mpr q)) F₁ (fun p hp=>?_) fun h' tk' m' news' F' N' off J'=>LoopStepV.next ⟨rfl,h',tk',m',news',rfl,F',fun p hp=>?_,fun p hp q=>off p hp (List.mem_singleton.mp q),J'⟩).h
  ·rcases List.mem_cons.mp hp with rfl|hp
   ·exact N₁ _ (List.mem_append_left _ mI)
   ·exact N₁ _ (List.mem_append_right _ hp)
  ·rcases List.mem_append.mp hp with hp|hp
   ·have g2:=own2 p hp
    have q:=List.mem_singleton.mp (own1 p hp)
    rw[q,st'] at g2
    obtain⟨p1,p2⟩:=p
    dsimp only at q g2
    subst q
    cases g2
    exact N' _ (.head _)
   ·exact N' _ (.tail _ hp)
end
noncomputable def bxA:Stmt:=.Assign [(.Tuple [(.Name aQ0 ⟨984,4,984,8⟩),(.Name aQz ⟨984,10,984,15⟩)] 0 ⟨984,4,984,15⟩)] (.Tuple [(.Constant (.int 29) 0 ⟨984,19,984,21⟩),(.Constant (.int 0) 0 ⟨984,23,984,24⟩)] 0 ⟨984,18,984,25⟩) ⟨984,4,984,25⟩
noncomputable def bxI:PySem.Expr:=(.Subscript (.Name aB4 ⟨985,16,985,22⟩) (.Slice none (some (.Constant (.int 24) 0 ⟨985,24,985,26⟩)) none ⟨985,23,985,26⟩) ⟨985,16,985,27⟩)
noncomputable def bx1:Stmt:=.Assign [(.Name aQ0 ⟨986,8,986,12⟩)] (.BinOp (.BinOp (.BinOp (.BinOp (.Name aQ0 ⟨986,16,986,20⟩) .Mult (.Constant (.int 48271) 0 ⟨986,23,986,28⟩) ⟨986,16,986,28⟩) .Add (.BinOp (.Name aMa ⟨986,31,986,35⟩) .Mult (.Constant (.int 69621) 0 ⟨986,38,986,43⟩) ⟨986,31,986,43⟩) ⟨986,16,986,43⟩) .Add (.Constant (.int 7) 0 ⟨986,46,986,47⟩) ⟨986,16,986,47⟩) .Mod (.Constant (.int 2147483629) 0 ⟨986,51,986,61⟩) ⟨986,15,986,61⟩) ⟨986,8,986,61⟩
noncomputable def bx2:Stmt:=.If (.BoolOp .And [(.Compare (.Name aQz ⟨987,11,987,16⟩) [.Eq] [(.Constant (.int 0) 0 ⟨987,20,987,21⟩)] ⟨987,11,987,21⟩),(.Compare (.Call (.Name aK9 ⟨987,26,987,29⟩) [(.Name aMa ⟨987,30,987,34⟩)] [] ⟨987,26,987,35⟩) [.GtE] [(.BinOp (.Constant (.int 10) 0 ⟨987,39,987,41⟩) .Pow (.Constant (.int 18) 0 ⟨987,45,987,47⟩) ⟨987,39,987,47⟩)] ⟨987,26,987,47⟩)] ⟨987,11,987,47⟩) [.Assign [(.Name aQz ⟨988,12,988,17⟩)] (.Call (.Name aK9 ⟨988,20,988,23⟩) [(.Name aMa ⟨988,24,988,28⟩)] [] ⟨988,20,988,29⟩) ⟨988,12,988,29⟩] [] ⟨987,8,988,29⟩
noncomputable def bxF:Stmt:=.For (.Name aMa ⟨985,8,985,12⟩) bxI [bx1,bx2] [] ⟨985,4,988,29⟩
noncomputable def bxR:Stmt:=.Return (some (.List [(.Name aQz ⟨989,12,989,17⟩),(.Name aQ0 ⟨989,19,989,23⟩),(.Constant (.int 0) 0 ⟨989,25,989,26⟩)] ⟨989,11,989,27⟩)) ⟨989,4,989,27⟩
noncomputable def bxS:Scope:=⟨.function,[(aB4,.local),(aQ0,.local),(aQz,.local),(aMa,.local),(aK9,.globalImplicit)],false,false,[]⟩
noncomputable def bxP:Arguments:=⟨[],[⟨aB4,none,⟨983,13,983,19⟩⟩],none,[],[],none,[]⟩
section
variable {prog:Program} {w:World} {A:Around} {E:Value→Shared→Prop} {s:Shared} {h₀:Heap} {L f:Addr} {m mg mb:Str→Option Value} {news:List (Addr×Obj)} {cn:Str} {ccd:Value} {K:Frag} {p:Program} {loose:List Str}
theorem bE5:bxS.names.lookup aB4=some .local:=by decide
theorem bN9:bxS.names.lookup aQ0=some .local:=by decide
theorem bN8:bxS.names.lookup aQz=some .local:=by decide
theorem bOa:bxS.names.lookup aMa=some .local:=by decide
theorem bOb:bxS.names.lookup aK9=some .globalImplicit:=by decide
theorem cAt:(envX cn bxS L f ccd []).kindOf aB4=some .local:=bE5
theorem bId:(envX cn bxS L f ccd []).kindOf aQ0=some .local:=bN9
theorem bIc:(envX cn bxS L f ccd []).kindOf aQz=some .local:=bN8
theorem bIe:(envX cn bxS L f ccd []).kindOf aMa=some .local:=bOa
theorem bRj:(envX cn bxS L f ccd []).kindOf aK9=some .globalImplicit:=bOb
structure BxM(m:Str→Option Value):Prop where
 r:∃ sd g t1 t2,m aQ0=some (.int sd t1)∧m aQz=some (.int g t2)∧0≤sd∧sd<2147483629∧0≤g
theorem bE8{Q:Flow→Shared→Prop}(F:Fr h₀ L s.heap m)(N:News h₀ L s.heap news)(hh:A.handled=none)
  (k:∀ h' tk m',Fr h₀ L h' m'→News h₀ L h' news→BxM m'→m' aB4=m aB4→Q .next { s with heap:=h',toks:=tk }):WpS (model prog w) A (exec bxA (envX cn bxS L f ccd [])) Q E s:=by
 refine⟨?_⟩
 unfold bxA
 with_reducible refine Assign_Tuple ?_ (by with_unfolding_all rfl) (by with_unfolding_all rfl)
 with_reducible refine Tuple_ ?_
 with_reducible refine aGc (ns:=[29,0]) (by with_unfolding_all rfl) ?_
 intro ws t1 aw
 refine aYv (All2.uncons (show Dens [] [.z 29,.z 0] ws from aw [])) fun v1 r r0_2 z0_3 aw1=>?_
 subst r0_2
 obtain⟨u1,rfl⟩:=z0_3
 refine aYv (All2.uncons aw1) fun v2 r r1_2 z1_3 aw2=>?_
 subst r1_2
 obtain⟨u2,rfl⟩:=z1_3
 cases aw2
 refine kup_newTuple (s:={ s with toks:=t1 }) F N ?_ (by rw[sizeLine_eq];show 2≤16777216;decide)
 intro D h1 F1 N1 lt1
 refine unpackN_ (s:={ s with heap:=h1,toks:=t1 }) F1 N1 (News.isTup N1 (.head _)) hh rfl rfl ?_
 intro h2 F2 N2
 refine assignInOrder_cons (wpAny_assign_Name ?_)
 refine storeX_L (s:={ s with heap:=h2,toks:=t1 }) F2 N2 ?_ rfl bId
 intro h3 F3 N3
 refine assignInOrder_cons (wpAny_assign_Name ?_)
 refine storeX_L (s:={ s with heap:=h3,toks:=_ }) F3 N3 ?_ rfl bIc
 intro h4 F4 N4
 refine assignInOrder_nil ?_
 refine k h4 _ _ F4 (fun p hp=>N4 p (.tail _ hp)) ⟨29,0,u1,u2,?_,if_pos rfl,by decide,by decide,by decide⟩ ?_
 ·exact (if_neg (by decide)).trans (if_pos rfl)
 ·exact (if_neg (by decide)).trans (if_neg (by decide))
theorem aY9{Q:Flow→Shared→Prop}{c:Int}{tc:Tok}(F:Fr h₀ L s.heap m)(N:News h₀ L s.heap news)(hm:BxM m)(hc:m aMa=some (.int c tc))
  (k:∀ h' tk m',Fr h₀ L h' m'→News h₀ L h' news→BxM m'→m' aMa=some (.int c tc)→Q .next { s with heap:=h',toks:=tk }):WpS (model prog w) A (exec bx1 (envX cn bxS L f ccd [])) Q E s:=by
 obtain⟨sd,g,t1,t2,m1,m2,b0,b1,b2⟩:=hm
 refine⟨?_⟩
 unfold bx1
 with_reducible refine wpAny_Assign_Name ?_ (nc (by with_unfolding_all rfl))
 with_reducible refine wpAny_BinOp ?_
 with_reducible refine wpAny_BinOp ?_
 with_reducible refine wpAny_BinOp ?_
 with_reducible refine wpAny_BinOp ?_
 refine nameX_L F m1 ?_ rfl bId (by decide)
 with_reducible refine wpAny_Constant_int ?_
 refine mul_int ?_ (IntMulOk.of_right (intBits_le_64 (by decide) (by decide)))
 with_reducible refine wpAny_BinOp ?_
 refine nameX_L F hc ?_ rfl bIe (by decide)
 with_reducible refine wpAny_Constant_int ?_
 refine mul_int ?_ (IntMulOk.of_right (intBits_le_64 (by decide) (by decide)))
 refine add_int ?_
 with_reducible refine wpAny_Constant_int ?_
 refine add_int ?_
 with_reducible refine wpAny_Constant_int ?_
 refine aRb (by decide) ?_
 refine storeX_L (s:={ s with toks:=_ }) F N ?_ rfl bId
 intro h' F' N'
 exact k h' _ _ F' N' ⟨_,g,_,t2,if_pos rfl,(if_neg (by decide)).trans m2,Int.emod_nonneg _ (by decide),Int.emod_lt_of_pos _ (by decide),b2⟩ ((if_neg (by decide)).trans hc)
theorem aSt{Q:Flow→Shared→Prop}{c:Int}{tc:Tok}(F:Fr h₀ L s.heap m)(N:News h₀ L s.heap news)(hm:BxM m)(hc:m aMa=some (.int c tc))(X:K.In h₀)(T:TopRead p loose mg mb h₀)(en:nsIn K mainGlobals aK9=some none)
  (k:∀ h' tk m',Fr h₀ L h' m'→News h₀ L h' news→BxM m'→Q .next { s with heap:=h',toks:=tk }):WpS (model prog w) A (exec bx2 (envX cn bxS L f ccd [])) Q E s:=by
 obtain⟨sd,g,t1,t2,m1,m2,b0,b1,b2⟩:=hm
 have hb:bootBuiltins aK9=some (.builtin "abs"):=aAa (by k_slotget)
 refine⟨?_⟩
 unfold bx2
 with_reducible refine wpAny_If ?_
 with_reducible refine isTrue_and ?_
 with_reducible refine wpAny_isTrue_Compare1 ?_ (by with_unfolding_all rfl)
 refine nameX_L F m2 ?_ rfl bIc (by decide)
 with_reducible refine wpAny_Constant_int ?_
 refine eq_int ?_
 refine wpAny_truthy_bool ?_
 by_cases e:g=0
 ·rw[if_pos (by simp[e])]
  with_reducible refine isTrue_and ?_
  with_reducible refine wpAny_isTrue_Compare1 ?_ (by with_unfolding_all rfl)
  refine Call_ ?_
  refine nameX_B (s:={ s with toks:=_ }) (v:=.builtin "abs") F X T en hb (by decide) ?_ rfl bRj (by decide)
  refine callWith_method1 (first:=[]) ?_ (aAb rfl) (aA7 (l:=[]) rfl).1
  refine args_cons ?_ (aAb rfl)
  refine nameX_L (s:={ s with toks:=_ }) F hc ?_ rfl bIe (by decide)
  refine args_nil ?_
  refine call_abs_int ?_
  intro u1 tk1
  with_reducible refine wpAny_BinOp ?_
  with_reducible refine wpAny_Constant_int ?_
  with_reducible refine wpAny_Constant_int ?_
  refine aNd (r:=1000000000000000000) (by decide) (by decide) (by decide) (by decide) ?_
  refine ge_int ?_
  refine wpAny_truthy_bool ?_
  by_cases e2:(1000000000000000000:Int)≤(if c<0 then -c else c)
  ·rw[if_pos (by simpa using e2)]
   refine isTrue_and_nil ?_
   rw[if_pos rfl]
   refine wpAny_execs_cons ?_
   with_reducible refine wpAny_Assign_Name ?_ (nc (by with_unfolding_all rfl))
   refine Call_ ?_
   refine nameX_B (s:={ s with toks:=_ }) (v:=.builtin "abs") F X T en hb (by decide) ?_ rfl bRj (by decide)
   refine callWith_method1 (first:=[]) ?_ (aAb rfl) (aA7 (l:=[]) rfl).1
   refine args_cons ?_ (aAb rfl)
   refine nameX_L (s:={ s with toks:=_ }) F hc ?_ rfl bIe (by decide)
   refine args_nil ?_
   refine call_abs_int ?_
   intro u2 tk2
   refine storeX_L (s:={ s with toks:=_ }) F N ?_ rfl bIc
   intro h' F' N'
   refine wpAny_execs_nil ?_
   exact k h' _ _ F' N' ⟨sd,_,t1,_,(if_neg (by decide)).trans m1,if_pos rfl,b0,b1,Int.le_trans (by decide) e2⟩
  ·rw[if_neg (by simpa using e2)]
   rw[if_neg (by decide)]
   refine wpAny_execs_nil ?_
   exact k s.heap _ _ F N ⟨sd,g,t1,t2,m1,m2,b0,b1,b2⟩
 ·rw[if_neg (by simp[e])]
  rw[if_neg (by decide)]
  refine wpAny_execs_nil ?_
  exact k s.heap _ _ F N ⟨sd,g,t1,t2,m1,m2,b0,b1,b2⟩
end
section
variable {prog:Program} {w:World} {A:Around} {E:Value→Shared→Prop} {s:Shared} {h₀:Heap} {L f:Addr} {m mg mb:Str→Option Value} {news:List (Addr×Obj)} {cn:Str} {ccd:Value} {K:Frag} {p:Program} {loose:List Str}
theorem aY8{Q:Flow→Shared→Prop}{c:Int}{tc:Tok}(F:Fr h₀ L s.heap m)(N:News h₀ L s.heap news)(hm:BxM m)(hc:m aMa=some (.int c tc))(X:K.In h₀)(T:TopRead p loose mg mb h₀)(en:nsIn K mainGlobals aK9=some none)
  (k:∀ h' tk m',Fr h₀ L h' m'→News h₀ L h' news→BxM m'→Q .next { s with heap:=h',toks:=tk }):WpS (model prog w) A (execs [bx1,bx2] (envX cn bxS L f ccd [])) Q E s :=
 WpS.cons (aY9 F N hm hc fun h' tk m' F' N' M' hc'=>WpS.cons (aSt (s:={ s with heap:=h',toks:=tk }) F' N' M' hc' X T en fun h2 tk2 m2 F2 N2 M2=>⟨wpAny_execs_nil (k h2 tk2 m2 F2 N2 M2)⟩))
theorem bE7{Q:Flow→Shared→Prop}{l:Addr}{vs:List Value}{ns:List Int}(F:Fr h₀ L s.heap m)(N:News h₀ L s.heap news)(hh:A.handled=none)(hm:BxM m)(hs:m aB4=some (.ref l))(hl:h₀.IsList l vs.toArray)(hi:IntsAre vs ns)(hlen:ns.length≤63)
  (X:K.In h₀) (T:TopRead p loose mg mb h₀) (en:nsIn K mainGlobals aK9=some none) (hE:PassesOwn (model prog w) A (envX cn bxS L f ccd []) E)
  (k:∀ h' tk m',Fr h₀ L h' m'→News h₀ L h' news→BxM m'→Q .next { s with heap:=h',toks:=tk }):WpS (model prog w) A (exec bxF (envX cn bxS L f ccd [])) Q E s:=by
 refine⟨?_⟩
 unfold bxF
 have hl':s.heap.IsList l vs.toArray:=hl.at fun o e=>F.keep l o e
 with_reducible refine For_invV h₀ bIe (by with_unfolding_all rfl) ?_ (by intro x;with_unfolding_all rfl) hE
 unfold bxI
 refine Subscript_ ?_
 refine nameX_L F hs ?_ rfl cAt (by decide)
 refine wpAny_Slice ?_
 refine evalPart_none_step ?_
 refine evalPart_some_step ?_
 refine wpAny_Constant_int ?_
 refine evalPart_none_step ?_
 refine slice_list (s:={ s with toks:=_ }) (lo:=none) (hi:=some 24) F N hl' .none (.int _ _) ?_ (by with_unfolding_all rfl) (by intro _;with_unfolding_all rfl) (by rw[sizeLine_eq];have:=hi.length;simp only[List.size_toArray];lia)
 intro h1 F1 N1
 have i1:=slice_ints_uptoW hi (y:=24) (by decide)
 generalize slicePick vs.toArray none (some 24) none=its at N1 i1
 have l1:h1.IsList (s.heap.objs.size+1) its:=by
  refine⟨_,(N1 _ (.head _)).1,rfl,_,rfl⟩
 refine wpAny_pyIter_list l1 ?_
 have hD:=N1 _ (.head _)
 have hDI:s.heap.objs.size+1≠h1.objs.size:=Nat.ne_of_lt (Heap.lt_size hD.1)
 have hI0:h₀.get? h1.objs.size=none:=next_is_new F1
 have NL:News h₀ L h1 news:=fun p hp=>N1 p (.tail _ hp)
 refine bNa h1.objs.size [h1.objs.size,s.heap.objs.size+1] [h1.objs.size] its.size _ _ m news (fun _ m₁ news₁=>news₁=news∧BxM m₁) ⟨rfl,Walks.list hh h1.objs.size (s.heap.objs.size+1) hDI its,?_,?_,?_,⟨⟨_,Heap.get?_push_size _ rfl,rfl,rfl⟩,l1.at fun o e=>Heap.get?_push_of_some _ e⟩,F1.push _,fun p hp=>⟨Heap.get?_push_of_some _ (NL p hp).1,(NL p hp).2⟩,⟨rfl,hm⟩,?_,?_⟩
 ·intro q
  rcases List.mem_cons.mp q with q|q
  ·exact Nat.ne_of_lt F1.ns.lt q
  ·exact hD.2.1 (List.mem_singleton.mp q).symm
 ·intro b q;rw[List.mem_singleton.mp q];exact hI0
 ·intro p hp q;exact Nat.ne_of_lt (Heap.lt_size (NL p hp).1) (List.mem_singleton.mp q)
 ·rintro i v m₁ news₁ s₁ own ⟨h2,tk2,rfl⟩ hi2 hP ⟨rfl,hJ⟩ hnw own1 own2 own3 st F₁ N₁
  obtain⟨c,_,u,rfl⟩:∃ c:Int,True∧∃ u,v=.int c u:=by
   have hv:its.toList[i]?=some v:=by simpa using (show its[i]?=some v from hP)
   refine aAd (i1.areOf.get i v hv) fun a _ z0_2=>?_
   obtain⟨u,e⟩:=z0_2
   exact⟨a,trivial,u,e⟩
  obtain⟨sd,g,t1,t2,e1,e2,b0,b1,b2⟩:=hJ
  refine (aY8 (s:={ s with heap:=h2,toks:=tk2 }) (c:=c) (tc:=u) F₁ N₁ ⟨sd,g,t1,t2,(if_neg (by decide)).trans e1,(if_neg (by decide)).trans e2,b0,b1,b2⟩ (if_pos rfl) X T en fun h' tk' m' F' N' M'=>?_).h
  exact LoopStepV.next ⟨rfl,h',tk',m',news₁,rfl,F',N',hnw,rfl,M'⟩
 ·rintro h' tk' m' news' F' N' _ ⟨rfl,M'⟩
  exact k h' tk' m' F' N' M'
theorem bE6{Q:Flow→Shared→Prop}(F:Fr h₀ L s.heap m)(N:News h₀ L s.heap news)(hm:BxM m)
  (k:∀ h' tk D g sd t1 t2 t3,Fr h₀ L h' m→News h₀ L h' ((D,listOf [.int g t1,.int sd t2,.int 0 t3].toArray 0)::news)→0≤sd→sd<2147483629→0≤g→Q (.ret (.ref D)) { s with heap:=h',toks:=tk }):WpS (model prog w) A (exec bxR (envX cn bxS L f ccd [])) Q E s:=by
 obtain⟨sd,g,t1,t2,m1,m2,b0,b1,b2⟩:=hm
 refine⟨?_⟩
 unfold bxR
 with_reducible refine wpAny_Return_some ?_
 with_reducible refine List_ ?_
 refine args_cons ?_ (aAb rfl)
 refine nameX_L F m2 ?_ rfl bIc (by decide)
 refine args_cons ?_ (aAb rfl)
 refine nameX_L F m1 ?_ rfl bId (by decide)
 refine args_cons ?_ (aAb rfl)
 refine wpAny_Constant_int ?_
 refine args_nil ?_
 refine newList_K (s:={ s with toks:=_ }) F N ?_ (by rw[sizeLine_eq];show 3≤16777216;decide)
 intro D h' F' N' lt
 exact k h' _ D g sd t2 t1 _ F' N' b0 b1 b2
theorem aZb{Q:Flow→Shared→Prop}{l:Addr}{vs:List Value}{ns:List Int}(F:Fr h₀ L s.heap m)(N:News h₀ L s.heap news)(hh:A.handled=none)(hs:m aB4=some (.ref l))(hl:h₀.IsList l vs.toArray)(hi:IntsAre vs ns)(hlen:ns.length≤63)
  (X:K.In h₀) (T:TopRead p loose mg mb h₀) (en:nsIn K mainGlobals aK9=some none) (hE:PassesOwn (model prog w) A (envX cn bxS L f ccd []) E)
  (k:∀ h' tk D g sd t1 t2 t3 m',Fr h₀ L h' m'→News h₀ L h' ((D,listOf [.int g t1,.int sd t2,.int 0 t3].toArray 0)::news)→0≤sd→sd<2147483629→0≤g→Q (.ret (.ref D)) { s with heap:=h',toks:=tk }) :
  WpS (model prog w) A (execs [bxA,bxF,bxR] (envX cn bxS L f ccd [])) Q E s :=
 WpS.cons (bE8 F N hh fun h1 tk1 m1 F1 N1 M1 e1=>WpS.cons (bE7 (s:={ s with heap:=h1,toks:=tk1 }) F1 N1 hh M1 (e1.trans hs) hl hi hlen X T en hE fun h2 tk2 m2 F2 N2 M2 =>
  WpS.cons (bE6 (s:={ s with heap:=h2,toks:=tk2 }) F2 N2 M2 fun h3 tk3 D g sd t1 t2 t3 F3 N3 b0 b1 b2=>k h3 tk3 D g sd t1 t2 t3 m2 F3 N3 b0 b1 b2)))
end
section
structure BxK(K:Frag):Prop where
 ob:K.lookup 2206=some ⟨.type "function",none,.func (fnX aE2 aE2 bxP [bxA,bxF,bxR] bxS [] .none .none .none (.str aLc 5834) none (.ref 2205) .none),#[]⟩
 cd:codeIn K (.ref 2205) aE2=true
 na:nsIn K mainGlobals aK9=some none
 nb:nsIn K mainGlobals aE2=some (some (.ref 2206))
 kp:keepIn K (.ref 2206)=true
variable {prog:Program} {w:World} {A A₀:Around} {s:Shared} {h₀ base:Heap} {L:Addr} {m mg mb:Str→Option Value} {news:List (Addr×Obj)} {K:Frag} {p:Program} {loose:List Str} {mean:ExcName→Option Value} {env:Env} {outer:List Env}
theorem aZa(k:BxK K)(B:Below A₀ base outer h₀)(F:Fr h₀ L s.heap m)(N:News h₀ L s.heap news)(T:Top p loose mean mg mb h₀)(X:K.In h₀)(hA:A.frames=some (env::outer))(hf:env.frame=some L)(hke:env.scope.kind=.function)(hroom:A.depth<recursionLimit)(hh:A.handled=none)
  {l:Addr} {vs:List Value} {ns:List Int} (hl:h₀.IsList l vs.toArray) (hi:IntsAre vs ns) (hlen:ns.length≤63) {R:Result→Shared→Prop}
  (kk:∀ h' tk D g sd t1 t2 t3,Fr h₀ L h' m→News h₀ L h' ((D,listOf [.int g t1,.int sd t2,.int 0 t3].toArray 0)::news)→0≤sd→sd<2147483629→0≤g→R (.ok (.ret (.ref D))) { s with heap:=h',toks:=tk }) :
  codeAny (model prog w) A (.call (.ref 2206) ⟨[.ref l],[]⟩) R s:=by
 refine callX_plain (binds:=[(aB4,.ref l)]) B F N (Top.nolimit T) hA hf hke (F.keep _ _ (X _ _ k.ob)) rfl (codeRec_of (X.keeps F.keep) k.cd) hroom (BindsTo.of_eq rfl) (fun y hy=>?_) ?_ (by decide) rfl rfl rfl
 ·rw[List.mem_singleton.mp hy];exact bE5
 ·intro g L' hp F0 F1 N1 B' st lt
  have hg:g.IsList l vs.toArray:=hl.at fun o e=>st l o e
  have T':=topRead_of (T.keeps st)
  have X':=X.keeps st
  have A':(A.deeper (envX aE2 bxS L' 2206 (.ref 2205) [])).handled=none:=hh
  have hE:PassesOwn (model prog w) (A.deeper (envX aE2 bxS L' 2206 (.ref 2205) [])) (envX aE2 bxS L' 2206 (.ref 2205) []) (fun e s'=>wpAny (model prog w) (A.deeper (envX aE2 bxS L' 2206 (.ref 2205) [])) (leaving (envX aE2 bxS L' 2206 (.ref 2205) []) e) (fun _ s''=>R (.error e) s'') (fun e' s''=>R (.error e') s'') s'):=PassesOwn.leaving
  generalize A.deeper (envX aE2 bxS L' 2206 (.ref 2205) [])=A1 at A' hE ⊢
  with_reducible refine WpS.to (Q:=fun f s'=>∃ v,f=.ret v∧LeaveK h₀ L m g R v s') ?_ ?_
  ·with_reducible refine aZb (s:={ s with heap:=hp,toks:=_ }) F1 N1 A' ?_ hg hi hlen X' T' k.na hE ?_
   ·show List.lookup aB4 [(aB4,Value.ref l)]=some (.ref l)
    rw[List.lookup_cons,beq_self_eq_true]
   ·intro h3 tk3 D g3 sd t1 t2 t3 m3 F3 N3 b0 b1 b2
    exact⟨_,rfl,leaveK_ F3 N3 fun F4 N4=>kk h3 tk3 D g3 sd t1 t2 t3 F4 N4 b0 b1 b2⟩
  ·rintro f s' ⟨v,rfl,q⟩
   exact q
end
noncomputable def lwP:Arguments:=⟨[],[⟨aB4,none,⟨1017,8,1017,14⟩⟩],none,[],[],none,[]⟩
noncomputable def lw0:Stmt:=.Assign [(.Name aG1 ⟨1018,4,1018,7⟩)] (.Call (.Name aE2 ⟨1018,10,1018,18⟩) [(.Name aB4 ⟨1018,19,1018,25⟩)] [] ⟨1018,10,1018,26⟩) ⟨1018,4,1018,26⟩
noncomputable def lwI:PySem.Expr:=.Call (.Name aVn ⟨1022,16,1022,21⟩) [(.BinOp (.Constant (.int 2) 0 ⟨1022,22,1022,23⟩) .Add (.Call (.Name aVo ⟨1022,26,1022,29⟩) [(.Call (.Name aVp ⟨1022,30,1022,33⟩) [(.Name aB4 ⟨1022,34,1022,40⟩)] [] ⟨1022,30,1022,41⟩),(.Constant (.int 6) 0 ⟨1022,43,1022,44⟩)] [] ⟨1022,26,1022,45⟩) ⟨1022,22,1022,45⟩)] [] ⟨1022,16,1022,46⟩
noncomputable def lwF:Stmt:=.For (.Name aIw ⟨1022,8,1022,12⟩) lwI aBf [] ⟨1022,4,1051,28⟩
noncomputable def lwR:Stmt:=.Return (some (.Constant (.bool true) 0 ⟨1052,11,1052,15⟩)) ⟨1052,4,1052,15⟩
theorem bDz:aRl=lw0::((aRl.drop 1).take 3++[lwF,lwR]):=aAa (by k_slotget)
theorem aRe:aB2.names.lookup aB4=some .local:=aAa (by k_slotget)
theorem bMs:aB2.names.lookup aG1=some .local:=aAa (by k_slotget)
theorem bMm:aB2.names.lookup aIw=some .local:=aAa (by k_slotget)
theorem bMl:aB2.names.lookup aE2=some .globalImplicit:=aAa (by k_slotget)
theorem bMn:aB2.names.lookup aVn=some .globalImplicit:=aAa (by k_slotget)
theorem bMo:aB2.names.lookup aVo=some .globalImplicit:=aAa (by k_slotget)
theorem bMp:aB2.names.lookup aVp=some .globalImplicit:=aAa (by k_slotget)
theorem aQc:aB2.kind=.function:=aAa (by k_slotget)
theorem bMr:aB2.isCoroutine=false:=aAa (by k_slotget)
theorem bMq:aB2.isGenerator=false:=aAa (by k_slotget)
theorem bDx:Nat.ble 20 aB2.names.length=true:=aAa (by k_slotget)
theorem aKj(L:Nat):cellsFrom (L+1) aB2.names []=[(aAu,L+1)]:=aAa (by k_slotget)
theorem aOd:cellsFrom 0 aB2.names []=[(aAu,0)]:=aAa (by k_slotget)
structure LwK(K:Frag):Prop where
 ob:K.lookup 2237=some ⟨.type "function",none,.func (fnOf aCr aCr lwP aRl aB2 .none .none .none (.str aLc 5834) none (.ref 2236) .none),#[]⟩
 cd:codeIn K (.ref 2236) aCr=true
 nr:nsIn K mainGlobals aVn=some none
 nm:nsIn K mainGlobals aVo=some none
 nl:nsIn K mainGlobals aVp=some none
section
variable {prog:Program} {w:World} {A:Around} {E:Value→Shared→Prop} {s:Shared} {h₀:Heap} {L f:Addr} {m mg mb:Str→Option Value} {news:List (Addr×Obj)} {cn:Str} {ccd:Value} {K:Frag} {p:Program} {loose:List Str} {cl:List (Str×Addr)}
theorem bQo:(envX cn aB2 L f ccd cl).kindOf aB4=some .local:=aRe
theorem bZd:(envX cn aB2 L f ccd cl).kindOf aG1=some .local:=bMs
theorem bY9:(envX cn aB2 L f ccd cl).kindOf aE2=some .globalImplicit:=bMl
theorem bZa:(envX cn aB2 L f ccd cl).kindOf aVn=some .globalImplicit:=bMn
theorem bZb:(envX cn aB2 L f ccd cl).kindOf aVo=some .globalImplicit:=bMo
theorem bZc:(envX cn aB2 L f ccd cl).kindOf aVp=some .globalImplicit:=bMp
theorem bDy(kk:LwK K){Q:Value→Shared→Prop}{l:Addr}{vs:List Value}{ns:List Int}(F:Fr h₀ L s.heap m)(N:News h₀ L s.heap news)(hh:A.handled=none)(hs:m aB4=some (.ref l))(hl:h₀.IsList l vs.toArray)(hi:IntsAre vs ns)(hlen:ns.length≤63)(X:K.In h₀)(T:TopRead p loose mg mb h₀)
  (k:∀ r h tk t u v,Fr h₀ L h m→News h₀ L h news→IsRange h r 0 ((2+min ns.length 6:Nat):Int) 1 t u v→Q (.ref r) { s with heap:=h,toks:=tk }):WpS (model prog w) A (eval lwI (envX cn aB2 L f ccd cl)) Q E s:=by
 have br:bootBuiltins aVn=some (.type "range"):=aAa (by k_slotget)
 have bm:bootBuiltins aVo=some (.builtin "min"):=aAa (by k_slotget)
 have bl:bootBuiltins aVp=some (.builtin "len"):=aAa (by k_slotget)
 have hl':s.heap.IsList l vs.toArray:=hl.at fun o e=>F.keep l o e
 refine⟨?_⟩
 unfold lwI
 refine Call_ ?_
 refine nameX_B (v:=.type "range") F X T kk.nr br (by decide) ?_ aQc bZa (by decide)
 refine PyProof.Rows.callWith_type1 ?_ (aAb rfl) (aA7 (l:=[]) rfl).1
 refine args_cons ?_ (aAb rfl)
 with_reducible refine wpAny_BinOp ?_
 refine wpAny_Constant_int ?_
 refine Call_ ?_
 refine nameX_B (s:={ s with toks:=_ }) (v:=.builtin "min") F X T kk.nm bm (by decide) ?_ aQc bZb (by decide)
 refine callWith_method1 (first:=[]) ?_ (aAb rfl) (aA7 (l:=[_]) rfl).1
 refine args_cons ?_ (aAb rfl)
 refine Call_ ?_
 refine nameX_B (s:={ s with toks:=_ }) (v:=.builtin "len") F X T kk.nl bl (by decide) ?_ aQc bZc (by decide)
 refine callWith_method1 (first:=[]) ?_ (aAb rfl) (aA7 (l:=[]) rfl).1
 refine args_cons ?_ (aAb rfl)
 refine nameX_L (s:={ s with toks:=_ }) F hs ?_ aQc bQo (by decide)
 refine args_nil ?_
 refine len_ints_fit (s:={ s with toks:=_ }) hl' hi (by lia) ?_
 refine args_cons ?_ (aAb rfl)
 refine wpAny_Constant_int ?_
 refine args_nil ?_
 refine bDv (s:={ s with toks:=_ }) F N hh (bDw (x:=(ns.length:Int)) (y:=6)) ?_
 intro h1 t1 tk1 F1 N1
 refine add_int ?_
 refine args_nil ?_
 refine call_range_1 ?_
 have e:(2:Int)+aHm (ns.length:Int) 6=((2+min ns.length 6:Nat):Int):=by unfold aHm;split<;>lia
 rw[e]
 exact k _ _ _ _ _ _ (F1.push _) (N1.grown fun _ _ q=>Heap.get?_push_of_some _ q) (IsRange.new _ _ _ _ _ _ _)
end
section
set_option tactic.hygienic true
theorem bY6{ads:List Addr}{m:Str→Option Value}{bg:Int}{v:Value}(h:MD ads (mS bg v) m):MD ads (mQ bg) m:=fun x y e=>by
 refine h x y ?_
 unfold mQ at e
 unfold mS
 rw[aAr] at e ⊢
 split at e
 ·rename_i q;rw[if_pos q];exact e
 ·rename_i q;rw[if_neg q]
  rw[aAr] at e ⊢
  split at e
  ·rename_i q;rw[if_pos q];exact e
  ·rename_i q;rw[if_neg q]
   rw[aAr] at e ⊢
   split at e
   ·rename_i q;rw[if_pos q];exact e
   ·cases e
theorem bY5{ads:List Addr}{m:Str→Option Value}{bg:Int}{v:Value}(h:MD ads (mS bg v) m):m aB4=some v:=by
 refine aAd (h aB4 (.k v) rfl) fun v' e d=>?_
 rw[e];exact congrArg some d
noncomputable def gL{K:Frag}(prog:Program)(w:World)(vo:VOk w.params (vwc 1 K))(p:Program)(loose:List Str)(mean:ExcName→Option Value)(mg mb:Str→Option Value)(s:Shared)(L:Addr)(E:Value→Shared→Prop):Gd (vwc 1 K) :=
 { X:=⟨prog,w,vo,p,loose,mean,mg,mb,⟨fun _=>[],fun _=>aN6⟩⟩,A:=callerA.deeper (envX aCr aB2 L 2237 (.ref 2236) [(aAu,L+1)]),cn:=aCr,L:=L,a:=2237,ccd:=.ref 2236,cl:=[(aAu,L+1)],outer:=[],A₀:=callerA,base:=s.heap,g:=s.heap,gens:=s.gens,drawn:=s.drawn,os:=s.os,cf:=cfL,E:=E }
variable {K:Frag} {prog:Program} {w:World} {vo:VOk w.params (vwc 1 K)} {p:Program} {loose:List Str} {mean:ExcName→Option Value} {mg mb:Str→Option Value} {s:Shared} {L:Addr} {E:Value→Shared→Prop}
theorem bM6(X:K.In s.heap)(T:Top p loose mean mg mb s.heap)(hE:PassesOwn (model prog w) (callerA.deeper (envX aCr aB2 L 2237 (.ref 2236) [(aAu,L+1)])) (envX aCr aB2 L 2237 (.ref 2236) [(aAu,L+1)]) E):Ok (gL prog w vo p loose mean mg mb s L E) where
 B:=below_caller s.heap
 K:=X
 T:=T
 KB:=X
 TB:=T
 D:=fun _ h=>nomatch h
 fr:=Around.frames_deeper rfl
 hk:=aQc
 dp:=by show 1+claimMargin+1+300<recursionLimit;decide
 un:=by show 4+3+8*300<cLine;decide
 tp:=fun _=>rfl
 own:=fun _=>⟨fun q=>absurd (bDx.symm.trans q) (fun z=>nomatch z),hE⟩
theorem aW2(H:aAv K)(kb:BxK K)(kl:LwK K)(vo:VOk w.params (vwc 1 K))(vo13:VOk w.params (vwc 13 K))(X:K.In s.heap)(T:Top p loose mean mg mb s.heap){l:Addr}{vs:List Value}{ns:List Int}(hli:s.heap.IsList l vs.toArray)(hi:IntsAre vs ns)(hlen:ns.length≤63)
  (hE:PassesOwn (model prog w) (callerA.deeper (envX aCr aB2 L 2237 (.ref 2236) [(aAu,L+1)])) (envX aCr aB2 L 2237 (.ref 2236) [(aAu,L+1)]) E)
  {h₁:Heap} {tk:Nat} {oc:Obj} {m0:Str→Option Value} (F:Fr s.heap L h₁ m0) (N:News s.heap L h₁ [(L+1,oc)]) (hoc:oc.data=.cell none) (hs:m0 aB4=some (.ref l)) {Q:Flow→Shared→Prop}
  (done:∀ h tk m,Fr s.heap L h m→Q (.ret (.bool true)) { s with heap:=h,toks:=tk }) :
  WpS (model prog w) (callerA.deeper (envX aCr aB2 L 2237 (.ref 2236) [(aAu,L+1)])) (execs aRl (envX aCr aB2 L 2237 (.ref 2236) [(aAu,L+1)])) Q E { s with heap:=h₁,toks:=tk }:=by
 have ok:=bM6 (vo:=vo) (E:=E) X T hE
 have hh:(callerA.deeper (envX aCr aB2 L 2237 (.ref 2236) [(aAu,L+1)])).handled=none:=rfl
 rw[bDz]
 refine WpS.cons ⟨?_⟩
 unfold lw0
 with_reducible refine wpAny_Assign_Name ?_ (nc (by with_unfolding_all rfl))
 refine Call_ ?_
 refine nameX_K (s:={ s with heap:=h₁,toks:=tk }) F X (topRead_of T) kb.nb ?_ aQc bY9 (by decide)
 refine callWith_K (s:={ s with heap:=h₁,toks:=tk }) X kb.kp (args_cons ?_ (aAb rfl)) (aAb rfl) rfl
 refine nameX_L (s:={ s with heap:=h₁,toks:=tk }) F hs ?_ aQc bQo (by decide)
 refine args_nil ⟨X.keeps F.keep,?_⟩
 refine wpAny_call ?_
 refine aZa (s:={ s with heap:=h₁,toks:=tk }) kb ok.B F N T X ok.fr rfl aQc (by show 1+claimMargin+1<recursionLimit;decide) hh hli hi hlen ?_
 intro h2 tk2 D g sd t1 t2 t3 F2 N2 b0 b1 b2
 refine storeX_L (s:={ s with heap:=h2,toks:=tk2 }) F2 N2 ?_ aQc bZd
 intro h3 F3 N3
 have nD:D≠L+1:=fun e=>by
  have a:=(N3 _ (.head _)).1
  have b:=(N3 _ (.tail _ (.head _))).1
  rw[e] at a
  have e2:listOf [.int g t1,.int sd t2,.int 0 t3].toArray 0=oc:=Option.some.inj (a.symm.trans b)
  rw[← e2] at hoc
  cases hoc
 have n1:aB4≠aG1:=by decide
 have M3:MD [D,L+1] [(aG1,.a 0),(aB4,.k (.ref l))] (fun y=>if y=aG1 then some (.ref D) else m0 y):=fun x y e=>by
  rw[aAr] at e
  split at e
  ·rename_i q;cases q;cases e;exact⟨_,if_pos rfl,D,rfl,rfl⟩
  ·rw[aAr] at e
   split at e
   ·rename_i q;cases q;cases e;exact⟨_,(if_neg n1).trans hs,rfl⟩
   ·cases e
 have S:∀ orc,Sat (gL prog w vo p loose mean mg mb s L E) ⟨[D,L+1],[listOf [.int g t1,.int sd t2,.int 0 t3].toArray 0,oc],fun y=>if y=aG1 then some (.ref D) else m0 y,h3,tk2+1⟩ ⟨[(aG1,.a 0),(aB4,.k (.ref l))],bOc g sd 0,orc⟩:=fun orc =>
  ⟨ok,F3,M3,N3,.cons ⟨_,.cons ⟨t1,rfl⟩ (.cons ⟨t2,rfl⟩ (.cons ⟨t3,rfl⟩ .nil)),rfl⟩ (.cons hoc .nil),rfl,by simp[nD],hh,fun _ x i e=>by
   have e0:=aAq (show (bif aB5 x aAu then some 1 else none)=some i from e)
   cases e0.2
   cases aCj e0.1
   exact⟨L+1,rfl,by rw[show (gL prog w vo p loose mean mg mb s L E).cl=[(aAu,L+1)] from rfl,List.lookup_cons,beq_self_eq_true]⟩⟩
 refine⟨aKq ?_⟩
 refine (aNc (G:=gL prog w vo p loose mean mg mb s L E) (Q:=fun f s'=>match f with
  | .next=>wpAny (model prog w) (callerA.deeper (envX aCr aB2 L 2237 (.ref 2236) [(aAu,L+1)])) (execs [lwF,lwR] (envX aCr aB2 L 2237 (.ref 2236) [(aAu,L+1)])) Q E s'
  |f=>Q f s') H vo13 rfl ⟨b0,b1⟩ rfl S fun β W' bg g' n' hbg n0 n1 hd S'=>?_).h
 have M':=(S' []).M
 have ok':=(S' []).ok
 refine (WpS.cons (aW3 (G:=(gL prog w vo p loose mean mg mb s L E).to13 vo13 β) H rfl ok' hh hbg ⟨b0,b1⟩ (fun orc=>(S' orc).mm (bY6 M')) hd ⟨n0,by omega⟩ (N:=2+min ns.length 6) (by omega) bMm (fun x=>rfl) (fun Q' hq=>?_) fun h tk m F=>?_)).h
 ·exact bDy (s:=⟨W'.h,s.gens,s.drawn,W'.t,s.os⟩) kl (S' []).F (S' []).N hh (bY5 M') hli hi hlen X (topRead_of T) fun r h tk t u v F N hr=>hq r h tk t u v F N hr
 ·exact WpS.cons ⟨wpAny_Return_some (Constant_bool (done h tk m F))⟩
end
noncomputable def kOf(T:BT):List Nat→Frag
 | []=>[]
 |a::r=>(match T.get a with
  |some o=>(a,o)::kOf T r
  |none=>kOf T r)
noncomputable def vK(P:Params):Frag:=kOf (T16 pw P) vKA
noncomputable def aY3(K:Frag):Bool:=bAz.all fun e=>e.2.all fun q=>decide (findIn K (.ref e.1) q.1=some q.2)
noncomputable def bNy(K:Frag):Bool:=vPG.all fun C=>decide (findIn K (.ref C) "__getattribute__"=some (some (.builtin "object.__getattribute__")))&&decide (findIn K (.ref C) "__getattr__"=some none)&&hasDictIn K C&&decide (findIn K (.ref C) "__setattr__"=some (some (.builtin "object.__setattr__")))&&plainOver K C
noncomputable def bNw(K:Frag):Bool:=vPX.all fun C=>decide (findIn K (.ref C) "__getattribute__"=some (some (.builtin "BaseException.__getattribute__")))&&decide (findIn K (.ref C) "__getattr__"=some none)&&aDo K C&&hasDictIn K C
noncomputable def bNx(K:Frag):Bool:=bAz.all fun e=>e.2.all fun q=>!(aIo e.1 vPG)||decide (takerIn K e.1 q.1=some none)
noncomputable def bNz(K:Frag):Bool:=vPF.all fun f=>match K.lookup f with
 |some ⟨_,_,.func fd,_⟩=>decide (fd.globals=mainGlobals)&&fd.closure.isEmpty&&decide (fd.builtins=builtinsNs)&&codeIn K fd.code fd.qualname&&!fd.scope.isCoroutine&&!fd.scope.isGenerator&&decide (fd.scope.kind=.function)&&(fd.scope.names.all fun x=>decide (x.2≠.cell))&&!(Nat.ble 20 fd.scope.names.length)
 |_=>true
noncomputable def bN5(K:Frag):Bool:=vCV.all fun e=>e.2.all fun q=>match typeIn K (.ref e.1) with
 |some mc=>(match findCls K (.ref e.1) mc q.1 with
  |some (.val a)=>decide (a=q.2)&&readsIn K e.1 mc&&handedIn a
  |_=>false)
 |none=>false
noncomputable def dOf:Obj→Option (List DictEntry×Nat)
 |⟨.type t,none,.dict es n,sl⟩=>if t=="dict"&&sl.isEmpty then some (es.toList,n) else none
 |_=>none
noncomputable def bN4(K:Frag):Bool:=vIV.all fun e=>e.2.all fun q=>match K.lookup e.1 with
 |some ⟨.ref C,some dx,.plain,_⟩=>(match (K.lookup dx).bind dOf with
  |some (es,_)=>decide (getL q.1 es=some (some q.2))&&decide (findIn K (.ref C) q.1=some none)&&plainGet K C q.1&&hasDictIn K C&&handedIn q.2
  |none=>false)
 |_=>false
noncomputable def bN2(K:Frag):Bool:=vMK.all fun e=>makesIn K e.1&&decide (findIn K (.ref e.1) "__init__"=some (some (.ref e.2)))&&isFn K (.ref e.2)
noncomputable def bN1(K:Frag):Bool:=vMT.all fun e=>e.2.all fun q=>plainGet K e.1 q.1&&decide (findIn K (.ref e.1) q.1=some (some (.ref q.2)))&&isFn K (.ref q.2)&&keepIn K (.ref q.2)
noncomputable def bN3(K:Frag):Bool:=vKP.all fun a=>keepIn K (.ref a)
noncomputable def bNu(K:Frag):Bool:=vVE.all fun C=>aJt K C&&ktsIn K C "ValueError"
noncomputable def bD8(K:Frag)(a:Addr):Bool:=match K.lookup a with
 |some o=>(dOf o).isSome
 |none=>false
noncomputable def aT7:Value→Bool
 | .str _ _=>true
 |_=>false
noncomputable def aSi(K:Frag)(a:Addr):List DictEntry:=match K.lookup a with
 |some o=>(match dOf o with
  |some (es,_)=>es
  |none=>[])
 |none=>[]
noncomputable def bIb(K:Frag):Bool:=vNS.all fun e=>(Nat.beq e.1 3||(!(Nat.beq e.1 1)&&bD8 K e.1&&(aSi K e.1).all fun d=>aT7 d.key))&&e.2.all fun q=>decide (nsIn K e.1 q.1=some q.2)
noncomputable def bEf(P:Params)(e:DictEntry):DictEntry:=match e.key with
 | .str x t=>⟨PyData.keyHash P x,.str x t,e.val⟩
 |k=>⟨e.hash,k,e.val⟩
noncomputable def ents(K:Frag):List (List DictEntry):=vNS.map fun e=>if Nat.beq e.1 3 then [] else aSi K e.1
noncomputable def bNt(K:Frag):Bool:=vXS.all fun e=>e.2.all fun q=>decide (findIn K (.ref e.1) "__setattr__"=some (some (.builtin "object.__setattr__")))&&aDo K e.1&&decide (takerIn K e.1 q.1=some none)&&hasDictIn K e.1
noncomputable def bN0(K:Frag):Bool:=bPi.all fun e=>aJt K e.1&&decide (findIn K (.ref e.1) "__init__"=some (some (.ref e.2)))&&decide (typeIn K (.ref e.2)=some (.type "function"))
noncomputable def bN6(K:Frag):Bool:=vCM.all fun e=>e.2.all fun q=>match typeIn K (.ref e.1) with
 |some mc=>(match findCls K (.ref e.1) mc q.1 with
  |some (.val a)=>decide (a=.ref q.2)&&readsIn K e.1 mc&&decide (specialIn K (.ref e.1) "__getattribute__"=some (some (.builtin "type.__getattribute__")))&&keepIn K (.ref q.2)
  |_=>false)
 |none=>false
noncomputable def bNv(K:Frag):Bool:=vTP.all fun e=>match K.lookup e.1 with
 |some ⟨.type t,none,.seq l n,_⟩=>t=="tuple"&&decide (l.toList=e.2)&&Nat.beq n 0
 |_=>false
theorem aNp(P:Params):bNt (vK P)=true:=aAa (by k_slotget)
theorem aNx(P:Params):bN0 (vK P)=true:=aAa (by k_slotget)
theorem aN4(P:Params):bN6 (vK P)=true:=aAa (by k_slotget)
theorem aNr(P:Params):bNv (vK P)=true:=aAa (by k_slotget)
theorem aN1(P:Params):((vK P).lookup 0).isSome=true:=aAa (by k_slotget)
theorem aHh(P:Params):aY3 (vK P)=true:=aAa (by k_slotget)
theorem aLh(P:Params):bNy (vK P)=true:=aAa (by k_slotget)
theorem aNt(P:Params):bNw (vK P)=true:=aAa (by k_slotget)
theorem aNu(P:Params):bNx (vK P)=true:=aAa (by k_slotget)
theorem aNv(P:Params):bNz (vK P)=true:=aAa (by k_slotget)
theorem aN3(P:Params):bN5 (vK P)=true:=aAa (by k_slotget)
theorem aN2(P:Params):bN4 (vK P)=true:=aAa (by k_slotget)
theorem aNz(P:Params):bN2 (vK P)=true:=aAa (by k_slotget)
theorem aNy(P:Params):bN1 (vK P)=true:=aAa (by k_slotget)
theorem aN0(P:Params):bN3 (vK P)=true:=aAa (by k_slotget)
theorem aNq(P:Params):bNu (vK P)=true:=aAa (by k_slotget)
theorem aNw(P:Params):bIb (vK P)=true:=aAa (by k_slotget)
theorem aEg(P:Params):ents (vK P)=(ents (vK P)).map (·.map (bEf P)):=aAa (by k_slotget)
theorem bYy(P:Params):(vO pw).map (fun p=>(vK P).lookup p.1)=(vO pw).map (fun p=>some p.2):=aAa (by k_slotget)
theorem aNs(P:Params):((vK P).lookup sysModules).isSome=true:=aAa (by k_slotget)
section
set_option tactic.hygienic true
theorem aI5{β:Type}{t:List (Nat×β)}{P:Nat→β→Bool}(h:t.all (fun e=>P e.1 e.2)=true){a:Nat}{r:β}(e:lkN a t=some r):P a r=true:=by
 rw[aHn] at e
 exact List.all_eq_true.mp h _ (mem_of_lookup e)
theorem aUn{o:Obj}{es:List DictEntry}{n:Nat}(h:dOf o=some (es,n)):o=⟨.type "dict",none,.dict es.toArray n,#[]⟩:=by
 unfold dOf at h
 split at h
 ·rename_i t a n' sl
  split at h
  ·rename_i hc
   rw[Bool.and_eq_true,beq_iff_eq,Array.isEmpty_iff] at hc
   obtain⟨rfl,rfl⟩:=hc
   cases h
   simp
  ·cases h
 ·cases h
theorem aOi{P:Params}:∀ {l:List DictEntry},l=l.map (bEf P)→l.all (fun d=>aT7 d.key)=true→KeysLit P l
 | [],_,_=>trivial
 |e::r,h,k=>by
  rw[List.map_cons,List.cons.injEq] at h
  rw[List.all_cons,Bool.and_eq_true] at k
  refine⟨?_,aOi h.2 k.2⟩
  obtain⟨hs,ky,v⟩:=e
  cases ky with
  |str x t =>
   have:=h.1
   unfold bEf at this
   dsimp only at this
   injection this with h1 h2 h3
   exact⟨x,t,rfl,h1⟩
  |_=>cases k.1
theorem bAw(ci:Nat)(P:Params)(K:Frag)(aHh:aY3 K=true)(aLh:bNy K=true)(aNt:bNw K=true)(aNu:bNx K=true)(aNv:bNz K=true)(aN3:bN5 K=true)(aN2:bN4 K=true)(aNz:bN2 K=true)(aNy:bN1 K=true)(aN0:bN3 K=true)(aNq:bNu K=true)(aNw:bIb K=true)(aNp:bNt K=true)(aNx:bN0 K=true)(aN4:bN6 K=true)(aNr:bNv K=true)(aN1:(K.lookup 0).isSome=true)(aEg:ents K=(ents K).map (·.map (bEf P)))(O:Frag)(hO:O.map (fun p=>K.lookup p.1)=O.map (fun p=>some p.2))(aNs:(K.lookup sysModules).isSome=true):VOk P { vwc ci K with O:=O } where
 O:=fun {a o} h=>by
  obtain⟨i,hi⟩:=List.getElem?_of_mem (mem_of_lookup h)
  have:=congrArg (fun l=>l[i]?) hO
  simp only[List.getElem?_map] at this
  rw[show O[i]?=some (a,o) from hi] at this
  exact Option.some.inj this
 iv:=fun {x n v} h=>by
  have:=aBz (P:=fun a x r=>match K.lookup a with
   |some ⟨.ref C,some dx,.plain,_⟩=>(match (K.lookup dx).bind dOf with
    |some (es,_)=>decide (getL x es=some (some r))&&decide (findIn K (.ref C) x=some none)&&plainGet K C x&&hasDictIn K C&&handedIn r
    |none=>false)
   |_=>false) aN2 h
  split at this
  ·rename_i C dx sl hx
   split at this
   ·rename_i es k hd
    obtain⟨od,h1,h2⟩:=Option.bind_eq_some_iff.mp hd
    simp only[Bool.and_eq_true,decide_eq_true_eq] at this
    exact⟨C,dx,sl,es,k,hx,by rw[aUn h2] at h1;exact h1,this.1.1.1.1,this.1.1.1.2,this.1.1.2,this.1.2,this.2⟩
   ·cases this
  ·cases this
 sm:=by
  have h:=aNs
  cases q:K.lookup sysModules with
  |none=>rw[q] at h;cases h
  |some o=>exact⟨o,q⟩
 ns:=fun {a x r} h=>by
  have h0:=aNw
  unfold bIb at h0
  have h1:vNS.all (fun e=>e.2.all fun q=>decide (nsIn K e.1 q.1=some q.2))=true:=by
   rw[List.all_eq_true] at h0 ⊢
   intro e he
   have:=h0 e he
   rw[Bool.and_eq_true] at this
   exact this.2
  have t:decide (nsIn K a x=some r)=true:=aBz (P:=fun a x r=>decide (nsIn K a x=some r)) h1 h
  rw[decide_eq_true_eq] at t
  refine⟨t,?_⟩
  have h:aJv vNS a x=some r:=h
  unfold aJv at h
  split at h
  ·rename_i l hl
   rw[aHn] at hl
   obtain⟨i,hi⟩:=List.getElem?_of_mem (mem_of_lookup hl)
   have hm:=List.all_eq_true.mp h0 _ (mem_of_lookup hl)
   rw[Bool.and_eq_true,Bool.or_eq_true] at hm
   rcases hm.1 with hm|hm
   ·exact .inl (Nat.eq_of_beq_eq_true hm)
   ·rw[Bool.and_eq_true,Bool.and_eq_true,Bool.not_eq_true'] at hm
    obtain⟨⟨k1,k2⟩,k3⟩:=hm
    by_cases e3:a=3
    ·exact .inl e3
    refine .inr ⟨Nat.ne_of_beq_eq_false k1,?_⟩
    unfold bD8 at k2
    dsimp only at k2 k3
    split at k2
    ·rename_i o ho
     obtain⟨⟨es,n⟩,hd⟩:=Option.isSome_iff_exists.mp k2
     have hen:aSi K a=es:=by unfold aSi;rw[ho];dsimp only;rw[hd]
     rw[hen] at k3
     refine⟨es.toArray,n,by rw[aUn hd] at ho;exact ho,?_⟩
     have:=congrArg (fun l=>l[i]?) aEg
     unfold ents at this
     simp only[List.getElem?_map,hi,Option.map_some] at this
     rw[if_neg (by intro q;exact e3 (Nat.eq_of_beq_eq_true q))] at this
     rw[hen] at this
     exact aOi (Option.some.inj this) (by simpa using k3)
    ·cases k2
  ·cases h
 fin:=fun {C x r} h=>by
  have t:decide (findIn K (.ref C) x=some r)=true:=aBz (P:=fun a x r=>decide (findIn K (.ref a) x=some r)) aHh h
  rw[decide_eq_true_eq] at t
  exact t
 pg:=fun {C} h n=>by
  have:=List.all_eq_true.mp aLh _ (aCe h)
  simp only[Bool.and_eq_true,decide_eq_true_eq] at this
  refine⟨?_,this.1.1.2⟩
  unfold plainGet
  show (findIn K (.ref C) "__getattribute__"==_&&findIn K (.ref C) "__getattr__"==_)=true
  rw[this.1.1.1.1,this.1.1.1.2];simp
 px:=fun {C} h=>by
  have:=List.all_eq_true.mp aNt _ (aCe h)
  simp only[Bool.and_eq_true,decide_eq_true_eq] at this
  exact⟨this.1.1.1,this.1.1.2,this.1.2,this.2⟩
 ps:=fun {C x} h=>by
  have h:(aIo C vPG&&(aJv bAz C x).isSome)=true:=h
  rw[Bool.and_eq_true] at h
  obtain⟨r,hr⟩:=Option.isSome_iff_exists.mp h.2
  have:=List.all_eq_true.mp aLh _ (aCe h.1)
  simp only[Bool.and_eq_true,decide_eq_true_eq] at this
  have t:=aBz (P:=fun a x _=>!(aIo a vPG)||decide (takerIn K a x=some none)) aNu hr
  rw[h.1] at t
  have t:decide (takerIn K C x=some none)=true:=by simpa using t
  rw[decide_eq_true_eq] at t
  exact⟨this.1.2,this.2,t,this.1.1.2⟩
 pf:=fun {f} h {oc od sl fd} hf=>by
  have:=List.all_eq_true.mp aNv _ (aCe h)
  have hf:K.lookup f=_:=hf
  rw[hf] at this
  simp only[Bool.and_eq_true,decide_eq_true_eq,Bool.not_eq_true',List.isEmpty_iff,List.all_eq_true] at this
  obtain⟨⟨⟨⟨⟨⟨⟨⟨h1,h2⟩,h3⟩,h4⟩,h5⟩,h6⟩,h7⟩,h8⟩,h9⟩:=this
  exact⟨h1,h2,h3,h4,h5,h6,h7,h8,h9⟩
 cv:=fun {x n a} h=>by
  have:=aBz (P:=fun a x r=>match typeIn K (.ref a) with
   |some mc=>(match findCls K (.ref a) mc x with
    |some (.val b)=>decide (b=r)&&readsIn K a mc&&handedIn b
    |_=>false)
   |none=>false) aN3 h
  split at this
  ·rename_i mc hmc
   split at this
   ·rename_i b hb
    rw[Bool.and_eq_true,Bool.and_eq_true,decide_eq_true_eq] at this
    obtain⟨⟨rfl,h2⟩,h3⟩:=this
    exact⟨mc,hmc,hb,h2,h3⟩
   ·cases this
  ·cases this
 mkc:=fun {C f} h=>by
  have:=aI5 (P:=fun C f=>makesIn K C&&decide (findIn K (.ref C) "__init__"=some (some (.ref f)))&&isFn K (.ref f)) aNz h
  simp only[Bool.and_eq_true,decide_eq_true_eq] at this
  exact⟨this.1.1,this.1.2,this.2⟩
 mt:=fun {C n f} h=>by
  have:=aBz (P:=fun a x r=>plainGet K a x&&decide (findIn K (.ref a) x=some (some (.ref r)))&&isFn K (.ref r)&&keepIn K (.ref r)) aNy h
  simp only[Bool.and_eq_true,decide_eq_true_eq] at this
  exact⟨this.1.1.1,this.1.1.2,this.1.2,this.2⟩
 kp:=fun {a} h=>by
  have h0:vKP.all (fun a=>keepIn K (.ref a))=true:=aN0
  have:=List.all_eq_true.mp h0 a (aCe h)
  exact this
 ve:=fun {C} h=>by
  have h0:vVE.all (fun C=>aJt K C&&ktsIn K C "ValueError")=true:=aNq
  have:=List.all_eq_true.mp h0 C (aCe h)
  rw[Bool.and_eq_true] at this
  exact this
 k0:=by
  have h:=aN1
  cases q:K.lookup 0 with
  |none=>rw[q] at h;cases h
  |some o=>exact⟨o,q⟩
 xs:=fun {C x} h=>by
  have h:(aJv vXS C x).isSome=true:=h
  obtain⟨r,hr⟩:=Option.isSome_iff_exists.mp h
  have:=aBz (P:=fun a x _=>decide (findIn K (.ref a) "__setattr__"=some (some (.builtin "object.__setattr__")))&&aDo K a&&decide (takerIn K a x=some none)&&hasDictIn K a) aNp hr
  simp only[Bool.and_eq_true,decide_eq_true_eq] at this
  exact⟨this.1.1.1,this.1.1.2,this.1.2,this.2⟩
 mkx:=fun {C f} h=>by
  have:=aI5 (P:=fun C f=>aJt K C&&decide (findIn K (.ref C) "__init__"=some (some (.ref f)))&&decide (typeIn K (.ref f)=some (.type "function"))) aNx h
  simp only[Bool.and_eq_true,decide_eq_true_eq] at this
  exact⟨this.1.1,this.1.2,this.2⟩
 cm:=fun {x n f} h=>by
  have:=aBz (P:=fun a x r=>match typeIn K (.ref a) with
   |some mc=>(match findCls K (.ref a) mc x with
    |some (.val b)=>decide (b=.ref r)&&readsIn K a mc&&decide (specialIn K (.ref a) "__getattribute__"=some (some (.builtin "type.__getattribute__")))&&keepIn K (.ref r)
    |_=>false)
   |none=>false) aN4 h
  split at this
  ·rename_i mc hmc
   split at this
   ·rename_i b hb
    simp only[Bool.and_eq_true,decide_eq_true_eq] at this
    obtain⟨⟨⟨rfl,h2⟩,h3⟩,h4⟩:=this
    exact⟨mc,hmc,hb,h2,h3,h4⟩
   ·cases this
  ·cases this
 tp:=fun {a l} h=>by
  have:=aI5 (P:=fun a l=>match K.lookup a with
   |some ⟨.type t,none,.seq m n,_⟩=>t=="tuple"&&decide (m.toList=l)&&Nat.beq n 0
   |_=>false) aNr h
  split at this
  ·rename_i t m n sl hx
   simp only[Bool.and_eq_true,decide_eq_true_eq,beq_iff_eq] at this
   obtain⟨⟨rfl,rfl⟩,h3⟩:=this
   have:=Nat.eq_of_beq_eq_true h3
   subst this
   exact⟨sl,hx⟩
  ·cases this
theorem bAx(ci:Nat)(P:Params)(K:Frag)(aHh:aY3 K=true)(aLh:bNy K=true)(aNt:bNw K=true)(aNu:bNx K=true)(aNv:bNz K=true)(aN3:bN5 K=true)(aN2:bN4 K=true)(aNz:bN2 K=true)(aNy:bN1 K=true)(aN0:bN3 K=true)(aNq:bNu K=true)(aNw:bIb K=true)(aNp:bNt K=true)(aNx:bN0 K=true)(aN4:bN6 K=true)(aNr:bNv K=true)(aN1:(K.lookup 0).isSome=true)(aEg:ents K=(ents K).map (·.map (bEf P)))(hO:(vO pw).map (fun p=>K.lookup p.1)=(vO pw).map (fun p=>some p.2))(aNs:(K.lookup sysModules).isSome=true):VOk P (vwc ci K) :=
 bAw ci P K aHh aLh aNt aNu aNv aN3 aN2 aNz aNy aN0 aNq aNw aNp aNx aN4 aNr aN1 aEg (vO pw) hO aNs
theorem vok(ci:Nat)(P:Params):VOk P (vwc ci (vK P)):=bAx ci P (vK P) (aHh P) (aLh P) (aNt P) (aNu P) (aNv P) (aN3 P) (aN2 P) (aNz P) (aNy P) (aN0 P) (aNq P) (aNw P) (aNp P) (aNx P) (aN4 P) (aNr P) (aN1 P) (aEg P) (bYy P) (aNs P)
end
section
set_option tactic.hygienic true
theorem aI7{T:BT}{a:Nat}{o:Obj}:∀ {l:List Nat},(a,o)∈kOf T l→T.get a=some o
 | [],h=>nomatch h
 |b::r,h=>by
  unfold kOf at h
  split at h
  ·rename_i o' e
   rcases List.mem_cons.mp h with q|h
   ·cases q;exact e
   ·exact aI7 h
  ·exact aI7 h
noncomputable def okA(p:Nat×Obj):Bool:=Nat.blt p.1 2238&&(match p.2.data with
 | .freed=>false
 |_=>true)
theorem bD5{T:BT}{l:List Nat}{K:Frag}(hK:K=kOf T l)(h:K.all okA=true){H:Heap}(Y:∀ b o,(absHeap T 2238 aBn).get? b=some o→H.get? b=some o):K.In H:=fun a o e=>by
 have hm:=mem_of_lookup e
 have h1:=List.all_eq_true.mp h _ hm
 rw[hK] at hm
 obtain⟨q1,q2⟩:=aAc (show (Nat.blt a 2238&&(match o.data with
  | .freed=>false
  |_=>true))=true from h1)
 refine Y a o ((abs_get (Nat.le_of_ble_eq_true q1) (aI7 hm)).trans ?_)
 obtain⟨c,d,dt,sl⟩:=o
 cases dt<;>first|rfl|cases q2
theorem bLx(P:Params):(vK P).all okA=true:=aAa (by k_slotget)
theorem stk(P:Params):StK (vK P):=⟨aAa (by k_slotget),aAa (by k_slotget),aAa (by k_slotget)⟩
theorem bxk(P:Params):BxK (vK P):=⟨aAa (by k_slotget),aAa (by k_slotget),aAa (by k_slotget),aAa (by k_slotget),aAa (by k_slotget)⟩
theorem lwk(P:Params):LwK (vK P):=⟨aAa (by k_slotget),aAa (by k_slotget),aAa (by k_slotget),aAa (by k_slotget),aAa (by k_slotget)⟩
theorem lwn(P:Params):nsIn (vK P) mainGlobals aCr=some (some (.ref 2237)):=aAa (by k_slotget)
theorem aW1:(aQd pw).name=aCr:=aAa (by k_slotget)
theorem kin(w:World)(h:Heap)(Y:yP w h):(vK w.params).In h:=bD5 (T:=T16 pw w.params) (l:=vKA) rfl (bLx w.params) Y
section
variable {K:Frag} {prog:Program} {w:World} {p:Program} {loose:List Str} {mean:ExcName→Option Value} {mg mb:Str→Option Value} {s:Shared}
theorem aRf{v:Value}{k:Str→Option NameKind}(h:k aB4=some .local):bindL k [(aB4,v)] (fun _=>none) aB4=some v:=by
 show (if k aB4=some .local then (fun y=>if y=aB4 then some v else none) else fun _=>none) aB4=some v
 rw[if_pos h]
 exact if_pos rfl
theorem aRg{v:Value}{k:Str→Option NameKind}(h:k aB4=some .local):bindC k [(aB4,v)] (fun _=>none) aAu=none:=by
 show (if k aB4=some .local then (fun _=>none) else fun y=>if y=aB4 then some v else none) aAu=none
 rw[if_pos h]
theorem aXh(st:StK K)(kb:BxK K)(kl:LwK K)(vo:VOk w.params (vwc 1 K))(vo13:VOk w.params (vwc 13 K))(X:K.In s.heap)(T:Top p loose mean mg mb s.heap){l:Addr}{vs:List Value}{ns:List Int}(hli:s.heap.IsList l vs.toArray)(hi:IntsAre vs ns)(hlen:ns.length≤63){R:Result→Shared→Prop}
  (hR:∀ h tk,(∀ b o,s.heap.get? b=some o→h.get? b=some o)→R (.ok (.ret (.bool true))) { s with heap:=h,toks:=tk }):codeAny (model prog w) callerA (.call (.ref 2237) ⟨[.ref l],[]⟩) R s:=by
 refine aOg (binds:=[(aB4,.ref l)]) X (Top.nolimit T) kl.ob kl.cd (by decide) (BindsTo.of_eq rfl) ?_ ?_ ?_ bMr bMq aQc
 ·simp only[List.all_cons,List.all_nil,aRe];decide
 ·rw[aOd];simp
 ·intro L h₁ tk cells hL F N Y
  rw[aKj] at Y
  refine aAd (CellsAre.one Y) fun oc r1_1 hoc=>?_
  subst r1_1
  have hoc:oc.data=.cell none:=hoc.trans (congrArg Data.cell (aRg (k:=fun y=>aB2.names.lookup y) aRe))
  have hs:bindL (envOfC aCr aB2 L 2237 (.ref 2236)).kindOf [(aB4,Value.ref l)] (fun _=>none) aB4=some (.ref l):=aRf (k:=fun y=>aB2.names.lookup y) aRe
  generalize bindL (envOfC aCr aB2 L 2237 (.ref 2236)).kindOf [(aB4,Value.ref l)] (fun _=>none)=m0 at F hs
  have eE:envOfC aCr aB2 L 2237 (.ref 2236)=envX aCr aB2 L 2237 (.ref 2236) [(aAu,L+1)]:=by
   show envX aCr aB2 L 2237 (.ref 2236) (cellsFrom (L+1) aB2.names [])=_
   rw[aKj]
  rw[eE]
  have hE:PassesOwn (model prog w) (callerA.deeper (envX aCr aB2 L 2237 (.ref 2236) [(aAu,L+1)])) (envX aCr aB2 L 2237 (.ref 2236) [(aAu,L+1)]) (fun e s'=>wpAny (model prog w) (callerA.deeper (envX aCr aB2 L 2237 (.ref 2236) [(aAu,L+1)])) (leaving (envX aCr aB2 L 2237 (.ref 2236) [(aAu,L+1)]) e) (fun _ s''=>R (.error e) s'') (fun e' s''=>R (.error e') s'') s'):=PassesOwn.leaving
  have B:=aW2 (Q:=fun f s'=>f=.ret (.bool true)∧∃ h tk,s'={ s with heap:=h,toks:=tk }∧∀ b o,s.heap.get? b=some o→h.get? b=some o) (aVa st) kb kl vo vo13 X T hli hi hlen hE F N hoc hs (tk:=tk) fun h tk m F=>⟨rfl,h,tk,rfl,F.keep⟩
  with_reducible refine WpS.to B ?_
  rintro f s' ⟨rfl,h,tk,rfl,k⟩
  exact hR h tk k
end
theorem call:WalkO (qP pw) lo (XL (qP pw) []) yP PySem.Challenge.rw_nz0234_01.row.toRowW (aQd pw) [] fun f vs=>PySem.call f vs:=by
 intro w s₀ s₁ mg mb G Y fa o pm cd doc dV kV ho hd hcd hD hmg hg args vals as hpre hlay hrd hwl hlo
 have X:=kin w s₁.heap Y
 have e1:=mg_of X G.T.g (lwn w.params)
 rw[aW1,e1] at hmg
 cases hmg
 have T:=G.T
 clear hd hcd hD ho
 wrow_args hpre hlay hrd hwl hlo
 refine enter_call ?_
 rename_i hlen _
 refine aXh (stk w.params) (bxk w.params) (lwk w.params) (vok 1 w.params) (vok 13 w.params) X T (by assumption) (by assumption) (by omega) fun h tk k=>?_
 refine⟨.inl ⟨_,_,[],rfl,fun _=>rfl,ReadsW.bool true,?_,fun _=>⟨List.nodup_nil,fun _ hm=>(nomatch hm)⟩⟩,OldK.of_keep k,rfl,?_⟩
 ·wrow_post
 ·exact .of_eq hg
theorem cw_holds:PySem.Challenge.rw_nz0234_01.Holds:=of_walk call
end
end Mine
theorem PySem.Challenge.cw_nz0234_01_holds : PySem.Challenge.rw_nz0234_01.Holds :=
  Mine.cw_holds
