import PyProof.Rows.All
import Wide.FinOn
import OpenK.AllK
import Wide.All
import Lean
import PySem.Challenge.RW_nz0234_01
set_option Elab.async false
set_option maxRecDepth 100000
set_option maxHeartbeats 0
set_option linter.all false
set_option tactic.hygienic false
set_option genInjectivity false
set_option genSizeOf false
section
open PySem PySem.W PySem.Calls PyProof.Rows
namespace Mine
section
variable {P:Prop}
theorem aAa{α:Type}{a b:α}(h:(fun _:Option (Option α)=>some a) ((#[some b]:Array (Option α))[0]?)=some b):a=b:=Option.some.inj h
theorem aBa{A B:Prop}(h:A∧B)(k:A→B→P):P:=k h.1 h.2
theorem aIv{A B C:Prop}(h:A∧B∧C)(k:A→B→C→P):P:=aBa h.2 (k h.1)
theorem bF2{A B C D:Prop}(h:A∧B∧C∧D)(k:A→B→C→D→P):P:=aIv h.2 (k h.1)
theorem bC6{A B C D E:Prop}(h:A∧B∧C∧D∧E)(k:A→B→C→D→E→P):P:=bF2 h.2 (k h.1)
theorem bL7{A B C D E F:Prop}(h:A∧B∧C∧D∧E∧F)(k:A→B→C→D→E→F→P):P:=bC6 h.2 (k h.1)
theorem bF1{A B C D E F G:Prop}(h:A∧B∧C∧D∧E∧F∧G)(k:A→B→C→D→E→F→G→P):P:=bL7 h.2 (k h.1)
theorem bL6{A B C D E F G H:Prop}(h:A∧B∧C∧D∧E∧F∧G∧H)(k:A→B→C→D→E→F→G→H→P):P:=bF1 h.2 (k h.1)
theorem bZ5{A B C D E F G H I:Prop}(h:A∧B∧C∧D∧E∧F∧G∧H∧I)(k:A→B→C→D→E→F→G→H→I→P):P:=bL6 h.2 (k h.1)
theorem aA6{α:Type}{A:α→Prop}(h:∃ a,A a)(k:∀ a,A a→P):P:=h.elim k
theorem aAd{α:Type}{A B:α→Prop}(h:∃ a,A a∧B a)(k:∀ a,A a→B a→P):P:=h.elim fun a h=>aBa h (k a)
theorem aDp{α:Type}{A B C:α→Prop}(h:∃ a,A a∧B a∧C a)(k:∀ a,A a→B a→C a→P):P:=h.elim fun a h=>aIv h (k a)
theorem bZ4{α:Type}{A B C D:α→Prop}(h:∃ a,A a∧B a∧C a∧D a)(k:∀ a,A a→B a→C a→D a→P):P:=h.elim fun a h=>bF2 h (k a)
theorem bP9{α:Type}{A B C D E:α→Prop}(h:∃ a,A a∧B a∧C a∧D a∧E a)(k:∀ a,A a→B a→C a→D a→E a→P):P:=h.elim fun a h=>bC6 h (k a)
theorem bL5{α:Type}{A B C D E F:α→Prop}(h:∃ a,A a∧B a∧C a∧D a∧E a∧F a)(k:∀ a,A a→B a→C a→D a→E a→F a→P):P:=h.elim fun a h=>bL7 h (k a)
theorem bZ3{α:Type}{A B C D E F G H:α→Prop}(h:∃ a,A a∧B a∧C a∧D a∧E a∧F a∧G a∧H a)(k:∀ a,A a→B a→C a→D a→E a→F a→G a→H a→P):P:=h.elim fun a h=>bL6 h (k a)
theorem aZi{α β:Type}{A:α→β→Prop}(h:∃ a b,A a b)(k:∀ a b,A a b→P):P:=h.elim fun a h=>aA6 h (k a)
theorem aGf{α β:Type}{A B:α→β→Prop}(h:∃ a b,A a b∧B a b)(k:∀ a b,A a b→B a b→P):P:=h.elim fun a h=>aAd h (k a)
theorem aXt{α β:Type}{A B C:α→β→Prop}(h:∃ a b,A a b∧B a b∧C a b)(k:∀ a b,A a b→B a b→C a b→P):P:=h.elim fun a h=>aDp h (k a)
theorem bF0{α β:Type}{A B C D:α→β→Prop}(h:∃ a b,A a b∧B a b∧C a b∧D a b)(k:∀ a b,A a b→B a b→C a b→D a b→P):P:=h.elim fun a h=>bZ4 h (k a)
theorem aOw{α β:Type}{A B C D E:α→β→Prop}(h:∃ a b,A a b∧B a b∧C a b∧D a b∧E a b)(k:∀ a b,A a b→B a b→C a b→D a b→E a b→P):P:=h.elim fun a h=>bP9 h (k a)
theorem bZz{α β:Type}{A B C D E F:α→β→Prop}(h:∃ a b,A a b∧B a b∧C a b∧D a b∧E a b∧F a b)(k:∀ a b,A a b→B a b→C a b→D a b→E a b→F a b→P):P:=h.elim fun a h=>bL5 h (k a)
theorem bZy{α β γ:Type}{A:α→β→γ→Prop}(h:∃ a b c,A a b c)(k:∀ a b c,A a b c→P):P:=h.elim fun a h=>aZi h (k a)
theorem aZh{α β γ:Type}{A B:α→β→γ→Prop}(h:∃ a b c,A a b c∧B a b c)(k:∀ a b c,A a b c→B a b c→P):P:=h.elim fun a h=>aGf h (k a)
theorem aRs{α β γ:Type}{A B C:α→β→γ→Prop}(h:∃ a b c,A a b c∧B a b c∧C a b c)(k:∀ a b c,A a b c→B a b c→C a b c→P):P:=h.elim fun a h=>aXt h (k a)
theorem bL4{α β γ:Type}{A B C D:α→β→γ→Prop}(h:∃ a b c,A a b c∧B a b c∧C a b c∧D a b c)(k:∀ a b c,A a b c→B a b c→C a b c→D a b c→P):P:=h.elim fun a h=>bF0 h (k a)
theorem aFp{α β γ:Type}{A B C D E:α→β→γ→Prop}(h:∃ a b c,A a b c∧B a b c∧C a b c∧D a b c∧E a b c)(k:∀ a b c,A a b c→B a b c→C a b c→D a b c→E a b c→P):P:=h.elim fun a h=>aOw h (k a)
theorem bFz{α β γ:Type}{A B C D E F:α→β→γ→Prop}(h:∃ a b c,A a b c∧B a b c∧C a b c∧D a b c∧E a b c∧F a b c)(k:∀ a b c,A a b c→B a b c→C a b c→D a b c→E a b c→F a b c→P):P:=h.elim fun a h=>bZz h (k a)
theorem bZx{α β γ δ:Type}{A:α→β→γ→δ→Prop}(h:∃ a b c d,A a b c d)(k:∀ a b c d,A a b c d→P):P:=h.elim fun a h=>bZy h (k a)
theorem bZw{α β γ δ:Type}{A B:α→β→γ→δ→Prop}(h:∃ a b c d,A a b c d∧B a b c d)(k:∀ a b c d,A a b c d→B a b c d→P):P:=h.elim fun a h=>aZh h (k a)
theorem bL3{α β γ δ:Type}{A B C:α→β→γ→δ→Prop}(h:∃ a b c d,A a b c d∧B a b c d∧C a b c d)(k:∀ a b c d,A a b c d→B a b c d→C a b c d→P):P:=h.elim fun a h=>aRs h (k a)
theorem bZv{α β γ δ:Type}{A B C D:α→β→γ→δ→Prop}(h:∃ a b c d,A a b c d∧B a b c d∧C a b c d∧D a b c d)(k:∀ a b c d,A a b c d→B a b c d→C a b c d→D a b c d→P):P:=h.elim fun a h=>bL4 h (k a)
theorem bP8{α β γ δ:Type}{A B C D E:α→β→γ→δ→Prop}(h:∃ a b c d,A a b c d∧B a b c d∧C a b c d∧D a b c d∧E a b c d)(k:∀ a b c d,A a b c d→B a b c d→C a b c d→D a b c d→E a b c d→P):P:=h.elim fun a h=>aFp h (k a)
theorem bL2{α β γ δ ε:Type}{A:α→β→γ→δ→ε→Prop}(h:∃ a b c d e,A a b c d e)(k:∀ a b c d e,A a b c d e→P):P:=h.elim fun a h=>bZx h (k a)
theorem bZu{α β γ δ ε ζ:Type}{A:α→β→γ→δ→ε→ζ→Prop}(h:∃ a b c d e f,A a b c d e f)(k:∀ a b c d e f,A a b c d e f→P):P:=h.elim fun a h=>bL2 h (k a)
theorem bL1{α β γ δ ε ζ η:Type}{A:α→β→γ→δ→ε→ζ→η→Prop}(h:∃ a b c d e f g,A a b c d e f g)(k:∀ a b c d e f g,A a b c d e f g→P):P:=h.elim fun a h=>bZu h (k a)
theorem bPz{α β:Type}{R:α→β→Prop}(a:α)(b:β)(q:R a b):∃ a b,R a b:=⟨a,b,q⟩
theorem bZt{α β γ:Type}{R:α→β→γ→Prop}(a:α)(b:β)(c:γ)(q:R a b c):∃ a b c,R a b c:=⟨a,bPz b c q⟩
theorem bZs{α β γ δ:Type}{R:α→β→γ→δ→Prop}(a:α)(b:β)(c:γ)(d:δ)(q:R a b c d):∃ a b c d,R a b c d:=⟨a,bZt b c d q⟩
theorem bPy{α β γ δ ε:Type}{R:α→β→γ→δ→ε→Prop}(a:α)(b:β)(c:γ)(d:δ)(e:ε)(q:R a b c d e):∃ a b c d e,R a b c d e:=⟨a,bZs b c d e q⟩
theorem bZr{α β γ δ ε ζ:Type}{R:α→β→γ→δ→ε→ζ→Prop}(a:α)(b:β)(c:γ)(d:δ)(e:ε)(f:ζ)(q:R a b c d e f):∃ a b c d e f,R a b c d e f:=⟨a,bPy b c d e f q⟩
theorem bZq{α β γ δ ε ζ η:Type}{R:α→β→γ→δ→ε→ζ→η→Prop}(a:α)(b:β)(c:γ)(d:δ)(e:ε)(f:ζ)(g:η)(q:R a b c d e f g):∃ a b c d e f g,R a b c d e f g:=⟨a,bZr b c d e f g q⟩
theorem bZp{α β γ δ ε ζ η θ:Type}{R:α→β→γ→δ→ε→ζ→η→θ→Prop}(a:α)(b:β)(c:γ)(d:δ)(e:ε)(f:ζ)(g:η)(h:θ)(q:R a b c d e f g h):∃ a b c d e f g h,R a b c d e f g h:=⟨a,bZq b c d e f g h q⟩
theorem bLu{α β γ δ ε ζ η θ ι:Type}{R:α→β→γ→δ→ε→ζ→η→θ→ι→Prop}(a:α)(b:β)(c:γ)(d:δ)(e:ε)(f:ζ)(g:η)(h:θ)(i:ι)(q:R a b c d e f g h i):∃ a b c d e f g h i,R a b c d e f g h i:=⟨a,bZp b c d e f g h i q⟩
theorem bLv{α β γ δ ε ζ η θ ι κ:Type}{R:α→β→γ→δ→ε→ζ→η→θ→ι→κ→Prop}(a:α)(b:β)(c:γ)(d:δ)(e:ε)(f:ζ)(g:η)(h:θ)(i:ι)(j:κ)(q:R a b c d e f g h i j):∃ a b c d e f g h i j,R a b c d e f g h i j:=⟨a,bLu b c d e f g h i j q⟩
end
noncomputable def pR:Program:=(PySem.W.Fast.tw2368527892694137696 PySem.Challenge.rw_nz0234_01).prog
theorem bLg:PySem.W.Fast.tw8377067652309620493 pR=true:=aAa (by k_slotget)
theorem bLf:PySem.W.Fast.tw8326940854005059898 { strict:=!R.allR (PySem.W.Fast.tw5923862056798008813 pR.main.body) (PySem.W.Fast.tw3471404346716756564 PySem.W.Fast.tw17691160309236699985),foot:=none,bare:=R.filterR (PySem.W.Fast.tw13343964577679436407 pR pR.main.body) [⟨⟨[nat_lit 118,nat_lit 97,nat_lit 114,nat_lit 115]⟩⟩,⟨⟨[nat_lit 100,nat_lit 105,nat_lit 114]⟩⟩,⟨⟨[nat_lit 108,nat_lit 111,nat_lit 99,nat_lit 97,nat_lit 108,nat_lit 115]⟩⟩] } pR.main.body=true:=aAa (by k_slotget)
theorem bLe:PySem.W.Fast.tw17119622794617984870 pR pR.main.body (fun _ n=>PySem.W.Fast.tw17868728402115742887 n)=true:=aAa (by k_slotget)
theorem bLh:PySem.W.Fast.tw12908688711261696721 pR=true:=by
 delta PySem.W.Fast.tw12908688711261696721
 exact look_both (look_both (look_both (look_both (look_both (aAa (by k_slotget)) (aAa (by k_slotget))) bLg) (aAa (by k_slotget))) bLf) bLe
theorem bBh:PySem.W.Fast.tw2436336058641802641 (PySem.W.Fast.tw2368527892694137696 PySem.Challenge.rw_nz0234_01)=true:=by
 delta PySem.W.Fast.tw2436336058641802641
 iterate 13 refine look_both ?_ (by kernel_rfl)
 exact bLh
theorem bG2:PySem.W.Fast.tw17960256430627541270 (PySem.W.Fast.tw2368527892694137696 PySem.Challenge.rw_nz0234_01)=true:=by
 delta PySem.W.Fast.tw17960256430627541270
 iterate 2 refine look_both ?_ (aAa (by k_slotget))
 exact bBh
theorem aZz:PySem.W.Fast.tw9446332074065402090 PySem.Challenge.rw_nz0234_01=true:=by
 delta PySem.W.Fast.tw9446332074065402090
 iterate 18 refine look_both ?_ (aAa (by k_slotget))
 exact bG2
theorem said:PySem.Challenge.rw_nz0234_01.wellSaid=true:=(congrFun PySem.W.Fast.te9446332074065402090 PySem.Challenge.rw_nz0234_01).trans aZz
noncomputable def aDc:BT→List (Nat×Obj)→BT
 |T,[]=>T
 |T,p::l=>aDc (T.ins p.1 p.2) l
noncomputable def aCc:List (Nat×Obj)→List Nat
 | []=>[]
 |p::l=>p.1::aCc l
noncomputable def aAq:List (Nat×Obj)→List (Option Obj)
 | []=>[]
 |p::l=>some p.2::aAq l
noncomputable def gets(T:BT):List Nat→List (Option Obj)
 | []=>[]
 |a::l=>T.get a::gets T l
noncomputable def note(m:Nat)(cur:Sem Fin)(u:List Nat):List Nat:=match cur with
 | .update a _ _ _=>match Nat.blt a m with
  |true=>a::u
  |false=>u
 |_=>u
noncomputable def aYp(tb:String→Option Builtin)(p:Program)(w:World)(n₀:Nat)(ann:Option Value)(b m:Nat):Nat→SharedT→Thread→List Nat→Option (Flow×SharedT×Code×Pos×List Nat)
 | 0,_,_,_=>none
 |n+1,s,t,u=>match endAt b t with
  |some f=>some (f,s,t.code,t.pos,u)
  |none=>match stepOk n₀ ann t with
   |false=>none
   |true=>match stepT (denote tb) p w s t with
    |some (s',t')=>aYp tb p w n₀ ann b m n s' t' (note m t.cur u)
    |none=>none
noncomputable def isIn(a:Nat):List Nat→Bool
 | []=>false
 |x::l=>match Nat.beq x a with
  |true=>true
  |false=>isIn a l
noncomputable def allIn(l:List Nat):List Nat→Bool
 | []=>true
 |a::u=>match isIn a l with
  |true=>allIn l u
  |false=>false
noncomputable def upTo:Nat→Nat→List Nat→Bool
 |m,n,[]=>Nat.beq m n
 |m,n,a::l=>match Nat.beq a m with
  |true=>upTo (m+1) n l
  |false=>upTo m n l
noncomputable def aWx:Nat→List Nat→Bool
 |_,[]=>true
 |k,a::l=>match Nat.ble k a with
  |true=>aWx (a+1) l
  |false=>false
noncomputable def aK9:BT→List (Nat×Obj)→Bool
 |_,[]=>true
 |T,p::l=>match ((T.ins p.1 p.2).get p.1).isSome with
  |true=>aK9 (T.ins p.1 p.2) l
  |false=>false
noncomputable def aEd(T:BT)(m n:Nat)(D:List (Nat×Obj)):Bool:=match upTo m n (aCc D),aWx 0 (aCc D) with
 |true,true=>aK9 T D
 |_,_=>false
noncomputable abbrev Seen:=Option (Flow×Nat×Nat×Code×Pos×Bool×Array GenState×Drawn×OsState×List (Option Obj))
noncomputable def goU(tb:String→Option Builtin)(p:Program)(w:World)(n₀:Nat)(ann:Option Value)(b m:Nat):Nat→SharedT→Thread→List Nat→Option (SharedT×Thread×List Nat)
 | 0,s,t,u=>some (s,t,u)
 |n+1,s,t,u=>match endAt b t with
  |some _=>none
  |none=>match stepOk n₀ ann t with
   |false=>none
   |true=>match stepT (denote tb) p w s t with
    |some (s',t')=>goU tb p w n₀ ann b m n s' t' (note m t.cur u)
    |none=>none
noncomputable abbrev aE3:=Option (Nat×Nat×Bool×Array GenState×Drawn×OsState×List (Option Obj))
noncomputable def aJe(as:List Nat)(r:Option (SharedT×Thread×List Nat)):aE3:=match r with
 |none=>none
 |some (s,_,u)=>some (s.n,s.toks,allIn as u,s.gens,s.drawn,s.os,gets s.tree as)
noncomputable def aP1(r:Option (SharedT×Thread×List Nat)):Thread:=match r with
 |none=>⟨.unsupported "",.builtin "" {},⟨0,0,0,0⟩,[]⟩
 |some (_,t,_)=>t
theorem aJ8{a:Nat}:∀ {l:List Nat},isIn a l=true→a∈l
 | [],h=>by cases h
 |x::l,h=>by
  unfold isIn at h
  cases e:Nat.beq x a with
  |true=>exact List.mem_cons.mpr (.inl (Nat.eq_of_beq_eq_true e).symm)
  |false=>rw[e] at h;exact List.mem_cons_of_mem _ (aJ8 h)
theorem aHw{l:List Nat}:∀ {u:List Nat},allIn l u=true→∀ a∈u,a∈l
 | [],_,_,h=>by cases h
 |b::u,h,a,ha=>by
  unfold allIn at h
  cases e:isIn b l with
  |false=>rw[e] at h;cases h
  |true =>
   rw[e] at h
   rcases List.mem_cons.mp ha with rfl|ha
   ·exact aJ8 e
   ·exact aHw h a ha
theorem aFx:∀ {l:List Nat} {m n:Nat},upTo m n l=true→∀ a,m≤a→a<n→a∈l
 | [],m,n,h,a,h1,h2=>by have:=Nat.eq_of_beq_eq_true h;lia
 |b::l,m,n,h,a,h1,h2=>by
  unfold upTo at h
  cases e:Nat.beq b m with
  |true =>
   rw[e] at h
   have:=Nat.eq_of_beq_eq_true e
   by_cases q:a=b
   ·exact List.mem_cons.mpr (.inl q)
   ·exact List.mem_cons_of_mem _ (aFx h a (by lia) h2)
  |false=>rw[e] at h;exact List.mem_cons_of_mem _ (aFx h a h1 h2)
theorem aN4:∀ {l:List Nat} {k:Nat},aWx k l=true→∀ a∈l,k≤a
 | [],_,_,_,h=>by cases h
 |b::l,k,h,a,ha=>by
  unfold aWx at h
  cases e:Nat.ble k b with
  |false=>rw[e] at h;cases h
  |true =>
   rw[e] at h
   have:=Nat.le_of_ble_eq_true e
   rcases List.mem_cons.mp ha with rfl|ha
   ·exact this
   ·have:=aN4 h a ha;lia
theorem aDh:∀ {D:List (Nat×Obj)} {T:BT},aK9 T D=true→∀ a,a∉aCc D→(aDc T D).get a=T.get a
 | [],_,_,_,_=>rfl
 |p::l,T,h,a,ha=>by
  unfold aK9 at h
  cases e:((T.ins p.1 p.2).get p.1).isSome with
  |false=>rw[e] at h;cases h
  |true =>
   rw[e] at h
   have h1:a≠p.1:=fun q=>ha (List.mem_cons.mpr (.inl q))
   have h2:a∉aCc l:=fun q=>ha (List.mem_cons_of_mem _ q)
   show (aDc (T.ins p.1 p.2) l).get a=_
   rw[aDh h a h2,BT.get_ins _ _ _ e,if_neg h1]
theorem aHj:∀ {D:List (Nat×Obj)} {T:BT} {k:Nat},aK9 T D=true→aWx k (aCc D)=true→gets (aDc T D) (aCc D)=aAq D
 | [],_,_,_,_=>rfl
 |p::l,T,k,h,hi=>by
  unfold aK9 at h
  cases e:((T.ins p.1 p.2).get p.1).isSome with
  |false=>rw[e] at h;cases h
  |true =>
   rw[e] at h
   have hi':(match Nat.ble k p.1 with|true=>aWx (p.1+1) (aCc l)|false=>false)=true:=hi
   cases e2:Nat.ble k p.1 with
   |false=>rw[e2] at hi';cases hi'
   |true =>
    rw[e2] at hi'
    have n1:p.1∉aCc l:=fun q=>by have:=aN4 hi' _ q;lia
    show (aDc (T.ins p.1 p.2) l).get p.1::gets (aDc (T.ins p.1 p.2) l) (aCc l)=some p.2::aAq l
    rw[aDh h _ n1,BT.get_ins _ _ _ e,if_pos rfl,aHj h hi']
theorem aN6:∀ {l:List Nat} {T T':BT},gets T l=gets T' l→∀ a∈l,T.get a=T'.get a
 | [],_,_,_,_,h=>by cases h
 |b::l,T,T',h,a,ha=>by
  refine aBa (List.cons.inj h) fun h1 h2=>?_
  rcases List.mem_cons.mp ha with rfl|ha
  ·exact h1
  ·exact aN6 h2 a ha
theorem aI3{T T':BT}{n:Nat}{life:Life}(h:∀ a,a<n→T.get a=T'.get a):absHeap T n life=absHeap T' n life:=by
 unfold absHeap BT.list
 congr 2
 apply List.map_congr_left
 intro a ha
 rw[h a (List.mem_range.mp ha)]
theorem nnS{α:Type}{a:α}{P:Prop}(h:none=some a):P:=nomatch h
structure StepF(m:Nat)(u u':List Nat)(s s':SharedT):Prop where
 l:s'.life=s.life
 n:s.n≤s'.n
 u:∀ a∈u,a∈u'
 k:∀ a,a<m→a∉u'→s'.tree.get a=s.tree.get a
theorem StepF.same{m:Nat}{u:List Nat}{s s':SharedT}(h1:s'.life=s.life)(h2:s'.n=s.n)(h3:s'.tree=s.tree):StepF m u u s s':=⟨h1,Nat.le_of_eq h2.symm,fun _ h=>h,fun _ _ _=>by rw[h3]⟩
theorem StepF.upd{m n a:Nat}{u:List Nat}{T:BT}{f:Obj→Obj}{l l':Life}{g g':Array GenState}{d d':Drawn}{k k':Nat}{o o':OsState}(e:l'=l):StepF m u (match Nat.blt a m with|true=>a::u|false=>u) ⟨T,n,l,g,d,k,o⟩ ⟨T.set a f,n,l',g',d',k',o'⟩:=by
 refine⟨e,Nat.le_refl _,fun b hb=>?_,fun b hb hn=>?_⟩
 ·cases Nat.blt a m with
  |true=>exact List.mem_cons_of_mem _ hb
  |false=>exact hb
 ·show (T.set a f).get b=T.get b
  rw[BT.get_set]
  have:b≠a:=by
   rintro rfl
   rw[show Nat.blt b m=true from Nat.ble_eq_true_of_le hb] at hn
   exact hn (List.mem_cons.mpr (.inl rfl))
  rw[if_neg this]
theorem StepF.new{m n:Nat}{u:List Nat}{T:BT}{x:Obj}{l l':Life}{g g':Array GenState}{d d':Drawn}{k k':Nat}{o o':OsState}(e:l'=l)(hm:m≤n)(h:((T.ins n x).get n).isSome=true):StepF m u u ⟨T,n,l,g,d,k,o⟩ ⟨T.ins n x,n+1,l',g',d',k',o'⟩ :=
 ⟨e,Nat.le_succ _,fun _ h=>h,fun b hb _=>by
  show (T.ins n x).get b=T.get b
  rw[BT.get_ins _ _ _ h,if_neg (by lia)]⟩
noncomputable def bNa(m:Nat)(u u':List Nat)(s:SharedT):Option (SharedT×Thread)→Prop
 |none=>True
 |some r=>StepF m u u' s r.1
theorem aKo{den:Code→Sem Fin}{p:Program}{w:World}{T:BT}{n:Nat}{life:Life}{gens:Array GenState}{drawn:Drawn}{toks:Nat}{os:OsState}{cur:Sem Fin}{code:Code}{pos:Pos}{st:List Frame}{m:Nat}{u:List Nat}(hm:m≤n):bNa m u (note m cur u) ⟨T,n,life,gens,drawn,toks,os⟩ (stepT den p w ⟨T,n,life,gens,drawn,toks,os⟩ ⟨cur,code,pos,st⟩):=by
 cases cur with
 |load a q k =>
  dsimp only[stepT]
  cases Nat.blt a n
  ·exact trivial
  cases T.get a with
  |none=>exact trivial
  |some o =>
   dsimp only
   cases alive o
   ·exact trivial
   ·exact StepF.same rfl rfl rfl
 |loadIfAlive a k =>
  dsimp only[stepT]
  cases Nat.blt a n
  ·exact StepF.same rfl rfl rfl
  cases T.get a
  ·exact trivial
  ·exact StepF.same rfl rfl rfl
 |update a q f k =>
  dsimp only[stepT]
  cases Nat.blt a n
  ·exact trivial
  cases T.get a with
  |none=>exact trivial
  |some o =>
   dsimp only
   cases alive o
   ·exact trivial
   ·exact StepF.upd rfl
 |alloc o k =>
  dsimp only[stepT]
  cases e:((T.ins n o).get n).isSome
  ·exact trivial
  ·exact StepF.new rfl hm e
 |_ =>
  dsimp only[stepT]
  generalize step den p w _ _=z
  cases z
  ·exact StepF.same rfl rfl rfl
  ·exact trivial
theorem aEc{den:Code→Sem Fin}{p:Program}{w:World}{s s':SharedT}{t t':Thread}(m:Nat)(u:List Nat)(h:stepT den p w s t=some (s',t'))(hm:m≤s.n):StepF m u (note m t.cur u) s s':=by
 have:=aKo (den:=den) (p:=p) (w:=w) (T:=s.tree) (life:=s.life) (gens:=s.gens) (drawn:=s.drawn) (toks:=s.toks) (os:=s.os) (cur:=t.cur) (code:=t.code) (pos:=t.pos) (st:=t.stack) (u:=u) hm
 rw[h] at this
 exact this
section
variable {tb:String→Option Builtin} {p:Program} {w:World} {n₀:Nat} {ann:Option Value} {b m:Nat}
theorem StepF.refl{m:Nat}{u:List Nat}{s:SharedT}:StepF m u u s s:=.same rfl rfl rfl
theorem StepF.trans{m:Nat}{u u' u'':List Nat}{s s' s'':SharedT}(a:StepF m u u' s s')(b:StepF m u' u'' s' s''):StepF m u u'' s s'' :=
 ⟨b.l.trans a.l,Nat.le_trans a.n b.n,fun x h=>b.u x (a.u x h),fun x h q=>(b.k x h q).trans (a.k x h fun z=>q (b.u x z))⟩
theorem aFz:∀ {n:Nat} {s s':SharedT} {t:Thread} {u u':List Nat} {f:Flow} {c:Code} {q:Pos},m≤s.n→aYp tb p w n₀ ann b m n s t u=some (f,s',c,q,u') →
  segRunT tb p w n₀ ann b n s t=some (f,s',c,q)∧StepF m u u' s s'
 | 0,_,_,_,_,_,_,_,_,_,h=>nnS h
 |n+1,s,s',t,u,u',f,c,q,hm,h=>by
  unfold aYp at h
  unfold segRunT
  generalize endAt b t=o at h ⊢
  cases o with
  |some x=>cases h;exact⟨rfl,.refl⟩
  |none =>
   generalize stepOk n₀ ann t=o at h ⊢
   cases o with
   |false=>exact nnS h
   |true =>
    generalize hs:stepT (denote tb) p w s t=o at h ⊢
    cases o with
    |none=>exact nnS h
    |some r =>
     have l:=aEc m u hs hm
     exact (aFz (Nat.le_trans hm l.n) h).imp id l.trans
theorem aFr{n:Nat}{T T':BT}{life:Life}{u:List Nat}{D:List (Nat×Obj)}(k:∀ a,a<m→a∉u→T'.get a=T.get a)(hu:allIn (aCc D) u=true)(hg:gets T' (aCc D)=aAq D)(ok:aEd T m n D=true):absHeap T' n life=absHeap (aDc T D) n life:=by
 unfold aEd at ok
 generalize ou:upTo m n (aCc D)=o at ok
 cases o with
 |false=>cases ok
 |true =>
 generalize oi:aWx 0 (aCc D)=o at ok
 cases o with
 |false=>cases ok
 |true =>
 refine aI3 fun a hlt=>?_
 by_cases hin:a∈aCc D
 ·exact aN6 (hg.trans (aHj ok oi).symm) a hin
 ·rw[aDh ok a hin]
  exact k a (Nat.lt_of_not_le fun hle=>hin (aFx ou a hle hlt)) fun x=>hin (aHw hu a x)
theorem aDi:∀ {n:Nat} {s s':SharedT} {t t':Thread} {u u':List Nat},m≤s.n→goU tb p w n₀ ann b m n s t u=some (s',t',u')→segGoT tb p w n₀ ann b n s t=some (s',t')∧StepF m u u' s s'
 | 0,_,_,_,_,_,_,_,h=>by cases h;exact⟨rfl,.refl⟩
 |n+1,s,s',t,t',u,u',hm,h=>by
  unfold goU at h
  unfold segGoT
  generalize endAt b t=o at h ⊢
  cases o with
  |some x=>exact nnS h
  |none =>
   generalize stepOk n₀ ann t=o at h ⊢
   cases o with
   |false=>exact nnS h
   |true =>
    generalize hs:stepT (denote tb) p w s t=o at h ⊢
    cases o with
    |none=>exact nnS h
    |some r =>
     have l:=aEc m u hs hm
     exact (aDi (Nat.le_trans hm l.n) h).imp id l.trans
theorem aIy{n n' k':Nat}{T:BT}{life:Life}{gens gens':Array GenState}{drawn drawn':Drawn}{toks:Nat}{os os':OsState}{t:Thread}{D:List (Nat×Obj)}
  (h:aJe (aCc D) (goU tb p w n₀ ann b m n ⟨T,m,life,gens,drawn,toks,os⟩ t [])=some (n',k',true,gens',drawn',os',aAq D)) (ok:aEd T m n' D=true) :
  segGo tb p w n₀ ann b n (SharedT.abs ⟨T,m,life,gens,drawn,toks,os⟩) t=some ((SharedT.abs ⟨aDc T D,n',life,gens',drawn',k',os'⟩),aP1 (goU tb p w n₀ ann b m n ⟨T,m,life,gens,drawn,toks,os⟩ t [])):=by
 generalize hr:goU tb p w n₀ ann b m n ⟨T,m,life,gens,drawn,toks,os⟩ t []=o at h
 cases o with
 |none=>exact nnS h
 |some r =>
  obtain⟨⟨T₂,n₂,life₂,gens₂,drawn₂,toks₂,os₂⟩,t₂,u₂⟩:=r
  refine aBa (aDi (m:=m) (Nat.le_refl m) hr) fun k1 k2=>?_
  obtain rfl:life₂=life:=k2.l
  rw[segGo_of k1]
  injection h with h
  injection h with e1 h;injection h with e2 h;injection h with ha h;injection h with e3 h;injection h with e4 h;injection h with e5 hg
  simp only[SharedT.n,SharedT.toks,SharedT.gens,SharedT.drawn,SharedT.os] at e1 e2 e3 e4 e5
  subst e1 e2 e3 e4 e5
  rw[show SharedT.abs ⟨T₂,n₂,life₂,gens₂,drawn₂,toks₂,os₂⟩=SharedT.abs ⟨aDc T D,n₂,life₂,gens₂,drawn₂,toks₂,os₂⟩ from congrArg (fun h:Heap=>Shared.mk h gens₂ drawn₂ toks₂ os₂) (aFr k2.k ha hg ok)]
  rfl
theorem aCu(k:Nat):∀ (n:Nat) (s:Shared) (t:Thread) (r),segRun tb p w n₀ ann b n s t=some r→segRun tb p w n₀ ann b (n+k) s t=some r
 | 0,_,_,_,h=>by simp[segRun] at h
 |n+1,s,t,r,h=>by
  rw[show n+1+k=n+k+1 by lia]
  unfold segRun at h ⊢
  cases ht:endAt b t with
  |some f=>rw[ht] at h;exact h
  |none =>
   rw[ht] at h
   cases hk:stepOk n₀ ann t with
   |false=>rw[hk] at h;cases h
   |true =>
    rw[hk] at h
    cases hs:step (denote tb) p w s t with
    |halt o s'=>rw[hs] at h;cases h
    |go s' t'=>rw[hs] at h;exact aCu k n s' t' r h
end
section
variable {α:Type} {tb:String→Option Builtin} {p:Program} {w:World} {n₀:Nat} {ann:Option Value} {b:Nat} {B:List Frame} {K':α→Sem Fin} {H':Value→Sem Fin} {gd:Bool→Bool} {lv:List Value→List Value} {res:α→Flow}
noncomputable abbrev bGd(res:α→Flow)(K':α→Sem Fin)(H':Value→Sem Fin)(gd:Bool→Bool)(lv:List Value→List Value)(B:List Frame):Thread→Thread→Prop:=Rel2 (fun a=>.pure (.done (res a))) K' deadEnd H' gd lv B
theorem aPv{b:Nat}{x:Sem α}{f:Flow}{code:Code}{pos:Pos}{st:List Frame}(h:endAt b ⟨x.wrap (fun a=>.pure (.done (res a))) deadEnd gd lv,code,pos,st⟩=some f):∃ a,x=.pure a∧res a=f:=by
 unfold endAt at h
 dsimp only at h
 generalize (st.length==b)=o at h
 cases x with
 |pure a =>
  cases o
  ·exact nnS h
  ·exact⟨a,rfl,Option.some.inj h⟩
 |_=>cases o<;>exact nnS h
theorem bCi{cur:Sem Fin}{code:Code}{pos:Pos}{st:List Frame}{t':Thread}{f:Flow}(R:bGd res K' H' gd lv B ⟨cur,code,pos,st⟩ t')(he:endAt B.length ⟨cur,code,pos,st⟩=some f):∃ a,res a=f∧t'=⟨K' a,code,pos,B⟩:=by
 obtain⟨cur',code',pos',st'⟩:=t'
 obtain⟨e1,e2,R⟩:=R
 dsimp only at e1 e2 R
 subst e1 e2
 rcases R with⟨rfl,rfl,x,rfl,rfl⟩|⟨rfl,F⟩
 ·obtain⟨a,rfl,e⟩:=aPv he
  exact⟨a,e,rfl⟩
 ·have:((st.length==B.length)=false):=beq_eq_false_iff_ne.mpr (Nat.ne_of_gt F.longer.1)
  simp only[endAt,this] at he
  exact nnS he
theorem aWy(hB:splitAtGen B=none)(hb:b<B.length){s s₂:Shared}{cur:Sem Fin}{code:Code}{pos:Pos}{st:List Frame}{t₂ t':Thread}(R:bGd res K' H' gd lv B ⟨cur,code,pos,st⟩ t')(he:endAt B.length ⟨cur,code,pos,st⟩=none)(hk:stepOk n₀ ann ⟨cur,code,pos,st⟩=true)(hs:step (denote tb) p w s ⟨cur,code,pos,st⟩=.go s₂ t₂) :
  endAt b t'=none∧stepOk n₀ ann t'=true∧∃ t₂',step (denote tb) p w s t'=.go s₂ t₂'∧bGd res K' H' gd lv B t₂ t₂':=by
 obtain⟨cur',code',pos',st'⟩:=t'
 have ends:b<st'.length→endAt b ⟨cur',code',pos',st'⟩=none:=fun q=>by
  have:((st'.length==b)=false):=beq_eq_false_iff_ne.mpr (Nat.ne_of_gt q)
  simp only[endAt,this]
 obtain⟨e1,e2,R⟩:=R
 dsimp only at e1 e2 R
 subst e1 e2
 rcases R with⟨rfl,rfl,x,rfl,rfl⟩|⟨rfl,F⟩
 ·have hp:∀ a,x≠.pure a:=by
   rintro a rfl
   simp[endAt,Sem.wrap] at he
  have hr:∀ e,x≠.raise e:=by
   rintro e rfl
   obtain⟨heap,gens,drawn,toks,os⟩:=s
   simp only[Sem.wrap,step] at hs
   cases hs
  exact⟨ends hb,(okOuter (K':=K') (H':=H') hp hr hk).1,step_outer hB hp hs⟩
 ·exact⟨ends (Nat.lt_trans hb F.longer.2),(okInner hB F hk).1,step_inner hB F hs⟩
theorem aJd(hB:splitAtGen B=none)(hb:b<B.length):∀ (n:Nat) (s:Shared) (t t':Thread) (f:Flow) (s':Shared) (c':Code) (p':Pos),bGd res K' H' gd lv B t t' →
  segRun tb p w n₀ ann B.length n s t=some (f,s',c',p')→∃ a,res a=f∧∀ N r,segRun tb p w n₀ ann b N s' ⟨K' a,c',p',B⟩=some r→segRun tb p w n₀ ann b (n+N) s t'=some r
 | 0,_,_,_,_,_,_,_,_,h=>nnS h
 |n+1,s,t,t',f,s',c',p',R,h=>by
  obtain⟨cur,code,pos,st⟩:=t
  unfold segRun at h
  generalize he:endAt B.length ⟨cur,code,pos,st⟩=o at h
  cases o with
  |some g =>
   cases h
   refine aAd (bCi R he) fun a ha r12_2=>?_
   subst r12_2
   exact⟨a,ha,fun N r hN=>by
    rw[show n+1+N=N+(n+1) by lia]
    exact aCu _ _ _ _ _ hN⟩
  |none =>
   generalize hk:stepOk n₀ ann ⟨cur,code,pos,st⟩=o at h
   cases o with
   |false=>exact nnS h
   |true =>
    generalize hs:step (denote tb) p w s ⟨cur,code,pos,st⟩=o at h
    cases o with
    |halt o s₂=>exact nnS h
    |go s₂ t₂ =>
     refine aIv (aWy (b:=b) hB hb R he hk hs) fun k0 k1 z13_2=>?_
     refine aAd z13_2 fun t₂' k3 R'=>?_
     exact (aJd hB hb n s₂ t₂ t₂' f s' c' p' R' h).imp fun a ⟨ha,hN⟩=>⟨ha,fun N r q=>by
      rw[show n+1+N=n+N+1 by lia]
      unfold segRun
      rw[k0,k1,k3]
      exact hN N r q⟩
end
noncomputable def Leads(p:Program)(w:World)(b n:Nat)(s:Shared)(t:Thread)(s':Shared)(t':Thread):Prop :=
 ∀ N r,segRun treeTable p w 11 (some (.ref 6)) b N s' t'=some r→segRun treeTable p w 11 (some (.ref 6)) b (n+N) s t=some r
section
variable {p:Program} {w:World} {b:Nat} {B:List Frame} {env:Env}
theorem Leads.trans{n n':Nat}{s s' s'':Shared}{t t' t'':Thread}(h:Leads p w b n s t s' t')(k:Leads p w b n' s' t' s'' t''):Leads p w b (n+n') s t s'' t'':=fun N r q=>by
 rw[Nat.add_assoc];exact h _ _ (k _ _ q)
theorem Leads.of_go{n:Nat}{s s':Shared}{t t':Thread}(h:segGo treeTable p w 11 (some (.ref 6)) b n s t=some (s',t')):Leads p w b n s t s' t':=fun N r q=>seg_go h q
theorem Leads.end_{n N:Nat}{s s':Shared}{t t':Thread}{r}(h:Leads p w b n s t s' t')(k:segRun treeTable p w 11 (some (.ref 6)) b N s' t'=some r):segRun treeTable p w 11 (some (.ref 6)) b (n+N) s t=some r:=h _ _ k
noncomputable abbrev aMc:Flow→Sem Fin:=fun f=>match f with | .ret v=>ret v|_=>ret .none
noncomputable abbrev aC4(env:Env):Value→Sem Fin:=fun e=>((leaving env e).bind fun _=>(.raise e:Sem Flow)).wrap aMc .raise id id
noncomputable def aE7(K:Flow→Sem Fin)(H:Value→Sem Fin)(rest:List Stmt)(env:Env)(c:Code)(p:Pos)(B:List Frame):Thread:=⟨(execs rest env).wrap K H id id,c,p,B⟩
noncomputable def aUb(K:Flow→Sem Fin)(H:Value→Sem Fin)(rest:List Stmt)(env:Env):Flow→Sem Fin:=fun f=>match f with | .next=>(execs rest env).wrap K H id id|f=>K f
theorem aHd(hB:splitAtGen B=none)(hb:b<B.length){K:Flow→Sem Fin}{H:Value→Sem Fin}{n:Nat}{s s':Shared}{l rest:List Stmt}{c c':Code}{pos p':Pos}{f:Flow}
  (h:segRun treeTable p w 11 (some (.ref 6)) B.length n s (piecesOf l env c pos B)=some (f,s',c',p')) :
  Leads p w b n s (aE7 K H (l++rest) env c pos B) s' ⟨aUb K H rest env f,c',p',B⟩:=fun N r k=>by
 obtain⟨a,ha,hN⟩:=aJd (res:=id) (K':=aUb K H rest env) (H':=H) (B:=B) hB hb n s (piecesOf l env c pos B)
  ⟨(execs l env).wrap (aUb K H rest env) H id id,c,pos,B⟩ _ _ _ _ ⟨rfl,rfl,.inl ⟨rfl,rfl,_,rfl,rfl⟩⟩ h
 obtain rfl:a=f:=ha
 have:=hN N r k
 unfold aE7
 rw[execs_app_wrap]
 exact this
theorem aK8(hB:splitAtGen B=none)(hb:b<B.length){n:Nat}{s s':Shared}{l:List Stmt}{c c':Code}{pos p':Pos}{f:Flow}
  (h:segRun treeTable p w 11 (some (.ref 6)) B.length n s (blockOf l env c pos B)=some (f,s',c',p')) :
  Leads p w b n s ⟨denote treeTable (.body l env),c,pos,B⟩ s' (aE7 doneF (leaveH env) l env c' p' B):=fun N r k=>by
 obtain⟨a,ha,hN⟩:=aJd (res:=fun _:Unit=>Flow.next) (K':=fun _=>(execs l env).wrap doneF (leaveH env) id id) (H':=Sem.raise) (B:=B) hB hb n s (blockOf l env c pos B)
  ⟨(blockStart l env).wrap (fun _=>(execs l env).wrap doneF (leaveH env) id id) .raise id id,c,pos,B⟩ _ _ _ _ ⟨rfl,rfl,.inl ⟨rfl,rfl,_,rfl,rfl⟩⟩ h
 rw[body_wrap]
 exact hN N r k
theorem aOa(l:List Stmt):denote treeTable (.func l env)=(point:Sem Unit).wrap (fun _=>(execs l env).wrap aMc (aC4 env) id id) .raise id id:=by
 show (point:Sem Unit).bind (fun _=>((execs l env).onRaise (leaving env)).bind aMc)=_
 rw[Sem.bind_eq_wrap]
 refine Sem.wrap_congr _ _ _ (fun _=>?_) fun _=>rfl
 rw[Sem.bind_eq_wrap,Sem.onRaise_eq_wrap,Sem.wrap_wrap]
 rfl
noncomputable abbrev aEg(c:Code)(pos:Pos)(B:List Frame):Thread:=⟨(point:Sem Unit).wrap (fun _=>doneF .next) deadEnd id id,c,pos,B⟩
theorem aK7(hB:splitAtGen B=none)(hb:b<B.length){n:Nat}{s s':Shared}{l:List Stmt}{c c':Code}{pos p':Pos}{f:Flow}
  (h:segRun treeTable p w 11 (some (.ref 6)) B.length n s (aEg c pos B)=some (f,s',c',p')) :
  Leads p w b n s ⟨denote treeTable (.func l env),c,pos,B⟩ s' (aE7 aMc (aC4 env) l env c' p' B):=fun N r k=>by
 obtain⟨a,ha,hN⟩:=aJd (res:=fun _:Unit=>Flow.next) (K':=fun _=>(execs l env).wrap aMc (aC4 env) id id) (H':=Sem.raise) (B:=B) hB hb n s (aEg c pos B)
  ⟨(point:Sem Unit).wrap (fun _=>(execs l env).wrap aMc (aC4 env) id id) .raise id id,c,pos,B⟩ _ _ _ _ ⟨rfl,rfl,.inl ⟨rfl,rfl,_,rfl,rfl⟩⟩ h
 rw[aOa]
 exact hN N r k
theorem aFq(l:List Stmt)(i n:Nat):l.drop i=(l.drop i).take n++l.drop (i+n):=by
 rw[← List.drop_drop,List.take_append_drop]
end
section
open PySem PySem.W PySem.Calls PyProof.Rows
/-! a run in which the world's rows are asked at places told before (gaps,in base 4096): both answers go on to the same place -/
noncomputable abbrev RB:=Option (SharedT×Thread×List Nat)
noncomputable abbrev RS:=Option (SharedT×Thread×List Nat×List (RB×RB))
noncomputable abbrev RR:=Option (Flow×SharedT×Code×Pos×List Nat×List (RB×RB))
noncomputable def keep(r:RB)(l:List RB)(acc:List (RB×RB)):RS:=match r with
 |none=>none
 |some (s,t,u)=>some (s,t,u,match l with
  | []=>acc
  |x::l=>(some (s,t,u),x)::(match l with
   | []=>acc
   |y::_=>(some (s,t,u),y)::acc))
noncomputable def aL7(tb:String→Option Builtin)(p:Program)(w wt wf ct cf cg:World)(n₀:Nat)(ann:Option Value)(b m G:Nat)(s:SharedT)(t:Thread)(u:List Nat)(acc:List (RB×RB)):RS:=match goU tb p w n₀ ann b m (G%2048) s t u with
 |none=>none
 |some (s1,t1,u1)=>match Nat.beq (G/2048%2) 1 with
  |false=>keep (goU tb p wt n₀ ann b m 1 s1 t1 u1) [goU tb p wf n₀ ann b m 1 s1 t1 u1] acc
  |true=>keep (goU tb p ct n₀ ann b m 1 s1 t1 u1) [goU tb p cf n₀ ann b m 11 s1 t1 u1,goU tb p cg n₀ ann b m 11 s1 t1 u1] acc
noncomputable def aJf(tb:String→Option Builtin)(p:Program)(w wt wf ct cf cg:World)(n₀:Nat)(ann:Option Value)(b m:Nat):Nat→Nat→Nat→SharedT→Thread→List Nat→List (RB×RB)→RR
 | 0,_,n,s,t,u,acc=>match aYp tb p w n₀ ann b m n s t u with
  |none=>none
  |some (f,s',c,q,u')=>some (f,s',c,q,u',acc)
 |k+1,G,n,s,t,u,acc=>match aL7 tb p w wt wf ct cf cg n₀ ann b m G s t u acc with
  |none=>none
  |some (s2,t2,u2,acc2)=>aJf tb p w wt wf ct cf cg n₀ ann b m k (G/4096) n s2 t2 u2 acc2
noncomputable def tot:Nat→Nat→Nat→Nat
 | 0,_,n=>n
 |k+1,G,n=>G%2048+(11+tot k (G/4096) n)
noncomputable def aW4:List (RB×RB)→List RB
 | []=>[]
 |x::l=>x.1::aW4 l
noncomputable def aUm:List (RB×RB)→List RB
 | []=>[]
 |x::l=>x.2::aUm l
noncomputable def aB5(as:List Nat)(r:RR):Seen:=match r with
 |none=>none
 |some (f,s,c,q,u,_)=>some (f,s.n,s.toks,c,q,allIn as u,s.gens,s.drawn,s.os,gets s.tree as)
noncomputable def prA(r:RR):List RB:=match r with
 |none=>[]
 |some (_,_,_,_,_,l)=>aW4 l
noncomputable def prB(r:RR):List RB:=match r with
 |none=>[]
 |some (_,_,_,_,_,l)=>aUm l
section
variable {tb:String→Option Builtin} {p:Program} {w wt wf ct cf cg:World} {n₀:Nat} {ann:Option Value} {b m:Nat}
theorem aGt{n N:Nat}{s:Shared}{t:Thread}{r}(h:segRun tb p w n₀ ann b n s t=some r)(q:n≤N):segRun tb p w n₀ ann b N s t=some r:=by
 have:=aCu (N-n) n s t r h
 rwa [Nat.add_sub_cancel' q] at this
structure OkS(tb:String→Option Builtin)(p:Program)(w:World)(n₀:Nat)(ann:Option Value)(b m F:Nat)(s:SharedT)(t:Thread)(u:List Nat)(acc:List (RB×RB))(s2:SharedT)(t2:Thread)(u2:List Nat):Prop where
 a:aW4 acc=aUm acc
 f:StepF m u u2 s s2
 g:∀ N r,segRun tb p w n₀ ann b N (SharedT.abs s2) t2=some r→segRun tb p w n₀ ann b (F+N) (SharedT.abs s) t=some r
noncomputable def bDx(tb:String→Option Builtin)(p:Program)(w:World)(n₀:Nat)(ann:Option Value)(b m F:Nat)(s:SharedT)(t:Thread)(u:List Nat)(acc:List (RB×RB))(o:RS):Prop:=match o with
 |none=>True
 |some (s2,t2,u2,acc2)=>StepF m u u2 s s2∧(aW4 acc2=aUm acc2→OkS tb p w n₀ ann b m F s t u acc s2 t2 u2)
theorem OkS.of{n:Nat}{s s1 s2:SharedT}{t t1 t2:Thread}{u u1 u2:List Nat}{acc:List (RB×RB)}(hm:m≤s.n)(e1:goU tb p w n₀ ann b m n s t u=some (s1,t1,u1))(d:Nat)(hd:d≤11)(e3:goU tb p w n₀ ann b m d s1 t1 u1=some (s2,t2,u2))(ha:aW4 acc=aUm acc):OkS tb p w n₀ ann b m (n+11) s t u acc s2 t2 u2:=by
 have a:=aDi hm e1
 have c:=aDi (Nat.le_trans hm a.2.n) e3
 exact⟨ha,a.2.trans c.2,fun N r q=>by
  rw[Nat.add_assoc]
  exact seg_go (segGo_of a.1) (aGt (seg_go (segGo_of c.1) q) (Nat.add_le_add_right hd N))⟩
theorem aN2{wA:World}{n:Nat}{s s1:SharedT}{t t1:Thread}{u u1:List Nat}{acc:List (RB×RB)}{l:List RB}(hm:m≤s.n)(e1:goU tb p w n₀ ann b m n s t u=some (s1,t1,u1))
  (hw:∀ r,goU tb p wA n₀ ann b m 1 s1 t1 u1=r→(∀ x,l.head?=some x→r=x)→(∀ x,l.tail.head?=some x→r=x)→∃ d,d≤11∧goU tb p w n₀ ann b m d s1 t1 u1=r):bDx tb p w n₀ ann b m (n+11) s t u acc (keep (goU tb p wA n₀ ann b m 1 s1 t1 u1) l acc):=by
 cases e2:goU tb p wA n₀ ann b m 1 s1 t1 u1 with
 |none=>exact trivial
 |some r =>
  obtain⟨s2,t2,u2⟩:=r
  have a:=aDi hm e1
  refine⟨a.2.trans (aDi (Nat.le_trans hm a.2.n) e2).2,fun he=>?_⟩
  cases l with
  |nil =>
   refine aAd (hw _ e2 (fun _ h=>nomatch h) fun _ h=>nomatch h) fun d hd e3=>OkS.of hm e1 d hd e3 he
  |cons x l =>
   have j:=List.cons.inj he
   cases l with
   |nil=>exact aAd (hw _ e2 (fun _ h=>j.1.trans (Option.some.inj h)) fun _ h=>nomatch h) fun d hd e3=>OkS.of hm e1 d hd e3 j.2
   |cons y l =>
    have i:=List.cons.inj j.2
    exact aAd (hw _ e2 (fun _ h=>j.1.trans (Option.some.inj h)) fun _ h=>i.1.trans (Option.some.inj h)) fun d hd e3=>OkS.of hm e1 d hd e3 i.2
theorem aP6(hs:w=wt∨w=wf)(hc:w=ct∨w=cf∨w=cg){G:Nat}{s:SharedT}{t:Thread}{u:List Nat}{acc:List (RB×RB)}(hm:m≤s.n):bDx tb p w n₀ ann b m (G%2048+11) s t u acc (aL7 tb p w wt wf ct cf cg n₀ ann b m G s t u acc):=by
 unfold aL7
 cases e1:goU tb p w n₀ ann b m (G%2048) s t u with
 |none=>exact trivial
 |some r =>
  obtain⟨s1,t1,u1⟩:=r
  dsimp only
  cases Nat.beq (G/2048%2) 1 with
  |false=>exact aN2 hm e1 fun r e k _=>hs.elim (fun q=>⟨1,by decide,q▸e⟩) fun q=>⟨1,by decide,q▸(k _ rfl).symm⟩
  |true=>exact aN2 hm e1 fun r e k k2=>hc.elim (fun q=>⟨1,by decide,q▸e⟩) fun q=>q.elim (fun q=>⟨11,by decide,q▸(k _ rfl).symm⟩) fun q=>⟨11,by decide,q▸(k2 _ rfl).symm⟩
noncomputable def aPg(tb:String→Option Builtin)(p:Program)(w:World)(n₀:Nat)(ann:Option Value)(b m F:Nat)(s:SharedT)(t:Thread)(u:List Nat)(acc:List (RB×RB))(o:RR):Prop:=match o with
 |none=>True
 |some (f,s',c,q,u',acc')=>aW4 acc'=aUm acc'→aW4 acc=aUm acc∧StepF m u u' s s'∧segRun tb p w n₀ ann b F (SharedT.abs s) t=some (f,SharedT.abs s',c,q)
theorem aQe(hs:w=wt∨w=wf)(hc:w=ct∨w=cf∨w=cg){n:Nat}:∀ (k G:Nat) (s:SharedT) (t:Thread) (u:List Nat) (acc:List (RB×RB)),m≤s.n→aPg tb p w n₀ ann b m (tot k G n) s t u acc (aJf tb p w wt wf ct cf cg n₀ ann b m k G n s t u acc):=by
 intro k
 induction k with
 |zero =>
  intro G s t u acc hm
  show aPg _ _ _ _ _ _ _ _ _ _ _ _ (match aYp tb p w n₀ ann b m n s t u with|none=>none|some (f,s',c,q,u')=>some (f,s',c,q,u',acc))
  cases e:aYp tb p w n₀ ann b m n s t u with
  |none=>exact trivial
  |some r=>exact fun he=>⟨he,(aFz hm e).2,segRun_of (aFz hm e).1⟩
 |succ k ih =>
  intro G s t u acc hm
  have h:=aP6 (tb:=tb) (p:=p) (n₀:=n₀) (ann:=ann) (b:=b) hs hc (G:=G) (t:=t) (u:=u) (acc:=acc) hm
  show aPg _ _ _ _ _ _ _ _ _ _ _ _ (match aL7 tb p w wt wf ct cf cg n₀ ann b m G s t u acc with|none=>none|some (s2,t2,u2,acc2)=>aJf tb p w wt wf ct cf cg n₀ ann b m k (G/4096) n s2 t2 u2 acc2)
  revert h
  generalize aL7 tb p w wt wf ct cf cg n₀ ann b m G s t u acc=o
  intro h
  cases o with
  |none=>exact trivial
  |some r =>
   have i:=ih (G/4096) r.1 r.2.1 r.2.2.1 r.2.2.2 (Nat.le_trans hm h.1.n)
   revert i
   show aPg _ _ _ _ _ _ _ _ _ _ _ _ _→aPg _ _ _ _ _ _ _ _ _ _ _ _ (aJf tb p w wt wf ct cf cg n₀ ann b m k (G/4096) n r.1 r.2.1 r.2.2.1 r.2.2.2)
   generalize aJf tb p w wt wf ct cf cg n₀ ann b m k (G/4096) n r.1 r.2.1 r.2.2.1 r.2.2.2=o
   intro i
   cases o with
   |none=>exact trivial
   |some z =>
    intro he
    have y:=i he
    have x:=h.2 y.1
    refine⟨x.a,x.f.trans y.2.1,?_⟩
    have:=x.g _ _ y.2.2
    rwa [Nat.add_assoc] at this
theorem aBm{k G n n' k' F:Nat}{T:BT}{life:Life}{gens gens':Array GenState}{drawn drawn':Drawn}{toks:Nat}{os os':OsState}{t:Thread}{f:Flow}{c:Code}{q:Pos}{D:List (Nat×Obj)}(hs:w=wt∨w=wf)(hc:w=ct∨w=cf∨w=cg)
  (h:(aB5 (aCc D) (aJf tb p w wt wf ct cf cg n₀ ann b m k G n ⟨T,m,life,gens,drawn,toks,os⟩ t [] []),prA (aJf tb p w wt wf ct cf cg n₀ ann b m k G n ⟨T,m,life,gens,drawn,toks,os⟩ t [] []))=(some (f,n',k',c,q,true,gens',drawn',os',aAq D),prB (aJf tb p w wt wf ct cf cg n₀ ann b m k G n ⟨T,m,life,gens,drawn,toks,os⟩ t [] [])))
  (ok:aEd T m n' D=true) (hF:Nat.ble (tot k G n) F=true) :
  segRun tb p w n₀ ann b F (SharedT.abs ⟨T,m,life,gens,drawn,toks,os⟩) t=some (f,(SharedT.abs ⟨aDc T D,n',life,gens',drawn',k',os'⟩),c,q):=by
 refine aGt ?_ (Nat.le_of_ble_eq_true hF)
 have y:=aQe (tb:=tb) (p:=p) (n₀:=n₀) (ann:=ann) (b:=b) hs hc (n:=n) k G ⟨T,m,life,gens,drawn,toks,os⟩ t [] [] (Nat.le_refl m)
 revert y h
 generalize aJf tb p w wt wf ct cf cg n₀ ann b m k G n ⟨T,m,life,gens,drawn,toks,os⟩ t [] []=o
 cases o with
 |none=>exact fun h=>nnS (congrArg Prod.fst h)
 |some r =>
  obtain⟨f₂,⟨T₂,n₂,life₂,gens₂,drawn₂,toks₂,os₂⟩,c₂,q₂,u₂,acc⟩:=r
  intro h y
  have y:=(y (congrArg Prod.snd h)).2
  obtain rfl:life₂=life:=y.1.l
  have e:=Option.some.inj (congrArg Prod.fst h)
  exact y.2.trans ((congrArg (fun z:Flow×Nat×Nat×Code×Pos×Bool×Array GenState×Drawn×OsState×List (Option Obj)=>some (z.1,Shared.mk (absHeap T₂ z.2.1 life₂) z.2.2.2.2.2.2.1 z.2.2.2.2.2.2.2.1 z.2.2.1 z.2.2.2.2.2.2.2.2.1,z.2.2.2.1,z.2.2.2.2.1)) e).trans
   (congrArg (fun h=>some (f,Shared.mk h gens' drawn' k' os',c,q)) (aFr y.1.k (congrArg (fun z=>z.2.2.2.2.2.1) e) (congrArg (fun z=>z.2.2.2.2.2.2.2.2.2) e) ok)))
theorem aGi{G n k':Nat}{T:BT}{life:Life}{gens gens':Array GenState}{drawn drawn':Drawn}{toks:Nat}{os os':OsState}{t:Thread}{f:Flow}{c:Code}{q:Pos}(hs:w=wt∨w=wf)(hc:w=ct∨w=cf∨w=cg)
  (h:(aB5 (aCc []) (aJf tb p w wt wf ct cf cg n₀ ann b m 0 G n ⟨T,m,life,gens,drawn,toks,os⟩ t [] []),prA (aJf tb p w wt wf ct cf cg n₀ ann b m 0 G n ⟨T,m,life,gens,drawn,toks,os⟩ t [] []))=(some (f,m,k',c,q,true,gens',drawn',os',aAq []),prB (aJf tb p w wt wf ct cf cg n₀ ann b m 0 G n ⟨T,m,life,gens,drawn,toks,os⟩ t [] []))) :
  segRun tb p w n₀ ann b n (SharedT.abs ⟨T,m,life,gens,drawn,toks,os⟩) t=some (f,(SharedT.abs ⟨T,m,life,gens',drawn',k',os'⟩),c,q) :=
 aBm (D:=[]) hs hc h (by unfold aEd;rw[show aCc []=[] from rfl,show upTo m m []=true from Nat.beq_refl m];rfl) (Nat.ble_eq_true_of_le (Nat.le_refl _))
end
end
noncomputable def nth:List Stmt→Nat→Stmt
 | [],_=>.Pass ⟨0,0,0,0⟩
 |s::_,0=>s
 |_::r,n+1=>nth r n
noncomputable def bQb:Stmt→List Stmt
 | .ClassDef _ _ _ b _ _ _ _ _ _ _=>b
 |_=>[]
noncomputable def fdP:Stmt→Arguments
 | .FunctionDef _ a _ _ _ _ _ _ _ _=>a
 |_=>⟨[],[],none,[],[],none,[]⟩
noncomputable def fdB:Stmt→List Stmt
 | .FunctionDef _ _ b _ _ _ _ _ _ _=>b
 |_=>[]
noncomputable def fdS:Stmt→Scope
 | .FunctionDef _ _ _ _ _ _ s _ _ _=>s
 |_=>⟨.module,[],false,false,[]⟩
noncomputable def F(p:Program)(i:Nat):Stmt:=nth p.main.body i
noncomputable def M(p:Program)(i j:Nat):Stmt:=nth (bQb (F p i)) j
noncomputable def eK(P:Params)(x:Str)(t:Tok)(v:Value):DictEntry:=⟨PyData.keyHash P x,.str x t,v⟩
noncomputable def z(a t:Nat):Value:=.int (.ofNat a) t
noncomputable def aTg:BT→Nat→List Obj→BT
 |T,_,[]=>T
 |T,n,o::l=>aTg (T.ins n o) (n+1) l
noncomputable def aBk:Life:={}
section
local macro_rules | `($s:str) => do
  let xs ← s.getString.toList.toArray.mapM fun c => do
    let n := Lean.Syntax.mkNumLit (toString c.toNat)
    `(nat_lit $n)
  `(⟨⟨[$xs,*]⟩⟩)
noncomputable def q0:Str:="<module>"
noncomputable def q1:Str:="/claim/cut.py"
noncomputable def q2:Str:="__main__"
noncomputable def q3:Str:="__name__"
noncomputable def q4:Str:="pipeboard.isa"
noncomputable def q5:Str:="__doc__"
noncomputable def q6:Str:="__package__"
noncomputable def q7:Str:="__loader__"
noncomputable def q8:Str:="__spec__"
noncomputable def q9:Str:="__annotations__"
noncomputable def q10:Str:="__builtins__"
noncomputable def q11:Str:="__file__"
noncomputable def q12:Str:="__cached__"
noncomputable def q13:Str:="_wall"
noncomputable def q14:Str:="BoardError"
noncomputable def q15:Str:="BadArgument"
noncomputable def q16:Str:="BadInstruction"
noncomputable def q17:Str:="BadAddress"
noncomputable def q18:Str:="Trap"
noncomputable def q19:Str:="CSRS"
noncomputable def q20:Str:="LOAD_isa"
noncomputable def q21:Str:="FENCES"
noncomputable def q22:Str:="IMMEDIATE"
noncomputable def q23:Str:="AUIPC"
noncomputable def q24:Str:="STORE_isa"
noncomputable def q25:Str:="REGISTER"
noncomputable def q26:Str:="LUI"
noncomputable def q27:Str:="BRANCH"
noncomputable def q28:Str:="JALR"
noncomputable def q29:Str:="JAL"
noncomputable def q30:Str:="SYSTEM"
noncomputable def q31:Str:="Instruction"
noncomputable def q32:Str:="Shape"
noncomputable def q33:Str:="numbered"
noncomputable def q34:Str:="shapes"
noncomputable def q35:Str:="k"
noncomputable def q36:Str:="__module__"
noncomputable def q37:Str:="pipeboard.errors"
noncomputable def q38:Str:="__qualname__"
noncomputable def q39:Str:="__firstlineno__"
noncomputable def q40:Str:="__init__"
noncomputable def q41:Str:="__static_attributes__"
noncomputable def q42:Str:=""
noncomputable def q43:Str:="self"
noncomputable def q44:Str:="reason"
noncomputable def q45:Str:="BoardError.__init__"
noncomputable def q46:Str:="__weakref__"
noncomputable def q47:Str:="word"
noncomputable def q48:Str:="BadInstruction.__init__"
noncomputable def q49:Str:="address"
noncomputable def q50:Str:="BadAddress.__init__"
noncomputable def q51:Str:="FETCH_MISALIGNED"
noncomputable def q52:Str:="FETCH_ACCESS"
noncomputable def q53:Str:="ILLEGAL"
noncomputable def q54:Str:="BREAKPOINT"
noncomputable def q55:Str:="LOAD_MISALIGNED"
noncomputable def q56:Str:="LOAD_ACCESS"
noncomputable def q57:Str:="STORE_MISALIGNED"
noncomputable def q58:Str:="STORE_ACCESS"
noncomputable def q59:Str:="CALL_FROM_USER"
noncomputable def q60:Str:="CALL_FROM_SUPERVISOR"
noncomputable def q61:Str:="CALL_FROM_MACHINE"
noncomputable def q62:Str:="FETCH_PAGE"
noncomputable def q63:Str:="LOAD_PAGE"
noncomputable def q64:Str:="STORE_PAGE"
noncomputable def q65:Str:="cause"
noncomputable def q66:Str:="value"
noncomputable def q67:Str:="Trap.__init__"
noncomputable def q68:Str:="sstatus"
noncomputable def q69:Str:="sie"
noncomputable def q70:Str:="stvec"
noncomputable def q71:Str:="scounteren"
noncomputable def q72:Str:="sscratch"
noncomputable def q73:Str:="sepc"
noncomputable def q74:Str:="scause"
noncomputable def q75:Str:="stval"
noncomputable def q76:Str:="sip"
noncomputable def q77:Str:="satp"
noncomputable def q78:Str:="mstatus"
noncomputable def q79:Str:="misa"
noncomputable def q80:Str:="medeleg"
noncomputable def q81:Str:="mideleg"
noncomputable def q82:Str:="mie"
noncomputable def q83:Str:="mtvec"
noncomputable def q84:Str:="mcounteren"
noncomputable def q85:Str:="mscratch"
noncomputable def q86:Str:="mepc"
noncomputable def q87:Str:="mcause"
noncomputable def q88:Str:="mtval"
noncomputable def q89:Str:="mip"
noncomputable def q90:Str:="mcycle"
noncomputable def q91:Str:="minstret"
noncomputable def q92:Str:="mcycleh"
noncomputable def q93:Str:="minstreth"
noncomputable def q94:Str:="cycle"
noncomputable def q95:Str:="time"
noncomputable def q96:Str:="instret"
noncomputable def q97:Str:="cycleh"
noncomputable def q98:Str:="timeh"
noncomputable def q99:Str:="instreth"
noncomputable def bBe:Str:="mvendorid"
noncomputable def bBd:Str:="marchid"
noncomputable def bBc:Str:="mimpid"
noncomputable def aZd:Str:="mhartid"
noncomputable def bBb:Str:="fields"
noncomputable def aAf:Str:="name"
noncomputable def aZc:Str:="rd"
noncomputable def bBa:Str:="rs1"
noncomputable def bA9:Str:="rs2"
noncomputable def bA8:Str:="imm"
noncomputable def bFt:Str:="csr"
noncomputable def bFs:Str:="Instruction.__init__"
noncomputable def bKb:Str:="Instruction.fields"
noncomputable def aFi:Str:="__dict__"
noncomputable def bA7:Str:="fixed"
noncomputable def aAg:Str:="kind"
noncomputable def aAj:Str:="opcode"
noncomputable def aAi:Str:="third"
noncomputable def aAh:Str:="seventh"
noncomputable def bKa:Str:="Shape.__init__"
noncomputable def bJ9:Str:="Shape.fixed"
noncomputable def aKx:Str:="names"
noncomputable def aF4:Str:="found"
noncomputable def aG1:Str:="number"
noncomputable def aG0:Str:="Known"
noncomputable def bJ8:Str:="lui"
noncomputable def aA8:Str:="U"
noncomputable def bJ7:Str:="auipc"
noncomputable def aMu:Str:="jal"
noncomputable def aA9:Str:="J"
noncomputable def bJ6:Str:="jalr"
noncomputable def aAt:Str:="I"
noncomputable def bXo:Str:="beq bne - - blt bge bltu bgeu"
noncomputable def aAw:Str:="B"
noncomputable def aS1:Str:="bgeu"
noncomputable def aZb:Str:="beq"
noncomputable def aZa:Str:="bne"
noncomputable def aBo:Str:="-"
noncomputable def aY9:Str:="blt"
noncomputable def aY8:Str:="bge"
noncomputable def aY7:Str:="bltu"
noncomputable def bXn:Str:="lb lh lw - lbu lhu"
noncomputable def aS0:Str:="lhu"
noncomputable def aY6:Str:="lb"
noncomputable def aY5:Str:="lh"
noncomputable def aJu:Str:="lw"
noncomputable def aY4:Str:="lbu"
noncomputable def bXm:Str:="sb sh sw"
noncomputable def aA3:Str:="S"
noncomputable def aSz:Str:="sw"
noncomputable def aY3:Str:="sb"
noncomputable def aY2:Str:="sh"
noncomputable def bXl:Str:="addi - slti sltiu xori - ori andi"
noncomputable def aSy:Str:="andi"
noncomputable def aJt:Str:="addi"
noncomputable def aY1:Str:="slti"
noncomputable def aY0:Str:="sltiu"
noncomputable def aYz:Str:="xori"
noncomputable def aYy:Str:="ori"
noncomputable def bXk:Str:="- slli - - - srli"
noncomputable def aA0:Str:="shift"
noncomputable def aSx:Str:="srli"
noncomputable def aYx:Str:="slli"
noncomputable def bXj:Str:="- - - - - srai"
noncomputable def aSw:Str:="srai"
noncomputable def bXi:Str:="add sll slt sltu xor srl or and"
noncomputable def aAm:Str:="R"
noncomputable def aQn:Str:="and"
noncomputable def aDy:Str:="add"
noncomputable def aVx:Str:="sll"
noncomputable def aVw:Str:="slt"
noncomputable def aVv:Str:="sltu"
noncomputable def aVu:Str:="xor"
noncomputable def aVt:Str:="srl"
noncomputable def aVs:Str:="or"
noncomputable def bXh:Str:="sub - - - - sra"
noncomputable def aQm:Str:="sra"
noncomputable def aJs:Str:="sub"
noncomputable def bA6:Str:="mret"
noncomputable def bXg:Str:="mul mulh mulhsu mulhu div divu rem remu"
noncomputable def aHz:Str:="remu"
noncomputable def aJr:Str:="mul"
noncomputable def aJq:Str:="mulh"
noncomputable def aJp:Str:="mulhsu"
noncomputable def aJo:Str:="mulhu"
noncomputable def aJn:Str:="div"
noncomputable def aJm:Str:="divu"
noncomputable def aJl:Str:="rem"
noncomputable def bXf:Str:="fence fence.i"
noncomputable def aAx:Str:="fence"
noncomputable def aVr:Str:="fence.i"
noncomputable def bXe:Str:="- csrrw csrrs csrrc"
noncomputable def aA2:Str:="CSR"
noncomputable def aVq:Str:="csrrc"
noncomputable def bA5:Str:="csrrw"
noncomputable def bA4:Str:="csrrs"
noncomputable def bXd:Str:="- - - - - csrrwi csrrsi csrrci"
noncomputable def aA1:Str:="CSRI"
noncomputable def aVp:Str:="csrrci"
noncomputable def bA3:Str:="csrrwi"
noncomputable def bA2:Str:="csrrsi"
noncomputable def bJ5:Str:="sfence.vma"
noncomputable def aAz:Str:="flush"
noncomputable def aLw:Str:="ecall"
noncomputable def aLv:Str:="ebreak"
noncomputable def bFr:Str:="sret"
noncomputable def bFq:Str:="wfi"
noncomputable def aLu:Str:="system"
noncomputable def aVo:Str:="SHAPES"
noncomputable def aQl:Str:="BY_NAME"
noncomputable def aVn:Str:="BY_OPCODE"
noncomputable def aYw:Str:="BY_THIRD"
noncomputable def bA1:Str:="BY_SEVENTH"
noncomputable def aYv:Str:="WHOLE"
noncomputable def aBx:Str:="pipeboard.csrs"
noncomputable def aQk:Str:="gathered_branch"
noncomputable def aMt:Str:="gathered_jump"
noncomputable def aMs:Str:="find_shape"
noncomputable def aMr:Str:="decode"
noncomputable def bJ4:Str:="MASK_words"
noncomputable def bPf:Str:="SIGN"
noncomputable def aSv:Str:="signed"
noncomputable def aQj:Str:="sign_extend"
noncomputable def aSu:Str:="shift_left"
noncomputable def aSt:Str:="shift_right"
noncomputable def aSs:Str:="shift_signed"
noncomputable def aSr:Str:="less_signed"
noncomputable def bJ3:Str:="USER_csrs"
noncomputable def bJ2:Str:="SUPERVISOR"
noncomputable def bJ1:Str:="MACHINE"
noncomputable def bJ0:Str:="INTERRUPT"
noncomputable def bJz:Str:="SIE"
noncomputable def bJy:Str:="MIE"
noncomputable def bJx:Str:="SPIE"
noncomputable def bJw:Str:="MPIE"
noncomputable def bJv:Str:="SPP"
noncomputable def bJu:Str:="MPP_PLACE"
noncomputable def bJt:Str:="MPP"
noncomputable def bJs:Str:="MPRV"
noncomputable def bJr:Str:="SUM"
noncomputable def bJq:Str:="MXR"
noncomputable def bJp:Str:="MSTATUS_BITS"
noncomputable def bJo:Str:="SSTATUS_BITS"
noncomputable def bJn:Str:="SOFT_S"
noncomputable def bPe:Str:="SOFT_M"
noncomputable def bPd:Str:="TIMER_S"
noncomputable def bPc:Str:="TIMER_M"
noncomputable def bPb:Str:="OUTER_S"
noncomputable def bPa:Str:="OUTER_M"
noncomputable def bO9:Str:="ORDER"
noncomputable def bJm:Str:="S_LINES"
noncomputable def bJl:Str:="ALL_LINES"
noncomputable def bJk:Str:="DELEGABLE"
noncomputable def bJj:Str:="SATP_MODE"
noncomputable def bO8:Str:="SATP_ROOT"
noncomputable def bJi:Str:="SATP_BITS"
noncomputable def bA0:Str:="NAMES"
noncomputable def aYu:Str:="low"
noncomputable def bO7:Str:="shape"
noncomputable def bXc:Str:="high"
noncomputable def aGz:Str:="pipeboard.words"
noncomputable def bJh:Str:="bits"
noncomputable def aE6:Str:="one"
noncomputable def aE5:Str:="other"
noncomputable def aQi:Str:="count"
noncomputable def bFp:Str:="first"
noncomputable def bJg:Str:="second"
noncomputable def bJf:Str:="whole"
noncomputable def bXb:Str:="rest"
noncomputable def bFo:Str:="COUNTERS"
noncomputable def aKw:Str:="law_nz0234_01"
noncomputable def bJe:Str:="MISA"
noncomputable def aMq:Str:="lowest_mode"
noncomputable def aMp:Str:="is_read_only"
noncomputable def aMo:Str:="vector_told"
noncomputable def aMn:Str:="status_told"
noncomputable def aPq:Str:="Csrs"
noncomputable def bO6:Str:="ENTRY"
noncomputable def bO5:Str:="VALID"
noncomputable def bO4:Str:="READ"
noncomputable def bO3:Str:="WRITE"
noncomputable def bO2:Str:="EXECUTE"
noncomputable def bO1:Str:="USER_paging"
noncomputable def bO0:Str:="ACCESSED"
noncomputable def bOz:Str:="DIRTY"
noncomputable def bOy:Str:="LEAF"
noncomputable def bOx:Str:="FLAG_BITS"
noncomputable def bOw:Str:="FETCH_paging"
noncomputable def aGq:Str:="fetch"
noncomputable def bOv:Str:="LOAD_paging"
noncomputable def aDb:Str:="load"
noncomputable def bOu:Str:="STORE_paging"
noncomputable def aDx:Str:="store"
noncomputable def bOt:Str:="PAGE_FAULTS"
noncomputable def bOs:Str:="ACCESS_FAULTS"
noncomputable def bOr:Str:="USER_MODE"
noncomputable def aPp:Str:="Layout"
noncomputable def aSq:Str:="is_leaf"
noncomputable def aSp:Str:="is_sound"
noncomputable def aSo:Str:="may"
noncomputable def aPo:Str:="Walker"
noncomputable def bJd:Str:="FETCH_core"
noncomputable def bJc:Str:="LOAD_core"
noncomputable def bOq:Str:="STORE_core"
noncomputable def bJb:Str:="KINDS"
noncomputable def bOp:Str:="TURNING"
noncomputable def bJa:Str:="BY_IMMEDIATE"
noncomputable def bI9:Str:="BY_REGISTER"
noncomputable def bI8:Str:="BY_LOAD"
noncomputable def bI7:Str:="BY_STORE"
noncomputable def bI6:Str:="BY_BRANCH"
noncomputable def aSn:Str:="both"
noncomputable def aSm:Str:="either"
noncomputable def aSl:Str:="unlike_bits"
noncomputable def aSk:Str:="set_less"
noncomputable def aSj:Str:="set_less_plain"
noncomputable def aSi:Str:="is_equal"
noncomputable def aSh:Str:="is_unlike"
noncomputable def aSg:Str:="is_not_less"
noncomputable def aSf:Str:="is_less_plain"
noncomputable def aSe:Str:="is_not_less_plain"
noncomputable def bI5:Str:="BOTH_WAYS"
noncomputable def bI4:Str:="REGISTERS_ONLY"
noncomputable def bI3:Str:="IMMEDIATES"
noncomputable def bI2:Str:="LOADS"
noncomputable def bI1:Str:="STORES"
noncomputable def bI0:Str:="BRANCHES"
noncomputable def aMm:Str:="row_of"
noncomputable def aPn:Str:="Core"
noncomputable def bIz:Str:="WORD"
noncomputable def bIy:Str:="MASK_memory"
noncomputable def bIx:Str:="SPACE"
noncomputable def bIw:Str:="SIZES"
noncomputable def aMl:Str:="need_size"
noncomputable def aMk:Str:="need_stretch"
noncomputable def aPm:Str:="Memory"
noncomputable def aPl:Str:="Rom"
noncomputable def aPk:Str:="Bus"
noncomputable def aE4:Str:="_law_box"
noncomputable def aMj:Str:="_law_take"
noncomputable def aMi:Str:="_law_scene"
noncomputable def aHy:Str:="_law_status"
noncomputable def aMh:Str:="_law_trapped"
noncomputable def aCt:Str:="law"
noncomputable def bFn:Str:="old"
noncomputable def aJk:Str:="need"
noncomputable def aVm:Str:="read"
noncomputable def aVl:Str:="read_machine"
noncomputable def aVk:Str:="counted"
noncomputable def aVj:Str:="write"
noncomputable def aSd:Str:="told"
noncomputable def aVi:Str:="write_machine"
noncomputable def aVh:Str:="write_counter"
noncomputable def bAz:Str:="line"
noncomputable def bAy:Str:="pending"
noncomputable def aVg:Str:="is_handed"
noncomputable def aVf:Str:="enter"
noncomputable def aVe:Str:="place_of"
noncomputable def bAx:Str:="leave_machine"
noncomputable def bAw:Str:="leave_supervisor"
noncomputable def aVd:Str:="data_mode"
noncomputable def bAv:Str:="is_paged"
noncomputable def aSc:Str:="root"
noncomputable def bAu:Str:="hart"
noncomputable def bFm:Str:="Csrs.__init__"
noncomputable def bFl:Str:="Csrs.time"
noncomputable def aE9:Str:="mode"
noncomputable def bXa:Str:="let"
noncomputable def bFk:Str:="Csrs.need"
noncomputable def bFj:Str:="Csrs.read"
noncomputable def bFi:Str:="Csrs.read_machine"
noncomputable def bFh:Str:="Csrs.counted"
noncomputable def bFg:Str:="Csrs.write"
noncomputable def bFf:Str:="Csrs.told"
noncomputable def bFe:Str:="Csrs.write_machine"
noncomputable def bFd:Str:="Csrs.write_counter"
noncomputable def bW9:Str:="is_on"
noncomputable def bIv:Str:="Csrs.line"
noncomputable def aYt:Str:="due"
noncomputable def bW8:Str:="own"
noncomputable def bW7:Str:="handed"
noncomputable def bW6:Str:="some"
noncomputable def bIu:Str:="Csrs.pending"
noncomputable def aYs:Str:="rows"
noncomputable def bFc:Str:="Csrs.is_handed"
noncomputable def aE8:Str:="place"
noncomputable def aLt:Str:="kept"
noncomputable def bFb:Str:="Csrs.enter"
noncomputable def bIt:Str:="vector"
noncomputable def bW5:Str:="base"
noncomputable def bFa:Str:="Csrs.place_of"
noncomputable def bIs:Str:="Csrs.leave_machine"
noncomputable def bIr:Str:="Csrs.leave_supervisor"
noncomputable def bE9:Str:="Csrs.data_mode"
noncomputable def bIq:Str:="Csrs.is_paged"
noncomputable def bE8:Str:="page_bits"
noncomputable def bIp:Str:="Csrs.root"
noncomputable def bIo:Str:="cycles"
noncomputable def bIn:Str:="delegated"
noncomputable def bIm:Str:="enabled"
noncomputable def bIl:Str:="lines_delegated"
noncomputable def bIk:Str:="plain"
noncomputable def bIj:Str:="retired"
noncomputable def bAt:Str:="status"
noncomputable def bIi:Str:="timer"
noncomputable def bIh:Str:="waiting"
noncomputable def aDn:Str:="pipeboard.paging"
noncomputable def aYr:Str:="parts"
noncomputable def bAs:Str:="down"
noncomputable def bAr:Str:="up"
noncomputable def bAq:Str:="is_begin"
noncomputable def bAp:Str:="pages_in"
noncomputable def aKv:Str:="entry"
noncomputable def aVc:Str:="physical"
noncomputable def bE7:Str:="Layout.__init__"
noncomputable def bIg:Str:="Layout.parts"
noncomputable def bIf:Str:="offset"
noncomputable def bIe:Str:="Layout.address"
noncomputable def bId:Str:="Layout.down"
noncomputable def bIc:Str:="Layout.up"
noncomputable def bIb:Str:="Layout.is_begin"
noncomputable def aJj:Str:="begin"
noncomputable def aMg:Str:="end"
noncomputable def bIa:Str:="Layout.pages_in"
noncomputable def bW4:Str:="flags"
noncomputable def bH9:Str:="Layout.entry"
noncomputable def bH8:Str:="Layout.physical"
noncomputable def bOo:Str:="entries"
noncomputable def bOn:Str:="large"
noncomputable def bOm:Str:="level_bits"
noncomputable def bOl:Str:="page"
noncomputable def bAo:Str:="sum_bit"
noncomputable def bAn:Str:="mxr"
noncomputable def bAm:Str:="translate"
noncomputable def bAl:Str:="entry_at"
noncomputable def bAk:Str:="large_page"
noncomputable def bAj:Str:="mark"
noncomputable def bAi:Str:="probe"
noncomputable def aVb:Str:="bus"
noncomputable def aVa:Str:="layout"
noncomputable def bE6:Str:="Walker.__init__"
noncomputable def bH7:Str:="Walker.translate"
noncomputable def bH6:Str:="Walker.entry_at"
noncomputable def bH5:Str:="Walker.large_page"
noncomputable def bH4:Str:="Walker.mark"
noncomputable def bH3:Str:="Walker.probe"
noncomputable def aBy:Str:="pipeboard.core"
noncomputable def bE5:Str:="instruction"
noncomputable def bAh:Str:="resume"
noncomputable def aLs:Str:="put"
noncomputable def aU9:Str:="learn"
noncomputable def aU8:Str:="execute"
noncomputable def aU7:Str:="jump"
noncomputable def aU6:Str:="execute_rest"
noncomputable def bAg:Str:="change"
noncomputable def bAf:Str:="leave"
noncomputable def aU5:Str:="trap"
noncomputable def aU4:Str:="step"
noncomputable def bAe:Str:="run"
noncomputable def bAd:Str:="until_trap"
noncomputable def bE4:Str:="Core.__init__"
noncomputable def bE3:Str:="Core.flush"
noncomputable def bE2:Str:="registers"
noncomputable def bE1:Str:="pc"
noncomputable def bH2:Str:="Core.resume"
noncomputable def bE0:Str:="Core.put"
noncomputable def bAc:Str:="csrs"
noncomputable def bW3:Str:="key"
noncomputable def bEz:Str:="Core.place"
noncomputable def bEy:Str:="Core.fetch"
noncomputable def aEf:Str:="size"
noncomputable def bW2:Str:="is_signed"
noncomputable def bEx:Str:="Core.load"
noncomputable def bH1:Str:="Core.store"
noncomputable def bOk:Str:="row"
noncomputable def bEw:Str:="Core.learn"
noncomputable def bW1:Str:="deed"
noncomputable def bEv:Str:="Core.execute"
noncomputable def bEu:Str:="Core.jump"
noncomputable def bW0:Str:="behind"
noncomputable def bEt:Str:="Core.execute_rest"
noncomputable def bWz:Str:="by_number"
noncomputable def bOj:Str:="source"
noncomputable def bWy:Str:="is_exchange"
noncomputable def bWx:Str:="is_written"
noncomputable def bH0:Str:="Core.change"
noncomputable def bHz:Str:="Core.leave"
noncomputable def bEs:Str:="Core.trap"
noncomputable def bWw:Str:="e"
noncomputable def bEr:Str:="Core.step"
noncomputable def bOi:Str:="most"
noncomputable def bHy:Str:="Core.run"
noncomputable def bHx:Str:="Core.until_trap"
noncomputable def bHw:Str:="known"
noncomputable def bEq:Str:="spots"
noncomputable def bHv:Str:="walker"
noncomputable def aBc:Str:="pipeboard.memory"
noncomputable def bAb:Str:="holds"
noncomputable def aU3:Str:="need_aligned"
noncomputable def aU2:Str:="put_word"
noncomputable def aU1:Str:="keep"
noncomputable def bAa:Str:="half"
noncomputable def aZ9:Str:="put_half"
noncomputable def aSb:Str:="octet"
noncomputable def aZ8:Str:="put_octet"
noncomputable def aZ7:Str:="put_part"
noncomputable def aU0:Str:="get"
noncomputable def aUz:Str:="zero"
noncomputable def aZ6:Str:="fill"
noncomputable def aZ5:Str:="copy"
noncomputable def aZ4:Str:="used"
noncomputable def aZ3:Str:="twin"
noncomputable def aZ2:Str:="alike"
noncomputable def bEp:Str:="Memory.__init__"
noncomputable def bHu:Str:="Memory.holds"
noncomputable def bEo:Str:="Memory.need"
noncomputable def bEn:Str:="Memory.need_aligned"
noncomputable def bEm:Str:="Memory.word"
noncomputable def bEl:Str:="Memory.put_word"
noncomputable def bWv:Str:="index"
noncomputable def bEk:Str:="Memory.keep"
noncomputable def bHt:Str:="Memory.half"
noncomputable def bHs:Str:="Memory.put_half"
noncomputable def bHr:Str:="Memory.octet"
noncomputable def bHq:Str:="Memory.put_octet"
noncomputable def bWu:Str:="ones"
noncomputable def bHp:Str:="Memory.put_part"
noncomputable def bEj:Str:="Memory.get"
noncomputable def bHo:Str:="Memory.put"
noncomputable def aH8:Str:="turn"
noncomputable def bHn:Str:="Memory.load"
noncomputable def bHm:Str:="octets"
noncomputable def aSa:Str:="at"
noncomputable def bHl:Str:="Memory.store"
noncomputable def bEi:Str:="Memory.zero"
noncomputable def bHk:Str:="Memory.fill"
noncomputable def bWt:Str:="target"
noncomputable def bHj:Str:="Memory.copy"
noncomputable def bHi:Str:="Memory.used"
noncomputable def bHh:Str:="Memory.rows"
noncomputable def bHg:Str:="Memory.twin"
noncomputable def bHf:Str:="Memory.alike"
noncomputable def bHe:Str:="words"
noncomputable def bHd:Str:="Rom.__init__"
noncomputable def bHc:Str:="Rom.size"
noncomputable def bHb:Str:="Rom.load"
noncomputable def bHa:Str:="Rom.store"
noncomputable def aZ1:Str:="attach"
noncomputable def aUy:Str:="stretch_at"
noncomputable def aZ0:Str:="is_memory"
noncomputable def aKu:Str:="memory"
noncomputable def bEh:Str:="Bus.__init__"
noncomputable def bWs:Str:="device"
noncomputable def bG9:Str:="Bus.attach"
noncomputable def bEg:Str:="stretch"
noncomputable def bEf:Str:="Bus.stretch_at"
noncomputable def bEe:Str:="Bus.load"
noncomputable def bG8:Str:="Bus.store"
noncomputable def bEd:Str:="Bus.fetch"
noncomputable def bG7:Str:="Bus.is_memory"
noncomputable def bG6:Str:="stretches"
noncomputable def aB7:Str:="script"
noncomputable def aQh:Str:="seed"
noncomputable def aQg:Str:="great"
noncomputable def aLr:Str:="cell"
noncomputable def aGp:Str:="box"
noncomputable def bWr:Str:="many"
noncomputable def bWq:Str:="digit"
noncomputable def bWp:Str:="mix"
noncomputable def bWo:Str:="way"
noncomputable def bWn:Str:="places"
noncomputable def bOh:Str:="word_of"
noncomputable def bWm:Str:="shut"
noncomputable def bOg:Str:="builtins"
noncomputable def bWl:Str:="__build_class__"
noncomputable def bWk:Str:="__import__"
noncomputable def aKt:Str:="abs"
noncomputable def bWj:Str:="all"
noncomputable def bWi:Str:="any"
noncomputable def bWh:Str:="ascii"
noncomputable def bWg:Str:="bin"
noncomputable def bWf:Str:="breakpoint"
noncomputable def bWe:Str:="callable"
noncomputable def bWd:Str:="chr"
noncomputable def bWc:Str:="compile"
noncomputable def bWb:Str:="delattr"
noncomputable def bWa:Str:="dir"
noncomputable def bV9:Str:="divmod"
noncomputable def bV8:Str:="eval"
noncomputable def bV7:Str:="exec"
noncomputable def bV6:Str:="format"
noncomputable def bV5:Str:="getattr"
noncomputable def bV4:Str:="globals"
noncomputable def bV3:Str:="hasattr"
noncomputable def bV2:Str:="hash"
noncomputable def bV1:Str:="hex"
noncomputable def bV0:Str:="id"
noncomputable def bVz:Str:="input"
noncomputable def bOf:Str:="isinstance"
noncomputable def bVy:Str:="issubclass"
noncomputable def bVx:Str:="iter"
noncomputable def bVw:Str:="aiter"
noncomputable def aUx:Str:="len"
noncomputable def bVv:Str:="locals"
noncomputable def bVu:Str:="max"
noncomputable def aUw:Str:="min"
noncomputable def bVt:Str:="next"
noncomputable def bVs:Str:="anext"
noncomputable def bVr:Str:="oct"
noncomputable def bVq:Str:="ord"
noncomputable def bVp:Str:="pow"
noncomputable def bVo:Str:="print"
noncomputable def bVn:Str:="repr"
noncomputable def bVm:Str:="round"
noncomputable def bVl:Str:="setattr"
noncomputable def bVk:Str:="sorted"
noncomputable def aPj:Str:="sum"
noncomputable def bVj:Str:="vars"
noncomputable def bVi:Str:="None"
noncomputable def bVh:Str:="Ellipsis"
noncomputable def bVg:Str:="NotImplemented"
noncomputable def bVf:Str:="False"
noncomputable def bVe:Str:="True"
noncomputable def bVd:Str:="bool"
noncomputable def bVc:Str:="memoryview"
noncomputable def bVb:Str:="bytearray"
noncomputable def bVa:Str:="bytes"
noncomputable def bU9:Str:="classmethod"
noncomputable def bU8:Str:="complex"
noncomputable def bU7:Str:="dict"
noncomputable def bU6:Str:="enumerate"
noncomputable def bU5:Str:="filter"
noncomputable def bU4:Str:="float"
noncomputable def bU3:Str:="frozenset"
noncomputable def bU2:Str:="property"
noncomputable def bOe:Str:="int"
noncomputable def bU1:Str:="list"
noncomputable def bU0:Str:="map"
noncomputable def bUz:Str:="object"
noncomputable def aUv:Str:="range"
noncomputable def bUy:Str:="reversed"
noncomputable def bUx:Str:="set"
noncomputable def bUw:Str:="slice"
noncomputable def bUv:Str:="staticmethod"
noncomputable def bUu:Str:="str"
noncomputable def bUt:Str:="super"
noncomputable def bUs:Str:="tuple"
noncomputable def bUr:Str:="type"
noncomputable def bUq:Str:="zip"
noncomputable def bUp:Str:="__debug__"
noncomputable def bUo:Str:="BaseException"
noncomputable def bUn:Str:="BaseExceptionGroup"
noncomputable def bUm:Str:="Exception"
noncomputable def bUl:Str:="GeneratorExit"
noncomputable def bUk:Str:="KeyboardInterrupt"
noncomputable def bUj:Str:="SystemExit"
noncomputable def bUi:Str:="ArithmeticError"
noncomputable def bUh:Str:="AssertionError"
noncomputable def bUg:Str:="AttributeError"
noncomputable def bUf:Str:="BufferError"
noncomputable def bUe:Str:="EOFError"
noncomputable def bUd:Str:="ImportError"
noncomputable def bUc:Str:="LookupError"
noncomputable def bUb:Str:="MemoryError"
noncomputable def bUa:Str:="NameError"
noncomputable def bT9:Str:="OSError"
noncomputable def bT8:Str:="ReferenceError"
noncomputable def bT7:Str:="RuntimeError"
noncomputable def bT6:Str:="StopAsyncIteration"
noncomputable def bT5:Str:="StopIteration"
noncomputable def bT4:Str:="SyntaxError"
noncomputable def bT3:Str:="SystemError"
noncomputable def bT2:Str:="TypeError"
noncomputable def bOd:Str:="ValueError"
noncomputable def bT1:Str:="Warning"
noncomputable def bT0:Str:="FloatingPointError"
noncomputable def bTz:Str:="OverflowError"
noncomputable def bTy:Str:="ZeroDivisionError"
noncomputable def bTx:Str:="BytesWarning"
noncomputable def bTw:Str:="DeprecationWarning"
noncomputable def bTv:Str:="EncodingWarning"
noncomputable def bTu:Str:="FutureWarning"
noncomputable def bTt:Str:="ImportWarning"
noncomputable def bTs:Str:="PendingDeprecationWarning"
noncomputable def bTr:Str:="ResourceWarning"
noncomputable def bTq:Str:="RuntimeWarning"
noncomputable def bTp:Str:="SyntaxWarning"
noncomputable def bTo:Str:="UnicodeWarning"
noncomputable def bTn:Str:="UserWarning"
noncomputable def bTm:Str:="BlockingIOError"
noncomputable def bTl:Str:="ChildProcessError"
noncomputable def bTk:Str:="ConnectionError"
noncomputable def bTj:Str:="FileExistsError"
noncomputable def bTi:Str:="FileNotFoundError"
noncomputable def bTh:Str:="InterruptedError"
noncomputable def bTg:Str:="IsADirectoryError"
noncomputable def bTf:Str:="NotADirectoryError"
noncomputable def bTe:Str:="PermissionError"
noncomputable def bTd:Str:="ProcessLookupError"
noncomputable def bTc:Str:="TimeoutError"
noncomputable def bTb:Str:="IndentationError"
noncomputable def bTa:Str:="_IncompleteInputError"
noncomputable def bS9:Str:="IndexError"
noncomputable def bS8:Str:="KeyError"
noncomputable def bS7:Str:="ModuleNotFoundError"
noncomputable def bS6:Str:="NotImplementedError"
noncomputable def bS5:Str:="PythonFinalizationError"
noncomputable def bS4:Str:="RecursionError"
noncomputable def bS3:Str:="UnboundLocalError"
noncomputable def bS2:Str:="UnicodeError"
noncomputable def bS1:Str:="BrokenPipeError"
noncomputable def bS0:Str:="ConnectionAbortedError"
noncomputable def bSz:Str:="ConnectionRefusedError"
noncomputable def bSy:Str:="ConnectionResetError"
noncomputable def bSx:Str:="TabError"
noncomputable def bSw:Str:="UnicodeDecodeError"
noncomputable def bSv:Str:="UnicodeEncodeError"
noncomputable def bSu:Str:="UnicodeTranslateError"
noncomputable def bSt:Str:="ExceptionGroup"
noncomputable def bSs:Str:="EnvironmentError"
noncomputable def bSr:Str:="IOError"
noncomputable def bSq:Str:="open"
noncomputable def bSp:Str:="quit"
noncomputable def bSo:Str:="exit"
noncomputable def bSn:Str:="copyright"
noncomputable def bSm:Str:="credits"
noncomputable def bSl:Str:="license"
noncomputable def bSk:Str:="help"
noncomputable def bSj:Str:="wanted"
noncomputable def bSi:Str:="goes"
noncomputable def bG5:Str:="fast"
noncomputable def bG4:Str:=".0"
end
noncomputable def y0:String:=PySem.W.SL.s2766695959194262286x5
noncomputable def y1:String:=PySem.W.SL.s14018661285674007319x4
noncomputable def y2:String:=PySem.W.SL.s7174869446012820540x8
noncomputable def y3:String:=PySem.W.SL.s5856160107412720595x4
noncomputable def y4:String:=PySem.W.SL.s658472552662922059x5
noncomputable def y5:String:=PySem.W.SL.s7097527257260152453x26
noncomputable def y6:String:=PySem.W.SL.s6070975301684473832x10
noncomputable def y7:String:=PySem.W.SL.s11030030927630378310x26
noncomputable def y8:String:=PySem.W.SL.s10062305145149207511x16
noncomputable def y9:String:=PySem.W.SL.s17162191345867700912x4
noncomputable def y10:String:=PySem.W.SL.s5946037652744460706x9
noncomputable def y11:String:=PySem.W.SL.s4278001404047624695x13
noncomputable def y12:String:=PySem.W.SL.s2742458400755230247x6
noncomputable def y13:String:=PySem.W.SL.s4209523147560561109x18
noncomputable def y14:String:=PySem.W.SL.s14755015743595814543x17
noncomputable def y15:String:=PySem.W.SL.s10220274742760427390x26
noncomputable def y16:String:=PySem.W.SL.s4290257624100764138x5
noncomputable def y17:String:=PySem.W.SL.s4860613602091757760x24
noncomputable def y18:String:=PySem.W.SL.s11443829558043349243x14
noncomputable def y19:String:=PySem.W.SL.s6511155373996960695x17
noncomputable def y20:String:=PySem.W.SL.s12411053484034534018x21
noncomputable def y21:String:=PySem.W.SL.s9222952809800978799x4
noncomputable def y22:String:=PySem.W.SL.s3492446563574874994x13
noncomputable def y23:String:=PySem.W.SL.s14340494229221121180x9
noncomputable def y24:String:=PySem.W.SL.s4096838299382398694x14
noncomputable def y25:String:=PySem.W.SL.s5991306692159431302x13
noncomputable def y26:String:=PySem.W.SL.s5752873746120287726x10
noncomputable def y27:String:=PySem.W.SL.s2783514499706994809x17
noncomputable def y28:String:="builtins.__doc__:str#opaque"
noncomputable def y29:String:="builtins.__package__:str#opaque"
noncomputable def y30:String:="builtins.__loader__:shared#opaque"
noncomputable def y31:String:=PySem.W.SL.s11665532747177232413x24
noncomputable def y32:String:=PySem.W.SL.s15183661809925369436x15
noncomputable def y33:String:=PySem.W.SL.s13915890719876406383x10
noncomputable def y34:String:=PySem.W.SL.s13459172003223722735x3
noncomputable def y35:String:=PySem.W.SL.s10557405761357834076x3
noncomputable def y36:String:=PySem.W.SL.s4233737765568776869x3
noncomputable def y37:String:=PySem.W.SL.s2508922471967985374x5
noncomputable def y38:String:=PySem.W.SL.s15574269061696679450x3
noncomputable def y39:String:=PySem.W.SL.s6016482663378992977x10
noncomputable def y40:String:=PySem.W.SL.s5596568736180474577x8
noncomputable def y41:String:=PySem.W.SL.s2839554839881490554x3
noncomputable def y42:String:=PySem.W.SL.s725004073602090463x7
noncomputable def y43:String:=PySem.W.SL.s9436932552931045734x7
noncomputable def y44:String:=PySem.W.SL.s2754603736356183583x3
noncomputable def y45:String:=PySem.W.SL.s15185746759980889043x6
noncomputable def y46:String:=PySem.W.SL.s8192189862530294059x4
noncomputable def y47:String:=PySem.W.SL.s7038307821325472102x4
noncomputable def y48:String:=PySem.W.SL.s5662562618415449548x6
noncomputable def y49:String:=PySem.W.SL.s15281542589158584767x7
noncomputable def y50:String:=PySem.W.SL.s17651547275483570877x7
noncomputable def y51:String:=PySem.W.SL.s4036449017235975746x7
noncomputable def y52:String:=PySem.W.SL.s8879979712987360175x4
noncomputable def y53:String:=PySem.W.SL.s1801250619170735830x3
noncomputable def y54:String:=PySem.W.SL.s17659931425627118568x2
noncomputable def y55:String:=PySem.W.SL.s6063217899685152688x5
noncomputable def y56:String:=PySem.W.SL.s8008927332132565319x10
noncomputable def y57:String:=PySem.W.SL.s3544116645089599534x10
noncomputable def y58:String:=PySem.W.SL.s13761710972054866084x4
noncomputable def y59:String:=PySem.W.SL.s12896375587409280029x5
noncomputable def y60:String:=PySem.W.SL.s13014049009108672802x3
noncomputable def y61:String:=PySem.W.SL.s13935586738268321596x6
noncomputable def y62:String:=PySem.W.SL.s8200498257699607233x3
noncomputable def y63:String:=PySem.W.SL.s14114244577727609259x3
noncomputable def y64:String:=PySem.W.SL.s1499430450269397089x4
noncomputable def y65:String:=PySem.W.SL.s8755793994789770505x5
noncomputable def y66:String:=PySem.W.SL.s15725212667919936108x3
noncomputable def y67:String:=PySem.W.SL.s15791221867095933363x3
noncomputable def y68:String:=PySem.W.SL.s81309575031448614x3
noncomputable def y69:String:=PySem.W.SL.s8069831620301644142x5
noncomputable def y70:String:=PySem.W.SL.s10061844253413749634x4
noncomputable def y71:String:=PySem.W.SL.s9496514870978017513x5
noncomputable def y72:String:=PySem.W.SL.s8899691144933366716x7
noncomputable def y73:String:=PySem.W.SL.s15201008993051130160x6
noncomputable def y74:String:=PySem.W.SL.s741896355592496720x3
noncomputable def y75:String:=PySem.W.SL.s17925004256654032244x4
noncomputable def y76:String:=PySem.W.SL.s11695548795398191787x4
noncomputable def y77:String:=PySem.W.SL.s4156966113859768872x10
noncomputable def y78:String:=PySem.W.SL.s9501651726347032510x9
noncomputable def y79:String:=PySem.W.SL.s15722918466584999320x5
noncomputable def y80:String:=PySem.W.SL.s591115383303110208x11
noncomputable def y81:String:=PySem.W.SL.s15721156781594690315x7
noncomputable def y82:String:=PySem.W.SL.s13429844117177748173x6
noncomputable def y83:String:=PySem.W.SL.s16463266125957815391x5
noncomputable def y84:String:=PySem.W.SL.s4922535414793169389x9
noncomputable def y85:String:=PySem.W.SL.s8101838861749082086x8
noncomputable def y86:String:=PySem.W.SL.s7066276694103001551x3
noncomputable def y87:String:=PySem.W.SL.s462964344163437139x3
noncomputable def y88:String:=PySem.W.SL.s1438033511350832697x5
noncomputable def y89:String:=PySem.W.SL.s14365286008749172514x8
noncomputable def y90:String:=PySem.W.SL.s3642769012341782148x3
noncomputable def y91:String:=PySem.W.SL.s4674234679698826739x5
noncomputable def y92:String:=PySem.W.SL.s16656946322747308186x12
noncomputable def y93:String:=PySem.W.SL.s10796804682411823810x3
noncomputable def y94:String:=PySem.W.SL.s14339709457334898076x3
noncomputable def y95:String:=PySem.W.SL.s6585700554429387442x18
noncomputable def y96:String:=PySem.W.SL.s7410770068591931388x13
noncomputable def y97:String:=PySem.W.SL.s11817881795495490833x17
noncomputable def y98:String:=PySem.W.SL.s15679963881808890155x10
noncomputable def y99:String:=PySem.W.SL.s3871700062485845797x15
noncomputable def bR9:String:=PySem.W.SL.s7689518266570723881x14
noncomputable def bR8:String:=PySem.W.SL.s9001593270443806431x14
noncomputable def bR7:String:=PySem.W.SL.s6882542574934516792x11
noncomputable def bR6:String:=PySem.W.SL.s14403400214490484960x8
noncomputable def bR5:String:=PySem.W.SL.s14457978657717015782x11
noncomputable def bR4:String:=PySem.W.SL.s1753610191782819921x11
noncomputable def bR3:String:=PySem.W.SL.s14119380538032626715x11
noncomputable def bR2:String:=PySem.W.SL.s11437920000406562045x9
noncomputable def bGg:String:=PySem.W.SL.s10852414792293593619x7
noncomputable def bR1:String:=PySem.W.SL.s14816307405966870543x14
noncomputable def bR0:String:=PySem.W.SL.s8682627914449686677x12
noncomputable def bRz:String:=PySem.W.SL.s4428170145600203450x18
noncomputable def bRy:String:=PySem.W.SL.s16067994140765818257x11
noncomputable def bRx:String:=PySem.W.SL.s2327743974964600596x11
noncomputable def bRw:String:=PySem.W.SL.s2804747833354056582x9
noncomputable def bRv:String:=PySem.W.SL.s14270485950484850486x7
noncomputable def bRu:String:=PySem.W.SL.s12041534306414923332x18
noncomputable def bRt:String:=PySem.W.SL.s2531307568338490285x13
noncomputable def bRs:String:=PySem.W.SL.s631175304937289666x17
noncomputable def bRr:String:=PySem.W.SL.s5144983644357021410x12
noncomputable def bRq:String:=PySem.W.SL.s18039099521571816885x18
noncomputable def bRp:String:=PySem.W.SL.s6011586214260557989x15
noncomputable def bRo:String:=PySem.W.SL.s5430567037509283100x13
noncomputable def bRn:String:=PySem.W.SL.s8117915138073963741x13
noncomputable def bRm:String:=PySem.W.SL.s3423317712779056401x25
noncomputable def bRl:String:=PySem.W.SL.s2007317383269046180x15
noncomputable def bRk:String:=PySem.W.SL.s17481586968713580700x14
noncomputable def bRj:String:=PySem.W.SL.s2450899226349176912x13
noncomputable def bRi:String:=PySem.W.SL.s16626165730633575011x14
noncomputable def bRh:String:=PySem.W.SL.s14288496050688921416x11
noncomputable def bRg:String:=PySem.W.SL.s5735081916595925998x15
noncomputable def bRf:String:=PySem.W.SL.s3865607918536308442x17
noncomputable def bRe:String:=PySem.W.SL.s13337502604062700212x15
noncomputable def bRd:String:=PySem.W.SL.s13114017843053701147x15
noncomputable def bRc:String:=PySem.W.SL.s17467278006356818441x17
noncomputable def bRb:String:=PySem.W.SL.s17722149559621369488x16
noncomputable def bRa:String:=PySem.W.SL.s7855274175708717672x17
noncomputable def bQ9:String:=PySem.W.SL.s13351283678309829046x18
noncomputable def bQ8:String:=PySem.W.SL.s6668348653404991179x15
noncomputable def bQ7:String:=PySem.W.SL.s12913350958174193794x18
noncomputable def bQ6:String:=PySem.W.SL.s16115879512475548326x12
noncomputable def bQ5:String:=PySem.W.SL.s15920661018069861047x16
noncomputable def bQ4:String:=PySem.W.SL.s10779130036587390575x21
noncomputable def bQ3:String:=PySem.W.SL.s7801419657504700863x10
noncomputable def bQ2:String:=PySem.W.SL.s1688129525768580628x8
noncomputable def bQ1:String:=PySem.W.SL.s1031832959479892071x19
noncomputable def bQ0:String:=PySem.W.SL.s8991790508128307865x19
noncomputable def bQz:String:=PySem.W.SL.s14539662485746970245x23
noncomputable def bQy:String:=PySem.W.SL.s11643622729373238714x14
noncomputable def bQx:String:=PySem.W.SL.s3386828779285465597x17
noncomputable def bQw:String:=PySem.W.SL.s13042696260734638735x12
noncomputable def bQv:String:=PySem.W.SL.s18239426817015966623x15
noncomputable def bQu:String:=PySem.W.SL.s1270395311379034370x22
noncomputable def bQt:String:=PySem.W.SL.s10696252587037064777x22
noncomputable def bQs:String:=PySem.W.SL.s7852717498200857586x20
noncomputable def bQr:String:=PySem.W.SL.s6377248116197321094x8
noncomputable def bQq:String:=PySem.W.SL.s3834378056692298002x18
noncomputable def bQp:String:=PySem.W.SL.s17586630440231065808x18
noncomputable def bQo:String:=PySem.W.SL.s15234114252648025395x21
noncomputable def bQn:String:=PySem.W.SL.s8496462677383758984x14
noncomputable def bQm:String:=PySem.W.SL.s16789243406116112673x4
noncomputable def bQl:String:=PySem.W.SL.s14400166428656793546x20
noncomputable def bQk:String:=PySem.W.SL.s5857708277339239366x20
noncomputable def bQj:String:=PySem.W.S.litE [PySem.W.S.mk8 98 rfl,PySem.W.S.mk8 117 rfl,PySem.W.S.mk8 105 rfl,PySem.W.S.mk8 108 rfl,PySem.W.S.mk8 116 rfl,PySem.W.S.mk8 105 rfl,PySem.W.S.mk8 110 rfl,PySem.W.S.mk8 115 rfl,PySem.W.S.mk8 46 rfl,PySem.W.S.mk8 99 rfl,PySem.W.S.mk8 111 rfl,PySem.W.S.mk8 112 rfl,PySem.W.S.mk8 121 rfl,PySem.W.S.mk8 114 rfl,PySem.W.S.mk8 105 rfl,PySem.W.S.mk8 103 rfl,PySem.W.S.mk8 104 rfl,PySem.W.S.mk8 116 rfl,PySem.W.S.mk8 35 rfl,PySem.W.S.mk8 111 rfl,PySem.W.S.mk8 112 rfl,PySem.W.S.mk8 97 rfl,PySem.W.S.mk8 113 rfl,PySem.W.S.mk8 117 rfl,PySem.W.S.mk8 101 rfl] [98,117,105,108,116,105,110,115,46,99,111,112,121,114,105,103,104,116,35,111,112,97,113,117,101] rfl rfl
noncomputable def bQi:String:=PySem.W.S.litE [PySem.W.S.mk8 98 rfl,PySem.W.S.mk8 117 rfl,PySem.W.S.mk8 105 rfl,PySem.W.S.mk8 108 rfl,PySem.W.S.mk8 116 rfl,PySem.W.S.mk8 105 rfl,PySem.W.S.mk8 110 rfl,PySem.W.S.mk8 115 rfl,PySem.W.S.mk8 46 rfl,PySem.W.S.mk8 99 rfl,PySem.W.S.mk8 114 rfl,PySem.W.S.mk8 101 rfl,PySem.W.S.mk8 100 rfl,PySem.W.S.mk8 105 rfl,PySem.W.S.mk8 116 rfl,PySem.W.S.mk8 115 rfl,PySem.W.S.mk8 35 rfl,PySem.W.S.mk8 111 rfl,PySem.W.S.mk8 112 rfl,PySem.W.S.mk8 97 rfl,PySem.W.S.mk8 113 rfl,PySem.W.S.mk8 117 rfl,PySem.W.S.mk8 101 rfl] [98,117,105,108,116,105,110,115,46,99,114,101,100,105,116,115,35,111,112,97,113,117,101] rfl rfl
noncomputable def bQh:String:=PySem.W.S.litE [PySem.W.S.mk8 98 rfl,PySem.W.S.mk8 117 rfl,PySem.W.S.mk8 105 rfl,PySem.W.S.mk8 108 rfl,PySem.W.S.mk8 116 rfl,PySem.W.S.mk8 105 rfl,PySem.W.S.mk8 110 rfl,PySem.W.S.mk8 115 rfl,PySem.W.S.mk8 46 rfl,PySem.W.S.mk8 108 rfl,PySem.W.S.mk8 105 rfl,PySem.W.S.mk8 99 rfl,PySem.W.S.mk8 101 rfl,PySem.W.S.mk8 110 rfl,PySem.W.S.mk8 115 rfl,PySem.W.S.mk8 101 rfl,PySem.W.S.mk8 35 rfl,PySem.W.S.mk8 111 rfl,PySem.W.S.mk8 112 rfl,PySem.W.S.mk8 97 rfl,PySem.W.S.mk8 113 rfl,PySem.W.S.mk8 117 rfl,PySem.W.S.mk8 101 rfl] [98,117,105,108,116,105,110,115,46,108,105,99,101,110,115,101,35,111,112,97,113,117,101] rfl rfl
noncomputable def bQg:String:=PySem.W.SL.s7804999707787243718x20
noncomputable def bN2:String:=PySem.W.SL.s6658869562736209489x6
noncomputable def sV(a:Str)(t:Nat):Value:=.str a t
noncomputable def rV(a:Nat):Value:=.ref a
noncomputable def cV(a:Nat):Value:=.int (.ofNat a) 0
noncomputable def oV(v:Value):Option Value:=some v
noncomputable def tU(l:List Value):Obj:=⟨.type y0,none,.seq ⟨l⟩ 0,⟨[]⟩⟩
noncomputable def dV(y:String)(l:List DictEntry)(n:Nat):Obj:=⟨.type y,none,.dict ⟨l⟩ n,⟨[]⟩⟩
noncomputable def nV(l:List Value):Obj:=⟨.none,none,.fields ⟨l⟩,⟨[]⟩⟩
noncomputable def fV(y:String)(l:List Value):Obj:=⟨.type y,none,.fields ⟨l⟩,⟨[]⟩⟩
noncomputable def uV(a b:Str)(s:Stmt):Obj:=⟨.none,none,.func ⟨a,b,fdP s,.stmts (fdB s),fdS s,0,[],.none,.none,.none,.none,none,.none,.none,0⟩,⟨[]⟩⟩
noncomputable def kV(a b:Str)(s:Stmt)(d:Value)(m:Str)(t c:Nat):Obj:=⟨.type y2,none,.func ⟨a,b,fdP s,.stmts (fdB s),fdS s,3,[],d,.none,.none,.str m t,none,.ref c,.none,0⟩,⟨[]⟩⟩
noncomputable def apE(a b:List DictEntry):List DictEntry:=PySem.W.R.appendR a b
noncomputable def apL(a b:List (Nat×Obj)):List (Nat×Obj):=PySem.W.R.appendR a b
section
local macro_rules | `($n:num) => `(nat_lit $n)
noncomputable def btL(P:Params):List Obj:=[
dV y1 [eK P q3 1 (sV bOg 160),eK P q5 2 (.builtin y28),eK P q6 3 (.builtin y29),eK P q7 4 (.builtin y30),eK P q8 5 (.builtin y31),eK P bWl 6 (.builtin y32),eK P bWk 7 (.builtin y33),eK P aKt 8 (.builtin y34),eK P bWj 9 (.builtin y35),eK P bWi 10 (.builtin y36),eK P bWh 11 (.builtin y37),eK P bWg 12 (.builtin y38),eK P bWf 13 (.builtin y39),eK P bWe 14 (.builtin y40),eK P bWd 15 (.builtin y41),eK P bWc 16 (.builtin y42),eK P bWb 17 (.builtin y43),eK P bWa 18 (.builtin y44),eK P bV9 19 (.builtin y45),eK P bV8 20 (.builtin y46),eK P bV7 21 (.builtin y47),eK P bV6 22 (.builtin y48),eK P bV5 23 (.builtin y49),eK P bV4 24 (.builtin y50),eK P bV3 25 (.builtin y51),eK P bV2 26 (.builtin y52),eK P bV1 27 (.builtin y53),eK P bV0 28 (.builtin y54),eK P bVz 29 (.builtin y55),eK P bOf 30 (.builtin y56),eK P bVy 31 (.builtin y57),eK P bVx 32 (.builtin y58),eK P bVw 33 (.builtin y59),eK P aUx 34 (.builtin y60),eK P bVv 35 (.builtin y61),eK P bVu 36 (.builtin y62),eK P aUw 37 (.builtin y63),eK P bVt 38 (.builtin y64),eK P bVs 39 (.builtin y65),eK P bVr 40 (.builtin y66),eK P bVq 41 (.builtin y67),eK P bVp 42 (.builtin y68),eK P bVo 43 (.builtin y69),eK P bVn 44 (.builtin y70),eK P bVm 45 (.builtin y71),eK P bVl 46 (.builtin y72),eK P bVk 47 (.builtin y73),eK P aPj 48 (.builtin y74),eK P bVj 49 (.builtin y75),eK P bVi 50 .none,eK P bVh 51 (.ellipsis),eK P bVg 52 (.notImplemented),eK P bVf 53 (.bool false),eK P bVe 54 (.bool true),eK P bVd 55 (.type y76),eK P bVc 56 (.type y77),eK P bVb 57 (.type y78),eK P bVa 58 (.type y79),eK P bU9 59 (.type y80),eK P bU8 60 (.type y81),eK P bU7 61 (.type y1),eK P bU6 62 (.type y23),eK P bU5 63 (.type y82),eK P bU4 64 (.type y83),eK P bU3 65 (.type y84),eK P bU2 66 (.type y85),eK P bOe 67 (.type y86),eK P bU1 68 (.type y21),eK P bU0 69 (.type y87),eK P bUz 70 (.type y12),eK P aUv 71 (.type y88),eK P bUy 72 (.type y89),eK P bUx 73 (.type y90),eK P bUw 74 (.type y91),eK P bUv 75 (.type y92),eK P bUu 76 (.type y93),eK P bUt 77 (.type y16),eK P bUs 78 (.type y0),eK P bUr 79 (.type y9),eK P bUq 80 (.type y94),eK P bUp 81 (.bool true),eK P bUo 82 (.type y11),eK P bUn 83 (.type y95),eK P bUm 84 (.type y10),eK P bUl 85 (.type y96),eK P bUk 86 (.type y97),eK P bUj 87 (.type y98),eK P bUi 88 (.type y99),eK P bUh 89 (.type bR9),eK P bUg 90 (.type bR8),eK P bUf 91 (.type bR7),eK P bUe 92 (.type bR6),eK P bUd 93 (.type bR5),eK P bUc 94 (.type bR4),eK P bUb 95 (.type bR3),eK P bUa 96 (.type bR2),eK P bT9 97 (.type bGg),eK P bT8 98 (.type bR1),eK P bT7 99 (.type bR0),eK P bT6 100 (.type bRz),eK P bT5 101 (.type y25),eK P bT4 102 (.type bRy),eK P bT3 103 (.type bRx),eK P bT2 104 (.type bRw),eK P bOd 105 (.type y6),eK P bT1 106 (.type bRv),eK P bT0 107 (.type bRu),eK P bTz 108 (.type bRt),eK P bTy 109 (.type bRs),eK P bTx 110 (.type bRr),eK P bTw 111 (.type bRq),eK P bTv 112 (.type bRp),eK P bTu 113 (.type bRo),eK P bTt 114 (.type bRn),eK P bTs 115 (.type bRm),eK P bTr 116 (.type bRl),eK P bTq 117 (.type bRk),eK P bTp 118 (.type bRj),eK P bTo 119 (.type bRi),eK P bTn 120 (.type bRh),eK P bTm 121 (.type bRg),eK P bTl 122 (.type bRf),eK P bTk 123 (.type bRe),eK P bTj 124 (.type bRd),eK P bTi 125 (.type bRc),eK P bTh 126 (.type bRb),eK P bTg 127 (.type bRa),eK P bTf 128 (.type bQ9),eK P bTe 129 (.type bQ8),eK P bTd 130 (.type bQ7),eK P bTc 131 (.type bQ6),eK P bTb 132 (.type bQ5),eK P bTa 133 (.type bQ4),eK P bS9 134 (.type bQ3),eK P bS8 135 (.type bQ2),eK P bS7 136 (.type bQ1),eK P bS6 137 (.type bQ0),eK P bS5 138 (.type bQz),eK P bS4 139 (.type bQy),eK P bS3 140 (.type bQx),eK P bS2 141 (.type bQw),eK P bS1 142 (.type bQv),eK P bS0 143 (.type bQu),eK P bSz 144 (.type bQt),eK P bSy 145 (.type bQs),eK P bSx 146 (.type bQr),eK P bSw 147 (.type bQq),eK P bSv 148 (.type bQp),eK P bSu 149 (.type bQo),eK P bSt 150 (.type bQn),eK P bSs 151 (.type bGg),eK P bSr 152 (.type bGg),eK P bSq 153 (.builtin bQm),eK P bSp 154 (.builtin bQl),eK P bSo 155 (.builtin bQk),eK P bSn 156 (.builtin bQj),eK P bSm 157 (.builtin bQi),eK P bSl 158 (.builtin bQh),eK P bSk 159 (.builtin bQg)] 159,
dV y1 [eK P bOg 162 (rV 4),eK P q2 163 (rV 5)] 2,
⟨.none,none,.dict ⟨[]⟩ 0,⟨[]⟩⟩,
dV y1 [eK P q3 165 (sV q2 164),eK P q5 166 .none,eK P q6 167 .none,eK P q7 168 (.builtin y5),eK P q8 169 .none,eK P q9 170 (rV 6),eK P q10 171 (rV 4),eK P q11 173 (sV q1 172),eK P q12 174 .none] 9,
⟨.type bN2,(some 0),.plain,⟨[]⟩⟩,
⟨.type bN2,(some 3),.plain,⟨[]⟩⟩,
dV y1 [] 0,
tU [],
nV [],
fV y3 [sV q0 176,sV q0 177,sV q1 178,cV 1,cV 0,cV 0,cV 0,cV 0,rV 7,.bool false,cV 175,rV 8,.none,.none,.none,.none,cV 179,cV 1,sV q1 180],
⟨.type y4,none,.plain,⟨[(oV (rV 9)),(oV (rV 3)),(oV (rV 3)),none,(oV (sV q2 164)),none,(oV (rV 0))]⟩⟩]
noncomputable def btH(P:Params):Heap:=⟨⟨btL P⟩,aBk⟩
noncomputable def aCo(P:Params):BT:=aTg .nil 0 (btL P)
noncomputable def cA1(p:Program)(P:Params):List (Nat×Obj):=[
(11,tU []),
(12,nV []),
(13,fV y3 [sV q0 182,sV q0 183,sV q1 184,cV 1,cV 0,cV 0,cV 0,cV 0,rV 11,.bool false,cV 181,rV 12,.none,.none,.none,.none,cV 185,cV 1,sV q1 186]),
(14,⟨.type y4,none,.plain,⟨[(oV (rV 13)),(oV (rV 3)),(oV (rV 3)),none,(oV (sV q2 164)),none,(oV (rV 0))]⟩⟩)]
noncomputable def D0(p:Program)(P:Params):List (Nat×Obj):=cA1 p P
noncomputable def T0(p:Program)(P:Params):BT:=aDc (aCo P) (D0 p P)
noncomputable def S0(p:Program)(w:World)(os:OsState):SharedT:=⟨T0 p w.params,15,aBk,#[],boot_drawn,187,os⟩
noncomputable def cA0(p:Program)(P:Params):List (Nat×Obj):=[
(3,dV y1 [eK P q3 165 (sV q4 346),eK P q5 166 .none,eK P q6 167 .none,eK P q7 168 (.builtin y5),eK P q8 169 .none,eK P q9 170 (rV 6),eK P q10 171 (rV 4),eK P q11 173 (sV q1 172),eK P q12 174 .none,eK P q13 193 (rV 21),eK P q14 223 (rV 39),eK P q15 239 (rV 52),eK P q16 264 (rV 71),eK P q17 289 (rV 90),eK P q18 345 (rV 110),eK P q19 456 (rV 113),eK P q20 458 (z 3 457),eK P q21 460 (z 15 459),eK P q22 462 (z 19 461),eK P q23 464 (z 23 463),eK P q24 466 (z 35 465),eK P q25 468 (z 51 467),eK P q26 470 (z 55 469),eK P q27 472 (z 99 471),eK P q28 474 (z 103 473),eK P q29 476 (z 111 475),eK P q30 478 (z 115 477),eK P q31 529 (rV 140),eK P q32 575 (rV 169),eK P q33 589 (rV 181),eK P q34 598 (rV 188)] 31),
(12,nV [cV 1,cV 0,rV 20,cV 5,cV 0,rV 27,cV 10,cV 0,rV 48,cV 12,cV 0,rV 60,cV 17,cV 0,rV 79,cV 22,cV 0,rV 98,cV 55,cV 0,rV 121,cV 67,cV 0,rV 150,cV 78,cV 0,rV 180,cV 84,cV 0,rV 187]),
(15,tU []),
(16,nV []),
(17,tU [sV q35 190]),
(18,tU []),
(19,uV q13 q13 (F p 0)),
(20,fV y3 [sV q13 187,sV q13 188,sV q1 189,cV 1,cV 1,cV 0,cV 0,cV 3,rV 15,.bool true,cV 181,rV 16,.none,rV 17,rV 18,rV 19,cV 191,cV 1,sV q1 192]),
(21,kV q13 q13 (F p 0) .none q2 164 20),
(22,tU [.type y6]),
(23,fV y7 [.builtin y8,.type y9]),
(24,dV y1 [eK P q36 203 (sV q37 194),eK P q38 205 (sV q14 204),eK P q39 207 (z 5 206),eK P q40 216 (rV 36),eK P q41 218 (rV 37)] 5),
(25,tU []),
(26,nV [cV 7,cV 4,rV 35]),
(27,fV y3 [sV q14 198,sV q14 199,sV q1 200,cV 5,cV 0,cV 0,cV 0,cV 0,rV 25,.bool false,cV 181,rV 26,.none,.none,.none,.none,cV 201,cV 5,sV q1 202]),
(28,⟨.type y4,none,.plain,⟨[(oV (rV 27)),(oV (rV 3)),(oV (rV 24)),none,(oV (sV q37 194)),none,(oV (rV 0))]⟩⟩),
(29,tU [sV q42 208]),
(30,tU []),
(31,nV []),
(32,tU [sV q43 212,sV q44 213]),
(33,tU []),
(34,uV q40 q45 (M p 2 0)),
(35,fV y3 [sV q40 209,sV q45 210,sV q1 211,cV 7,cV 2,cV 0,cV 0,cV 3,rV 30,.bool true,cV 181,rV 31,.none,rV 32,rV 33,rV 34,cV 214,cV 7,sV q1 215]),
(36,kV q40 q45 (M p 2 0) (rV 29) q37 194 35),
(37,tU [sV q44 217]),
(38,dV y1 [eK P q36 203 (sV q37 194),eK P q39 207 (z 5 206),eK P q40 216 (rV 36),eK P q41 218 (rV 37),eK P q46 220 (rV 40),eK P q5 221 .none] 3),
(39,⟨.type y9,none,.cls ⟨q14,[.type y6],[rV 39,.type y6,.type y10,.type y11,.type y12],38,q14,true,[],[rV 52,rV 71,rV 90,rV 110],false,none,false⟩,⟨[(oV (rV 22)),none,(oV (sV q14 196)),(oV (sV q14 204)),(oV (.builtin y13)),(oV (.bool true))]⟩⟩),
(40,fV y14 [sV q46 219,rV 39,.builtin y15,.none]),
(41,fV y16 [rV 39,rV 39,rV 39]),
(42,fV y7 [.builtin y17,rV 39]),
(43,tU [rV 39]),
(44,fV y7 [.builtin y8,.type y9]),
(45,dV y1 [eK P q36 231 (sV q37 194),eK P q38 233 (sV q15 232),eK P q39 235 (z 10 234),eK P q41 236 (rV 50)] 4),
(46,tU []),
(47,nV []),
(48,fV y3 [sV q15 226,sV q15 227,sV q1 228,cV 10,cV 0,cV 0,cV 0,cV 0,rV 46,.bool false,cV 181,rV 47,.none,.none,.none,.none,cV 229,cV 10,sV q1 230]),
(49,⟨.type y4,none,.plain,⟨[(oV (rV 48)),(oV (rV 3)),(oV (rV 45)),none,(oV (sV q37 194)),none,(oV (rV 0))]⟩⟩),
(50,tU []),
(51,dV y1 [eK P q36 231 (sV q37 194),eK P q39 235 (z 10 234),eK P q41 236 (rV 50),eK P q5 237 .none] 2),
(52,⟨.type y9,none,.cls ⟨q15,[rV 39],[rV 52,rV 39,.type y6,.type y10,.type y11,.type y12],51,q15,true,[],[],false,none,false⟩,⟨[(oV (rV 43)),none,(oV (sV q15 224)),(oV (sV q15 232)),(oV (.builtin y13)),(oV (.bool true))]⟩⟩),
(53,fV y16 [rV 52,rV 52,rV 52]),
(54,fV y7 [.builtin y17,rV 52]),
(55,tU [rV 39]),
(56,fV y7 [.builtin y8,.type y9]),
(57,dV y1 [eK P q36 247 (sV q37 194),eK P q38 249 (sV q16 248),eK P q39 251 (z 12 250),eK P q40 259 (rV 68),eK P q41 261 (rV 69)] 5),
(58,tU []),
(59,nV [cV 14,cV 4,rV 67]),
(60,fV y3 [sV q16 242,sV q16 243,sV q1 244,cV 12,cV 0,cV 0,cV 0,cV 0,rV 58,.bool false,cV 181,rV 59,.none,.none,.none,.none,cV 245,cV 12,sV q1 246]),
(61,⟨.type y4,none,.plain,⟨[(oV (rV 60)),(oV (rV 3)),(oV (rV 57)),none,(oV (sV q37 194)),none,(oV (rV 0))]⟩⟩),
(62,tU []),
(63,nV []),
(64,tU [sV q43 255,sV q47 256]),
(65,tU []),
(66,uV q40 q48 (M p 4 0)),
(67,fV y3 [sV q40 252,sV q48 253,sV q1 254,cV 14,cV 2,cV 0,cV 0,cV 3,rV 62,.bool true,cV 181,rV 63,.none,rV 64,rV 65,rV 66,cV 257,cV 14,sV q1 258]),
(68,kV q40 q48 (M p 4 0) .none q37 194 67),
(69,tU [sV q47 260]),
(70,dV y1 [eK P q36 247 (sV q37 194),eK P q39 251 (z 12 250),eK P q40 259 (rV 68),eK P q41 261 (rV 69),eK P q5 262 .none] 2),
(71,⟨.type y9,none,.cls ⟨q16,[rV 39],[rV 71,rV 39,.type y6,.type y10,.type y11,.type y12],70,q16,true,[],[],false,none,false⟩,⟨[(oV (rV 55)),none,(oV (sV q16 240)),(oV (sV q16 248)),(oV (.builtin y13)),(oV (.bool true))]⟩⟩),
(72,fV y16 [rV 71,rV 71,rV 71])]
noncomputable def cAz(p:Program)(P:Params):List (Nat×Obj):=[
(73,fV y7 [.builtin y17,rV 71]),
(74,tU [rV 39]),
(75,fV y7 [.builtin y8,.type y9]),
(76,dV y1 [eK P q36 272 (sV q37 194),eK P q38 274 (sV q17 273),eK P q39 276 (z 17 275),eK P q40 284 (rV 87),eK P q41 286 (rV 88)] 5),
(77,tU []),
(78,nV [cV 19,cV 4,rV 86]),
(79,fV y3 [sV q17 267,sV q17 268,sV q1 269,cV 17,cV 0,cV 0,cV 0,cV 0,rV 77,.bool false,cV 181,rV 78,.none,.none,.none,.none,cV 270,cV 17,sV q1 271]),
(80,⟨.type y4,none,.plain,⟨[(oV (rV 79)),(oV (rV 3)),(oV (rV 76)),none,(oV (sV q37 194)),none,(oV (rV 0))]⟩⟩),
(81,tU []),
(82,nV []),
(83,tU [sV q43 280,sV q49 281]),
(84,tU []),
(85,uV q40 q50 (M p 5 0)),
(86,fV y3 [sV q40 277,sV q50 278,sV q1 279,cV 19,cV 2,cV 0,cV 0,cV 3,rV 81,.bool true,cV 181,rV 82,.none,rV 83,rV 84,rV 85,cV 282,cV 19,sV q1 283]),
(87,kV q40 q50 (M p 5 0) .none q37 194 86),
(88,tU [sV q49 285]),
(89,dV y1 [eK P q36 272 (sV q37 194),eK P q39 276 (z 17 275),eK P q40 284 (rV 87),eK P q41 286 (rV 88),eK P q5 287 .none] 2),
(90,⟨.type y9,none,.cls ⟨q17,[rV 39],[rV 90,rV 39,.type y6,.type y10,.type y11,.type y12],89,q17,true,[],[],false,none,false⟩,⟨[(oV (rV 74)),none,(oV (sV q17 265)),(oV (sV q17 273)),(oV (.builtin y13)),(oV (.bool true))]⟩⟩),
(91,fV y16 [rV 90,rV 90,rV 90]),
(92,fV y7 [.builtin y17,rV 90]),
(93,tU [rV 39]),
(94,fV y7 [.builtin y8,.type y9]),
(95,dV y1 [eK P q36 297 (sV q37 194),eK P q38 299 (sV q18 298),eK P q39 301 (z 22 300),eK P q51 303 (z 0 302),eK P q52 305 (z 1 304),eK P q53 307 (z 2 306),eK P q54 309 (z 3 308),eK P q55 311 (z 4 310),eK P q56 313 (z 5 312),eK P q57 315 (z 6 314),eK P q58 317 (z 7 316),eK P q59 319 (z 8 318),eK P q60 321 (z 9 320),eK P q61 323 (z 11 322),eK P q62 325 (z 12 324),eK P q63 327 (z 13 326),eK P q64 329 (z 15 328),eK P q40 339 (rV 107),eK P q41 342 (rV 108)] 19),
(96,tU []),
(97,nV [cV 38,cV 4,rV 106]),
(98,fV y3 [sV q18 292,sV q18 293,sV q1 294,cV 22,cV 0,cV 0,cV 0,cV 0,rV 96,.bool false,cV 181,rV 97,.none,.none,.none,.none,cV 295,cV 22,sV q1 296]),
(99,⟨.type y4,none,.plain,⟨[(oV (rV 98)),(oV (rV 3)),(oV (rV 95)),none,(oV (sV q37 194)),none,(oV (rV 0))]⟩⟩),
(100,tU [z 0 330]),
(101,tU []),
(102,nV []),
(103,tU [sV q43 334,sV q65 335,sV q66 336]),
(104,tU []),
(105,uV q40 q67 (M p 6 14)),
(106,fV y3 [sV q40 331,sV q67 332,sV q1 333,cV 38,cV 3,cV 0,cV 0,cV 3,rV 101,.bool true,cV 181,rV 102,.none,rV 103,rV 104,rV 105,cV 337,cV 38,sV q1 338]),
(107,kV q40 q67 (M p 6 14) (rV 100) q37 194 106),
(108,tU [sV q65 340,sV q66 341]),
(109,dV y1 [eK P q36 297 (sV q37 194),eK P q39 301 (z 22 300),eK P q51 303 (z 0 302),eK P q52 305 (z 1 304),eK P q53 307 (z 2 306),eK P q54 309 (z 3 308),eK P q55 311 (z 4 310),eK P q56 313 (z 5 312),eK P q57 315 (z 6 314),eK P q58 317 (z 7 316),eK P q59 319 (z 8 318),eK P q60 321 (z 9 320),eK P q61 323 (z 11 322),eK P q62 325 (z 12 324),eK P q63 327 (z 13 326),eK P q64 329 (z 15 328),eK P q40 339 (rV 107),eK P q41 342 (rV 108),eK P q5 343 .none] 2),
(110,⟨.type y9,none,.cls ⟨q18,[rV 39],[rV 110,rV 39,.type y6,.type y10,.type y11,.type y12],109,q18,true,[],[],false,none,false⟩,⟨[(oV (rV 93)),none,(oV (sV q18 290)),(oV (sV q18 298)),(oV (.builtin y13)),(oV (.bool true))]⟩⟩),
(111,fV y16 [rV 110,rV 110,rV 110]),
(112,fV y7 [.builtin y17,rV 110]),
(113,dV y1 [eK P q68 348 (z 256 349),eK P q69 351 (z 260 352),eK P q70 354 (z 261 355),eK P q71 357 (z 262 358),eK P q72 360 (z 320 361),eK P q73 363 (z 321 364),eK P q74 366 (z 322 367),eK P q75 369 (z 323 370),eK P q76 372 (z 324 373),eK P q77 375 (z 384 376),eK P q78 378 (z 768 379),eK P q79 381 (z 769 382),eK P q80 384 (z 770 385),eK P q81 387 (z 771 388),eK P q82 390 (z 772 391),eK P q83 393 (z 773 394),eK P q84 396 (z 774 397),eK P q85 399 (z 832 400),eK P q86 402 (z 833 403),eK P q87 405 (z 834 406),eK P q88 408 (z 835 409),eK P q89 411 (z 836 412),eK P q90 414 (z 2816 415),eK P q91 417 (z 2818 418),eK P q92 420 (z 2944 421),eK P q93 423 (z 2946 424),eK P q94 426 (z 3072 427),eK P q95 429 (z 3073 430),eK P q96 432 (z 3074 433),eK P q97 435 (z 3200 436),eK P q98 438 (z 3201 439),eK P q99 441 (z 3202 442),eK P bBe 444 (z 3857 445),eK P bBd 447 (z 3858 448),eK P bBc 450 (z 3859 451),eK P aZd 452 (z 3860 453)] 36),
(114,dV y1 [eK P q85 399 (z 832 400),eK P q86 402 (z 833 403),eK P q87 405 (z 834 406),eK P q88 408 (z 835 409),eK P q89 411 (z 836 412),eK P q90 414 (z 2816 415),eK P q91 417 (z 2818 418),eK P q92 420 (z 2944 421),eK P q93 423 (z 2946 424),eK P q94 426 (z 3072 427),eK P q95 429 (z 3073 430),eK P q96 432 (z 3074 433),eK P q97 435 (z 3200 436),eK P q98 438 (z 3201 439),eK P q99 441 (z 3202 442),eK P bBe 444 (z 3857 445),eK P bBd 447 (z 3858 448)] 17),
(115,dV y1 [eK P bBc 450 (z 3859 451),eK P aZd 452 (z 3860 453)] 2),
(116,tU []),
(117,fV y7 [.builtin y8,.type y9]),
(118,dV y1 [eK P q36 486 (sV q4 346),eK P q38 488 (sV q31 487),eK P q39 490 (z 55 489),eK P q40 508 (rV 130),eK P bBb 515 (rV 137),eK P q41 522 (rV 138)] 6),
(119,tU []),
(120,nV [cV 57,cV 4,rV 129,cV 65,cV 4,rV 136]),
(121,fV y3 [sV q31 481,sV q31 482,sV q1 483,cV 55,cV 0,cV 0,cV 0,cV 0,rV 119,.bool false,cV 181,rV 120,.none,.none,.none,.none,cV 484,cV 55,sV q1 485]),
(122,⟨.type y4,none,.plain,⟨[(oV (rV 121)),(oV (rV 3)),(oV (rV 118)),none,(oV (sV q4 346)),none,(oV (rV 0))]⟩⟩),
(123,tU [z 0 491,z 0 492,z 0 493,z 0 494,z 0 495]),
(124,tU []),
(125,nV []),
(126,tU [sV q43 499,sV aAf 500,sV aZc 501,sV bBa 502,sV bA9 503,sV bA8 504,sV bFt 505]),
(127,tU []),
(128,uV q40 bFs (M p 20 0)),
(129,fV y3 [sV q40 496,sV bFs 497,sV q1 498,cV 57,cV 7,cV 0,cV 0,cV 3,rV 124,.bool true,cV 181,rV 125,.none,rV 126,rV 127,rV 128,cV 506,cV 57,sV q1 507]),
(130,kV q40 bFs (M p 20 0) (rV 123) q4 346 129),
(131,tU []),
(132,nV [])]
noncomputable def cAy(p:Program)(P:Params):List (Nat×Obj):=[
(133,tU [sV q43 512]),
(134,tU []),
(135,uV bBb bKb (M p 20 1)),
(136,fV y3 [sV bBb 509,sV bKb 510,sV q1 511,cV 65,cV 1,cV 0,cV 0,cV 3,rV 131,.bool true,cV 181,rV 132,.none,rV 133,rV 134,rV 135,cV 513,cV 65,sV q1 514]),
(137,kV bBb bKb (M p 20 1) .none q4 346 136),
(138,tU [sV bFt 516,sV bA8 517,sV aAf 518,sV aZc 519,sV bBa 520,sV bA9 521]),
(139,dV y1 [eK P q36 486 (sV q4 346),eK P q39 490 (z 55 489),eK P q40 508 (rV 130),eK P bBb 515 (rV 137),eK P q41 522 (rV 138),eK P aFi 524 (rV 141),eK P q46 526 (rV 142),eK P q5 527 .none] 4),
(140,⟨.type y9,none,.cls ⟨q31,[.type y12],[rV 140,.type y12],139,q31,true,[],[],false,none,false⟩,⟨[none,none,(oV (sV q31 479)),(oV (sV q31 487)),(oV (.builtin y18)),(oV (.bool true))]⟩⟩),
(141,fV y14 [sV aFi 523,rV 140,.builtin y19,.builtin y20]),
(142,fV y14 [sV q46 525,rV 140,.builtin y15,.none]),
(143,fV y16 [rV 140,rV 140,rV 140]),
(144,fV y7 [.builtin y17,rV 140]),
(145,tU []),
(146,fV y7 [.builtin y8,.type y9]),
(147,dV y1 [eK P q36 537 (sV q4 346),eK P q38 539 (sV q32 538),eK P q39 541 (z 67 540),eK P q40 555 (rV 159),eK P bA7 562 (rV 166),eK P q41 568 (rV 167)] 6),
(148,tU []),
(149,nV [cV 69,cV 4,rV 158,cV 76,cV 4,rV 165]),
(150,fV y3 [sV q32 532,sV q32 533,sV q1 534,cV 67,cV 0,cV 0,cV 0,cV 0,rV 148,.bool false,cV 181,rV 149,.none,.none,.none,.none,cV 535,cV 67,sV q1 536]),
(151,⟨.type y4,none,.plain,⟨[(oV (rV 150)),(oV (rV 3)),(oV (rV 147)),none,(oV (sV q4 346)),none,(oV (rV 0))]⟩⟩),
(152,tU [z 0 542,z 0 543]),
(153,tU []),
(154,nV []),
(155,tU [sV q43 547,sV aAf 548,sV aAg 549,sV aAj 550,sV aAi 551,sV aAh 552]),
(156,tU []),
(157,uV q40 bKa (M p 21 0)),
(158,fV y3 [sV q40 544,sV bKa 545,sV q1 546,cV 69,cV 6,cV 0,cV 0,cV 3,rV 153,.bool true,cV 181,rV 154,.none,rV 155,rV 156,rV 157,cV 553,cV 69,sV q1 554]),
(159,kV q40 bKa (M p 21 0) (rV 152) q4 346 158),
(160,tU []),
(161,nV []),
(162,tU [sV q43 559]),
(163,tU []),
(164,uV bA7 bJ9 (M p 21 1)),
(165,fV y3 [sV bA7 556,sV bJ9 557,sV q1 558,cV 76,cV 1,cV 0,cV 0,cV 3,rV 160,.bool true,cV 181,rV 161,.none,rV 162,rV 163,rV 164,cV 560,cV 76,sV q1 561]),
(166,kV bA7 bJ9 (M p 21 1) .none q4 346 165),
(167,tU [sV aAg 563,sV aAf 564,sV aAj 565,sV aAh 566,sV aAi 567]),
(168,dV y1 [eK P q36 537 (sV q4 346),eK P q39 541 (z 67 540),eK P q40 555 (rV 159),eK P bA7 562 (rV 166),eK P q41 568 (rV 167),eK P aFi 570 (rV 170),eK P q46 572 (rV 171),eK P q5 573 .none] 4),
(169,⟨.type y9,none,.cls ⟨q32,[.type y12],[rV 169,.type y12],168,q32,true,[],[],false,none,false⟩,⟨[none,none,(oV (sV q32 530)),(oV (sV q32 538)),(oV (.builtin y18)),(oV (.bool true))]⟩⟩),
(170,fV y14 [sV aFi 569,rV 169,.builtin y19,.builtin y20]),
(171,fV y14 [sV q46 571,rV 169,.builtin y15,.none]),
(172,fV y16 [rV 169,rV 169,rV 169]),
(173,fV y7 [.builtin y17,rV 169]),
(174,tU [z 0 576]),
(175,tU []),
(176,nV []),
(177,tU [sV aKx 580,sV aAg 581,sV aAj 582,sV aAh 583,sV aF4 584,sV aAi 585,sV aAf 586]),
(178,tU []),
(179,uV q33 q33 (F p 22)),
(180,fV y3 [sV q33 577,sV q33 578,sV q1 579,cV 78,cV 4,cV 0,cV 0,cV 3,rV 175,.bool true,cV 181,rV 176,.none,rV 177,rV 178,rV 179,cV 587,cV 78,sV q1 588]),
(181,kV q33 q33 (F p 22) (rV 174) q4 346 180),
(182,tU []),
(183,nV []),
(184,tU [sV aF4 593,sV aAf 594,sV aG1 595]),
(185,tU []),
(186,uV q34 q34 (F p 23)),
(187,fV y3 [sV q34 590,sV q34 591,sV q1 592,cV 84,cV 0,cV 0,cV 0,cV 3,rV 182,.bool true,cV 181,rV 183,.none,rV 184,rV 185,rV 186,cV 596,cV 84,sV q1 597]),
(188,kV q34 q34 (F p 23) .none q4 346 187)]
noncomputable def D1(p:Program)(P:Params):List (Nat×Obj):=apL (cA0 p P) (apL (cAz p P) (cAy p P))
noncomputable def T1(p:Program)(P:Params):BT:=aDc (T0 p P) (D1 p P)
noncomputable def S1(p:Program)(w:World)(os:OsState):SharedT:=⟨T1 p w.params,189,aBk,#[],boot_drawn,599,os⟩
noncomputable def cAx(p:Program)(P:Params):List (Nat×Obj):=[
(12,nV [cV 1,cV 0,rV 20,cV 5,cV 0,rV 27,cV 10,cV 0,rV 48,cV 12,cV 0,rV 60,cV 17,cV 0,rV 79,cV 22,cV 0,rV 98,cV 55,cV 0,rV 121,cV 67,cV 0,rV 150,cV 78,cV 0,rV 180,cV 84,cV 0,rV 187,cV 102,cV 0,rV 194]),
(189,tU []),
(190,fV y7 [.builtin y8,.type y9]),
(191,dV y1 [eK P q36 606 (sV q4 346),eK P q38 608 (sV aG0 607),eK P q39 610 (z 102 609)] 3),
(192,tU []),
(193,nV []),
(194,fV y3 [sV aG0 601,sV aG0 602,sV q1 603,cV 102,cV 0,cV 0,cV 0,cV 0,rV 192,.bool false,cV 181,rV 193,.none,.none,.none,.none,cV 604,cV 102,sV q1 605]),
(195,⟨.type y4,none,.plain,⟨[(oV (rV 194)),(oV (rV 3)),(oV (rV 191)),none,(oV (sV q4 346)),none,(oV (rV 0))]⟩⟩)]
noncomputable def D2(p:Program)(P:Params):List (Nat×Obj):=cAx p P
noncomputable def T2(p:Program)(P:Params):BT:=aDc (T1 p P) (D2 p P)
noncomputable def S2(p:Program)(w:World)(os:OsState):SharedT:=⟨T2 p w.params,196,aBk,#[],boot_drawn,611,os⟩
noncomputable def cAw(p:Program)(P:Params):List (Nat×Obj):=[
(196,dV y4 [] 0)]
noncomputable def D3(p:Program)(P:Params):List (Nat×Obj):=cAw p P
noncomputable def T3(p:Program)(P:Params):BT:=aDc (T2 p P) (D3 p P)
noncomputable def S3(p:Program)(w:World)(os:OsState):SharedT:=⟨T3 p w.params,197,aBk,#[],boot_drawn,611,os⟩
noncomputable def cAv(p:Program)(P:Params):List (Nat×Obj):=[
(196,dV y4 [eK P aF4 683 (rV 209)] 1),
(197,dV y1 [eK P aAf 620 (sV bJ8 611),eK P aAg 622 (sV aA8 612),eK P aAj 624 (z 55 469),eK P aAi 626 (z 0 542),eK P aAh 628 (z 0 543)] 5),
(198,⟨rV 169,(some 197),.plain,⟨[]⟩⟩),
(199,dV y4 [eK P q43 613 (rV 198),eK P aAf 614 (sV bJ8 611),eK P aAg 615 (sV aA8 612),eK P aAj 616 (z 55 469),eK P aAi 617 (z 0 542),eK P aAh 618 (z 0 543)] 6),
(200,dV y1 [eK P aAf 638 (sV bJ7 629),eK P aAg 640 (sV aA8 630),eK P aAj 642 (z 23 463),eK P aAi 644 (z 0 542),eK P aAh 646 (z 0 543)] 5),
(201,⟨rV 169,(some 200),.plain,⟨[]⟩⟩),
(202,dV y4 [eK P q43 631 (rV 201),eK P aAf 632 (sV bJ7 629),eK P aAg 633 (sV aA8 630),eK P aAj 634 (z 23 463),eK P aAi 635 (z 0 542),eK P aAh 636 (z 0 543)] 6),
(203,dV y1 [eK P aAf 656 (sV aMu 647),eK P aAg 658 (sV aA9 648),eK P aAj 660 (z 111 475),eK P aAi 662 (z 0 542),eK P aAh 664 (z 0 543)] 5),
(204,⟨rV 169,(some 203),.plain,⟨[]⟩⟩),
(205,dV y4 [eK P q43 649 (rV 204),eK P aAf 650 (sV aMu 647),eK P aAg 651 (sV aA9 648),eK P aAj 652 (z 111 475),eK P aAi 653 (z 0 542),eK P aAh 654 (z 0 543)] 6),
(206,dV y1 [eK P aAf 674 (sV bJ6 665),eK P aAg 676 (sV aAt 666),eK P aAj 678 (z 103 473),eK P aAi 680 (z 0 542),eK P aAh 682 (z 0 543)] 5),
(207,⟨rV 169,(some 206),.plain,⟨[]⟩⟩),
(208,dV y4 [eK P q43 667 (rV 207),eK P aAf 668 (sV bJ6 665),eK P aAg 669 (sV aAt 666),eK P aAj 670 (z 103 473),eK P aAi 671 (z 0 542),eK P aAh 672 (z 0 543)] 6),
(209,⟨.type y21,none,.seq ⟨[rV 198,rV 201,rV 204,rV 207,rV 220,rV 227,rV 242,rV 249,rV 256,rV 263,rV 277,rV 284,rV 291,rV 302,rV 309,rV 323,rV 330,rV 337,rV 351,rV 362,rV 369,rV 376,rV 387,rV 394]⟩ 4,⟨[]⟩⟩),
(210,dV y4 [eK P aKx 686 (sV bXo 684),eK P aAg 687 (sV aAw 685),eK P aAj 688 (z 99 471),eK P aAh 689 (z 0 576),eK P aF4 690 (rV 211),eK P aAi 701 (z 7 808),eK P aAf 702 (sV aS1 699)] 7),
(211,⟨.type y21,none,.seq ⟨[rV 220,rV 227,rV 242,rV 249,rV 256,rV 263]⟩ 6,⟨[]⟩⟩),
(212,⟨.type y21,none,.seq ⟨[sV aZb 692,sV aZa 693,sV aBo 694,sV aBo 695,sV aY9 696,sV aY8 697,sV aY7 698,sV aS1 699]⟩ 0,⟨[]⟩⟩),
(213,fV y22 [.none,cV 8]),
(214,fV y23 [.none,.bool false,rV 213,cV 8,.none,sV aS1 699]),
(215,tU [z 0 700,sV aZb 692]),
(216,fV y24 [.none,cV 2]),
(217,tU []),
(218,fV y25 [rV 217,.none,.none,.none,.bool false,.none]),
(219,dV y1 [eK P aAf 711 (sV aZb 692),eK P aAg 713 (sV aAw 685),eK P aAj 715 (z 99 471),eK P aAi 717 (z 0 700),eK P aAh 719 (z 0 576)] 5),
(220,⟨rV 169,(some 219),.plain,⟨[]⟩⟩),
(221,dV y4 [eK P q43 704 (rV 220),eK P aAf 705 (sV aZb 692),eK P aAg 706 (sV aAw 685),eK P aAj 707 (z 99 471),eK P aAi 708 (z 0 700),eK P aAh 709 (z 0 576)] 6),
(222,tU [z 1 720,sV aZa 693]),
(223,fV y24 [.none,cV 2]),
(224,tU []),
(225,fV y25 [rV 224,.none,.none,.none,.bool false,.none]),
(226,dV y1 [eK P aAf 731 (sV aZa 693),eK P aAg 733 (sV aAw 685),eK P aAj 735 (z 99 471),eK P aAi 737 (z 1 720),eK P aAh 739 (z 0 576)] 5),
(227,⟨rV 169,(some 226),.plain,⟨[]⟩⟩),
(228,dV y4 [eK P q43 724 (rV 227),eK P aAf 725 (sV aZa 693),eK P aAg 726 (sV aAw 685),eK P aAj 727 (z 99 471),eK P aAi 728 (z 1 720),eK P aAh 729 (z 0 576)] 6),
(229,tU [z 2 740,sV aBo 694]),
(230,fV y24 [.none,cV 2]),
(231,tU []),
(232,fV y25 [rV 231,.none,.none,.none,.bool false,.none]),
(233,tU [z 3 744,sV aBo 695]),
(234,fV y24 [.none,cV 2]),
(235,tU []),
(236,fV y25 [rV 235,.none,.none,.none,.bool false,.none]),
(237,tU [z 4 748,sV aY9 696]),
(238,fV y24 [.none,cV 2]),
(239,tU []),
(240,fV y25 [rV 239,.none,.none,.none,.bool false,.none]),
(241,dV y1 [eK P aAf 759 (sV aY9 696),eK P aAg 761 (sV aAw 685),eK P aAj 763 (z 99 471),eK P aAi 765 (z 4 748),eK P aAh 767 (z 0 576)] 5),
(242,⟨rV 169,(some 241),.plain,⟨[]⟩⟩),
(243,dV y4 [eK P q43 752 (rV 242),eK P aAf 753 (sV aY9 696),eK P aAg 754 (sV aAw 685),eK P aAj 755 (z 99 471),eK P aAi 756 (z 4 748),eK P aAh 757 (z 0 576)] 6),
(244,tU [z 5 768,sV aY8 697]),
(245,fV y24 [.none,cV 2]),
(246,tU []),
(247,fV y25 [rV 246,.none,.none,.none,.bool false,.none]),
(248,dV y1 [eK P aAf 779 (sV aY8 697),eK P aAg 781 (sV aAw 685),eK P aAj 783 (z 99 471),eK P aAi 785 (z 5 768),eK P aAh 787 (z 0 576)] 5),
(249,⟨rV 169,(some 248),.plain,⟨[]⟩⟩),
(250,dV y4 [eK P q43 772 (rV 249),eK P aAf 773 (sV aY8 697),eK P aAg 774 (sV aAw 685),eK P aAj 775 (z 99 471),eK P aAi 776 (z 5 768),eK P aAh 777 (z 0 576)] 6),
(251,tU [z 6 788,sV aY7 698]),
(252,fV y24 [.none,cV 2]),
(253,tU []),
(254,fV y25 [rV 253,.none,.none,.none,.bool false,.none]),
(255,dV y1 [eK P aAf 799 (sV aY7 698),eK P aAg 801 (sV aAw 685),eK P aAj 803 (z 99 471),eK P aAi 805 (z 6 788),eK P aAh 807 (z 0 576)] 5)]
noncomputable def cAu(p:Program)(P:Params):List (Nat×Obj):=[
(256,⟨rV 169,(some 255),.plain,⟨[]⟩⟩),
(257,dV y4 [eK P q43 792 (rV 256),eK P aAf 793 (sV aY7 698),eK P aAg 794 (sV aAw 685),eK P aAj 795 (z 99 471),eK P aAi 796 (z 6 788),eK P aAh 797 (z 0 576)] 6),
(258,tU [z 7 808,sV aS1 699]),
(259,fV y24 [.none,cV 2]),
(260,tU []),
(261,fV y25 [rV 260,.none,.none,.none,.bool false,.none]),
(262,dV y1 [eK P aAf 819 (sV aS1 699),eK P aAg 821 (sV aAw 685),eK P aAj 823 (z 99 471),eK P aAi 825 (z 7 808),eK P aAh 827 (z 0 576)] 5),
(263,⟨rV 169,(some 262),.plain,⟨[]⟩⟩),
(264,dV y4 [eK P q43 812 (rV 263),eK P aAf 813 (sV aS1 699),eK P aAg 814 (sV aAw 685),eK P aAj 815 (z 99 471),eK P aAi 816 (z 7 808),eK P aAh 817 (z 0 576)] 6),
(265,tU []),
(266,fV y25 [rV 265,.none,.none,.none,.bool false,.none]),
(267,dV y4 [eK P aKx 830 (sV bXn 828),eK P aAg 831 (sV aAt 829),eK P aAj 832 (z 3 457),eK P aAh 833 (z 0 576),eK P aF4 834 (rV 268),eK P aAi 843 (z 5 926),eK P aAf 844 (sV aS0 841)] 7),
(268,⟨.type y21,none,.seq ⟨[rV 277,rV 284,rV 291,rV 302,rV 309]⟩ 5,⟨[]⟩⟩),
(269,⟨.type y21,none,.seq ⟨[sV aY6 836,sV aY5 837,sV aJu 838,sV aBo 839,sV aY4 840,sV aS0 841]⟩ 0,⟨[]⟩⟩),
(270,fV y22 [.none,cV 6]),
(271,fV y23 [.none,.bool false,rV 270,cV 6,.none,sV aS0 841]),
(272,tU [z 0 842,sV aY6 836]),
(273,fV y24 [.none,cV 2]),
(274,tU []),
(275,fV y25 [rV 274,.none,.none,.none,.bool false,.none]),
(276,dV y1 [eK P aAf 853 (sV aY6 836),eK P aAg 855 (sV aAt 829),eK P aAj 857 (z 3 457),eK P aAi 859 (z 0 842),eK P aAh 861 (z 0 576)] 5),
(277,⟨rV 169,(some 276),.plain,⟨[]⟩⟩),
(278,dV y4 [eK P q43 846 (rV 277),eK P aAf 847 (sV aY6 836),eK P aAg 848 (sV aAt 829),eK P aAj 849 (z 3 457),eK P aAi 850 (z 0 842),eK P aAh 851 (z 0 576)] 6),
(279,tU [z 1 862,sV aY5 837]),
(280,fV y24 [.none,cV 2]),
(281,tU []),
(282,fV y25 [rV 281,.none,.none,.none,.bool false,.none]),
(283,dV y1 [eK P aAf 873 (sV aY5 837),eK P aAg 875 (sV aAt 829),eK P aAj 877 (z 3 457),eK P aAi 879 (z 1 862),eK P aAh 881 (z 0 576)] 5),
(284,⟨rV 169,(some 283),.plain,⟨[]⟩⟩),
(285,dV y4 [eK P q43 866 (rV 284),eK P aAf 867 (sV aY5 837),eK P aAg 868 (sV aAt 829),eK P aAj 869 (z 3 457),eK P aAi 870 (z 1 862),eK P aAh 871 (z 0 576)] 6),
(286,tU [z 2 882,sV aJu 838]),
(287,fV y24 [.none,cV 2]),
(288,tU []),
(289,fV y25 [rV 288,.none,.none,.none,.bool false,.none]),
(290,dV y1 [eK P aAf 893 (sV aJu 838),eK P aAg 895 (sV aAt 829),eK P aAj 897 (z 3 457),eK P aAi 899 (z 2 882),eK P aAh 901 (z 0 576)] 5),
(291,⟨rV 169,(some 290),.plain,⟨[]⟩⟩),
(292,dV y4 [eK P q43 886 (rV 291),eK P aAf 887 (sV aJu 838),eK P aAg 888 (sV aAt 829),eK P aAj 889 (z 3 457),eK P aAi 890 (z 2 882),eK P aAh 891 (z 0 576)] 6),
(293,tU [z 3 902,sV aBo 839]),
(294,fV y24 [.none,cV 2]),
(295,tU []),
(296,fV y25 [rV 295,.none,.none,.none,.bool false,.none]),
(297,tU [z 4 906,sV aY4 840]),
(298,fV y24 [.none,cV 2]),
(299,tU []),
(300,fV y25 [rV 299,.none,.none,.none,.bool false,.none]),
(301,dV y1 [eK P aAf 917 (sV aY4 840),eK P aAg 919 (sV aAt 829),eK P aAj 921 (z 3 457),eK P aAi 923 (z 4 906),eK P aAh 925 (z 0 576)] 5),
(302,⟨rV 169,(some 301),.plain,⟨[]⟩⟩),
(303,dV y4 [eK P q43 910 (rV 302),eK P aAf 911 (sV aY4 840),eK P aAg 912 (sV aAt 829),eK P aAj 913 (z 3 457),eK P aAi 914 (z 4 906),eK P aAh 915 (z 0 576)] 6),
(304,tU [z 5 926,sV aS0 841]),
(305,fV y24 [.none,cV 2]),
(306,tU []),
(307,fV y25 [rV 306,.none,.none,.none,.bool false,.none]),
(308,dV y1 [eK P aAf 937 (sV aS0 841),eK P aAg 939 (sV aAt 829),eK P aAj 941 (z 3 457),eK P aAi 943 (z 5 926),eK P aAh 945 (z 0 576)] 5),
(309,⟨rV 169,(some 308),.plain,⟨[]⟩⟩),
(310,dV y4 [eK P q43 930 (rV 309),eK P aAf 931 (sV aS0 841),eK P aAg 932 (sV aAt 829),eK P aAj 933 (z 3 457),eK P aAi 934 (z 5 926),eK P aAh 935 (z 0 576)] 6),
(311,tU []),
(312,fV y25 [rV 311,.none,.none,.none,.bool false,.none]),
(313,dV y4 [eK P aKx 948 (sV bXm 946),eK P aAg 949 (sV aA3 947),eK P aAj 950 (z 35 465),eK P aAh 951 (z 0 576),eK P aF4 952 (rV 314),eK P aAi 958 (z 2 997),eK P aAf 959 (sV aSz 956)] 7),
(314,⟨.type y21,none,.seq ⟨[rV 323,rV 330,rV 337]⟩ 3,⟨[]⟩⟩),
(315,⟨.type y21,none,.seq ⟨[sV aY3 954,sV aY2 955,sV aSz 956]⟩ 0,⟨[]⟩⟩)]
noncomputable def cAt(p:Program)(P:Params):List (Nat×Obj):=[
(316,fV y22 [.none,cV 3]),
(317,fV y23 [.none,.bool false,rV 316,cV 3,.none,sV aSz 956]),
(318,tU [z 0 957,sV aY3 954]),
(319,fV y24 [.none,cV 2]),
(320,tU []),
(321,fV y25 [rV 320,.none,.none,.none,.bool false,.none]),
(322,dV y1 [eK P aAf 968 (sV aY3 954),eK P aAg 970 (sV aA3 947),eK P aAj 972 (z 35 465),eK P aAi 974 (z 0 957),eK P aAh 976 (z 0 576)] 5),
(323,⟨rV 169,(some 322),.plain,⟨[]⟩⟩),
(324,dV y4 [eK P q43 961 (rV 323),eK P aAf 962 (sV aY3 954),eK P aAg 963 (sV aA3 947),eK P aAj 964 (z 35 465),eK P aAi 965 (z 0 957),eK P aAh 966 (z 0 576)] 6),
(325,tU [z 1 977,sV aY2 955]),
(326,fV y24 [.none,cV 2]),
(327,tU []),
(328,fV y25 [rV 327,.none,.none,.none,.bool false,.none]),
(329,dV y1 [eK P aAf 988 (sV aY2 955),eK P aAg 990 (sV aA3 947),eK P aAj 992 (z 35 465),eK P aAi 994 (z 1 977),eK P aAh 996 (z 0 576)] 5),
(330,⟨rV 169,(some 329),.plain,⟨[]⟩⟩),
(331,dV y4 [eK P q43 981 (rV 330),eK P aAf 982 (sV aY2 955),eK P aAg 983 (sV aA3 947),eK P aAj 984 (z 35 465),eK P aAi 985 (z 1 977),eK P aAh 986 (z 0 576)] 6),
(332,tU [z 2 997,sV aSz 956]),
(333,fV y24 [.none,cV 2]),
(334,tU []),
(335,fV y25 [rV 334,.none,.none,.none,.bool false,.none]),
(336,dV y1 [eK P aAf 1008 (sV aSz 956),eK P aAg 1010 (sV aA3 947),eK P aAj 1012 (z 35 465),eK P aAi 1014 (z 2 997),eK P aAh 1016 (z 0 576)] 5),
(337,⟨rV 169,(some 336),.plain,⟨[]⟩⟩),
(338,dV y4 [eK P q43 1001 (rV 337),eK P aAf 1002 (sV aSz 956),eK P aAg 1003 (sV aA3 947),eK P aAj 1004 (z 35 465),eK P aAi 1005 (z 2 997),eK P aAh 1006 (z 0 576)] 6),
(339,tU []),
(340,fV y25 [rV 339,.none,.none,.none,.bool false,.none]),
(341,dV y4 [eK P aKx 1019 (sV bXl 1017),eK P aAg 1020 (sV aAt 1018),eK P aAj 1021 (z 19 461),eK P aAh 1022 (z 0 576),eK P aF4 1023 (rV 342),eK P aAi 1034 (z 7 1141),eK P aAf 1035 (sV aSy 1032)] 7),
(342,⟨.type y21,none,.seq ⟨[rV 351,rV 362,rV 369,rV 376,rV 387,rV 394]⟩ 6,⟨[]⟩⟩),
(343,⟨.type y21,none,.seq ⟨[sV aJt 1025,sV aBo 1026,sV aY1 1027,sV aY0 1028,sV aYz 1029,sV aBo 1030,sV aYy 1031,sV aSy 1032]⟩ 0,⟨[]⟩⟩),
(344,fV y22 [.none,cV 8]),
(345,fV y23 [.none,.bool false,rV 344,cV 8,.none,sV aSy 1032]),
(346,tU [z 0 1033,sV aJt 1025]),
(347,fV y24 [.none,cV 2]),
(348,tU []),
(349,fV y25 [rV 348,.none,.none,.none,.bool false,.none]),
(350,dV y1 [eK P aAf 1044 (sV aJt 1025),eK P aAg 1046 (sV aAt 1018),eK P aAj 1048 (z 19 461),eK P aAi 1050 (z 0 1033),eK P aAh 1052 (z 0 576)] 5),
(351,⟨rV 169,(some 350),.plain,⟨[]⟩⟩),
(352,dV y4 [eK P q43 1037 (rV 351),eK P aAf 1038 (sV aJt 1025),eK P aAg 1039 (sV aAt 1018),eK P aAj 1040 (z 19 461),eK P aAi 1041 (z 0 1033),eK P aAh 1042 (z 0 576)] 6),
(353,tU [z 1 1053,sV aBo 1026]),
(354,fV y24 [.none,cV 2]),
(355,tU []),
(356,fV y25 [rV 355,.none,.none,.none,.bool false,.none]),
(357,tU [z 2 1057,sV aY1 1027]),
(358,fV y24 [.none,cV 2]),
(359,tU []),
(360,fV y25 [rV 359,.none,.none,.none,.bool false,.none]),
(361,dV y1 [eK P aAf 1068 (sV aY1 1027),eK P aAg 1070 (sV aAt 1018),eK P aAj 1072 (z 19 461),eK P aAi 1074 (z 2 1057),eK P aAh 1076 (z 0 576)] 5),
(362,⟨rV 169,(some 361),.plain,⟨[]⟩⟩),
(363,dV y4 [eK P q43 1061 (rV 362),eK P aAf 1062 (sV aY1 1027),eK P aAg 1063 (sV aAt 1018),eK P aAj 1064 (z 19 461),eK P aAi 1065 (z 2 1057),eK P aAh 1066 (z 0 576)] 6),
(364,tU [z 3 1077,sV aY0 1028]),
(365,fV y24 [.none,cV 2]),
(366,tU []),
(367,fV y25 [rV 366,.none,.none,.none,.bool false,.none]),
(368,dV y1 [eK P aAf 1088 (sV aY0 1028),eK P aAg 1090 (sV aAt 1018),eK P aAj 1092 (z 19 461),eK P aAi 1094 (z 3 1077),eK P aAh 1096 (z 0 576)] 5),
(369,⟨rV 169,(some 368),.plain,⟨[]⟩⟩),
(370,dV y4 [eK P q43 1081 (rV 369),eK P aAf 1082 (sV aY0 1028),eK P aAg 1083 (sV aAt 1018),eK P aAj 1084 (z 19 461),eK P aAi 1085 (z 3 1077),eK P aAh 1086 (z 0 576)] 6),
(371,tU [z 4 1097,sV aYz 1029]),
(372,fV y24 [.none,cV 2]),
(373,tU []),
(374,fV y25 [rV 373,.none,.none,.none,.bool false,.none]),
(375,dV y1 [eK P aAf 1108 (sV aYz 1029),eK P aAg 1110 (sV aAt 1018),eK P aAj 1112 (z 19 461),eK P aAi 1114 (z 4 1097),eK P aAh 1116 (z 0 576)] 5)]
noncomputable def cAs(p:Program)(P:Params):List (Nat×Obj):=[
(376,⟨rV 169,(some 375),.plain,⟨[]⟩⟩),
(377,dV y4 [eK P q43 1101 (rV 376),eK P aAf 1102 (sV aYz 1029),eK P aAg 1103 (sV aAt 1018),eK P aAj 1104 (z 19 461),eK P aAi 1105 (z 4 1097),eK P aAh 1106 (z 0 576)] 6),
(378,tU [z 5 1117,sV aBo 1030]),
(379,fV y24 [.none,cV 2]),
(380,tU []),
(381,fV y25 [rV 380,.none,.none,.none,.bool false,.none]),
(382,tU [z 6 1121,sV aYy 1031]),
(383,fV y24 [.none,cV 2]),
(384,tU []),
(385,fV y25 [rV 384,.none,.none,.none,.bool false,.none]),
(386,dV y1 [eK P aAf 1132 (sV aYy 1031),eK P aAg 1134 (sV aAt 1018),eK P aAj 1136 (z 19 461),eK P aAi 1138 (z 6 1121),eK P aAh 1140 (z 0 576)] 5),
(387,⟨rV 169,(some 386),.plain,⟨[]⟩⟩),
(388,dV y4 [eK P q43 1125 (rV 387),eK P aAf 1126 (sV aYy 1031),eK P aAg 1127 (sV aAt 1018),eK P aAj 1128 (z 19 461),eK P aAi 1129 (z 6 1121),eK P aAh 1130 (z 0 576)] 6),
(389,tU [z 7 1141,sV aSy 1032]),
(390,fV y24 [.none,cV 2]),
(391,tU []),
(392,fV y25 [rV 391,.none,.none,.none,.bool false,.none]),
(393,dV y1 [eK P aAf 1152 (sV aSy 1032),eK P aAg 1154 (sV aAt 1018),eK P aAj 1156 (z 19 461),eK P aAi 1158 (z 7 1141),eK P aAh 1160 (z 0 576)] 5),
(394,⟨rV 169,(some 393),.plain,⟨[]⟩⟩),
(395,dV y4 [eK P q43 1145 (rV 394),eK P aAf 1146 (sV aSy 1032),eK P aAg 1147 (sV aAt 1018),eK P aAj 1148 (z 19 461),eK P aAi 1149 (z 7 1141),eK P aAh 1150 (z 0 576)] 6),
(396,tU []),
(397,fV y25 [rV 396,.none,.none,.none,.bool false,.none])]
noncomputable def D4(p:Program)(P:Params):List (Nat×Obj):=apL (cAv p P) (apL (cAu p P) (apL (cAt p P) (cAs p P)))
noncomputable def T4(p:Program)(P:Params):BT:=aDc (T3 p P) (D4 p P)
noncomputable def S4(p:Program)(w:World)(os:OsState):SharedT:=⟨T4 p w.params,398,aBk,#[],boot_drawn,1161,os⟩
noncomputable def cAr(p:Program)(P:Params):List (Nat×Obj):=[
(209,⟨.type y21,none,.seq ⟨[rV 198,rV 201,rV 204,rV 207,rV 220,rV 227,rV 242,rV 249,rV 256,rV 263,rV 277,rV 284,rV 291,rV 302,rV 309,rV 323,rV 330,rV 337,rV 351,rV 362,rV 369,rV 376,rV 387,rV 394,rV 412,rV 431,rV 465,rV 479,rV 486,rV 493,rV 500,rV 507,rV 514,rV 521,rV 528,rV 542,rV 565]⟩ 8,⟨[]⟩⟩),
(398,dV y4 [eK P aKx 1163 (sV bXk 1161),eK P aAg 1164 (sV aA0 1162),eK P aAj 1165 (z 19 461),eK P aAh 1166 (z 0 576),eK P aF4 1167 (rV 399),eK P aAi 1176 (z 5 1211),eK P aAf 1177 (sV aSx 1174)] 7),
(399,⟨.type y21,none,.seq ⟨[rV 412,rV 431]⟩ 2,⟨[]⟩⟩),
(400,⟨.type y21,none,.seq ⟨[sV aBo 1169,sV aYx 1170,sV aBo 1171,sV aBo 1172,sV aBo 1173,sV aSx 1174]⟩ 0,⟨[]⟩⟩),
(401,fV y22 [.none,cV 6]),
(402,fV y23 [.none,.bool false,rV 401,cV 6,.none,sV aSx 1174]),
(403,tU [z 0 1175,sV aBo 1169]),
(404,fV y24 [.none,cV 2]),
(405,tU []),
(406,fV y25 [rV 405,.none,.none,.none,.bool false,.none]),
(407,tU [z 1 1179,sV aYx 1170]),
(408,fV y24 [.none,cV 2]),
(409,tU []),
(410,fV y25 [rV 409,.none,.none,.none,.bool false,.none]),
(411,dV y1 [eK P aAf 1190 (sV aYx 1170),eK P aAg 1192 (sV aA0 1162),eK P aAj 1194 (z 19 461),eK P aAi 1196 (z 1 1179),eK P aAh 1198 (z 0 576)] 5),
(412,⟨rV 169,(some 411),.plain,⟨[]⟩⟩),
(413,dV y4 [eK P q43 1183 (rV 412),eK P aAf 1184 (sV aYx 1170),eK P aAg 1185 (sV aA0 1162),eK P aAj 1186 (z 19 461),eK P aAi 1187 (z 1 1179),eK P aAh 1188 (z 0 576)] 6),
(414,tU [z 2 1199,sV aBo 1171]),
(415,fV y24 [.none,cV 2]),
(416,tU []),
(417,fV y25 [rV 416,.none,.none,.none,.bool false,.none]),
(418,tU [z 3 1203,sV aBo 1172]),
(419,fV y24 [.none,cV 2]),
(420,tU []),
(421,fV y25 [rV 420,.none,.none,.none,.bool false,.none]),
(422,tU [z 4 1207,sV aBo 1173]),
(423,fV y24 [.none,cV 2]),
(424,tU []),
(425,fV y25 [rV 424,.none,.none,.none,.bool false,.none]),
(426,tU [z 5 1211,sV aSx 1174]),
(427,fV y24 [.none,cV 2]),
(428,tU []),
(429,fV y25 [rV 428,.none,.none,.none,.bool false,.none]),
(430,dV y1 [eK P aAf 1222 (sV aSx 1174),eK P aAg 1224 (sV aA0 1162),eK P aAj 1226 (z 19 461),eK P aAi 1228 (z 5 1211),eK P aAh 1230 (z 0 576)] 5),
(431,⟨rV 169,(some 430),.plain,⟨[]⟩⟩),
(432,dV y4 [eK P q43 1215 (rV 431),eK P aAf 1216 (sV aSx 1174),eK P aAg 1217 (sV aA0 1162),eK P aAj 1218 (z 19 461),eK P aAi 1219 (z 5 1211),eK P aAh 1220 (z 0 576)] 6),
(433,tU []),
(434,fV y25 [rV 433,.none,.none,.none,.bool false,.none]),
(435,dV y4 [eK P aKx 1234 (sV bXj 1231),eK P aAg 1235 (sV aA0 1232),eK P aAj 1236 (z 19 461),eK P aAh 1237 (z 32 1233),eK P aF4 1238 (rV 436),eK P aAi 1247 (z 5 1266),eK P aAf 1248 (sV aSw 1245)] 7),
(436,⟨.type y21,none,.seq ⟨[rV 465]⟩ 1,⟨[]⟩⟩),
(437,⟨.type y21,none,.seq ⟨[sV aBo 1240,sV aBo 1241,sV aBo 1242,sV aBo 1243,sV aBo 1244,sV aSw 1245]⟩ 0,⟨[]⟩⟩),
(438,fV y22 [.none,cV 6]),
(439,fV y23 [.none,.bool false,rV 438,cV 6,.none,sV aSw 1245]),
(440,tU [z 0 1246,sV aBo 1240]),
(441,fV y24 [.none,cV 2]),
(442,tU []),
(443,fV y25 [rV 442,.none,.none,.none,.bool false,.none]),
(444,tU [z 1 1250,sV aBo 1241]),
(445,fV y24 [.none,cV 2]),
(446,tU []),
(447,fV y25 [rV 446,.none,.none,.none,.bool false,.none]),
(448,tU [z 2 1254,sV aBo 1242]),
(449,fV y24 [.none,cV 2]),
(450,tU []),
(451,fV y25 [rV 450,.none,.none,.none,.bool false,.none]),
(452,tU [z 3 1258,sV aBo 1243]),
(453,fV y24 [.none,cV 2]),
(454,tU []),
(455,fV y25 [rV 454,.none,.none,.none,.bool false,.none]),
(456,tU [z 4 1262,sV aBo 1244])]
noncomputable def cAq(p:Program)(P:Params):List (Nat×Obj):=[
(457,fV y24 [.none,cV 2]),
(458,tU []),
(459,fV y25 [rV 458,.none,.none,.none,.bool false,.none]),
(460,tU [z 5 1266,sV aSw 1245]),
(461,fV y24 [.none,cV 2]),
(462,tU []),
(463,fV y25 [rV 462,.none,.none,.none,.bool false,.none]),
(464,dV y1 [eK P aAf 1277 (sV aSw 1245),eK P aAg 1279 (sV aA0 1232),eK P aAj 1281 (z 19 461),eK P aAi 1283 (z 5 1266),eK P aAh 1285 (z 32 1233)] 5),
(465,⟨rV 169,(some 464),.plain,⟨[]⟩⟩),
(466,dV y4 [eK P q43 1270 (rV 465),eK P aAf 1271 (sV aSw 1245),eK P aAg 1272 (sV aA0 1232),eK P aAj 1273 (z 19 461),eK P aAi 1274 (z 5 1266),eK P aAh 1275 (z 32 1233)] 6),
(467,tU []),
(468,fV y25 [rV 467,.none,.none,.none,.bool false,.none]),
(469,dV y4 [eK P aKx 1288 (sV bXi 1286),eK P aAg 1289 (sV aAm 1287),eK P aAj 1290 (z 51 467),eK P aAh 1291 (z 0 576),eK P aF4 1292 (rV 470),eK P aAi 1303 (z 7 1442),eK P aAf 1304 (sV aQn 1301)] 7),
(470,⟨.type y21,none,.seq ⟨[rV 479,rV 486,rV 493,rV 500,rV 507,rV 514,rV 521,rV 528]⟩ 8,⟨[]⟩⟩),
(471,⟨.type y21,none,.seq ⟨[sV aDy 1294,sV aVx 1295,sV aVw 1296,sV aVv 1297,sV aVu 1298,sV aVt 1299,sV aVs 1300,sV aQn 1301]⟩ 0,⟨[]⟩⟩),
(472,fV y22 [.none,cV 8]),
(473,fV y23 [.none,.bool false,rV 472,cV 8,.none,sV aQn 1301]),
(474,tU [z 0 1302,sV aDy 1294]),
(475,fV y24 [.none,cV 2]),
(476,tU []),
(477,fV y25 [rV 476,.none,.none,.none,.bool false,.none]),
(478,dV y1 [eK P aAf 1313 (sV aDy 1294),eK P aAg 1315 (sV aAm 1287),eK P aAj 1317 (z 51 467),eK P aAi 1319 (z 0 1302),eK P aAh 1321 (z 0 576)] 5),
(479,⟨rV 169,(some 478),.plain,⟨[]⟩⟩),
(480,dV y4 [eK P q43 1306 (rV 479),eK P aAf 1307 (sV aDy 1294),eK P aAg 1308 (sV aAm 1287),eK P aAj 1309 (z 51 467),eK P aAi 1310 (z 0 1302),eK P aAh 1311 (z 0 576)] 6),
(481,tU [z 1 1322,sV aVx 1295]),
(482,fV y24 [.none,cV 2]),
(483,tU []),
(484,fV y25 [rV 483,.none,.none,.none,.bool false,.none]),
(485,dV y1 [eK P aAf 1333 (sV aVx 1295),eK P aAg 1335 (sV aAm 1287),eK P aAj 1337 (z 51 467),eK P aAi 1339 (z 1 1322),eK P aAh 1341 (z 0 576)] 5),
(486,⟨rV 169,(some 485),.plain,⟨[]⟩⟩),
(487,dV y4 [eK P q43 1326 (rV 486),eK P aAf 1327 (sV aVx 1295),eK P aAg 1328 (sV aAm 1287),eK P aAj 1329 (z 51 467),eK P aAi 1330 (z 1 1322),eK P aAh 1331 (z 0 576)] 6),
(488,tU [z 2 1342,sV aVw 1296]),
(489,fV y24 [.none,cV 2]),
(490,tU []),
(491,fV y25 [rV 490,.none,.none,.none,.bool false,.none]),
(492,dV y1 [eK P aAf 1353 (sV aVw 1296),eK P aAg 1355 (sV aAm 1287),eK P aAj 1357 (z 51 467),eK P aAi 1359 (z 2 1342),eK P aAh 1361 (z 0 576)] 5),
(493,⟨rV 169,(some 492),.plain,⟨[]⟩⟩),
(494,dV y4 [eK P q43 1346 (rV 493),eK P aAf 1347 (sV aVw 1296),eK P aAg 1348 (sV aAm 1287),eK P aAj 1349 (z 51 467),eK P aAi 1350 (z 2 1342),eK P aAh 1351 (z 0 576)] 6),
(495,tU [z 3 1362,sV aVv 1297]),
(496,fV y24 [.none,cV 2]),
(497,tU []),
(498,fV y25 [rV 497,.none,.none,.none,.bool false,.none]),
(499,dV y1 [eK P aAf 1373 (sV aVv 1297),eK P aAg 1375 (sV aAm 1287),eK P aAj 1377 (z 51 467),eK P aAi 1379 (z 3 1362),eK P aAh 1381 (z 0 576)] 5),
(500,⟨rV 169,(some 499),.plain,⟨[]⟩⟩),
(501,dV y4 [eK P q43 1366 (rV 500),eK P aAf 1367 (sV aVv 1297),eK P aAg 1368 (sV aAm 1287),eK P aAj 1369 (z 51 467),eK P aAi 1370 (z 3 1362),eK P aAh 1371 (z 0 576)] 6),
(502,tU [z 4 1382,sV aVu 1298]),
(503,fV y24 [.none,cV 2]),
(504,tU []),
(505,fV y25 [rV 504,.none,.none,.none,.bool false,.none]),
(506,dV y1 [eK P aAf 1393 (sV aVu 1298),eK P aAg 1395 (sV aAm 1287),eK P aAj 1397 (z 51 467),eK P aAi 1399 (z 4 1382),eK P aAh 1401 (z 0 576)] 5),
(507,⟨rV 169,(some 506),.plain,⟨[]⟩⟩),
(508,dV y4 [eK P q43 1386 (rV 507),eK P aAf 1387 (sV aVu 1298),eK P aAg 1388 (sV aAm 1287),eK P aAj 1389 (z 51 467),eK P aAi 1390 (z 4 1382),eK P aAh 1391 (z 0 576)] 6),
(509,tU [z 5 1402,sV aVt 1299]),
(510,fV y24 [.none,cV 2]),
(511,tU []),
(512,fV y25 [rV 511,.none,.none,.none,.bool false,.none]),
(513,dV y1 [eK P aAf 1413 (sV aVt 1299),eK P aAg 1415 (sV aAm 1287),eK P aAj 1417 (z 51 467),eK P aAi 1419 (z 5 1402),eK P aAh 1421 (z 0 576)] 5),
(514,⟨rV 169,(some 513),.plain,⟨[]⟩⟩),
(515,dV y4 [eK P q43 1406 (rV 514),eK P aAf 1407 (sV aVt 1299),eK P aAg 1408 (sV aAm 1287),eK P aAj 1409 (z 51 467),eK P aAi 1410 (z 5 1402),eK P aAh 1411 (z 0 576)] 6),
(516,tU [z 6 1422,sV aVs 1300])]
noncomputable def cAp(p:Program)(P:Params):List (Nat×Obj):=[
(517,fV y24 [.none,cV 2]),
(518,tU []),
(519,fV y25 [rV 518,.none,.none,.none,.bool false,.none]),
(520,dV y1 [eK P aAf 1433 (sV aVs 1300),eK P aAg 1435 (sV aAm 1287),eK P aAj 1437 (z 51 467),eK P aAi 1439 (z 6 1422),eK P aAh 1441 (z 0 576)] 5),
(521,⟨rV 169,(some 520),.plain,⟨[]⟩⟩),
(522,dV y4 [eK P q43 1426 (rV 521),eK P aAf 1427 (sV aVs 1300),eK P aAg 1428 (sV aAm 1287),eK P aAj 1429 (z 51 467),eK P aAi 1430 (z 6 1422),eK P aAh 1431 (z 0 576)] 6),
(523,tU [z 7 1442,sV aQn 1301]),
(524,fV y24 [.none,cV 2]),
(525,tU []),
(526,fV y25 [rV 525,.none,.none,.none,.bool false,.none]),
(527,dV y1 [eK P aAf 1453 (sV aQn 1301),eK P aAg 1455 (sV aAm 1287),eK P aAj 1457 (z 51 467),eK P aAi 1459 (z 7 1442),eK P aAh 1461 (z 0 576)] 5),
(528,⟨rV 169,(some 527),.plain,⟨[]⟩⟩),
(529,dV y4 [eK P q43 1446 (rV 528),eK P aAf 1447 (sV aQn 1301),eK P aAg 1448 (sV aAm 1287),eK P aAj 1449 (z 51 467),eK P aAi 1450 (z 7 1442),eK P aAh 1451 (z 0 576)] 6),
(530,tU []),
(531,fV y25 [rV 530,.none,.none,.none,.bool false,.none]),
(532,dV y4 [eK P aKx 1465 (sV bXh 1462),eK P aAg 1466 (sV aAm 1463),eK P aAj 1467 (z 51 467),eK P aAh 1468 (z 32 1464),eK P aF4 1469 (rV 533),eK P aAi 1478 (z 5 1513),eK P aAf 1479 (sV aQm 1476)] 7),
(533,⟨.type y21,none,.seq ⟨[rV 542,rV 565]⟩ 2,⟨[]⟩⟩),
(534,⟨.type y21,none,.seq ⟨[sV aJs 1471,sV aBo 1472,sV aBo 1473,sV aBo 1474,sV aBo 1475,sV aQm 1476]⟩ 0,⟨[]⟩⟩),
(535,fV y22 [.none,cV 6]),
(536,fV y23 [.none,.bool false,rV 535,cV 6,.none,sV aQm 1476]),
(537,tU [z 0 1477,sV aJs 1471]),
(538,fV y24 [.none,cV 2]),
(539,tU []),
(540,fV y25 [rV 539,.none,.none,.none,.bool false,.none]),
(541,dV y1 [eK P aAf 1488 (sV aJs 1471),eK P aAg 1490 (sV aAm 1463),eK P aAj 1492 (z 51 467),eK P aAi 1494 (z 0 1477),eK P aAh 1496 (z 32 1464)] 5),
(542,⟨rV 169,(some 541),.plain,⟨[]⟩⟩),
(543,dV y4 [eK P q43 1481 (rV 542),eK P aAf 1482 (sV aJs 1471),eK P aAg 1483 (sV aAm 1463),eK P aAj 1484 (z 51 467),eK P aAi 1485 (z 0 1477),eK P aAh 1486 (z 32 1464)] 6),
(544,tU [z 1 1497,sV aBo 1472]),
(545,fV y24 [.none,cV 2]),
(546,tU []),
(547,fV y25 [rV 546,.none,.none,.none,.bool false,.none]),
(548,tU [z 2 1501,sV aBo 1473]),
(549,fV y24 [.none,cV 2]),
(550,tU []),
(551,fV y25 [rV 550,.none,.none,.none,.bool false,.none]),
(552,tU [z 3 1505,sV aBo 1474]),
(553,fV y24 [.none,cV 2]),
(554,tU []),
(555,fV y25 [rV 554,.none,.none,.none,.bool false,.none]),
(556,tU [z 4 1509,sV aBo 1475]),
(557,fV y24 [.none,cV 2]),
(558,tU []),
(559,fV y25 [rV 558,.none,.none,.none,.bool false,.none]),
(560,tU [z 5 1513,sV aQm 1476]),
(561,fV y24 [.none,cV 2]),
(562,tU []),
(563,fV y25 [rV 562,.none,.none,.none,.bool false,.none]),
(564,dV y1 [eK P aAf 1524 (sV aQm 1476),eK P aAg 1526 (sV aAm 1463),eK P aAj 1528 (z 51 467),eK P aAi 1530 (z 5 1513),eK P aAh 1532 (z 32 1464)] 5),
(565,⟨rV 169,(some 564),.plain,⟨[]⟩⟩),
(566,dV y4 [eK P q43 1517 (rV 565),eK P aAf 1518 (sV aQm 1476),eK P aAg 1519 (sV aAm 1463),eK P aAj 1520 (z 51 467),eK P aAi 1521 (z 5 1513),eK P aAh 1522 (z 32 1464)] 6),
(567,tU []),
(568,fV y25 [rV 567,.none,.none,.none,.bool false,.none])]
noncomputable def D5(p:Program)(P:Params):List (Nat×Obj):=apL (cAr p P) (apL (cAq p P) (cAp p P))
noncomputable def T5(p:Program)(P:Params):BT:=aDc (T4 p P) (D5 p P)
noncomputable def S5(p:Program)(w:World)(os:OsState):SharedT:=⟨T5 p w.params,569,aBk,#[],boot_drawn,1533,os⟩
noncomputable def cAo(p:Program)(P:Params):List (Nat×Obj):=[
(196,dV y4 [eK P aF4 683 (rV 209),eK P aAf 1962 (sV bA6 1960),eK P aG1 1963 (z 770 1961)] 3),
(209,⟨.type y21,none,.seq ⟨[rV 198,rV 201,rV 204,rV 207,rV 220,rV 227,rV 242,rV 249,rV 256,rV 263,rV 277,rV 284,rV 291,rV 302,rV 309,rV 323,rV 330,rV 337,rV 351,rV 362,rV 369,rV 376,rV 387,rV 394,rV 412,rV 431,rV 465,rV 479,rV 486,rV 493,rV 500,rV 507,rV 514,rV 521,rV 528,rV 542,rV 565,rV 579,rV 586,rV 593,rV 600,rV 607,rV 614,rV 621,rV 628,rV 642,rV 649,rV 667,rV 674,rV 681,rV 715,rV 722,rV 729,rV 734,rV 747,rV 753,rV 759,rV 765,rV 771]⟩ 18,⟨[]⟩⟩),
(569,dV y4 [eK P aKx 1536 (sV bXg 1533),eK P aAg 1537 (sV aAm 1534),eK P aAj 1538 (z 51 467),eK P aAh 1539 (z 1 1535),eK P aF4 1540 (rV 570),eK P aAi 1551 (z 7 1690),eK P aAf 1552 (sV aHz 1549)] 7),
(570,⟨.type y21,none,.seq ⟨[rV 579,rV 586,rV 593,rV 600,rV 607,rV 614,rV 621,rV 628]⟩ 8,⟨[]⟩⟩),
(571,⟨.type y21,none,.seq ⟨[sV aJr 1542,sV aJq 1543,sV aJp 1544,sV aJo 1545,sV aJn 1546,sV aJm 1547,sV aJl 1548,sV aHz 1549]⟩ 0,⟨[]⟩⟩),
(572,fV y22 [.none,cV 8]),
(573,fV y23 [.none,.bool false,rV 572,cV 8,.none,sV aHz 1549]),
(574,tU [z 0 1550,sV aJr 1542]),
(575,fV y24 [.none,cV 2]),
(576,tU []),
(577,fV y25 [rV 576,.none,.none,.none,.bool false,.none]),
(578,dV y1 [eK P aAf 1561 (sV aJr 1542),eK P aAg 1563 (sV aAm 1534),eK P aAj 1565 (z 51 467),eK P aAi 1567 (z 0 1550),eK P aAh 1569 (z 1 1535)] 5),
(579,⟨rV 169,(some 578),.plain,⟨[]⟩⟩),
(580,dV y4 [eK P q43 1554 (rV 579),eK P aAf 1555 (sV aJr 1542),eK P aAg 1556 (sV aAm 1534),eK P aAj 1557 (z 51 467),eK P aAi 1558 (z 0 1550),eK P aAh 1559 (z 1 1535)] 6),
(581,tU [z 1 1570,sV aJq 1543]),
(582,fV y24 [.none,cV 2]),
(583,tU []),
(584,fV y25 [rV 583,.none,.none,.none,.bool false,.none]),
(585,dV y1 [eK P aAf 1581 (sV aJq 1543),eK P aAg 1583 (sV aAm 1534),eK P aAj 1585 (z 51 467),eK P aAi 1587 (z 1 1570),eK P aAh 1589 (z 1 1535)] 5),
(586,⟨rV 169,(some 585),.plain,⟨[]⟩⟩),
(587,dV y4 [eK P q43 1574 (rV 586),eK P aAf 1575 (sV aJq 1543),eK P aAg 1576 (sV aAm 1534),eK P aAj 1577 (z 51 467),eK P aAi 1578 (z 1 1570),eK P aAh 1579 (z 1 1535)] 6),
(588,tU [z 2 1590,sV aJp 1544]),
(589,fV y24 [.none,cV 2]),
(590,tU []),
(591,fV y25 [rV 590,.none,.none,.none,.bool false,.none]),
(592,dV y1 [eK P aAf 1601 (sV aJp 1544),eK P aAg 1603 (sV aAm 1534),eK P aAj 1605 (z 51 467),eK P aAi 1607 (z 2 1590),eK P aAh 1609 (z 1 1535)] 5),
(593,⟨rV 169,(some 592),.plain,⟨[]⟩⟩),
(594,dV y4 [eK P q43 1594 (rV 593),eK P aAf 1595 (sV aJp 1544),eK P aAg 1596 (sV aAm 1534),eK P aAj 1597 (z 51 467),eK P aAi 1598 (z 2 1590),eK P aAh 1599 (z 1 1535)] 6),
(595,tU [z 3 1610,sV aJo 1545]),
(596,fV y24 [.none,cV 2]),
(597,tU []),
(598,fV y25 [rV 597,.none,.none,.none,.bool false,.none]),
(599,dV y1 [eK P aAf 1621 (sV aJo 1545),eK P aAg 1623 (sV aAm 1534),eK P aAj 1625 (z 51 467),eK P aAi 1627 (z 3 1610),eK P aAh 1629 (z 1 1535)] 5),
(600,⟨rV 169,(some 599),.plain,⟨[]⟩⟩),
(601,dV y4 [eK P q43 1614 (rV 600),eK P aAf 1615 (sV aJo 1545),eK P aAg 1616 (sV aAm 1534),eK P aAj 1617 (z 51 467),eK P aAi 1618 (z 3 1610),eK P aAh 1619 (z 1 1535)] 6),
(602,tU [z 4 1630,sV aJn 1546]),
(603,fV y24 [.none,cV 2]),
(604,tU []),
(605,fV y25 [rV 604,.none,.none,.none,.bool false,.none]),
(606,dV y1 [eK P aAf 1641 (sV aJn 1546),eK P aAg 1643 (sV aAm 1534),eK P aAj 1645 (z 51 467),eK P aAi 1647 (z 4 1630),eK P aAh 1649 (z 1 1535)] 5),
(607,⟨rV 169,(some 606),.plain,⟨[]⟩⟩),
(608,dV y4 [eK P q43 1634 (rV 607),eK P aAf 1635 (sV aJn 1546),eK P aAg 1636 (sV aAm 1534),eK P aAj 1637 (z 51 467),eK P aAi 1638 (z 4 1630),eK P aAh 1639 (z 1 1535)] 6),
(609,tU [z 5 1650,sV aJm 1547]),
(610,fV y24 [.none,cV 2]),
(611,tU []),
(612,fV y25 [rV 611,.none,.none,.none,.bool false,.none]),
(613,dV y1 [eK P aAf 1661 (sV aJm 1547),eK P aAg 1663 (sV aAm 1534),eK P aAj 1665 (z 51 467),eK P aAi 1667 (z 5 1650),eK P aAh 1669 (z 1 1535)] 5),
(614,⟨rV 169,(some 613),.plain,⟨[]⟩⟩),
(615,dV y4 [eK P q43 1654 (rV 614),eK P aAf 1655 (sV aJm 1547),eK P aAg 1656 (sV aAm 1534),eK P aAj 1657 (z 51 467),eK P aAi 1658 (z 5 1650),eK P aAh 1659 (z 1 1535)] 6),
(616,tU [z 6 1670,sV aJl 1548]),
(617,fV y24 [.none,cV 2]),
(618,tU []),
(619,fV y25 [rV 618,.none,.none,.none,.bool false,.none]),
(620,dV y1 [eK P aAf 1681 (sV aJl 1548),eK P aAg 1683 (sV aAm 1534),eK P aAj 1685 (z 51 467),eK P aAi 1687 (z 6 1670),eK P aAh 1689 (z 1 1535)] 5),
(621,⟨rV 169,(some 620),.plain,⟨[]⟩⟩),
(622,dV y4 [eK P q43 1674 (rV 621),eK P aAf 1675 (sV aJl 1548),eK P aAg 1676 (sV aAm 1534),eK P aAj 1677 (z 51 467),eK P aAi 1678 (z 6 1670),eK P aAh 1679 (z 1 1535)] 6),
(623,tU [z 7 1690,sV aHz 1549]),
(624,fV y24 [.none,cV 2]),
(625,tU []),
(626,fV y25 [rV 625,.none,.none,.none,.bool false,.none])]
noncomputable def cAn(p:Program)(P:Params):List (Nat×Obj):=[
(627,dV y1 [eK P aAf 1701 (sV aHz 1549),eK P aAg 1703 (sV aAm 1534),eK P aAj 1705 (z 51 467),eK P aAi 1707 (z 7 1690),eK P aAh 1709 (z 1 1535)] 5),
(628,⟨rV 169,(some 627),.plain,⟨[]⟩⟩),
(629,dV y4 [eK P q43 1694 (rV 628),eK P aAf 1695 (sV aHz 1549),eK P aAg 1696 (sV aAm 1534),eK P aAj 1697 (z 51 467),eK P aAi 1698 (z 7 1690),eK P aAh 1699 (z 1 1535)] 6),
(630,tU []),
(631,fV y25 [rV 630,.none,.none,.none,.bool false,.none]),
(632,dV y4 [eK P aKx 1712 (sV bXf 1710),eK P aAg 1713 (sV aAx 1711),eK P aAj 1714 (z 15 459),eK P aAh 1715 (z 0 576),eK P aF4 1716 (rV 633),eK P aAi 1721 (z 1 1740),eK P aAf 1722 (sV aVr 1719)] 7),
(633,⟨.type y21,none,.seq ⟨[rV 642,rV 649]⟩ 2,⟨[]⟩⟩),
(634,⟨.type y21,none,.seq ⟨[sV aAx 1718,sV aVr 1719]⟩ 0,⟨[]⟩⟩),
(635,fV y22 [.none,cV 2]),
(636,fV y23 [.none,.bool false,rV 635,cV 2,.none,sV aVr 1719]),
(637,tU [z 0 1720,sV aAx 1718]),
(638,fV y24 [.none,cV 2]),
(639,tU []),
(640,fV y25 [rV 639,.none,.none,.none,.bool false,.none]),
(641,dV y1 [eK P aAf 1731 (sV aAx 1718),eK P aAg 1733 (sV aAx 1711),eK P aAj 1735 (z 15 459),eK P aAi 1737 (z 0 1720),eK P aAh 1739 (z 0 576)] 5),
(642,⟨rV 169,(some 641),.plain,⟨[]⟩⟩),
(643,dV y4 [eK P q43 1724 (rV 642),eK P aAf 1725 (sV aAx 1718),eK P aAg 1726 (sV aAx 1711),eK P aAj 1727 (z 15 459),eK P aAi 1728 (z 0 1720),eK P aAh 1729 (z 0 576)] 6),
(644,tU [z 1 1740,sV aVr 1719]),
(645,fV y24 [.none,cV 2]),
(646,tU []),
(647,fV y25 [rV 646,.none,.none,.none,.bool false,.none]),
(648,dV y1 [eK P aAf 1751 (sV aVr 1719),eK P aAg 1753 (sV aAx 1711),eK P aAj 1755 (z 15 459),eK P aAi 1757 (z 1 1740),eK P aAh 1759 (z 0 576)] 5),
(649,⟨rV 169,(some 648),.plain,⟨[]⟩⟩),
(650,dV y4 [eK P q43 1744 (rV 649),eK P aAf 1745 (sV aVr 1719),eK P aAg 1746 (sV aAx 1711),eK P aAj 1747 (z 15 459),eK P aAi 1748 (z 1 1740),eK P aAh 1749 (z 0 576)] 6),
(651,tU []),
(652,fV y25 [rV 651,.none,.none,.none,.bool false,.none]),
(653,dV y4 [eK P aKx 1762 (sV bXe 1760),eK P aAg 1763 (sV aA2 1761),eK P aAj 1764 (z 115 477),eK P aAh 1765 (z 0 576),eK P aF4 1766 (rV 654),eK P aAi 1773 (z 3 1816),eK P aAf 1774 (sV aVq 1771)] 7),
(654,⟨.type y21,none,.seq ⟨[rV 667,rV 674,rV 681]⟩ 3,⟨[]⟩⟩),
(655,⟨.type y21,none,.seq ⟨[sV aBo 1768,sV bA5 1769,sV bA4 1770,sV aVq 1771]⟩ 0,⟨[]⟩⟩),
(656,fV y22 [.none,cV 4]),
(657,fV y23 [.none,.bool false,rV 656,cV 4,.none,sV aVq 1771]),
(658,tU [z 0 1772,sV aBo 1768]),
(659,fV y24 [.none,cV 2]),
(660,tU []),
(661,fV y25 [rV 660,.none,.none,.none,.bool false,.none]),
(662,tU [z 1 1776,sV bA5 1769]),
(663,fV y24 [.none,cV 2]),
(664,tU []),
(665,fV y25 [rV 664,.none,.none,.none,.bool false,.none]),
(666,dV y1 [eK P aAf 1787 (sV bA5 1769),eK P aAg 1789 (sV aA2 1761),eK P aAj 1791 (z 115 477),eK P aAi 1793 (z 1 1776),eK P aAh 1795 (z 0 576)] 5),
(667,⟨rV 169,(some 666),.plain,⟨[]⟩⟩),
(668,dV y4 [eK P q43 1780 (rV 667),eK P aAf 1781 (sV bA5 1769),eK P aAg 1782 (sV aA2 1761),eK P aAj 1783 (z 115 477),eK P aAi 1784 (z 1 1776),eK P aAh 1785 (z 0 576)] 6),
(669,tU [z 2 1796,sV bA4 1770]),
(670,fV y24 [.none,cV 2]),
(671,tU []),
(672,fV y25 [rV 671,.none,.none,.none,.bool false,.none]),
(673,dV y1 [eK P aAf 1807 (sV bA4 1770),eK P aAg 1809 (sV aA2 1761),eK P aAj 1811 (z 115 477),eK P aAi 1813 (z 2 1796),eK P aAh 1815 (z 0 576)] 5),
(674,⟨rV 169,(some 673),.plain,⟨[]⟩⟩),
(675,dV y4 [eK P q43 1800 (rV 674),eK P aAf 1801 (sV bA4 1770),eK P aAg 1802 (sV aA2 1761),eK P aAj 1803 (z 115 477),eK P aAi 1804 (z 2 1796),eK P aAh 1805 (z 0 576)] 6),
(676,tU [z 3 1816,sV aVq 1771]),
(677,fV y24 [.none,cV 2]),
(678,tU []),
(679,fV y25 [rV 678,.none,.none,.none,.bool false,.none]),
(680,dV y1 [eK P aAf 1827 (sV aVq 1771),eK P aAg 1829 (sV aA2 1761),eK P aAj 1831 (z 115 477),eK P aAi 1833 (z 3 1816),eK P aAh 1835 (z 0 576)] 5),
(681,⟨rV 169,(some 680),.plain,⟨[]⟩⟩),
(682,dV y4 [eK P q43 1820 (rV 681),eK P aAf 1821 (sV aVq 1771),eK P aAg 1822 (sV aA2 1761),eK P aAj 1823 (z 115 477),eK P aAi 1824 (z 3 1816),eK P aAh 1825 (z 0 576)] 6),
(683,tU []),
(684,fV y25 [rV 683,.none,.none,.none,.bool false,.none]),
(685,dV y4 [eK P aKx 1838 (sV bXd 1836),eK P aAg 1839 (sV aA1 1837),eK P aAj 1840 (z 115 477),eK P aAh 1841 (z 0 576),eK P aF4 1842 (rV 686),eK P aAi 1853 (z 7 1912),eK P aAf 1854 (sV aVp 1851)] 7),
(686,⟨.type y21,none,.seq ⟨[rV 715,rV 722,rV 729]⟩ 3,⟨[]⟩⟩)]
noncomputable def cAm(p:Program)(P:Params):List (Nat×Obj):=[
(687,⟨.type y21,none,.seq ⟨[sV aBo 1844,sV aBo 1845,sV aBo 1846,sV aBo 1847,sV aBo 1848,sV bA3 1849,sV bA2 1850,sV aVp 1851]⟩ 0,⟨[]⟩⟩),
(688,fV y22 [.none,cV 8]),
(689,fV y23 [.none,.bool false,rV 688,cV 8,.none,sV aVp 1851]),
(690,tU [z 0 1852,sV aBo 1844]),
(691,fV y24 [.none,cV 2]),
(692,tU []),
(693,fV y25 [rV 692,.none,.none,.none,.bool false,.none]),
(694,tU [z 1 1856,sV aBo 1845]),
(695,fV y24 [.none,cV 2]),
(696,tU []),
(697,fV y25 [rV 696,.none,.none,.none,.bool false,.none]),
(698,tU [z 2 1860,sV aBo 1846]),
(699,fV y24 [.none,cV 2]),
(700,tU []),
(701,fV y25 [rV 700,.none,.none,.none,.bool false,.none]),
(702,tU [z 3 1864,sV aBo 1847]),
(703,fV y24 [.none,cV 2]),
(704,tU []),
(705,fV y25 [rV 704,.none,.none,.none,.bool false,.none]),
(706,tU [z 4 1868,sV aBo 1848]),
(707,fV y24 [.none,cV 2]),
(708,tU []),
(709,fV y25 [rV 708,.none,.none,.none,.bool false,.none]),
(710,tU [z 5 1872,sV bA3 1849]),
(711,fV y24 [.none,cV 2]),
(712,tU []),
(713,fV y25 [rV 712,.none,.none,.none,.bool false,.none]),
(714,dV y1 [eK P aAf 1883 (sV bA3 1849),eK P aAg 1885 (sV aA1 1837),eK P aAj 1887 (z 115 477),eK P aAi 1889 (z 5 1872),eK P aAh 1891 (z 0 576)] 5),
(715,⟨rV 169,(some 714),.plain,⟨[]⟩⟩),
(716,dV y4 [eK P q43 1876 (rV 715),eK P aAf 1877 (sV bA3 1849),eK P aAg 1878 (sV aA1 1837),eK P aAj 1879 (z 115 477),eK P aAi 1880 (z 5 1872),eK P aAh 1881 (z 0 576)] 6),
(717,tU [z 6 1892,sV bA2 1850]),
(718,fV y24 [.none,cV 2]),
(719,tU []),
(720,fV y25 [rV 719,.none,.none,.none,.bool false,.none]),
(721,dV y1 [eK P aAf 1903 (sV bA2 1850),eK P aAg 1905 (sV aA1 1837),eK P aAj 1907 (z 115 477),eK P aAi 1909 (z 6 1892),eK P aAh 1911 (z 0 576)] 5),
(722,⟨rV 169,(some 721),.plain,⟨[]⟩⟩),
(723,dV y4 [eK P q43 1896 (rV 722),eK P aAf 1897 (sV bA2 1850),eK P aAg 1898 (sV aA1 1837),eK P aAj 1899 (z 115 477),eK P aAi 1900 (z 6 1892),eK P aAh 1901 (z 0 576)] 6),
(724,tU [z 7 1912,sV aVp 1851]),
(725,fV y24 [.none,cV 2]),
(726,tU []),
(727,fV y25 [rV 726,.none,.none,.none,.bool false,.none]),
(728,dV y1 [eK P aAf 1923 (sV aVp 1851),eK P aAg 1925 (sV aA1 1837),eK P aAj 1927 (z 115 477),eK P aAi 1929 (z 7 1912),eK P aAh 1931 (z 0 576)] 5),
(729,⟨rV 169,(some 728),.plain,⟨[]⟩⟩),
(730,dV y4 [eK P q43 1916 (rV 729),eK P aAf 1917 (sV aVp 1851),eK P aAg 1918 (sV aA1 1837),eK P aAj 1919 (z 115 477),eK P aAi 1920 (z 7 1912),eK P aAh 1921 (z 0 576)] 6),
(731,tU []),
(732,fV y25 [rV 731,.none,.none,.none,.bool false,.none]),
(733,dV y1 [eK P aAf 1943 (sV bJ5 1932),eK P aAg 1945 (sV aAz 1933),eK P aAj 1947 (z 115 477),eK P aAi 1949 (z 0 1934),eK P aAh 1951 (z 9 1935)] 5),
(734,⟨rV 169,(some 733),.plain,⟨[]⟩⟩),
(735,dV y4 [eK P q43 1936 (rV 734),eK P aAf 1937 (sV bJ5 1932),eK P aAg 1938 (sV aAz 1933),eK P aAj 1939 (z 115 477),eK P aAi 1940 (z 0 1934),eK P aAh 1941 (z 9 1935)] 6),
(736,tU [sV aLw 1952,z 0 1953]),
(737,tU [sV aLv 1954,z 1 1955]),
(738,tU [sV bFr 1956,z 258 1957]),
(739,tU [sV bFq 1958,z 261 1959]),
(740,tU [sV bA6 1960,z 770 1961]),
(741,tU [rV 736,rV 737,rV 738,rV 739,rV 740]),
(742,fV y24 [.none,cV 5]),
(743,fV y24 [.none,cV 2]),
(744,tU []),
(745,fV y25 [rV 744,.none,.none,.none,.bool false,.none]),
(746,dV y1 [eK P aAf 1975 (sV aLw 1952),eK P aAg 1977 (sV aLu 1964),eK P aAj 1979 (z 115 1967),eK P aAi 1981 (z 0 542),eK P aAh 1983 (z 0 543)] 5)]
noncomputable def cAl(p:Program)(P:Params):List (Nat×Obj):=[
(747,⟨rV 169,(some 746),.plain,⟨[]⟩⟩),
(748,dV y4 [eK P q43 1968 (rV 747),eK P aAf 1969 (sV aLw 1952),eK P aAg 1970 (sV aLu 1964),eK P aAj 1971 (z 115 1967),eK P aAi 1972 (z 0 542),eK P aAh 1973 (z 0 543)] 6),
(749,fV y24 [.none,cV 2]),
(750,tU []),
(751,fV y25 [rV 750,.none,.none,.none,.bool false,.none]),
(752,dV y1 [eK P aAf 1997 (sV aLv 1954),eK P aAg 1999 (sV aLu 1986),eK P aAj 2001 (z 1048691 1989),eK P aAi 2003 (z 0 542),eK P aAh 2005 (z 0 543)] 5),
(753,⟨rV 169,(some 752),.plain,⟨[]⟩⟩),
(754,dV y4 [eK P q43 1990 (rV 753),eK P aAf 1991 (sV aLv 1954),eK P aAg 1992 (sV aLu 1986),eK P aAj 1993 (z 1048691 1989),eK P aAi 1994 (z 0 542),eK P aAh 1995 (z 0 543)] 6),
(755,fV y24 [.none,cV 2]),
(756,tU []),
(757,fV y25 [rV 756,.none,.none,.none,.bool false,.none]),
(758,dV y1 [eK P aAf 2019 (sV bFr 1956),eK P aAg 2021 (sV aLu 2008),eK P aAj 2023 (z 270532723 2011),eK P aAi 2025 (z 0 542),eK P aAh 2027 (z 0 543)] 5),
(759,⟨rV 169,(some 758),.plain,⟨[]⟩⟩),
(760,dV y4 [eK P q43 2012 (rV 759),eK P aAf 2013 (sV bFr 1956),eK P aAg 2014 (sV aLu 2008),eK P aAj 2015 (z 270532723 2011),eK P aAi 2016 (z 0 542),eK P aAh 2017 (z 0 543)] 6),
(761,fV y24 [.none,cV 2]),
(762,tU []),
(763,fV y25 [rV 762,.none,.none,.none,.bool false,.none]),
(764,dV y1 [eK P aAf 2041 (sV bFq 1958),eK P aAg 2043 (sV aLu 2030),eK P aAj 2045 (z 273678451 2033),eK P aAi 2047 (z 0 542),eK P aAh 2049 (z 0 543)] 5),
(765,⟨rV 169,(some 764),.plain,⟨[]⟩⟩),
(766,dV y4 [eK P q43 2034 (rV 765),eK P aAf 2035 (sV bFq 1958),eK P aAg 2036 (sV aLu 2030),eK P aAj 2037 (z 273678451 2033),eK P aAi 2038 (z 0 542),eK P aAh 2039 (z 0 543)] 6),
(767,fV y24 [.none,cV 2]),
(768,tU []),
(769,fV y25 [rV 768,.none,.none,.none,.bool false,.none]),
(770,dV y1 [eK P aAf 2063 (sV bA6 1960),eK P aAg 2065 (sV aLu 2052),eK P aAj 2067 (z 807403635 2055),eK P aAi 2069 (z 0 542),eK P aAh 2071 (z 0 543)] 5),
(771,⟨rV 169,(some 770),.plain,⟨[]⟩⟩),
(772,dV y4 [eK P q43 2056 (rV 771),eK P aAf 2057 (sV bA6 1960),eK P aAg 2058 (sV aLu 2052),eK P aAj 2059 (z 807403635 2055),eK P aAi 2060 (z 0 542),eK P aAh 2061 (z 0 543)] 6),
(773,tU []),
(774,fV y25 [rV 773,.none,.none,.none,.bool false,.none])]
noncomputable def D6(p:Program)(P:Params):List (Nat×Obj):=apL (cAo p P) (apL (cAn p P) (apL (cAm p P) (cAl p P)))
noncomputable def T6(p:Program)(P:Params):BT:=aDc (T5 p P) (D6 p P)
noncomputable def S6(p:Program)(w:World)(os:OsState):SharedT:=⟨T6 p w.params,775,aBk,#[],boot_drawn,2072,os⟩
noncomputable def D7(p:Program)(P:Params):List (Nat×Obj):=[]
noncomputable def T7(p:Program)(P:Params):BT:=aDc (T6 p P) (D7 p P)
noncomputable def S7(p:Program)(w:World)(os:OsState):SharedT:=⟨T7 p w.params,775,aBk,#[],boot_drawn,2072,os⟩
noncomputable def cAk(p:Program)(P:Params):List (Nat×Obj):=[
(191,dV y1 [eK P q36 606 (sV q4 346),eK P q38 608 (sV aG0 607),eK P q39 610 (z 102 609),eK P aVo 2072 (rV 209)] 4)]
noncomputable def D8(p:Program)(P:Params):List (Nat×Obj):=cAk p P
noncomputable def T8(p:Program)(P:Params):BT:=aDc (T7 p P) (D8 p P)
noncomputable def S8(p:Program)(w:World)(os:OsState):SharedT:=⟨T8 p w.params,775,aBk,#[],boot_drawn,2073,os⟩
noncomputable def cAj(p:Program)(P:Params):List (Nat×Obj):=[
(191,dV y1 [eK P q36 606 (sV q4 346),eK P q38 608 (sV aG0 607),eK P q39 610 (z 102 609),eK P aVo 2072 (rV 209),eK P aQl 2250 (rV 776),eK P aVn 2493 (rV 781)] 6),
(775,fV y22 [.none,cV 59]),
(776,dV y1 [eK P bJ8 611 (rV 198),eK P bJ7 629 (rV 201),eK P aMu 647 (rV 204),eK P bJ6 665 (rV 207),eK P aZb 692 (rV 220),eK P aZa 693 (rV 227),eK P aY9 696 (rV 242),eK P aY8 697 (rV 249),eK P aY7 698 (rV 256),eK P aS1 699 (rV 263),eK P aY6 836 (rV 277),eK P aY5 837 (rV 284),eK P aJu 838 (rV 291),eK P aY4 840 (rV 302),eK P aS0 841 (rV 309),eK P aY3 954 (rV 323),eK P aY2 955 (rV 330),eK P aSz 956 (rV 337),eK P aJt 1025 (rV 351),eK P aY1 1027 (rV 362),eK P aY0 1028 (rV 369),eK P aYz 1029 (rV 376),eK P aYy 1031 (rV 387),eK P aSy 1032 (rV 394),eK P aYx 1170 (rV 412),eK P aSx 1174 (rV 431),eK P aSw 1245 (rV 465),eK P aDy 1294 (rV 479),eK P aVx 1295 (rV 486),eK P aVw 1296 (rV 493),eK P aVv 1297 (rV 500),eK P aVu 1298 (rV 507),eK P aVt 1299 (rV 514),eK P aVs 1300 (rV 521),eK P aQn 1301 (rV 528),eK P aJs 1471 (rV 542),eK P aQm 1476 (rV 565),eK P aJr 1542 (rV 579),eK P aJq 1543 (rV 586),eK P aJp 1544 (rV 593),eK P aJo 1545 (rV 600),eK P aJn 1546 (rV 607),eK P aJm 1547 (rV 614),eK P aJl 1548 (rV 621),eK P aHz 1549 (rV 628),eK P aAx 1718 (rV 642),eK P aVr 1719 (rV 649),eK P bA5 1769 (rV 667),eK P bA4 1770 (rV 674),eK P aVq 1771 (rV 681),eK P bA3 1849 (rV 715),eK P bA2 1850 (rV 722),eK P aVp 1851 (rV 729),eK P bJ5 1932 (rV 734),eK P aLw 1952 (rV 747),eK P aLv 1954 (rV 753),eK P bFr 1956 (rV 759),eK P bFq 1958 (rV 765),eK P bA6 1960 (rV 771)] 59),
(777,dV y1 [] 2),
(778,tU []),
(779,fV y25 [rV 778,.none,.none,.none,.bool false,.none]),
(780,fV y22 [.none,cV 59]),
(781,dV y1 [⟨.ofNat 55,z 55 469,rV 198⟩,⟨.ofNat 23,z 23 463,rV 201⟩,⟨.ofNat 111,z 111 475,rV 204⟩] 3),
(782,dV y1 [] 2),
(783,tU [sV aA8 2253,sV aA9 2254]),
(784,tU [sV aA8 2259,sV aA9 2260]),
(785,tU [sV aA8 2265,sV aA9 2266]),
(786,tU [sV aA8 2271,sV aA9 2272]),
(787,tU [sV aA8 2275,sV aA9 2276]),
(788,tU [sV aA8 2279,sV aA9 2280]),
(789,tU [sV aA8 2283,sV aA9 2284]),
(790,tU [sV aA8 2287,sV aA9 2288]),
(791,tU [sV aA8 2291,sV aA9 2292]),
(792,tU [sV aA8 2295,sV aA9 2296]),
(793,tU [sV aA8 2299,sV aA9 2300]),
(794,tU [sV aA8 2303,sV aA9 2304]),
(795,tU [sV aA8 2307,sV aA9 2308]),
(796,tU [sV aA8 2311,sV aA9 2312]),
(797,tU [sV aA8 2315,sV aA9 2316]),
(798,tU [sV aA8 2319,sV aA9 2320]),
(799,tU [sV aA8 2323,sV aA9 2324]),
(800,tU [sV aA8 2327,sV aA9 2328]),
(801,tU [sV aA8 2331,sV aA9 2332]),
(802,tU [sV aA8 2335,sV aA9 2336]),
(803,tU [sV aA8 2339,sV aA9 2340]),
(804,tU [sV aA8 2343,sV aA9 2344]),
(805,tU [sV aA8 2347,sV aA9 2348]),
(806,tU [sV aA8 2351,sV aA9 2352]),
(807,tU [sV aA8 2355,sV aA9 2356]),
(808,tU [sV aA8 2359,sV aA9 2360]),
(809,tU [sV aA8 2363,sV aA9 2364]),
(810,tU [sV aA8 2367,sV aA9 2368]),
(811,tU [sV aA8 2371,sV aA9 2372]),
(812,tU [sV aA8 2375,sV aA9 2376]),
(813,tU [sV aA8 2379,sV aA9 2380]),
(814,tU [sV aA8 2383,sV aA9 2384]),
(815,tU [sV aA8 2387,sV aA9 2388]),
(816,tU [sV aA8 2391,sV aA9 2392]),
(817,tU [sV aA8 2395,sV aA9 2396]),
(818,tU [sV aA8 2399,sV aA9 2400]),
(819,tU [sV aA8 2403,sV aA9 2404]),
(820,tU [sV aA8 2407,sV aA9 2408]),
(821,tU [sV aA8 2411,sV aA9 2412]),
(822,tU [sV aA8 2415,sV aA9 2416]),
(823,tU [sV aA8 2419,sV aA9 2420]),
(824,tU [sV aA8 2423,sV aA9 2424]),
(825,tU [sV aA8 2427,sV aA9 2428]),
(826,tU [sV aA8 2431,sV aA9 2432]),
(827,tU [sV aA8 2435,sV aA9 2436]),
(828,tU [sV aA8 2439,sV aA9 2440]),
(829,tU [sV aA8 2443,sV aA9 2444]),
(830,tU [sV aA8 2447,sV aA9 2448]),
(831,tU [sV aA8 2451,sV aA9 2452]),
(832,tU [sV aA8 2455,sV aA9 2456]),
(833,tU [sV aA8 2459,sV aA9 2460])]
noncomputable def cAi(p:Program)(P:Params):List (Nat×Obj):=[
(834,tU [sV aA8 2463,sV aA9 2464]),
(835,tU [sV aA8 2467,sV aA9 2468]),
(836,tU [sV aA8 2471,sV aA9 2472]),
(837,tU [sV aA8 2475,sV aA9 2476]),
(838,tU [sV aA8 2479,sV aA9 2480]),
(839,tU [sV aA8 2483,sV aA9 2484]),
(840,tU [sV aA8 2487,sV aA9 2488]),
(841,tU [sV aA8 2491,sV aA9 2492]),
(842,tU []),
(843,fV y25 [rV 842,.none,.none,.none,.bool false,.none])]
noncomputable def D9(p:Program)(P:Params):List (Nat×Obj):=apL (cAj p P) (cAi p P)
noncomputable def T9(p:Program)(P:Params):BT:=aDc (T8 p P) (D9 p P)
noncomputable def S9(p:Program)(w:World)(os:OsState):SharedT:=⟨T9 p w.params,844,aBk,#[],boot_drawn,2494,os⟩
noncomputable def bNx(p:Program)(P:Params):List (Nat×Obj):=[
(191,dV y1 [eK P q36 606 (sV q4 346),eK P q38 608 (sV aG0 607),eK P q39 610 (z 102 609),eK P aVo 2072 (rV 209),eK P aQl 2250 (rV 776),eK P aVn 2493 (rV 781),eK P aYw 3285 (rV 845)] 7),
(844,fV y22 [.none,cV 59]),
(845,dV y1 [⟨.ofNat 103,z 103 2535,rV 207⟩,⟨.ofNat 99,z 99 2554,rV 220⟩,⟨.ofNat 4195,z 4195 2573,rV 227⟩,⟨.ofNat 16483,z 16483 2592,rV 242⟩,⟨.ofNat 20579,z 20579 2611,rV 249⟩,⟨.ofNat 24675,z 24675 2630,rV 256⟩,⟨.ofNat 28771,z 28771 2649,rV 263⟩,⟨.ofNat 3,z 3 2668,rV 277⟩,⟨.ofNat 4099,z 4099 2687,rV 284⟩,⟨.ofNat 8195,z 8195 2706,rV 291⟩,⟨.ofNat 16387,z 16387 2725,rV 302⟩,⟨.ofNat 20483,z 20483 2744,rV 309⟩,⟨.ofNat 35,z 35 2763,rV 323⟩,⟨.ofNat 4131,z 4131 2782,rV 330⟩,⟨.ofNat 8227,z 8227 2801,rV 337⟩,⟨.ofNat 19,z 19 2820,rV 351⟩,⟨.ofNat 8211,z 8211 2839,rV 362⟩,⟨.ofNat 12307,z 12307 2858,rV 369⟩,⟨.ofNat 16403,z 16403 2877,rV 376⟩,⟨.ofNat 24595,z 24595 2896,rV 387⟩,⟨.ofNat 28691,z 28691 2915,rV 394⟩,⟨.ofNat 15,z 15 3102,rV 642⟩,⟨.ofNat 4111,z 4111 3121,rV 649⟩,⟨.ofNat 4211,z 4211 3140,rV 667⟩,⟨.ofNat 8307,z 8307 3159,rV 674⟩,⟨.ofNat 12403,z 12403 3178,rV 681⟩,⟨.ofNat 20595,z 20595 3197,rV 715⟩,⟨.ofNat 24691,z 24691 3216,rV 722⟩,⟨.ofNat 28787,z 28787 3235,rV 729⟩] 29),
(846,dV y1 [] 2),
(847,tU [sV aAt 2496,sV aA3 2497,sV aAw 2498,sV aAx 2499,sV aA2 2500,sV aA1 2501]),
(848,tU [sV aAt 2504,sV aA3 2505,sV aAw 2506,sV aAx 2507,sV aA2 2508,sV aA1 2509]),
(849,tU [sV aAt 2512,sV aA3 2513,sV aAw 2514,sV aAx 2515,sV aA2 2516,sV aA1 2517]),
(850,tU [sV aAt 2520,sV aA3 2521,sV aAw 2522,sV aAx 2523,sV aA2 2524,sV aA1 2525]),
(851,dV y4 [eK P q43 2526 (rV 207)] 1),
(852,tU [sV aAt 2539,sV aA3 2540,sV aAw 2541,sV aAx 2542,sV aA2 2543,sV aA1 2544]),
(853,dV y4 [eK P q43 2545 (rV 220)] 1),
(854,tU [sV aAt 2558,sV aA3 2559,sV aAw 2560,sV aAx 2561,sV aA2 2562,sV aA1 2563]),
(855,dV y4 [eK P q43 2564 (rV 227)] 1),
(856,tU [sV aAt 2577,sV aA3 2578,sV aAw 2579,sV aAx 2580,sV aA2 2581,sV aA1 2582]),
(857,dV y4 [eK P q43 2583 (rV 242)] 1),
(858,tU [sV aAt 2596,sV aA3 2597,sV aAw 2598,sV aAx 2599,sV aA2 2600,sV aA1 2601]),
(859,dV y4 [eK P q43 2602 (rV 249)] 1),
(860,tU [sV aAt 2615,sV aA3 2616,sV aAw 2617,sV aAx 2618,sV aA2 2619,sV aA1 2620]),
(861,dV y4 [eK P q43 2621 (rV 256)] 1),
(862,tU [sV aAt 2634,sV aA3 2635,sV aAw 2636,sV aAx 2637,sV aA2 2638,sV aA1 2639]),
(863,dV y4 [eK P q43 2640 (rV 263)] 1),
(864,tU [sV aAt 2653,sV aA3 2654,sV aAw 2655,sV aAx 2656,sV aA2 2657,sV aA1 2658]),
(865,dV y4 [eK P q43 2659 (rV 277)] 1),
(866,tU [sV aAt 2672,sV aA3 2673,sV aAw 2674,sV aAx 2675,sV aA2 2676,sV aA1 2677]),
(867,dV y4 [eK P q43 2678 (rV 284)] 1),
(868,tU [sV aAt 2691,sV aA3 2692,sV aAw 2693,sV aAx 2694,sV aA2 2695,sV aA1 2696]),
(869,dV y4 [eK P q43 2697 (rV 291)] 1),
(870,tU [sV aAt 2710,sV aA3 2711,sV aAw 2712,sV aAx 2713,sV aA2 2714,sV aA1 2715]),
(871,dV y4 [eK P q43 2716 (rV 302)] 1),
(872,tU [sV aAt 2729,sV aA3 2730,sV aAw 2731,sV aAx 2732,sV aA2 2733,sV aA1 2734]),
(873,dV y4 [eK P q43 2735 (rV 309)] 1),
(874,tU [sV aAt 2748,sV aA3 2749,sV aAw 2750,sV aAx 2751,sV aA2 2752,sV aA1 2753]),
(875,dV y4 [eK P q43 2754 (rV 323)] 1),
(876,tU [sV aAt 2767,sV aA3 2768,sV aAw 2769,sV aAx 2770,sV aA2 2771,sV aA1 2772]),
(877,dV y4 [eK P q43 2773 (rV 330)] 1),
(878,tU [sV aAt 2786,sV aA3 2787,sV aAw 2788,sV aAx 2789,sV aA2 2790,sV aA1 2791]),
(879,dV y4 [eK P q43 2792 (rV 337)] 1),
(880,tU [sV aAt 2805,sV aA3 2806,sV aAw 2807,sV aAx 2808,sV aA2 2809,sV aA1 2810]),
(881,dV y4 [eK P q43 2811 (rV 351)] 1),
(882,tU [sV aAt 2824,sV aA3 2825,sV aAw 2826,sV aAx 2827,sV aA2 2828,sV aA1 2829]),
(883,dV y4 [eK P q43 2830 (rV 362)] 1),
(884,tU [sV aAt 2843,sV aA3 2844,sV aAw 2845,sV aAx 2846,sV aA2 2847,sV aA1 2848]),
(885,dV y4 [eK P q43 2849 (rV 369)] 1),
(886,tU [sV aAt 2862,sV aA3 2863,sV aAw 2864,sV aAx 2865,sV aA2 2866,sV aA1 2867]),
(887,dV y4 [eK P q43 2868 (rV 376)] 1),
(888,tU [sV aAt 2881,sV aA3 2882,sV aAw 2883,sV aAx 2884,sV aA2 2885,sV aA1 2886]),
(889,dV y4 [eK P q43 2887 (rV 387)] 1),
(890,tU [sV aAt 2900,sV aA3 2901,sV aAw 2902,sV aAx 2903,sV aA2 2904,sV aA1 2905]),
(891,dV y4 [eK P q43 2906 (rV 394)] 1),
(892,tU [sV aAt 2919,sV aA3 2920,sV aAw 2921,sV aAx 2922,sV aA2 2923,sV aA1 2924]),
(893,tU [sV aAt 2927,sV aA3 2928,sV aAw 2929,sV aAx 2930,sV aA2 2931,sV aA1 2932]),
(894,tU [sV aAt 2935,sV aA3 2936,sV aAw 2937,sV aAx 2938,sV aA2 2939,sV aA1 2940]),
(895,tU [sV aAt 2943,sV aA3 2944,sV aAw 2945,sV aAx 2946,sV aA2 2947,sV aA1 2948]),
(896,tU [sV aAt 2951,sV aA3 2952,sV aAw 2953,sV aAx 2954,sV aA2 2955,sV aA1 2956]),
(897,tU [sV aAt 2959,sV aA3 2960,sV aAw 2961,sV aAx 2962,sV aA2 2963,sV aA1 2964]),
(898,tU [sV aAt 2967,sV aA3 2968,sV aAw 2969,sV aAx 2970,sV aA2 2971,sV aA1 2972]),
(899,tU [sV aAt 2975,sV aA3 2976,sV aAw 2977,sV aAx 2978,sV aA2 2979,sV aA1 2980]),
(900,tU [sV aAt 2983,sV aA3 2984,sV aAw 2985,sV aAx 2986,sV aA2 2987,sV aA1 2988]),
(901,tU [sV aAt 2991,sV aA3 2992,sV aAw 2993,sV aAx 2994,sV aA2 2995,sV aA1 2996]),
(902,tU [sV aAt 2999,sV aA3 3000,sV aAw 3001,sV aAx 3002,sV aA2 3003,sV aA1 3004])]
noncomputable def bNw(p:Program)(P:Params):List (Nat×Obj):=[
(903,tU [sV aAt 3007,sV aA3 3008,sV aAw 3009,sV aAx 3010,sV aA2 3011,sV aA1 3012]),
(904,tU [sV aAt 3015,sV aA3 3016,sV aAw 3017,sV aAx 3018,sV aA2 3019,sV aA1 3020]),
(905,tU [sV aAt 3023,sV aA3 3024,sV aAw 3025,sV aAx 3026,sV aA2 3027,sV aA1 3028]),
(906,tU [sV aAt 3031,sV aA3 3032,sV aAw 3033,sV aAx 3034,sV aA2 3035,sV aA1 3036]),
(907,tU [sV aAt 3039,sV aA3 3040,sV aAw 3041,sV aAx 3042,sV aA2 3043,sV aA1 3044]),
(908,tU [sV aAt 3047,sV aA3 3048,sV aAw 3049,sV aAx 3050,sV aA2 3051,sV aA1 3052]),
(909,tU [sV aAt 3055,sV aA3 3056,sV aAw 3057,sV aAx 3058,sV aA2 3059,sV aA1 3060]),
(910,tU [sV aAt 3063,sV aA3 3064,sV aAw 3065,sV aAx 3066,sV aA2 3067,sV aA1 3068]),
(911,tU [sV aAt 3071,sV aA3 3072,sV aAw 3073,sV aAx 3074,sV aA2 3075,sV aA1 3076]),
(912,tU [sV aAt 3079,sV aA3 3080,sV aAw 3081,sV aAx 3082,sV aA2 3083,sV aA1 3084]),
(913,tU [sV aAt 3087,sV aA3 3088,sV aAw 3089,sV aAx 3090,sV aA2 3091,sV aA1 3092]),
(914,dV y4 [eK P q43 3093 (rV 642)] 1),
(915,tU [sV aAt 3106,sV aA3 3107,sV aAw 3108,sV aAx 3109,sV aA2 3110,sV aA1 3111]),
(916,dV y4 [eK P q43 3112 (rV 649)] 1),
(917,tU [sV aAt 3125,sV aA3 3126,sV aAw 3127,sV aAx 3128,sV aA2 3129,sV aA1 3130]),
(918,dV y4 [eK P q43 3131 (rV 667)] 1),
(919,tU [sV aAt 3144,sV aA3 3145,sV aAw 3146,sV aAx 3147,sV aA2 3148,sV aA1 3149]),
(920,dV y4 [eK P q43 3150 (rV 674)] 1),
(921,tU [sV aAt 3163,sV aA3 3164,sV aAw 3165,sV aAx 3166,sV aA2 3167,sV aA1 3168]),
(922,dV y4 [eK P q43 3169 (rV 681)] 1),
(923,tU [sV aAt 3182,sV aA3 3183,sV aAw 3184,sV aAx 3185,sV aA2 3186,sV aA1 3187]),
(924,dV y4 [eK P q43 3188 (rV 715)] 1),
(925,tU [sV aAt 3201,sV aA3 3202,sV aAw 3203,sV aAx 3204,sV aA2 3205,sV aA1 3206]),
(926,dV y4 [eK P q43 3207 (rV 722)] 1),
(927,tU [sV aAt 3220,sV aA3 3221,sV aAw 3222,sV aAx 3223,sV aA2 3224,sV aA1 3225]),
(928,dV y4 [eK P q43 3226 (rV 729)] 1),
(929,tU [sV aAt 3239,sV aA3 3240,sV aAw 3241,sV aAx 3242,sV aA2 3243,sV aA1 3244]),
(930,tU [sV aAt 3247,sV aA3 3248,sV aAw 3249,sV aAx 3250,sV aA2 3251,sV aA1 3252]),
(931,tU [sV aAt 3255,sV aA3 3256,sV aAw 3257,sV aAx 3258,sV aA2 3259,sV aA1 3260]),
(932,tU [sV aAt 3263,sV aA3 3264,sV aAw 3265,sV aAx 3266,sV aA2 3267,sV aA1 3268]),
(933,tU [sV aAt 3271,sV aA3 3272,sV aAw 3273,sV aAx 3274,sV aA2 3275,sV aA1 3276]),
(934,tU [sV aAt 3279,sV aA3 3280,sV aAw 3281,sV aAx 3282,sV aA2 3283,sV aA1 3284]),
(935,tU []),
(936,fV y25 [rV 935,.none,.none,.none,.bool false,.none])]
noncomputable def D10(p:Program)(P:Params):List (Nat×Obj):=apL (bNx p P) (bNw p P)
noncomputable def T10(p:Program)(P:Params):BT:=aDc (T9 p P) (D10 p P)
noncomputable def S10(p:Program)(w:World)(os:OsState):SharedT:=⟨T10 p w.params,937,aBk,#[],boot_drawn,3286,os⟩
noncomputable def bNv(p:Program)(P:Params):List (Nat×Obj):=[
(191,dV y1 [eK P q36 606 (sV q4 346),eK P q38 608 (sV aG0 607),eK P q39 610 (z 102 609),eK P aVo 2072 (rV 209),eK P aQl 2250 (rV 776),eK P aVn 2493 (rV 781),eK P aYw 3285 (rV 845),eK P bA1 3823 (rV 938)] 8),
(937,fV y22 [.none,cV 59]),
(938,dV y1 [⟨.ofNat 4115,z 4115 3420,rV 412⟩,⟨.ofNat 20499,z 20499 3436,rV 431⟩,⟨.ofNat 1073762323,z 1073762323 3452,rV 465⟩,⟨.ofNat 51,z 51 3468,rV 479⟩,⟨.ofNat 4147,z 4147 3484,rV 486⟩,⟨.ofNat 8243,z 8243 3500,rV 493⟩,⟨.ofNat 12339,z 12339 3516,rV 500⟩,⟨.ofNat 16435,z 16435 3532,rV 507⟩,⟨.ofNat 20531,z 20531 3548,rV 514⟩,⟨.ofNat 24627,z 24627 3564,rV 521⟩,⟨.ofNat 28723,z 28723 3580,rV 528⟩,⟨.ofNat 1073741875,z 1073741875 3596,rV 542⟩,⟨.ofNat 1073762355,z 1073762355 3612,rV 565⟩,⟨.ofNat 33554483,z 33554483 3628,rV 579⟩,⟨.ofNat 33558579,z 33558579 3644,rV 586⟩,⟨.ofNat 33562675,z 33562675 3660,rV 593⟩,⟨.ofNat 33566771,z 33566771 3676,rV 600⟩,⟨.ofNat 33570867,z 33570867 3692,rV 607⟩,⟨.ofNat 33574963,z 33574963 3708,rV 614⟩,⟨.ofNat 33579059,z 33579059 3724,rV 621⟩,⟨.ofNat 33583155,z 33583155 3740,rV 628⟩,⟨.ofNat 301990003,z 301990003 3796,rV 734⟩] 22),
(939,dV y1 [] 2),
(940,tU [sV aAm 3288,sV aA0 3289,sV aAz 3290]),
(941,tU [sV aAm 3293,sV aA0 3294,sV aAz 3295]),
(942,tU [sV aAm 3298,sV aA0 3299,sV aAz 3300]),
(943,tU [sV aAm 3303,sV aA0 3304,sV aAz 3305]),
(944,tU [sV aAm 3308,sV aA0 3309,sV aAz 3310]),
(945,tU [sV aAm 3313,sV aA0 3314,sV aAz 3315]),
(946,tU [sV aAm 3318,sV aA0 3319,sV aAz 3320]),
(947,tU [sV aAm 3323,sV aA0 3324,sV aAz 3325]),
(948,tU [sV aAm 3328,sV aA0 3329,sV aAz 3330]),
(949,tU [sV aAm 3333,sV aA0 3334,sV aAz 3335]),
(950,tU [sV aAm 3338,sV aA0 3339,sV aAz 3340]),
(951,tU [sV aAm 3343,sV aA0 3344,sV aAz 3345]),
(952,tU [sV aAm 3348,sV aA0 3349,sV aAz 3350]),
(953,tU [sV aAm 3353,sV aA0 3354,sV aAz 3355]),
(954,tU [sV aAm 3358,sV aA0 3359,sV aAz 3360]),
(955,tU [sV aAm 3363,sV aA0 3364,sV aAz 3365]),
(956,tU [sV aAm 3368,sV aA0 3369,sV aAz 3370]),
(957,tU [sV aAm 3373,sV aA0 3374,sV aAz 3375]),
(958,tU [sV aAm 3378,sV aA0 3379,sV aAz 3380]),
(959,tU [sV aAm 3383,sV aA0 3384,sV aAz 3385]),
(960,tU [sV aAm 3388,sV aA0 3389,sV aAz 3390]),
(961,tU [sV aAm 3393,sV aA0 3394,sV aAz 3395]),
(962,tU [sV aAm 3398,sV aA0 3399,sV aAz 3400]),
(963,tU [sV aAm 3403,sV aA0 3404,sV aAz 3405]),
(964,tU [sV aAm 3408,sV aA0 3409,sV aAz 3410]),
(965,dV y4 [eK P q43 3411 (rV 412)] 1),
(966,tU [sV aAm 3424,sV aA0 3425,sV aAz 3426]),
(967,dV y4 [eK P q43 3427 (rV 431)] 1),
(968,tU [sV aAm 3440,sV aA0 3441,sV aAz 3442]),
(969,dV y4 [eK P q43 3443 (rV 465)] 1),
(970,tU [sV aAm 3456,sV aA0 3457,sV aAz 3458]),
(971,dV y4 [eK P q43 3459 (rV 479)] 1),
(972,tU [sV aAm 3472,sV aA0 3473,sV aAz 3474]),
(973,dV y4 [eK P q43 3475 (rV 486)] 1),
(974,tU [sV aAm 3488,sV aA0 3489,sV aAz 3490]),
(975,dV y4 [eK P q43 3491 (rV 493)] 1),
(976,tU [sV aAm 3504,sV aA0 3505,sV aAz 3506]),
(977,dV y4 [eK P q43 3507 (rV 500)] 1),
(978,tU [sV aAm 3520,sV aA0 3521,sV aAz 3522]),
(979,dV y4 [eK P q43 3523 (rV 507)] 1),
(980,tU [sV aAm 3536,sV aA0 3537,sV aAz 3538]),
(981,dV y4 [eK P q43 3539 (rV 514)] 1),
(982,tU [sV aAm 3552,sV aA0 3553,sV aAz 3554]),
(983,dV y4 [eK P q43 3555 (rV 521)] 1),
(984,tU [sV aAm 3568,sV aA0 3569,sV aAz 3570]),
(985,dV y4 [eK P q43 3571 (rV 528)] 1),
(986,tU [sV aAm 3584,sV aA0 3585,sV aAz 3586]),
(987,dV y4 [eK P q43 3587 (rV 542)] 1),
(988,tU [sV aAm 3600,sV aA0 3601,sV aAz 3602]),
(989,dV y4 [eK P q43 3603 (rV 565)] 1),
(990,tU [sV aAm 3616,sV aA0 3617,sV aAz 3618]),
(991,dV y4 [eK P q43 3619 (rV 579)] 1),
(992,tU [sV aAm 3632,sV aA0 3633,sV aAz 3634]),
(993,dV y4 [eK P q43 3635 (rV 586)] 1),
(994,tU [sV aAm 3648,sV aA0 3649,sV aAz 3650]),
(995,dV y4 [eK P q43 3651 (rV 593)] 1)]
noncomputable def bNu(p:Program)(P:Params):List (Nat×Obj):=[
(996,tU [sV aAm 3664,sV aA0 3665,sV aAz 3666]),
(997,dV y4 [eK P q43 3667 (rV 600)] 1),
(998,tU [sV aAm 3680,sV aA0 3681,sV aAz 3682]),
(999,dV y4 [eK P q43 3683 (rV 607)] 1),
(1000,tU [sV aAm 3696,sV aA0 3697,sV aAz 3698]),
(1001,dV y4 [eK P q43 3699 (rV 614)] 1),
(1002,tU [sV aAm 3712,sV aA0 3713,sV aAz 3714]),
(1003,dV y4 [eK P q43 3715 (rV 621)] 1),
(1004,tU [sV aAm 3728,sV aA0 3729,sV aAz 3730]),
(1005,dV y4 [eK P q43 3731 (rV 628)] 1),
(1006,tU [sV aAm 3744,sV aA0 3745,sV aAz 3746]),
(1007,tU [sV aAm 3749,sV aA0 3750,sV aAz 3751]),
(1008,tU [sV aAm 3754,sV aA0 3755,sV aAz 3756]),
(1009,tU [sV aAm 3759,sV aA0 3760,sV aAz 3761]),
(1010,tU [sV aAm 3764,sV aA0 3765,sV aAz 3766]),
(1011,tU [sV aAm 3769,sV aA0 3770,sV aAz 3771]),
(1012,tU [sV aAm 3774,sV aA0 3775,sV aAz 3776]),
(1013,tU [sV aAm 3779,sV aA0 3780,sV aAz 3781]),
(1014,tU [sV aAm 3784,sV aA0 3785,sV aAz 3786]),
(1015,dV y4 [eK P q43 3787 (rV 734)] 1),
(1016,tU [sV aAm 3800,sV aA0 3801,sV aAz 3802]),
(1017,tU [sV aAm 3805,sV aA0 3806,sV aAz 3807]),
(1018,tU [sV aAm 3810,sV aA0 3811,sV aAz 3812]),
(1019,tU [sV aAm 3815,sV aA0 3816,sV aAz 3817]),
(1020,tU [sV aAm 3820,sV aA0 3821,sV aAz 3822]),
(1021,tU []),
(1022,fV y25 [rV 1021,.none,.none,.none,.bool false,.none])]
noncomputable def D11(p:Program)(P:Params):List (Nat×Obj):=apL (bNv p P) (bNu p P)
noncomputable def T11(p:Program)(P:Params):BT:=aDc (T10 p P) (D11 p P)
noncomputable def S11(p:Program)(w:World)(os:OsState):SharedT:=⟨T11 p w.params,1023,aBk,#[],boot_drawn,3824,os⟩
noncomputable def bNt(p:Program)(P:Params):List (Nat×Obj):=[
(191,dV y1 [eK P q36 606 (sV q4 346),eK P q38 608 (sV aG0 607),eK P q39 610 (z 102 609),eK P aVo 2072 (rV 209),eK P aQl 2250 (rV 776),eK P aVn 2493 (rV 781),eK P aYw 3285 (rV 845),eK P bA1 3823 (rV 938),eK P aYv 4011 (rV 1024)] 9),
(1023,fV y22 [.none,cV 59]),
(1024,dV y1 [⟨.ofNat 115,z 115 1967,rV 747⟩,⟨.ofNat 1048691,z 1048691 1989,rV 753⟩,⟨.ofNat 270532723,z 270532723 2011,rV 759⟩,⟨.ofNat 273678451,z 273678451 2033,rV 765⟩,⟨.ofNat 807403635,z 807403635 2055,rV 771⟩] 5),
(1025,dV y1 [] 2),
(1026,tU []),
(1027,fV y25 [rV 1026,.none,.none,.none,.bool false,.none])]
noncomputable def D12(p:Program)(P:Params):List (Nat×Obj):=bNt p P
noncomputable def T12(p:Program)(P:Params):BT:=aDc (T11 p P) (D12 p P)
noncomputable def S12(p:Program)(w:World)(os:OsState):SharedT:=⟨T12 p w.params,1028,aBk,#[],boot_drawn,4012,os⟩
noncomputable def bNs(p:Program)(P:Params):List (Nat×Obj):=[
(3,dV y1 [eK P q3 165 (sV q4 346),eK P q5 166 .none,eK P q6 167 .none,eK P q7 168 (.builtin y5),eK P q8 169 .none,eK P q9 170 (rV 6),eK P q10 171 (rV 4),eK P q11 173 (sV q1 172),eK P q12 174 .none,eK P q13 193 (rV 21),eK P q14 223 (rV 39),eK P q15 239 (rV 52),eK P q16 264 (rV 71),eK P q17 289 (rV 90),eK P q18 345 (rV 110),eK P q19 456 (rV 113),eK P q20 458 (z 3 457),eK P q21 460 (z 15 459),eK P q22 462 (z 19 461),eK P q23 464 (z 23 463),eK P q24 466 (z 35 465),eK P q25 468 (z 51 467),eK P q26 470 (z 55 469),eK P q27 472 (z 99 471),eK P q28 474 (z 103 473),eK P q29 476 (z 111 475),eK P q30 478 (z 115 477),eK P q31 529 (rV 140),eK P q32 575 (rV 169),eK P q33 589 (rV 181),eK P q34 598 (rV 188),eK P aG0 4019 (rV 1030)] 32),
(191,dV y1 [eK P q36 606 (sV q4 346),eK P q38 608 (sV aG0 607),eK P q39 610 (z 102 609),eK P aVo 2072 (rV 209),eK P aQl 2250 (rV 776),eK P aVn 2493 (rV 781),eK P aYw 3285 (rV 845),eK P bA1 3823 (rV 938),eK P aYv 4011 (rV 1024),eK P q41 4012 (rV 1028)] 10),
(1028,tU []),
(1029,dV y1 [eK P q36 606 (sV q4 346),eK P q39 610 (z 102 609),eK P aVo 2072 (rV 209),eK P aQl 2250 (rV 776),eK P aVn 2493 (rV 781),eK P aYw 3285 (rV 845),eK P bA1 3823 (rV 938),eK P aYv 4011 (rV 1024),eK P q41 4012 (rV 1028),eK P aFi 4014 (rV 1031),eK P q46 4016 (rV 1032),eK P q5 4017 .none] 4),
(1030,⟨.type y9,none,.cls ⟨aG0,[.type y12],[rV 1030,.type y12],1029,aG0,true,[],[],false,none,false⟩,⟨[none,none,(oV (sV aG0 599)),(oV (sV aG0 607)),(oV (.builtin y18)),(oV (.bool true))]⟩⟩),
(1031,fV y14 [sV aFi 4013,rV 1030,.builtin y19,.builtin y20]),
(1032,fV y14 [sV q46 4015,rV 1030,.builtin y15,.none]),
(1033,fV y16 [rV 1030,rV 1030,rV 1030]),
(1034,fV y7 [.builtin y17,rV 1030])]
noncomputable def D13(p:Program)(P:Params):List (Nat×Obj):=bNs p P
noncomputable def T13(p:Program)(P:Params):BT:=aDc (T12 p P) (D13 p P)
noncomputable def S13(p:Program)(w:World)(os:OsState):SharedT:=⟨T13 p w.params,1035,aBk,#[],boot_drawn,4020,os⟩
noncomputable def yB(P:Params):List DictEntry:=[eK P q5 166 .none,eK P q6 167 .none,eK P q7 168 (.builtin y5),eK P q8 169 .none,eK P q9 170 (rV 6),eK P q10 171 (rV 4),eK P q11 173 (sV q1 172),eK P q12 174 .none,eK P q13 193 (rV 21),eK P q14 223 (rV 39),eK P q15 239 (rV 52),eK P q16 264 (rV 71),eK P q17 289 (rV 90),eK P q18 345 (rV 110),eK P q19 456 (rV 113),eK P q20 458 (z 3 457),eK P q21 460 (z 15 459),eK P q22 462 (z 19 461),eK P q23 464 (z 23 463),eK P q24 466 (z 35 465),eK P q25 468 (z 51 467),eK P q26 470 (z 55 469),eK P q27 472 (z 99 471),eK P q28 474 (z 103 473),eK P q29 476 (z 111 475),eK P q30 478 (z 115 477),eK P q31 529 (rV 140),eK P q32 575 (rV 169),eK P q33 589 (rV 181),eK P q34 598 (rV 188),eK P aG0 4019 (rV 1030),eK P aQk 4027 (rV 1041),eK P aMt 4035 (rV 1048),eK P aMs 4046 (rV 1055),eK P aMr 4060 (rV 1062),eK P bJ4 4064 (z 4294967295 4063),eK P bPf 4066 (z 2147483648 4065),eK P aYv 4068 (z 4294967296 4067),eK P aSv 4075 (rV 1069),eK P aQj 4084 (rV 1076),eK P aDy 4092 (rV 1083),eK P aJs 4100 (rV 1090),eK P aSu 4108 (rV 1097),eK P aSt 4116 (rV 1104),eK P aSs 4124 (rV 1111),eK P aSr 4132 (rV 1118),eK P aJr 4140 (rV 1125),eK P aJq 4148 (rV 1132),eK P aJp 4156 (rV 1139),eK P aJo 4164 (rV 1146),eK P aJm 4172 (rV 1153),eK P aHz 4180 (rV 1160),eK P aJn 4191 (rV 1167),eK P aJl 4202 (rV 1174),eK P bJ3 4206 (z 0 4205),eK P bJ2 4208 (z 1 4207),eK P bJ1 4210 (z 3 4209),eK P bJ0 4214 (z 2147483648 4213),eK P bJz 4218 (z 2 4217),eK P bJy 4222 (z 8 4221),eK P bJx 4226 (z 32 4225),eK P bJw 4230 (z 128 4229),eK P bJv 4234 (z 256 4233),eK P bJu 4236 (z 11 4235),eK P bJt 4239 (z 6144 4238),eK P bJs 4243 (z 131072 4242),eK P bJr 4247 (z 262144 4246),eK P bJq 4251 (z 524288 4250),eK P bJp 4260 (z 924074 4259),eK P bJo 4265 (z 786722 4264),eK P bJn 4267 (z 1 4266),eK P bPe 4269 (z 3 4268),eK P bPd 4271 (z 5 4270),eK P bPc 4273 (z 7 4272),eK P bPb 4275 (z 9 4274),eK P bPa 4277 (z 11 4276),eK P bO9 4278 (rV 1175),eK P bJm 4287 (z 546 4286),eK P bJl 4297 (z 2730 4296),eK P bJk 4299 (z 46079 4298),eK P bJj 4303 (z 2147483648 4302),eK P bO8 4309 (z 4194303 4308),eK P bJi 4311 (z 2151677951 4310)]
noncomputable def yA(P:Params):List DictEntry:=eK P q3 165 (sV aBx 4203)::yB P
noncomputable def bNd(p:Program)(P:Params):List (Nat×Obj):=[
(3,dV y1 (yA P) 84),
(12,nV [cV 1,cV 0,rV 20,cV 5,cV 0,rV 27,cV 10,cV 0,rV 48,cV 12,cV 0,rV 60,cV 17,cV 0,rV 79,cV 22,cV 0,rV 98,cV 55,cV 0,rV 121,cV 67,cV 0,rV 150,cV 78,cV 0,rV 180,cV 84,cV 0,rV 187,cV 102,cV 0,rV 194,cV 109,cV 0,rV 1040,cV 112,cV 0,rV 1047,cV 115,cV 0,rV 1054,cV 127,cV 0,rV 1061,cV 161,cV 0,rV 1068,cV 163,cV 0,rV 1075,cV 168,cV 0,rV 1082,cV 170,cV 0,rV 1089,cV 172,cV 0,rV 1096,cV 174,cV 0,rV 1103,cV 176,cV 0,rV 1110,cV 178,cV 0,rV 1117,cV 180,cV 0,rV 1124,cV 182,cV 0,rV 1131,cV 184,cV 0,rV 1138,cV 186,cV 0,rV 1145,cV 188,cV 0,rV 1152,cV 190,cV 0,rV 1159,cV 192,cV 0,rV 1166,cV 198,cV 0,rV 1173]),
(1035,tU []),
(1036,nV []),
(1037,tU [sV q47 4023,sV aYu 4024]),
(1038,tU []),
(1039,uV aQk aQk (F p 25)),
(1040,fV y3 [sV aQk 4020,sV aQk 4021,sV q1 4022,cV 109,cV 1,cV 0,cV 0,cV 3,rV 1035,.bool true,cV 181,rV 1036,.none,rV 1037,rV 1038,rV 1039,cV 4025,cV 109,sV q1 4026]),
(1041,kV aQk aQk (F p 25) .none q4 346 1040),
(1042,tU []),
(1043,nV []),
(1044,tU [sV q47 4031,sV aYu 4032]),
(1045,tU []),
(1046,uV aMt aMt (F p 26)),
(1047,fV y3 [sV aMt 4028,sV aMt 4029,sV q1 4030,cV 112,cV 1,cV 0,cV 0,cV 3,rV 1042,.bool true,cV 181,rV 1043,.none,rV 1044,rV 1045,rV 1046,cV 4033,cV 112,sV q1 4034]),
(1048,kV aMt aMt (F p 26) .none q4 346 1047),
(1049,tU []),
(1050,nV []),
(1051,tU [sV q47 4039,sV aAj 4040,sV aAi 4041,sV aAh 4042,sV bO7 4043]),
(1052,tU []),
(1053,uV aMs aMs (F p 27)),
(1054,fV y3 [sV aMs 4036,sV aMs 4037,sV q1 4038,cV 115,cV 1,cV 0,cV 0,cV 3,rV 1049,.bool true,cV 181,rV 1050,.none,rV 1051,rV 1052,rV 1053,cV 4044,cV 115,sV q1 4045]),
(1055,kV aMs aMs (F p 27) .none q4 346 1054),
(1056,tU []),
(1057,nV []),
(1058,tU [sV q47 4050,sV bO7 4051,sV aAg 4052,sV aZc 4053,sV bBa 4054,sV bA9 4055,sV bXc 4056,sV aYu 4057]),
(1059,tU []),
(1060,uV aMr aMr (F p 28)),
(1061,fV y3 [sV aMr 4047,sV aMr 4048,sV q1 4049,cV 127,cV 1,cV 0,cV 0,cV 3,rV 1056,.bool true,cV 181,rV 1057,.none,rV 1058,rV 1059,rV 1060,cV 4058,cV 127,sV q1 4059]),
(1062,kV aMr aMr (F p 28) .none q4 346 1061),
(1063,tU []),
(1064,nV []),
(1065,tU [sV q66 4072]),
(1066,tU []),
(1067,uV aSv aSv (F p 33)),
(1068,fV y3 [sV aSv 4069,sV aSv 4070,sV q1 4071,cV 161,cV 1,cV 0,cV 0,cV 3,rV 1063,.bool true,cV 181,rV 1064,.none,rV 1065,rV 1066,rV 1067,cV 4073,cV 161,sV q1 4074]),
(1069,kV aSv aSv (F p 33) .none aGz 4061 1068),
(1070,tU []),
(1071,nV []),
(1072,tU [sV q66 4079,sV bJh 4080,sV aYu 4081]),
(1073,tU []),
(1074,uV aQj aQj (F p 34)),
(1075,fV y3 [sV aQj 4076,sV aQj 4077,sV q1 4078,cV 163,cV 2,cV 0,cV 0,cV 3,rV 1070,.bool true,cV 181,rV 1071,.none,rV 1072,rV 1073,rV 1074,cV 4082,cV 163,sV q1 4083]),
(1076,kV aQj aQj (F p 34) .none aGz 4061 1075),
(1077,tU []),
(1078,nV []),
(1079,tU [sV aE6 4088,sV aE5 4089]),
(1080,tU []),
(1081,uV aDy aDy (F p 35)),
(1082,fV y3 [sV aDy 4085,sV aDy 4086,sV q1 4087,cV 168,cV 2,cV 0,cV 0,cV 3,rV 1077,.bool true,cV 181,rV 1078,.none,rV 1079,rV 1080,rV 1081,cV 4090,cV 168,sV q1 4091]),
(1083,kV aDy aDy (F p 35) .none aGz 4061 1082),
(1084,tU []),
(1085,nV []),
(1086,tU [sV aE6 4096,sV aE5 4097]),
(1087,tU []),
(1088,uV aJs aJs (F p 36)),
(1089,fV y3 [sV aJs 4093,sV aJs 4094,sV q1 4095,cV 170,cV 2,cV 0,cV 0,cV 3,rV 1084,.bool true,cV 181,rV 1085,.none,rV 1086,rV 1087,rV 1088,cV 4098,cV 170,sV q1 4099]),
(1090,kV aJs aJs (F p 36) .none aGz 4061 1089),
(1091,tU []),
(1092,nV [])]
noncomputable def bNc(p:Program)(P:Params):List (Nat×Obj):=[
(1093,tU [sV q66 4104,sV aQi 4105]),
(1094,tU []),
(1095,uV aSu aSu (F p 37)),
(1096,fV y3 [sV aSu 4101,sV aSu 4102,sV q1 4103,cV 172,cV 2,cV 0,cV 0,cV 3,rV 1091,.bool true,cV 181,rV 1092,.none,rV 1093,rV 1094,rV 1095,cV 4106,cV 172,sV q1 4107]),
(1097,kV aSu aSu (F p 37) .none aGz 4061 1096),
(1098,tU []),
(1099,nV []),
(1100,tU [sV q66 4112,sV aQi 4113]),
(1101,tU []),
(1102,uV aSt aSt (F p 38)),
(1103,fV y3 [sV aSt 4109,sV aSt 4110,sV q1 4111,cV 174,cV 2,cV 0,cV 0,cV 3,rV 1098,.bool true,cV 181,rV 1099,.none,rV 1100,rV 1101,rV 1102,cV 4114,cV 174,sV q1 4115]),
(1104,kV aSt aSt (F p 38) .none aGz 4061 1103),
(1105,tU []),
(1106,nV []),
(1107,tU [sV q66 4120,sV aQi 4121]),
(1108,tU []),
(1109,uV aSs aSs (F p 39)),
(1110,fV y3 [sV aSs 4117,sV aSs 4118,sV q1 4119,cV 176,cV 2,cV 0,cV 0,cV 3,rV 1105,.bool true,cV 181,rV 1106,.none,rV 1107,rV 1108,rV 1109,cV 4122,cV 176,sV q1 4123]),
(1111,kV aSs aSs (F p 39) .none aGz 4061 1110),
(1112,tU []),
(1113,nV []),
(1114,tU [sV aE6 4128,sV aE5 4129]),
(1115,tU []),
(1116,uV aSr aSr (F p 40)),
(1117,fV y3 [sV aSr 4125,sV aSr 4126,sV q1 4127,cV 178,cV 2,cV 0,cV 0,cV 3,rV 1112,.bool true,cV 181,rV 1113,.none,rV 1114,rV 1115,rV 1116,cV 4130,cV 178,sV q1 4131]),
(1118,kV aSr aSr (F p 40) .none aGz 4061 1117),
(1119,tU []),
(1120,nV []),
(1121,tU [sV aE6 4136,sV aE5 4137]),
(1122,tU []),
(1123,uV aJr aJr (F p 41)),
(1124,fV y3 [sV aJr 4133,sV aJr 4134,sV q1 4135,cV 180,cV 2,cV 0,cV 0,cV 3,rV 1119,.bool true,cV 181,rV 1120,.none,rV 1121,rV 1122,rV 1123,cV 4138,cV 180,sV q1 4139]),
(1125,kV aJr aJr (F p 41) .none aGz 4061 1124),
(1126,tU []),
(1127,nV []),
(1128,tU [sV aE6 4144,sV aE5 4145]),
(1129,tU []),
(1130,uV aJq aJq (F p 42)),
(1131,fV y3 [sV aJq 4141,sV aJq 4142,sV q1 4143,cV 182,cV 2,cV 0,cV 0,cV 3,rV 1126,.bool true,cV 181,rV 1127,.none,rV 1128,rV 1129,rV 1130,cV 4146,cV 182,sV q1 4147]),
(1132,kV aJq aJq (F p 42) .none aGz 4061 1131),
(1133,tU []),
(1134,nV []),
(1135,tU [sV aE6 4152,sV aE5 4153]),
(1136,tU []),
(1137,uV aJp aJp (F p 43)),
(1138,fV y3 [sV aJp 4149,sV aJp 4150,sV q1 4151,cV 184,cV 2,cV 0,cV 0,cV 3,rV 1133,.bool true,cV 181,rV 1134,.none,rV 1135,rV 1136,rV 1137,cV 4154,cV 184,sV q1 4155]),
(1139,kV aJp aJp (F p 43) .none aGz 4061 1138),
(1140,tU []),
(1141,nV []),
(1142,tU [sV aE6 4160,sV aE5 4161]),
(1143,tU []),
(1144,uV aJo aJo (F p 44)),
(1145,fV y3 [sV aJo 4157,sV aJo 4158,sV q1 4159,cV 186,cV 2,cV 0,cV 0,cV 3,rV 1140,.bool true,cV 181,rV 1141,.none,rV 1142,rV 1143,rV 1144,cV 4162,cV 186,sV q1 4163]),
(1146,kV aJo aJo (F p 44) .none aGz 4061 1145),
(1147,tU []),
(1148,nV []),
(1149,tU [sV aE6 4168,sV aE5 4169]),
(1150,tU []),
(1151,uV aJm aJm (F p 45)),
(1152,fV y3 [sV aJm 4165,sV aJm 4166,sV q1 4167,cV 188,cV 2,cV 0,cV 0,cV 3,rV 1147,.bool true,cV 181,rV 1148,.none,rV 1149,rV 1150,rV 1151,cV 4170,cV 188,sV q1 4171])]
noncomputable def bNb(p:Program)(P:Params):List (Nat×Obj):=[
(1153,kV aJm aJm (F p 45) .none aGz 4061 1152),
(1154,tU []),
(1155,nV []),
(1156,tU [sV aE6 4176,sV aE5 4177]),
(1157,tU []),
(1158,uV aHz aHz (F p 46)),
(1159,fV y3 [sV aHz 4173,sV aHz 4174,sV q1 4175,cV 190,cV 2,cV 0,cV 0,cV 3,rV 1154,.bool true,cV 181,rV 1155,.none,rV 1156,rV 1157,rV 1158,cV 4178,cV 190,sV q1 4179]),
(1160,kV aHz aHz (F p 46) .none aGz 4061 1159),
(1161,tU []),
(1162,nV []),
(1163,tU [sV aE6 4184,sV aE5 4185,sV bFp 4186,sV bJg 4187,sV bJf 4188]),
(1164,tU []),
(1165,uV aJn aJn (F p 47)),
(1166,fV y3 [sV aJn 4181,sV aJn 4182,sV q1 4183,cV 192,cV 2,cV 0,cV 0,cV 3,rV 1161,.bool true,cV 181,rV 1162,.none,rV 1163,rV 1164,rV 1165,cV 4189,cV 192,sV q1 4190]),
(1167,kV aJn aJn (F p 47) .none aGz 4061 1166),
(1168,tU []),
(1169,nV []),
(1170,tU [sV aE6 4195,sV aE5 4196,sV bFp 4197,sV bJg 4198,sV bXb 4199]),
(1171,tU []),
(1172,uV aJl aJl (F p 48)),
(1173,fV y3 [sV aJl 4192,sV aJl 4193,sV q1 4194,cV 198,cV 2,cV 0,cV 0,cV 3,rV 1168,.bool true,cV 181,rV 1169,.none,rV 1170,rV 1171,rV 1172,cV 4200,cV 198,sV q1 4201]),
(1174,kV aJl aJl (F p 48) .none aGz 4061 1173),
(1175,tU [z 11 4276,z 3 4268,z 7 4272,z 9 4274,z 1 4266,z 5 4270])]
noncomputable def D17(p:Program)(P:Params):List (Nat×Obj):=apL (bNd p P) (apL (bNc p P) (bNb p P))
noncomputable def T17(p:Program)(P:Params):BT:=aDc (T13 p P) (D17 p P)
noncomputable def S17(p:Program)(w:World)(os:OsState):SharedT:=⟨T17 p w.params,1176,aBk,#[],boot_drawn,4312,os⟩
noncomputable def bNr(p:Program)(P:Params):List (Nat×Obj):=[
(3,dV y1 (apE (yA P) [eK P bA0 4420 (rV 1178)]) 85),
(1176,fV y26 [rV 113]),
(1177,fV y27 [.none,.bool false,.none,cV 36,cV 36,cV 36,sV aZd 452,z 3860 453]),
(1178,dV y1 [⟨.ofNat 256,z 256 349,sV q68 348⟩,⟨.ofNat 260,z 260 352,sV q69 351⟩,⟨.ofNat 261,z 261 355,sV q70 354⟩,⟨.ofNat 262,z 262 358,sV q71 357⟩,⟨.ofNat 320,z 320 361,sV q72 360⟩,⟨.ofNat 321,z 321 364,sV q73 363⟩,⟨.ofNat 322,z 322 367,sV q74 366⟩,⟨.ofNat 323,z 323 370,sV q75 369⟩,⟨.ofNat 324,z 324 373,sV q76 372⟩,⟨.ofNat 384,z 384 376,sV q77 375⟩,⟨.ofNat 768,z 768 379,sV q78 378⟩,⟨.ofNat 769,z 769 382,sV q79 381⟩,⟨.ofNat 770,z 770 385,sV q80 384⟩,⟨.ofNat 771,z 771 388,sV q81 387⟩,⟨.ofNat 772,z 772 391,sV q82 390⟩,⟨.ofNat 773,z 773 394,sV q83 393⟩,⟨.ofNat 774,z 774 397,sV q84 396⟩,⟨.ofNat 832,z 832 400,sV q85 399⟩,⟨.ofNat 833,z 833 403,sV q86 402⟩,⟨.ofNat 834,z 834 406,sV q87 405⟩,⟨.ofNat 835,z 835 409,sV q88 408⟩,⟨.ofNat 836,z 836 412,sV q89 411⟩,⟨.ofNat 2816,z 2816 415,sV q90 414⟩,⟨.ofNat 2818,z 2818 418,sV q91 417⟩,⟨.ofNat 2944,z 2944 421,sV q92 420⟩,⟨.ofNat 2946,z 2946 424,sV q93 423⟩,⟨.ofNat 3072,z 3072 427,sV q94 426⟩,⟨.ofNat 3073,z 3073 430,sV q95 429⟩,⟨.ofNat 3074,z 3074 433,sV q96 432⟩,⟨.ofNat 3200,z 3200 436,sV q97 435⟩,⟨.ofNat 3201,z 3201 439,sV q98 438⟩,⟨.ofNat 3202,z 3202 442,sV q99 441⟩,⟨.ofNat 3857,z 3857 445,sV bBe 444⟩,⟨.ofNat 3858,z 3858 448,sV bBd 447⟩,⟨.ofNat 3859,z 3859 451,sV bBc 450⟩,⟨.ofNat 3860,z 3860 453,sV aZd 452⟩] 36),
(1179,dV y1 [] 4),
(1180,tU [sV q68 348,z 256 349]),
(1181,fV y24 [.none,cV 2]),
(1182,tU []),
(1183,fV y25 [rV 1182,.none,.none,.none,.bool false,.none]),
(1184,tU [sV q69 351,z 260 352]),
(1185,fV y24 [.none,cV 2]),
(1186,tU []),
(1187,fV y25 [rV 1186,.none,.none,.none,.bool false,.none]),
(1188,tU [sV q70 354,z 261 355]),
(1189,fV y24 [.none,cV 2]),
(1190,tU []),
(1191,fV y25 [rV 1190,.none,.none,.none,.bool false,.none]),
(1192,tU [sV q71 357,z 262 358]),
(1193,fV y24 [.none,cV 2]),
(1194,tU []),
(1195,fV y25 [rV 1194,.none,.none,.none,.bool false,.none]),
(1196,tU [sV q72 360,z 320 361]),
(1197,fV y24 [.none,cV 2]),
(1198,tU []),
(1199,fV y25 [rV 1198,.none,.none,.none,.bool false,.none]),
(1200,tU [sV q73 363,z 321 364]),
(1201,fV y24 [.none,cV 2]),
(1202,tU []),
(1203,fV y25 [rV 1202,.none,.none,.none,.bool false,.none]),
(1204,tU [sV q74 366,z 322 367]),
(1205,fV y24 [.none,cV 2]),
(1206,tU []),
(1207,fV y25 [rV 1206,.none,.none,.none,.bool false,.none]),
(1208,tU [sV q75 369,z 323 370]),
(1209,fV y24 [.none,cV 2]),
(1210,tU []),
(1211,fV y25 [rV 1210,.none,.none,.none,.bool false,.none]),
(1212,tU [sV q76 372,z 324 373]),
(1213,fV y24 [.none,cV 2]),
(1214,tU []),
(1215,fV y25 [rV 1214,.none,.none,.none,.bool false,.none]),
(1216,tU [sV q77 375,z 384 376]),
(1217,fV y24 [.none,cV 2]),
(1218,tU []),
(1219,fV y25 [rV 1218,.none,.none,.none,.bool false,.none]),
(1220,tU [sV q78 378,z 768 379]),
(1221,fV y24 [.none,cV 2]),
(1222,tU []),
(1223,fV y25 [rV 1222,.none,.none,.none,.bool false,.none]),
(1224,tU [sV q79 381,z 769 382]),
(1225,fV y24 [.none,cV 2]),
(1226,tU []),
(1227,fV y25 [rV 1226,.none,.none,.none,.bool false,.none]),
(1228,tU [sV q80 384,z 770 385]),
(1229,fV y24 [.none,cV 2]),
(1230,tU []),
(1231,fV y25 [rV 1230,.none,.none,.none,.bool false,.none]),
(1232,tU [sV q81 387,z 771 388]),
(1233,fV y24 [.none,cV 2]),
(1234,tU [])]
noncomputable def bNq(p:Program)(P:Params):List (Nat×Obj):=[
(1235,fV y25 [rV 1234,.none,.none,.none,.bool false,.none]),
(1236,tU [sV q82 390,z 772 391]),
(1237,fV y24 [.none,cV 2]),
(1238,tU []),
(1239,fV y25 [rV 1238,.none,.none,.none,.bool false,.none]),
(1240,tU [sV q83 393,z 773 394]),
(1241,fV y24 [.none,cV 2]),
(1242,tU []),
(1243,fV y25 [rV 1242,.none,.none,.none,.bool false,.none]),
(1244,tU [sV q84 396,z 774 397]),
(1245,fV y24 [.none,cV 2]),
(1246,tU []),
(1247,fV y25 [rV 1246,.none,.none,.none,.bool false,.none]),
(1248,tU [sV q85 399,z 832 400]),
(1249,fV y24 [.none,cV 2]),
(1250,tU []),
(1251,fV y25 [rV 1250,.none,.none,.none,.bool false,.none]),
(1252,tU [sV q86 402,z 833 403]),
(1253,fV y24 [.none,cV 2]),
(1254,tU []),
(1255,fV y25 [rV 1254,.none,.none,.none,.bool false,.none]),
(1256,tU [sV q87 405,z 834 406]),
(1257,fV y24 [.none,cV 2]),
(1258,tU []),
(1259,fV y25 [rV 1258,.none,.none,.none,.bool false,.none]),
(1260,tU [sV q88 408,z 835 409]),
(1261,fV y24 [.none,cV 2]),
(1262,tU []),
(1263,fV y25 [rV 1262,.none,.none,.none,.bool false,.none]),
(1264,tU [sV q89 411,z 836 412]),
(1265,fV y24 [.none,cV 2]),
(1266,tU []),
(1267,fV y25 [rV 1266,.none,.none,.none,.bool false,.none]),
(1268,tU [sV q90 414,z 2816 415]),
(1269,fV y24 [.none,cV 2]),
(1270,tU []),
(1271,fV y25 [rV 1270,.none,.none,.none,.bool false,.none]),
(1272,tU [sV q91 417,z 2818 418]),
(1273,fV y24 [.none,cV 2]),
(1274,tU []),
(1275,fV y25 [rV 1274,.none,.none,.none,.bool false,.none]),
(1276,tU [sV q92 420,z 2944 421]),
(1277,fV y24 [.none,cV 2]),
(1278,tU []),
(1279,fV y25 [rV 1278,.none,.none,.none,.bool false,.none]),
(1280,tU [sV q93 423,z 2946 424]),
(1281,fV y24 [.none,cV 2]),
(1282,tU []),
(1283,fV y25 [rV 1282,.none,.none,.none,.bool false,.none]),
(1284,tU [sV q94 426,z 3072 427]),
(1285,fV y24 [.none,cV 2]),
(1286,tU []),
(1287,fV y25 [rV 1286,.none,.none,.none,.bool false,.none]),
(1288,tU [sV q95 429,z 3073 430]),
(1289,fV y24 [.none,cV 2]),
(1290,tU []),
(1291,fV y25 [rV 1290,.none,.none,.none,.bool false,.none]),
(1292,tU [sV q96 432,z 3074 433]),
(1293,fV y24 [.none,cV 2]),
(1294,tU [])]
noncomputable def bNp(p:Program)(P:Params):List (Nat×Obj):=[
(1295,fV y25 [rV 1294,.none,.none,.none,.bool false,.none]),
(1296,tU [sV q97 435,z 3200 436]),
(1297,fV y24 [.none,cV 2]),
(1298,tU []),
(1299,fV y25 [rV 1298,.none,.none,.none,.bool false,.none]),
(1300,tU [sV q98 438,z 3201 439]),
(1301,fV y24 [.none,cV 2]),
(1302,tU []),
(1303,fV y25 [rV 1302,.none,.none,.none,.bool false,.none]),
(1304,tU [sV q99 441,z 3202 442]),
(1305,fV y24 [.none,cV 2]),
(1306,tU []),
(1307,fV y25 [rV 1306,.none,.none,.none,.bool false,.none]),
(1308,tU [sV bBe 444,z 3857 445]),
(1309,fV y24 [.none,cV 2]),
(1310,tU []),
(1311,fV y25 [rV 1310,.none,.none,.none,.bool false,.none]),
(1312,tU [sV bBd 447,z 3858 448]),
(1313,fV y24 [.none,cV 2]),
(1314,tU []),
(1315,fV y25 [rV 1314,.none,.none,.none,.bool false,.none]),
(1316,tU [sV bBc 450,z 3859 451]),
(1317,fV y24 [.none,cV 2]),
(1318,tU []),
(1319,fV y25 [rV 1318,.none,.none,.none,.bool false,.none]),
(1320,tU [sV aZd 452,z 3860 453]),
(1321,fV y24 [.none,cV 2]),
(1322,tU []),
(1323,fV y25 [rV 1322,.none,.none,.none,.bool false,.none]),
(1324,tU []),
(1325,fV y25 [rV 1324,.none,.none,.none,.bool false,.none])]
noncomputable def D14(p:Program)(P:Params):List (Nat×Obj):=apL (bNr p P) (apL (bNq p P) (bNp p P))
noncomputable def T14(p:Program)(P:Params):BT:=aDc (T17 p P) (D14 p P)
noncomputable def S14(p:Program)(w:World)(os:OsState):SharedT:=⟨T14 p w.params,1326,aBk,#[],boot_drawn,4421,os⟩
noncomputable def bNo(p:Program)(P:Params):List (Nat×Obj):=[
(3,dV y1 (apE (yA P) [eK P bA0 4420 (rV 1178),eK P bFo 4422 (z 7 4421)]) 86)]
noncomputable def D15(p:Program)(P:Params):List (Nat×Obj):=bNo p P
noncomputable def T15(p:Program)(P:Params):BT:=aDc (T14 p P) (D15 p P)
noncomputable def S15(p:Program)(w:World)(os:OsState):SharedT:=⟨T15 p w.params,1326,aBk,#[],boot_drawn,4423,os⟩
noncomputable def bNn(p:Program)(P:Params):List (Nat×Obj):=[
(3,dV y1 (eK P q3 165 (sV aKw 5834)::apE (yB P) [eK P bA0 4420 (rV 1178),eK P bFo 4422 (z 7 4421),eK P bJe 4442 (z 1075056896 4441),eK P aMq 4449 (rV 1332),eK P aMp 4456 (rV 1339),eK P aMo 4463 (rV 1346),eK P aMn 4472 (rV 1353),eK P aPq 4690 (rV 1506),eK P bO6 4694 (z 4 4693),eK P bO5 4696 (z 1 4695),eK P bO4 4698 (z 2 4697),eK P bO3 4700 (z 4 4699),eK P bO2 4702 (z 8 4701),eK P bO1 4704 (z 16 4703),eK P bO0 4706 (z 64 4705),eK P bOz 4708 (z 128 4707),eK P bOy 4710 (z 10 4709),eK P bOx 4712 (z 10 4711),eK P bOw 4714 (sV aGq 4713),eK P bOv 4716 (sV aDb 4715),eK P bOu 4718 (sV aDx 4717),eK P bOt 4725 (rV 1511),eK P bOs 4732 (rV 1512),eK P bOr 4734 (z 0 4733),eK P aPp 4839 (rV 1587),eK P aSq 4846 (rV 1598),eK P aSp 4853 (rV 1605),eK P aSo 4864 (rV 1612),eK P aPo 4966 (rV 1666),eK P bJd 4970 (z 0 4969),eK P bJc 4972 (z 1 4971),eK P bOq 4974 (z 2 4973),eK P bJb 4978 (rV 1671),eK P bOp 4982 (rV 1672),eK P bJa 4984 (z 0 4983),eK P bI9 4986 (z 1 4985),eK P bI8 4988 (z 2 4987),eK P bI7 4990 (z 3 4989),eK P bI6 4992 (z 4 4991),eK P aQl 4994 (z 5 4993),eK P aSn 5002 (rV 1679),eK P aSm 5010 (rV 1686),eK P aSl 5018 (rV 1693),eK P aSk 5026 (rV 1700),eK P aSj 5034 (rV 1707),eK P aSi 5042 (rV 1714),eK P aSh 5050 (rV 1721),eK P aSg 5058 (rV 1728),eK P aSf 5066 (rV 1735),eK P aSe 5074 (rV 1742),eK P bI5 5093 (rV 1743),eK P bI4 5112 (rV 1744),eK P bI3 5140 (rV 1745),eK P bI2 5156 (rV 1746),eK P bI1 5166 (rV 1752),eK P bI0 5179 (rV 1753),eK P aMm 5187 (rV 1760),eK P aPn 5406 (rV 1899),eK P bIz 5410 (z 4 5409),eK P bIy 5416 (z 4294967295 5415),eK P bIx 5420 (z 4294967296 5419),eK P bIw 5424 (rV 1904),eK P aMl 5431 (rV 1911),eK P aMk 5439 (rV 1918),eK P aPm 5680 (rV 2088),eK P aPl 5737 (rV 2130),eK P aPk 5833 (rV 2195),eK P aE4 5845 (rV 2206),eK P aMj 5855 (rV 2213),eK P aMi 5869 (rV 2220),eK P aHy 5875 (rV 2225),eK P aMh 5884 (rV 2232),eK P aCt 5890 (rV 2237)]) 157),
(12,nV [cV 1,cV 0,rV 20,cV 5,cV 0,rV 27,cV 10,cV 0,rV 48,cV 12,cV 0,rV 60,cV 17,cV 0,rV 79,cV 22,cV 0,rV 98,cV 55,cV 0,rV 121,cV 67,cV 0,rV 150,cV 78,cV 0,rV 180,cV 84,cV 0,rV 187,cV 102,cV 0,rV 194,cV 109,cV 0,rV 1040,cV 112,cV 0,rV 1047,cV 115,cV 0,rV 1054,cV 127,cV 0,rV 1061,cV 161,cV 0,rV 1068,cV 163,cV 0,rV 1075,cV 168,cV 0,rV 1082,cV 170,cV 0,rV 1089,cV 172,cV 0,rV 1096,cV 174,cV 0,rV 1103,cV 176,cV 0,rV 1110,cV 178,cV 0,rV 1117,cV 180,cV 0,rV 1124,cV 182,cV 0,rV 1131,cV 184,cV 0,rV 1138,cV 186,cV 0,rV 1145,cV 188,cV 0,rV 1152,cV 190,cV 0,rV 1159,cV 192,cV 0,rV 1166,cV 198,cV 0,rV 1173,cV 237,cV 0,rV 1331,cV 239,cV 0,rV 1338,cV 241,cV 0,rV 1345,cV 243,cV 0,rV 1352,cV 248,cV 0,rV 1359,cV 438,cV 0,rV 1518,cV 476,cV 0,rV 1597,cV 478,cV 0,rV 1604,cV 480,cV 0,rV 1611,cV 490,cV 0,rV 1618,cV 549,cV 0,rV 1678,cV 551,cV 0,rV 1685,cV 553,cV 0,rV 1692,cV 555,cV 0,rV 1699,cV 557,cV 0,rV 1706,cV 559,cV 0,rV 1713,cV 561,cV 0,rV 1720,cV 563,cV 0,rV 1727,cV 565,cV 0,rV 1734,cV 567,cV 0,rV 1741,cV 575,cV 0,rV 1759,cV 590,cV 0,rV 1766,cV 775,cV 0,rV 1910,cV 778,cV 0,rV 1917,cV 781,cV 0,rV 1924,cV 907,cV 0,rV 2098,cV 923,cV 0,rV 2140,cV 983,cV 0,rV 2205,cV 990,cV 0,rV 2212,cV 999,cV 0,rV 2219,cV 1011,cV 0,rV 2224,cV 1014,cV 0,rV 2231,cV 1017,cV 0,rV 2236]),
(1326,tU []),
(1327,nV []),
(1328,tU [sV aG1 4446]),
(1329,tU []),
(1330,uV aMq aMq (F p 82)),
(1331,fV y3 [sV aMq 4443,sV aMq 4444,sV q1 4445,cV 237,cV 1,cV 0,cV 0,cV 3,rV 1326,.bool true,cV 181,rV 1327,.none,rV 1328,rV 1329,rV 1330,cV 4447,cV 237,sV q1 4448]),
(1332,kV aMq aMq (F p 82) .none aBx 4203 1331),
(1333,tU []),
(1334,nV []),
(1335,tU [sV aG1 4453]),
(1336,tU []),
(1337,uV aMp aMp (F p 83)),
(1338,fV y3 [sV aMp 4450,sV aMp 4451,sV q1 4452,cV 239,cV 1,cV 0,cV 0,cV 3,rV 1333,.bool true,cV 181,rV 1334,.none,rV 1335,rV 1336,rV 1337,cV 4454,cV 239,sV q1 4455]),
(1339,kV aMp aMp (F p 83) .none aBx 4203 1338),
(1340,tU []),
(1341,nV []),
(1342,tU [sV q66 4460]),
(1343,tU []),
(1344,uV aMo aMo (F p 84)),
(1345,fV y3 [sV aMo 4457,sV aMo 4458,sV q1 4459,cV 241,cV 1,cV 0,cV 0,cV 3,rV 1340,.bool true,cV 181,rV 1341,.none,rV 1342,rV 1343,rV 1344,cV 4461,cV 241,sV q1 4462]),
(1346,kV aMo aMo (F p 84) .none aBx 4203 1345),
(1347,tU []),
(1348,nV []),
(1349,tU [sV bFn 4467,sV q66 4468,sV aF4 4469]),
(1350,tU []),
(1351,uV aMn aMn (F p 85)),
(1352,fV y3 [sV aMn 4464,sV aMn 4465,sV q1 4466,cV 243,cV 2,cV 0,cV 0,cV 3,rV 1347,.bool true,cV 181,rV 1348,.none,rV 1349,rV 1350,rV 1351,cV 4470,cV 243,sV q1 4471]),
(1353,kV aMn aMn (F p 85) .none aBx 4203 1352),
(1354,tU []),
(1355,fV y7 [.builtin y8,.type y9]),
(1356,dV y1 [eK P q36 4480 (sV aBx 4203),eK P q38 4482 (sV aPq 4481),eK P q39 4484 (z 248 4483),eK P q40 4493 (rV 1368),eK P q95 4500 (rV 1375),eK P aJk 4510 (rV 1382),eK P aVm 4519 (rV 1390),eK P aVl 4527 (rV 1397),eK P aVk 4536 (rV 1404),eK P aVj 4547 (rV 1412),eK P aSd 4556 (rV 1419),eK P aVi 4565 (rV 1426),eK P aVh 4576 (rV 1433),eK P bAz 4585 (rV 1440),eK P bAy 4598 (rV 1447),eK P aVg 4608 (rV 1454),eK P aVf 4620 (rV 1461),eK P aVe 4630 (rV 1468),eK P bAx 4639 (rV 1475),eK P bAw 4648 (rV 1482),eK P aVd 4656 (rV 1489),eK P bAv 4663 (rV 1496),eK P aSc 4671 (rV 1503),eK P q41 4683 (rV 1504)] 24),
(1357,tU []),
(1358,nV [cV 250,cV 4,rV 1367,cV 263,cV 4,rV 1374,cV 266,cV 4,rV 1381,cV 274,cV 4,rV 1389,cV 290,cV 4,rV 1396,cV 301,cV 4,rV 1403,cV 307,cV 4,rV 1411,cV 328,cV 4,rV 1418,cV 335,cV 4,rV 1425,cV 347,cV 4,rV 1432,cV 358,cV 4,rV 1439,cV 361,cV 4,rV 1446,cV 376,cV 4,rV 1453,cV 382,cV 4,rV 1460,cV 393,cV 4,rV 1467,cV 399,cV 4,rV 1474,cV 407,cV 4,rV 1481,cV 413,cV 4,rV 1488,cV 416,cV 4,rV 1495,cV 419,cV 4,rV 1502]),
(1359,fV y3 [sV aPq 4475,sV aPq 4476,sV q1 4477,cV 248,cV 0,cV 0,cV 0,cV 0,rV 1357,.bool false,cV 181,rV 1358,.none,.none,.none,.none,cV 4478,cV 248,sV q1 4479]),
(1360,⟨.type y4,none,.plain,⟨[(oV (rV 1359)),(oV (rV 3)),(oV (rV 1356)),none,(oV (sV aBx 4203)),none,(oV (rV 0))]⟩⟩),
(1361,tU [z 0 4485]),
(1362,tU []),
(1363,nV []),
(1364,tU [sV q43 4489,sV bAu 4490]),
(1365,tU []),
(1366,uV q40 bFm (M p 86 0)),
(1367,fV y3 [sV q40 4486,sV bFm 4487,sV q1 4488,cV 250,cV 2,cV 0,cV 0,cV 3,rV 1362,.bool true,cV 181,rV 1363,.none,rV 1364,rV 1365,rV 1366,cV 4491,cV 250,sV q1 4492]),
(1368,kV q40 bFm (M p 86 0) (rV 1361) aBx 4203 1367),
(1369,tU []),
(1370,nV []),
(1371,tU [sV q43 4497]),
(1372,tU []),
(1373,uV q95 bFl (M p 86 1)),
(1374,fV y3 [sV q95 4494,sV bFl 4495,sV q1 4496,cV 263,cV 1,cV 0,cV 0,cV 3,rV 1369,.bool true,cV 181,rV 1370,.none,rV 1371,rV 1372,rV 1373,cV 4498,cV 263,sV q1 4499]),
(1375,kV q95 bFl (M p 86 1) .none aBx 4203 1374),
(1376,tU []),
(1377,nV []),
(1378,tU [sV q43 4504,sV aG1 4505,sV aE9 4506,sV bXa 4507]),
(1379,tU []),
(1380,uV aJk bFk (M p 86 2)),
(1381,fV y3 [sV aJk 4501,sV bFk 4502,sV q1 4503,cV 266,cV 3,cV 0,cV 0,cV 3,rV 1376,.bool true,cV 181,rV 1377,.none,rV 1378,rV 1379,rV 1380,cV 4508,cV 266,sV q1 4509]),
(1382,kV aJk bFk (M p 86 2) .none aBx 4203 1381),
(1383,tU [z 3 4209])]
noncomputable def bNm(p:Program)(P:Params):List (Nat×Obj):=[
(1384,tU []),
(1385,nV []),
(1386,tU [sV q43 4514,sV aG1 4515,sV aE9 4516]),
(1387,tU []),
(1388,uV aVm bFj (M p 86 3)),
(1389,fV y3 [sV aVm 4511,sV bFj 4512,sV q1 4513,cV 274,cV 3,cV 0,cV 0,cV 3,rV 1384,.bool true,cV 181,rV 1385,.none,rV 1386,rV 1387,rV 1388,cV 4517,cV 274,sV q1 4518]),
(1390,kV aVm bFj (M p 86 3) (rV 1383) aBx 4203 1389),
(1391,tU []),
(1392,nV []),
(1393,tU [sV q43 4523,sV aG1 4524]),
(1394,tU []),
(1395,uV aVl bFi (M p 86 4)),
(1396,fV y3 [sV aVl 4520,sV bFi 4521,sV q1 4522,cV 290,cV 2,cV 0,cV 0,cV 3,rV 1391,.bool true,cV 181,rV 1392,.none,rV 1393,rV 1394,rV 1395,cV 4525,cV 290,sV q1 4526]),
(1397,kV aVl bFi (M p 86 4) .none aBx 4203 1396),
(1398,tU []),
(1399,nV []),
(1400,tU [sV q43 4531,sV aG1 4532,sV bJf 4533]),
(1401,tU []),
(1402,uV aVk bFh (M p 86 5)),
(1403,fV y3 [sV aVk 4528,sV bFh 4529,sV q1 4530,cV 301,cV 2,cV 0,cV 0,cV 3,rV 1398,.bool true,cV 181,rV 1399,.none,rV 1400,rV 1401,rV 1402,cV 4534,cV 301,sV q1 4535]),
(1404,kV aVk bFh (M p 86 5) .none aBx 4203 1403),
(1405,tU [z 3 4209]),
(1406,tU []),
(1407,nV []),
(1408,tU [sV q43 4540,sV aG1 4541,sV q66 4542,sV aE9 4543,sV bJh 4544]),
(1409,tU []),
(1410,uV aVj bFg (M p 86 6)),
(1411,fV y3 [sV aVj 4537,sV bFg 4538,sV q1 4539,cV 307,cV 4,cV 0,cV 0,cV 3,rV 1406,.bool true,cV 181,rV 1407,.none,rV 1408,rV 1409,rV 1410,cV 4545,cV 307,sV q1 4546]),
(1412,kV aVj bFg (M p 86 6) (rV 1405) aBx 4203 1411),
(1413,tU []),
(1414,nV []),
(1415,tU [sV q43 4551,sV aG1 4552,sV q66 4553]),
(1416,tU []),
(1417,uV aSd bFf (M p 86 7)),
(1418,fV y3 [sV aSd 4548,sV bFf 4549,sV q1 4550,cV 328,cV 3,cV 0,cV 0,cV 3,rV 1413,.bool true,cV 181,rV 1414,.none,rV 1415,rV 1416,rV 1417,cV 4554,cV 328,sV q1 4555]),
(1419,kV aSd bFf (M p 86 7) .none aBx 4203 1418),
(1420,tU []),
(1421,nV []),
(1422,tU [sV q43 4560,sV aG1 4561,sV q66 4562]),
(1423,tU []),
(1424,uV aVi bFe (M p 86 8)),
(1425,fV y3 [sV aVi 4557,sV bFe 4558,sV q1 4559,cV 335,cV 3,cV 0,cV 0,cV 3,rV 1420,.bool true,cV 181,rV 1421,.none,rV 1422,rV 1423,rV 1424,cV 4563,cV 335,sV q1 4564]),
(1426,kV aVi bFe (M p 86 8) .none aBx 4203 1425),
(1427,tU []),
(1428,nV []),
(1429,tU [sV q43 4569,sV aG1 4570,sV q66 4571,sV bFn 4572,sV bJf 4573]),
(1430,tU []),
(1431,uV aVh bFd (M p 86 9)),
(1432,fV y3 [sV aVh 4566,sV bFd 4567,sV q1 4568,cV 347,cV 3,cV 0,cV 0,cV 3,rV 1427,.bool true,cV 181,rV 1428,.none,rV 1429,rV 1430,rV 1431,cV 4574,cV 347,sV q1 4575]),
(1433,kV aVh bFd (M p 86 9) .none aBx 4203 1432),
(1434,tU []),
(1435,nV []),
(1436,tU [sV q43 4580,sV aG1 4581,sV bW9 4582]),
(1437,tU []),
(1438,uV bAz bIv (M p 86 10)),
(1439,fV y3 [sV bAz 4577,sV bIv 4578,sV q1 4579,cV 358,cV 3,cV 0,cV 0,cV 3,rV 1434,.bool true,cV 181,rV 1435,.none,rV 1436,rV 1437,rV 1438,cV 4583,cV 358,sV q1 4584]),
(1440,kV bAz bIv (M p 86 10) .none aBx 4203 1439),
(1441,tU []),
(1442,nV []),
(1443,tU [sV q43 4589,sV aE9 4590,sV aYt 4591,sV bW8 4592,sV bW7 4593,sV bW6 4594,sV aG1 4595])]
noncomputable def bNl(p:Program)(P:Params):List (Nat×Obj):=[
(1444,tU []),
(1445,uV bAy bIu (M p 86 11)),
(1446,fV y3 [sV bAy 4586,sV bIu 4587,sV q1 4588,cV 361,cV 2,cV 0,cV 0,cV 3,rV 1441,.bool true,cV 181,rV 1442,.none,rV 1443,rV 1444,rV 1445,cV 4596,cV 361,sV q1 4597]),
(1447,kV bAy bIu (M p 86 11) .none aBx 4203 1446),
(1448,tU []),
(1449,nV []),
(1450,tU [sV q43 4602,sV q65 4603,sV aE9 4604,sV aYs 4605]),
(1451,tU []),
(1452,uV aVg bFc (M p 86 12)),
(1453,fV y3 [sV aVg 4599,sV bFc 4600,sV q1 4601,cV 376,cV 3,cV 0,cV 0,cV 3,rV 1448,.bool true,cV 181,rV 1449,.none,rV 1450,rV 1451,rV 1452,cV 4606,cV 376,sV q1 4607]),
(1454,kV aVg bFc (M p 86 12) .none aBx 4203 1453),
(1455,tU []),
(1456,nV []),
(1457,tU [sV q43 4612,sV q65 4613,sV q66 4614,sV aE8 4615,sV aE9 4616,sV aLt 4617]),
(1458,tU []),
(1459,uV aVf bFb (M p 86 13)),
(1460,fV y3 [sV aVf 4609,sV bFb 4610,sV q1 4611,cV 382,cV 5,cV 0,cV 0,cV 3,rV 1455,.bool true,cV 181,rV 1456,.none,rV 1457,rV 1458,rV 1459,cV 4618,cV 382,sV q1 4619]),
(1461,kV aVf bFb (M p 86 13) .none aBx 4203 1460),
(1462,tU []),
(1463,nV []),
(1464,tU [sV q43 4624,sV bIt 4625,sV q65 4626,sV bW5 4627]),
(1465,tU []),
(1466,uV aVe bFa (M p 86 14)),
(1467,fV y3 [sV aVe 4621,sV bFa 4622,sV q1 4623,cV 393,cV 3,cV 0,cV 0,cV 3,rV 1462,.bool true,cV 181,rV 1463,.none,rV 1464,rV 1465,rV 1466,cV 4628,cV 393,sV q1 4629]),
(1468,kV aVe bFa (M p 86 14) .none aBx 4203 1467),
(1469,tU []),
(1470,nV []),
(1471,tU [sV q43 4634,sV aE9 4635,sV aLt 4636]),
(1472,tU []),
(1473,uV bAx bIs (M p 86 15)),
(1474,fV y3 [sV bAx 4631,sV bIs 4632,sV q1 4633,cV 399,cV 1,cV 0,cV 0,cV 3,rV 1469,.bool true,cV 181,rV 1470,.none,rV 1471,rV 1472,rV 1473,cV 4637,cV 399,sV q1 4638]),
(1475,kV bAx bIs (M p 86 15) .none aBx 4203 1474),
(1476,tU []),
(1477,nV []),
(1478,tU [sV q43 4643,sV aE9 4644,sV aLt 4645]),
(1479,tU []),
(1480,uV bAw bIr (M p 86 16)),
(1481,fV y3 [sV bAw 4640,sV bIr 4641,sV q1 4642,cV 407,cV 1,cV 0,cV 0,cV 3,rV 1476,.bool true,cV 181,rV 1477,.none,rV 1478,rV 1479,rV 1480,cV 4646,cV 407,sV q1 4647]),
(1482,kV bAw bIr (M p 86 16) .none aBx 4203 1481),
(1483,tU []),
(1484,nV []),
(1485,tU [sV q43 4652,sV aE9 4653]),
(1486,tU []),
(1487,uV aVd bE9 (M p 86 17)),
(1488,fV y3 [sV aVd 4649,sV bE9 4650,sV q1 4651,cV 413,cV 2,cV 0,cV 0,cV 3,rV 1483,.bool true,cV 181,rV 1484,.none,rV 1485,rV 1486,rV 1487,cV 4654,cV 413,sV q1 4655]),
(1489,kV aVd bE9 (M p 86 17) .none aBx 4203 1488),
(1490,tU []),
(1491,nV []),
(1492,tU [sV q43 4660]),
(1493,tU []),
(1494,uV bAv bIq (M p 86 18)),
(1495,fV y3 [sV bAv 4657,sV bIq 4658,sV q1 4659,cV 416,cV 1,cV 0,cV 0,cV 3,rV 1490,.bool true,cV 181,rV 1491,.none,rV 1492,rV 1493,rV 1494,cV 4661,cV 416,sV q1 4662]),
(1496,kV bAv bIq (M p 86 18) .none aBx 4203 1495),
(1497,tU []),
(1498,nV []),
(1499,tU [sV q43 4667,sV bE8 4668]),
(1500,tU []),
(1501,uV aSc bIp (M p 86 19)),
(1502,fV y3 [sV aSc 4664,sV bIp 4665,sV q1 4666,cV 419,cV 2,cV 0,cV 0,cV 3,rV 1497,.bool true,cV 181,rV 1498,.none,rV 1499,rV 1500,rV 1501,cV 4669,cV 419,sV q1 4670]),
(1503,kV aSc bIp (M p 86 19) .none aBx 4203 1502)]
noncomputable def bNk(p:Program)(P:Params):List (Nat×Obj):=[
(1504,tU [sV bIo 4672,sV bIn 4673,sV bIm 4674,sV bAu 4675,sV bIl 4676,sV bIk 4677,sV bIj 4678,sV q77 4679,sV bAt 4680,sV bIi 4681,sV bIh 4682]),
(1505,dV y1 [eK P q36 4480 (sV aBx 4203),eK P q39 4484 (z 248 4483),eK P q40 4493 (rV 1368),eK P q95 4500 (rV 1375),eK P aJk 4510 (rV 1382),eK P aVm 4519 (rV 1390),eK P aVl 4527 (rV 1397),eK P aVk 4536 (rV 1404),eK P aVj 4547 (rV 1412),eK P aSd 4556 (rV 1419),eK P aVi 4565 (rV 1426),eK P aVh 4576 (rV 1433),eK P bAz 4585 (rV 1440),eK P bAy 4598 (rV 1447),eK P aVg 4608 (rV 1454),eK P aVf 4620 (rV 1461),eK P aVe 4630 (rV 1468),eK P bAx 4639 (rV 1475),eK P bAw 4648 (rV 1482),eK P aVd 4656 (rV 1489),eK P bAv 4663 (rV 1496),eK P aSc 4671 (rV 1503),eK P q41 4683 (rV 1504),eK P aFi 4685 (rV 1507),eK P q46 4687 (rV 1508),eK P q5 4688 .none] 4),
(1506,⟨.type y9,none,.cls ⟨aPq,[.type y12],[rV 1506,.type y12],1505,aPq,true,[],[],false,none,false⟩,⟨[none,none,(oV (sV aPq 4473)),(oV (sV aPq 4481)),(oV (.builtin y18)),(oV (.bool true))]⟩⟩),
(1507,fV y14 [sV aFi 4684,rV 1506,.builtin y19,.builtin y20]),
(1508,fV y14 [sV q46 4686,rV 1506,.builtin y15,.none]),
(1509,fV y16 [rV 1506,rV 1506,rV 1506]),
(1510,fV y7 [.builtin y17,rV 1506]),
(1511,dV y1 [eK P aGq 4713 (z 12 324),eK P aDb 4715 (z 13 326),eK P aDx 4717 (z 15 328)] 3),
(1512,dV y1 [eK P aGq 4713 (z 1 304),eK P aDb 4715 (z 5 312),eK P aDx 4717 (z 7 316)] 3),
(1513,tU []),
(1514,fV y7 [.builtin y8,.type y9]),
(1515,dV y1 [eK P q36 4742 (sV aDn 4691),eK P q38 4744 (sV aPp 4743),eK P q39 4746 (z 438 4745),eK P q40 4755 (rV 1527),eK P aYr 4764 (rV 1534),eK P q49 4775 (rV 1542),eK P bAs 4783 (rV 1549),eK P bAr 4791 (rV 1556),eK P bAq 4799 (rV 1563),eK P bAp 4808 (rV 1570),eK P aKv 4817 (rV 1577),eK P aVc 4825 (rV 1584),eK P q41 4832 (rV 1585)] 13),
(1516,tU []),
(1517,nV [cV 440,cV 4,rV 1526,cV 450,cV 4,rV 1533,cV 456,cV 4,rV 1541,cV 459,cV 4,rV 1548,cV 462,cV 4,rV 1555,cV 465,cV 4,rV 1562,cV 468,cV 4,rV 1569,cV 471,cV 4,rV 1576,cV 474,cV 4,rV 1583]),
(1518,fV y3 [sV aPp 4737,sV aPp 4738,sV q1 4739,cV 438,cV 0,cV 0,cV 0,cV 0,rV 1516,.bool false,cV 181,rV 1517,.none,.none,.none,.none,cV 4740,cV 438,sV q1 4741]),
(1519,⟨.type y4,none,.plain,⟨[(oV (rV 1518)),(oV (rV 3)),(oV (rV 1515)),none,(oV (sV aDn 4691)),none,(oV (rV 0))]⟩⟩),
(1520,tU [z 12 4747]),
(1521,tU []),
(1522,nV []),
(1523,tU [sV q43 4751,sV bE8 4752]),
(1524,tU []),
(1525,uV q40 bE7 (M p 104 0)),
(1526,fV y3 [sV q40 4748,sV bE7 4749,sV q1 4750,cV 440,cV 2,cV 0,cV 0,cV 3,rV 1521,.bool true,cV 181,rV 1522,.none,rV 1523,rV 1524,rV 1525,cV 4753,cV 440,sV q1 4754]),
(1527,kV q40 bE7 (M p 104 0) (rV 1520) aDn 4691 1526),
(1528,tU []),
(1529,nV []),
(1530,tU [sV q43 4759,sV q49 4760,sV aG1 4761]),
(1531,tU []),
(1532,uV aYr bIg (M p 104 1)),
(1533,fV y3 [sV aYr 4756,sV bIg 4757,sV q1 4758,cV 450,cV 2,cV 0,cV 0,cV 3,rV 1528,.bool true,cV 181,rV 1529,.none,rV 1530,rV 1531,rV 1532,cV 4762,cV 450,sV q1 4763]),
(1534,kV aYr bIg (M p 104 1) .none aDn 4691 1533),
(1535,tU [z 0 4765]),
(1536,tU []),
(1537,nV []),
(1538,tU [sV q43 4769,sV bFp 4770,sV bJg 4771,sV bIf 4772]),
(1539,tU []),
(1540,uV q49 bIe (M p 104 2)),
(1541,fV y3 [sV q49 4766,sV bIe 4767,sV q1 4768,cV 456,cV 4,cV 0,cV 0,cV 3,rV 1536,.bool true,cV 181,rV 1537,.none,rV 1538,rV 1539,rV 1540,cV 4773,cV 456,sV q1 4774]),
(1542,kV q49 bIe (M p 104 2) (rV 1535) aDn 4691 1541),
(1543,tU []),
(1544,nV []),
(1545,tU [sV q43 4779,sV q49 4780]),
(1546,tU []),
(1547,uV bAs bId (M p 104 3)),
(1548,fV y3 [sV bAs 4776,sV bId 4777,sV q1 4778,cV 459,cV 2,cV 0,cV 0,cV 3,rV 1543,.bool true,cV 181,rV 1544,.none,rV 1545,rV 1546,rV 1547,cV 4781,cV 459,sV q1 4782]),
(1549,kV bAs bId (M p 104 3) .none aDn 4691 1548),
(1550,tU []),
(1551,nV []),
(1552,tU [sV q43 4787,sV q49 4788]),
(1553,tU []),
(1554,uV bAr bIc (M p 104 4)),
(1555,fV y3 [sV bAr 4784,sV bIc 4785,sV q1 4786,cV 462,cV 2,cV 0,cV 0,cV 3,rV 1550,.bool true,cV 181,rV 1551,.none,rV 1552,rV 1553,rV 1554,cV 4789,cV 462,sV q1 4790]),
(1556,kV bAr bIc (M p 104 4) .none aDn 4691 1555),
(1557,tU []),
(1558,nV []),
(1559,tU [sV q43 4795,sV q49 4796]),
(1560,tU []),
(1561,uV bAq bIb (M p 104 5)),
(1562,fV y3 [sV bAq 4792,sV bIb 4793,sV q1 4794,cV 465,cV 2,cV 0,cV 0,cV 3,rV 1557,.bool true,cV 181,rV 1558,.none,rV 1559,rV 1560,rV 1561,cV 4797,cV 465,sV q1 4798]),
(1563,kV bAq bIb (M p 104 5) .none aDn 4691 1562)]
noncomputable def bNj(p:Program)(P:Params):List (Nat×Obj):=[
(1564,tU []),
(1565,nV []),
(1566,tU [sV q43 4803,sV aJj 4804,sV aMg 4805]),
(1567,tU []),
(1568,uV bAp bIa (M p 104 6)),
(1569,fV y3 [sV bAp 4800,sV bIa 4801,sV q1 4802,cV 468,cV 3,cV 0,cV 0,cV 3,rV 1564,.bool true,cV 181,rV 1565,.none,rV 1566,rV 1567,rV 1568,cV 4806,cV 468,sV q1 4807]),
(1570,kV bAp bIa (M p 104 6) .none aDn 4691 1569),
(1571,tU []),
(1572,nV []),
(1573,tU [sV q43 4812,sV aVc 4813,sV bW4 4814]),
(1574,tU []),
(1575,uV aKv bH9 (M p 104 7)),
(1576,fV y3 [sV aKv 4809,sV bH9 4810,sV q1 4811,cV 471,cV 3,cV 0,cV 0,cV 3,rV 1571,.bool true,cV 181,rV 1572,.none,rV 1573,rV 1574,rV 1575,cV 4815,cV 471,sV q1 4816]),
(1577,kV aKv bH9 (M p 104 7) .none aDn 4691 1576),
(1578,tU []),
(1579,nV []),
(1580,tU [sV q43 4821,sV aKv 4822]),
(1581,tU []),
(1582,uV aVc bH8 (M p 104 8)),
(1583,fV y3 [sV aVc 4818,sV bH8 4819,sV q1 4820,cV 474,cV 2,cV 0,cV 0,cV 3,rV 1578,.bool true,cV 181,rV 1579,.none,rV 1580,rV 1581,rV 1582,cV 4823,cV 474,sV q1 4824]),
(1584,kV aVc bH8 (M p 104 8) .none aDn 4691 1583),
(1585,tU [sV aMg 4826,sV bOo 4827,sV bOn 4828,sV bOm 4829,sV bOl 4830,sV bE8 4831]),
(1586,dV y1 [eK P q36 4742 (sV aDn 4691),eK P q39 4746 (z 438 4745),eK P q40 4755 (rV 1527),eK P aYr 4764 (rV 1534),eK P q49 4775 (rV 1542),eK P bAs 4783 (rV 1549),eK P bAr 4791 (rV 1556),eK P bAq 4799 (rV 1563),eK P bAp 4808 (rV 1570),eK P aKv 4817 (rV 1577),eK P aVc 4825 (rV 1584),eK P q41 4832 (rV 1585),eK P aFi 4834 (rV 1588),eK P q46 4836 (rV 1589),eK P q5 4837 .none] 4),
(1587,⟨.type y9,none,.cls ⟨aPp,[.type y12],[rV 1587,.type y12],1586,aPp,true,[],[],false,none,false⟩,⟨[none,none,(oV (sV aPp 4735)),(oV (sV aPp 4743)),(oV (.builtin y18)),(oV (.bool true))]⟩⟩),
(1588,fV y14 [sV aFi 4833,rV 1587,.builtin y19,.builtin y20]),
(1589,fV y14 [sV q46 4835,rV 1587,.builtin y15,.none]),
(1590,fV y16 [rV 1587,rV 1587,rV 1587]),
(1591,fV y7 [.builtin y17,rV 1587]),
(1592,tU []),
(1593,nV []),
(1594,tU [sV aKv 4843]),
(1595,tU []),
(1596,uV aSq aSq (F p 105)),
(1597,fV y3 [sV aSq 4840,sV aSq 4841,sV q1 4842,cV 476,cV 1,cV 0,cV 0,cV 3,rV 1592,.bool true,cV 181,rV 1593,.none,rV 1594,rV 1595,rV 1596,cV 4844,cV 476,sV q1 4845]),
(1598,kV aSq aSq (F p 105) .none aDn 4691 1597),
(1599,tU []),
(1600,nV []),
(1601,tU [sV aKv 4850]),
(1602,tU []),
(1603,uV aSp aSp (F p 106)),
(1604,fV y3 [sV aSp 4847,sV aSp 4848,sV q1 4849,cV 478,cV 1,cV 0,cV 0,cV 3,rV 1599,.bool true,cV 181,rV 1600,.none,rV 1601,rV 1602,rV 1603,cV 4851,cV 478,sV q1 4852]),
(1605,kV aSp aSp (F p 106) .none aDn 4691 1604),
(1606,tU []),
(1607,nV []),
(1608,tU [sV aKv 4857,sV aAg 4858,sV aE9 4859,sV bAo 4860,sV bAn 4861]),
(1609,tU []),
(1610,uV aSo aSo (F p 107)),
(1611,fV y3 [sV aSo 4854,sV aSo 4855,sV q1 4856,cV 480,cV 5,cV 0,cV 0,cV 3,rV 1606,.bool true,cV 181,rV 1607,.none,rV 1608,rV 1609,rV 1610,cV 4862,cV 480,sV q1 4863]),
(1612,kV aSo aSo (F p 107) .none aDn 4691 1611),
(1613,tU []),
(1614,fV y7 [.builtin y8,.type y9]),
(1615,dV y1 [eK P q36 4872 (sV aDn 4691),eK P q38 4874 (sV aPo 4873),eK P q39 4876 (z 490 4875),eK P q40 4885 (rV 1626),eK P bAm 4903 (rV 1634),eK P bAl 4914 (rV 1641),eK P bAk 4929 (rV 1648),eK P bAj 4941 (rV 1655),eK P bAi 4956 (rV 1663),eK P q41 4959 (rV 1664)] 10),
(1616,tU []),
(1617,nV [cV 492,cV 4,rV 1625,cV 496,cV 4,rV 1633,cV 511,cV 4,rV 1640,cV 520,cV 4,rV 1647,cV 527,cV 4,rV 1654,cV 535,cV 4,rV 1662]),
(1618,fV y3 [sV aPo 4867,sV aPo 4868,sV q1 4869,cV 490,cV 0,cV 0,cV 0,cV 0,rV 1616,.bool false,cV 181,rV 1617,.none,.none,.none,.none,cV 4870,cV 490,sV q1 4871]),
(1619,⟨.type y4,none,.plain,⟨[(oV (rV 1618)),(oV (rV 3)),(oV (rV 1615)),none,(oV (sV aDn 4691)),none,(oV (rV 0))]⟩⟩),
(1620,tU []),
(1621,nV []),
(1622,tU [sV q43 4880,sV aVb 4881,sV aVa 4882]),
(1623,tU [])]
noncomputable def bNi(p:Program)(P:Params):List (Nat×Obj):=[
(1624,uV q40 bE6 (M p 108 0)),
(1625,fV y3 [sV q40 4877,sV bE6 4878,sV q1 4879,cV 492,cV 3,cV 0,cV 0,cV 3,rV 1620,.bool true,cV 181,rV 1621,.none,rV 1622,rV 1623,rV 1624,cV 4883,cV 492,sV q1 4884]),
(1626,kV q40 bE6 (M p 108 0) .none aDn 4691 1625),
(1627,tU [z 0 4886,z 0 4887]),
(1628,tU []),
(1629,nV []),
(1630,tU [sV q43 4891,sV aSc 4892,sV q49 4893,sV aAg 4894,sV aE9 4895,sV bAo 4896,sV bAn 4897,sV aYr 4898,sV aE8 4899,sV aKv 4900]),
(1631,tU []),
(1632,uV bAm bH7 (M p 108 1)),
(1633,fV y3 [sV bAm 4888,sV bH7 4889,sV q1 4890,cV 496,cV 7,cV 0,cV 0,cV 3,rV 1628,.bool true,cV 181,rV 1629,.none,rV 1630,rV 1631,rV 1632,cV 4901,cV 496,sV q1 4902]),
(1634,kV bAm bH7 (M p 108 1) (rV 1627) aDn 4691 1633),
(1635,tU []),
(1636,nV []),
(1637,tU [sV q43 4907,sV aE8 4908,sV q49 4909,sV aAg 4910,sV aKv 4911]),
(1638,tU []),
(1639,uV bAl bH6 (M p 108 2)),
(1640,fV y3 [sV bAl 4904,sV bH6 4905,sV q1 4906,cV 511,cV 4,cV 0,cV 0,cV 3,rV 1635,.bool true,cV 181,rV 1636,.none,rV 1637,rV 1638,rV 1639,cV 4912,cV 511,sV q1 4913]),
(1641,kV bAl bH6 (M p 108 2) .none aDn 4691 1640),
(1642,tU []),
(1643,nV []),
(1644,tU [sV q43 4918,sV aE8 4919,sV aKv 4920,sV q49 4921,sV aAg 4922,sV aE9 4923,sV bAo 4924,sV bAn 4925,sV aVc 4926]),
(1645,tU []),
(1646,uV bAk bH5 (M p 108 3)),
(1647,fV y3 [sV bAk 4915,sV bH5 4916,sV q1 4917,cV 520,cV 8,cV 0,cV 0,cV 3,rV 1642,.bool true,cV 181,rV 1643,.none,rV 1644,rV 1645,rV 1646,cV 4927,cV 520,sV q1 4928]),
(1648,kV bAk bH5 (M p 108 3) .none aDn 4691 1647),
(1649,tU []),
(1650,nV []),
(1651,tU [sV q43 4933,sV aE8 4934,sV aKv 4935,sV q49 4936,sV aAg 4937,sV aYt 4938]),
(1652,tU []),
(1653,uV bAj bH4 (M p 108 4)),
(1654,fV y3 [sV bAj 4930,sV bH4 4931,sV q1 4932,cV 527,cV 5,cV 0,cV 0,cV 3,rV 1649,.bool true,cV 181,rV 1650,.none,rV 1651,rV 1652,rV 1653,cV 4939,cV 527,sV q1 4940]),
(1655,kV bAj bH4 (M p 108 4) .none aDn 4691 1654),
(1656,tU [z 0 4942,z 0 4943]),
(1657,tU []),
(1658,nV []),
(1659,tU [sV q43 4947,sV aSc 4948,sV q49 4949,sV aAg 4950,sV aE9 4951,sV bAo 4952,sV bAn 4953]),
(1660,tU []),
(1661,uV bAi bH3 (M p 108 5)),
(1662,fV y3 [sV bAi 4944,sV bH3 4945,sV q1 4946,cV 535,cV 7,cV 0,cV 0,cV 3,rV 1657,.bool true,cV 181,rV 1658,.none,rV 1659,rV 1660,rV 1661,cV 4954,cV 535,sV q1 4955]),
(1663,kV bAi bH3 (M p 108 5) (rV 1656) aDn 4691 1662),
(1664,tU [sV aVb 4957,sV aVa 4958]),
(1665,dV y1 [eK P q36 4872 (sV aDn 4691),eK P q39 4876 (z 490 4875),eK P q40 4885 (rV 1626),eK P bAm 4903 (rV 1634),eK P bAl 4914 (rV 1641),eK P bAk 4929 (rV 1648),eK P bAj 4941 (rV 1655),eK P bAi 4956 (rV 1663),eK P q41 4959 (rV 1664),eK P aFi 4961 (rV 1667),eK P q46 4963 (rV 1668),eK P q5 4964 .none] 4),
(1666,⟨.type y9,none,.cls ⟨aPo,[.type y12],[rV 1666,.type y12],1665,aPo,true,[],[],false,none,false⟩,⟨[none,none,(oV (sV aPo 4865)),(oV (sV aPo 4873)),(oV (.builtin y18)),(oV (.bool true))]⟩⟩),
(1667,fV y14 [sV aFi 4960,rV 1666,.builtin y19,.builtin y20]),
(1668,fV y14 [sV q46 4962,rV 1666,.builtin y15,.none]),
(1669,fV y16 [rV 1666,rV 1666,rV 1666]),
(1670,fV y7 [.builtin y17,rV 1666]),
(1671,tU [sV aGq 4975,sV aDb 4976,sV aDx 4977]),
(1672,tU [z 256 4979,z 384 4980,z 768 4981]),
(1673,tU []),
(1674,nV []),
(1675,tU [sV aE6 4998,sV aE5 4999]),
(1676,tU []),
(1677,uV aSn aSn (F p 121)),
(1678,fV y3 [sV aSn 4995,sV aSn 4996,sV q1 4997,cV 549,cV 2,cV 0,cV 0,cV 3,rV 1673,.bool true,cV 181,rV 1674,.none,rV 1675,rV 1676,rV 1677,cV 5000,cV 549,sV q1 5001]),
(1679,kV aSn aSn (F p 121) .none aBy 4967 1678),
(1680,tU []),
(1681,nV []),
(1682,tU [sV aE6 5006,sV aE5 5007]),
(1683,tU [])]
noncomputable def bNh(p:Program)(P:Params):List (Nat×Obj):=[
(1684,uV aSm aSm (F p 122)),
(1685,fV y3 [sV aSm 5003,sV aSm 5004,sV q1 5005,cV 551,cV 2,cV 0,cV 0,cV 3,rV 1680,.bool true,cV 181,rV 1681,.none,rV 1682,rV 1683,rV 1684,cV 5008,cV 551,sV q1 5009]),
(1686,kV aSm aSm (F p 122) .none aBy 4967 1685),
(1687,tU []),
(1688,nV []),
(1689,tU [sV aE6 5014,sV aE5 5015]),
(1690,tU []),
(1691,uV aSl aSl (F p 123)),
(1692,fV y3 [sV aSl 5011,sV aSl 5012,sV q1 5013,cV 553,cV 2,cV 0,cV 0,cV 3,rV 1687,.bool true,cV 181,rV 1688,.none,rV 1689,rV 1690,rV 1691,cV 5016,cV 553,sV q1 5017]),
(1693,kV aSl aSl (F p 123) .none aBy 4967 1692),
(1694,tU []),
(1695,nV []),
(1696,tU [sV aE6 5022,sV aE5 5023]),
(1697,tU []),
(1698,uV aSk aSk (F p 124)),
(1699,fV y3 [sV aSk 5019,sV aSk 5020,sV q1 5021,cV 555,cV 2,cV 0,cV 0,cV 3,rV 1694,.bool true,cV 181,rV 1695,.none,rV 1696,rV 1697,rV 1698,cV 5024,cV 555,sV q1 5025]),
(1700,kV aSk aSk (F p 124) .none aBy 4967 1699),
(1701,tU []),
(1702,nV []),
(1703,tU [sV aE6 5030,sV aE5 5031]),
(1704,tU []),
(1705,uV aSj aSj (F p 125)),
(1706,fV y3 [sV aSj 5027,sV aSj 5028,sV q1 5029,cV 557,cV 2,cV 0,cV 0,cV 3,rV 1701,.bool true,cV 181,rV 1702,.none,rV 1703,rV 1704,rV 1705,cV 5032,cV 557,sV q1 5033]),
(1707,kV aSj aSj (F p 125) .none aBy 4967 1706),
(1708,tU []),
(1709,nV []),
(1710,tU [sV aE6 5038,sV aE5 5039]),
(1711,tU []),
(1712,uV aSi aSi (F p 126)),
(1713,fV y3 [sV aSi 5035,sV aSi 5036,sV q1 5037,cV 559,cV 2,cV 0,cV 0,cV 3,rV 1708,.bool true,cV 181,rV 1709,.none,rV 1710,rV 1711,rV 1712,cV 5040,cV 559,sV q1 5041]),
(1714,kV aSi aSi (F p 126) .none aBy 4967 1713),
(1715,tU []),
(1716,nV []),
(1717,tU [sV aE6 5046,sV aE5 5047]),
(1718,tU []),
(1719,uV aSh aSh (F p 127)),
(1720,fV y3 [sV aSh 5043,sV aSh 5044,sV q1 5045,cV 561,cV 2,cV 0,cV 0,cV 3,rV 1715,.bool true,cV 181,rV 1716,.none,rV 1717,rV 1718,rV 1719,cV 5048,cV 561,sV q1 5049]),
(1721,kV aSh aSh (F p 127) .none aBy 4967 1720),
(1722,tU []),
(1723,nV []),
(1724,tU [sV aE6 5054,sV aE5 5055]),
(1725,tU []),
(1726,uV aSg aSg (F p 128)),
(1727,fV y3 [sV aSg 5051,sV aSg 5052,sV q1 5053,cV 563,cV 2,cV 0,cV 0,cV 3,rV 1722,.bool true,cV 181,rV 1723,.none,rV 1724,rV 1725,rV 1726,cV 5056,cV 563,sV q1 5057]),
(1728,kV aSg aSg (F p 128) .none aBy 4967 1727),
(1729,tU []),
(1730,nV []),
(1731,tU [sV aE6 5062,sV aE5 5063]),
(1732,tU []),
(1733,uV aSf aSf (F p 129)),
(1734,fV y3 [sV aSf 5059,sV aSf 5060,sV q1 5061,cV 565,cV 2,cV 0,cV 0,cV 3,rV 1729,.bool true,cV 181,rV 1730,.none,rV 1731,rV 1732,rV 1733,cV 5064,cV 565,sV q1 5065]),
(1735,kV aSf aSf (F p 129) .none aBy 4967 1734),
(1736,tU []),
(1737,nV []),
(1738,tU [sV aE6 5070,sV aE5 5071]),
(1739,tU []),
(1740,uV aSe aSe (F p 130)),
(1741,fV y3 [sV aSe 5067,sV aSe 5068,sV q1 5069,cV 567,cV 2,cV 0,cV 0,cV 3,rV 1736,.bool true,cV 181,rV 1737,.none,rV 1738,rV 1739,rV 1740,cV 5072,cV 567,sV q1 5073]),
(1742,kV aSe aSe (F p 130) .none aBy 4967 1741),
(1743,dV y1 [eK P aDy 5075 (rV 1083),eK P aVx 5076 (rV 1097),eK P aVw 5077 (rV 1700),eK P aVv 5078 (rV 1707),eK P aVu 5079 (rV 1693),eK P aVt 5080 (rV 1104),eK P aQm 5081 (rV 1111),eK P aVs 5082 (rV 1686),eK P aQn 5083 (rV 1679)] 9)]
noncomputable def bNg(p:Program)(P:Params):List (Nat×Obj):=[
(1744,dV y1 [eK P aJs 5094 (rV 1090),eK P aJr 5095 (rV 1125),eK P aJq 5096 (rV 1132),eK P aJp 5097 (rV 1139),eK P aJo 5098 (rV 1146),eK P aJn 5099 (rV 1167),eK P aJm 5100 (rV 1153),eK P aJl 5101 (rV 1174),eK P aHz 5102 (rV 1160)] 9),
(1745,dV y1 [eK P aJt 5113 (sV aDy 5114),eK P aYx 5115 (sV aVx 5116),eK P aY1 5117 (sV aVw 5118),eK P aY0 5119 (sV aVv 5120),eK P aYz 5121 (sV aVu 5122),eK P aSx 5123 (sV aVt 5124),eK P aSw 5125 (sV aQm 5126),eK P aYy 5127 (sV aVs 5128),eK P aSy 5129 (sV aQn 5130)] 9),
(1746,dV y1 [eK P aY6 5141 (rV 1747),eK P aY5 5143 (rV 1748),eK P aJu 5145 (rV 1749),eK P aY4 5147 (rV 1750),eK P aS0 5149 (rV 1751)] 5),
(1747,tU [z 1 5142,.bool true]),
(1748,tU [z 2 5144,.bool true]),
(1749,tU [z 4 5146,.bool false]),
(1750,tU [z 1 5148,.bool false]),
(1751,tU [z 2 5150,.bool false]),
(1752,dV y1 [eK P aY3 5157 (z 1 5158),eK P aY2 5159 (z 2 5160),eK P aSz 5161 (z 4 5162)] 3),
(1753,dV y1 [eK P aZb 5167 (rV 1714),eK P aZa 5168 (rV 1721),eK P aY9 5169 (rV 1118),eK P aY8 5170 (rV 1728),eK P aY7 5171 (rV 1735),eK P aS1 5172 (rV 1742)] 6),
(1754,tU []),
(1755,nV []),
(1756,tU [sV bE5 5183,sV aAf 5184]),
(1757,tU []),
(1758,uV aMm aMm (F p 137)),
(1759,fV y3 [sV aMm 5180,sV aMm 5181,sV q1 5182,cV 575,cV 1,cV 0,cV 0,cV 3,rV 1754,.bool true,cV 181,rV 1755,.none,rV 1756,rV 1757,rV 1758,cV 5185,cV 575,sV q1 5186]),
(1760,kV aMm aMm (F p 137) .none aBy 4967 1759),
(1761,tU []),
(1762,fV y7 [.builtin y8,.type y9]),
(1763,dV y1 [eK P q36 5195 (sV aBy 4967),eK P q38 5197 (sV aPn 5196),eK P q39 5199 (z 590 5198),eK P q40 5210 (rV 1775),eK P aAz 5217 (rV 1782),eK P bAh 5228 (rV 1790),eK P aLs 5237 (rV 1797),eK P aE8 5253 (rV 1804),eK P aGq 5261 (rV 1811),eK P aDb 5273 (rV 1818),eK P aDx 5284 (rV 1825),eK P aU9 5293 (rV 1832),eK P aU8 5307 (rV 1839),eK P aU7 5315 (rV 1846),eK P aU6 5326 (rV 1853),eK P bAg 5344 (rV 1860),eK P bAf 5353 (rV 1867),eK P aU5 5363 (rV 1875),eK P aU4 5373 (rV 1882),eK P bAe 5381 (rV 1889),eK P bAd 5389 (rV 1896),eK P q41 5399 (rV 1897)] 22),
(1764,tU []),
(1765,nV [cV 592,cV 4,rV 1774,cV 603,cV 4,rV 1781,cV 606,cV 4,rV 1789,cV 609,cV 4,rV 1796,cV 613,cV 4,rV 1803,cV 628,cV 4,rV 1810,cV 637,cV 4,rV 1817,cV 647,cV 4,rV 1824,cV 656,cV 4,rV 1831,cV 664,cV 4,rV 1838,cV 686,cV 4,rV 1845,cV 691,cV 4,rV 1852,cV 722,cV 4,rV 1859,cV 739,cV 4,rV 1866,cV 745,cV 4,rV 1874,cV 749,cV 4,rV 1881,cV 765,cV 4,rV 1888,cV 768,cV 4,rV 1895]),
(1766,fV y3 [sV aPn 5190,sV aPn 5191,sV q1 5192,cV 590,cV 0,cV 0,cV 0,cV 0,rV 1764,.bool false,cV 181,rV 1765,.none,.none,.none,.none,cV 5193,cV 590,sV q1 5194]),
(1767,⟨.type y4,none,.plain,⟨[(oV (rV 1766)),(oV (rV 3)),(oV (rV 1763)),none,(oV (sV aBy 4967)),none,(oV (rV 0))]⟩⟩),
(1768,tU [z 0 5200]),
(1769,tU []),
(1770,nV []),
(1771,tU [sV q43 5204,sV aVb 5205,sV aVa 5206,sV bAu 5207]),
(1772,tU []),
(1773,uV q40 bE4 (M p 138 0)),
(1774,fV y3 [sV q40 5201,sV bE4 5202,sV q1 5203,cV 592,cV 4,cV 0,cV 0,cV 3,rV 1769,.bool true,cV 181,rV 1770,.none,rV 1771,rV 1772,rV 1773,cV 5208,cV 592,sV q1 5209]),
(1775,kV q40 bE4 (M p 138 0) (rV 1768) aBy 4967 1774),
(1776,tU []),
(1777,nV []),
(1778,tU [sV q43 5214]),
(1779,tU []),
(1780,uV aAz bE3 (M p 138 1)),
(1781,fV y3 [sV aAz 5211,sV bE3 5212,sV q1 5213,cV 603,cV 1,cV 0,cV 0,cV 3,rV 1776,.bool true,cV 181,rV 1777,.none,rV 1778,rV 1779,rV 1780,cV 5215,cV 603,sV q1 5216]),
(1782,kV aAz bE3 (M p 138 1) .none aBy 4967 1781),
(1783,tU [.none,z 0 4205]),
(1784,tU []),
(1785,nV []),
(1786,tU [sV q43 5221,sV bE2 5222,sV bE1 5223,sV aSc 5224,sV aE9 5225]),
(1787,tU []),
(1788,uV bAh bH2 (M p 138 2)),
(1789,fV y3 [sV bAh 5218,sV bH2 5219,sV q1 5220,cV 606,cV 5,cV 0,cV 0,cV 3,rV 1784,.bool true,cV 181,rV 1785,.none,rV 1786,rV 1787,rV 1788,cV 5226,cV 606,sV q1 5227]),
(1790,kV bAh bH2 (M p 138 2) (rV 1783) aBy 4967 1789),
(1791,tU []),
(1792,nV []),
(1793,tU [sV q43 5232,sV aG1 5233,sV q66 5234]),
(1794,tU []),
(1795,uV aLs bE0 (M p 138 3)),
(1796,fV y3 [sV aLs 5229,sV bE0 5230,sV q1 5231,cV 609,cV 3,cV 0,cV 0,cV 3,rV 1791,.bool true,cV 181,rV 1792,.none,rV 1793,rV 1794,rV 1795,cV 5235,cV 609,sV q1 5236]),
(1797,kV aLs bE0 (M p 138 3) .none aBy 4967 1796),
(1798,tU []),
(1799,nV []),
(1800,tU [sV q43 5241,sV q49 5242,sV aAg 5243,sV bAc 5244,sV aE9 5245,sV bJh 5246,sV bW3 5247,sV aF4 5248,sV bAo 5249,sV bAn 5250]),
(1801,tU []),
(1802,uV aE8 bEz (M p 138 4)),
(1803,fV y3 [sV aE8 5238,sV bEz 5239,sV q1 5240,cV 613,cV 3,cV 0,cV 0,cV 3,rV 1798,.bool true,cV 181,rV 1799,.none,rV 1800,rV 1801,rV 1802,cV 5251,cV 613,sV q1 5252])]
noncomputable def bNf(p:Program)(P:Params):List (Nat×Obj):=[
(1804,kV aE8 bEz (M p 138 4) .none aBy 4967 1803),
(1805,tU []),
(1806,nV []),
(1807,tU [sV q43 5257,sV aE8 5258]),
(1808,tU []),
(1809,uV aGq bEy (M p 138 5)),
(1810,fV y3 [sV aGq 5254,sV bEy 5255,sV q1 5256,cV 628,cV 1,cV 0,cV 0,cV 3,rV 1805,.bool true,cV 181,rV 1806,.none,rV 1807,rV 1808,rV 1809,cV 5259,cV 628,sV q1 5260]),
(1811,kV aGq bEy (M p 138 5) .none aBy 4967 1810),
(1812,tU []),
(1813,nV []),
(1814,tU [sV q43 5265,sV q49 5266,sV aEf 5267,sV bW2 5268,sV aE8 5269,sV q66 5270]),
(1815,tU []),
(1816,uV aDb bEx (M p 138 6)),
(1817,fV y3 [sV aDb 5262,sV bEx 5263,sV q1 5264,cV 637,cV 4,cV 0,cV 0,cV 3,rV 1812,.bool true,cV 181,rV 1813,.none,rV 1814,rV 1815,rV 1816,cV 5271,cV 637,sV q1 5272]),
(1818,kV aDb bEx (M p 138 6) .none aBy 4967 1817),
(1819,tU []),
(1820,nV []),
(1821,tU [sV q43 5277,sV q49 5278,sV aEf 5279,sV q66 5280,sV aE8 5281]),
(1822,tU []),
(1823,uV aDx bH1 (M p 138 7)),
(1824,fV y3 [sV aDx 5274,sV bH1 5275,sV q1 5276,cV 647,cV 4,cV 0,cV 0,cV 3,rV 1819,.bool true,cV 181,rV 1820,.none,rV 1821,rV 1822,rV 1823,cV 5282,cV 647,sV q1 5283]),
(1825,kV aDx bH1 (M p 138 7) .none aBy 4967 1824),
(1826,tU []),
(1827,nV []),
(1828,tU [sV q43 5288,sV q47 5289,sV bOk 5290]),
(1829,tU []),
(1830,uV aU9 bEw (M p 138 8)),
(1831,fV y3 [sV aU9 5285,sV bEw 5286,sV q1 5287,cV 656,cV 2,cV 0,cV 0,cV 3,rV 1826,.bool true,cV 181,rV 1827,.none,rV 1828,rV 1829,rV 1830,cV 5291,cV 656,sV q1 5292]),
(1832,kV aU9 bEw (M p 138 8) .none aBy 4967 1831),
(1833,tU []),
(1834,nV []),
(1835,tU [sV q43 5297,sV q47 5298,sV bOk 5299,sV aAg 5300,sV bW1 5301,sV bE5 5302,sV aE6 5303,sV bA8 5304]),
(1836,tU []),
(1837,uV aU8 bEv (M p 138 9)),
(1838,fV y3 [sV aU8 5294,sV bEv 5295,sV q1 5296,cV 664,cV 2,cV 0,cV 0,cV 3,rV 1833,.bool true,cV 181,rV 1834,.none,rV 1835,rV 1836,rV 1837,cV 5305,cV 664,sV q1 5306]),
(1839,kV aU8 bEv (M p 138 9) .none aBy 4967 1838),
(1840,tU []),
(1841,nV []),
(1842,tU [sV q43 5311,sV q49 5312]),
(1843,tU []),
(1844,uV aU7 bEu (M p 138 10)),
(1845,fV y3 [sV aU7 5308,sV bEu 5309,sV q1 5310,cV 686,cV 2,cV 0,cV 0,cV 3,rV 1840,.bool true,cV 181,rV 1841,.none,rV 1842,rV 1843,rV 1844,cV 5313,cV 686,sV q1 5314]),
(1846,kV aU7 bEu (M p 138 10) .none aBy 4967 1845),
(1847,tU []),
(1848,nV []),
(1849,tU [sV q43 5319,sV bE5 5320,sV q47 5321,sV aAf 5322,sV bW0 5323]),
(1850,tU []),
(1851,uV aU6 bEt (M p 138 11)),
(1852,fV y3 [sV aU6 5316,sV bEt 5317,sV q1 5318,cV 691,cV 3,cV 0,cV 0,cV 3,rV 1847,.bool true,cV 181,rV 1848,.none,rV 1849,rV 1850,rV 1851,cV 5324,cV 691,sV q1 5325]),
(1853,kV aU6 bEt (M p 138 11) .none aBy 4967 1852),
(1854,tU []),
(1855,nV []),
(1856,tU [sV q43 5330,sV bE5 5331,sV q47 5332,sV aAf 5333,sV aG1 5334,sV aZc 5335,sV bWz 5336,sV bOj 5337,sV bWy 5338,sV bWx 5339,sV bFn 5340,sV q66 5341]),
(1857,tU []),
(1858,uV bAg bH0 (M p 138 12)),
(1859,fV y3 [sV bAg 5327,sV bH0 5328,sV q1 5329,cV 722,cV 3,cV 0,cV 0,cV 3,rV 1854,.bool true,cV 181,rV 1855,.none,rV 1856,rV 1857,rV 1858,cV 5342,cV 722,sV q1 5343]),
(1860,kV bAg bH0 (M p 138 12) .none aBy 4967 1859),
(1861,tU []),
(1862,nV []),
(1863,tU [sV q43 5348,sV aAf 5349,sV q47 5350])]
noncomputable def bNe(p:Program)(P:Params):List (Nat×Obj):=[
(1864,tU []),
(1865,uV bAf bHz (M p 138 13)),
(1866,fV y3 [sV bAf 5345,sV bHz 5346,sV q1 5347,cV 739,cV 3,cV 0,cV 0,cV 3,rV 1861,.bool true,cV 181,rV 1862,.none,rV 1863,rV 1864,rV 1865,cV 5351,cV 739,sV q1 5352]),
(1867,kV bAf bHz (M p 138 13) .none aBy 4967 1866),
(1868,tU [z 0 5354]),
(1869,tU []),
(1870,nV []),
(1871,tU [sV q43 5358,sV q65 5359,sV q66 5360]),
(1872,tU []),
(1873,uV aU5 bEs (M p 138 14)),
(1874,fV y3 [sV aU5 5355,sV bEs 5356,sV q1 5357,cV 745,cV 3,cV 0,cV 0,cV 3,rV 1869,.bool true,cV 181,rV 1870,.none,rV 1871,rV 1872,rV 1873,cV 5361,cV 745,sV q1 5362]),
(1875,kV aU5 bEs (M p 138 14) (rV 1868) aBy 4967 1874),
(1876,tU []),
(1877,nV []),
(1878,tU [sV q43 5367,sV bAc 5368,sV q65 5369,sV bWw 5370]),
(1879,tU []),
(1880,uV aU4 bEr (M p 138 15)),
(1881,fV y3 [sV aU4 5364,sV bEr 5365,sV q1 5366,cV 749,cV 1,cV 0,cV 0,cV 3,rV 1876,.bool true,cV 181,rV 1877,.none,rV 1878,rV 1879,rV 1880,cV 5371,cV 749,sV q1 5372]),
(1882,kV aU4 bEr (M p 138 15) .none aBy 4967 1881),
(1883,tU []),
(1884,nV []),
(1885,tU [sV q43 5377,sV bOi 5378]),
(1886,tU []),
(1887,uV bAe bHy (M p 138 16)),
(1888,fV y3 [sV bAe 5374,sV bHy 5375,sV q1 5376,cV 765,cV 2,cV 0,cV 0,cV 3,rV 1883,.bool true,cV 181,rV 1884,.none,rV 1885,rV 1886,rV 1887,cV 5379,cV 765,sV q1 5380]),
(1889,kV bAe bHy (M p 138 16) .none aBy 4967 1888),
(1890,tU []),
(1891,nV []),
(1892,tU [sV q43 5385,sV bOi 5386]),
(1893,tU []),
(1894,uV bAd bHx (M p 138 17)),
(1895,fV y3 [sV bAd 5382,sV bHx 5383,sV q1 5384,cV 768,cV 2,cV 0,cV 0,cV 3,rV 1890,.bool true,cV 181,rV 1891,.none,rV 1892,rV 1893,rV 1894,cV 5387,cV 768,sV q1 5388]),
(1896,kV bAd bHx (M p 138 17) .none aBy 4967 1895),
(1897,tU [sV aVb 5390,sV bAc 5391,sV bHw 5392,sV aVa 5393,sV aE9 5394,sV bE1 5395,sV bE2 5396,sV bEq 5397,sV bHv 5398]),
(1898,dV y1 [eK P q36 5195 (sV aBy 4967),eK P q39 5199 (z 590 5198),eK P q40 5210 (rV 1775),eK P aAz 5217 (rV 1782),eK P bAh 5228 (rV 1790),eK P aLs 5237 (rV 1797),eK P aE8 5253 (rV 1804),eK P aGq 5261 (rV 1811),eK P aDb 5273 (rV 1818),eK P aDx 5284 (rV 1825),eK P aU9 5293 (rV 1832),eK P aU8 5307 (rV 1839),eK P aU7 5315 (rV 1846),eK P aU6 5326 (rV 1853),eK P bAg 5344 (rV 1860),eK P bAf 5353 (rV 1867),eK P aU5 5363 (rV 1875),eK P aU4 5373 (rV 1882),eK P bAe 5381 (rV 1889),eK P bAd 5389 (rV 1896),eK P q41 5399 (rV 1897),eK P aFi 5401 (rV 1900),eK P q46 5403 (rV 1901),eK P q5 5404 .none] 4),
(1899,⟨.type y9,none,.cls ⟨aPn,[.type y12],[rV 1899,.type y12],1898,aPn,true,[],[],false,none,false⟩,⟨[none,none,(oV (sV aPn 5188)),(oV (sV aPn 5196)),(oV (.builtin y18)),(oV (.bool true))]⟩⟩),
(1900,fV y14 [sV aFi 5400,rV 1899,.builtin y19,.builtin y20]),
(1901,fV y14 [sV q46 5402,rV 1899,.builtin y15,.none]),
(1902,fV y16 [rV 1899,rV 1899,rV 1899]),
(1903,fV y7 [.builtin y17,rV 1899]),
(1904,tU [z 1 5421,z 2 5422,z 4 5423]),
(1905,tU []),
(1906,nV []),
(1907,tU [sV aEf 5428]),
(1908,tU []),
(1909,uV aMl aMl (F p 144)),
(1910,fV y3 [sV aMl 5425,sV aMl 5426,sV q1 5427,cV 775,cV 1,cV 0,cV 0,cV 3,rV 1905,.bool true,cV 181,rV 1906,.none,rV 1907,rV 1908,rV 1909,cV 5429,cV 775,sV q1 5430]),
(1911,kV aMl aMl (F p 144) .none aBc 5407 1910),
(1912,tU []),
(1913,nV []),
(1914,tU [sV aJj 5435,sV aMg 5436]),
(1915,tU []),
(1916,uV aMk aMk (F p 145)),
(1917,fV y3 [sV aMk 5432,sV aMk 5433,sV q1 5434,cV 778,cV 2,cV 0,cV 0,cV 3,rV 1912,.bool true,cV 181,rV 1913,.none,rV 1914,rV 1915,rV 1916,cV 5437,cV 778,sV q1 5438]),
(1918,kV aMk aMk (F p 145) .none aBc 5407 1917),
(1919,tU []),
(1920,fV y7 [.builtin y8,.type y9]),
(1921,dV y1 [eK P q36 5447 (sV aBc 5407),eK P q38 5449 (sV aPm 5448),eK P q39 5451 (z 781 5450),eK P q40 5461 (rV 1933),eK P bAb 5470 (rV 1940),eK P aJk 5479 (rV 1947),eK P aU3 5488 (rV 1954),eK P q47 5496 (rV 1961),eK P aU2 5505 (rV 1968),eK P aU1 5514 (rV 1975),eK P bAa 5522 (rV 1982),eK P aZ9 5531 (rV 1989),eK P aSb 5539 (rV 1996),eK P aZ8 5548 (rV 2003),eK P aZ7 5560 (rV 2010),eK P aU0 5569 (rV 2017),eK P aLs 5579 (rV 2024),eK P aDb 5593 (rV 2031),eK P aDx 5608 (rV 2038),eK P aUz 5620 (rV 2045),eK P aZ6 5630 (rV 2052),eK P aZ5 5640 (rV 2059),eK P aZ4 5647 (rV 2066),eK P aYs 5653 (rV 2071),eK P aZ3 5660 (rV 2078),eK P aZ2 5668 (rV 2085),eK P q41 5673 (rV 2086)] 27),
(1922,tU []),
(1923,nV [cV 783,cV 4,rV 1932,cV 790,cV 4,rV 1939,cV 793,cV 4,rV 1946,cV 797,cV 4,rV 1953,cV 801,cV 4,rV 1960,cV 805,cV 4,rV 1967,cV 809,cV 4,rV 1974,cV 815,cV 4,rV 1981,cV 819,cV 4,rV 1988,cV 823,cV 4,rV 1995,cV 827,cV 4,rV 2002,cV 831,cV 4,rV 2009,cV 836,cV 4,rV 2016,cV 844,cV 4,rV 2023,cV 853,cV 4,rV 2030,cV 864,cV 4,rV 2037,cV 879,cV 4,rV 2044,cV 890,cV 4,rV 2051,cV 893,cV 4,rV 2058,cV 896,cV 4,rV 2065,cV 899,cV 4,rV 2070,cV 902,cV 4,rV 2077,cV 905,cV 4,rV 2084])]
noncomputable def bD4(p:Program)(P:Params):List (Nat×Obj):=[
(1924,fV y3 [sV aPm 5442,sV aPm 5443,sV q1 5444,cV 781,cV 0,cV 0,cV 0,cV 0,rV 1922,.bool false,cV 181,rV 1923,.none,.none,.none,.none,cV 5445,cV 781,sV q1 5446]),
(1925,⟨.type y4,none,.plain,⟨[(oV (rV 1924)),(oV (rV 3)),(oV (rV 1921)),none,(oV (sV aBc 5407)),none,(oV (rV 0))]⟩⟩),
(1926,tU [z 0 5452]),
(1927,tU []),
(1928,nV []),
(1929,tU [sV q43 5456,sV aEf 5457,sV aJj 5458]),
(1930,tU []),
(1931,uV q40 bEp (M p 146 0)),
(1932,fV y3 [sV q40 5453,sV bEp 5454,sV q1 5455,cV 783,cV 3,cV 0,cV 0,cV 3,rV 1927,.bool true,cV 181,rV 1928,.none,rV 1929,rV 1930,rV 1931,cV 5459,cV 783,sV q1 5460]),
(1933,kV q40 bEp (M p 146 0) (rV 1926) aBc 5407 1932),
(1934,tU []),
(1935,nV []),
(1936,tU [sV q43 5465,sV q49 5466,sV aQi 5467]),
(1937,tU []),
(1938,uV bAb bHu (M p 146 1)),
(1939,fV y3 [sV bAb 5462,sV bHu 5463,sV q1 5464,cV 790,cV 3,cV 0,cV 0,cV 3,rV 1934,.bool true,cV 181,rV 1935,.none,rV 1936,rV 1937,rV 1938,cV 5468,cV 790,sV q1 5469]),
(1940,kV bAb bHu (M p 146 1) .none aBc 5407 1939),
(1941,tU []),
(1942,nV []),
(1943,tU [sV q43 5474,sV q49 5475,sV aQi 5476]),
(1944,tU []),
(1945,uV aJk bEo (M p 146 2)),
(1946,fV y3 [sV aJk 5471,sV bEo 5472,sV q1 5473,cV 793,cV 3,cV 0,cV 0,cV 3,rV 1941,.bool true,cV 181,rV 1942,.none,rV 1943,rV 1944,rV 1945,cV 5477,cV 793,sV q1 5478]),
(1947,kV aJk bEo (M p 146 2) .none aBc 5407 1946),
(1948,tU []),
(1949,nV []),
(1950,tU [sV q43 5483,sV q49 5484,sV aEf 5485]),
(1951,tU []),
(1952,uV aU3 bEn (M p 146 3)),
(1953,fV y3 [sV aU3 5480,sV bEn 5481,sV q1 5482,cV 797,cV 3,cV 0,cV 0,cV 3,rV 1948,.bool true,cV 181,rV 1949,.none,rV 1950,rV 1951,rV 1952,cV 5486,cV 797,sV q1 5487]),
(1954,kV aU3 bEn (M p 146 3) .none aBc 5407 1953),
(1955,tU []),
(1956,nV []),
(1957,tU [sV q43 5492,sV q49 5493]),
(1958,tU []),
(1959,uV q47 bEm (M p 146 4)),
(1960,fV y3 [sV q47 5489,sV bEm 5490,sV q1 5491,cV 801,cV 2,cV 0,cV 0,cV 3,rV 1955,.bool true,cV 181,rV 1956,.none,rV 1957,rV 1958,rV 1959,cV 5494,cV 801,sV q1 5495]),
(1961,kV q47 bEm (M p 146 4) .none aBc 5407 1960),
(1962,tU []),
(1963,nV []),
(1964,tU [sV q43 5500,sV q49 5501,sV q66 5502]),
(1965,tU []),
(1966,uV aU2 bEl (M p 146 5)),
(1967,fV y3 [sV aU2 5497,sV bEl 5498,sV q1 5499,cV 805,cV 3,cV 0,cV 0,cV 3,rV 1962,.bool true,cV 181,rV 1963,.none,rV 1964,rV 1965,rV 1966,cV 5503,cV 805,sV q1 5504]),
(1968,kV aU2 bEl (M p 146 5) .none aBc 5407 1967),
(1969,tU []),
(1970,nV []),
(1971,tU [sV q43 5509,sV bWv 5510,sV q66 5511]),
(1972,tU []),
(1973,uV aU1 bEk (M p 146 6)),
(1974,fV y3 [sV aU1 5506,sV bEk 5507,sV q1 5508,cV 809,cV 3,cV 0,cV 0,cV 3,rV 1969,.bool true,cV 181,rV 1970,.none,rV 1971,rV 1972,rV 1973,cV 5512,cV 809,sV q1 5513]),
(1975,kV aU1 bEk (M p 146 6) .none aBc 5407 1974),
(1976,tU []),
(1977,nV []),
(1978,tU [sV q43 5518,sV q49 5519]),
(1979,tU []),
(1980,uV bAa bHt (M p 146 7)),
(1981,fV y3 [sV bAa 5515,sV bHt 5516,sV q1 5517,cV 815,cV 2,cV 0,cV 0,cV 3,rV 1976,.bool true,cV 181,rV 1977,.none,rV 1978,rV 1979,rV 1980,cV 5520,cV 815,sV q1 5521]),
(1982,kV bAa bHt (M p 146 7) .none aBc 5407 1981),
(1983,tU [])]
noncomputable def bD3(p:Program)(P:Params):List (Nat×Obj):=[
(1984,nV []),
(1985,tU [sV q43 5526,sV q49 5527,sV q66 5528]),
(1986,tU []),
(1987,uV aZ9 bHs (M p 146 8)),
(1988,fV y3 [sV aZ9 5523,sV bHs 5524,sV q1 5525,cV 819,cV 3,cV 0,cV 0,cV 3,rV 1983,.bool true,cV 181,rV 1984,.none,rV 1985,rV 1986,rV 1987,cV 5529,cV 819,sV q1 5530]),
(1989,kV aZ9 bHs (M p 146 8) .none aBc 5407 1988),
(1990,tU []),
(1991,nV []),
(1992,tU [sV q43 5535,sV q49 5536]),
(1993,tU []),
(1994,uV aSb bHr (M p 146 9)),
(1995,fV y3 [sV aSb 5532,sV bHr 5533,sV q1 5534,cV 823,cV 2,cV 0,cV 0,cV 3,rV 1990,.bool true,cV 181,rV 1991,.none,rV 1992,rV 1993,rV 1994,cV 5537,cV 823,sV q1 5538]),
(1996,kV aSb bHr (M p 146 9) .none aBc 5407 1995),
(1997,tU []),
(1998,nV []),
(1999,tU [sV q43 5543,sV q49 5544,sV q66 5545]),
(2000,tU []),
(2001,uV aZ8 bHq (M p 146 10)),
(2002,fV y3 [sV aZ8 5540,sV bHq 5541,sV q1 5542,cV 827,cV 3,cV 0,cV 0,cV 3,rV 1997,.bool true,cV 181,rV 1998,.none,rV 1999,rV 2000,rV 2001,cV 5546,cV 827,sV q1 5547]),
(2003,kV aZ8 bHq (M p 146 10) .none aBc 5407 2002),
(2004,tU []),
(2005,nV []),
(2006,tU [sV q43 5552,sV q49 5553,sV bWu 5554,sV q66 5555,sV aA0 5556,sV bFn 5557]),
(2007,tU []),
(2008,uV aZ7 bHp (M p 146 11)),
(2009,fV y3 [sV aZ7 5549,sV bHp 5550,sV q1 5551,cV 831,cV 4,cV 0,cV 0,cV 3,rV 2004,.bool true,cV 181,rV 2005,.none,rV 2006,rV 2007,rV 2008,cV 5558,cV 831,sV q1 5559]),
(2010,kV aZ7 bHp (M p 146 11) .none aBc 5407 2009),
(2011,tU []),
(2012,nV []),
(2013,tU [sV q43 5564,sV q49 5565,sV aEf 5566]),
(2014,tU []),
(2015,uV aU0 bEj (M p 146 12)),
(2016,fV y3 [sV aU0 5561,sV bEj 5562,sV q1 5563,cV 836,cV 3,cV 0,cV 0,cV 3,rV 2011,.bool true,cV 181,rV 2012,.none,rV 2013,rV 2014,rV 2015,cV 5567,cV 836,sV q1 5568]),
(2017,kV aU0 bEj (M p 146 12) .none aBc 5407 2016),
(2018,tU []),
(2019,nV []),
(2020,tU [sV q43 5573,sV q49 5574,sV aEf 5575,sV q66 5576]),
(2021,tU []),
(2022,uV aLs bHo (M p 146 13)),
(2023,fV y3 [sV aLs 5570,sV bHo 5571,sV q1 5572,cV 844,cV 4,cV 0,cV 0,cV 3,rV 2018,.bool true,cV 181,rV 2019,.none,rV 2020,rV 2021,rV 2022,cV 5577,cV 844,sV q1 5578]),
(2024,kV aLs bHo (M p 146 13) .none aBc 5407 2023),
(2025,tU []),
(2026,nV []),
(2027,tU [sV q43 5583,sV q49 5584,sV aQi 5585,sV aF4 5586,sV aE8 5587,sV aMg 5588,sV q47 5589,sV aH8 5590]),
(2028,tU []),
(2029,uV aDb bHn (M p 146 14)),
(2030,fV y3 [sV aDb 5580,sV bHn 5581,sV q1 5582,cV 853,cV 3,cV 0,cV 0,cV 3,rV 2025,.bool true,cV 181,rV 2026,.none,rV 2027,rV 2028,rV 2029,cV 5591,cV 853,sV q1 5592]),
(2031,kV aDb bHn (M p 146 14) .none aBc 5407 2030),
(2032,tU []),
(2033,nV []),
(2034,tU [sV q43 5597,sV q49 5598,sV bHm 5599,sV aE8 5600,sV aSa 5601,sV aMg 5602,sV aEf 5603,sV q66 5604,sV aSb 5605]),
(2035,tU []),
(2036,uV aDx bHl (M p 146 15)),
(2037,fV y3 [sV aDx 5594,sV bHl 5595,sV q1 5596,cV 864,cV 3,cV 0,cV 0,cV 3,rV 2032,.bool true,cV 181,rV 2033,.none,rV 2034,rV 2035,rV 2036,cV 5606,cV 864,sV q1 5607]),
(2038,kV aDx bHl (M p 146 15) .none aBc 5407 2037),
(2039,tU []),
(2040,nV []),
(2041,tU [sV q43 5612,sV q49 5613,sV aQi 5614,sV aE8 5615,sV aMg 5616,sV aEf 5617]),
(2042,tU []),
(2043,uV aUz bEi (M p 146 16))]
noncomputable def bD2(p:Program)(P:Params):List (Nat×Obj):=[
(2044,fV y3 [sV aUz 5609,sV bEi 5610,sV q1 5611,cV 879,cV 3,cV 0,cV 0,cV 3,rV 2039,.bool true,cV 181,rV 2040,.none,rV 2041,rV 2042,rV 2043,cV 5618,cV 879,sV q1 5619]),
(2045,kV aUz bEi (M p 146 16) .none aBc 5407 2044),
(2046,tU []),
(2047,nV []),
(2048,tU [sV q43 5624,sV q49 5625,sV aQi 5626,sV aSb 5627]),
(2049,tU []),
(2050,uV aZ6 bHk (M p 146 17)),
(2051,fV y3 [sV aZ6 5621,sV bHk 5622,sV q1 5623,cV 890,cV 4,cV 0,cV 0,cV 3,rV 2046,.bool true,cV 181,rV 2047,.none,rV 2048,rV 2049,rV 2050,cV 5628,cV 890,sV q1 5629]),
(2052,kV aZ6 bHk (M p 146 17) .none aBc 5407 2051),
(2053,tU []),
(2054,nV []),
(2055,tU [sV q43 5634,sV bOj 5635,sV bWt 5636,sV aQi 5637]),
(2056,tU []),
(2057,uV aZ5 bHj (M p 146 18)),
(2058,fV y3 [sV aZ5 5631,sV bHj 5632,sV q1 5633,cV 893,cV 4,cV 0,cV 0,cV 3,rV 2053,.bool true,cV 181,rV 2054,.none,rV 2055,rV 2056,rV 2057,cV 5638,cV 893,sV q1 5639]),
(2059,kV aZ5 bHj (M p 146 18) .none aBc 5407 2058),
(2060,tU []),
(2061,nV []),
(2062,tU [sV q43 5644]),
(2063,tU []),
(2064,uV aZ4 bHi (M p 146 19)),
(2065,fV y3 [sV aZ4 5641,sV bHi 5642,sV q1 5643,cV 896,cV 1,cV 0,cV 0,cV 3,rV 2060,.bool true,cV 181,rV 2061,.none,rV 2062,rV 2063,rV 2064,cV 5645,cV 896,sV q1 5646]),
(2066,kV aZ4 bHi (M p 146 19) .none aBc 5407 2065),
(2067,tU []),
(2068,nV []),
(2069,uV aYs bHh (M p 146 20)),
(2070,fV y3 [sV aYs 5648,sV bHh 5649,sV q1 5650,cV 899,cV 1,cV 0,cV 0,cV 3,rV 2067,.bool true,cV 181,rV 2068,.none,.none,.none,rV 2069,cV 5651,cV 899,sV q1 5652]),
(2071,kV aYs bHh (M p 146 20) .none aBc 5407 2070),
(2072,tU []),
(2073,nV []),
(2074,tU [sV q43 5657]),
(2075,tU []),
(2076,uV aZ3 bHg (M p 146 21)),
(2077,fV y3 [sV aZ3 5654,sV bHg 5655,sV q1 5656,cV 902,cV 1,cV 0,cV 0,cV 3,rV 2072,.bool true,cV 181,rV 2073,.none,rV 2074,rV 2075,rV 2076,cV 5658,cV 902,sV q1 5659]),
(2078,kV aZ3 bHg (M p 146 21) .none aBc 5407 2077),
(2079,tU []),
(2080,nV []),
(2081,tU [sV q43 5664,sV aE5 5665]),
(2082,tU []),
(2083,uV aZ2 bHf (M p 146 22)),
(2084,fV y3 [sV aZ2 5661,sV bHf 5662,sV q1 5663,cV 905,cV 2,cV 0,cV 0,cV 3,rV 2079,.bool true,cV 181,rV 2080,.none,rV 2081,rV 2082,rV 2083,cV 5666,cV 905,sV q1 5667]),
(2085,kV aZ2 bHf (M p 146 22) .none aBc 5407 2084),
(2086,tU [sV aJj 5669,sV aMg 5670,sV aEf 5671,sV bHe 5672]),
(2087,dV y1 [eK P q36 5447 (sV aBc 5407),eK P q39 5451 (z 781 5450),eK P q40 5461 (rV 1933),eK P bAb 5470 (rV 1940),eK P aJk 5479 (rV 1947),eK P aU3 5488 (rV 1954),eK P q47 5496 (rV 1961),eK P aU2 5505 (rV 1968),eK P aU1 5514 (rV 1975),eK P bAa 5522 (rV 1982),eK P aZ9 5531 (rV 1989),eK P aSb 5539 (rV 1996),eK P aZ8 5548 (rV 2003),eK P aZ7 5560 (rV 2010),eK P aU0 5569 (rV 2017),eK P aLs 5579 (rV 2024),eK P aDb 5593 (rV 2031),eK P aDx 5608 (rV 2038),eK P aUz 5620 (rV 2045),eK P aZ6 5630 (rV 2052),eK P aZ5 5640 (rV 2059),eK P aZ4 5647 (rV 2066),eK P aYs 5653 (rV 2071),eK P aZ3 5660 (rV 2078),eK P aZ2 5668 (rV 2085),eK P q41 5673 (rV 2086),eK P aFi 5675 (rV 2089),eK P q46 5677 (rV 2090),eK P q5 5678 .none] 4),
(2088,⟨.type y9,none,.cls ⟨aPm,[.type y12],[rV 2088,.type y12],2087,aPm,true,[],[],false,none,false⟩,⟨[none,none,(oV (sV aPm 5440)),(oV (sV aPm 5448)),(oV (.builtin y18)),(oV (.bool true))]⟩⟩),
(2089,fV y14 [sV aFi 5674,rV 2088,.builtin y19,.builtin y20]),
(2090,fV y14 [sV q46 5676,rV 2088,.builtin y15,.none]),
(2091,fV y16 [rV 2088,rV 2088,rV 2088]),
(2092,fV y7 [.builtin y17,rV 2088]),
(2093,tU []),
(2094,fV y7 [.builtin y8,.type y9]),
(2095,dV y1 [eK P q36 5688 (sV aBc 5407),eK P q38 5690 (sV aPl 5689),eK P q39 5692 (z 907 5691),eK P q40 5700 (rV 2106),eK P aEf 5707 (rV 2113),eK P aDb 5718 (rV 2120),eK P aDx 5728 (rV 2127),eK P q41 5730 (rV 2128)] 8),
(2096,tU []),
(2097,nV [cV 909,cV 4,rV 2105,cV 912,cV 4,rV 2112,cV 915,cV 4,rV 2119,cV 921,cV 4,rV 2126]),
(2098,fV y3 [sV aPl 5683,sV aPl 5684,sV q1 5685,cV 907,cV 0,cV 0,cV 0,cV 0,rV 2096,.bool false,cV 181,rV 2097,.none,.none,.none,.none,cV 5686,cV 907,sV q1 5687]),
(2099,⟨.type y4,none,.plain,⟨[(oV (rV 2098)),(oV (rV 3)),(oV (rV 2095)),none,(oV (sV aBc 5407)),none,(oV (rV 0))]⟩⟩),
(2100,tU []),
(2101,nV []),
(2102,tU [sV q43 5696,sV bHm 5697]),
(2103,tU [])]
noncomputable def bD1(p:Program)(P:Params):List (Nat×Obj):=[
(2104,uV q40 bHd (M p 147 0)),
(2105,fV y3 [sV q40 5693,sV bHd 5694,sV q1 5695,cV 909,cV 2,cV 0,cV 0,cV 3,rV 2100,.bool true,cV 181,rV 2101,.none,rV 2102,rV 2103,rV 2104,cV 5698,cV 909,sV q1 5699]),
(2106,kV q40 bHd (M p 147 0) .none aBc 5407 2105),
(2107,tU []),
(2108,nV []),
(2109,tU [sV q43 5704]),
(2110,tU []),
(2111,uV aEf bHc (M p 147 1)),
(2112,fV y3 [sV aEf 5701,sV bHc 5702,sV q1 5703,cV 912,cV 1,cV 0,cV 0,cV 3,rV 2107,.bool true,cV 181,rV 2108,.none,rV 2109,rV 2110,rV 2111,cV 5705,cV 912,sV q1 5706]),
(2113,kV aEf bHc (M p 147 1) .none aBc 5407 2112),
(2114,tU []),
(2115,nV []),
(2116,tU [sV q43 5711,sV bIf 5712,sV aEf 5713,sV q66 5714,sV aSb 5715]),
(2117,tU []),
(2118,uV aDb bHb (M p 147 2)),
(2119,fV y3 [sV aDb 5708,sV bHb 5709,sV q1 5710,cV 915,cV 3,cV 0,cV 0,cV 3,rV 2114,.bool true,cV 181,rV 2115,.none,rV 2116,rV 2117,rV 2118,cV 5716,cV 915,sV q1 5717]),
(2120,kV aDb bHb (M p 147 2) .none aBc 5407 2119),
(2121,tU []),
(2122,nV []),
(2123,tU [sV q43 5722,sV bIf 5723,sV aEf 5724,sV q66 5725]),
(2124,tU []),
(2125,uV aDx bHa (M p 147 3)),
(2126,fV y3 [sV aDx 5719,sV bHa 5720,sV q1 5721,cV 921,cV 4,cV 0,cV 0,cV 3,rV 2121,.bool true,cV 181,rV 2122,.none,rV 2123,rV 2124,rV 2125,cV 5726,cV 921,sV q1 5727]),
(2127,kV aDx bHa (M p 147 3) .none aBc 5407 2126),
(2128,tU [sV bHm 5729]),
(2129,dV y1 [eK P q36 5688 (sV aBc 5407),eK P q39 5692 (z 907 5691),eK P q40 5700 (rV 2106),eK P aEf 5707 (rV 2113),eK P aDb 5718 (rV 2120),eK P aDx 5728 (rV 2127),eK P q41 5730 (rV 2128),eK P aFi 5732 (rV 2131),eK P q46 5734 (rV 2132),eK P q5 5735 .none] 4),
(2130,⟨.type y9,none,.cls ⟨aPl,[.type y12],[rV 2130,.type y12],2129,aPl,true,[],[],false,none,false⟩,⟨[none,none,(oV (sV aPl 5681)),(oV (sV aPl 5689)),(oV (.builtin y18)),(oV (.bool true))]⟩⟩),
(2131,fV y14 [sV aFi 5731,rV 2130,.builtin y19,.builtin y20]),
(2132,fV y14 [sV q46 5733,rV 2130,.builtin y15,.none]),
(2133,fV y16 [rV 2130,rV 2130,rV 2130]),
(2134,fV y7 [.builtin y17,rV 2130]),
(2135,tU []),
(2136,fV y7 [.builtin y8,.type y9]),
(2137,dV y1 [eK P q36 5745 (sV aBc 5407),eK P q38 5747 (sV aPk 5746),eK P q39 5749 (z 923 5748),eK P q40 5757 (rV 2148),eK P aZ1 5767 (rV 2155),eK P aUy 5777 (rV 2162),eK P aDb 5790 (rV 2170),eK P aDx 5804 (rV 2178),eK P aGq 5814 (rV 2185),eK P aZ0 5823 (rV 2192),eK P q41 5826 (rV 2193)] 11),
(2138,tU []),
(2139,nV [cV 925,cV 4,rV 2147,cV 929,cV 4,rV 2154,cV 932,cV 4,rV 2161,cV 938,cV 4,rV 2169,cV 953,cV 4,rV 2177,cV 969,cV 4,rV 2184,cV 980,cV 4,rV 2191]),
(2140,fV y3 [sV aPk 5740,sV aPk 5741,sV q1 5742,cV 923,cV 0,cV 0,cV 0,cV 0,rV 2138,.bool false,cV 181,rV 2139,.none,.none,.none,.none,cV 5743,cV 923,sV q1 5744]),
(2141,⟨.type y4,none,.plain,⟨[(oV (rV 2140)),(oV (rV 3)),(oV (rV 2137)),none,(oV (sV aBc 5407)),none,(oV (rV 0))]⟩⟩),
(2142,tU []),
(2143,nV []),
(2144,tU [sV q43 5753,sV aKu 5754]),
(2145,tU []),
(2146,uV q40 bEh (M p 148 0)),
(2147,fV y3 [sV q40 5750,sV bEh 5751,sV q1 5752,cV 925,cV 2,cV 0,cV 0,cV 3,rV 2142,.bool true,cV 181,rV 2143,.none,rV 2144,rV 2145,rV 2146,cV 5755,cV 925,sV q1 5756]),
(2148,kV q40 bEh (M p 148 0) .none aBc 5407 2147),
(2149,tU []),
(2150,nV []),
(2151,tU [sV q43 5761,sV aJj 5762,sV aMg 5763,sV bWs 5764]),
(2152,tU []),
(2153,uV aZ1 bG9 (M p 148 1)),
(2154,fV y3 [sV aZ1 5758,sV bG9 5759,sV q1 5760,cV 929,cV 4,cV 0,cV 0,cV 3,rV 2149,.bool true,cV 181,rV 2150,.none,rV 2151,rV 2152,rV 2153,cV 5765,cV 929,sV q1 5766]),
(2155,kV aZ1 bG9 (M p 148 1) .none aBc 5407 2154),
(2156,tU []),
(2157,nV []),
(2158,tU [sV q43 5771,sV q49 5772,sV aEf 5773,sV bEg 5774]),
(2159,tU []),
(2160,uV aUy bEf (M p 148 2)),
(2161,fV y3 [sV aUy 5768,sV bEf 5769,sV q1 5770,cV 932,cV 3,cV 0,cV 0,cV 3,rV 2156,.bool true,cV 181,rV 2157,.none,rV 2158,rV 2159,rV 2160,cV 5775,cV 932,sV q1 5776]),
(2162,kV aUy bEf (M p 148 2) .none aBc 5407 2161),
(2163,tU [z 5 312])]
noncomputable def bD0(p:Program)(P:Params):List (Nat×Obj):=[
(2164,tU []),
(2165,nV []),
(2166,tU [sV q43 5782,sV q49 5783,sV aEf 5784,sV q65 5785,sV aKu 5786,sV bEg 5787]),
(2167,tU []),
(2168,uV aDb bEe (M p 148 3)),
(2169,fV y3 [sV aDb 5779,sV bEe 5780,sV q1 5781,cV 938,cV 4,cV 0,cV 0,cV 3,rV 2164,.bool true,cV 181,rV 2165,.none,rV 2166,rV 2167,rV 2168,cV 5788,cV 938,sV q1 5789]),
(2170,kV aDb bEe (M p 148 3) (rV 2163) aBc 5407 2169),
(2171,tU [z 7 316]),
(2172,tU []),
(2173,nV []),
(2174,tU [sV q43 5795,sV q49 5796,sV aEf 5797,sV q66 5798,sV q65 5799,sV aKu 5800,sV bEg 5801]),
(2175,tU []),
(2176,uV aDx bG8 (M p 148 4)),
(2177,fV y3 [sV aDx 5792,sV bG8 5793,sV q1 5794,cV 953,cV 5,cV 0,cV 0,cV 3,rV 2172,.bool true,cV 181,rV 2173,.none,rV 2174,rV 2175,rV 2176,cV 5802,cV 953,sV q1 5803]),
(2178,kV aDx bG8 (M p 148 4) (rV 2171) aBc 5407 2177),
(2179,tU []),
(2180,nV []),
(2181,tU [sV q43 5808,sV q49 5809,sV aKu 5810,sV bEg 5811]),
(2182,tU []),
(2183,uV aGq bEd (M p 148 5)),
(2184,fV y3 [sV aGq 5805,sV bEd 5806,sV q1 5807,cV 969,cV 2,cV 0,cV 0,cV 3,rV 2179,.bool true,cV 181,rV 2180,.none,rV 2181,rV 2182,rV 2183,cV 5812,cV 969,sV q1 5813]),
(2185,kV aGq bEd (M p 148 5) .none aBc 5407 2184),
(2186,tU []),
(2187,nV []),
(2188,tU [sV q43 5818,sV q49 5819,sV aEf 5820]),
(2189,tU []),
(2190,uV aZ0 bG7 (M p 148 6)),
(2191,fV y3 [sV aZ0 5815,sV bG7 5816,sV q1 5817,cV 980,cV 3,cV 0,cV 0,cV 3,rV 2186,.bool true,cV 181,rV 2187,.none,rV 2188,rV 2189,rV 2190,cV 5821,cV 980,sV q1 5822]),
(2192,kV aZ0 bG7 (M p 148 6) .none aBc 5407 2191),
(2193,tU [sV aKu 5824,sV bG6 5825]),
(2194,dV y1 [eK P q36 5745 (sV aBc 5407),eK P q39 5749 (z 923 5748),eK P q40 5757 (rV 2148),eK P aZ1 5767 (rV 2155),eK P aUy 5777 (rV 2162),eK P aDb 5790 (rV 2170),eK P aDx 5804 (rV 2178),eK P aGq 5814 (rV 2185),eK P aZ0 5823 (rV 2192),eK P q41 5826 (rV 2193),eK P aFi 5828 (rV 2196),eK P q46 5830 (rV 2197),eK P q5 5831 .none] 4),
(2195,⟨.type y9,none,.cls ⟨aPk,[.type y12],[rV 2195,.type y12],2194,aPk,true,[],[],false,none,false⟩,⟨[none,none,(oV (sV aPk 5738)),(oV (sV aPk 5746)),(oV (.builtin y18)),(oV (.bool true))]⟩⟩),
(2196,fV y14 [sV aFi 5827,rV 2195,.builtin y19,.builtin y20]),
(2197,fV y14 [sV q46 5829,rV 2195,.builtin y15,.none]),
(2198,fV y16 [rV 2195,rV 2195,rV 2195]),
(2199,fV y7 [.builtin y17,rV 2195]),
(2200,tU []),
(2201,nV []),
(2202,tU [sV aB7 5839,sV aQh 5840,sV aQg 5841,sV aLr 5842]),
(2203,tU []),
(2204,uV aE4 aE4 (F p 150)),
(2205,fV y3 [sV aE4 5836,sV aE4 5837,sV q1 5838,cV 983,cV 1,cV 0,cV 0,cV 3,rV 2200,.bool true,cV 181,rV 2201,.none,rV 2202,rV 2203,rV 2204,cV 5843,cV 983,sV q1 5844]),
(2206,kV aE4 aE4 (F p 150) .none aKw 5834 2205),
(2207,tU []),
(2208,nV []),
(2209,tU [sV aGp 5849,sV bWr 5850,sV bWq 5851,sV bWp 5852]),
(2210,tU []),
(2211,uV aMj aMj (F p 151)),
(2212,fV y3 [sV aMj 5846,sV aMj 5847,sV q1 5848,cV 990,cV 2,cV 0,cV 0,cV 3,rV 2207,.bool true,cV 181,rV 2208,.none,rV 2209,rV 2210,rV 2211,cV 5853,cV 990,sV q1 5854]),
(2213,kV aMj aMj (F p 151) .none aKw 5834 2212),
(2214,tU []),
(2215,nV []),
(2216,tU [sV aGp 5859,sV aJj 5860,sV bFp 5861,sV bWo 5862,sV bWn 5863,sV aE8 5864,sV bOh 5865,sV aYt 5866]),
(2217,tU []),
(2218,uV aMi aMi (F p 152)),
(2219,fV y3 [sV aMi 5856,sV aMi 5857,sV q1 5858,cV 999,cV 3,cV 0,cV 0,cV 3,rV 2214,.bool true,cV 181,rV 2215,.none,rV 2216,rV 2217,rV 2218,cV 5867,cV 999,sV q1 5868]),
(2220,kV aMi aMi (F p 152) .none aKw 5834 2219),
(2221,tU []),
(2222,nV []),
(2223,uV aHy aHy (F p 153))]
noncomputable def bDz(p:Program)(P:Params):List (Nat×Obj):=[
(2224,fV y3 [sV aHy 5870,sV aHy 5871,sV q1 5872,cV 1011,cV 1,cV 0,cV 0,cV 3,rV 2221,.bool true,cV 181,rV 2222,.none,.none,.none,rV 2223,cV 5873,cV 1011,sV q1 5874]),
(2225,kV aHy aHy (F p 153) .none aKw 5834 2224),
(2226,tU []),
(2227,nV []),
(2228,tU [sV bAt 5879,sV aE9 5880,sV bWm 5881]),
(2229,tU []),
(2230,uV aMh aMh (F p 154)),
(2231,fV y3 [sV aMh 5876,sV aMh 5877,sV q1 5878,cV 1014,cV 2,cV 0,cV 0,cV 3,rV 2226,.bool true,cV 181,rV 2227,.none,rV 2228,rV 2229,rV 2230,cV 5882,cV 1014,sV q1 5883]),
(2232,kV aMh aMh (F p 154) .none aKw 5834 2231),
(2233,tU []),
(2234,nV []),
(2235,uV aCt aCt (F p 155)),
(2236,fV y3 [sV aCt 5885,sV aCt 5886,sV q1 5887,cV 1017,cV 1,cV 0,cV 0,cV 3,rV 2233,.bool true,cV 181,rV 2234,.none,.none,.none,rV 2235,cV 5888,cV 1017,sV q1 5889]),
(2237,kV aCt aCt (F p 155) .none aKw 5834 2236)]
noncomputable def D16(p:Program)(P:Params):List (Nat×Obj):=apL (bNn p P) (apL (bNm p P) (apL (bNl p P) (apL (bNk p P) (apL (bNj p P) (apL (bNi p P) (apL (bNh p P) (apL (bNg p P) (apL (bNf p P) (apL (bNe p P) (apL (bD4 p P) (apL (bD3 p P) (apL (bD2 p P) (apL (bD1 p P) (apL (bD0 p P) (bDz p P)))))))))))))))
noncomputable def T16(p:Program)(P:Params):BT:=aDc (T15 p P) (D16 p P)
noncomputable def S16(p:Program)(w:World)(os:OsState):SharedT:=⟨T16 p w.params,2238,aBk,#[],boot_drawn,5891,os⟩
noncomputable def vNS:List (Nat×List (Str×Option Value)):=[
(3,[(bOd,none),(q14,(some (.ref 39))),(aG0,(some (.ref 1030))),(q16,(some (.ref 71))),(aMs,(some (.ref 1055))),(q31,(some (.ref 140))),(aQk,(some (.ref 1041))),(aMt,(some (.ref 1048))),(bJ4,(some (z 4294967295 4063))),(bJp,(some (z 924074 4259))),(bJt,(some (z 6144 4238))),(bJu,(some (z 11 4235))),(bFo,(some (z 7 4421))),(aMq,(some (.ref 1332))),(bA0,(some (.ref 1178))),(q18,(some (.ref 110))),(bJ1,(some (z 3 4209))),(bJ2,(some (z 1 4207))),(bJo,(some (z 786722 4264))),(bJe,(some (z 1075056896 4441))),(aMp,(some (.ref 1339))),(bJn,(some (z 1 4266))),(bJi,(some (z 2151677951 4310))),(aMo,(some (.ref 1346))),(aMn,(some (.ref 1353))),(bJk,(some (z 46079 4298))),(bJm,(some (z 546 4286))),(bJl,(some (z 2730 4296))),(bJ0,(some (z 2147483648 4213))),(bJz,(some (z 2 4217))),(bJx,(some (z 32 4225))),(bJv,(some (z 256 4233))),(bOe,none),(bJy,(some (z 8 4221))),(bJw,(some (z 128 4229))),(bJs,(some (z 131072 4242))),(q15,(some (.ref 52))),(bI3,(some (.ref 1745))),(bJa,(some (z 0 4983))),(bI5,(some (.ref 1743))),(bI9,(some (z 1 4985))),(bI4,(some (.ref 1744))),(bI2,(some (.ref 1746))),(bI8,(some (z 2 4987))),(bI1,(some (.ref 1752))),(bI7,(some (z 3 4989))),(bI0,(some (.ref 1753))),(bI6,(some (z 4 4991))),(aQl,(some (z 5 4993))),(aPo,(some (.ref 1666))),(aPq,(some (.ref 1506))),(bJd,(some (z 0 4969))),(bJj,(some (z 2147483648 4302))),(bJr,(some (z 262144 4246))),(bJq,(some (z 524288 4250))),(bJb,(some (.ref 1671))),(bJc,(some (z 1 4971))),(aQj,(some (.ref 1076))),(aMm,(some (.ref 1760))),(aMr,(some (.ref 1062))),(bJ3,(some (z 0 4205))),(bIw,(some (.ref 1904))),(bIx,(some (z 4294967296 5419))),(bIz,(some (z 4 5409))),(aMk,(some (.ref 1918))),(q17,(some (.ref 90))),(bIy,(some (z 4294967295 5415))),(aMl,(some (.ref 1911))),(aUw,none),(bOf,none),(aPl,(some (.ref 2130))),(aKt,none),(aMj,(some (.ref 2213))),(aPj,none),(aE4,(some (.ref 2206))),(aPm,(some (.ref 2088))),(aPn,(some (.ref 1899))),(aPk,(some (.ref 2195))),(aPp,(some (.ref 1587))),(aUv,none),(aUx,none),(aMi,(some (.ref 2220))),(aHy,(some (.ref 2225))),(aMh,(some (.ref 2232)))]),
(1745,[(aJt,(some (.str aDy 5114))),(aDy,none),(aMu,none),(aLv,none),(aLw,none),(aJu,none)]),
(1743,[(aJt,none),(aDy,(some (.ref 1083))),(aMu,none),(aLv,none),(aLw,none),(aJu,none)]),
(1744,[(aJt,none),(aDy,none),(aMu,none),(aLv,none),(aLw,none),(aJu,none)]),
(1746,[(aJt,none),(aDy,none),(aMu,none),(aLv,none),(aLw,none),(aJu,(some (.ref 1749)))]),
(1752,[(aJt,none),(aDy,none),(aMu,none),(aLv,none),(aLw,none),(aJu,none)]),
(1753,[(aJt,none),(aDy,none),(aMu,none),(aLv,none),(aLw,none),(aJu,none)])]
noncomputable def aZr:List (Nat×List (Str×Option Value)):=[
(1899,[(aVb,none),(aVa,none),(bHv,none),(bAc,none),(bE2,none),(bE1,none),(aE9,none),(bHw,none),(bEq,none)]),
(1506,[(bAt,none),(bIn,none),(bIl,none),(bIm,none),(bIh,none),(q77,none),(bIo,none),(bIj,none),(bIi,none),(bAu,none),(bIk,none)]),
(2088,[(aEf,none),(aJj,none),(aMg,none),(bHe,none)]),
(2195,[(aKu,none),(bG6,none)]),
(110,[(q44,none),(q65,none),(q66,none)]),
(71,[(q44,none),(q47,none)]),
(140,[(aAf,none),(aZc,none),(bBa,none),(bA9,none),(bA8,none),(bFt,none)]),
(1587,[(bE8,none),(bOm,none),(bOl,none),(bOo,none),(bOn,none),(aMg,none)]),
(1666,[(aVb,none),(aVa,none)])]
noncomputable def vCV:List (Nat×List (Str×Value)):=[
(110,[(q51,z 0 302),(q52,z 1 304),(q53,z 2 306),(q54,z 3 308),(q55,z 4 310),(q56,z 5 312),(q59,z 8 318)]),
(1030,[(aVn,.ref 781),(aYw,.ref 845),(bA1,.ref 938),(aYv,.ref 1024)])]
noncomputable def vIV:List (Nat×List (Str×Value)):=[
(204,[(aAg,.str aA9 648),(aAf,.str aMu 647)]),
(291,[(aAg,.str aAt 829),(aAf,.str aJu 838)]),
(351,[(aAg,.str aAt 1018),(aAf,.str aJt 1025)]),
(747,[(aAg,.str aLu 1964),(aAf,.str aLw 1952)]),
(753,[(aAg,.str aLu 1986),(aAf,.str aLv 1954)])]
noncomputable def vMT:List (Nat×List (Str×Nat)):=[
(140,[(q40,130)]),
(1506,[(q40,1368),(q95,1375),(aJk,1382),(aVm,1390),(aVl,1397),(aVk,1404),(aVj,1412),(aSd,1419),(aVi,1426),(aVh,1433),(aVg,1454),(aVf,1461),(aVe,1468),(aVd,1489)]),
(1587,[(q40,1527)]),
(1666,[(q40,1626)]),
(1899,[(q40,1775),(aAz,1782),(aLs,1797),(aE8,1804),(aGq,1811),(aDb,1818),(aU9,1832),(aU8,1839),(aU7,1846),(aU6,1853),(aU5,1875),(aU4,1882)]),
(2088,[(q40,1933),(aJk,1947),(aU3,1954),(q47,1961),(aU2,1968),(aU1,1975),(aU0,2017),(aUz,2045)]),
(2195,[(q40,2148),(aUy,2162),(aDb,2170),(aGq,2185)])]
noncomputable def vMK:List (Nat×Nat):=[(1899,1775),(1506,1368),(2088,1933),(2195,2148),(140,130),(1587,1527),(1666,1626)]
noncomputable def vKP:List Nat:=[1899,1506,2088,2195,110,71,140,1587,1666,1048,1055,1062,1083,1332,1339,1346,1353,1760,1911,1918,2206,2213,2220,2225,2232,2237]
noncomputable def vPG:List Nat:=[1899,1506,2088,2195,140,1587,1666]
noncomputable def vPX:List Nat:=[110,71]
noncomputable def vVE:List Nat:=[110,71]
noncomputable def vPF:List Nat:=[130,1048,1055,1062,1083,1332,1339,1346,1353,1368,1375,1382,1390,1397,1404,1412,1419,1426,1433,1454,1461,1468,1489,1527,1626,1760,1775,1782,1797,1804,1811,1818,1832,1839,1846,1853,1875,1882,1911,1918,1933,1947,1954,1961,1968,1975,2017,2045,2148,2162,2170,2185,2213,2220,2232,36,107,68]
noncomputable def vO(p:Program):Frag:=[
(29,tU [sV q42 208]),
(36,kV q40 q45 (M p 2 0) (rV 29) q37 194 35),
(68,kV q40 q48 (M p 4 0) .none q37 194 67),
(100,tU [z 0 330]),
(107,kV q40 q67 (M p 6 14) (rV 100) q37 194 106),
(123,tU [z 0 491,z 0 492,z 0 493,z 0 494,z 0 495]),
(130,kV q40 bFs (M p 20 0) (rV 123) q4 346 129),
(781,dV y1 [⟨.ofNat 55,z 55 469,rV 198⟩,⟨.ofNat 23,z 23 463,rV 201⟩,⟨.ofNat 111,z 111 475,rV 204⟩] 3),
(845,dV y1 [⟨.ofNat 103,z 103 2535,rV 207⟩,⟨.ofNat 99,z 99 2554,rV 220⟩,⟨.ofNat 4195,z 4195 2573,rV 227⟩,⟨.ofNat 16483,z 16483 2592,rV 242⟩,⟨.ofNat 20579,z 20579 2611,rV 249⟩,⟨.ofNat 24675,z 24675 2630,rV 256⟩,⟨.ofNat 28771,z 28771 2649,rV 263⟩,⟨.ofNat 3,z 3 2668,rV 277⟩,⟨.ofNat 4099,z 4099 2687,rV 284⟩,⟨.ofNat 8195,z 8195 2706,rV 291⟩,⟨.ofNat 16387,z 16387 2725,rV 302⟩,⟨.ofNat 20483,z 20483 2744,rV 309⟩,⟨.ofNat 35,z 35 2763,rV 323⟩,⟨.ofNat 4131,z 4131 2782,rV 330⟩,⟨.ofNat 8227,z 8227 2801,rV 337⟩,⟨.ofNat 19,z 19 2820,rV 351⟩,⟨.ofNat 8211,z 8211 2839,rV 362⟩,⟨.ofNat 12307,z 12307 2858,rV 369⟩,⟨.ofNat 16403,z 16403 2877,rV 376⟩,⟨.ofNat 24595,z 24595 2896,rV 387⟩,⟨.ofNat 28691,z 28691 2915,rV 394⟩,⟨.ofNat 15,z 15 3102,rV 642⟩,⟨.ofNat 4111,z 4111 3121,rV 649⟩,⟨.ofNat 4211,z 4211 3140,rV 667⟩,⟨.ofNat 8307,z 8307 3159,rV 674⟩,⟨.ofNat 12403,z 12403 3178,rV 681⟩,⟨.ofNat 20595,z 20595 3197,rV 715⟩,⟨.ofNat 24691,z 24691 3216,rV 722⟩,⟨.ofNat 28787,z 28787 3235,rV 729⟩] 29),
(938,dV y1 [⟨.ofNat 4115,z 4115 3420,rV 412⟩,⟨.ofNat 20499,z 20499 3436,rV 431⟩,⟨.ofNat 1073762323,z 1073762323 3452,rV 465⟩,⟨.ofNat 51,z 51 3468,rV 479⟩,⟨.ofNat 4147,z 4147 3484,rV 486⟩,⟨.ofNat 8243,z 8243 3500,rV 493⟩,⟨.ofNat 12339,z 12339 3516,rV 500⟩,⟨.ofNat 16435,z 16435 3532,rV 507⟩,⟨.ofNat 20531,z 20531 3548,rV 514⟩,⟨.ofNat 24627,z 24627 3564,rV 521⟩,⟨.ofNat 28723,z 28723 3580,rV 528⟩,⟨.ofNat 1073741875,z 1073741875 3596,rV 542⟩,⟨.ofNat 1073762355,z 1073762355 3612,rV 565⟩,⟨.ofNat 33554483,z 33554483 3628,rV 579⟩,⟨.ofNat 33558579,z 33558579 3644,rV 586⟩,⟨.ofNat 33562675,z 33562675 3660,rV 593⟩,⟨.ofNat 33566771,z 33566771 3676,rV 600⟩,⟨.ofNat 33570867,z 33570867 3692,rV 607⟩,⟨.ofNat 33574963,z 33574963 3708,rV 614⟩,⟨.ofNat 33579059,z 33579059 3724,rV 621⟩,⟨.ofNat 33583155,z 33583155 3740,rV 628⟩,⟨.ofNat 301990003,z 301990003 3796,rV 734⟩] 22),
(1024,dV y1 [⟨.ofNat 115,z 115 1967,rV 747⟩,⟨.ofNat 1048691,z 1048691 1989,rV 753⟩,⟨.ofNat 270532723,z 270532723 2011,rV 759⟩,⟨.ofNat 273678451,z 273678451 2033,rV 765⟩,⟨.ofNat 807403635,z 807403635 2055,rV 771⟩] 5),
(1048,kV aMt aMt (F p 26) .none q4 346 1047),
(1055,kV aMs aMs (F p 27) .none q4 346 1054),
(1062,kV aMr aMr (F p 28) .none q4 346 1061),
(1083,kV aDy aDy (F p 35) .none aGz 4061 1082),
(1178,dV y1 [⟨.ofNat 256,z 256 349,sV q68 348⟩,⟨.ofNat 260,z 260 352,sV q69 351⟩,⟨.ofNat 261,z 261 355,sV q70 354⟩,⟨.ofNat 262,z 262 358,sV q71 357⟩,⟨.ofNat 320,z 320 361,sV q72 360⟩,⟨.ofNat 321,z 321 364,sV q73 363⟩,⟨.ofNat 322,z 322 367,sV q74 366⟩,⟨.ofNat 323,z 323 370,sV q75 369⟩,⟨.ofNat 324,z 324 373,sV q76 372⟩,⟨.ofNat 384,z 384 376,sV q77 375⟩,⟨.ofNat 768,z 768 379,sV q78 378⟩,⟨.ofNat 769,z 769 382,sV q79 381⟩,⟨.ofNat 770,z 770 385,sV q80 384⟩,⟨.ofNat 771,z 771 388,sV q81 387⟩,⟨.ofNat 772,z 772 391,sV q82 390⟩,⟨.ofNat 773,z 773 394,sV q83 393⟩,⟨.ofNat 774,z 774 397,sV q84 396⟩,⟨.ofNat 832,z 832 400,sV q85 399⟩,⟨.ofNat 833,z 833 403,sV q86 402⟩,⟨.ofNat 834,z 834 406,sV q87 405⟩,⟨.ofNat 835,z 835 409,sV q88 408⟩,⟨.ofNat 836,z 836 412,sV q89 411⟩,⟨.ofNat 2816,z 2816 415,sV q90 414⟩,⟨.ofNat 2818,z 2818 418,sV q91 417⟩,⟨.ofNat 2944,z 2944 421,sV q92 420⟩,⟨.ofNat 2946,z 2946 424,sV q93 423⟩,⟨.ofNat 3072,z 3072 427,sV q94 426⟩,⟨.ofNat 3073,z 3073 430,sV q95 429⟩,⟨.ofNat 3074,z 3074 433,sV q96 432⟩,⟨.ofNat 3200,z 3200 436,sV q97 435⟩,⟨.ofNat 3201,z 3201 439,sV q98 438⟩,⟨.ofNat 3202,z 3202 442,sV q99 441⟩,⟨.ofNat 3857,z 3857 445,sV bBe 444⟩,⟨.ofNat 3858,z 3858 448,sV bBd 447⟩,⟨.ofNat 3859,z 3859 451,sV bBc 450⟩,⟨.ofNat 3860,z 3860 453,sV aZd 452⟩] 36),
(1332,kV aMq aMq (F p 82) .none aBx 4203 1331),
(1339,kV aMp aMp (F p 83) .none aBx 4203 1338),
(1346,kV aMo aMo (F p 84) .none aBx 4203 1345),
(1353,kV aMn aMn (F p 85) .none aBx 4203 1352),
(1361,tU [z 0 4485]),
(1368,kV q40 bFm (M p 86 0) (rV 1361) aBx 4203 1367),
(1375,kV q95 bFl (M p 86 1) .none aBx 4203 1374),
(1382,kV aJk bFk (M p 86 2) .none aBx 4203 1381),
(1383,tU [z 3 4209]),
(1390,kV aVm bFj (M p 86 3) (rV 1383) aBx 4203 1389),
(1397,kV aVl bFi (M p 86 4) .none aBx 4203 1396),
(1404,kV aVk bFh (M p 86 5) .none aBx 4203 1403),
(1405,tU [z 3 4209]),
(1412,kV aVj bFg (M p 86 6) (rV 1405) aBx 4203 1411),
(1419,kV aSd bFf (M p 86 7) .none aBx 4203 1418),
(1426,kV aVi bFe (M p 86 8) .none aBx 4203 1425),
(1433,kV aVh bFd (M p 86 9) .none aBx 4203 1432),
(1454,kV aVg bFc (M p 86 12) .none aBx 4203 1453),
(1461,kV aVf bFb (M p 86 13) .none aBx 4203 1460),
(1468,kV aVe bFa (M p 86 14) .none aBx 4203 1467),
(1489,kV aVd bE9 (M p 86 17) .none aBx 4203 1488),
(1520,tU [z 12 4747]),
(1527,kV q40 bE7 (M p 104 0) (rV 1520) aDn 4691 1526),
(1626,kV q40 bE6 (M p 108 0) .none aDn 4691 1625),
(1749,tU [z 4 5146,.bool false]),
(1760,kV aMm aMm (F p 137) .none aBy 4967 1759),
(1768,tU [z 0 5200]),
(1775,kV q40 bE4 (M p 138 0) (rV 1768) aBy 4967 1774),
(1782,kV aAz bE3 (M p 138 1) .none aBy 4967 1781),
(1797,kV aLs bE0 (M p 138 3) .none aBy 4967 1796),
(1804,kV aE8 bEz (M p 138 4) .none aBy 4967 1803),
(1811,kV aGq bEy (M p 138 5) .none aBy 4967 1810),
(1818,kV aDb bEx (M p 138 6) .none aBy 4967 1817),
(1832,kV aU9 bEw (M p 138 8) .none aBy 4967 1831),
(1839,kV aU8 bEv (M p 138 9) .none aBy 4967 1838),
(1846,kV aU7 bEu (M p 138 10) .none aBy 4967 1845),
(1853,kV aU6 bEt (M p 138 11) .none aBy 4967 1852),
(1868,tU [z 0 5354]),
(1875,kV aU5 bEs (M p 138 14) (rV 1868) aBy 4967 1874),
(1882,kV aU4 bEr (M p 138 15) .none aBy 4967 1881),
(1904,tU [z 1 5421,z 2 5422,z 4 5423]),
(1911,kV aMl aMl (F p 144) .none aBc 5407 1910),
(1918,kV aMk aMk (F p 145) .none aBc 5407 1917),
(1926,tU [z 0 5452]),
(1933,kV q40 bEp (M p 146 0) (rV 1926) aBc 5407 1932),
(1947,kV aJk bEo (M p 146 2) .none aBc 5407 1946),
(1954,kV aU3 bEn (M p 146 3) .none aBc 5407 1953),
(1961,kV q47 bEm (M p 146 4) .none aBc 5407 1960),
(1968,kV aU2 bEl (M p 146 5) .none aBc 5407 1967),
(1975,kV aU1 bEk (M p 146 6) .none aBc 5407 1974),
(2017,kV aU0 bEj (M p 146 12) .none aBc 5407 2016),
(2045,kV aUz bEi (M p 146 16) .none aBc 5407 2044),
(2148,kV q40 bEh (M p 148 0) .none aBc 5407 2147),
(2162,kV aUy bEf (M p 148 2) .none aBc 5407 2161),
(2163,tU [z 5 312]),
(2170,kV aDb bEe (M p 148 3) (rV 2163) aBc 5407 2169),
(2185,kV aGq bEd (M p 148 5) .none aBc 5407 2184),
(2213,kV aMj aMj (F p 151) .none aKw 5834 2212),
(2220,kV aMi aMi (F p 152) .none aKw 5834 2219),
(2232,kV aMh aMh (F p 154) .none aKw 5834 2231)]
noncomputable def vCM:List (Nat×List (Str×Nat)):=[
(39,[(q40,36)])]
noncomputable def vXS:List (Nat×List (Str×Bool)):=[
(110,[(q44,true),(q65,true),(q66,true),(q47,true)]),
(71,[(q44,true),(q65,true),(q66,true),(q47,true)])]
noncomputable def bN3:List (Nat×Nat):=[(110,107),(71,68)]
noncomputable def vTP:List (Nat×List Value):=[
(29,[.str q42 208]),
(100,[z 0 330]),
(123,[z 0 491,z 0 492,z 0 493,z 0 494,z 0 495]),
(1361,[z 0 4485]),
(1383,[z 3 4209]),
(1405,[z 3 4209]),
(1520,[z 12 4747]),
(1768,[z 0 5200]),
(1868,[z 0 5354]),
(1926,[z 0 5452]),
(2163,[z 5 312]),
(1747,[z 1 5142,.bool true]),
(1748,[z 2 5144,.bool true]),
(1749,[z 4 5146,.bool false]),
(1750,[z 1 5148,.bool false]),
(1751,[z 2 5150,.bool false]),
(1904,[z 1 5421,z 2 5422,z 4 5423])]
noncomputable def vHF:List Nat:=[2213,2225]
noncomputable def vKA:List Nat:=[39,71,110,140,169,1030,1506,1587,1666,1899,2088,2195,38,70,109,139,168,1029,1505,1586,1665,1898,2087,2194,0,1,2,3,36,68,107,130,1048,1055,1062,1083,1332,1339,1346,1353,1368,1375,1382,1390,1397,1404,1412,1419,1426,1433,1454,1461,1468,1489,1527,1626,1760,1775,1782,1797,1804,1811,1818,1832,1839,1846,1853,1875,1882,1911,1918,1933,1947,1954,1961,1968,1975,2017,2045,2148,2162,2170,2185,2206,2213,2220,2225,2232,2237,35,29,67,106,100,129,123,1047,1054,1061,1082,1331,1338,1345,1352,1367,1361,1374,1381,1389,1383,1396,1403,1411,1405,1418,1425,1432,1453,1460,1467,1488,1526,1520,1625,1759,1774,1768,1781,1796,1803,1810,1817,1831,1838,1845,1852,1874,1868,1881,1910,1917,1932,1926,1946,1953,1960,1967,1974,2016,2044,2147,2161,2169,2163,2184,2205,2212,2219,2224,2231,2236,1745,1743,1744,1746,1752,1753,1747,1748,1749,1750,1751,204,203,291,290,351,350,479,478,747,746,753,752,781,845,938,1024,1904,1178]
noncomputable def aAu:Str:=⟨⟨[99,111,114,101]⟩⟩
end
noncomputable def env0(p:Program):Env:={ scope:=p.main.scope,locals:=mainNs,globals:=mainNs,cells:=[],code:=.ref 13,frame:=some 14 }
noncomputable def cE(p:Program):Code:=.body p.main.body (env0 p)
noncomputable def B0:List Frame:=[topFrame ⟨0,0,0,0⟩]
noncomputable def sl(l:List Stmt)(i n:Nat):List Stmt:=(l.drop i).take n
noncomputable def wc(w:World)(c:Bool):World:=w.withFollow "comprehension-iter-twice" c
noncomputable def wf(w:World)(b:Bool):World:=w.withFollow "special-get-raises" b
noncomputable abbrev pw:=PySem.Challenge.pw_nz0234_01
noncomputable abbrev aBz:Option Value:=some (.ref 6)
noncomputable def Sb(p:Program)(w:World)(os:OsState):SharedT:=⟨aCo w.params,11,aBk,#[],boot_drawn,181,os⟩
noncomputable def aBr(p:Program)(c:Code):Env:=match c with
 | .body _ e=>e
 | .func _ e=>e
 |_=>env0 p
noncomputable def cb(p:Program):List Stmt:=bQb (F p 24)
noncomputable def fb(p:Program):List Stmt:=fdB (F p 23)
noncomputable def PG(p:Program)(w:World)(b:Bool)(os:OsState):Option (SharedT×Thread×List Nat):=goU treeTable p (wf w b) 11 aBz 0 11 12 (Sb p (wf w b) os) (topStub p) []
noncomputable def tP(p:Program)(w:World)(b:Bool)(os:OsState):Thread:=aP1 (PG p w b os)
noncomputable def PL(p:Program)(w:World)(b:Bool)(os:OsState):aE3:=aJe (aCc (D0 p (wf w b).params)) (PG p w b os)
noncomputable def PR(p:Program)(w:World)(b:Bool)(os:OsState):aE3:=some (15,187,true,#[],boot_drawn,os,aAq (D0 p (wf w b).params))
noncomputable def PX(p:Program)(w:World)(b:Bool)(os:OsState):Sem Fin×Code×Pos×Nat×List Frame×Option (List Frame×(Addr×(GenResult→Sem Fin)×Code×Pos)×List Frame):=((tP p w b os).cur,(tP p w b os).code,(tP p w b os).pos,(tP p w b os).stack.length,(tP p w b os).stack,splitAtGen (tP p w b os).stack)
noncomputable def PY(p:Program)(w:World)(b:Bool)(os:OsState):Sem Fin×Code×Pos×Nat×List Frame×Option (List Frame×(Addr×(GenResult→Sem Fin)×Code×Pos)×List Frame):=(denote treeTable (cE p),cE p,⟨0,0,0,0⟩,1,B0,none)
noncomputable def ok0(p:Program)(P:Params):Bool:=aEd (aCo P) 11 15 (D0 p P)
noncomputable def rS(p:Program)(w:World)(b:Bool)(d m k G n:Nat)(s:SharedT)(t:Thread):RR:=aJf treeTable p (wf w b) (wf w true) (wf w false) (wf w b) (wf w b) (wf w b) 11 aBz d m k G n s t [] []
noncomputable def rC(p:Program)(w:World)(c b:Bool)(d m k G n:Nat)(s:SharedT)(t:Thread):RR:=aJf treeTable p (wf (wc w c) b) (wf (wc w c) true) (wf (wc w c) false) (wf (wc w true) b) (wf (wc w false) true) (wf (wc w false) false) 11 aBz d m k G n s t [] []
noncomputable def b0G(p:Program)(w:World)(b:Bool)(os:OsState):RR:=rS p w b 1 15 0 (nat_lit 0) 1 (S0 p (wf w b) os) (blockOf p.main.body (env0 p) (cE p) ⟨0,0,0,0⟩ B0)
noncomputable def b0L(p:Program)(w:World)(b:Bool)(os:OsState):Seen×List RB:=(aB5 (aCc []) (b0G p w b os),prA (b0G p w b os))
noncomputable def b0R(p:Program)(w:World)(b:Bool)(os:OsState):Seen×List RB:=(some (.next,15,187,cE p,⟨0,0,0,0⟩,true,#[],boot_drawn,os,aAq []),prB (b0G p w b os))
noncomputable def g1G(p:Program)(w:World)(b:Bool)(os:OsState):RR:=rS p w b 1 15 36 (nat_lit 29867171985932628069754516137067288291584724043931182808777389987374419385471903891079732145504207811792668696188115277909648726) 736 (S0 p (wf w b) os) (piecesOf (sl p.main.body 0 24) (env0 p) (cE p) ⟨0,0,0,0⟩ B0)
noncomputable def g1L(p:Program)(w:World)(b:Bool)(os:OsState):Seen×List RB:=(aB5 (aCc (D1 p (wf w b).params)) (g1G p w b os),prA (g1G p w b os))
noncomputable def g1R(p:Program)(w:World)(b:Bool)(os:OsState):Seen×List RB:=(some (.next,189,599,cE p,⟨84,0,101,16⟩,true,#[],boot_drawn,os,aAq (D1 p (wf w b).params)),prB (g1G p w b os))
noncomputable def ok1(p:Program)(P:Params):Bool:=aEd (T0 p P) 15 189 (D1 p P)
noncomputable def AG(p:Program)(w:World)(b:Bool)(os:OsState):Option (SharedT×Thread×List Nat):=goU treeTable p (wf w b) 11 aBz 1 189 59 (S1 p (wf w b) os) (piecesOf (sl p.main.body 24 1) (env0 p) (cE p) ⟨84,0,101,16⟩ B0) []
noncomputable def tA(p:Program)(w:World)(b:Bool)(os:OsState):Thread:=aP1 (AG p w b os)
noncomputable def AL(p:Program)(w:World)(b:Bool)(os:OsState):aE3:=aJe (aCc (D2 p (wf w b).params)) (AG p w b os)
noncomputable def AR(p:Program)(w:World)(b:Bool)(os:OsState):aE3:=some (196,611,true,#[],boot_drawn,os,aAq (D2 p (wf w b).params))
noncomputable def AX(p:Program)(w:World)(b:Bool)(os:OsState):Sem Fin×Code×Pos×Nat×Option (List Frame×(Addr×(GenResult→Sem Fin)×Code×Pos)×List Frame):=((tA p w b os).cur,(tA p w b os).code,(tA p w b os).pos,(tA p w b os).stack.length,splitAtGen (tA p w b os).stack)
noncomputable def AY(p:Program)(w:World)(b:Bool)(os:OsState):Sem Fin×Code×Pos×Nat×Option (List Frame×(Addr×(GenResult→Sem Fin)×Code×Pos)×List Frame):=(denote treeTable (.body (cb p) (aBr p (tA p w b os).code)),.body (cb p) (aBr p (tA p w b os).code),⟨102,0,108,79⟩,2,none)
noncomputable def ok2(p:Program)(P:Params):Bool:=aEd (T1 p P) 189 196 (D2 p P)
noncomputable def kbG(p:Program)(w:World)(b:Bool)(os:OsState):RR:=rS p w b 2 196 0 (nat_lit 0) 1 (S2 p (wf w b) os) (blockOf (cb p) (aBr p (tA p w b os).code) (tA p w b os).code ⟨102,0,108,79⟩ (tA p w b os).stack)
noncomputable def kbL(p:Program)(w:World)(b:Bool)(os:OsState):Seen×List RB:=(aB5 (aCc []) (kbG p w b os),prA (kbG p w b os))
noncomputable def kbR(p:Program)(w:World)(b:Bool)(os:OsState):Seen×List RB:=(some (.next,196,611,(tA p w b os).code,⟨102,0,108,79⟩,true,#[],boot_drawn,os,aAq []),prB (kbG p w b os))
noncomputable def FG(p:Program)(w:World)(b:Bool)(os:OsState):Option (SharedT×Thread×List Nat):=goU treeTable p (wf w b) 11 aBz 2 196 14 (S2 p (wf w b) os) (piecesOf (sl (cb p) 0 1) (aBr p (tA p w b os).code) (tA p w b os).code ⟨102,0,108,79⟩ (tA p w b os).stack) []
noncomputable def tF(p:Program)(w:World)(b:Bool)(os:OsState):Thread:=aP1 (FG p w b os)
noncomputable def FL(p:Program)(w:World)(b:Bool)(os:OsState):aE3:=aJe (aCc (D3 p (wf w b).params)) (FG p w b os)
noncomputable def FR(p:Program)(w:World)(b:Bool)(os:OsState):aE3:=some (197,611,true,#[],boot_drawn,os,aAq (D3 p (wf w b).params))
noncomputable def FX(p:Program)(w:World)(b:Bool)(os:OsState):Sem Fin×Code×Pos×Nat×Option (List Frame×(Addr×(GenResult→Sem Fin)×Code×Pos)×List Frame):=((tF p w b os).cur,(tF p w b os).code,(tF p w b os).pos,(tF p w b os).stack.length,splitAtGen (tF p w b os).stack)
noncomputable def FY(p:Program)(w:World)(b:Bool)(os:OsState):Sem Fin×Code×Pos×Nat×Option (List Frame×(Addr×(GenResult→Sem Fin)×Code×Pos)×List Frame):=(denote treeTable (.func (fb p) (aBr p (tF p w b os).code)),.func (fb p) (aBr p (tF p w b os).code),⟨103,13,103,21⟩,3,none)
noncomputable def ok3(p:Program)(P:Params):Bool:=aEd (T2 p P) 196 197 (D3 p P)
noncomputable def f0G(p:Program)(w:World)(b:Bool)(os:OsState):RR:=rS p w b 3 197 0 (nat_lit 0) 2 (S3 p (wf w b) os) (aEg (tF p w b os).code ⟨103,13,103,21⟩ (tF p w b os).stack)
noncomputable def f0L(p:Program)(w:World)(b:Bool)(os:OsState):Seen×List RB:=(aB5 (aCc []) (f0G p w b os),prA (f0G p w b os))
noncomputable def f0R(p:Program)(w:World)(b:Bool)(os:OsState):Seen×List RB:=(some (.next,197,611,(tF p w b os).code,⟨103,13,103,21⟩,true,#[],boot_drawn,os,aAq []),prB (f0G p w b os))
noncomputable def f1G(p:Program)(w:World)(b:Bool)(os:OsState):RR:=rS p w b 3 197 58 (nat_lit 4821716387846724378398703987388147269664150027881752583181610388264631664829927473695360190185029196465312952123263323109942364828470091936072332986406914246476950138246766450140161933149252507963188649739257) 301 (S3 p (wf w b) os) (piecesOf (sl (fb p) 0 5) (aBr p (tF p w b os).code) (tF p w b os).code ⟨103,13,103,21⟩ (tF p w b os).stack)
noncomputable def f1L(p:Program)(w:World)(b:Bool)(os:OsState):Seen×List RB:=(aB5 (aCc (D4 p (wf w b).params)) (f1G p w b os),prA (f1G p w b os))
noncomputable def f1R(p:Program)(w:World)(b:Bool)(os:OsState):Seen×List RB:=(some (.next,398,1161,(tF p w b os).code,⟨89,4,89,79⟩,true,#[],boot_drawn,os,aAq (D4 p (wf w b).params)),prB (f1G p w b os))
noncomputable def ok4(p:Program)(P:Params):Bool:=aEd (T3 p P) 197 398 (D4 p P)
noncomputable def f2G(p:Program)(w:World)(b:Bool)(os:OsState):RR:=rS p w b 3 398 60 (nat_lit 80811143913713342288252996369420573067242518102467151970018885387304706808567352032524077498055111912113684196921496101964060385915419029396715973509816461237751507130227532103950404671869837433565248967080193114193) 301 (S4 p (wf w b) os) (piecesOf (sl (fb p) 5 4) (aBr p (tF p w b os).code) (tF p w b os).code ⟨89,4,89,79⟩ (tF p w b os).stack)
noncomputable def f2L(p:Program)(w:World)(b:Bool)(os:OsState):Seen×List RB:=(aB5 (aCc (D5 p (wf w b).params)) (f2G p w b os),prA (f2G p w b os))
noncomputable def f2R(p:Program)(w:World)(b:Bool)(os:OsState):Seen×List RB:=(some (.next,569,1533,(tF p w b os).code,⟨93,4,93,64⟩,true,#[],boot_drawn,os,aAq (D5 p (wf w b).params)),prB (f2G p w b os))
noncomputable def ok5(p:Program)(P:Params):Bool:=aEd (T4 p P) 398 569 (D5 p P)
noncomputable def f3G(p:Program)(w:World)(b:Bool)(os:OsState):RR:=rS p w b 3 569 58 (nat_lit 26894773000897066899215628570426090084607461621125247113933085463182923231237997830226027735420672668218887608442089144336069472130739080521389998751825173653621874419145349893082878831763978450371165607247956) 338 (S5 p (wf w b) os) (piecesOf (sl (fb p) 9 6) (aBr p (tF p w b os).code) (tF p w b os).code ⟨93,4,93,64⟩ (tF p w b os).stack)
noncomputable def f3L(p:Program)(w:World)(b:Bool)(os:OsState):Seen×List RB:=(aB5 (aCc (D6 p (wf w b).params)) (f3G p w b os),prA (f3G p w b os))
noncomputable def f3R(p:Program)(w:World)(b:Bool)(os:OsState):Seen×List RB:=(some (.next,775,2072,(tF p w b os).code,⟨99,24,99,97⟩,true,#[],boot_drawn,os,aAq (D6 p (wf w b).params)),prB (f3G p w b os))
noncomputable def ok6(p:Program)(P:Params):Bool:=aEd (T5 p P) 569 775 (D6 p P)
noncomputable def f4G(p:Program)(w:World)(b:Bool)(os:OsState):RR:=rS p w b 3 775 0 (nat_lit 0) 4 (S6 p (wf w b) os) (piecesOf (sl (fb p) 15 2) (aBr p (tF p w b os).code) (tF p w b os).code ⟨99,24,99,97⟩ (tF p w b os).stack)
noncomputable def f4L(p:Program)(w:World)(b:Bool)(os:OsState):Seen×List RB:=(aB5 (aCc (D7 p (wf w b).params)) (f4G p w b os),prA (f4G p w b os))
noncomputable def f4R(p:Program)(w:World)(b:Bool)(os:OsState):Seen×List RB:=(some (.ret (.ref 209),775,2072,(tF p w b os).code,⟨101,11,101,16⟩,true,#[],boot_drawn,os,aAq (D7 p (wf w b).params)),prB (f4G p w b os))
noncomputable def ok7(p:Program)(P:Params):Bool:=aEd (T6 p P) 775 775 (D7 p P)
noncomputable def f5G(p:Program)(w:World)(b:Bool)(os:OsState):RR:=rS p w b 2 775 0 (nat_lit 0) 11 (S7 p (wf w b) os) (⟨ret (.ref 209),(tF p w b os).code,⟨101,11,101,16⟩,(tF p w b os).stack⟩)
noncomputable def f5L(p:Program)(w:World)(b:Bool)(os:OsState):Seen×List RB:=(aB5 (aCc (D8 p (wf w b).params)) (f5G p w b os),prA (f5G p w b os))
noncomputable def f5R(p:Program)(w:World)(b:Bool)(os:OsState):Seen×List RB:=(some (.next,775,2073,(tA p w b os).code,⟨103,4,103,10⟩,true,#[],boot_drawn,os,aAq (D8 p (wf w b).params)),prB (f5G p w b os))
noncomputable def ok8(p:Program)(P:Params):Bool:=aEd (T7 p P) 775 775 (D8 p P)
noncomputable def k1G(p:Program)(w:World)(c b:Bool)(os:OsState):RR:=rC p w c b 2 775 182 (nat_lit 2070813618429489072280227973221621099610785151105116426344685068893827684214613920605425750284663193442383509928568368991293610984312758140453028355907257157602661985507130410030056124214459911674693089167759377419854426381186324470783237003994010817205232967614137742592918400503557142273623670025012038915520994808978143829798938866333909551642729417971225316849656976705616252004155915220851136067037913220701827208321986667207037229615213254904494069686309923886356369244315755456750678259429105743390869431811274690395765964421484328298234072661552856416194731306710243903346836621401889816657055890652449306119496645309292169710999478914955522117639) 36 (S8 p (wf (wc w c) b) os) (piecesOf (sl (cb p) 1 2) (aBr p (tA p (wc w c) b os).code) (tA p (wc w c) b os).code ⟨103,4,103,10⟩ (tA p (wc w c) b os).stack)
noncomputable def k1Lc(p:Program)(w:World)(c b:Bool)(os:OsState):Seen×List RB:=(aB5 (aCc (D9 p (wf (wc w c) b).params)) (k1G p w c b os),prA (k1G p w c b os))
noncomputable def k1Rc(p:Program)(w:World)(c b:Bool)(os:OsState):Seen×List RB:=(some (.next,844,2494,(tA p (wc w c) b os).code,⟨105,4,105,13⟩,true,#[],boot_drawn,os,aAq (D9 p (wf (wc w c) b).params)),prB (k1G p w c b os))
noncomputable def ok9(p:Program)(P:Params):Bool:=aEd (T8 p P) 775 844 (D9 p P)
noncomputable def k2G(p:Program)(w:World)(c b:Bool)(os:OsState):RR:=rC p w c b 2 844 288 (nat_lit 167699729984012899102377209546081700668582071124872111613937981558143866025005865571770542813980025454710690323835753836153635943125764395237784088760262135898733073105950773745194669592247116557023108891242019801464128704454100456906556932452283586439030906311922381211457528174482791155369574585789367685023284459722924488494729942133082669540278754694430219660122670597739542178744201354968475397954914599467696724739844791201727169861919666794534772032783590317806108667861503688670330574350143782646779149469420716593702921908804294508479253193969655805075502894711105617063040806749023138012145675848001273446029694034452512627321684687196760530565842309945019267425700564263429327479904455679537722541016824548026161353885138450233411325692707540047116428569564475364381451313092230793433411702732242178544242395893364446090579990288086771021125254365791095031878162270658445218931729272025260123895269264912526958778538697610705908335458629056470495962512680467102551832800225772085156454504525001343700303615515906159119133872135) 36 (S9 p (wf (wc w c) b) os) (piecesOf (sl (cb p) 3 1) (aBr p (tA p (wc w c) b os).code) (tA p (wc w c) b os).code ⟨105,4,105,13⟩ (tA p (wc w c) b os).stack)
noncomputable def k2Lc(p:Program)(w:World)(c b:Bool)(os:OsState):Seen×List RB:=(aB5 (aCc (D10 p (wf (wc w c) b).params)) (k2G p w c b os),prA (k2G p w c b os))
noncomputable def k2Rc(p:Program)(w:World)(c b:Bool)(os:OsState):Seen×List RB:=(some (.next,937,3286,(tA p (wc w c) b os).code,⟨106,4,106,12⟩,true,#[],boot_drawn,os,aAq (D10 p (wf (wc w c) b).params)),prB (k2G p w c b os))
noncomputable def ok10(p:Program)(P:Params):Bool:=aEd (T9 p P) 844 937 (D10 p P)
noncomputable def k3G(p:Program)(w:World)(c b:Bool)(os:OsState):RR:=rC p w c b 2 937 162 (nat_lit 1167291597495061701182507853760487806861764593627195328408983875504808901479081048824710931952694301214848832666149208981233305007451800250854187482629056910797176855124513258937478579743095621650230391817120253878004165658714029372241365309805225110632218907448896785452175533347893609518020212835730042244814945303845013509466006123193165474587280775103056121822489788935317355947311490358230303690247041672138666867210100452015568941908531038852713017067494300902665632988694580864105158093043109910576003485888089946908660361250486036994469517507521297412842611234140068868296711) 36 (S10 p (wf (wc w c) b) os) (piecesOf (sl (cb p) 4 1) (aBr p (tA p (wc w c) b os).code) (tA p (wc w c) b os).code ⟨106,4,106,12⟩ (tA p (wc w c) b os).stack)
noncomputable def k3Lc(p:Program)(w:World)(c b:Bool)(os:OsState):Seen×List RB:=(aB5 (aCc (D11 p (wf (wc w c) b).params)) (k3G p w c b os),prA (k3G p w c b os))
noncomputable def k3Rc(p:Program)(w:World)(c b:Bool)(os:OsState):Seen×List RB:=(some (.next,1023,3824,(tA p (wc w c) b os).code,⟨107,4,107,14⟩,true,#[],boot_drawn,os,aAq (D11 p (wf (wc w c) b).params)),prB (k3G p w c b os))
noncomputable def ok11(p:Program)(P:Params):Bool:=aEd (T10 p P) 937 1023 (D11 p P)
noncomputable def k4G(p:Program)(w:World)(c b:Bool)(os:OsState):RR:=rC p w c b 2 1023 66 (nat_lit 159053935518468656403287960064904627406987063234065189058421636037763634372632062027794538723187977463746926330228884467369639587313223018272656003617753418306461697854964010703081065039856094350950356299740726507892558012960213267681287) 41 (S11 p (wf (wc w c) b) os) (piecesOf (sl (cb p) 5 1) (aBr p (tA p (wc w c) b os).code) (tA p (wc w c) b os).code ⟨107,4,107,14⟩ (tA p (wc w c) b os).stack)
noncomputable def k4Lc(p:Program)(w:World)(c b:Bool)(os:OsState):Seen×List RB:=(aB5 (aCc (D12 p (wf (wc w c) b).params)) (k4G p w c b os),prA (k4G p w c b os))
noncomputable def k4Rc(p:Program)(w:World)(c b:Bool)(os:OsState):Seen×List RB:=(some (.next,1028,4012,(tA p (wc w c) b os).code,⟨108,4,108,9⟩,true,#[],boot_drawn,os,aAq (D12 p (wf (wc w c) b).params)),prB (k4G p w c b os))
noncomputable def ok12(p:Program)(P:Params):Bool:=aEd (T11 p P) 1023 1028 (D12 p P)
noncomputable def k5G(p:Program)(w:World)(b:Bool)(os:OsState):RR:=rS p w b 1 1028 0 (nat_lit 0) 137 (S12 p (wf w b) os) (⟨.pure (.done .next),(tA p w b os).code,⟨108,4,108,9⟩,(tA p w b os).stack⟩)
noncomputable def k5L(p:Program)(w:World)(b:Bool)(os:OsState):Seen×List RB:=(aB5 (aCc (D13 p (wf w b).params)) (k5G p w b os),prA (k5G p w b os))
noncomputable def k5R(p:Program)(w:World)(b:Bool)(os:OsState):Seen×List RB:=(some (.next,1035,4020,cE p,⟨102,0,108,79⟩,true,#[],boot_drawn,os,aAq (D13 p (wf w b).params)),prB (k5G p w b os))
noncomputable def ok13(p:Program)(P:Params):Bool:=aEd (T12 p P) 1028 1035 (D13 p P)
noncomputable def g2G(p:Program)(w:World)(b:Bool)(os:OsState):RR:=rS p w b 1 1035 0 (nat_lit 0) 1181 (S13 p (wf w b) os) (piecesOf (sl p.main.body 25 54) (env0 p) (cE p) ⟨102,0,108,79⟩ B0)
noncomputable def g2L(p:Program)(w:World)(b:Bool)(os:OsState):Seen×List RB:=(aB5 (aCc (D17 p (wf w b).params)) (g2G p w b os),prA (g2G p w b os))
noncomputable def g2R(p:Program)(w:World)(b:Bool)(os:OsState):Seen×List RB:=(some (.next,1176,4312,cE p,⟨233,0,233,9⟩,true,#[],boot_drawn,os,aAq (D17 p (wf w b).params)),prB (g2G p w b os))
noncomputable def ok17(p:Program)(P:Params):Bool:=aEd (T13 p P) 1035 1176 (D17 p P)
noncomputable def g5G(p:Program)(w:World)(c b:Bool)(os:OsState):RR:=rC p w c b 1 1176 74 (nat_lit 30235161504148726336995577467984274453287730822327092668732043625747744653161162386402750330590019624926882718173909033373795597021912449074459133734823318113448599135332931851637109861734126514358950853020184247850902841523243886849569086539981387659948258620391444) 46 (S17 p (wf (wc w c) b) os) (piecesOf (sl p.main.body 79 1) (env0 p) (cE p) ⟨233,0,233,9⟩ B0)
noncomputable def g5Lc(p:Program)(w:World)(c b:Bool)(os:OsState):Seen×List RB:=(aB5 (aCc (D14 p (wf (wc w c) b).params)) (g5G p w c b os),prA (g5G p w c b os))
noncomputable def g5Rc(p:Program)(w:World)(c b:Bool)(os:OsState):Seen×List RB:=(some (.next,1326,4421,cE p,⟨234,0,234,5⟩,true,#[],boot_drawn,os,aAq (D14 p (wf (wc w c) b).params)),prB (g5G p w c b os))
noncomputable def ok14(p:Program)(P:Params):Bool:=aEd (T17 p P) 1176 1326 (D14 p P)
noncomputable def g3G(p:Program)(w:World)(b:Bool)(os:OsState):RR:=rS p w b 1 1326 0 (nat_lit 0) 10 (S14 p (wf w b) os) (piecesOf (sl p.main.body 80 1) (env0 p) (cE p) ⟨234,0,234,5⟩ B0)
noncomputable def g3L(p:Program)(w:World)(b:Bool)(os:OsState):Seen×List RB:=(aB5 (aCc (D15 p (wf w b).params)) (g3G p w b os),prA (g3G p w b os))
noncomputable def g3R(p:Program)(w:World)(b:Bool)(os:OsState):Seen×List RB:=(some (.next,1326,4423,cE p,⟨235,0,235,8⟩,true,#[],boot_drawn,os,aAq (D15 p (wf w b).params)),prB (g3G p w b os))
noncomputable def ok15(p:Program)(P:Params):Bool:=aEd (T14 p P) 1326 1326 (D15 p P)
noncomputable def g4G(p:Program)(w:World)(b:Bool)(os:OsState):RR:=rS p w b 1 1326 47 (nat_lit 162202048050938041459048437063199640440551903499033339310166080665522037579734460035216263177832216805258206975170753973679000617974359747094738065488046958446649586911) 2942 (S15 p (wf w b) os) (piecesOf (sl p.main.body 81 75) (env0 p) (cE p) ⟨235,0,235,8⟩ B0)
noncomputable def g4L(p:Program)(w:World)(b:Bool)(os:OsState):Seen×List RB:=(aB5 (aCc (D16 p (wf w b).params)) (g4G p w b os),prA (g4G p w b os))
noncomputable def g4R(p:Program)(w:World)(b:Bool)(os:OsState):Seen×List RB:=(some (.next,2238,5891,cE p,⟨1017,0,1052,15⟩,true,#[],boot_drawn,os,aAq (D16 p (wf w b).params)),prB (g4G p w b os))
noncomputable def ok16(p:Program)(P:Params):Bool:=aEd (T15 p P) 1326 2238 (D16 p P)
noncomputable def e1G(p:Program)(w:World)(b:Bool)(os:OsState):RR:=rS p w b 0 2238 0 (nat_lit 0) 2 (S16 p (wf w b) os) (⟨.pure (.done .next),cE p,⟨1017,0,1052,15⟩,B0⟩)
noncomputable def e1L(p:Program)(w:World)(b:Bool)(os:OsState):Seen×List RB:=(aB5 (aCc []) (e1G p w b os),prA (e1G p w b os))
noncomputable def e1R(p:Program)(w:World)(b:Bool)(os:OsState):Seen×List RB:=(some (.ret .none,2238,5891,.builtin "claim.caller" {},⟨0,0,0,0⟩,true,#[],boot_drawn,os,aAq []),prB (e1G p w b os))
lay_quick Mine.PL Mine.PR
lay_quick Mine.PX Mine.PY
lay_quick Mine.ok0 Mine.b0L
lay_quick Mine.b0R Mine.g1L
lay_quick Mine.g1R Mine.ok1
lay_quick Mine.AL Mine.AR
lay_quick Mine.AX Mine.AY
lay_quick Mine.ok2 Mine.kbL
lay_quick Mine.kbR Mine.FL
lay_quick Mine.FR Mine.FX
lay_quick Mine.FY Mine.ok3
lay_quick Mine.f0L Mine.f0R
lay_quick Mine.f1L Mine.f1R
lay_quick Mine.ok4 Mine.f2L
lay_quick Mine.f2R Mine.ok5
lay_quick Mine.f3L Mine.f3R
lay_quick Mine.ok6 Mine.f4L
lay_quick Mine.f4R Mine.ok7
lay_quick Mine.f5L Mine.f5R
lay_quick Mine.ok8 Mine.k1Lc
lay_quick Mine.k1Rc Mine.ok9
lay_quick Mine.k2Lc Mine.k2Rc
lay_quick Mine.ok10 Mine.k3Lc
lay_quick Mine.k3Rc Mine.ok11
lay_quick Mine.k4Lc Mine.k4Rc
lay_quick Mine.ok12 Mine.k5L
lay_quick Mine.k5R Mine.ok13
lay_quick Mine.g2L Mine.g2R
lay_quick Mine.ok17 Mine.g5Lc
lay_quick Mine.g5Rc Mine.ok14
lay_quick Mine.g3L
lay_quick Mine.g3R Mine.ok15
lay_quick Mine.g4L Mine.g4R
lay_quick Mine.ok16 Mine.e1L
lay_quick Mine.e1R
theorem bY3(w:World)(b:Bool)(os:OsState):PySem.W.Fast.tw9588804118351252907 pw w b os=PySem.W.Fast.tw7958758591476829057 pw w b os:=aAa (by k_slotget)
theorem bKy(P:Params):Mine.ok1 pw P=true:=aAa (by k_slotget)
theorem A_v(w:World)(b:Bool)(os:OsState):PySem.W.Fast.tw16996473458877569837 pw w b os=PySem.W.Fast.tw4589257599896061007 pw w b os:=aAa (by k_slotget)
theorem cA5(w:World)(b:Bool)(os:OsState):PySem.W.Fast.tw11329468437036916810 pw w b os=PySem.W.Fast.tw10715460683722531910 pw w b os:=aAa (by k_slotget)
theorem bKw(P:Params):Mine.ok2 pw P=true:=aAa (by k_slotget)
theorem bX7(w:World)(b:Bool)(os:OsState):PySem.W.Fast.tw6670847731854367270 pw w b os=PySem.W.Fast.tw13701746702511309733 pw w b os:=aAa (by k_slotget)
theorem F_v(w:World)(b:Bool)(os:OsState):PySem.W.Fast.tw5806207915472016589 pw w b os=PySem.W.Fast.tw692864426593075864 pw w b os:=aAa (by k_slotget)
theorem cAe(w:World)(b:Bool)(os:OsState):PySem.W.Fast.tw385687049628483166 pw w b os=PySem.W.Fast.tw2272141232180619779 pw w b os:=aAa (by k_slotget)
theorem bKu(P:Params):Mine.ok3 pw P=true:=aAa (by k_slotget)
theorem bZm(w:World)(b:Bool)(os:OsState):PySem.W.Fast.tw13091977617976505578 pw w b os=PySem.W.Fast.tw15536097115767189893 pw w b os:=aAa (by k_slotget)
theorem bZa(w:World)(b:Bool)(os:OsState):PySem.W.Fast.tw18035445846385052267 pw w b os=PySem.W.Fast.tw9023676639306687168 pw w b os:=aAa (by k_slotget)
theorem bKm(P:Params):Mine.ok7 pw P=true:=aAa (by k_slotget)
theorem bY7(w:World)(b:Bool)(os:OsState):PySem.W.Fast.tw9158924615000684045 pw w b os=PySem.W.Fast.tw6470231775247104867 pw w b os:=aAa (by k_slotget)
theorem bKk(P:Params):Mine.ok8 pw P=true:=aAa (by k_slotget)
theorem bYa(w:World)(b:Bool)(os:OsState):PySem.W.Fast.tw17773488148790343662 pw w b os=PySem.W.Fast.tw1235828557660505163 pw w b os:=aAa (by k_slotget)
theorem bBt(P:Params):Mine.ok13 pw P=true:=aAa (by k_slotget)
theorem bYx(w:World)(b:Bool)(os:OsState):PySem.W.Fast.tw16159552291436763957 pw w b os=PySem.W.Fast.tw13288564745619151606 pw w b os:=aAa (by k_slotget)
theorem bBp(P:Params):Mine.ok15 pw P=true:=aAa (by k_slotget)
theorem bZj(w:World)(b:Bool)(os:OsState):PySem.W.Fast.tw2810258696894818080 pw w b os=PySem.W.Fast.tw209020484999160636 pw w b os:=aAa (by k_slotget)
theorem bKs(P:Params):Mine.ok4 pw P=true:=aAa (by k_slotget)
theorem bZg(w:World)(b:Bool)(os:OsState):PySem.W.Fast.tw10922169470897902743 pw w b os=PySem.W.Fast.tw18090686364414206119 pw w b os:=aAa (by k_slotget)
theorem bKq(P:Params):Mine.ok5 pw P=true:=aAa (by k_slotget)
theorem bZd(w:World)(b:Bool)(os:OsState):PySem.W.Fast.tw6075106442219943775 pw w b os=PySem.W.Fast.tw586148729730072234 pw w b os:=aAa (by k_slotget)
theorem bKo(P:Params):Mine.ok6 pw P=true:=aAa (by k_slotget)
theorem bYm(w:World)(c b:Bool)(os:OsState):PySem.W.Fast.tw8446052708872322797 pw w c b os=PySem.W.Fast.tw6964882779058855270 pw w c b os:=aAa (by k_slotget)
theorem bKi(P:Params):Mine.ok9 pw P=true:=aAa (by k_slotget)
theorem bYd(w:World)(c b:Bool)(os:OsState):PySem.W.Fast.tw4148589339419333408 pw w c b os=PySem.W.Fast.tw17262092865370245688 pw w c b os:=aAa (by k_slotget)
theorem bBv(P:Params):Mine.ok12 pw P=true:=aAa (by k_slotget)
theorem bYj(w:World)(c b:Bool)(os:OsState):PySem.W.Fast.tw7422928889339467704 pw w c b os=PySem.W.Fast.tw5906136293618658792 pw w c b os:=aAa (by k_slotget)
theorem bBz(P:Params):Mine.ok10 pw P=true:=aAa (by k_slotget)
theorem bYg(w:World)(c b:Bool)(os:OsState):PySem.W.Fast.tw662114681984696309 pw w c b os=PySem.W.Fast.tw4472108207669296149 pw w c b os:=aAa (by k_slotget)
theorem bBx(P:Params):Mine.ok11 pw P=true:=aAa (by k_slotget)
theorem bY0(w:World)(b:Bool)(os:OsState):PySem.W.Fast.tw14880781879824825961 pw w b os=PySem.W.Fast.tw14999650417434021013 pw w b os:=aAa (by k_slotget)
theorem bBl(P:Params):Mine.ok17 pw P=true:=aAa (by k_slotget)
theorem bYr(w:World)(c b:Bool)(os:OsState):PySem.W.Fast.tw2483748401269257534 pw w c b os=PySem.W.Fast.tw18277465673364467919 pw w c b os:=aAa (by k_slotget)
theorem bBr(P:Params):Mine.ok14 pw P=true:=aAa (by k_slotget)
theorem bYu(w:World)(b:Bool)(os:OsState):PySem.W.Fast.tw15834100501186273958 pw w b os=PySem.W.Fast.tw15940780887796651855 pw w b os:=aAa (by k_slotget)
theorem bBn(P:Params):Mine.ok16 pw P=true:=aAa (by k_slotget)
theorem P_v(w:World)(b:Bool)(os:OsState):PySem.W.Fast.tw9597475453388154465 pw w b os=PySem.W.Fast.tw8270569564782688562 pw w b os:=aAa (by k_slotget)
theorem cAc(w:World)(b:Bool)(os:OsState):PySem.W.Fast.tw11443315224394572708 pw w b os=PySem.W.Fast.tw5425466910448837421 pw w b os:=aAa (by k_slotget)
theorem bK0(P:Params):Mine.ok0 pw P=true:=aAa (by k_slotget)
theorem bZ9(w:World)(b:Bool)(os:OsState):PySem.W.Fast.tw7362045505482810672 pw w b os=PySem.W.Fast.tw115504267266053916 pw w b os:=aAa (by k_slotget)
theorem bZ0(w:World)(b:Bool)(os:OsState):PySem.W.Fast.tw15579843232970039105 pw w b os=PySem.W.Fast.tw18370583350962266113 pw w b os:=aAa (by k_slotget)
theorem aD9{t:Thread}{cur:Sem Fin}{pos:Pos}(h1:t.cur=cur)(h2:t.pos=pos):t=⟨cur,t.code,pos,t.stack⟩:=by
 cases t;cases h1;cases h2;rfl
section
variable {p:Program} {w:World} {b d:Nat} {B:List Frame} {env:Env}
theorem aO8(hB:splitAtGen B=none)(hd:B.length=d)(hb:b<d){n:Nat}{s s':Shared}{l:List Stmt}{c c':Code}{pos p':Pos}{f:Flow}
  (h:segRun treeTable p w 11 (some (.ref 6)) d n s (blockOf l env c pos B)=some (f,s',c',p')) :
  Leads p w b n s ⟨denote treeTable (.body l env),c,pos,B⟩ s' (aE7 doneF (leaveH env) (l.drop 0) env c' p' B):=by
 subst hd
 exact aK8 hB hb h
theorem aYi(hB:splitAtGen B=none)(hd:B.length=d)(hb:b<d){n:Nat}{s s':Shared}{l:List Stmt}{c c':Code}{pos p':Pos}{f:Flow}
  (h:segRun treeTable p w 11 (some (.ref 6)) d n s (aEg c pos B)=some (f,s',c',p')) :
  Leads p w b n s ⟨denote treeTable (.func l env),c,pos,B⟩ s' (aE7 aMc (aC4 env) (l.drop 0) env c' p' B):=by
 subst hd
 exact aK7 hB hb h
theorem aBe(hB:splitAtGen B=none)(hd:B.length=d)(hb:b<d){K:Flow→Sem Fin}{H:Value→Sem Fin}{n i m j:Nat}{s s':Shared}{l:List Stmt}{c c':Code}{pos p':Pos}(hj:i+m=j)
  (h:segRun treeTable p w 11 (some (.ref 6)) d n s (piecesOf ((l.drop i).take m) env c pos B)=some (.next,s',c',p')) :
  Leads p w b n s (aE7 K H (l.drop i) env c pos B) s' (aE7 K H (l.drop j) env c' p' B):=by
 subst hd hj
 rw[aFq l i m]
 exact aHd (f:=.next) hB hb h
theorem bDn(hB:splitAtGen B=none)(hd:B.length=d)(hb:b<d){H:Value→Sem Fin}{n i m:Nat}{s s':Shared}{l:List Stmt}{c c':Code}{pos p':Pos}{v:Value}
  (h:segRun treeTable p w 11 (some (.ref 6)) d n s (piecesOf ((l.drop i).take m) env c pos B)=some (.ret v,s',c',p')) :
  Leads p w b n s (aE7 aMc H (l.drop i) env c pos B) s' ⟨ret v,c',p',B⟩:=by
 subst hd
 rw[aFq l i m]
 exact aHd (f:=.ret v) hB hb h
theorem aT1{s:Shared}{l:List Stmt}{i:Nat}{H:Value→Sem Fin}{c:Code}{pos:Pos}(hl:l.length≤i):Leads p w b 0 s (aE7 doneF H (l.drop i) env c pos B) s ⟨.pure (.done .next),c,pos,B⟩:=by
 rw[List.drop_eq_nil_of_le hl]
 intro N r q
 rw[Nat.zero_add]
 exact q
end
theorem aKn{t:Thread}:through t=(endAt 0 t).isSome:=by
 obtain⟨cur,code,pos,st⟩:=t
 cases st with
 |cons=>rfl
 |nil =>
  cases cur with
  |pure x=>cases x<;>rfl
  |_=>rfl
theorem aDd{tb:String→Option Builtin}{p:Program}{w:World}{n₀:Nat}{ann:Option Value}{f:Flow}{s':Shared}{c:Code}{q:Pos}:∀ (n:Nat) (s:Shared) (t:Thread),segRun tb p w n₀ ann 0 n s t=some (f,s',c,q)→topRun tb p w n₀ ann n s t=some s'
 | 0,_,_,h=>nnS h
 |n+1,s,t,h=>by
  unfold segRun at h
  unfold topRun
  rw[aKn]
  generalize endAt 0 t=o at h ⊢
  cases o with
  |some g=>cases h;rfl
  |none =>
   generalize stepOk n₀ ann t=o at h
   cases o with
   |false=>exact nnS h
   |true =>
    generalize hs:step (denote tb) p w s t=o at h
    cases o with
    |halt o s'=>exact nnS h
    |go s₂ t₂=>exact aDd n s₂ t₂ h
theorem P_b(w:World)(b:Bool)(os:OsState):PL pw w b os=PR pw w b os:=((congrFun (congrFun (congrFun (congrFun PySem.W.Fast.te9597475453388154465 pw) w) b) os)).trans ((P_v w b os).trans ((congrFun (congrFun (congrFun (congrFun PySem.W.Fast.te8270569564782688562 pw) w) b) os)).symm)
theorem cAd(w:World)(b:Bool)(os:OsState):PX pw w b os=PY pw w b os:=((congrFun (congrFun (congrFun (congrFun PySem.W.Fast.te11443315224394572708 pw) w) b) os)).trans ((cAc w b os).trans ((congrFun (congrFun (congrFun (congrFun PySem.W.Fast.te5425466910448837421 pw) w) b) os)).symm)
theorem bK1(P:Params):ok0 pw P=true:=(rfl).trans (bK0 P)
theorem cAb(w:World)(b:Bool)(os:OsState):b0L pw w b os=b0R pw w b os:=((congrFun (congrFun (congrFun (congrFun PySem.W.Fast.te7362045505482810672 pw) w) b) os)).trans ((bZ9 w b os).trans ((congrFun (congrFun (congrFun (congrFun PySem.W.Fast.te115504267266053916 pw) w) b) os)).symm)
theorem bY5(w:World)(b:Bool)(os:OsState):g1L pw w b os=g1R pw w b os:=((congrFun (congrFun (congrFun (congrFun PySem.W.Fast.te9588804118351252907 pw) w) b) os)).trans ((bY3 w b os).trans ((congrFun (congrFun (congrFun (congrFun PySem.W.Fast.te7958758591476829057 pw) w) b) os)).symm)
theorem bKz(P:Params):ok1 pw P=true:=(rfl).trans (bKy P)
theorem A_b(w:World)(b:Bool)(os:OsState):AL pw w b os=AR pw w b os:=((congrFun (congrFun (congrFun (congrFun PySem.W.Fast.te16996473458877569837 pw) w) b) os)).trans ((A_v w b os).trans ((congrFun (congrFun (congrFun (congrFun PySem.W.Fast.te4589257599896061007 pw) w) b) os)).symm)
theorem cA6(w:World)(b:Bool)(os:OsState):AX pw w b os=AY pw w b os:=((congrFun (congrFun (congrFun (congrFun PySem.W.Fast.te11329468437036916810 pw) w) b) os)).trans ((cA5 w b os).trans ((congrFun (congrFun (congrFun (congrFun PySem.W.Fast.te10715460683722531910 pw) w) b) os)).symm)
theorem bKx(P:Params):ok2 pw P=true:=(rfl).trans (bKw P)
theorem bX9(w:World)(b:Bool)(os:OsState):kbL pw w b os=kbR pw w b os:=((congrFun (congrFun (congrFun (congrFun PySem.W.Fast.te6670847731854367270 pw) w) b) os)).trans ((bX7 w b os).trans ((congrFun (congrFun (congrFun (congrFun PySem.W.Fast.te13701746702511309733 pw) w) b) os)).symm)
theorem F_b(w:World)(b:Bool)(os:OsState):FL pw w b os=FR pw w b os:=((congrFun (congrFun (congrFun (congrFun PySem.W.Fast.te5806207915472016589 pw) w) b) os)).trans ((F_v w b os).trans ((congrFun (congrFun (congrFun (congrFun PySem.W.Fast.te692864426593075864 pw) w) b) os)).symm)
theorem cAf(w:World)(b:Bool)(os:OsState):FX pw w b os=FY pw w b os:=((congrFun (congrFun (congrFun (congrFun PySem.W.Fast.te385687049628483166 pw) w) b) os)).trans ((cAe w b os).trans ((congrFun (congrFun (congrFun (congrFun PySem.W.Fast.te2272141232180619779 pw) w) b) os)).symm)
theorem bKv(P:Params):ok3 pw P=true:=(rfl).trans (bKu P)
theorem bZo(w:World)(b:Bool)(os:OsState):f0L pw w b os=f0R pw w b os:=((congrFun (congrFun (congrFun (congrFun PySem.W.Fast.te13091977617976505578 pw) w) b) os)).trans ((bZm w b os).trans ((congrFun (congrFun (congrFun (congrFun PySem.W.Fast.te15536097115767189893 pw) w) b) os)).symm)
theorem bZl(w:World)(b:Bool)(os:OsState):f1L pw w b os=f1R pw w b os:=((congrFun (congrFun (congrFun (congrFun PySem.W.Fast.te2810258696894818080 pw) w) b) os)).trans ((bZj w b os).trans ((congrFun (congrFun (congrFun (congrFun PySem.W.Fast.te209020484999160636 pw) w) b) os)).symm)
theorem bKt(P:Params):ok4 pw P=true:=(rfl).trans (bKs P)
theorem bZi(w:World)(b:Bool)(os:OsState):f2L pw w b os=f2R pw w b os:=((congrFun (congrFun (congrFun (congrFun PySem.W.Fast.te10922169470897902743 pw) w) b) os)).trans ((bZg w b os).trans ((congrFun (congrFun (congrFun (congrFun PySem.W.Fast.te18090686364414206119 pw) w) b) os)).symm)
theorem bKr(P:Params):ok5 pw P=true:=(rfl).trans (bKq P)
theorem bZf(w:World)(b:Bool)(os:OsState):f3L pw w b os=f3R pw w b os:=((congrFun (congrFun (congrFun (congrFun PySem.W.Fast.te6075106442219943775 pw) w) b) os)).trans ((bZd w b os).trans ((congrFun (congrFun (congrFun (congrFun PySem.W.Fast.te586148729730072234 pw) w) b) os)).symm)
theorem bKp(P:Params):ok6 pw P=true:=(rfl).trans (bKo P)
theorem bZc(w:World)(b:Bool)(os:OsState):f4L pw w b os=f4R pw w b os:=((congrFun (congrFun (congrFun (congrFun PySem.W.Fast.te18035445846385052267 pw) w) b) os)).trans ((bZa w b os).trans ((congrFun (congrFun (congrFun (congrFun PySem.W.Fast.te9023676639306687168 pw) w) b) os)).symm)
theorem bKn(P:Params):ok7 pw P=true:=(rfl).trans (bKm P)
theorem bY9(w:World)(b:Bool)(os:OsState):f5L pw w b os=f5R pw w b os:=((congrFun (congrFun (congrFun (congrFun PySem.W.Fast.te9158924615000684045 pw) w) b) os)).trans ((bY7 w b os).trans ((congrFun (congrFun (congrFun (congrFun PySem.W.Fast.te6470231775247104867 pw) w) b) os)).symm)
theorem bKl(P:Params):ok8 pw P=true:=(rfl).trans (bKk P)
theorem bYo(w:World)(c b:Bool)(os:OsState):k1Lc pw w c b os=k1Rc pw w c b os:=((congrFun (congrFun (congrFun (congrFun (congrFun PySem.W.Fast.te8446052708872322797 pw) w) c) b) os)).trans ((bYm w c b os).trans ((congrFun (congrFun (congrFun (congrFun (congrFun PySem.W.Fast.te6964882779058855270 pw) w) c) b) os)).symm)
theorem bKj(P:Params):ok9 pw P=true:=(rfl).trans (bKi P)
theorem bYl(w:World)(c b:Bool)(os:OsState):k2Lc pw w c b os=k2Rc pw w c b os:=((congrFun (congrFun (congrFun (congrFun (congrFun PySem.W.Fast.te7422928889339467704 pw) w) c) b) os)).trans ((bYj w c b os).trans ((congrFun (congrFun (congrFun (congrFun (congrFun PySem.W.Fast.te5906136293618658792 pw) w) c) b) os)).symm)
theorem bB0(P:Params):ok10 pw P=true:=(rfl).trans (bBz P)
theorem bYi(w:World)(c b:Bool)(os:OsState):k3Lc pw w c b os=k3Rc pw w c b os:=((congrFun (congrFun (congrFun (congrFun (congrFun PySem.W.Fast.te662114681984696309 pw) w) c) b) os)).trans ((bYg w c b os).trans ((congrFun (congrFun (congrFun (congrFun (congrFun PySem.W.Fast.te4472108207669296149 pw) w) c) b) os)).symm)
theorem bBy(P:Params):ok11 pw P=true:=(rfl).trans (bBx P)
theorem bYf(w:World)(c b:Bool)(os:OsState):k4Lc pw w c b os=k4Rc pw w c b os:=((congrFun (congrFun (congrFun (congrFun (congrFun PySem.W.Fast.te4148589339419333408 pw) w) c) b) os)).trans ((bYd w c b os).trans ((congrFun (congrFun (congrFun (congrFun (congrFun PySem.W.Fast.te17262092865370245688 pw) w) c) b) os)).symm)
theorem bBw(P:Params):ok12 pw P=true:=(rfl).trans (bBv P)
theorem bYc(w:World)(b:Bool)(os:OsState):k5L pw w b os=k5R pw w b os:=((congrFun (congrFun (congrFun (congrFun PySem.W.Fast.te17773488148790343662 pw) w) b) os)).trans ((bYa w b os).trans ((congrFun (congrFun (congrFun (congrFun PySem.W.Fast.te1235828557660505163 pw) w) b) os)).symm)
theorem bBu(P:Params):ok13 pw P=true:=(rfl).trans (bBt P)
theorem bY2(w:World)(b:Bool)(os:OsState):g2L pw w b os=g2R pw w b os:=((congrFun (congrFun (congrFun (congrFun PySem.W.Fast.te14880781879824825961 pw) w) b) os)).trans ((bY0 w b os).trans ((congrFun (congrFun (congrFun (congrFun PySem.W.Fast.te14999650417434021013 pw) w) b) os)).symm)
theorem bBm(P:Params):ok17 pw P=true:=(rfl).trans (bBl P)
theorem bYt(w:World)(c b:Bool)(os:OsState):g5Lc pw w c b os=g5Rc pw w c b os:=((congrFun (congrFun (congrFun (congrFun (congrFun PySem.W.Fast.te2483748401269257534 pw) w) c) b) os)).trans ((bYr w c b os).trans ((congrFun (congrFun (congrFun (congrFun (congrFun PySem.W.Fast.te18277465673364467919 pw) w) c) b) os)).symm)
theorem bBs(P:Params):ok14 pw P=true:=(rfl).trans (bBr P)
theorem bYz(w:World)(b:Bool)(os:OsState):g3L pw w b os=g3R pw w b os:=((congrFun (congrFun (congrFun (congrFun PySem.W.Fast.te16159552291436763957 pw) w) b) os)).trans ((bYx w b os).trans ((congrFun (congrFun (congrFun (congrFun PySem.W.Fast.te13288564745619151606 pw) w) b) os)).symm)
theorem bBq(P:Params):ok15 pw P=true:=(rfl).trans (bBp P)
theorem bYw(w:World)(b:Bool)(os:OsState):g4L pw w b os=g4R pw w b os:=((congrFun (congrFun (congrFun (congrFun PySem.W.Fast.te15834100501186273958 pw) w) b) os)).trans ((bYu w b os).trans ((congrFun (congrFun (congrFun (congrFun PySem.W.Fast.te15940780887796651855 pw) w) b) os)).symm)
theorem bBo(P:Params):ok16 pw P=true:=(rfl).trans (bBn P)
theorem bZ2(w:World)(b:Bool)(os:OsState):e1L pw w b os=e1R pw w b os:=((congrFun (congrFun (congrFun (congrFun PySem.W.Fast.te15579843232970039105 pw) w) b) os)).trans ((bZ0 w b os).trans ((congrFun (congrFun (congrFun (congrFun PySem.W.Fast.te18370583350962266113 pw) w) b) os)).symm)
theorem wfs(w:World)(b:Bool):wf w b=wf w true∨wf w b=wf w false:=by cases b;exact .inr rfl;exact .inl rfl
theorem wcs(w:World)(c b:Bool):wf (wc w c) b=wf (wc w true) b∨wf (wc w c) b=wf (wc w false) true∨wf (wc w c) b=wf (wc w false) false:=by cases c;cases b;exact .inr (.inr rfl);exact .inr (.inl rfl);exact .inl rfl
theorem P_s(w:World)(b:Bool)(os:OsState):segGo treeTable pw (wf w b) 11 aBz 0 12 (Sb pw (wf w b) os).abs (topStub pw)=some ((S0 pw (wf w b) os).abs,tP pw w b os):=by
 have h:=P_b w b os
 have ok:=bK1 (wf w b).params
 unfold ok0 at ok
 unfold PL PR PG Sb at h
 unfold tP PG Sb S0 T0
 exact aIy h ok
theorem cAa(w:World)(b:Bool)(os:OsState):segRun treeTable pw (wf w b) 11 aBz 1 1 (S0 pw (wf w b) os).abs (blockOf pw.main.body (env0 pw) (cE pw) ⟨0,0,0,0⟩ B0)=some (.next,(S0 pw (wf w b) os).abs,cE pw,⟨0,0,0,0⟩):=by
 have h:=cAb w b os
 unfold b0L b0R b0G rS S0 at h
 unfold S0
 exact aGi (wfs w b) (.inl rfl) h
theorem bY4(w:World)(b:Bool)(os:OsState):segRun treeTable pw (wf w b) 11 aBz 1 3098 (S0 pw (wf w b) os).abs (piecesOf (sl pw.main.body 0 24) (env0 pw) (cE pw) ⟨0,0,0,0⟩ B0)=some (.next,(S1 pw (wf w b) os).abs,cE pw,⟨84,0,101,16⟩):=by
 have h:=bY5 w b os
 have ok:=bKz (wf w b).params
 unfold ok1 at ok
 unfold g1L g1R g1G rS S0 at h
 unfold S0 S1 T1
 exact aBm (wfs w b) (.inl rfl) h ok (aAa (by k_slotget))
theorem A_s(w:World)(b:Bool)(os:OsState):segGo treeTable pw (wf w b) 11 aBz 1 59 (S1 pw (wf w b) os).abs (piecesOf (sl pw.main.body 24 1) (env0 pw) (cE pw) ⟨84,0,101,16⟩ B0)=some ((S2 pw (wf w b) os).abs,tA pw w b os):=by
 have h:=A_b w b os
 have ok:=bKx (wf w b).params
 unfold ok2 at ok
 unfold AL AR AG S1 at h
 unfold tA AG S1 S2 T2
 exact aIy h ok
theorem bX8(w:World)(b:Bool)(os:OsState):segRun treeTable pw (wf w b) 11 aBz 2 1 (S2 pw (wf w b) os).abs (blockOf (cb pw) (aBr pw (tA pw w b os).code) (tA pw w b os).code ⟨102,0,108,79⟩ (tA pw w b os).stack)=some (.next,(S2 pw (wf w b) os).abs,(tA pw w b os).code,⟨102,0,108,79⟩):=by
 have h:=bX9 w b os
 unfold kbL kbR kbG rS S2 at h
 unfold S2
 exact aGi (wfs w b) (.inl rfl) h
theorem F_s(w:World)(b:Bool)(os:OsState):segGo treeTable pw (wf w b) 11 aBz 2 14 (S2 pw (wf w b) os).abs (piecesOf (sl (cb pw) 0 1) (aBr pw (tA pw w b os).code) (tA pw w b os).code ⟨102,0,108,79⟩ (tA pw w b os).stack)=some ((S3 pw (wf w b) os).abs,tF pw w b os):=by
 have h:=F_b w b os
 have ok:=bKv (wf w b).params
 unfold ok3 at ok
 unfold FL FR FG S2 at h
 unfold tF FG S2 S3 T3
 exact aIy h ok
theorem bZn(w:World)(b:Bool)(os:OsState):segRun treeTable pw (wf w b) 11 aBz 3 2 (S3 pw (wf w b) os).abs (aEg (tF pw w b os).code ⟨103,13,103,21⟩ (tF pw w b os).stack)=some (.next,(S3 pw (wf w b) os).abs,(tF pw w b os).code,⟨103,13,103,21⟩):=by
 have h:=bZo w b os
 unfold f0L f0R f0G rS S3 at h
 unfold S3
 exact aGi (wfs w b) (.inl rfl) h
theorem bZk(w:World)(b:Bool)(os:OsState):segRun treeTable pw (wf w b) 11 aBz 3 9941 (S3 pw (wf w b) os).abs (piecesOf (sl (fb pw) 0 5) (aBr pw (tF pw w b os).code) (tF pw w b os).code ⟨103,13,103,21⟩ (tF pw w b os).stack)=some (.next,(S4 pw (wf w b) os).abs,(tF pw w b os).code,⟨89,4,89,79⟩):=by
 have h:=bZl w b os
 have ok:=bKt (wf w b).params
 unfold ok4 at ok
 unfold f1L f1R f1G rS S3 at h
 unfold S3 S4 T4
 exact aBm (wfs w b) (.inl rfl) h ok (aAa (by k_slotget))
theorem bZh(w:World)(b:Bool)(os:OsState):segRun treeTable pw (wf w b) 11 aBz 3 7354 (S4 pw (wf w b) os).abs (piecesOf (sl (fb pw) 5 4) (aBr pw (tF pw w b os).code) (tF pw w b os).code ⟨89,4,89,79⟩ (tF pw w b os).stack)=some (.next,(S5 pw (wf w b) os).abs,(tF pw w b os).code,⟨93,4,93,64⟩):=by
 have h:=bZi w b os
 have ok:=bKr (wf w b).params
 unfold ok5 at ok
 unfold f2L f2R f2G rS S4 at h
 unfold S4 S5 T5
 exact aBm (wfs w b) (.inl rfl) h ok (aAa (by k_slotget))
theorem bZe(w:World)(b:Bool)(os:OsState):segRun treeTable pw (wf w b) 11 aBz 3 9642 (S5 pw (wf w b) os).abs (piecesOf (sl (fb pw) 9 6) (aBr pw (tF pw w b os).code) (tF pw w b os).code ⟨93,4,93,64⟩ (tF pw w b os).stack)=some (.next,(S6 pw (wf w b) os).abs,(tF pw w b os).code,⟨99,24,99,97⟩):=by
 have h:=bZf w b os
 have ok:=bKp (wf w b).params
 unfold ok6 at ok
 unfold f3L f3R f3G rS S5 at h
 unfold S5 S6 T6
 exact aBm (wfs w b) (.inl rfl) h ok (aAa (by k_slotget))
theorem bZb(w:World)(b:Bool)(os:OsState):segRun treeTable pw (wf w b) 11 aBz 3 4 (S6 pw (wf w b) os).abs (piecesOf (sl (fb pw) 15 2) (aBr pw (tF pw w b os).code) (tF pw w b os).code ⟨99,24,99,97⟩ (tF pw w b os).stack)=some (.ret (.ref 209),(S7 pw (wf w b) os).abs,(tF pw w b os).code,⟨101,11,101,16⟩):=by
 have h:=bZc w b os
 have ok:=bKn (wf w b).params
 unfold ok7 at ok
 unfold f4L f4R f4G rS S6 at h
 unfold S6 S7 T7
 exact aBm (wfs w b) (.inl rfl) h ok (aAa (by k_slotget))
theorem bY8(w:World)(b:Bool)(os:OsState):segRun treeTable pw (wf w b) 11 aBz 2 11 (S7 pw (wf w b) os).abs (⟨ret (.ref 209),(tF pw w b os).code,⟨101,11,101,16⟩,(tF pw w b os).stack⟩)=some (.next,(S8 pw (wf w b) os).abs,(tA pw w b os).code,⟨103,4,103,10⟩):=by
 have h:=bY9 w b os
 have ok:=bKl (wf w b).params
 unfold ok8 at ok
 unfold f5L f5R f5G rS S7 at h
 unfold S7 S8 T8
 exact aBm (wfs w b) (.inl rfl) h ok (aAa (by k_slotget))
theorem bPn(w:World)(c b:Bool)(os:OsState):segRun treeTable pw (wf (wc w c) b) 11 aBz 2 8556 (S8 pw (wf (wc w c) b) os).abs (piecesOf (sl (cb pw) 1 2) (aBr pw (tA pw (wc w c) b os).code) (tA pw (wc w c) b os).code ⟨103,4,103,10⟩ (tA pw (wc w c) b os).stack)=some (.next,(S9 pw (wf (wc w c) b) os).abs,(tA pw (wc w c) b os).code,⟨105,4,105,13⟩):=by
 have h:=bYo w c b os
 have ok:=bKj (wf (wc w c) b).params
 unfold ok9 at ok
 unfold k1Lc k1Rc k1G rC S8 at h
 unfold S8 S9 T9
 exact aBm (wfs (wc w c) b) (wcs w c b) h ok (aAa (by k_slotget))
theorem bYn(w:World)(b:Bool)(os:OsState):segRun treeTable pw (wf w b) 11 aBz 2 8556 (S8 pw (wf w b) os).abs (piecesOf (sl (cb pw) 1 2) (aBr pw (tA pw w b os).code) (tA pw w b os).code ⟨103,4,103,10⟩ (tA pw w b os).stack)=some (.next,(S9 pw (wf w b) os).abs,(tA pw w b os).code,⟨105,4,105,13⟩):=byRow2 "comprehension-iter-twice" (P:=fun w=>segRun treeTable pw (wf w b) 11 aBz 2 8556 (S8 pw (wf w b) os).abs (piecesOf (sl (cb pw) 1 2) (aBr pw (tA pw w b os).code) (tA pw w b os).code ⟨103,4,103,10⟩ (tA pw w b os).stack)=some (.next,(S9 pw (wf w b) os).abs,(tA pw w b os).code,⟨105,4,105,13⟩)) (fun w=>bPn w false b os) (fun w=>bPn w true b os) w
theorem bPm(w:World)(c b:Bool)(os:OsState):segRun treeTable pw (wf (wc w c) b) 11 aBz 2 10891 (S9 pw (wf (wc w c) b) os).abs (piecesOf (sl (cb pw) 3 1) (aBr pw (tA pw (wc w c) b os).code) (tA pw (wc w c) b os).code ⟨105,4,105,13⟩ (tA pw (wc w c) b os).stack)=some (.next,(S10 pw (wf (wc w c) b) os).abs,(tA pw (wc w c) b os).code,⟨106,4,106,12⟩):=by
 have h:=bYl w c b os
 have ok:=bB0 (wf (wc w c) b).params
 unfold ok10 at ok
 unfold k2Lc k2Rc k2G rC S9 at h
 unfold S9 S10 T10
 exact aBm (wfs (wc w c) b) (wcs w c b) h ok (aAa (by k_slotget))
theorem bYk(w:World)(b:Bool)(os:OsState):segRun treeTable pw (wf w b) 11 aBz 2 10891 (S9 pw (wf w b) os).abs (piecesOf (sl (cb pw) 3 1) (aBr pw (tA pw w b os).code) (tA pw w b os).code ⟨105,4,105,13⟩ (tA pw w b os).stack)=some (.next,(S10 pw (wf w b) os).abs,(tA pw w b os).code,⟨106,4,106,12⟩):=byRow2 "comprehension-iter-twice" (P:=fun w=>segRun treeTable pw (wf w b) 11 aBz 2 10891 (S9 pw (wf w b) os).abs (piecesOf (sl (cb pw) 3 1) (aBr pw (tA pw w b os).code) (tA pw w b os).code ⟨105,4,105,13⟩ (tA pw w b os).stack)=some (.next,(S10 pw (wf w b) os).abs,(tA pw w b os).code,⟨106,4,106,12⟩)) (fun w=>bPm w false b os) (fun w=>bPm w true b os) w
theorem bPl(w:World)(c b:Bool)(os:OsState):segRun treeTable pw (wf (wc w c) b) 11 aBz 2 8061 (S10 pw (wf (wc w c) b) os).abs (piecesOf (sl (cb pw) 4 1) (aBr pw (tA pw (wc w c) b os).code) (tA pw (wc w c) b os).code ⟨106,4,106,12⟩ (tA pw (wc w c) b os).stack)=some (.next,(S11 pw (wf (wc w c) b) os).abs,(tA pw (wc w c) b os).code,⟨107,4,107,14⟩):=by
 have h:=bYi w c b os
 have ok:=bBy (wf (wc w c) b).params
 unfold ok11 at ok
 unfold k3Lc k3Rc k3G rC S10 at h
 unfold S10 S11 T11
 exact aBm (wfs (wc w c) b) (wcs w c b) h ok (aAa (by k_slotget))
theorem bYh(w:World)(b:Bool)(os:OsState):segRun treeTable pw (wf w b) 11 aBz 2 8061 (S10 pw (wf w b) os).abs (piecesOf (sl (cb pw) 4 1) (aBr pw (tA pw w b os).code) (tA pw w b os).code ⟨106,4,106,12⟩ (tA pw w b os).stack)=some (.next,(S11 pw (wf w b) os).abs,(tA pw w b os).code,⟨107,4,107,14⟩):=byRow2 "comprehension-iter-twice" (P:=fun w=>segRun treeTable pw (wf w b) 11 aBz 2 8061 (S10 pw (wf w b) os).abs (piecesOf (sl (cb pw) 4 1) (aBr pw (tA pw w b os).code) (tA pw w b os).code ⟨106,4,106,12⟩ (tA pw w b os).stack)=some (.next,(S11 pw (wf w b) os).abs,(tA pw w b os).code,⟨107,4,107,14⟩)) (fun w=>bPl w false b os) (fun w=>bPl w true b os) w
theorem bPk(w:World)(c b:Bool)(os:OsState):segRun treeTable pw (wf (wc w c) b) 11 aBz 2 3466 (S11 pw (wf (wc w c) b) os).abs (piecesOf (sl (cb pw) 5 1) (aBr pw (tA pw (wc w c) b os).code) (tA pw (wc w c) b os).code ⟨107,4,107,14⟩ (tA pw (wc w c) b os).stack)=some (.next,(S12 pw (wf (wc w c) b) os).abs,(tA pw (wc w c) b os).code,⟨108,4,108,9⟩):=by
 have h:=bYf w c b os
 have ok:=bBw (wf (wc w c) b).params
 unfold ok12 at ok
 unfold k4Lc k4Rc k4G rC S11 at h
 unfold S11 S12 T12
 exact aBm (wfs (wc w c) b) (wcs w c b) h ok (aAa (by k_slotget))
theorem bYe(w:World)(b:Bool)(os:OsState):segRun treeTable pw (wf w b) 11 aBz 2 3466 (S11 pw (wf w b) os).abs (piecesOf (sl (cb pw) 5 1) (aBr pw (tA pw w b os).code) (tA pw w b os).code ⟨107,4,107,14⟩ (tA pw w b os).stack)=some (.next,(S12 pw (wf w b) os).abs,(tA pw w b os).code,⟨108,4,108,9⟩):=byRow2 "comprehension-iter-twice" (P:=fun w=>segRun treeTable pw (wf w b) 11 aBz 2 3466 (S11 pw (wf w b) os).abs (piecesOf (sl (cb pw) 5 1) (aBr pw (tA pw w b os).code) (tA pw w b os).code ⟨107,4,107,14⟩ (tA pw w b os).stack)=some (.next,(S12 pw (wf w b) os).abs,(tA pw w b os).code,⟨108,4,108,9⟩)) (fun w=>bPk w false b os) (fun w=>bPk w true b os) w
theorem bYb(w:World)(b:Bool)(os:OsState):segRun treeTable pw (wf w b) 11 aBz 1 137 (S12 pw (wf w b) os).abs (⟨.pure (.done .next),(tA pw w b os).code,⟨108,4,108,9⟩,(tA pw w b os).stack⟩)=some (.next,(S13 pw (wf w b) os).abs,cE pw,⟨102,0,108,79⟩):=by
 have h:=bYc w b os
 have ok:=bBu (wf w b).params
 unfold ok13 at ok
 unfold k5L k5R k5G rS S12 at h
 unfold S12 S13 T13
 exact aBm (wfs w b) (.inl rfl) h ok (aAa (by k_slotget))
theorem bY1(w:World)(b:Bool)(os:OsState):segRun treeTable pw (wf w b) 11 aBz 1 1181 (S13 pw (wf w b) os).abs (piecesOf (sl pw.main.body 25 54) (env0 pw) (cE pw) ⟨102,0,108,79⟩ B0)=some (.next,(S17 pw (wf w b) os).abs,cE pw,⟨233,0,233,9⟩):=by
 have h:=bY2 w b os
 have ok:=bBm (wf w b).params
 unfold ok17 at ok
 unfold g2L g2R g2G rS S13 at h
 unfold S13 S17 T17
 exact aBm (wfs w b) (.inl rfl) h ok (aAa (by k_slotget))
theorem bPs(w:World)(c b:Bool)(os:OsState):segRun treeTable pw (wf (wc w c) b) 11 aBz 1 4771 (S17 pw (wf (wc w c) b) os).abs (piecesOf (sl pw.main.body 79 1) (env0 pw) (cE pw) ⟨233,0,233,9⟩ B0)=some (.next,(S14 pw (wf (wc w c) b) os).abs,cE pw,⟨234,0,234,5⟩):=by
 have h:=bYt w c b os
 have ok:=bBs (wf (wc w c) b).params
 unfold ok14 at ok
 unfold g5Lc g5Rc g5G rC S17 at h
 unfold S17 S14 T14
 exact aBm (wfs (wc w c) b) (wcs w c b) h ok (aAa (by k_slotget))
theorem bYs(w:World)(b:Bool)(os:OsState):segRun treeTable pw (wf w b) 11 aBz 1 4771 (S17 pw (wf w b) os).abs (piecesOf (sl pw.main.body 79 1) (env0 pw) (cE pw) ⟨233,0,233,9⟩ B0)=some (.next,(S14 pw (wf w b) os).abs,cE pw,⟨234,0,234,5⟩):=byRow2 "comprehension-iter-twice" (P:=fun w=>segRun treeTable pw (wf w b) 11 aBz 1 4771 (S17 pw (wf w b) os).abs (piecesOf (sl pw.main.body 79 1) (env0 pw) (cE pw) ⟨233,0,233,9⟩ B0)=some (.next,(S14 pw (wf w b) os).abs,cE pw,⟨234,0,234,5⟩)) (fun w=>bPs w false b os) (fun w=>bPs w true b os) w
theorem bYy(w:World)(b:Bool)(os:OsState):segRun treeTable pw (wf w b) 11 aBz 1 10 (S14 pw (wf w b) os).abs (piecesOf (sl pw.main.body 80 1) (env0 pw) (cE pw) ⟨234,0,234,5⟩ B0)=some (.next,(S15 pw (wf w b) os).abs,cE pw,⟨235,0,235,8⟩):=by
 have h:=bYz w b os
 have ok:=bBq (wf w b).params
 unfold ok15 at ok
 unfold g3L g3R g3G rS S14 at h
 unfold S14 S15 T15
 exact aBm (wfs w b) (.inl rfl) h ok (aAa (by k_slotget))
theorem bYv(w:World)(b:Bool)(os:OsState):segRun treeTable pw (wf w b) 11 aBz 1 6915 (S15 pw (wf w b) os).abs (piecesOf (sl pw.main.body 81 75) (env0 pw) (cE pw) ⟨235,0,235,8⟩ B0)=some (.next,(S16 pw (wf w b) os).abs,cE pw,⟨1017,0,1052,15⟩):=by
 have h:=bYw w b os
 have ok:=bBo (wf w b).params
 unfold ok16 at ok
 unfold g4L g4R g4G rS S15 at h
 unfold S15 S16 T16
 exact aBm (wfs w b) (.inl rfl) h ok (aAa (by k_slotget))
theorem bZ1(w:World)(b:Bool)(os:OsState):segRun treeTable pw (wf w b) 11 aBz 0 2 (S16 pw (wf w b) os).abs (⟨.pure (.done .next),cE pw,⟨1017,0,1052,15⟩,B0⟩)=some (.ret .none,(S16 pw (wf w b) os).abs,.builtin "claim.caller" {},⟨0,0,0,0⟩):=by
 have h:=bZ2 w b os
 unfold e1L e1R e1G rS S16 at h
 unfold S16
 exact aGi (wfs w b) (.inl rfl) h
theorem bGo(w:World)(b:Bool)(os:OsState):tA pw w b os=⟨denote treeTable (.body (cb pw) (aBr pw (tA pw w b os).code)),(tA pw w b os).code,⟨102,0,108,79⟩,(tA pw w b os).stack⟩∧(tA pw w b os).stack.length=2∧splitAtGen (tA pw w b os).stack=none:=by
 have h:=cA6 w b os
 unfold AX AY at h
 simp only[Prod.mk.injEq] at h
 refine bC6 h fun h1 h2 h3 h4 h5=>?_
 exact⟨aD9 h1 h3,h4,h5⟩
theorem bGn(w:World)(b:Bool)(os:OsState):tF pw w b os=⟨denote treeTable (.func (fb pw) (aBr pw (tF pw w b os).code)),(tF pw w b os).code,⟨103,13,103,21⟩,(tF pw w b os).stack⟩∧(tF pw w b os).stack.length=3∧splitAtGen (tF pw w b os).stack=none:=by
 have h:=cAf w b os
 unfold FX FY at h
 simp only[Prod.mk.injEq] at h
 refine bC6 h fun h1 h2 h3 h4 h5=>?_
 exact⟨aD9 h1 h3,h4,h5⟩
theorem bGm(w:World)(b:Bool)(os:OsState):tP pw w b os=⟨denote treeTable (cE pw),cE pw,⟨0,0,0,0⟩,B0⟩:=by
 have h:=cAd w b os
 unfold PX PY at h
 simp only[Prod.mk.injEq] at h
 refine bL7 h fun h1 h2 h3 h4 h5 h6=>?_
 rw[aD9 h1 h3,h2,h5]
theorem bGs(w:World)(b:Bool)(os:OsState):segRun treeTable pw (wf w b) 11 aBz 2 ((14+(2+(9941+(7354+(9642+4)))))+11) (S2 pw (wf w b) os).abs (piecesOf (sl (cb pw) 0 1) (aBr pw (tA pw w b os).code) (tA pw w b os).code ⟨102,0,108,79⟩ (tA pw w b os).stack)=some (.next,(S8 pw (wf w b) os).abs,(tA pw w b os).code,⟨103,4,103,10⟩):=by
 refine aIv (bGn w b os) fun e hl hs=>?_
 have l0:=Leads.of_go (F_s w b os)
 rw[e] at l0
 have l1:=aYi (b:=2) (l:=fb pw) (env:=aBr pw (tF pw w b os).code) hs hl (by decide) (bZn w b os)
 have l2:=aBe (b:=2) (K:=aMc) (H:=aC4 (aBr pw (tF pw w b os).code)) (l:=fb pw) (i:=0) (m:=5) (j:=5) hs hl (by decide) rfl (bZk w b os)
 have l3:=aBe (b:=2) (K:=aMc) (H:=aC4 (aBr pw (tF pw w b os).code)) (l:=fb pw) (i:=5) (m:=4) (j:=9) hs hl (by decide) rfl (bZh w b os)
 have l4:=aBe (b:=2) (K:=aMc) (H:=aC4 (aBr pw (tF pw w b os).code)) (l:=fb pw) (i:=9) (m:=6) (j:=15) hs hl (by decide) rfl (bZe w b os)
 have l5:=bDn (b:=2) (H:=aC4 (aBr pw (tF pw w b os).code)) (l:=fb pw) (i:=15) (m:=2) hs hl (by decide) (bZb w b os)
 exact (l0.trans (l1.trans (l2.trans (l3.trans (l4.trans l5))))).end_ (bY8 w b os)
theorem bDb:(cb pw).length≤6:=by
 decide +kernel
theorem aR1:pw.main.body.length≤156:=by
 decide +kernel
theorem aWr(w:World)(b:Bool)(os:OsState):segRun treeTable pw (wf w b) 11 aBz 1 ((59+(1+(((14+(2+(9941+(7354+(9642+4)))))+11)+(8556+(10891+(8061+(3466+0)))))))+137) (S1 pw (wf w b) os).abs (piecesOf (sl pw.main.body 24 1) (env0 pw) (cE pw) ⟨84,0,101,16⟩ B0)=some (.next,(S13 pw (wf w b) os).abs,cE pw,⟨102,0,108,79⟩):=by
 refine aIv (bGo w b os) fun e hl hs=>?_
 have l0:=Leads.of_go (A_s w b os)
 rw[e] at l0
 have l1:=aO8 (b:=1) (l:=cb pw) (env:=aBr pw (tA pw w b os).code) hs hl (by decide) (bX8 w b os)
 have l2:=aBe (b:=1) (K:=doneF) (H:=leaveH (aBr pw (tA pw w b os).code)) (l:=cb pw) (i:=0) (m:=1) (j:=1) hs hl (by decide) rfl (bGs w b os)
 have l3:=aBe (b:=1) (K:=doneF) (H:=leaveH (aBr pw (tA pw w b os).code)) (l:=cb pw) (i:=1) (m:=2) (j:=3) hs hl (by decide) rfl (bYn w b os)
 have l4:=aBe (b:=1) (K:=doneF) (H:=leaveH (aBr pw (tA pw w b os).code)) (l:=cb pw) (i:=3) (m:=1) (j:=4) hs hl (by decide) rfl (bYk w b os)
 have l5:=aBe (b:=1) (K:=doneF) (H:=leaveH (aBr pw (tA pw w b os).code)) (l:=cb pw) (i:=4) (m:=1) (j:=5) hs hl (by decide) rfl (bYh w b os)
 have l6:=aBe (b:=1) (K:=doneF) (H:=leaveH (aBr pw (tA pw w b os).code)) (l:=cb pw) (i:=5) (m:=1) (j:=6) hs hl (by decide) rfl (bYe w b os)
 have l7:=aT1 (p:=pw) (w:=wf w b) (b:=1) (B:=(tA pw w b os).stack) (env:=aBr pw (tA pw w b os).code) (s:=(S12 pw (wf w b) os).abs) (l:=cb pw) (i:=6) (H:=leaveH (aBr pw (tA pw w b os).code)) (c:=(tA pw w b os).code) (pos:=⟨108,4,108,9⟩) bDb
 exact (l0.trans (l1.trans (l2.trans (l3.trans (l4.trans (l5.trans (l6.trans l7))))))).end_ (bYb w b os)
noncomputable def aDm:Nat:=(12+(1+(3098+(((59+(1+(((14+(2+(9941+(7354+(9642+4)))))+11)+(8556+(10891+(8061+(3466+0)))))))+137)+(1181+(4771+(10+(6915+0))))))))+2
theorem bDv(w:World)(b:Bool)(os:OsState):segRun treeTable pw (wf w b) 11 aBz 0 aDm (Sb pw (wf w b) os).abs (topStub pw)=some (.ret .none,(S16 pw (wf w b) os).abs,.builtin "claim.caller" {},⟨0,0,0,0⟩):=by
 have hs:splitAtGen B0=none:=rfl
 have hl:B0.length=1:=rfl
 have l0:=Leads.of_go (P_s w b os)
 rw[bGm w b os] at l0
 have l1:=aO8 (b:=0) (l:=pw.main.body) (env:=env0 pw) hs hl (by decide) (cAa w b os)
 have l2:=aBe (b:=0) (K:=doneF) (H:=leaveH (env0 pw)) (l:=pw.main.body) (i:=0) (m:=24) (j:=24) hs hl (by decide) rfl (bY4 w b os)
 have l3:=aBe (b:=0) (K:=doneF) (H:=leaveH (env0 pw)) (l:=pw.main.body) (i:=24) (m:=1) (j:=25) hs hl (by decide) rfl (aWr w b os)
 have l4:=aBe (b:=0) (K:=doneF) (H:=leaveH (env0 pw)) (l:=pw.main.body) (i:=25) (m:=54) (j:=79) hs hl (by decide) rfl (bY1 w b os)
 have l8:=aBe (b:=0) (K:=doneF) (H:=leaveH (env0 pw)) (l:=pw.main.body) (i:=79) (m:=1) (j:=80) hs hl (by decide) rfl (bYs w b os)
 have l5:=aBe (b:=0) (K:=doneF) (H:=leaveH (env0 pw)) (l:=pw.main.body) (i:=80) (m:=1) (j:=81) hs hl (by decide) rfl (bYy w b os)
 have l6:=aBe (b:=0) (K:=doneF) (H:=leaveH (env0 pw)) (l:=pw.main.body) (i:=81) (m:=75) (j:=156) hs hl (by decide) rfl (bYv w b os)
 have l7:=aT1 (p:=pw) (w:=wf w b) (b:=0) (B:=B0) (env:=env0 pw) (s:=(S16 pw (wf w b) os).abs) (l:=pw.main.body) (i:=156) (H:=leaveH (env0 pw)) (c:=cE pw) (pos:=⟨1017,0,1052,15⟩) aR1
 exact (l0.trans (l1.trans (l2.trans (l3.trans (l4.trans (l8.trans (l5.trans (l6.trans l7)))))))).end_ (bZ1 w b os)
theorem aZs(w:World)(os:OsState):topRun treeTable pw w 11 aBz aDm (Sb pw w os).abs (topStub pw)=some (S16 pw w os).abs :=
 byRow2 "special-get-raises" (P:=fun w=>topRun treeTable pw w 11 aBz aDm (Sb pw w os).abs (topStub pw)=some (S16 pw w os).abs)
  (fun w=>aDd _ _ _ (bDv w false os)) (fun w=>aDd _ _ _ (bDv w true os)) w
theorem aO4(P:Params):(aCo P).list 11=(boot_heap P).objs.toList:=aAa (by k_slotget)
theorem aHu(P:Params):(boot_heap P).life=aBk:=aAa (by k_slotget)
theorem aX9(P:Params):absHeap (aCo P) 11 aBk=boot_heap P:=by
 have h1:=aO4 P
 have h2:=aHu P
 revert h1 h2
 generalize boot_heap P=H
 intro h1 h2
 obtain⟨o,l⟩:=H
 dsimp only at h1 h2
 subst h2
 unfold absHeap
 rw[h1]
theorem aTy(P:Params):boot_heap P=btH P:=by
 have h1:btL P=(boot_heap P).objs.toList:=aAa (by k_slotget)
 have h2:=aHu P
 revert h1 h2
 generalize boot_heap P=H
 intro h1 h2
 obtain⟨⟨o⟩,l⟩:=H
 dsimp only at h1 h2
 subst h2
 unfold btH
 rw[h1]
theorem aHt:boot_toks=181:=rfl
theorem boot_abs(w:World)(os:OsState):(Sb pw w os).abs=⟨boot_heap w.params,Array.mk [],boot_drawn,boot_toks,os⟩:=by
 unfold Sb SharedT.abs
 dsimp only
 rw[aX9,aHt]
theorem aPy(P:Params):((boot_heap P).isNs mainGlobals&&(Array.mk []:Array GenState).size==0,(boot_heap P).objs.size,(boot_heap P).nsMap mainGlobals "__annotations__")=(true,11,aBz):=aAa (by k_slotget)
noncomputable def hT(p:Program)(P:Params):Heap:=absHeap (T16 p P) 2238 aBk
noncomputable def lo:List Str:=[q14,q18,q19,q33,aG0,bJ0,bJz,bJy,bJx,bJw,bJv,bJt,bJs,bJr,bJq,bJp,bJo,bO9,bJm,bJl,bJj,bO8,bJi,bA0,bJe,aPq,bOy,bOt,bOs,bI5,bI4,bI3,bI2,bI1,bI0,aPn,bIy,bIx,aPk,q13,q15,q16,q17,q20,q21,q22,q23,q24,q25,q26,q27,q28,q29,q30,q31,q32,q34,aQk,aMt,aMs,aMr,bJ4,bPf,aYv,aSv,aQj,aDy,aJs,aSu,aSt,aSs,aSr,aJr,aJq,aJp,aJo,aJm,aHz,aJn,aJl,bJ3,bJ2,bJ1,bJu,bJn,bPe,bPd,bPc,bPb,bPa,bJk,bFo,aMq,aMp,aMo,aMn,bO6,bO5,bO4,bO3,bO2,bO1,bO0,bOz,bOx,bOw,bOv,bOu,bOr,aPp,aSq,aSp,aSo,aPo,bJd,bJc,bOq,bJb,bOp,bJa,bI9,bI8,bI7,bI6,aQl,aSn,aSm,aSl,aSk,aSj,aSi,aSh,aSg,aSf,aSe,aMm,bIz,bIw,aMl,aMk,aPm,aPl,aE4,aMj,aMi,aHy,aMh]
noncomputable def qP(p:Program):Program:={ p with main:={ p.main with body:=[F p 155] } }
noncomputable def sT(p:Program)(w:World)(os:OsState):Shared:=⟨hT p w.params,#[],boot_drawn,5891,os⟩
noncomputable def xT(p:Program)(s:Shared):Bool:=xlAt (qP p) [] s&&recOk [] s
noncomputable def look1(p:Program)(w:World)(os:OsState):Bool:=staticsOk (importedModules p.main.body) (btH w.params) (hT p w.params)&&namesBound p (hT p w.params)&&gensDone (sT p w os)&&laidKept (btH w.params) (hT p w.params)
noncomputable def look2(p:Program)(w:World)(os:OsState):=openSeen (qP p) lo (importedModules p.main.body) (xT p) true (sT p w os)
noncomputable def good2(p:Program):=openGood (qP p) lo
lay_quick Mine.look1
lay_quick Mine.look2 Mine.good2
theorem aYn(w:World)(os:OsState):(S16 pw w os).abs=⟨absHeap (T16 pw w.params) 2238 aBk,#[],boot_drawn,5891,os⟩:=by
 unfold S16 SharedT.abs
 dsimp only
theorem aT9(w:World)(os:OsState):topRun treeTable pw w 11 aBz aDm ⟨boot_heap w.params,Array.mk [],boot_drawn,boot_toks,os⟩ (topStub pw)=some ⟨hT pw w.params,#[],boot_drawn,5891,os⟩:=by
 have h:=aZs w os
 rw[boot_abs,aYn] at h
 unfold hT
 exact h
theorem aW3:Nat.ble aDm 100000=true:=by decide
noncomputable def boL(p:Program)(w:World):Option (Heap×Array GenState×Drawn×Nat):=(importEnds treeTable (opening p) w 600 (start (opening p)).1 (start (opening p)).2).map (fun s=>(s.heap,s.gens,s.drawn,s.toks))
noncomputable def boR(w:World):Option (Heap×Array GenState×Drawn×Nat):=some (btH w.params,Array.mk [],boot_drawn,boot_toks)
lay_quick Mine.boL
theorem bZ7(w:World):PySem.W.Fast.tw5469650922079030942 pw w=boR w:=aAa (by k_slotget)
theorem bZ8(w:World):boL pw w=boR w:=(congrFun (congrFun PySem.W.Fast.te5469650922079030942 pw) w).trans (bZ7 w)
theorem aL4(s:Shared):fenceModules? pw s=some s:=by kernel_rfl!
theorem aPz(w:World):(fencedOpening treeTable pw w 100000).map (fun s=>(s.heap,s.gens,s.drawn,s.toks))=some (boot_heap w.params,Array.mk [],boot_drawn,boot_toks):=by
 have h:=bZ8 w
 unfold boL boR at h
 rw[← aTy] at h
 refine aAd (Option.map_eq_some_iff.mp h) fun s hs hv=>?_
 have m:=importEnds_mono (100000-600) _ _ _ _ hs
 unfold fencedOpening
 rw[show (100000:Nat)=600+(100000-600) from rfl,m]
 show ((fenceModules? pw s)).map _=_
 rw[aL4 s]
 exact congrArg some hv
theorem aWf(w:World)(os:OsState):PySem.W.Fast.tw18309523048354253811 pw w os=true:=aAa (by k_slotget)
theorem aWg(w:World)(os:OsState):look1 pw w os=true:=(congrFun (congrFun (congrFun PySem.W.Fast.te18309523048354253811 pw) w) os).trans (aWf w os)
theorem aWd(w:World)(os:OsState):PySem.W.Fast.tw2328526617337647392 pw w os=PySem.W.Fast.tw14205110778110953275 pw:=aAa (by k_slotget)
theorem aWe(w:World)(os:OsState):look2 pw w os=good2 pw:=(congrFun (congrFun (congrFun PySem.W.Fast.te2328526617337647392 pw) w) os).trans ((aWd w os).trans (congrFun PySem.W.Fast.te14205110778110953275 pw).symm)
theorem looks (w : World) : (fun os => ((staticsOk (importedModules pw.main.body) (boot_heap w.params) (hT pw w.params) && namesBound pw (hT pw w.params) && gensDone ⟨hT pw w.params, #[], boot_drawn, 5891, os⟩ && laidKept (boot_heap w.params) (hT pw w.params)),
        openSeen (qP pw) lo (importedModules pw.main.body) (xT pw) true ⟨hT pw w.params, #[], boot_drawn, 5891, os⟩, (⟨hT pw w.params, #[], boot_drawn, 5891, os⟩ : Shared).heap)) = fun _ => (true, openGood (qP pw) lo, hT pw w.params) := by
  funext os
  have h1 := aWg w os
  have h2 := aWe w os
  unfold look1 sT at h1
  rw [← aTy] at h1
  unfold look2 good2 sT at h2
  rw [h1, h2]
theorem left:LeftO pw (qP pw) lo (xT pw) (fun s=>s.heap) (fun w=>hT pw w.params) 100000 true :=
 LeftO.of_pieces (H₀:=boot_heap) (H₁:=hT pw) (gs₀:=Array.mk []) (gs₁:=#[]) (d₀:=boot_drawn) (d₁:=boot_drawn) (k₀:=boot_toks) (k₁:=5891) (m₀:=11) (ann:=aBz) (M:=aDm)
  aPz (fun w=>aPy w.params) aT9 aW3 looks
noncomputable def yP(w:World)(h:Heap):Prop:=∀ b o,(hT pw w.params).get? b=some o→h.get? b=some o
theorem bGf(w:World)(s:Shared)(e:s.heap=hT pw w.params):yP w s.heap:=fun b o g=>by rw[e];exact g
theorem aPu(w:World)(h h':Heap)(x:yP w h)(k:∀ b o,h.get? b=some o→h'.get? b=some o):yP w h':=fun b o g=>k b o (x b o g)
theorem holds(d:DefRec)(kwd:List (Str×Expr))(hdef:defOf (qP pw) PySem.Challenge.rw_nz0234_01.name=some (d,kwd))(hp:pw.theDef PySem.Challenge.rw_nz0234_01.name=some (d.params,d.body,d.scope))(hk:kwWritten? d.params.kwonlyargs d.params.kw_defaults=some kwd)
 (hwr:(!PySem.Challenge.rw_nz0234_01.row.writes||PySem.Challenge.rw_nz0234_01.row.records.isEmpty)=true)
 (ok:(chainsOk (qP pw)&&opensWell PySem.Challenge.rw_nz0234_01.row.prog&&(frees PySem.Challenge.rw_nz0234_01.row.toRowW&&PySem.Challenge.rw_nz0234_01.row.within.isEmpty))=true)
 (hb:pw.bare) (hw:PySem.Challenge.rw_nz0234_01.row.toRowW.promised)
 (call:WalkO (qP pw) lo (XL (qP pw) []) yP PySem.Challenge.rw_nz0234_01.row.toRowW d kwd fun f vs=>PySem.call f vs):PySem.Challenge.rw_nz0234_01.Holds :=
 holds_law said fun s=>holds_open (q:=qP pw) (loose:=lo) (Xt:=xT pw) (XP:=XL (qP pw) []) (Yf:=fun s=>s.heap) (Ya:=fun w=>hT pw w.params) (YP:=yP) (N:=100000) left bGf aPu
  (fun s e=>xl_of s (Bool.and_eq_true_iff.mp e).1) XL.keeps hdef hp hk (fun s e=>recFacts_of (Bool.and_eq_true_iff.mp e).2) hwr s ok hb hw call
noncomputable def fdN:Stmt→Str
 | .FunctionDef n _ _ _ _ _ _ _ _ _=>n
 |_=>⟨#[]⟩
noncomputable def fdQ:Stmt→Pos
 | .FunctionDef _ _ _ _ _ _ _ _ _ q=>q
 |_=>⟨0,0,0,0⟩
noncomputable def aPs(p:Program):DefRec:=⟨fdN (F p 155),fdP (F p 155),fdB (F p 155),fdS (F p 155),fdQ (F p 155)⟩
theorem aWq:defOf (qP pw) PySem.Challenge.rw_nz0234_01.name=some (aPs pw,[]):=aAa (by k_slotget)
theorem aWm:pw.theDef PySem.Challenge.rw_nz0234_01.name=some ((aPs pw).params,(aPs pw).body,(aPs pw).scope):=aAa (by k_slotget)
theorem bCa:kwWritten? (aPs pw).params.kwonlyargs (aPs pw).params.kw_defaults=some []:=aAa (by k_slotget)
theorem bB7:(!PySem.Challenge.rw_nz0234_01.row.writes||PySem.Challenge.rw_nz0234_01.row.records.isEmpty)=true:=aAa (by k_slotget)
theorem bB9:(chainsOk (qP pw)&&opensWell PySem.Challenge.rw_nz0234_01.row.prog&&(frees PySem.Challenge.rw_nz0234_01.row.toRowW&&PySem.Challenge.rw_nz0234_01.row.within.isEmpty))=true:=aAa (by k_slotget)
theorem aQ3:pw.bare:=⟨rfl,rfl,rfl,rfl,rfl,aAa (by k_slotget)⟩
theorem aHe:PySem.Challenge.rw_nz0234_01.row.toRowW.promised:=by w_witness2
theorem of_walk(call:WalkO (qP pw) lo (XL (qP pw) []) yP PySem.Challenge.rw_nz0234_01.row.toRowW (aPs pw) [] fun f vs=>PySem.call f vs):PySem.Challenge.rw_nz0234_01.Holds :=
 holds (aPs pw) [] aWq aWm bCa bB7 bB9 aQ3 aHe call
end Mine
end
open PySem PySem.W PyProof.Rows PySem.Spec PySem.Calls
namespace Mine
structure Kept(h h':Heap)(A:List Addr):Prop where
 size:h.objs.size≤h'.objs.size
 keep:∀ b o,h.get? b=some o→b∉A→h'.get? b=some o
theorem aDo(h:Heap)(A:List Addr):Kept h (hideAll h A) A:=⟨Nat.le_of_eq (hideAll_size A h).symm,fun _ _ e n=>hideAll_get A e n⟩
inductive Pick (x:Addr×Obj):List (Addr×Obj)→List (Addr×Obj)→Prop
 |head {l}:Pick x (x::l) l
 |tail {y l l'}:Pick x l l'→Pick x (y::l) (y::l')
theorem Pick.mem{x:Addr×Obj}{l l':List (Addr×Obj)}(p:Pick x l l'):x∈l∧∀ y∈l',y∈l:=by
 induction p with
 |head=>exact⟨.head _,fun _ h=>.tail _ h⟩
 |tail _ ih=>exact⟨.tail _ ih.1,fun y hy=>by cases hy with|head=>exact .head _|tail _ h=>exact .tail _ (ih.2 y h)⟩
noncomputable def Away(r:List (Addr×Obj)):List Addr→Prop
 | []=>True
 |a::A=>(∀ p∈r,p.1≠a)∧Away r A
theorem Away.out{r:List (Addr×Obj)}{A:List Addr}(x:Away r A)(p:Addr×Obj)(hp:p∈r):p.1∉A:=by
 induction A with
 |nil=>exact List.not_mem_nil
 |cons a A ih =>
  intro q
  rcases List.mem_cons.mp q with q|q
  ·exact x.1 p hp q
  ·exact ih x.2 q
structure Apart(a b:Nat):Prop where
 ne:a≠b
noncomputable def AllNe(d:Nat):List (Addr×Obj)→Prop
 | []=>True
 |p::r=>Apart p.1 d∧AllNe d r
theorem allNe_of{d:Nat}:∀ {l:List (Addr×Obj)},(∀ p∈l,p.1≠d)→AllNe d l
 | [],_=>trivial
 |p::_,h=>⟨⟨h p (.head _)⟩,allNe_of fun q hq=>h q (.tail _ hq)⟩
section
variable {prog:Program} {w:World} {A A₀:Around} {s:Shared} {K:Frag} {L:Addr} {h₀ base:Heap} {m mg mb:Str→Option Value} {news:List (Addr×Obj)} {p:Program} {loose:List Str} {mean:ExcName→Option Value}
theorem bL0{env:Env}{outer:List Env}{R:Result→Shared→Prop}{name qual:Str}{params:Arguments}{body:List Stmt}{scope:Scope}{dV kV doc pm cdv ct oc:Value}{an od:Option Addr}{osl:Array (Option Value)}{f:Addr}{args:Args}{binds:List (Str×Value)}
  (B:Below A₀ base outer h₀) (F:Fr h₀ L s.heap m) (X₀:K.In h₀) (N:News h₀ L s.heap news) (T:Top p loose mean mg mb h₀) (hA:A.frames=some (env::outer)) (hf:env.frame=some L) (hke:env.scope.kind=.function)
  (ho:K.lookup f=some ⟨oc,od,.func (fnOf name qual params body scope dV kV doc pm an cdv ct),osl⟩) (hcd:codeIn K cdv qual=true) (hroom:A.depth<recursionLimit)
  (hbind:BindsTo s (fnOf name qual params body scope dV kV doc pm an cdv ct) args binds) (hloc:∀ y∈binds,scope.names.lookup y.1=some .local)
  (h:∀ g L' h₁,Kept s.heap g (news.map (·.1))→s.heap.objs.size=L'→Fr g L' h₁ (fun y=>binds.reverse.lookup y)→News g L' h₁ news→(∀ p∈news,p.1<L')→Below A base (env::outer) g→K.In g→Top p loose mean mg mb g →
   wpAny (model prog w) (A.deeper (envOf qual scope L' f cdv)) (execs body (envOf qual scope L' f cdv))
    (fun fl s'=>LeaveK h₀ L m g (fun r s''=>Kept g s''.heap []→R r s'') (match fl with | .ret v=>v|_=>.none) s')
    (fun e s'=>wpAny (model prog w) (A.deeper (envOf qual scope L' f cdv)) (leaving (envOf qual scope L' f cdv) e) (fun _ s''=>R (.error e) s'') (fun e' s''=>R (.error e') s'') s')
    { s with heap:=h₁,toks:=s.toks+binds.length })
  (hco:scope.isCoroutine=false) (hgen:scope.isGenerator=false) (hk:scope.kind=.function)
  (hcell:∀ x∈scope.names,x.2≠.cell):codeAny (model prog w) A (.call (.ref f) args) R s:=by
 refine bF2 (groundX (R:=fun r s''=>Kept (hideAll s.heap (news.map (·.1))) s''.heap []→R r s'') B F N hA hf hke) fun FG BG st lv=>?_
 refine codeAny_call_def (fd:=fnOf name qual params body scope dV kV doc pm an cdv ct) (body:=body) (binds:=binds) hroom ((X₀.keeps F.keep) _ _ ho) rfl (T.nolimit.keeps F.keep) (codeRec_of (X₀.keeps F.keep) hcd) rfl hbind hcell hloc (fun h₁ hns hk₁=>?_) hco hgen hk
 refine wpAny_mono (h _ s.heap.objs.size h₁ (aDo _ _) rfl ⟨hns,fun b o e=>hk₁ b o (of_hideAll _ e),Nat.le_of_eq (hideAll_size _ _)⟩
  (fun p hp=>⟨hk₁ _ _ (N p hp).1,Nat.ne_of_lt (Heap.lt_size (N p hp).1),hideAll_none _ (List.mem_map_of_mem hp)⟩) (fun p hp=>Heap.lt_size (N p hp).1) BG (X₀.keeps st) (T.keeps st)) (fun fl s' hl=>?_) fun _ _ y=>y
 have hl':=hl
 refine aRs hl' fun L' m' news' F' N' k=>?_
 exact lv _ _ hl ⟨Nat.le_trans F'.above (Nat.le_of_lt F'.ns.lt),fun b o e _=>F'.keep b o e⟩
end
theorem bXu{x y:Int}(h0:0<y)(h:y≤4294967296):Builtin.divisionGoesByPylong x y=false:=by
 refine PyProof.noPylong_of_log2 ?_
 have:y.natAbs.log2<33:=(Nat.log2_lt (by lia)).mpr (by lia)
 lia
section
variable {prog:Program} {w:World} {A:Around} {E:Value→Shared→Prop} {s:Shared} {h₀:Heap} {L:Addr} {news:List (Addr×Obj)} {Q:Value→Shared→Prop}
theorem aMw{a n r:Int}{t u:Tok}(hn:0≤n)(hn2:n≤1000000)(ha:a.natAbs<2 ^ 64)(hr:a ^ n.toNat=r)(h:Q (.int r s.toks) { s with toks:=s.toks+1 }) :
  wpAny (model prog w) A (binaryOp .Pow (.int a t) (.int n u)) Q E s:=pow_int_small hn hn2 ha (hr▸h)
theorem aQu{a b:Int}{t u:Tok}(hb:0<b)(h:Q (.int (a%b) s.toks) { s with toks:=s.toks+1 }):wpAny (model prog w) A (binaryOp .Mod (.int a t) (.int b u)) Q E s :=
 mod_int (Int.ne_of_gt hb) (by rw[Int.fmod_eq_emod_of_nonneg _ (Int.le_of_lt hb)];exact h)
theorem aXu{a b:Int}{t u:Tok}(hb:0<b)(hb2:b≤4294967296)(h:Q (.int (a/b) s.toks) { s with toks:=s.toks+1 }):wpAny (model prog w) A (binaryOp .FloorDiv (.int a t) (.int b u)) Q E s :=
 floordiv_int (Int.ne_of_gt hb) (by rw[Int.fdiv_eq_ediv_of_nonneg _ (Int.le_of_lt hb)];exact h) (Or.inl (bXu hb hb2))
end
section
variable {prog:Program} {w:World} {s:Shared} {K:Frag}
theorem aNz{A:Around}{R:Result→Shared→Prop}{name qual:Str}{params:Arguments}{body:List Stmt}{scope:Scope}{dV kV doc pm cdv ct oc:Value}{an od:Option Addr}{osl:Array (Option Value)}{f:Addr}{args:Args}{binds:List (Str×Value)}
  (X:K.In s.heap) (hlim:s.heap.NoLimit) (ho:K.lookup f=some ⟨oc,od,.func (fnOf name qual params body scope dV kV doc pm an cdv ct),osl⟩) (hcd:codeIn K cdv qual=true) (hroom:A.depth<recursionLimit)
  (hbind:BindsTo s (fnOf name qual params body scope dV kV doc pm an cdv ct) args binds) (hkind:(binds.all fun y=>scope.names.lookup y.1==some .local||scope.names.lookup y.1==some .cell)=true)
  (hnd:((cellsFrom 0 scope.names []).map (·.1)).Nodup)
  (h:∀ L h₁ tk cells,s.heap.objs.size=L→Fr s.heap L h₁ (bindL (envOfC qual scope L f cdv).kindOf binds fun _=>none)→News s.heap L h₁ cells →
   CellsAre (bindC (envOfC qual scope L f cdv).kindOf binds fun _=>none) (cellsFrom (L+1) scope.names []) cells →
   wpAny (model prog w) (A.deeper (envOfC qual scope L f cdv)) (execs body (envOfC qual scope L f cdv))
    (fun fl s'=>R (.ok (.ret (match fl with | .ret v=>v|_=>.none))) s')
    (fun e s'=>wpAny (model prog w) (A.deeper (envOfC qual scope L f cdv)) (leaving (envOfC qual scope L f cdv) e) (fun _ s''=>R (.error e) s'') (fun e' s''=>R (.error e') s'') s')
    { s with heap:=h₁,toks:=tk })
  (hco:scope.isCoroutine=false) (hgen:scope.isGenerator=false) (hk:scope.kind=.function):codeAny (model prog w) A (.call (.ref f) args) R s:=by
 refine codeAny_call_function hroom (X _ _ ho) rfl hco hgen rfl (codeRec_of X hcd) (hbind _ _ _ _ ?_)
 refine wpAny_newFunctionEnv_cells hk (kindsX hkind _) fun env' he s' x=>?_
 subst he
 refine⟨hlim.keeps x.toInCall.keep,codeAny_func ?_⟩
 refine aGf x.done fun h₁ tk r4_2 _=>?_
 subst r4_2
 have hk₁:=x.toInCall.keep
 refine aAd (Cl.news (h₀:=s.heap) (Nat.le_refl _) fun n c hm=>⟨x.cell n c (lookup_of_mem_nodup (cellsFrom_names scope.names 0 (s.heap.objs.size+1) [] [] rfl▸hnd) hm),x.above n c hm⟩) fun cells NC Y=>?_
 exact h _ h₁ tk cells rfl ⟨x.toInCall.ns,hk₁,Nat.le_refl _⟩ NC Y
end
section
noncomputable abbrev exO(C d:Addr)(vs:Array Value):Obj:={ cls:=.ref C,dict:=some d,data:=.fields vs }
structure Fl(base:Heap)(l:List Env)(e C d:Addr)(a0 fl:Value)(h:Heap):Prop where
 stays:base.StaysIn h
 new:base.get? e=none
 frames:h.FunFrames base l
 obj:∃ vs T oT ts,h.get? e=some (exO C d vs)∧vs.size=6∧vs[2]?=some a0∧vs[1]?=some (.ref T)∧base.get? T=none∧T≠e∧h.get? T=some oT∧oT.data=.fields ts∧ts[3]?=some fl
variable {M:Model} {A:Around} {E:Value→Shared→Prop} {s:Shared} {base:Heap} {env:Env} {outer l:List Env} {L e C d:Addr} {vs:Array Value} {a0 fl:Value} {Q:Unit→Shared→Prop}
theorem aNr{b:Addr}{o:Obj}{ws:Array Value}(hl:s.heap.FunFrames base l)(hb:s.heap.get? b=some o)(hd:o.data=.fields ws):b∉l.filterMap (·.frame):=fun hm=>by
 refine aBa (hl.mem hm) fun _ z0_1=>?_
 obtain⟨o',ho,hn⟩:=z0_1
 rw[hb] at ho
 cases ho
 exact hn ws hd
theorem aTt{head:Value}{hadNext:Bool}(hfr:A.frames=some (env::outer))(hl:s.heap.FunFrames base (env::outer))(hf:env.frame=some L)(he:s.heap.get? e=some (exO C d vs))(hk:base.StaysIn s.heap)(hen:base.get? e=none)
  (hsz:vs.size=6) (h0:vs[2]?=some a0) (h:∀ h',Fl base (env::outer) e C d a0 (rawInt L) h'→s.heap.UpToSlots h'→Q () { s with heap:=h' }) :
  wpAny M A (do let a ← frameOf env;let pl ← entryPlaceOf L hadNext;let b ← EntryCells.newEntry head a .none (rawInt L) .none pl;setField (.ref e) 1 b) Q E s:=by
 have ne:=aNr hl he rfl
 refine wpAny_bind (wpAny_frameOf_fun hfr hl hf fun h₁ k₁=>?_)
 refine wpAny_bind (wpAny_entryPlaceOf fun pl hpl=>?_)
 unfold EntryCells.newEntry newFields
 refine wpAny_bind (wpAny_newObj_type ?_ (hpl.sizeOk5 _ _ _ _ _))
 have he₁:h₁.get? e=some (exO C d vs):=(k₁.2.1 e ne).trans he
 have hTe:h₁.objs.size≠e:=Nat.ne_of_gt (Heap.lt_size he₁)
 have up₁:s.heap.UpToSlots h₁:=fun b o hb _=>k₁.2.2 b o hb
 have st₁:base.StaysIn h₁:=fun b o hb=>(k₁.2.1 b fun hm=>by rw[(hl.mem hm).1] at hb;cases hb).trans (hk b o hb)
 generalize ho:([head,Value.ref L,.none,rawInt L,.none]++(if pl.isEmpty then List.replicate 6 Value.none else pl)).toArray=ts
 have h3:ts[3]?=some (rawInt L):=by rw[← ho];simp
 have he₂:=Heap.get?_push_of_some (h:=h₁) { cls:=.type "traceback",dict:=none,data:=.fields ts } he₁
 refine wpAny_setField he₂ rfl (by lia) (h _ ?_ ?_)
 ·have up₂:∀ b o,b≠e→h₁.get? b=some o→((h₁.push { cls:=.type "traceback",dict:=none,data:=.fields ts }).update e (Obj.mapFields (·.setIfInBounds 1 (Value.ref h₁.objs.size)))).get? b=some o:=fun b o hbe hb=>by
   rw[Heap.get?_update_other _ _ (Ne.symm hbe)];exact Heap.get?_push_of_some _ hb
  refine⟨fun b o hb=>up₂ b o (fun q=>by rw[q,hen] at hb;cases hb) (st₁ b o hb),hen,hl.of_keeps fun b o hb hn=>?_,vs.setIfInBounds 1 (.ref h₁.objs.size),h₁.objs.size,{ cls:=.type "traceback",dict:=none,data:=.fields ts },ts,?_,by simp[hsz],by simp[h0],by simp[hsz],?_,hTe,?_,rfl,h3⟩
  ·obtain⟨sl,hs⟩:=k₁.2.2 b o hb
   exact⟨_,up₂ b _ (fun q=>by rw[q,he] at hb;cases hb;exact hn _ rfl) hs,rfl⟩
  ·exact Heap.get?_update_self _ he₂ rfl
  ·cases q:base.get? h₁.objs.size with
   |none=>rfl
   |some o=>exact absurd (Heap.lt_size (st₁ _ _ q)) (Nat.lt_irrefl _)
  ·rw[Heap.get?_update_other _ _ (Ne.symm hTe)];exact Heap.get?_push_size h₁ rfl
 ·refine up₁.trans fun b o hb hn=>⟨o.slots,?_⟩
  rw[Heap.get?_update_other _ _ (fun q:e=b=>by rw[← q,he₁] at hb;cases hb;exact hn _ rfl)]
  exact Heap.get?_push_of_some _ hb
theorem aFj(hfr:A.frames=some (env::outer))(hl:s.heap.FunFrames base (env::outer))(hf:env.frame=some L)(he:s.heap.get? e=some (exO C d vs))(hk:base.StaysIn s.heap)(hen:base.get? e=none)
  (hsz:vs.size=6) (h0:vs[2]?=some a0) (h1:vs[1]?=some .none) (h:∀ h',Fl base (env::outer) e C d a0 (rawInt L) h'→s.heap.UpToSlots h'→Q () { s with heap:=h' }):wpAny M A (noteFrame (.ref e) env) Q E s:=by
 unfold noteFrame
 simp only[hf]
 refine wpAny_bind (wpAny_field he rfl h1 ?_)
 rw[if_neg (by decide)]
 exact aTt hfr hl hf he hk hen hsz h0 h
theorem aEj(hfr:A.frames=some (env::outer))(hf:env.frame=some L)(x:Fl base (env::outer) e C d a0 .none s.heap)
  (h:∀ h',Fl base (env::outer) e C d a0 (rawInt L) h'→s.heap.UpToSlots h'→Q () { s with heap:=h' }):wpAny M A (noteFrame (.ref e) env) Q E s:=by
 obtain⟨st,hen,hl,vs,T,oT,ts,he,hsz,h0,h1,hnT,hTe,hT,hdT,h3⟩:=x
 unfold noteFrame
 simp only[hf]
 refine wpAny_bind (wpAny_field he rfl h1 ?_)
 rw[if_pos (by simp)]
 refine wpAny_bind (wpAny_field hT hdT h3 ?_)
 rw[if_neg (by simp[rawInt])]
 refine wpAny_bind (wpAny_setField hT hdT (Array.getElem?_eq_some_iff.mp h3).1 ?_)
 have ot:∀ b,b≠T→(s.heap.update T (Obj.mapFields (·.setIfInBounds 3 Value.none))).get? b=s.heap.get? b:=fun b hb=>Heap.get?_update_other _ _ (Ne.symm hb)
 have nT:∀ b o,s.heap.get? b=some o→(∀ ws,o.data≠.fields ws)→b≠T:=fun b o hb hn q=>by rw[q,hT] at hb;cases hb;exact hn _ hdT
 refine aTt hfr (hl.of_keeps fun b o hb hn=>⟨o,(ot b (nT b o hb hn)).trans hb,rfl⟩) hf ((ot e (Ne.symm hTe)).trans he)
  (fun b o hb=>(ot b fun q=>by rw[q,hnT] at hb;cases hb).trans (st b o hb)) hen hsz h0 fun h' y u=>h h' y ?_
 exact fun b o hb hn=>u b o ((ot b (nT b o hb hn)).trans hb) hn
theorem aK1(hf:env.frame=some L)(x:Fl base l e C d a0 (rawInt L) s.heap)(h:Q () s):wpAny M A (noteFrame (.ref e) env) Q E s:=by
 obtain⟨st,hen,hl,vs,T,oT,ts,he,hsz,h0,h1,hnT,hTe,hT,hdT,h3⟩:=x
 unfold noteFrame
 simp only[hf]
 refine wpAny_bind (wpAny_field he rfl h1 ?_)
 rw[if_pos (by simp)]
 refine wpAny_bind (wpAny_field hT hdT h3 ?_)
 rw[if_pos (by simp)]
 exact wpAny_pure h
theorem flight{fr:Option Addr}(x:Fl base l e C d a0 fl s.heap)(h:∀ h',Fl base l e C d a0 (fr.elim .none fun f=>rawInt f) h'→s.heap.UpToSlots h'→Q () { s with heap:=h' }):wpAny M A (setFlight (.ref e) fr) Q E s:=by
 obtain⟨st,hen,hl,vs,T,oT,ts,he,hsz,h0,h1,hnT,hTe,hT,hdT,h3⟩:=x
 unfold setFlight
 refine wpAny_bind (wpAny_field he rfl h1 ?_)
 rw[if_pos (by simp)]
 have ot:∀ b,b≠T→(s.heap.update T (Obj.mapFields (·.setIfInBounds 3 (fr.elim Value.none fun f=>rawInt f)))).get? b=s.heap.get? b:=fun b hb=>Heap.get?_update_other _ _ (Ne.symm hb)
 have nT:∀ b o,s.heap.get? b=some o→(∀ ws,o.data≠.fields ws)→b≠T:=fun b o hb hn q=>by rw[q,hT] at hb;cases hb;exact hn _ hdT
 have hd':=Obj.data_mapFields hdT (·.setIfInBounds 3 (fr.elim Value.none fun f=>rawInt f))
 refine wpAny_setField hT hdT (Array.getElem?_eq_some_iff.mp h3).1 (h _ ?_ ?_)
 ·refine⟨fun b o hb=>(ot b fun q=>by rw[q,hnT] at hb;cases hb).trans (st b o hb),hen,hl.of_keeps fun b o hb hn=>⟨o,(ot b (nT b o hb hn)).trans hb,rfl⟩,vs,T,_,_,(ot e (Ne.symm hTe)).trans he,hsz,h0,h1,hnT,hTe,
   Heap.get?_update_self _ hT (Obj.isFreed_of_fields hd'),hd',?_⟩
  simp[(Array.getElem?_eq_some_iff.mp h3).1]
 ·exact fun b o hb hn=>⟨o.slots,(ot b (nT b o hb hn)).trans hb⟩
end
section
structure Flown(G:Heap)(l:List Env)(A:List Addr)(outs:List (Addr×Obj))(e C d:Addr)(od:Obj)(a0:Value)(h':Heap):Prop where
 ex:∃ B,(∀ b o,G.get? b=some o→b∉l.filterMap (·.frame)→b∉A→B.get? b=some o)∧(∀ q∈outs,B.get? q.1=some q.2)∧B.get? d=some od∧Fl B l e C d a0 .none h'
 outs_:∀ q∈outs,q.1∈A∨G.get? q.1=none
 dnew:G.get? d=none
 enew:G.get? e=none
 up:∀ b∈l.filterMap (·.frame),∀ o,G.get? b=some o→∃ sl,h'.get? b=some { o with slots:=sl }
theorem aBq{h g:Heap}{A:List Addr}(k:Kept h g A){b:Addr}(e:g.get? b=none):b∈A∨h.get? b=none:=by
 by_cases hA:b∈A
 ·exact .inl hA
 ·cases q:h.get? b with
  |none=>exact .inr rfl
  |some o=>rw[k.keep _ _ q hA] at e;cases e
theorem aB3{g h:Heap}(k:∀ b o,g.get? b=some o→h.get? b=some o){b:Addr}(e:h.get? b=none):g.get? b=none:=kts_none k e
variable {M:Model} {A:Around} {E:Value→Shared→Prop} {s':Shared} {base g G h₀:Heap} {l:List Env} {L a e C d:Addr} {m:Str→Option Value} {name:Str} {scope:Scope} {cd:Value} {Q:Unit→Shared→Prop} {outs rest ins:List (Addr×Obj)} {vs:Array Value} {od:Obj} {a0:Value} {I:List Addr}
theorem aK6(kg:Kept h₀ g I)(hI:∀ b∈I,g.get? b=none)(K:Below A base l g)(F:Fr g L G m)(N:News g L G (ins++rest))(aw:Away rest (ins.map (·.1)))(x:Flown G (envOf name scope L a cd::l) (ins.map (·.1)) outs e C d od a0 s'.heap)
  (hd:d∉I) (hE:e∉I) (hQ:∀ h',Flown h₀ l I (outs++rest) e C d od a0 h'→Q () { s' with heap:=h' }) :
  wpAny M (A.deeper (envOf name scope L a cd)) (leaving (envOf name scope L a cd) (.ref e)) Q E s':=by
 obtain⟨⟨B,b1,b2,b3,x⟩,o1,dn,en,up⟩:=x
 have nL:g.get? L=none:=kts_self F
 have fr:∀ b∈l.filterMap (·.frame),∃ o,g.get? b=some o∧∀ ws,o.data≠.fields ws:=fun b hb=>(K.frames.mem hb).2
 have hfs:∀ b∈l.filterMap (·.frame),b∈(envOf name scope L a cd::l).filterMap (·.frame):=fun b hb=>List.mem_cons_of_mem _ hb
 refine wpAny_bind (aEj (Around.frames_deeper K.stack) rfl x fun h₁ x₁ u₁=>?_)
 refine flight x₁ fun h₂ x₂ u₂=>hQ h₂ ⟨⟨B,fun b o hb n1 n2=>?_,fun q hq=>?_,b3,x₂.stays,x₂.new,x₂.frames.2.2,x₂.obj⟩,fun q hq=>?_,(aBq kg (aB3 F.keep dn)).resolve_left hd,(aBq kg (aB3 F.keep en)).resolve_left hE,fun b hb o ho=>?_⟩
 ·have hg:=kg.keep b o hb n2
  refine b1 b o (F.keep b o hg) (fun hm=>?_) fun hm=>?_
  ·rcases kts_mem hm with z|z
   ·rw[z,nL] at hg;cases hg
   ·exact n1 z
  ·refine aAd (List.mem_map.mp hm) fun p hp z=>?_
   have:=(N p (List.mem_append_left _ hp)).2.2
   rw[z,hg] at this;cases this
 ·rcases List.mem_append.mp hq with hq|hq
  ·exact b2 q hq
  ·have n:=N q (List.mem_append_right _ hq)
   refine b1 _ _ n.1 (fun hm=>?_) (aw.out q hq)
   rcases kts_mem hm with z|z
   ·exact n.2.1 z
   ·refine aAd (fr _ z) fun o ho _=>?_
    rw[n.2.2] at ho;cases ho
 ·rcases List.mem_append.mp hq with hq|hq
  ·rcases o1 q hq with z|z
   ·refine aAd (List.mem_map.mp z) fun p hp z=>?_
    exact aBq kg (z▸(N p (List.mem_append_left _ hp)).2.2)
   ·exact aBq kg (aB3 F.keep z)
  ·exact aBq kg (N q (List.mem_append_right _ hq)).2.2
 ·refine aAd (fr b hb) fun o' ho' hn=>?_
  have hg:=kg.keep b o ho fun hi=>by rw[hI b hi] at ho';cases ho'
  rw[hg] at ho';cases ho'
  refine aA6 (up b (hfs b hb) o (F.keep b o hg)) fun sl hs=>?_
  refine aA6 ((u₁.trans u₂) b _ hs hn) fun sl' hs'=>?_
  exact⟨sl',hs'⟩
end
section
variable {A₀:Around} {base g G B h₅:Heap} {outer:List Env} {L a:Addr} {m:Str→Option Value} {name:Str} {scope:Scope} {cd:Value}
theorem aQ8(K:Below A₀ base outer g)(F:Fr g L G m)(hB:∀ b o,g.get? b=some o→b∉outer.filterMap (·.frame)→B.get? b=some o)(hBh:B.StaysIn h₅)
  (up:∀ b∈(envOf name scope L a cd::outer).filterMap (·.frame),∀ o,G.get? b=some o→∃ sl,h₅.get? b=some { o with slots:=sl }) :
  ∃ g',KtsTurn (outer.filterMap (·.frame)) g g'∧Fr g' L h₅ m∧Below A₀ base outer g':=by
 obtain⟨T,S⟩:=kts_turn_at (h:=h₅) (fs:=outer.filterMap (·.frame)) (g:=g)
  (fun b hb=>let ⟨_,o,ho,_⟩:=K.frames.mem hb;⟨o,ho⟩)
  (fun b o e nm=>hBh b o (hB b o e nm))
  (fun b o e hm=>up b (List.mem_cons_of_mem _ hm) o (F.keep b o e))
 refine⟨_,T,⟨?_,S,by rw[T.size];exact F.above⟩,⟨K.stack,fun b o e=>T.other b o (K.stays b o e) (fun hm=>by
  rw[(K.frames.mem hm).1] at e
  cases e),K.frames.of_keeps fun b o e _=>?_⟩⟩
 ·refine aRs F.ns fun o es ep ho hd r=>?_
  refine aA6 (up L (List.mem_filterMap.mpr ⟨_,.head _,rfl⟩) o ho) fun sl hs=>?_
  exact⟨_,es,ep,hs,hd,r⟩
 ·refine aA6 (T.up e) fun sl hs=>?_
  exact⟨_,hs,rfl⟩
end
theorem aBs{G:Heap}{d:Nat}{l:List (Addr×Obj)}(e:G.get? d=none)(h:∀ q∈l,G.get? q.1=some q.2):AllNe d l:=allNe_of fun q hq z=>by
 have:=h q hq;rw[z,e] at this;cases this
section
variable {prog:Program} {w:World} {A₀:Around} {E:Value→Shared→Prop} {s':Shared} {base g g₀ G:Heap} {outer:List Env} {L a e C d:Addr} {m:Str→Option Value} {name:Str} {scope:Scope} {cd:Value}
 {n:Str} {b₀:Stmt} {suite:List Stmt} {pos np:Pos} {hrest:List ExceptHandler} {Q:Flow→Shared→Prop} {outs rest ins:List (Addr×Obj)} {od:Obj} {a0:Value} {KF:Frag}
 {p:Program} {loose:List Str} {mean:ExcName→Option Value} {mg mb:Str→Option Value} {x:Str}
theorem aTk{KF:Frag}{g₂ h:Heap}{gs:Array GenState}{dr:Drawn}{t:Nat}{os:OsState}{C e:Addr}{oe:Obj}{M:Model}{A:Around}{E:Value→Shared→Prop}{Q:Bool→Shared→Prop}(X:KF.In g₂)(q:ktsIn KF C "ValueError"=true)(keep:∀ b o,g₂.get? b=some o→h.get? b=some o)(he:h.get? e=some oe)(hcls:oe.cls=.ref C)
  (hq:Q true ⟨h,gs,dr,t,os⟩):wpAny M A (excMatches (.ref e) (.ref C)) Q E ⟨h,gs,dr,t,os⟩:=by
 obtain⟨nm,q',N',bs,bm,hdct,sn,sub,ab,col,dd,k0,k1,k2,k3,k5,newId,hC,hbase,_⟩:=kts_cls X q
 exact wpAny_excMatches_sub_self (keep _ _ hC) he hcls hbase hq
theorem Fl.at_{base h:Heap}{l:List Env}{e C d:Addr}{a0 fl:Value}(x:Fl base l e C d a0 fl h):∃ vs,h.get? e=some (exO C d vs)∧vs.size=6∧vs[2]?=some a0 :=
 x.obj.imp fun _ h=>aZh h fun _ _ _ a h=>⟨a,h.1,h.2.1⟩
structure Caught(A₀:Around)(base g G:Heap)(outer:List Env)(L e C d:Addr)(m:Str→Option Value)(outs rest:List (Addr×Obj))(od:Obj)(h₃ g₃:Heap):Prop where
 T:KtsTurn (outer.filterMap (·.frame)) g g₃
 F:Fr g₃ L h₃ m
 K:Below A₀ base outer g₃
 news:∀ vs,h₃.get? e=some (exO C d vs)→News g₃ L h₃ ((e,exO C d vs)::(d,od)::(outs++rest))
 de:d≠e
theorem aHs{h':Heap}(R:Flown G (envOf name scope L a cd::outer) (ins.map (·.1)) outs e C d od a0 h')(F:Fr g L G m)(K:Below A₀ base outer g)(N:News g L G (ins++rest))(aw:Away rest (ins.map (·.1)))
  (D:KtsDicts (outer.filterMap (·.frame)) g):∃ B,Fl B (envOf name scope L a cd::outer) e C d a0 .none h'∧∀ {fl:Value} {h₃:Heap},Fl B (envOf name scope L a cd::outer) e C d a0 fl h₃→h'.UpToSlots h₃→∃ g₃,Caught A₀ base g G outer L e C d m outs rest od h₃ g₃:=by
 obtain⟨⟨B,b1,b2,b3,fl⟩,o1,dn,en,up⟩:=R
 have nA:∀ b o,g.get? b=some o→b∉ins.map (·.1):=fun b o hb hm=>by
  refine aAd (List.mem_map.mp hm) fun p hp z=>?_
  have:=(N p (List.mem_append_left _ hp)).2.2
  rw[z,hb] at this;cases this
 have nL:g.get? L=none:=kts_self F
 have gB:∀ b o,g.get? b=some o→b∉outer.filterMap (·.frame)→B.get? b=some o:=fun b o hb hm=>b1 b o (F.keep b o hb) (fun hm'=>by
  rcases kts_mem hm' with z|z
  ·rw[z,nL] at hb;cases hb
  ·exact hm z) (nA b o hb)
 have dict:∀ b∈(envOf name scope L a cd::outer).filterMap (·.frame),∀ o,G.get? b=some o→∀ ws,o.data≠.fields ws:=fun b hb o ho ws hw=>by
  rcases kts_mem hb with z|z
  ·refine aRs F.ns fun oL es ep hL hd' _=>?_
   rw[z,hL] at ho;cases ho;rw[hd'] at hw;cases hw
  ·refine aZh (D b z) fun o' es n' ho' hd'=>?_
   have:=F.keep _ _ ho';rw[ho] at this;cases this;rw[hd'] at hw;cases hw
 have upto:∀ {h₁:Heap},h'.UpToSlots h₁→∀ b∈(envOf name scope L a cd::outer).filterMap (·.frame),∀ o,G.get? b=some o→∃ sl,h₁.get? b=some { o with slots:=sl }:=fun u b hb o ho=>by
  refine aA6 (up b hb o ho) fun sl hs=>?_
  exact u b { o with slots:=sl } hs (dict b hb o ho)
 have fr:∀ b∈outer.filterMap (·.frame),∃ o,g.get? b=some o:=fun b hb=>let ⟨_,o,ho,_⟩:=K.frames.mem hb;⟨o,ho⟩
 refine⟨B,fl,fun {fl h₃} x u=>?_⟩
 refine aDp (aQ8 (name:=name) (scope:=scope) (a:=a) (cd:=cd) K F gB x.stays (upto u)) fun g₃ T₃ F₃ K₃=>?_
 have hL:B.get? L=none:=by
  refine aIv x.frames fun _ z10_1 _=>?_
  refine aXt z10_1 fun L' _ hf hn' _=>?_
  obtain rfl:L=L':=Option.some.inj hf
  exact hn'
 have gnone:∀ b,G.get? b=none→g₃.get? b=none:=fun b hb=>T₃.none_ _ (aB3 F.keep hb)
 refine⟨g₃,T₃,F₃,K₃,fun vs he q hq=>?_,fun z=>?_⟩
 ·rcases List.mem_cons.mp hq with rfl|hq
  ·refine⟨he,fun z=>?_,gnone _ en⟩
   have he':=he
   rw[show e=L from z] at he'
   refine aRs F₃.ns fun oL es ep hL' hd' _=>?_
   rw[he'] at hL'
   cases hL'
   cases hd'
  ·rcases List.mem_cons.mp hq with rfl|hq
   ·refine⟨x.stays _ _ b3,fun z=>?_,gnone _ dn⟩
    have:=b3
    rw[show d=L from z,hL] at this
    cases this
   ·rcases List.mem_append.mp hq with hq|hq
    ·refine⟨x.stays _ _ (b2 q hq),fun z=>?_,?_⟩
     ·have:=b2 q hq
      rw[z,hL] at this
      cases this
     rcases o1 q hq with z|z
     ·refine aAd (List.mem_map.mp z) fun p hp z=>?_
      exact T₃.none_ _ (z▸(N p (List.mem_append_left _ hp)).2.2)
     ·exact gnone _ z
    ·have nq:=N q (List.mem_append_right _ hq)
     refine⟨x.stays _ _ (b1 _ _ nq.1 (fun hm=>?_) (aw.out q hq)),nq.2.1,T₃.none_ _ nq.2.2⟩
     rcases kts_mem hm with z|z
     ·exact nq.2.1 z
     ·refine aA6 (fr _ z) fun o ho=>?_
      rw[nq.2.2] at ho;cases ho
 ·have:=b3;rw[show d=e from z,x.new] at this;cases this
theorem aX2(R:Flown G (envOf name scope L a cd::outer) (ins.map (·.1)) outs e C d od a0 s'.heap)(F:Fr g L G m)(K:Below A₀ base outer g)(N:News g L G (ins++rest))(aw:Away rest (ins.map (·.1)))(XB:KF.In base)(TB:Top p loose mean mg mb base)
  (D:KtsDicts (outer.filterMap (·.frame)) g) (T0:KtsTurn (outer.filterMap (·.frame)) g₀ g) (q:ktsIn KF C "ValueError"=true) (ex:nsIn KF mainGlobals x=some (some (.ref C)))
  (k:∀ h' g' vs,vs.size=6→vs[2]?=some a0→KtsTurn (outer.filterMap (·.frame)) g₀ g'→Fr g' L h' m→News g' L h' ((e,exO C d vs)::(d,od)::(outs++rest))→Below A₀ base outer g'→KF.In g'→Top p loose mean mg mb g'→KtsDicts (outer.filterMap (·.frame)) g' →
   AllNe e ((d,od)::(ins++rest))→AllNe d (ins++rest)→(∀ q∈outs,q.1∈ins.map (·.1)∨AllNe q.1 (ins++rest)) →
   wpAny (model prog w) ((A₀.deeper (envOf name scope L a cd)).mark (some (.ref e))) (execs (b₀::suite) (envOf name scope L a cd)) Q
    (notedBy (model prog w) ((A₀.deeper (envOf name scope L a cd)).mark (some (.ref e))) (envOf name scope L a cd) (cameBackBy (model prog w) (A₀.deeper (envOf name scope L a cd)) (envOf name scope L a cd) E)) { s' with heap:=h' })
  (hk:scope.kind=.function:=by rfl) (hx:(envOf name scope L a cd).kindOf x=some .globalImplicit:=by rfl) (hd:(x==("__debug__":Str))=false:=by decide) :
  wpAny (model prog w) (A₀.deeper (envOf name scope L a cd)) (noteFrame (.ref e) (envOf name scope L a cd))
   (fun _ s₂=>wpAny (model prog w) (A₀.deeper (envOf name scope L a cd)) (setFlight (.ref e) none) (fun _ s₃ =>
    wpAny (model prog w) (A₀.deeper (envOf name scope L a cd)) (handleBy (.ref e) (envOf name scope L a cd) (.ExceptHandler (some (.Name x np)) none (b₀::suite) pos::hrest)) Q E s₃) E s₂) E s':=by
 refine aAd (aHs R F K N aw D) fun B fl up=>?_
 have alive:∀ q∈ins++rest,G.get? q.1=some q.2:=fun q hq=>(N q hq).1
 refine aEj (Around.frames_deeper K.stack) rfl fl fun h₁ x₁ u₁=>?_
 refine flight x₁ fun h₂ x₂ u₂=>?_
 refine aA6 (up x₂ (u₁.trans u₂)) fun g₂ c₂=>?_
 have X₂:KF.In g₂:=XB.keeps c₂.K.stays
 have P₂:Top p loose mean mg mb g₂:=TB.keeps c₂.K.stays
 refine aAd x₂.at_ fun vs he _=>?_
 refine wpAny_handleBy_cons (codeAny_handlers_test (name_K c₂.F X₂ (topRead_of P₂) ex ?_ hk hx hd)) (by intro z;cases z)
 refine aTk X₂ q c₂.F.keep he rfl ?_
 refine codeAny_handlers_suite ?_
 refine flight x₂ fun h₃ x₃ u₃=>?_
 refine aA6 (up x₃ ((u₁.trans u₂).trans u₃)) fun g₃ c₃=>?_
 refine aDp x₃.at_ fun vs₃ he₃ z6 z2=>?_
 exact k h₃ g₃ vs₃ z6 z2 (T0.trans c₃.T) c₃.F (c₃.news _ he₃) c₃.K (XB.keeps c₃.K.stays) (TB.keeps c₃.K.stays) (D.turn c₃.T) ⟨⟨fun z=>c₃.de z⟩,aBs R.enew alive⟩ (aBs R.dnew alive) fun q hq=>(R.outs_ q hq).imp id fun e=>aBs e alive
theorem aRy(R:Flown G (envOf name scope L a cd::outer) (ins.map (·.1)) outs e C d od a0 s'.heap)(F:Fr g L G m)(K:Below A₀ base outer g)(N:News g L G (ins++rest))(aw:Away rest (ins.map (·.1)))(XB:KF.In base)(TB:Top p loose mean mg mb base)
  (D:KtsDicts (outer.filterMap (·.frame)) g) (T0:KtsTurn (outer.filterMap (·.frame)) g₀ g) (q:ktsIn KF C "ValueError"=true) (ex:nsIn KF mainGlobals x=some (some (.ref C)))
  (k:∀ h' g' vs,vs.size=6→vs[2]?=some a0→KtsTurn (outer.filterMap (·.frame)) g₀ g'→Fr g' L h' (fun y=>if y=n then some (.ref e) else m y)→News g' L h' ((e,exO C d vs)::(d,od)::(outs++rest))→Below A₀ base outer g'→KF.In g'→Top p loose mean mg mb g'→KtsDicts (outer.filterMap (·.frame)) g' →
   AllNe e ((d,od)::(ins++rest))→AllNe d (ins++rest)→(∀ q∈outs,q.1∈ins.map (·.1)∨AllNe q.1 (ins++rest)) →
   wpAny (model prog w) ((A₀.deeper (envOf name scope L a cd)).mark (some (.ref e))) (execs (b₀::suite) (envOf name scope L a cd))
    (fun f s₄=>wpAny (model prog w) (A₀.deeper (envOf name scope L a cd)) (do bindName (envOf name scope L a cd) n .none;unbindBehindTheSuite (envOf name scope L a cd) n pos) (fun _ s₅=>Q f s₅) E s₄)
    (fun _ _=>False) { s' with heap:=h',toks:=s'.toks+1 })
  (hk:scope.kind=.function:=by rfl) (hlo:(envOf name scope L a cd).kindOf n=some .local:=by rfl) (hx:(envOf name scope L a cd).kindOf x=some .globalImplicit:=by rfl) (hd:(x==("__debug__":Str))=false:=by decide) :
  wpAny (model prog w) (A₀.deeper (envOf name scope L a cd)) (noteFrame (.ref e) (envOf name scope L a cd))
   (fun _ s₂=>wpAny (model prog w) (A₀.deeper (envOf name scope L a cd)) (setFlight (.ref e) none) (fun _ s₃ =>
    wpAny (model prog w) (A₀.deeper (envOf name scope L a cd)) (handleBy (.ref e) (envOf name scope L a cd) (.ExceptHandler (some (.Name x np)) (some n) (b₀::suite) pos::hrest)) Q E s₃) E s₂) E s':=by
 refine aAd (aHs R F K N aw D) fun B fl up=>?_
 have alive:∀ q∈ins++rest,G.get? q.1=some q.2:=fun q hq=>(N q hq).1
 refine aEj (Around.frames_deeper K.stack) rfl fl fun h₁ x₁ u₁=>?_
 refine flight x₁ fun h₂ x₂ u₂=>?_
 refine aA6 (up x₂ (u₁.trans u₂)) fun g₂ c₂=>?_
 have X₂:KF.In g₂:=XB.keeps c₂.K.stays
 have P₂:Top p loose mean mg mb g₂:=TB.keeps c₂.K.stays
 refine aAd x₂.at_ fun vs he _=>?_
 refine wpAny_handleBy_cons (codeAny_handlers_test (name_K c₂.F X₂ (topRead_of P₂) ex ?_ hk hx hd)) (by intro z;cases z)
 refine aTk X₂ q c₂.F.keep he rfl ?_
 refine codeAny_handlers_suite_as ?_
 refine flight x₂ fun h₃ x₃ u₃=>?_
 refine aA6 (up x₃ ((u₁.trans u₂).trans u₃)) fun g₃ c₃=>?_
 refine aDp x₃.at_ fun vs₃ he₃ z6 z2=>?_
 refine stN c₃.F (c₃.news _ he₃) (fun h₄ F₄ N₄=>wpAny_mono (k h₄ g₃ vs₃ z6 z2 (T0.trans c₃.T) F₄ N₄ c₃.K (XB.keeps c₃.K.stays) (TB.keeps c₃.K.stays) (D.turn c₃.T) ⟨⟨fun z=>c₃.de z⟩,aBs R.enew alive⟩ (aBs R.dnew alive) fun q hq=>(R.outs_ q hq).imp id fun e=>aBs e alive) (fun _ _ x=>x) fun _ _ x=>x.elim) hk hlo
end
section
set_option tactic.hygienic true
open PySem PySem.W PyProof.Rows PySem.Spec PySem.Calls PySem.Builtin PySem.Builtin.ObjectAttr
noncomputable def isT(v:Value)(s:String):Bool:=match v with
 | .type a=>a==s
 |_=>false
theorem aHf{v:Value}{s:String}(h:isT v s=true):v=.type s:=by
 cases v with
 |type a=>exact congrArg _ (beq_iff_eq.mp h)
 |_=>cases h
noncomputable def isR(v:Value):Bool:=match v with
 | .ref _=>true
 |_=>false
theorem bCe{v:Value}(h:isR v=true):∃ a,v=.ref a:=by
 cases v with
 |ref a=>exact⟨a,rfl⟩
 |_=>cases h
noncomputable def hd1{α:Type}(l:List α)(k:α→List α→Bool):Bool:=match l with
 | []=>false
 |a::r=>k a r
theorem aFb{α:Type}{l:List α}{k:α→List α→Bool}(h:hd1 l k=true):∃ a r,l=a::r∧k a r=true:=by
 cases l with
 |nil=>exact nomatch h
 |cons a r=>exact⟨a,r,rfl,h⟩
noncomputable def four(l:List Value):Bool:=hd1 l fun a l=>hd1 l fun b l=>hd1 l fun c l=>hd1 l fun d l=>l.isEmpty&&(isT a "ValueError"&&(isT b "Exception"&&(isT c "BaseException"&&isT d "object")))
noncomputable def aB2:List Value→Bool
 | []=>false
 |v::r=>bif isR v then aB2 r else four (v::r)
theorem aW5{l:List Value}(h:four l=true):l=[.type "ValueError",.type "Exception",.type "BaseException",.type "object"] :=
 aGf (aFb h) fun _ _ e0 h=>aGf (aFb h) fun _ _ e1 h=>aGf (aFb h) fun _ _ e2 h=>aGf (aFb h) fun _ _ e3 h=>aBa (Bool.and_eq_true_iff.mp h) fun h0 h=>aBa (Bool.and_eq_true_iff.mp h) fun h1 h=>aBa (Bool.and_eq_true_iff.mp h) fun h2 h=>aBa (Bool.and_eq_true_iff.mp h) fun h3 h4=>by
  rw[e0,e1,e2,e3,List.isEmpty_iff.mp h0,aHf h1,aHf h2,aHf h3,aHf h4]
theorem aD1{P:List Value→Prop}(b:P [.type "ValueError",.type "Exception",.type "BaseException",.type "object"])(s:∀ c r,P r→P (.ref c::r)):∀ {l:List Value},aB2 l=true→P l
 | [],h=>nomatch h
 |v::r,h=>by
  unfold aB2 at h
  cases e:isR v with
  |true =>
   rw[e] at h
   refine aA6 (bCe e) fun c r3_1=>?_
   subst r3_1
   exact s c r (aD1 b s h)
  |false =>
   rw[e] at h
   rw[aW5 h];exact b
theorem aMd(self:Value){l:List Value}(h:aB2 l=true):refuseLoop self "__setattr__" l=pure () :=
 aD1 (P:=fun l=>refuseLoop self "__setattr__" l=pure ()) (PySem.F.store_ValueError.passes self) (fun c r ih=>by rw[refuseLoop_ref];exact ih) h
theorem aFn(X:Value)(hX:X=.type "object"∨X=.type "BaseException"∨X=.type "ValueError"){l:List Value}(h:aB2 l=true):l.contains X=true :=
 aD1 (P:=fun l=>l.contains X=true) (by rcases hX with rfl|rfl|rfl<;>decide) (fun c r ih=>by rw[List.contains_cons,ih,Bool.or_true]) h
noncomputable def aDr(K:Frag)(C:Addr):Bool:=(clsIn K C).any fun cd=>aB2 cd.mro
section
variable {prog:Program} {w:World} {A:Around} {s:Shared} {K:Frag} {x C d L:Addr} {h₀:Heap} {m:Str→Option Value} {R:Result→Shared→Prop} {E:Value→Shared→Prop} {rest ledger:List (Addr×Obj)}
theorem aTd{M:Model}{h:Heap}{ox:Obj}{od:Option Obj}{X:Value}(hX:X=.type "object"∨X=.type "BaseException"∨X=.type "ValueError")(XK:K.In h)(I:InstAt h x ox C od)(hp:aDr K C=true):Looks M h (isInstance (.ref x) X) true:=by
 refine aAd (any_some hp) fun cd hc ho=>?_
 have ne:cd.mro.isEmpty=false:=by cases q:cd.mro with|nil=>rw[q] at ho;cases ho|cons _ _=>rfl
 exact I.type.andThen (looks_mroIn XK (by unfold mroIn;rw[hc,Option.bind_some,if_neg (by rw[ne];decide),aFn X hX ho]))
theorem aJx{ox:Obj}{od:Option Obj}{name:Str}{tk:Tok}{v:Value}(X:K.In s.heap)(I:InstAt s.heap x ox C od)(hp:aDr K C=true)(ht:takerIn K C name=some none)
  (h:∀ b,wpAny (model prog w) A.in1 (storeInOwnDict (.ref x) (.ref C) (.str name tk) name v b)
   (fun fin s'=>match fin with | .done f=>R (.ok f) s' | .again c'=>c'.quiet=true∧codeAny (model prog w) A c' R s') (fun e s'=>R (.error e) s') s) :
  codeAny (model prog w) A (.call (.builtin "object.__setattr__") ⟨[.ref x,.str name tk,v],[]⟩) R s:=by
 have SF:=PySem.F.store_object
 refine aAd (any_some hp) fun cd hc ho=>?_
 refine codeAny_call_builtin SF.slot.plain SF.entry (@check_slot (model prog w) _ _ s "object.__setattr__" "object" "__setattr__" (.ref x) [.str name tk,v] [] _ SF.kind SF.split (aTd (.inl rfl) X I hp) (SF.args (.ref x) (.str name tk) v) ?_)
 refine aAd (Option.bind_eq_some_iff.mp ht) fun attr ha hr=>?_
 have hm:Looks (model prog w) s.heap (mroOf (.ref C)) cd.mro:=(looks_clsIn X hc).andThen .now
 have L3:Looks (model prog w) s.heap (storeTaker? attr) none:=by
  cases attr with
  |none=>cases hr;exact .now
  |some a =>
   refine aAd (Option.map_eq_some_iff.mp hr) fun b hb hb'=>?_
   refine (looks_takesIn X hb).andThen ?_
   cases b with
   |true=>cases hb'
   |false=>exact .now
 rw[osa_eq,refuse_eq]
 refine wpAny_bind (wpAny_bind (I.type.here (wpAny_bind (hm.here ?_))))
 rw[aMd _ ho]
 refine wpAny_pure (wpAny_bind (I.type.here (wpAny_bind ((looks_findIn X ha).here (wpAny_bind (L3.here ?_))))))
 exact h _
theorem aI9{es es':List DictEntry}{n n':Nat}{name:Str}{tk:Tok}{v:Value}{pre post:List (Addr×Obj)}(F:Fr h₀ L s.heap m)(N:News h₀ L s.heap (pre++(d,dictOf es n)::post))(h1:∀ p∈pre,p.1≠d)(h2:∀ p∈post,p.1≠d)
  (hl:(getL name es).isSome=true) (e:(putL name (PyData.keyHash w.params name) (.str name s.toks) v es,putN name es n)=(es',n')) (hz:es'.length≤1000) {Q:Fin→Shared→Prop}
  (h:∀ h',Fr h₀ L h' m→News h₀ L h' (pre++(d,dictOf es' n')::post)→Q (.done (.ret .none)) { s with heap:=h',toks:=s.toks+1 }) :
  wpAny (model prog w) A (storeInDict d (.str name tk) name v) Q E s:=by
 refine aBa (Prod.mk.inj e) fun e1 e2=>?_
 have e3:Obj.putName name (PyData.keyHash w.params name) (.str name s.toks) v (dictOf es n)=dictOf es' n':=by rw[putName_dict,e1,e2]
 refine aBa (news_upd (f:=Obj.putName name (PyData.keyHash w.params name) (.str name s.toks) v) F N h1 h2 e3 rfl) fun U1 U2=>?_
 have D:=(N (d,dictOf es n) (by simp)).1
 have D':=(U2 (d,dictOf es' n') (by simp)).1
 unfold storeInDict
 refine wpAny_bind (wpAny_pure (wpAny_bind ?_))
 unfold nsSet
 refine wpAny_bind (wpAny_bind (wpAny_askSetting (wpAny_pure (wpAny_bind (wpAny_mkText (wpAny_bind (wpAny_loadPart D ?_)))))))
 dsimp only
 have c:(!es.toArray.any (·.key.isStr name)&&es.toArray.any (·.refKey))=false:=by
  rw[← Array.any_toList,← Array.any_toList]
  unfold getL at hl
  split at hl
  ·rename_i en he
   rw[List.any_eq_true.mpr ⟨en,List.mem_of_find?_eq_some he,List.find?_some he⟩];rfl
  ·split at hl
   ·cases hl
   ·rename_i z;rw[Bool.not_eq_true] at z;rw[z,Bool.and_false]
 rw[aRefKeyMayBeTheName_at,c]
 refine wpAny_updatePart D ?_
 refine wpAny_bind (wpAny_lookBehind D' (pastItsLine_dict (by rw[List.size_toArray,sizeLine_eq];lia)) ?_)
 exact wpAny_pure (h _ U1 U2)
theorem aWv{h:Heap}{vs:Array Value}{od:Obj}(hx:h.get? x=some (exO C d vs))(hd:h.get? d=some od):InstAt h x (exO C d vs) C (some od):=⟨hx,rfl,rfl,hd⟩
theorem aTf{h:Heap}{vs:Array Value}(hx:h.get? x=some { cls:=.ref C,data:=.fields vs }):InstAt h x { cls:=.ref C,data:=.fields vs } C none:=⟨hx,rfl,rfl,trivial⟩
theorem aQq{vs:Array Value}{es es':List DictEntry}{n n':Nat}{name:Str}{tk:Tok}{v:Value}{pre post:List (Addr×Obj)}(F:Fr h₀ L s.heap m)(X:K.In s.heap)(N:News h₀ L s.heap (pre++(d,dictOf es n)::post))(hx:s.heap.get? x=some (exO C d vs))
  (hp:aDr K C=true) (ht:takerIn K C name=some none) (hh:hasDictIn K C=true) (hl:(getL name es).isSome=true) (h1:∀ p∈pre,p.1≠d) (h2:∀ p∈post,p.1≠d)
  (e:(putL name (PyData.keyHash w.params name) (.str name s.toks) v es,putN name es n)=(es',n')) (hz:es'.length≤1000)
  (h:∀ h',Fr h₀ L h' m→News h₀ L h' (pre++(d,dictOf es' n')::post)→R (.ok (.ret .none)) { s with heap:=h',toks:=s.toks+1 }) :
  codeAny (model prog w) A (.call (.builtin "object.__setattr__") ⟨[.ref x,.str name tk,v],[]⟩) R s:=by
 have I:=aWv hx (N (d,dictOf es n) (by simp)).1
 refine aAd (any_some hh) fun cd hc hd'=>?_
 refine aJx X I hp ht fun b'=>?_
 refine wpAny_bind (wpAny_pure (wpAny_bind (wpAny_bind (wpAny_loadPart hx (wpAny_bind ((looks_clsIn X hc).here ?_))))))
 rw[hd']
 refine wpAny_pure (a:=some d) ?_
 exact aI9 F N h1 h2 hl e hz fun h' F' N'=>h h' F' N'
theorem aM0{vs:Array Value}{name:Str}{tk:Tok}{v:Value}(F:Fr h₀ L s.heap m)(X:K.In s.heap)(N:News h₀ L s.heap ledger)(pk:Pick (x,{ cls:=.ref C,data:=.fields vs }) ledger rest)(aw:∀ p∈rest,p.1≠x)
  (hp:aDr K C=true) (ht:takerIn K C name=some none) (hh:hasDictIn K C=true)
  (h:∀ d h',Fr h₀ L h' m→News h₀ L h' ((d,dictOf [⟨PyData.keyHash w.params name,.str name s.toks,v⟩] 1)::(x,exO C d vs)::rest)→(∀ p∈ledger,p.1<d)→R (.ok (.ret .none)) { s with heap:=h',toks:=s.toks+1 }) :
  codeAny (model prog w) A (.call (.builtin "object.__setattr__") ⟨[.ref x,.str name tk,v],[]⟩) R s:=by
 have hx:=(N _ pk.mem.1).1
 have I:=aTf hx
 refine aAd (any_some hh) fun cd hc hd'=>?_
 refine aJx X I hp ht fun b'=>?_
 refine wpAny_bind (wpAny_pure (wpAny_bind (wpAny_bind (wpAny_loadPart hx (wpAny_bind ((looks_clsIn X hc).here ?_))))))
 rw[hd']
 refine wpAny_bind (wpAny_alloc (wpAny_bind (wpAny_update (Heap.get?_push_of_some _ hx) (wpAny_pure ?_))))
 have lt:∀ p∈ledger,p.1<s.heap.objs.size:=fun p hp=>Heap.lt_size (N p hp).1
 have F₁:Fr h₀ L (s.heap.push { cls:=.type "dict",data:=.dict #[] }) m:=F.push _
 have N₁:News h₀ L (s.heap.push { cls:=.type "dict",data:=.dict #[] }) ([]++(x,{ cls:=.ref C,data:=.fields vs })::((s.heap.objs.size,dictOf [] 0)::rest)):=fun p hp=>by
  have M:=News.push F N (dictOf [] 0)
  rcases List.mem_cons.mp hp with rfl|hp
  ·exact M _ (.tail _ pk.mem.1)
  ·rcases List.mem_cons.mp hp with rfl|hp
   ·exact M _ (.head _)
   ·exact M _ (.tail _ (pk.mem.2 _ hp))
 obtain⟨F₂,N₂⟩:=news_upd (f:=fun o=>{ o with dict:=some s.heap.objs.size }) (o':=exO C s.heap.objs.size vs) F₁ N₁ (fun _ q=>nomatch q) (fun p hp=>by
  rcases List.mem_cons.mp hp with rfl|hp
  ·exact Nat.ne_of_gt (lt _ pk.mem.1)
  ·exact aw p hp) rfl rfl
 refine aI9 (s:={ s with heap:=_ }) (es:=[]) (n:=0) (pre:=[(x,exO C s.heap.objs.size vs)]) (post:=rest) F₂ (fun p hp=>N₂ p (by simpa using hp)) (fun p hp=>?_) (fun p hp=>Nat.ne_of_lt (lt _ (pk.mem.2 _ hp))) rfl rfl (by simp[putL]) fun h' F' N'=>?_
 ·obtain rfl:=List.mem_singleton.mp hp
  exact Nat.ne_of_lt (show x<s.heap.objs.size from lt _ pk.mem.1)
 ·refine h _ h' F' (fun p hp=>N' p ?_) lt
  rcases List.mem_cons.mp hp with rfl|hp
  ·simp[putL,putN]
  ·rcases List.mem_cons.mp hp with rfl|hp
   ·simp
   ·simp[hp]
theorem aL9{vs:Array Value}{es es':List DictEntry}{n n':Nat}{name:Str}{v:Value}{Q:Unit→Shared→Prop}{news':List (Addr×Obj)}(F:Fr h₀ L s.heap m)(X₀:K.In h₀)(N:News h₀ L s.heap ledger)(hx:(x,exO C d vs)∈ledger)(hd:(d,dictOf es n)∈ledger)
  (hs:findIn K (.ref C) "__setattr__"=some (some (.builtin "object.__setattr__"))) (hp:aDr K C=true) (ht:takerIn K C name=some none) (hh:hasDictIn K C=true) (hl:(getL name es).isSome=true)
  (e:(putL name (PyData.keyHash w.params name) (.str name (s.toks+1)) v es,putN name es n)=(es',n')) (U:Upd d (dictOf es n) (dictOf es' n') ledger news') (hz:es'.length≤1000)
  (h:∀ h',Fr h₀ L h' m→News h₀ L h' news'→Q () { s with heap:=h',toks:=s.toks+2 }):wpAny (model prog w) A (setAttr (.ref x) name v) Q E s:=by
 refine bF0 U.split fun pre post r12_2 r12_3 a b=>?_
 subst r12_2
 subst r12_3
 exact set_plain (X₀.keeps F.keep) (aWv (N _ hx).1 (N _ hd).1) hs (aQq (s:={ s with toks:=s.toks+1 }) F (X₀.keeps F.keep) N (N _ hx).1 hp ht hh hl a b e hz fun h' F' N'=>h h' F' N')
theorem aKp{vs:Array Value}{name:Str}{v:Value}{Q:Unit→Shared→Prop}(F:Fr h₀ L s.heap m)(X₀:K.In h₀)(N:News h₀ L s.heap ledger)(pk:Pick (x,{ cls:=.ref C,data:=.fields vs }) ledger rest)(aw:∀ p∈rest,p.1≠x)
  (hs:findIn K (.ref C) "__setattr__"=some (some (.builtin "object.__setattr__"))) (hp:aDr K C=true) (ht:takerIn K C name=some none) (hh:hasDictIn K C=true)
  (h:∀ d h',Fr h₀ L h' m→News h₀ L h' ((d,dictOf [⟨PyData.keyHash w.params name,.str name (s.toks+1),v⟩] 1)::(x,exO C d vs)::rest)→(∀ p∈ledger,p.1<d)→Q () { s with heap:=h',toks:=s.toks+2 }) :
  wpAny (model prog w) A (setAttr (.ref x) name v) Q E s :=
 set_plain (X₀.keeps F.keep) (aTf (N _ pk.mem.1).1) hs (aM0 (s:={ s with toks:=s.toks+1 }) F (X₀.keeps F.keep) N pk aw hp ht hh fun d h' F' N' l=>h d h' F' N' l)
theorem bYp{vs:Array Value}{es:List DictEntry}{n:Nat}{name:Str}{v:Value}{expr:Bool}{attr:Option Value}{Q:Value→Shared→Prop}(F:Fr h₀ L s.heap m)(X₀:K.In h₀)(N:News h₀ L s.heap ledger)(hx:(x,exO C d vs)∈ledger)(hd:(d,dictOf es n)∈ledger)
  (hg:findIn K (.ref C) "__getattribute__"=some (some (.builtin "BaseException.__getattribute__"))) (hk:findIn K (.ref C) "__getattr__"=some none) (hp:aDr K C=true) (hh:hasDictIn K C=true) (ha:findIn K (.ref C) name=some attr) (hn:noGet K attr=true) (hl:getL name es=some (some v)) (hv:handedIn v=true)
  (h:Q v { s with toks:=s.toks+1 }):wpAny (model prog w) A (getAttr (.ref x) name expr) Q E s:=by
 have X:=X₀.keeps F.keep
 have I:=aWv (N _ hx).1 (N _ hd).1
 have hf:=findObj_own (od:=dictOf es n) hh ha hn (show lookIn name (dictOf es n)=_ from hl)
 obtain⟨hp',g,dd,t,os⟩:=s
 have L0:=I.type (M:=model prog w)
 have L1:=looks_findIn (M:=model prog w) X hg
 have L2:=looks_findIn (M:=model prog w) X hk
 have L3:=looks_find (M:=model prog w) X I hf
 unfold getAttr getAttrBy
 have f3:=PySem.F.attrBase_ValueError.ga.bind (.ref x)
 have hx0:(expr&&onTheHeap (Value.builtin "BaseException.__getattribute__"))=false:=by cases expr<;>rfl
 refine wpAny_bind (wpAny_mkText (wpAny_holding (wpAny_bind (L0.at (wpAny_bind (L1.at ?_))))))
 show wpAny _ _ (getAttrByItsOwn _ _ _ _ _ _) _ _ _
 unfold getAttrByItsOwn
 refine wpAny_bind (L2.at ?_)
 repeat (any_goals (first|assumption|wp_step))
 refine codeAny_call_builtin PySem.F.attrBase_ValueError.ga.plain PySem.F.entry_bexc_ga (@check_slot (model prog w) _ _ _ "BaseException.__getattribute__" "BaseException" "__getattribute__" (.ref x) [.str name t] [] _ (by decide +kernel) (by decide +kernel) (aTd (.inr (.inl rfl)) X I hp) (PySem.F.args_bexc_ga _ _) ?_)
 refine wpAny_bind (wpAny_pure (wpAny_bind (wpAny_pure (wpAny_bind (L0.at (wpAny_bind (L3.at ?_)))))))
 refine wpAny_pure ?_
 show wpAny _ _ (handedOut v) _ _ _
 rw[handedOut_of hv]
 exact wpAny_pure h
end
end
theorem aG9{l:List Value}(h:aB2 l=true):l.contains (.type "AttributeError")=false∧l.contains (.type "NameError")=false :=
 aD1 (P:=fun l=>l.contains (.type "AttributeError")=false∧l.contains (.type "NameError")=false) ⟨by decide,by decide⟩ (fun c r h=>by rw[List.contains_cons,List.contains_cons,h.1,h.2];exact⟨rfl,rfl⟩) h
section
variable {prog:Program} {w:World} {A:Around} {R:Result→Shared→Prop} {E:Value→Shared→Prop} {h:Heap} {g:Array GenState} {d:Drawn} {t:Nat} {os:OsState}
variable {nm q:Str} {C N:Addr} {bs bm:List Value} {hdct:Bool} {sn:List Str} {sub:List Value} {ab:Bool} {col:Option Bool} {dd:Option Addr} {k0 k1 k2 k3 k5:Option Value}
theorem aKk{M:Model}{rest:List Value}{Q:Unit→Shared→Prop}(hv:aB2 (.ref C::bm)=true)(hC:h.get? C=some (excClassObj nm q C N bs bm hdct sn sub ab col dd k0 k1 k2 k3 k5 "ValueError.__new__"))
  (hq:Q () ⟨h,g,d,t,os⟩):wpAny M A (checkBuiltinCall "ValueError.__new__" ⟨.ref C::rest,[]⟩) Q E ⟨h,g,d,t,os⟩:=by
 have F:=PySem.F.excBase_ValueError
 have hcont:=aFn (.type "ValueError") (.inr (.inr rfl)) hv
 have hstar:=F.noStar
 simp only[checkBuiltinCall,F.newKind,F.newSplit,F.newRow]
 repeat (first|refine wpAny_loadPart_at hC ?_|(refine wpAny_isSubtype_exc hC ?_;rw[hcont])|refine wpAny_staticBase_exc hC ?_|refine wpAny_madeBy_exc hC ?_|simp only[bne_self_eq_false,Bool.false_eq_true,if_false]|wp_step)
 exact hq
theorem bSa{rest:List Value}(hv:aB2 (.ref C::bm)=true)(hC:h.get? C=some (excClassObj nm q C N bs bm hdct sn sub ab col dd k0 k1 k2 k3 k5 "ValueError.__new__"))
  (hq:R (.ok (.ret (.ref (h.objs.size+1)))) ⟨(h.push { cls:=.type "tuple",data:=.seq rest.toArray }).push
   { cls:=.ref C,data:=.fields #[.ref h.objs.size,.none,.none,.none,.bool false,.none] },g,d,t,os⟩) (hrest:rest.length≤sizeLine:=by size_fits) :
  codeAny (model prog w) A (.builtin "ValueError.__new__" ⟨.ref C::rest,[]⟩) R ⟨h,g,d,t,os⟩:=by
 have F:=PySem.F.excBase_ValueError
 have hends:=F.ends
 have hcB:=aFn (.type "ValueError") (.inr (.inr rfl)) hv
 have hcA:=(aG9 hv).1
 have hcN:=(aG9 hv).2
 refine codeAny_builtinAt F.entry ?_
 unfold Builtin.«BaseException.__new__»
 refine PySem.wpAt_bind ?_
 show PySem.wpAt _ _ _ (stack >>= _) _ _ _
 refine PySem.wpAt_bind (PySem.wpAt_stack fun p below=>PySem.wpAt_of_wpAny ?_)
 wp_walk
 refine PySem.wpAt_of_wpAny ?_
 rw[F.owner]
 repeat (first|with_reducible refine wpAny_madeHere_exc F.canon hC ?_|with_reducible refine wpAny_loadPart_at hC ?_|(with_reducible refine wpAny_isSubtype_exc hC ?_;first|rw[hcB]|rw[hcA]|rw[hcN])|wp_step)
 show R _ _
 rw[Heap.size_push]
 exact hq
theorem aKj{rest:List Value}{fI:Addr}{oI:Obj}{Q:PySem.Fin→Shared→Prop}(hv:aB2 (.ref C::bm)=true)
  (hC:h.get? C=some (excClassObj nm q C N bs bm hdct sn sub ab col dd k0 k1 k2 k3 k5 "ValueError.__new__")) (hlk:∀ h',(∀ b o,h.get? b=some o→h'.get? b=some o)→Looks (model prog w) h' (typeLookup (.ref C) "__init__") (some (.ref fI))) (hfI:h.get? fI=some oI) (hfc:oI.cls=.type "function")
  (hq:wpAny (model prog w) A (call (.ref fI) (.ref (h.objs.size+1)::rest)) (fun r s'=>r=.none∧Q (.done (.ret (.ref (h.objs.size+1)))) s') E
   ⟨(h.push { cls:=.type "tuple",data:=.seq rest.toArray }).push { cls:=.ref C,data:=.fields #[.ref h.objs.size,.none,.none,.none,.bool false,.none] },g,d,t,os⟩) (hrest:rest.length≤sizeLine:=by size_fits) :
  wpAny (model prog w) A (Builtin.«type.__call__» ⟨.ref C::rest,[]⟩) Q E ⟨h,g,d,t,os⟩:=by
 repeat (first|with_reducible refine wpAny_loadPart_at hC ?_|with_reducible refine wpAny_madeBy_exc hC ?_|wp_step)
 refine codeAny_call_builtin_code (Code.quiet_builtin _ PySem.F.excBase_ValueError.quiet) (aKk hv hC ?_)
 refine bSa hv hC ?_ hrest
 show wpAny _ _ _ _ _ _
 have up:∀ b o,h.get? b=some o→((h.push { cls:=.type "tuple",data:=.seq rest.toArray }).push { cls:=.ref C,data:=.fields #[.ref h.objs.size,.none,.none,.none,.bool false,.none] }).get? b=some o:=fun b o e=>Heap.get?_push_of_some _ (Heap.get?_push_of_some _ e)
 have hC₁:=up _ _ hC
 have hget:((h.push { cls:=.type "tuple",data:=.seq rest.toArray }).push { cls:=.ref C,data:=.fields #[.ref h.objs.size,.none,.none,.none,.bool false,.none] }).get? (h.objs.size+1)=some
   { cls:=.ref C,data:=.fields #[.ref h.objs.size,.none,.none,.none,.bool false,.none] }:=by heap_get
 have hcC:(Value.ref C::bm).contains (.ref C)=true:=by simp
 unfold isInstance
 repeat (first|with_reducible refine wpAny_loadPart_at hget ?_|(with_reducible refine wpAny_isSubtype_exc hC₁ ?_;rw[hcC])|wp_step)
 show wpAny _ _ (typeLookup (.ref C) _) _ _ _
 refine (hlk _ up).at ?_
 refine wpAny_holding (wpAny_bind ?_)
 unfold bindSpecial
 refine wpAny_bind (wpAny_typeOf (T:="function") ⟨_,up _ _ hfI,hfc⟩ ?_)
 rw[if_pos (by decide)]
 refine wpAny_pure (wpAny_bind (wpAny_mono hq (fun r s' hr=>?_) fun _ _ x=>x))
 obtain⟨rfl,hQ⟩:=hr
 wp_walk
 exact hQ
theorem bGh{rest:List Value}{fI:Addr}{oI:Obj}{Q:Value→Shared→Prop}(hv:aB2 (.ref C::bm)=true)
  (hC:h.get? C=some (excClassObj nm q C N bs bm hdct sn sub ab col dd k0 k1 k2 k3 k5 "ValueError.__new__")) (hlk:∀ h',(∀ b o,h.get? b=some o→h'.get? b=some o)→Looks (model prog w) h' (typeLookup (.ref C) "__init__") (some (.ref fI))) (hfI:h.get? fI=some oI) (hfc:oI.cls=.type "function")
  (hq:wpAny (model prog w) (A.under (.builtin "type.__call__" ⟨.ref C::rest,[]⟩)) (call (.ref fI) (.ref (h.objs.size+1)::rest)) (fun r s'=>r=.none∧Q (.ref (h.objs.size+1)) s') E
   ⟨(h.push { cls:=.type "tuple",data:=.seq rest.toArray }).push { cls:=.ref C,data:=.fields #[.ref h.objs.size,.none,.none,.none,.bool false,.none] },g,d,t,os⟩) (hrest:rest.length≤sizeLine:=by size_fits) :
  wpAny (model prog w) A (call (.ref C) rest) Q E ⟨h,g,d,t,os⟩:=by
 have f1:=tc_lookup
 have f2:=tc_bind (.ref C)
 have hT:(⟨h,g,d,t,os⟩:Shared).TypeIs (.ref C) "type":=⟨_,hC,rfl⟩
 refine wpAny_call (codeAny_of_tree ?_)
 show wpAny _ _ (callAny (.ref C) _) _ _ _
 repeat (any_goals (first|assumption|with_reducible refine wpAny_loadPart_at hC ?_|wp_step))
 refine⟨rfl,?_⟩
 exact codeAny_call_builtin_at (Code.quiet_builtin _ (by decide +kernel)) entry_typeCall (wpAny_check_type_call_sub hC (aKj (hrest:=hrest) hv hC hlk hfI hfc hq))
end
noncomputable def isB(v:Option Value)(s:String):Bool:=match v with
 |some (.builtin a)=>a==s
 |_=>false
theorem bCh{v:Option Value}{s:String}(h:isB v s=true):v=some (.builtin s):=by
 cases v with
 |none=>cases h
 |some v =>
  cases v with
  |builtin a=>rw[beq_iff_eq.mp h]
  |_=>cases h
noncomputable def bPo(v:Value)(C:Addr):Bool:=match v with
 | .ref a=>a==C
 |_=>false
theorem aWs{v:Value}{C:Addr}(h:bPo v C=true):v=.ref C:=by
 cases v with
 |ref a=>rw[beq_iff_eq.mp h]
 |_=>cases h
noncomputable def six(l:List (Option Value))(s:String):Bool:=hd1 l fun _ l=>hd1 l fun _ l=>hd1 l fun _ l=>hd1 l fun _ l=>hd1 l fun v l=>hd1 l fun _ l=>l.isEmpty&&isB v s
theorem aZx{l:List (Option Value)}{s:String}(h:six l s=true):∃ k0 k1 k2 k3 k5,l=[k0,k1,k2,k3,some (.builtin s),k5] :=
 aGf (aFb h) fun a _ e0 h=>aGf (aFb h) fun b _ e1 h=>aGf (aFb h) fun c _ e2 h=>aGf (aFb h) fun d _ e3 h=>aGf (aFb h) fun _ _ e4 h=>aGf (aFb h) fun f _ e5 h=>aBa (Bool.and_eq_true_iff.mp h) fun h0 h=>bPy a b c d f (by
  rw[e0,e1,e2,e3,e4,e5,List.isEmpty_iff.mp h0,bCh h])
noncomputable def aI6(K:Frag)(C:Addr):Bool:=match K.lookup C with
 |some o=>isT o.cls "type"&&(match o.data with
  | .cls cd=>(match cd.mro with
   |v::bm=>bPo v C&&(!cd.hasDel&&(aB2 (v::bm)&&six o.slots.toList "ValueError.__new__"))
   | []=>false)
  |_=>false)
 |none=>false
inductive VeCls (h:Heap) (C:Addr):Prop
 |mk (nm qn:Str) (N:Addr) (bs bm:List Value) (hdct:Bool) (sn:List Str) (sub:List Value) (ab:Bool) (col:Option Bool) (dd:Option Addr) (k0 k1 k2 k3 k5:Option Value)
  (hC:h.get? C=some (excClassObj nm qn C N bs bm hdct sn sub ab col dd k0 k1 k2 k3 k5 "ValueError.__new__")) (hv:aB2 (.ref C::bm)=true):VeCls h C
theorem aI5{K:Frag}{h:Heap}{C:Addr}(X:K.In h)(q:aI6 K C=true):VeCls h C:=by
 unfold aI6 at q
 generalize ho:K.lookup C=o at q
 cases o with
 |none=>cases q
 |some o =>
  obtain⟨cl,di,da,sl⟩:=o
  refine aBa (Bool.and_eq_true_iff.mp q) fun q1 q=>?_
  obtain rfl:cl=.type "type":=aHf q1
  cases da with
  |cls cd =>
   obtain⟨nm,bs,mro,ns,qn,hd,sn,sub,ab,col,del⟩:=cd
   cases mro with
   |nil=>cases q
   |cons v bm =>
    refine aBa (Bool.and_eq_true_iff.mp q) fun q2 q=>?_
    obtain rfl:v=.ref C:=aWs q2
    refine aBa (Bool.and_eq_true_iff.mp q) fun q3 q=>?_
    cases del with
    |true=>cases q3
    |false =>
     refine aBa (Bool.and_eq_true_iff.mp q) fun q4 q5=>?_
     obtain⟨l⟩:=sl
     refine bL2 (aZx q5) fun k0 k1 k2 k3 k5 e=>?_
     obtain rfl:l=_:=e
     exact⟨nm,qn,ns,bs,bm,hd,sn,sub,ab,col,di,k0,k1,k2,k3,k5,X _ _ ho,q4⟩
  |_=>cases q
section
variable {prog:Program} {w:World} {A:Around} {E:Value→Shared→Prop} {s:Shared} {K:Frag} {C L fI:Addr} {h₀:Heap} {m:Str→Option Value} {news:List (Addr×Obj)} {Q:Value→Shared→Prop} {rest:List Value}
noncomputable abbrev aR9(C t:Addr):Obj:={ cls:=.ref C,data:=.fields #[.ref t,.none,.none,.none,.bool false,.none] }
noncomputable abbrev aL1(l:List Value):Obj:={ cls:=.type "tuple",data:=.seq l.toArray }
theorem aX3(F:Fr h₀ L s.heap m)(X₀:K.In h₀)(N:News h₀ L s.heap news)(hq:aI6 K C=true)(hi:findIn K (.ref C) "__init__"=some (some (.ref fI)))(hf:typeIn K (.ref fI)=some (.type "function"))(hr:rest.length≤10)
  (h:∀ t e h',Fr h₀ L h' m→News h₀ L h' ((e,aR9 C t)::(t,aL1 rest)::news)→(∀ p∈news,p.1<t)→t<e →
   codeAny (model prog w) (A.under (.builtin "type.__call__" ⟨.ref C::rest,[]⟩)) (.call (.ref fI) ⟨.ref e::rest,[]⟩) (InitBack e fun r s'=>match r with | .ok (.ret v)=>Q v s' | .ok _=>False | .error e=>E e s') { s with heap:=h' }) :
  wpAny (model prog w) A (call (.ref C) rest) Q E s:=by
 have X:=X₀.keeps F.keep
 obtain⟨nm,qn,N',bs,bm,hdct,sn,sub,ab,col,dd,k0,k1,k2,k3,k5,hC,hv⟩:=aI5 X hq
 refine aAd (Option.map_eq_some_iff.mp hf) fun oI hfI hfc=>?_
 obtain⟨hp,g,d,t,os⟩:=s
 have N₁:=News.push (F.push (aL1 rest)) (News.push F N (aL1 rest)) (aR9 C hp.objs.size)
 rw[Heap.size_push] at N₁
 refine bGh hv hC (fun h' k=>looks_findIn (X.keeps k) hi) (X _ _ hfI) hfc (wpAny_call (codeAny_mono (h hp.objs.size (hp.objs.size+1) _ ((F.push _).push _) N₁ (fun p hp'=>Heap.lt_size (N p hp').1) (Nat.lt_succ_self _)) fun r s' z=>?_)) (by rw[sizeLine_eq];omega)
 rcases r with e|(v|_|_|_)<;>exact z
end
section
open PySem PySem.W PyProof.Rows PySem.Spec PySem.Calls PySem.Builtin PySem.Builtin.Int PySem.Builtin.Str PySem.Builtin.Float
theorem hex_len:∀ (k fuel n:Nat) (ds:List Char),n<16 ^ (k+1)→(Nat.toDigitsCore 16 fuel n ds).length≤ds.length+(k+1)
 |k,0,n,ds,_=>by simp[Nat.toDigitsCore]
 | 0,fuel+1,n,ds,h=>by
  have h0:n/16=0:=by lia
  simp[Nat.toDigitsCore,h0]
 |k+1,fuel+1,n,ds,h=>by
  unfold Nat.toDigitsCore
  simp only
  split
  ·simp
  ·have:=hex_len k fuel (n/16) (Nat.digitChar (n%16)::ds) (by rw[Nat.pow_succ] at h;lia)
   simp only[List.length_cons] at this
   lia
theorem aLa{n:Nat}(h:n<16 ^ 16):(Nat.toDigits 16 n).length≤16:=by
 have:=hex_len 15 (n+1) n [] h
 simpa[Nat.toDigits] using this
noncomputable def aC6(neg:Bool)(digits:List Nat):PySem.Str :=
 let sign:List Nat:=if neg then [45] else []
 let ds:=if digits.isEmpty then [] else List.replicate ((0:_root_.Int).toNat-digits.length) 48++digits
 let pad:=((-1:_root_.Int)-((sign.length:_root_.Int)+(0:Nat)+(0:Nat))-ds.length).toNat
 ⟨(List.replicate pad 32++sign++[]++List.replicate 0 32++ds++[]++List.replicate 0 32).toArray⟩
theorem aHk{neg:Bool}{digits:List Nat}(h:digits.length≤16):(aC6 neg digits).length≤100:=by
 unfold aC6 Str.length
 have h0:((0:_root_.Int).toNat-digits.length)=0:=by simp
 cases digits with
 |nil=>cases neg<;>simp
 |cons x r =>
  simp only[List.length_cons] at h
  cases neg<;>simp<;>lia
theorem aL2{α:Type}{M:Model}{A:Around}{t t':Sem α}{Q:α→Shared→Prop}{E:Value→Shared→Prop}{s:Shared}(e:t=t')(h:wpAny M A t' Q E s):wpAny M A t Q E s:=e▸h
section
variable {prog:Program} {w:World} {A:Around} {E:Value→Shared→Prop} {s:Shared} {t:Tok} {a:_root_.Int}
theorem aOg{Q:Value→Shared→Prop}(hb:a.natAbs<16 ^ 16)(h:∀ (y:PySem.Str) t' k,y.length≤100→Q (.str y t') { s with toks:=k }):wpAny (model prog w) A (formatField (.int a t) (PySem.Str.ofString "x")) Q E s:=by
 have hl:(aC6 (decide (a<0)) ((Nat.toDigits 16 a.natAbs).map fun c=>c.toNat)).length≤100:=aHk (by rw[List.length_map];exact aLa hb)
 generalize hy:aC6 (decide (a<0)) ((Nat.toDigits 16 a.natAbs).map fun c=>c.toNat)=y at hl
 refine KXf.field_int (spec':=PySem.Str.ofString "x") (y:=y) rfl (by decide +kernel) (by decide +kernel) ?_ fun t' k=>h _ t' k hl
 intro u
 refine KPc.meets_of fun p' w' A' s' Q' E' h'=>?_
 refine aL2 (t':=typeNameOf (.str (PySem.Str.ofString "x") u) >>= fun _=>typeNameOfCut 200 (.int a t) >>= fun _=>retStr (aC6 (decide (a<0)) ((Nat.toDigits 16 a.natAbs).map fun c=>c.toNat))) (by kernel_rfl) ?_
 refine wpAny_bind (wpAny_typeNameOf (T:="str") (typeIs_str _ _ _) (by decide) fun _=>?_)
 refine wpAny_bind (wpAny_typeNameOfCut_int ?_)
 exact KXf.ret_text hy (by rw[hy,sizeLine_eq];lia) h'
theorem aLd{spec:PySem.Str}{Q:Value→Shared→Prop}(hs:spec=PySem.Str.ofString "x")(hb:a.natAbs<16 ^ 16)(h:∀ (y:PySem.Str) t' k,y.length≤100→Q (.str y t') { s with toks:=k }):wpAny (model prog w) A (formatField (.int a t) spec) Q E s:=by
 subst hs
 exact aOg hb h
end
end
section
variable {prog:Program} {w:World} {A:Around} {E:Value→Shared→Prop} {s:Shared} {K:Frag} {C L x:Addr} {h₀:Heap} {m:Str→Option Value} {ledger rest:List (Addr×Obj)} {Q:Value→Shared→Prop} {v:Value}
theorem aH3{M:Model}{h:Heap}{g:Array GenState}{d:Drawn}{t:Nat}{os:OsState}{nm q:Str}{N:Addr}{bs bm:List Value}{hdct:Bool}{sn:List Str}{sub:List Value}{ab:Bool}{col:Option Bool}{dd:Option Addr}{k0 k1 k2 k3 k5:Option Value}{oe:Obj}{l:List Value}{Q:Unit→Shared→Prop}
  (hv:aB2 (.ref C::bm)=true) (hC:h.get? C=some (excClassObj nm q C N bs bm hdct sn sub ab col dd k0 k1 k2 k3 k5 "ValueError.__new__")) (he:h.get? x=some oe) (hcls:oe.cls=.ref C) (hq:Q () ⟨h,g,d,t,os⟩) :
  wpAny M A (checkBuiltinCall "ValueError.__init__" ⟨.ref x::l,[]⟩) Q E ⟨h,g,d,t,os⟩:=by
 have FE:=PySem.F.excBase_ValueError
 have hB:=aFn (.type "ValueError") (.inr (.inr rfl)) hv
 have hs:=FE.noStar
 simp only[checkBuiltinCall,FE.initKind,FE.initSplit,FE.initRow]
 repeat (first|(with_reducible refine wpAny_loadPart_at he ?_;rw[hcls])|with_reducible refine wpAny_loadPart_at hC ?_|(with_reducible refine wpAny_isSubtype_exc hC ?_;rw[hB])|wp_step)
 refine wpAny_onRaise ?_
 refine wpAny_of_eq (a:=()) (check_star_args _ _ _ _ _ _) hq
theorem bLn{t:Addr}(F:Fr h₀ L s.heap m)(X₀:K.In h₀)(N:News h₀ L s.heap ledger)(pk:Pick (x,aR9 C t) ledger rest)(aw:∀ p∈rest,p.1≠x)(hp:aI6 K C=true)
  (h:∀ t' h',Fr h₀ L h' m→News h₀ L h' ((x,aR9 C t')::(t',aL1 [v])::rest)→(∀ p∈ledger,p.1<t')→Q .none { s with heap:=h' }) :
  wpAny (model prog w) A (call (.builtin "ValueError.__init__") [.ref x,v]) Q E s:=by
 have FE:=PySem.F.excCall_ValueError
 have X:=X₀.keeps F.keep
 have hx:=(N _ pk.mem.1).1
 have lt:∀ p∈ledger,p.1<s.heap.objs.size:=fun p hp=>Heap.lt_size (N p hp).1
 have N₁:News h₀ L (s.heap.push (aL1 [v])) ([]++(x,aR9 C t)::((s.heap.objs.size,aL1 [v])::rest)):=fun p hp=>by
  have M:=News.push F N (aL1 [v])
  rcases List.mem_cons.mp hp with rfl|hp
  ·exact M _ (.tail _ pk.mem.1)
  ·rcases List.mem_cons.mp hp with rfl|hp
   ·exact M _ (.head _)
   ·exact M _ (.tail _ (pk.mem.2 _ hp))
 obtain⟨F₂,N₂⟩:=news_upd (f:=Obj.mapFields (·.setIfInBounds 0 (.ref s.heap.objs.size))) (o':=aR9 C s.heap.objs.size) (F.push (aL1 [v])) N₁ (fun _ q=>nomatch q) (fun p hp=>by
  rcases List.mem_cons.mp hp with rfl|hp
  ·exact Nat.ne_of_gt (lt _ pk.mem.1)
  ·exact aw p hp) rfl rfl
 have z:=h _ _ F₂ N₂ lt
 obtain⟨nm,qn,N',bs,bm,hdct,sn,sub,ab,col,dd,k0,k1,k2,k3,k5,hC,hv⟩:=aI5 X hp
 obtain⟨hh,g,d,tk,os⟩:=s
 refine wpAny_call (codeAny_call_builtin FE.init.plain FE.initEntry (aH3 hv hC hx rfl ?_))
 have hx₁:=Heap.get?_push_of_some (h:=hh) (aL1 [v]) hx
 unfold Builtin.«BaseException.__init__»
 repeat (first|with_reducible refine wpAny_loadPart_at hx₁ ?_|wp_step)
 exact z
end
noncomputable abbrev vsX(t:Addr):Array Value:=#[.ref t,.none,.none,.none,.bool false,.none]
structure KeptS(G g:Heap)(I fs:List Addr):Prop where
 keep:∀ b o,G.get? b=some o→b∉I→b∉fs→g.get? b=some o
 up:∀ b∈fs,∀ o,G.get? b=some o→b∉I→∃ sl,g.get? b=some { o with slots:=sl }
 fresh:∀ b,g.get? b=none→b∈I∨G.get? b=none
theorem Kept.turn{G g g':Heap}{I fs:List Addr}(k:Kept G g I)(T:KtsTurn fs g g'):KeptS G g' I fs :=
 ⟨fun b o e n nf=>T.other b o (k.keep b o e n) nf,fun b hb o e n=>T.frame b o (k.keep b o e n) hb,fun b e=>aBq k (by
  cases q:g.get? b with
  |none=>rfl
  |some o=>obtain⟨sl,hs⟩:=T.up q;rw[hs] at e;cases e)⟩
section
variable {M:Model} {A:Around} {E:Value→Shared→Prop} {s':Shared} {base g G h₀:Heap} {l:List Env} {L a e C d:Addr} {m:Str→Option Value} {name:Str} {scope:Scope} {cd:Value} {Q:Unit→Shared→Prop} {outs rest ins:List (Addr×Obj)} {vs:Array Value} {od:Obj} {a0:Value} {I:List Addr}
theorem aFo{h₂:Heap}(kg:KeptS G g I (l.filterMap (·.frame)))(hI:∀ b∈I,g.get? b=none)(K:Below A base l g)(F:Fr g L s'.heap m)(N:News g L s'.heap ((e,exO C d vs)::(d,od)::outs))
  (hne:∀ q∈(d,od)::outs,q.1≠e) (hd:d∉I) (hE:e∉I)
  (x₂:Fl (hideAll s'.heap (e::(envOf name scope L a cd::l).filterMap (·.frame))) (envOf name scope L a cd::l) e C d a0 .none h₂) (u:s'.heap.UpToSlots h₂):Flown G l I outs e C d od a0 h₂:=by
 have nL:g.get? L=none:=kts_self F
 have fr:∀ b∈l.filterMap (·.frame),∃ o,g.get? b=some o∧∀ ws,o.data≠.fields ws:=fun b hb=>(K.frames.mem hb).2
 have inB:∀ b o,s'.heap.get? b=some o→b≠e→b≠L→b∉l.filterMap (·.frame)→(hideAll s'.heap (e::(envOf name scope L a cd::l).filterMap (·.frame))).get? b=some o:=fun b o hb n1 n2 n3=>hideAll_get _ hb fun hm=>by
  rcases List.mem_cons.mp hm with z|z
  ·exact n1 z
  ·rcases kts_mem z with z|z
   ·exact n2 z
   ·exact n3 z
 have outB:∀ q∈(d,od)::outs,(hideAll s'.heap (e::(envOf name scope L a cd::l).filterMap (·.frame))).get? q.1=some q.2:=fun q hq=>by
  have n:=N q (.tail _ hq)
  refine inB _ _ n.1 (hne q hq) n.2.1 fun hm=>?_
  refine aAd (fr _ hm) fun o ho _=>?_
  rw[n.2.2] at ho;cases ho
 refine⟨⟨_,fun b o hb n1 n2=>?_,fun q hq=>outB q (.tail _ hq),outB _ (.head _),x₂.stays,x₂.new,x₂.frames.2.2,x₂.obj⟩,fun q hq=>kg.fresh _ (N q (.tail _ (.tail _ hq))).2.2,(kg.fresh _ (N (d,od) (.tail _ (.head _))).2.2).resolve_left hd,(kg.fresh _ (N (e,exO C d vs) (.head _)).2.2).resolve_left hE,fun b hb o ho=>?_⟩
 ·have hg:=kg.keep b o hb n2 n1
  refine inB b o (F.keep b o hg) (fun z=>?_) (fun z=>?_) n1
  ·have:=(N _ (.head _)).2.2;rw[← z] at this;dsimp only at this;rw[hg] at this;cases this
  ·rw[z,nL] at hg;cases hg
 ·refine aAd (fr b hb) fun o' ho' hn=>?_
  obtain⟨sl0,hg⟩:=kg.up b hb o ho fun hi=>by rw[hI b hi] at ho';cases ho'
  rw[hg] at ho';cases ho'
  have hF:=F.keep b _ hg
  refine aA6 (u b _ hF hn) fun sl hs=>?_
  exact⟨sl,hs⟩
theorem aQ2(kg:KeptS G g I (l.filterMap (·.frame)))(hI:∀ b∈I,g.get? b=none)(K:Below A base l g)(F:Fr g L s'.heap m)(N:News g L s'.heap ((e,exO C d vs)::(d,od)::outs))(hsz:vs.size=6)(h0:vs[2]?=some a0)(h1:vs[1]?=some .none)
  (hne:∀ q∈(d,od)::outs,q.1≠e) (hd:d∉I) (hE:e∉I) (hQ:∀ h',Flown G l I outs e C d od a0 h'→Q () { s' with heap:=h' }) (hk:scope.kind=.function:=by rfl) :
  wpAny M (A.deeper (envOf name scope L a cd)) (leaving (envOf name scope L a cd) (.ref e)) Q E s':=by
 have K':=K.push (name:=name) (a:=a) (cd:=cd) F hk
 have hfr:s'.heap.FunFrames (hideAll s'.heap (e::(envOf name scope L a cd::l).filterMap (·.frame))) (envOf name scope L a cd::l) :=
  funFrames_hide K'.frames fun env he b hb=>List.mem_cons_of_mem _ (List.mem_filterMap.mpr ⟨env,he,hb⟩)
 refine wpAny_bind (aFj K'.stack hfr rfl (N _ (.head _)).1 (fun b o q=>of_hideAll _ q) (hideAll_none _ (.head _)) hsz h0 h1 fun h₁ x₁ u₁=>?_)
 exact flight x₁ fun h₂ x₂ u₂=>hQ h₂ (aFo kg hI K F N hne hd hE x₂ (u₁.trans u₂))
end
noncomputable def aHx(K:Frag)(E:Value→Shared→Prop)(v:Value)(s:Shared):Prop :=
 ∃ e C d t,v=.ref e∧K.In s.heap∧aI6 K C=true∧s.heap.get? e=some (exO C d (vsX t))∧E (.ref e) s
theorem aUa{K:Frag}{E:Value→Shared→Prop}{s:Shared}{h₀:Heap}{L e C d t:Addr}{m:Str→Option Value}{ledger:List (Addr×Obj)}(F:Fr h₀ L s.heap m)(X:K.In h₀)(N:News h₀ L s.heap ledger)(hx:(e,exO C d (vsX t))∈ledger)(hv:aI6 K C=true)(h:E (.ref e) s):aHx K E (.ref e) s :=
 ⟨e,C,d,t,rfl,X.keeps F.keep,hv,(N _ hx).1,h⟩
noncomputable abbrev vsN(t e1:Addr):Array Value:=#[.ref t,.none,.ref e1,.none,.bool true,.none]
noncomputable def upX(h:Heap)(e e1:Addr):Heap:=((h.update e (Obj.mapFields (·.setIfInBounds 3 .none))).update e (Obj.mapFields (·.setIfInBounds 4 (.bool true)))).update e (Obj.mapFields (·.setIfInBounds 2 (.ref e1)))
noncomputable def aE2(K:Frag)(e1:Addr)(E:Value→Shared→Prop)(v:Value)(s:Shared):Prop :=
 ∃ e C d t C1 d1 vs1,v=.ref e∧K.In s.heap∧aI6 K C=true∧s.heap.get? e=some (exO C d (vsX t))∧e1≠e∧s.heap.get? e1=some (exO C1 d1 vs1)∧vs1[2]?=some .none∧E (.ref e) { s with heap:=upX s.heap e e1 }
theorem aP0{K:Frag}{E:Value→Shared→Prop}{s:Shared}{h₀:Heap}{L e e1 C C1 d d1 t:Addr}{vs1:Array Value}{m:Str→Option Value}{ledger rest:List (Addr×Obj)}(F:Fr h₀ L s.heap m)(X:K.In h₀)(N:News h₀ L s.heap ledger)
  (hx1:(e1,exO C1 d1 vs1)∈ledger) (pk:Pick (e,exO C d (vsX t)) ledger rest) (aw:∀ p∈rest,p.1≠e) (n:e1≠e) (h2:vs1[2]?=some .none) (hv:aI6 K C=true) (h:∀ h',Fr h₀ L h' m→News h₀ L h' ((e,exO C d (vsN t e1))::rest)→E (.ref e) { s with heap:=h' }):aE2 K e1 E (.ref e) s:=by
 refine⟨e,C,d,t,C1,d1,vs1,rfl,X.keeps F.keep,hv,(N _ pk.mem.1).1,n,(N _ hx1).1,h2,?_⟩
 have N₁:News h₀ L s.heap ([]++(e,exO C d (vsX t))::rest):=fun p hp=>by
  rcases List.mem_cons.mp hp with rfl|hp
  ·exact N _ pk.mem.1
  ·exact N _ (pk.mem.2 _ hp)
 refine aBa (news_upd (f:=Obj.mapFields (·.setIfInBounds 3 .none)) (o':=exO C d #[.ref t,.none,.none,.none,.bool false,.none]) F N₁ (fun _ q=>nomatch q) aw rfl rfl) fun F₂ N₂=>?_
 refine aBa (news_upd (f:=Obj.mapFields (·.setIfInBounds 4 (.bool true))) (o':=exO C d #[.ref t,.none,.none,.none,.bool true,.none]) F₂ N₂ (fun _ q=>nomatch q) aw rfl rfl) fun F₃ N₃=>?_
 refine aBa (news_upd (f:=Obj.mapFields (·.setIfInBounds 2 (.ref e1))) (o':=exO C d (vsN t e1)) F₃ N₃ (fun _ q=>nomatch q) aw rfl rfl) fun F₄ N₄=>?_
 exact h _ F₄ N₄
theorem aCi:entryFor table "proto.unchain"=some Builtin.«proto.unchain»:=entryFor_of_tree (by kernel_rfl)
section
variable {prog:Program} {w:World} {A:Around} {E:Value→Shared→Prop} {s:Shared} {env:Env} {Q:Flow→Shared→Prop} {x:PySem.Expr} {pos cp:Pos} {cpos:Nat} {e1:Addr}
theorem aH6{K:Frag}(hh:A.handled=none)(h:wpAny (model prog w) A (eval x env) (fun v s₁=>aHx K E v s₁) E s):wpAny (model prog w) A (exec (.Raise (some x) none pos) env) Q E s:=by
 rw[arm_exec_Raise]
 have h':wpAny (model prog w) A (do let v ← eval x env;standAt pos;pure v) (fun v s₁=>aHx K E v s₁) E s:=wpAny_bind (wpAny_mono h (fun v s₁ h₁=>wpAny_bind (wpAny_standAt (wpAny_pure h₁))) fun _ _ x=>x)
 refine wpAny_bind (wpAny_standAt ?_)
 show wpAny _ _ (raiseStmt env (some (do let v ← eval x env;standAt pos;pure v)) none) _ _ _
 unfold raiseStmt
 refine wpAny_bind (wpAny_mono h' (fun v s₁ h₁=>?_) fun _ _ x=>x)
 refine bP8 h₁ fun e C d t r7_4 X hv he hE=>?_
 subst r7_4
 obtain⟨nm,qn,N',bs,bm,hdct,sn,sub,ab,col,dd,k0,k1,k2,k3,k5,hC,hq⟩:=aI5 X hv
 have hcB:=aFn (.type "BaseException") (.inr (.inl rfl)) hq
 obtain⟨hp,g,dr,tk,os⟩:=s₁
 repeat (first|with_reducible refine wpAny_loadPart_at he ?_|with_reducible refine wpAny_loadPart_at hC ?_|(with_reducible refine wpAny_isSubtype_exc hC ?_;rw[hcB])|wp_step)
 exact wpAny_raiseNew_none hh hE
theorem aGx{α:Type}{e:Addr}{C1 d1:Addr}{vs1:Array Value}{Q:α→Shared→Prop}(hh:A.handled=some (.ref e1))(n:e1≠e)(h1:s.heap.get? e1=some (exO C1 d1 vs1))(h2:vs1[2]?=some .none){oe:Obj}{ws:Array Value}(he:s.heap.get? e=some oe)(hd:oe.data=.fields ws)(hsz:2<ws.size)
  (h:E (.ref e) { s with heap:=s.heap.update e (Obj.mapFields (·.setIfInBounds 2 (.ref e1))) }):wpAny (model prog w) A (raiseNew (.ref e):Sem α) Q E s:=by
 unfold raiseNew
 refine wpAny_bind (wpAny_handled ?_)
 rw[hh]
 dsimp only
 rw[if_pos (by simp[n])]
 refine wpAny_bind (wpAny_holding (wpAny_runValue (codeAny_builtin aCi ?_)))
 unfold Builtin.«proto.unchain»
 dsimp only
 refine wpAny_bind (wpAny_field h1 rfl h2 ?_)
 rw[if_pos (by simp)]
 refine wpAny_pure ?_
 refine wpAny_bind (wpAny_setField he hd hsz ?_)
 exact wpAny_throw h
theorem aKs{K:Frag}(hh:A.handled=some (.ref e1))(h:wpAny (model prog w) A (eval x env) (fun v s₁=>aE2 K e1 E v s₁) E s):wpAny (model prog w) A (exec (.Raise (some x) (some (.Constant .none cpos cp)) pos) env) Q E s:=by
 rw[arm_exec_Raise]
 have h':wpAny (model prog w) A (do let v ← eval x env;standAt pos;pure v) (fun v s₁=>aE2 K e1 E v s₁) E s:=wpAny_bind (wpAny_mono h (fun v s₁ h₁=>wpAny_bind (wpAny_standAt (wpAny_pure h₁))) fun _ _ x=>x)
 refine wpAny_bind (wpAny_standAt ?_)
 show wpAny _ _ (raiseStmt env (some (do let v ← eval x env;standAt pos;pure v)) (some (do let c ← eval (.Constant .none cpos cp) env;standAt pos;pure c))) _ _ _
 unfold raiseStmt
 refine wpAny_bind (wpAny_mono h' (fun v s₁ h₁=>?_) fun _ _ x=>x)
 refine bL1 h₁ fun e C d t C1 d1 vs1 z_=>bL6 z_ fun r10_7 X hv he hne he1 h2 hE=>?_
 subst r10_7
 obtain⟨nm,qn,N',bs,bm,hdct,sn,sub,ab,col,dd,k0,k1,k2,k3,k5,hC,hq⟩:=aI5 X hv
 have hcB:=aFn (.type "BaseException") (.inr (.inl rfl)) hq
 obtain⟨hp,g,dr,tk,os⟩:=s₁
 repeat (first|with_reducible refine wpAny_loadPart_at he ?_|with_reducible refine wpAny_loadPart_at hC ?_|(with_reducible refine wpAny_isSubtype_exc hC ?_;rw[hcB])|wp_step)
 have hCe:e≠C:=fun z=>by rw[z] at he;rw[show Heap.get? _ C=_ from hC] at he;cases he
 have e1':((hp.update e (Obj.mapFields (·.setIfInBounds 3 Value.none))).update e (Obj.mapFields (·.setIfInBounds 4 (Value.bool true)))).get? e1=some (exO C1 d1 vs1):=by
  rw[Heap.get?_update_other _ _ (Ne.symm hne),Heap.get?_update_other _ _ (Ne.symm hne)];exact he1
 have eC':((hp.update e (Obj.mapFields (·.setIfInBounds 3 Value.none))).update e (Obj.mapFields (·.setIfInBounds 4 (Value.bool true)))).get? C=some (excClassObj nm qn C N' bs bm hdct sn sub ab col dd k0 k1 k2 k3 k5 "ValueError.__new__"):=by
  rw[Heap.get?_update_other _ _ hCe,Heap.get?_update_other _ _ hCe];exact hC
 have ee':((hp.update e (Obj.mapFields (·.setIfInBounds 3 Value.none))).update e (Obj.mapFields (·.setIfInBounds 4 (Value.bool true)))).get? e=some (exO C d #[.ref t,.none,.none,.none,.bool true,.none]):=by
  rw[Heap.get?_update_self _ (Heap.get?_update_self _ he rfl) rfl];rfl
 refine wpAny_loadPart_at eC' ?_
 repeat (first|with_reducible refine wpAny_loadPart_at ee' ?_|with_reducible refine wpAny_loadPart_at eC' ?_|wp_step)
 exact aGx hh hne e1' h2 ee' rfl (by simp) hE
end
section
variable {w:World} {A₀:Around} {s:Shared} {L:Addr} {h₀ base g:Heap} {m mg mb:Str→Option Value} {p:Program} {loose:List Str} {mean:ExcName→Option Value} {outer:List Env} {news:List (Addr×Obj)} {env:Env}
theorem aRt(F:Fr h₀ L s.heap m)(N:News h₀ L s.heap news)(D:KtsDicts (outer.filterMap (·.frame)) h₀)(kg:Kept s.heap g (news.map (·.1)))(hf:env.frame=some L):KtsDicts ((env::outer).filterMap (·.frame)) g:=by
 have nin:∀ b,(b=L∨∃ o,h₀.get? b=some o)→b∉news.map (·.1):=fun b hb hm=>by
  refine aAd (List.mem_map.mp hm) fun p hp r0_2=>?_
  subst r0_2
  rcases hb with z|⟨o,z⟩
  ·exact (N p hp).2.1 z
  ·rw[(N p hp).2.2] at z;cases z
 intro b hb
 rw[List.filterMap_cons,hf] at hb
 rcases List.mem_cons.mp hb with rfl|hb
 ·refine aRs F.ns fun o es n ho hd _=>?_
  exact⟨o,es,n,kg.keep _ _ ho (nin _ (.inl rfl)),hd⟩
 ·refine aZh (D b hb) fun o es n ho hd=>?_
  exact⟨o,es,n,kg.keep _ _ (F.keep _ _ ho) (nin _ (.inr ⟨o,ho⟩)),hd⟩
variable {prog:Program} {K:Params→Frag} {hd:Option Value} {lv:Nat} {f:Addr} {args:List Value} {ins ledger rest:List (Addr×Obj)} {Post:Value→List (Addr×Obj)→Prop} {PostX:Addr→Obj→Value→List (Addr×Obj)→Prop} {dp un:Nat} {gd:Option (List Code)} {cn:Str} {cs:Scope} {a:Addr} {ccd:Value} {cl:List (Str×Addr)} {Q E:Value→Shared→Prop}
end
theorem News.swap{h₀ h:Heap}{L:Addr}{a b:Addr×Obj}{l:List (Addr×Obj)}(N:News h₀ L h (a::b::l)):News h₀ L h (b::a::l):=fun p hp=>N p (by
 rcases List.mem_cons.mp hp with rfl|hp
 ·exact .tail _ (.head _)
 ·rcases List.mem_cons.mp hp with rfl|hp
  ·exact .head _
  ·exact .tail _ (.tail _ hp))
section
open Sem (wp)
noncomputable def CtxOk(h:Heap)(e1:Addr)(A:List Addr):Prop :=
 ∃ C d vs,h.get? e1=some (exO C d vs)∧e1∉A∧(vs[2]?=some .none∨∃ e0 C0 d0 vs0,vs[2]?=some (.ref e0)∧h.get? e0=some (exO C0 d0 vs0)∧e0∉A∧e0≠e1∧vs0[2]?=some .none)
theorem CtxOk.keeps{h h':Heap}{e1:Addr}{A:List Addr}(c:CtxOk h e1 A)(k:∀ b o,h.get? b=some o→b∉A→h'.get? b=some o):CtxOk h' e1 []:=by
 refine aRs c fun C d vs he n r=>?_
 refine⟨C,d,vs,k _ _ he n,List.not_mem_nil,?_⟩
 rcases r with r|⟨e0,C0,d0,vs0,h2,h0,n0,ne,r⟩
 ·exact .inl r
 ·exact .inr ⟨e0,C0,d0,vs0,h2,k _ _ h0 n0,List.not_mem_nil,ne,r⟩
section
variable {prog:Program} {w:World} {A:Around} {E:Value→Shared→Prop} {s:Shared} {e e1:Addr}
theorem aKl{Q:Value→Shared→Prop}(c:CtxOk s.heap e1 [])(ne:∀ o,s.heap.get? e=some o→∀ C d vs,o≠exO C d vs)(h:Q .none s) :
  wpAny (model prog w) A (runValue (.builtin "proto.unchain" ⟨[.ref e,.ref e1,.ref e1,.bool false],[]⟩)) Q E s:=by
 obtain⟨C,d,vs,h1,-,r⟩:=c
 refine wpAny_runValue (codeAny_builtin aCi ?_)
 unfold Builtin.«proto.unchain»
 dsimp only
 rcases r with r|⟨e0,C0,d0,vs0,h2,h0,-,n0,r⟩
 ·refine wpAny_bind (wpAny_field h1 rfl r ?_)
  rw[if_pos (by simp)]
  exact wpAny_pure h
 ·refine wpAny_bind (wpAny_field h1 rfl h2 ?_)
  have ne0:e0≠e:=fun z=>ne _ (z▸h0) _ _ _ rfl
  rw[if_neg (by simp),if_neg (by simp[ne0]),if_neg (by simp[n0])]
  simp only[Bool.false_eq_true,if_false]
  refine wpAny_bind (wpAny_pure (wpAny_pure ⟨Code.quiet_builtin _ (by decide +kernel),codeAny_builtin aCi ?_⟩))
  unfold Builtin.«proto.unchain»
  dsimp only
  refine wpAny_bind (wpAny_field h0 rfl r ?_)
  rw[if_pos (by simp)]
  exact wpAny_pure h
theorem aQf{α:Type}{Q:α→Shared→Prop}{oe:Obj}{ws:Array Value}(hh:A.handled=some (.ref e1))(c:CtxOk s.heap e1 [])(ne:∀ o,s.heap.get? e=some o→∀ C d vs,o≠exO C d vs)(he:s.heap.get? e=some oe)(hd:oe.data=.fields ws)(hz:2<ws.size)
  (h:E (.ref e) { s with heap:=s.heap.update e (Obj.mapFields (·.setIfInBounds 2 (.ref e1))) }):wpAny (model prog w) A (raiseNew (.ref e):Sem α) Q E s:=by
 have n:e1≠e:=fun z=>by
  refine aZh c fun C d vs h1 _=>?_
  exact ne _ (z▸h1) _ _ _ rfl
 unfold raiseNew
 refine wpAny_bind (wpAny_handled ?_)
 rw[hh]
 dsimp only
 rw[if_pos (by simp[n])]
 refine wpAny_bind (wpAny_holding (aKl c ne ?_))
 exact wpAny_bind (wpAny_setField he hd hz (wpAny_throw h))
theorem aT8{it t:Addr}{i:Nat}{items:Array Value}{Q:Option Value→Shared→Prop}(hh:A.handled=some (.ref e1))(c:CtxOk s.heap e1 [])(hit:IsTupIter s.heap it t i)(ht:IsTup s.heap t items)(hx:items[i]?=none)
  (hQ:∀ h',Heap.ExtBut it s.heap h'→Q none { s with heap:=h' }):wpAny (model prog w) A (pyNext (.ref it)) Q E s:=by
 refine aDp (id hit) fun oi ho hc hd=>?_
 refine aDp (id ht) fun ot hot _ z3_3=>?_
 obtain⟨nt,hdt⟩:=z3_3
 unfold pyNext
 refine wpAny_bind (wpAny_attempt (wpAny_callSpecial?_slot (name:=Str.ofString "__next__") hit.typeIs slot_tupleiter_next (wpAny_call_entry slot_tupleiter_next hit.typeIs entry_tupleiter_next ?_ (args_tupleiter_next _))))
 show wpAny _ _ (field (.ref it) 0 >>= _) _ _ s
 refine wpAny_bind (wpAny_field ho hd (x:=.ref t) rfl ?_)
 show wpAny _ _ (if (Value.ref t==Value.none)=true then _ else _) _ _ s
 rw[if_neg (by simp)]
 show wpAny _ _ (field (.ref it) 1 >>= _) _ _ s
 refine wpAny_bind (wpAny_field ho hd (x:=.int i 0) rfl ?_)
 show wpAny _ _ (seqItems? (.ref t) >>= _) _ _ s
 refine wpAny_bind (wpAny_seqItems hot hdt ?_)
 simp only[Int.toNat_natCast,hx]
 refine wpAny_bind (wpAny_rule (wpAny_bind (wpAny_setField ho hd (by simp) ?_)))
 show wpAny _ _ (newExc (.type "StopIteration") [] >>= _) _ _ _
 refine wpAny_bind ?_
 simp only[newExc,newTuple]
 refine wpAny_bind (wpAny_newObj_type ?_ (by size_fits))
 refine wpAny_bind (m:=firstArgMember _ _) (wpAny_of_eq (a:=Value.none) (by first|rfl|(simp only[firstArgMember];rfl)) ?_)
 refine wpAny_newObj_type ?_ (by size_fits)
 generalize hX:(Obj.mapFields (fun x=>x.setIfInBounds 0 Value.none):Obj→Obj)=f
 have push_ne:∀ (h:Heap) (x:Obj) b o,h.get? b=some o→(h.push x).get? b=some o:=fun h x b o q=>Heap.get?_push_of_some x q
 dsimp only
 generalize hw:((#[Value.ref (s.heap.update it f).objs.size,Value.none,Value.none,Value.none,Value.bool false,Value.none]++ownMembersOf (Value.type "StopIteration") []:Array Value))=ws
 have hz:2<ws.size:=by rw[← hw,Array.size_append];simp;lia
 have up:∀ b o,b≠it→s.heap.get? b=some o→(((s.heap.update it f).push { cls:=Value.type "tuple",data:=Data.seq #[] }).push { cls:=Value.type "StopIteration",data:=Data.fields ws }).get? b=some o:=fun b o hb q =>
  push_ne _ _ _ _ (push_ne _ _ _ _ (by rw[Heap.get?_update_other _ _ (Ne.symm hb)];exact q))
 have ni:∀ C d vs,oi≠exO C d vs:=fun C d vs z=>by rw[z] at hc;cases hc
 have c':CtxOk (((s.heap.update it f).push { cls:=Value.type "tuple",data:=Data.seq #[] }).push { cls:=Value.type "StopIteration",data:=Data.fields ws }) e1 []:=by
  refine aRs c fun C d vs h1 m1 r=>?_
  have b1:e1≠it:=fun z=>by rw[z,ho] at h1;exact ni _ _ _ (Option.some.inj h1)
  refine⟨C,d,vs,up _ _ b1 h1,m1,?_⟩
  rcases r with r|⟨e0,C0,d0,vs0,h2,h0,m0,n0,r⟩
  ·exact .inl r
  ·have b0:e0≠it:=fun z=>by rw[z,ho] at h0;exact ni _ _ _ (Option.some.inj h0)
   exact .inr ⟨e0,C0,d0,vs0,h2,up _ _ b0 h0,m0,n0,r⟩
 have he:=Heap.get?_push_size ((s.heap.update it f).push { cls:=Value.type "tuple",data:=Data.seq #[] }) (o:={ cls:=Value.type "StopIteration",data:=Data.fields ws }) rfl
 refine aQf hh c' (fun o q C d vs z=>?_) he rfl hz ?_
 ·rw[he] at q;cases q;cases z
 have he':=Heap.get?_update_self (Obj.mapFields (·.setIfInBounds 2 (Value.ref e1))) he rfl
 refine wpAny_bind (wpAny_isInstance (T:="StopIteration") (b:=true) ⟨_,he',rfl⟩ isSubtype_stop ?_)
 rw[if_pos rfl]
 refine wpAny_pure (hQ _ fun b o hb q=>?_)
 rw[Heap.get?_update_other _ _ (fun z=>?_)]
 ·exact up b o hb q
 ·have l1:=Heap.lt_size q
  have l2:(s.heap.update it f).objs.size=s.heap.objs.size:=by simp[Heap.update,Heap.objs]
  have l3:((s.heap.update it f).push { cls:=Value.type "tuple",data:=Data.seq #[] }).objs.size=(s.heap.update it f).objs.size+1:=Heap.size_push ..
  rw[l3,l2] at z
  rw[← z] at l1
  exact Nat.lt_irrefl _ (Nat.lt_of_lt_of_le l1 (Nat.le_succ _))
theorem aQ5{t:Addr}{items:Array Value}{Q:List Value→Shared→Prop}(hh:A.handled=some (.ref e1))(c:CtxOk s.heap e1 [])(ht:IsTup s.heap t items)
  (hQ:∀ h',Heap.ExtBut s.heap.objs.size s.heap h'→Q items.toList { s with heap:=h' }):wpAny (model prog w) A (unpackItems (.ref t) items.size none) Q E s:=by
 have hlt:t≠s.heap.objs.size:=by obtain⟨o,ho,_⟩:=ht;exact Nat.ne_of_lt (Heap.lt_size ho)
 unfold unpackItems notIterableAtAll
 refine wpAny_bind (wpAny_bind (wpAny_specialOf ht.typeIs slot_tuple_iter.lookup (wpAny_pure ?_)))
 simp only[Option.isNone_some,Bool.false_eq_true,if_false]
 refine wpAny_bind (wpAny_holding (iter_tuple ht ?_))
 refine wpAny_bind (wpAny_holding (draw_tuple hlt items.size 0 _ _ ⟨_,Heap.get?_push_size _ rfl,rfl,rfl⟩ (ht.push _) (by lia) fun h₁ it₁ sb=>?_))
 have all:List.take items.size (List.drop 0 items.toList)=items.toList:=by rw[List.drop_zero];exact List.take_of_length_le (by simp)
 rw[all,if_neg (by simp)]
 have stays:∀ b o,s.heap.get? b=some o→h₁.get? b=some o:=fun b o q=>sb.extBut b o (Nat.ne_of_lt (Heap.lt_size q)) (Heap.get?_push_of_some _ q)
 refine wpAny_bind (wpAny_holding (aT8 hh (c.keeps fun b o q _=>stays b o q) it₁ ((ht.push _).extBut sb.extBut hlt) (by simp) fun h₂ x₂=>?_))
 simp only[Option.isSome_none,Bool.false_eq_true,if_false]
 exact wpAny_pure (hQ h₂ fun b o hb q=>x₂ b o hb (stays b o q))
end
end
section
variable {prog:Program} {w:World} {A:Around} {s:Shared} {Q E:Value→Shared→Prop} {a b n r q:Int} {t u:Tok}
theorem bG1(hn:0≤n)(e:(2:Int) ^ n.toNat=q)(hq:0<q)(h:Q (.int (a/q) s.toks) { s with toks:=s.toks+1 }):wpAny (model prog w) A (binaryOp .RShift (.int a t) (.int n u)) Q E s :=
 rshift_int hn (by rw[e,Int.fdiv_eq_ediv_of_nonneg _ (Int.le_of_lt hq)];exact h)
theorem bLd(hn:0≤n)(hn2:n≤64)(h0:0≤a)(h1:a<18446744073709551616)(e:(2:Int) ^ n.toNat=q)(h:Q (.int (a*q) s.toks) { s with toks:=s.toks+1 }):wpAny (model prog w) A (binaryOp .LShift (.int a t) (.int n u)) Q E s :=
 lshift_int_small hn (by lia) (by lia) (by rw[e];exact h)
end
theorem aYa(x:Int):Builtin.bitAnd x 128=x/128%2*128:=kbt_bit x 7
theorem aYb(x:Int):Builtin.bitAnd x 8=x/8%2*8:=kbt_bit x 3
theorem aTz(x:Int):Builtin.bitAnd x 131072=x/131072%2*131072:=kbt_bit x 17
theorem aT0(x:Int):Builtin.bitAnd x 2048=x/2048%2*2048:=kbt_bit x 11
noncomputable def aBd:Nat→Int→Int→Int
 | 0,_,_=>0
 |n+1,x,y=>2*aBd n (x/2) (y/2)+(if y%2=1 then x%2 else 0)
theorem aAy:∀ (n:Nat) (x y:Int),0≤y→y<2 ^ n→Builtin.bitAnd x y=aBd n x y
 | 0,x,y,h0,h1=>by
  have:y=0:=by simp at h1;lia
  subst this
  have:=bitAnd_range x (Int.le_refl 0)
  simp only[aBd];lia
 |n+1,x,y,h0,h1=>by
  rw[kbt_halves,aAy n (x/2) (y/2) (by lia) (by rw[Int.pow_succ] at h1;lia),aBd]
  congr 1
  have:=Int.emod_two_eq x
  by_cases hy:y%2=1<;>simp only[hy,and_true,and_false,if_true,if_false]
  rcases this with h|h<;>simp[h]
noncomputable def dis:Nat→Int→Int→Bool
 | 0,_,_=>true
 |n+1,a,b=>!(a%2==1&&b%2==1)&&dis n (a/2) (b/2)
theorem aFt:∀ (n:Nat) (x a b:Int),dis n a b=true→aBd n x (a+b)=aBd n x a+aBd n x b
 | 0,_,_,_,_=>rfl
 |n+1,x,a,b,h=>by
  have h:=Bool.and_eq_true_iff.mp h
  have ih:=aFt n (x/2) (a/2) (b/2) h.2
  have h1:¬ (a%2=1∧b%2=1):=fun q=>by
   have:=h.1
   simp[q.1,q.2] at this
  have e:(a+b)/2=a/2+b/2:=by lia
  unfold aBd
  rw[e,ih]
  rcases Int.emod_two_eq a with ha|ha
  ·rw[show (a+b)%2=b%2 by lia,ha,if_neg (show ¬ (0:Int)=1 by decide)];lia
  ·have hb:b%2=0:=by have:=Int.emod_two_eq b;lia
   rw[show (a+b)%2=1 by lia,ha,hb,if_pos rfl,if_neg (show ¬ (0:Int)=1 by decide)];lia
theorem aBw{x a b c:Int}(h:(decide (0≤a)&&(decide (0≤b)&&(decide (a+b=c)&&(decide (c<4294967296)&&dis 32 a b))))=true):Builtin.bitAnd x c=Builtin.bitAnd x a+Builtin.bitAnd x b:=by
 simp only[Bool.and_eq_true,decide_eq_true_eq] at h
 obtain⟨h1,h2,h3,h4,h5⟩:=h
 subst h3
 have p:(2:Int) ^ 32=4294967296:=rfl
 rw[aAy 32 x (a+b) (by lia) (by lia),aAy 32 x a h1 (by lia),aAy 32 x b h2 (by lia),aFt 32 x a b h5]
theorem aC9(x:Int):Builtin.bitAnd x 6144=x/2048%4*2048:=by
 rw[aBw (c:=6144) (a:=2048) (b:=4096) (by decide),aT0,show Builtin.bitAnd x 4096=x/4096%2*4096 from kbt_bit x 12]
 lia
theorem aIh(x p:Int)(hp:0<p):x%(p*2)=2*(x/2%p)+x%2:=by
 have h1:=Int.emod_nonneg (x/2) (show p≠0 by lia)
 have h2:=Int.emod_lt_of_pos (x/2) hp
 have h3:=Int.emod_add_mul_ediv (x/2) p
 have h4:x=(2*(x/2%p)+x%2)+(p*2)*(x/2/p):=by
  have:(p*2)*(x/2/p)=2*(p*(x/2/p)):=by rw[Int.mul_comm p 2,Int.mul_assoc]
  lia
 exact (kbt_unique (a:=x) (b:=p*2) (q:=x/2/p) (by lia) (by lia) (by lia) (by lia)).2
theorem aFs:∀ (n:Nat) (x y:Int),0≤y→y<2 ^ n→aBd n x y+aBd n x (2 ^ n-1-y)=x%2 ^ n
 | 0,x,y,_,_=>by simp[aBd]
 |n+1,x,y,h0,h1=>by
  have hp:=kbt_pos n
  have e:=aFs n (x/2) (y/2) (by lia) (by rw[Int.pow_succ] at h1;lia)
  have h2:(2 ^ (n+1)-1-y)/2=2 ^ n-1-y/2:=by rw[Int.pow_succ];lia
  have h3:(2 ^ (n+1)-1-y)%2=1-y%2:=by rw[Int.pow_succ];lia
  rw[aBd,aBd,h2,h3,Int.pow_succ,aIh x _ hp,← e]
  rcases Int.emod_two_eq y with h|h<;>simp[h]<;>lia
theorem aGo{x m k:Int}(h0:0≤x)(h1:x<4294967296)(hm:0≤m)(hk:0≤k)(e:m+k=4294967295):Builtin.bitAnd x m=x-Builtin.bitAnd x k:=by
 have h:=aFs 32 x k hk (by simp;lia)
 have e2:(2 ^ 32-1-k:Int)=m:=by simp;lia
 rw[e2,← aAy 32 x k hk (by simp;lia),← aAy 32 x m hm (by simp;lia)] at h
 simp at h;lia
theorem aYl{x:Int}(h0:0≤x)(h1:x<4294967296):Builtin.bitAnd x 4294967293=x-x/2%2*2:=by
 rw[aGo h0 h1 (k:=2) (by decide) (by decide) (by decide)]
 have:=kbt_bit x 1;simp at this;rw[this]
theorem aYk{x:Int}(h0:0≤x)(h1:x<4294967296):Builtin.bitAnd x 4294967292=x-x%4:=by
 rw[aGo h0 h1 (k:=3) (by decide) (by decide) (by decide),bitAnd_m2]
theorem bSd{a b c x:Int}:x-(a*8+(b*128+c*2048))=x-8*a-128*b-2048*c:=by lia
theorem bSc{a b c d e f g h i:Int}:a*2+(b*8+(c*32+(d*128+(e*256+(f*2048+(g*131072+(h*262144+i*524288)))))))=2*a+8*b+32*c+128*d+256*e+2048*f+131072*g+262144*h+524288*i:=by lia
theorem aPb{x:Int}(h0:0≤x)(h1:x<4294967296):Builtin.bitAnd x 4294961015=x-8*(x/8%2)-128*(x/128%2)-2048*(x/2048%4):=by
 rw[aGo h0 h1 (k:=6280) (by decide) (by decide) (by decide),aBw (c:=6280) (a:=8) (b:=6272) (by decide),aYb,aBw (c:=6272) (a:=128) (b:=6144) (by decide),aYa,aC9]
 exact bSd
theorem aE0{x:Int}:Builtin.bitAnd x 924074=2*(x/2%2)+8*(x/8%2)+32*(x/32%2)+128*(x/128%2)+256*(x/256%2)+2048*(x/2048%4)+131072*(x/131072%2)+262144*(x/262144%2)+524288*(x/524288%2):=by
 rw[aBw (c:=924074) (a:=2) (b:=924072) (by decide),aBw (c:=924072) (a:=8) (b:=924064) (by decide),aBw (c:=924064) (a:=32) (b:=924032) (by decide),aBw (c:=924032) (a:=128) (b:=923904) (by decide),aBw (c:=923904) (a:=256) (b:=923648) (by decide),aBw (c:=923648) (a:=6144) (b:=917504) (by decide),aBw (c:=917504) (a:=131072) (b:=786432) (by decide),aBw (c:=786432) (a:=262144) (b:=524288) (by decide),aYb,aYa,aTz,aC9,
  show Builtin.bitAnd x 2=x/2%2*2 from kbt_bit x 1,show Builtin.bitAnd x 32=x/32%2*32 from kbt_bit x 5,show Builtin.bitAnd x 256=x/256%2*256 from kbt_bit x 8,show Builtin.bitAnd x 262144=x/262144%2*262144 from kbt_bit x 18,show Builtin.bitAnd x 524288=x/524288%2*524288 from kbt_bit x 19]
 exact bSc
theorem aS8{a b:Int}(ha:a%4294967296=0)(h0:0≤b)(h1:b<4294967296):Builtin.bitOr a b=a+b:=by
 rw[bitOr_and]
 have e:Builtin.bitAnd a b=0:=by
  rw[aAy 32 a b h0 (by simpa using h1)]
  have:∀ (n:Nat) (a b:Int),a%2 ^ n=0→aBd n a b=0:=by
   intro n
   induction n with
   |zero=>intro a b _;rfl
   |succ n ih =>
    intro a b h
    have h2:a%2=0:=by
     have:=Int.emod_emod_of_dvd a (show (2:Int)∣2 ^ (n+1) from⟨2 ^ n,by rw[Int.pow_succ,Int.mul_comm]⟩)
     rw[h] at this;simpa using this.symm
    have h3:a/2%2 ^ n=0:=by
     rw[Int.pow_succ] at h
     have hd:(2 ^ n*2:Int)∣a:=Int.dvd_of_emod_eq_zero h
     obtain⟨k,rfl⟩:=hd
     apply Int.emod_eq_zero_of_dvd
     refine⟨k,?_⟩
     rw[show (2 ^ n*2*k:Int)=2*(2 ^ n*k) by rw[Int.mul_comm (2 ^ n) 2,Int.mul_assoc]]
     exact Int.mul_ediv_cancel_left _ (by decide)
    simp only[aBd,ih _ _ h3,h2]
    simp
  exact this 32 a b (by simpa using ha)
 lia
noncomputable def subB:Nat→Int→Int→Bool
 | 0,_,_=>true
 |n+1,y,z=>(z%2==0||y%2==1)&&subB n (y/2) (z/2)
theorem aPa : ∀ (n : Nat) (x y z : Int), subB n y z = true → aBd n (Builtin.bitAnd x y) z = aBd n x z
  | 0, _, _, _, _ => rfl
  | n + 1, x, y, z, h => by
    rw [subB, Bool.and_eq_true, Bool.or_eq_true, beq_iff_eq, beq_iff_eq] at h
    have e := kbt_halves x y
    have e1 : Builtin.bitAnd x y / 2 = Builtin.bitAnd (x / 2) (y / 2) := by rw [e]; split <;> lia
    rw [aBd, aBd, e1, aPa n _ _ _ h.2]
    by_cases hz : z % 2 = 1
    · have hy : y % 2 = 1 := by rcases h.1 with h | h; · lia
                                · exact h
      have e2 : Builtin.bitAnd x y % 2 = x % 2 := by
        rw [e]; simp only [hy, and_true]; split <;> lia
      rw [e2]
    · simp only [hz, if_false]
theorem aPc(x:Int):Builtin.bitAnd (Builtin.bitAnd x 924074) 6144=x/2048%4*2048:=by
 rw[aAy 13 _ 6144 (by decide) (by decide),aPa 13 x 924074 6144 (by decide),← aAy 13 _ 6144 (by decide) (by decide),aC9]
theorem aD8(A:Around)(a:Args):(A.under (.builtin "type.__call__" a)).units=A.units+1:=by
 show A.units+Code.cUnits (.builtin "type.__call__" a)=_
 have:Code.cUnits (.builtin "type.__call__" a)=1:=by rfl
 rw[this]
section
variable {prog:Program} {w:World} {A:Around} {s:Shared} {Q E:Value→Shared→Prop} {a b n r q:Int} {t u:Tok}
theorem bSh(hn:0≤n)(h:Q (.int 0 s.toks) { s with toks:=s.toks+1 }):wpAny (model prog w) A (binaryOp .RShift (.int 0 t) (.int n u)) Q E s :=
 rshift_int hn (by rw[Int.zero_fdiv];exact h)
end
noncomputable def aL8(st md:Int):Int:=st-8*(st/8%2)-128*(st/128%2)-2048*(st/2048%4)+128*(st/8%2)+2048*md
theorem aJy{a b:Int}(e:Builtin.bitAnd a b=0):Builtin.bitOr a b=a+b:=by rw[bitOr_and,e];lia
theorem bDh(x:Int):Builtin.bitAnd x 4096=x/4096%2*4096:=kbt_bit x 12
theorem aLi(st:Int):∃ q r,st-8*(st/8%2)-128*(st/128%2)-2048*(st/2048%4)=8192*q+r∧0≤r∧r<2048∧r/128%2=0:=by
 refine⟨st/8192,st%2048-8*(st/8%2)-128*(st/128%2),by lia,by lia,by lia,by lia⟩
theorem aL3{st md k:Int}(h5:0≤st)(h6:st<4294967296)(h7:0≤md)(h8:md≤3)(hk:(k=128∧st/8%2*8≠0)∨(k=0∧st/8%2*8=0)) :
  Builtin.bitOr (Builtin.bitOr (Builtin.bitAnd st (Builtin.bitXor 4294967295 (Builtin.bitOr (Builtin.bitOr 128 8) 6144))) k) (md*2048)=aL8 st md:=by
 rw[show Builtin.bitXor 4294967295 (Builtin.bitOr (Builtin.bitOr 128 8) 6144)=4294961015 by decide,aPb h5 h6]
 unfold aL8
 refine bF0 (aLi st) fun q r e r0 r1 r2=>?_
 rw[e]
 have hk':k=128*(st/8%2)∧(k=0∨k=128):=by lia
 rw[← hk'.1]
 have e1:Builtin.bitAnd (8192*q+r) k=0:=by
  rcases hk'.2 with z|z<;>rw[z]
  ·have:=bitAnd_range (8192*q+r) (Int.le_refl 0);lia
  ·rw[aYa];lia
 rw[aJy e1]
 have e2:Builtin.bitAnd (8192*q+r+k) (md*2048)=0:=by
  have:md=0∨md=1∨md=2∨md=3:=by lia
  rcases this with rfl|rfl|rfl|rfl
  ·have:=bitAnd_range (8192*q+r+k) (Int.le_refl 0);simp only[Int.zero_mul];lia
  ·rw[show (1:Int)*2048=2048 by decide,aT0];lia
  ·rw[show (2:Int)*2048=4096 by decide,bDh];lia
  ·rw[show (3:Int)*2048=6144 by decide,aC9];lia
 rw[aJy e2]
 lia
section
set_option tactic.hygienic true
theorem aH4{kvs:List (Int×Value)}{k:Int}:(without kvs k).length≤kvs.length:=by
 unfold without
 exact List.length_filter_le ..
theorem aFd{kvs:List (Int×Value)}{k:Int}{v:Value}:(stored kvs k v).length≤kvs.length+1:=by
 unfold stored
 split<;>simp
theorem aEa:∀ {kvs:List (Int×Value)} {k:Int} {v:Value},valueAt (stored kvs k v) k=some v:=by
 intro kvs k v
 unfold stored valueAt
 split
 ·rename_i h
  induction kvs with
  |nil=>simp at h
  |cons p r ih =>
   by_cases e:p.1=k
   ·simp[e]
   ·have:(r.any fun kv=>decide (kv.1=k))=true:=by simpa[e] using h
    have:=ih this
    simp only[List.map_cons,e,if_false]
    rw[List.find?_cons_of_neg (by simp[e])]
    exact this
 ·rename_i h
  induction kvs with
  |nil=>simp
  |cons p r ih =>
   have e:¬ p.1=k:=fun z=>h (by simp[z])
   rw[List.cons_append,List.find?_cons_of_neg (by simp[e])]
   exact ih fun z=>h (by simp only[List.any_cons,z,Bool.or_true])
section
variable {prog:Program} {w:World} {A:Around} {E:Value→Shared→Prop} {s:Shared} {h₀:Heap} {L d:Addr} {m:Str→Option Value} {news:List (Addr×Obj)} {g:Obj→List (Addr×Obj)} {o:Obj} {kvs:List (Int×Value)} {k:Int} {v dflt:Value} {t:Tok}
theorem cA8{Q:Unit→Shared→Prop}(F:Fr h₀ L s.heap m)(N:News h₀ L s.heap news)(U:UpdF d o news g)(hd:o.IsDictOf (intKind prog w) kvs)(hz:kvs.length≤1000)
  (h:∀ h' o' kvs' tk,Fr h₀ L h' m→News h₀ L h' (g o')→o'.IsDictOf (intKind prog w) kvs'→kvs'.length≤kvs.length+1→valueAt kvs' k=some v→Q () { s with heap:=h',toks:=tk }):wpAny (model prog w) A (setItem (.ref d) (.int k t) v) Q E s :=
 kda_set (knd:=intKind prog w) F N U hd (intKind_is _ _ _ _) (by rw[sizeLine_eq];omega) fun h' o' F' N' hd'=>h h' o' _ _ F' N' hd' aFd aEa
theorem bXp{Q:Value→Shared→Prop}(F:Fr h₀ L s.heap m)(N:News h₀ L s.heap news)(U:UpdF d o news g)(hd:o.IsDictOf (intKind prog w) kvs)(lo:(d==sysModules)=false)(hz:kvs.length≤1000)
  (h:∀ v h' o' kvs' tk,Fr h₀ L h' m→News h₀ L h' (g o')→o'.IsDictOf (intKind prog w) kvs'→kvs'.length≤kvs.length→Q v { s with heap:=h',toks:=tk }):wpAny (model prog w) A (call (.builtin "dict.pop") [.ref d,.int k t,dflt]) Q E s:=by
 cases e:valueAt kvs k with
 |some v=>exact kob_pop (knd:=intKind prog w) F N U hd (intKind_is _ _ _ _) (.inr ⟨_,rfl⟩) rfl (PySem.F.args_dict_pop_3 _ _ _) e (by rw[sizeLine_eq];omega) fun h' o' F' N' hd'=>h v h' o' _ _ F' N' hd' aH4
 |none =>
  have hg:g o=news:=by
   refine aXt U.split fun pre post e1 e2 _=>?_
   rw[e2,e1]
  have hm:(d,o)∈news:=by
   refine aGf U.split fun pre post e1 _=>?_
   rw[e1];simp
  have hD:s.heap.DictOf (intKind prog w) d kvs:=Heap.dictOf_iff.mpr ⟨o,(N _ hm).1,hd⟩
  exact call_meetsIn PySem.F.slot_dict_pop hD.typeIs PySem.F.entry_dict_pop (PySem.F.args_dict_pop_3 _ _ _) (meets_dict_pop_default (intKind prog w) d (intKind_is _ _ _ _) lo rfl dflt) ⟨kvs,hD,e,h _ _ o kvs _ F (hg▸N) hd (Nat.le_refl _)⟩
end
section
variable {prog:Program} {w:World} {A:Around} {E:Value→Shared→Prop} {s:Shared} {env:Env} {Q:Flow→Shared→Prop} {x:PySem.Expr} {pos cp:Pos} {cpos:Nat} {e1:Addr}
theorem aGw{K:Frag}{g:Heap}(_X:K.In g)(hh:A.handled=none)(h:wpAny (model prog w) A (eval x env) (fun v s₁=>aHx K E v s₁) E s):wpAny (model prog w) A (exec (.Raise (some x) none pos) env) Q E s:=aH6 hh h
theorem aH7{K:Frag}{g:Heap}(_X:K.In g)(hh:A.handled=some (.ref e1))(h:wpAny (model prog w) A (eval x env) (fun v s₁=>aE2 K e1 E v s₁) E s):wpAny (model prog w) A (exec (.Raise (some x) (some (.Constant .none cpos cp)) pos) env) Q E s:=aKs hh h
end
end
theorem aK0{M:Model}{A:Around}{env:Env}{E:Value→Shared→Prop}{x:Value}{s:Shared}(h:wpAny M A (noteFrame x env) (fun _ s''=>E x s'') E s):notedBy M A env E x s:=h
section
set_option tactic.hygienic true
noncomputable def aIm:List DictEntry→Bool
 | []=>true
 |e::r=>(match e.key with | .int k _=>e.hash==hashInt k|_=>false)&&aIm r
theorem aHi{l:List DictEntry}(h:aIm l=true):∀ e∈l,∃ k t,e.key=.int k t∧e.hash=hashInt k:=by
 induction l with
 |nil=>intro e he;exact absurd he List.not_mem_nil
 |cons a r ih =>
  intro x hx
  have h:=Bool.and_eq_true_iff.mp h
  rcases List.mem_cons.mp hx with rfl|hx
  ·have h1:=h.1
   split at h1
   ·rename_i k t hk;exact⟨k,t,hk,eq_of_beq h1⟩
   ·cases h1
  ·exact ih h.2 x hx
noncomputable def aN3(o:Obj):Bool:=o.cls==.type "dict"&&o.dict.isNone&&o.slots.isEmpty
noncomputable def aCh(K:Frag)(a:Addr)(k:Int):Option (Option Value) :=
 match K.lookup a with
 |some o=>match o.data with
  | .dict es _=>if aN3 o&&aIm es.toList then some (findBy Value.isInt es k) else none
  |_=>none
 |none=>none
section
variable {prog:Program} {w:World} {A:Around} {E:Value→Shared→Prop} {s:Shared} {K:Frag} {h h₀:Heap} {L a:Addr} {m:Str→Option Value} {k:Int} {r:Option Value} {v:Value} {t:Tok} {news:List (Addr×Obj)}
theorem aBp(X:K.In h)(e:aCh K a k=some r):∃ f,h.MapOf (intKind prog w) a f∧f k=r:=by
 unfold aCh at e
 split at e
 ·rename_i o ho
  split at e
  ·rename_i es n hd
   split at e
   ·rename_i hc
    rw[Bool.and_eq_true] at hc
    refine aBa hc fun h1 h2=>?_
    simp only[aN3,Bool.and_eq_true,beq_iff_eq,Option.isNone_iff_eq_none,Array.isEmpty_iff] at h1
    refine⟨fun k=>findBy Value.isInt es k,⟨o,es,n,X _ _ ho,⟨h1.1.1,h1.1.2,h1.2⟩,hd,fun x hx=>?_,fun _=>rfl⟩,Option.some.inj e⟩
    refine aGf (aHi h2 x (by simpa using hx)) fun k t hk hh=>?_
    exact⟨k,by rw[hk];exact intKind_is _ _ _ _,hh⟩
   ·cases e
  ·cases e
 ·cases e
theorem inI{Q:Value→Shared→Prop}(F:Fr h₀ L s.heap m)(X:K.In h₀)(e:aCh K a k=some r)(lo:(a==sysModules)=false)(h:∀ tk,Q (.bool r.isSome) { s with toks:=tk }):wpAny (model prog w) A (compareOp .In (.int k t) (.ref a)) Q E s:=by
 refine aAd (aBp (prog:=prog) (w:=w) (X.keeps F.keep) e) fun f hm hf=>?_
 exact wpAny_in_of (intKind_is prog w k t) lo hm (by rw[hf];exact h _)
theorem bYq{Q:Value→Shared→Prop}(F:Fr h₀ L s.heap m)(X:K.In h₀)(e:aCh K a k=some (some v))(h:∀ tk,Q v { s with toks:=tk }):wpAny (model prog w) A (getItem (.ref a) (.int k t)) Q E s:=by
 refine aAd (aBp (prog:=prog) (w:=w) (X.keeps F.keep) e) fun f hm hf=>?_
 exact wpAny_getItem_of (intKind_is prog w k t) hm hf (h _)
theorem bLp{value slice:PySem.Expr}{Q:Value→Shared→Prop}(F:Fr h₀ L s.heap m)(X:K.In h₀)(e:aCh K a k=some (some v))(h:∀ tk,Q v { s with toks:=tk })
  (hs:subscripted slice false (.ref a) (.int k t)=operate [.ref a,.int k t] (getItem (.ref a) (.int k t))):wpAny (model prog w) A (subscriptTail value slice (.ref a) (.int k t)) Q E s:=by
 refine aAd (aBp (prog:=prog) (w:=w) (X.keeps F.keep) e) fun f hm hf=>?_
 exact tail_any hm.typeIs PySem.F.slot_dict_getitem.lookup (bYq F X e h) hs
theorem bMr{Q:Value→Shared→Prop}(F:Fr h₀ L s.heap m)(X:K.In h₀)(e:aCh K a k=some r)(lo:(a==sysModules)=false)(hv:r.getD .none=v)(h:∀ tk,Q v { s with toks:=tk }):wpAny (model prog w) A (call (.builtin "dict.get") [.ref a,.int k t]) Q E s:=by
 refine aAd (aBp (prog:=prog) (w:=w) (X.keeps F.keep) e) fun f hm hf=>?_
 exact call_meetsIn PySem.F.slot_dict_get hm.typeIs PySem.F.entry_dict_get (PySem.F.args_dict_get_2 _ _) (meets_dict_get (intKind prog w) a (intKind_is _ _ _ _) lo) ⟨f,hm,by rw[hf,hv];exact h _⟩
theorem bK4{pl:Sem Bool}{Q:Value×List Value→Shared→Prop}(F:Fr h₀ L s.heap m)(X:K.In h₀)(e:aCh K a 0=some r)(h:Q (.builtin "dict.get",[.ref a]) s):wpAny (model prog w) A (getMethod (.ref a) "get" pl) Q E s:=by
 refine aAd (aBp (prog:=prog) (w:=w) (X.keeps F.keep) e) fun f hm hf=>?_
 exact getMethod_builtin hm.typeIs PySem.F.plainAttrs_dict PySem.F.slot_dict_get PySem.F.type_dict_get hm.noDict h
end
end
section
variable {prog:Program} {w:World} {A:Around} {E:Value→Shared→Prop} {s:Shared} {h₀:Heap} {L d:Addr} {news:List (Addr×Obj)} {o:Obj} {kvs:List (Int×Value)} {k:Int} {v:Value} {x:Option Value} {t:Tok}
theorem bCk{Q:Value→Shared→Prop}(N:News h₀ L s.heap news)(hp:(d,o)∈news)(hd:o.IsDictOf (intKind prog w) kvs)(lo:(d==sysModules)=false)(hl:valueAt kvs k=x)(hv:x.getD .none=v)(h:∀ tk,Q v { s with toks:=tk }) :
  wpAny (model prog w) A (call (.builtin "dict.get") [.ref d,.int k t]) Q E s :=
 kdg_get1 (knd:=intKind prog w) N hp hd lo (intKind_is _ _ _ _) x hl (by rw[hv];exact h _)
end
theorem bB2{prog:Program}{w:World}{A:Around}{E:Value→Shared→Prop}{s:Shared}{h₀:Heap}{L:Addr}{m:Str→Option Value}{news:List (Addr×Obj)}{a b r:Int}{t u:Tok}{Q:Value→Shared→Prop}(F:Fr h₀ L s.heap m)(N:News h₀ L s.heap news)(hh:A.handled=none)(hr:(b<a∧b=r)∨(a≤b∧a=r))
  (h:∀ h' t tk,Fr h₀ L h' m→News h₀ L h' news→Q (.int r t) { s with heap:=h',toks:=tk }):wpAny (model prog w) A (call (.builtin "min") [.int a t,.int b u]) Q E s :=
 min_two_ints hh fun h' tk k=>by
  have F':Fr h₀ L h' m:=⟨by obtain⟨o,es,ep,e,q⟩:=F.ns;exact⟨o,es,ep,k _ _ e,q⟩,fun b o e=>k _ _ (F.keep b o e),F.above⟩
  have N':News h₀ L h' news:=fun p hp=>⟨k _ _ (N p hp).1,(N p hp).2⟩
  rcases hr with⟨c,rfl⟩|⟨c,rfl⟩
  ·rw[if_pos c];exact h h' _ tk F' N'
  ·rw[if_neg (by lia)];exact h h' _ tk F' N'
noncomputable def aT2(fs:List Addr)(h₀:Heap)(L:Addr)(m:Str→Option Value)(g:Heap)(R:Result→Shared→Prop)(v:Value)(s':Shared):Prop :=
 ∃ g' L' m' news',KtsTurn fs g g'∧Fr g' L' s'.heap m'∧News g' L' s'.heap news'∧(Fr h₀ L s'.heap m→News h₀ L s'.heap news'→R (.ok (.ret v)) s')
theorem aWk{fs:List Addr}{h₀ g g':Heap}{L L':Addr}{m m':Str→Option Value}{news':List (Addr×Obj)}{R:Result→Shared→Prop}{v:Value}{s':Shared}(F':Fr g' L' s'.heap m')(N':News g' L' s'.heap news')(T:KtsTurn fs g g')
  (k:Fr h₀ L s'.heap m→News h₀ L s'.heap news'→R (.ok (.ret v)) s'):aT2 fs h₀ L m g R v s':=⟨g',L',m',news',T,F',N',k⟩
section
set_option tactic.hygienic true
theorem aGm:∀ {A:List Addr} {r:List (Addr×Obj)},(∀ p∈r,p.1∉A)→Away r A
 | [],_,_=>trivial
 |a::A,_,h=>⟨fun p hp z=>h p hp (z▸List.mem_cons_self ..),aGm fun p hp q=>h p hp (List.mem_cons_of_mem _ q)⟩
theorem aFv{kvs:List (Int×Value)}{k k':Int}{v:Value}(n:k'≠k):valueAt (stored kvs k v) k'=valueAt kvs k':=by
 unfold stored valueAt
 split
 ·rename_i hh
  clear hh
  induction kvs with
  |nil=>rfl
  |cons p r ih =>
   rw[List.map_cons]
   by_cases e:p.1=k
   ·rw[if_pos e,List.find?_cons_of_neg (by simp[e,Ne.symm n]),List.find?_cons_of_neg (by simp[e,Ne.symm n])]
    exact ih
   ·rw[if_neg e]
    by_cases e':p.1=k'
    ·rw[List.find?_cons_of_pos (by simp[e']),List.find?_cons_of_pos (by simp[e'])]
    ·rw[List.find?_cons_of_neg (by simp[e']),List.find?_cons_of_neg (by simp[e'])]
     exact ih
 ·rw[List.find?_append,List.find?_cons_of_neg (by simp[Ne.symm n])]
  simp
end
section
set_option tactic.hygienic true
noncomputable def aWh:List Nat→List Nat→Bool
 | [],m=>(match m with
  | []=>true
  |_=>false)
 |a::r,m=>(match m with
  | []=>false
  |b::s=>bif Nat.beq a b then aWh r s else false)
theorem aJ6:∀ {a b:List Nat},aWh a b=true↔a=b
 | [],[]=>by simp[aWh]
 | [],_::_=>by simp[aWh]
 |_::_,[]=>by simp[aWh]
 |a::r,b::s=>by
  unfold aWh
  cases h:Nat.beq a b with
  |true=>have:=Nat.eq_of_beq_eq_true h;subst this;simp[aJ6]
  |false=>have:=Nat.ne_of_beq_eq_false h;simp[this]
noncomputable def aB8(a b:Str):Bool:=aWh a.cps.toList b.cps.toList
theorem aCe{a b:Str}:aB8 a b=true↔a=b:=by
 unfold aB8
 rw[aJ6]
 constructor
 ·intro h;cases a;cases b;congr;exact Array.toList_inj.mp h
 ·intro h;rw[h]
theorem aCm{a b:Str}:aB8 a b=false↔a≠b:=by
 rw[← Bool.not_eq_true,aCe]
section
variable {β:Type}
noncomputable def lkS(x:Str):List (Str×β)→Option β
 | []=>none
 |p::r=>bif aB8 p.1 x then some p.2 else lkS x r
theorem aJ5{x:Str}{p:Str×β}{r:List (Str×β)}:lkS x (p::r)=if p.1=x then some p.2 else lkS x r:=by
 show (bif aB8 p.1 x then some p.2 else lkS x r)=_
 by_cases h:p.1=x
 ·rw[if_pos h,aCe.mpr h];rfl
 ·rw[if_neg h,aCm.mpr h];rfl
theorem aFk{x:Str}:∀ {l:List (Str×β)},lkS x l=l.lookup x
 | []=>rfl
 |(y,v)::r=>by
  rw[aJ5,List.lookup_cons]
  by_cases h:y=x
  ·subst h;simp
  ·rw[if_neg h,show (x==y)=false from beq_eq_false_iff_ne.mpr (Ne.symm h)];exact aFk
noncomputable def lkN(a:Nat):List (Nat×β)→Option β
 | []=>none
 |p::r=>bif Nat.beq p.1 a then some p.2 else lkN a r
theorem aHc{a:Nat}:∀ {l:List (Nat×β)},lkN a l=l.lookup a
 | []=>rfl
 |(y,v)::r=>by
  show (bif Nat.beq y a then some v else lkN a r)=_
  rw[List.lookup_cons]
  cases h:Nat.beq y a with
  |true=>have:=Nat.eq_of_beq_eq_true h;subst this;simp
  |false=>have:=Nat.ne_of_beq_eq_false h;rw[show (a==y)=false from beq_eq_false_iff_ne.mpr (Ne.symm this)];exact aHc
noncomputable def aI8(t:List (Nat×List (Str×β)))(a:Nat)(x:Str):Option β:=match lkN a t with
 |some l=>lkS x l
 |none=>none
theorem mem_of_lookup{α:Type}[BEq α][LawfulBEq α]{a:α}{b:β}:∀ {l:List (α×β)},l.lookup a=some b→(a,b)∈l
 | [],h=>by cases h
 |(y,v)::r,h=>by
  rw[List.lookup_cons] at h
  cases q:a==y with
  |true=>rw[q] at h;cases h;rw[eq_of_beq q];exact .head _
  |false=>rw[q] at h;exact .tail _ (mem_of_lookup h)
theorem aB1{t:List (Nat×List (Str×β))}{P:Nat→Str→β→Bool}(h:t.all (fun e=>e.2.all fun q=>P e.1 q.1 q.2)=true){a:Nat}{x:Str}{r:β}(e:aI8 t a x=some r):P a x r=true:=by
 unfold aI8 at e
 split at e
 ·rename_i l hl
  rw[aHc] at hl
  rw[aFk] at e
  exact List.all_eq_true.mp (List.all_eq_true.mp h _ (mem_of_lookup hl)) _ (mem_of_lookup e)
 ·cases e
noncomputable def aH0(a:Nat):List Nat→Bool
 | []=>false
 |b::r=>bif Nat.beq b a then true else aH0 a r
theorem aCg{a:Nat}:∀ {l:List Nat},aH0 a l=true→a∈l
 | [],h=>by cases h
 |b::r,h=>by
  unfold aH0 at h
  cases q:Nat.beq b a with
  |true=>have:=Nat.eq_of_beq_eq_true q;subst this;exact .head _
  |false=>rw[q] at h;exact .tail _ (aCg h)
end
noncomputable def aBv(cs:Scope)(x:Str)(k:NameKind):Bool:=match lkS x cs.names with
 |some k'=>k'==k
 |none=>false
theorem aA5{cs:Scope}{x:Str}{k:NameKind}(h:aBv cs x k=true):cs.names.lookup x=some k:=by
 unfold aBv at h
 rw[aFk] at h
 split at h
 ·rename_i e;rw[e,eq_of_beq h]
 ·cases h
structure Vw where
 K:Frag
 O:Frag
 iv:Addr→Str→Option Value
 cells:Str→Option Nat
 hf:Addr→Bool
 ns:Addr→Str→Option (Option Value)
 fin:Addr→Str→Option (Option Value)
 pg:Addr→Bool
 px:Addr→Bool
 ps:Addr→Str→Bool
 xs:Addr→Str→Bool
 pf:Addr→Bool
 cv:Addr→Str→Option Value
 mkc:Addr→Option Addr
 mkx:Addr→Option Addr
 cm:Addr→Str→Option Addr
 mt:Addr→Str→Option Addr
 kp:Addr→Bool
 tp:Addr→Option (List Value)
 ve:Addr→Bool
theorem aC3{O K:Frag}{a:Addr}{k:Int}{r:Option Value}(h:∀ {a o},O.lookup a=some o→K.lookup a=some o)(e:aCh O a k=some r):aCh K a k=some r:=by
 unfold aCh at e ⊢
 split at e
 ·rename_i o ho;rw[h ho];exact e
 ·cases e
structure VOk(P:Params)(V:Vw):Prop where
 O:∀ {a o},V.O.lookup a=some o→V.K.lookup a=some o
 iv:∀ {x n v},V.iv x n=some v→∃ C dx sl es k,V.K.lookup x=some ⟨.ref C,some dx,.plain,sl⟩∧V.K.lookup dx=some (dictOf es k)∧getL n es=some (some v)∧findIn V.K (.ref C) n=some none∧plainGet V.K C n=true∧hasDictIn V.K C=true∧handedIn v=true
 sm:∃ o,V.K.lookup sysModules=some o
 k0:∃ o,V.K.lookup 0=some o
 ns:∀ {a x r},V.ns a x=some r→nsIn V.K a x=some r∧(a=mainGlobals∨(a≠sysModules∧∃ es n,V.K.lookup a=some ⟨.type "dict",none,.dict es n,#[]⟩∧KeysLit P es.toList))
 fin:∀ {C x r},V.fin C x=some r→findIn V.K (.ref C) x=some r
 pg:∀ {C},V.pg C=true→∀ n,plainGet V.K C n=true∧hasDictIn V.K C=true
 px:∀ {C},V.px C=true→findIn V.K (.ref C) "__getattribute__"=some (some (.builtin "BaseException.__getattribute__"))∧findIn V.K (.ref C) "__getattr__"=some none∧aDr V.K C=true∧hasDictIn V.K C=true
 xs:∀ {C x},V.xs C x=true→findIn V.K (.ref C) "__setattr__"=some (some (.builtin "object.__setattr__"))∧aDr V.K C=true∧takerIn V.K C x=some none∧hasDictIn V.K C=true
 ps:∀ {C x},V.ps C x=true→findIn V.K (.ref C) "__setattr__"=some (some (.builtin "object.__setattr__"))∧plainOver V.K C=true∧takerIn V.K C x=some none∧hasDictIn V.K C=true
 pf:∀ {f},V.pf f=true→∀ {oc od sl} {fd:FuncData},V.K.lookup f=some ⟨oc,od,.func fd,sl⟩→fd.globals=mainGlobals∧fd.closure=[]∧fd.builtins=builtinsNs∧codeIn V.K fd.code fd.qualname=true∧fd.scope.isCoroutine=false∧fd.scope.isGenerator=false∧fd.scope.kind=.function∧(∀ x∈fd.scope.names,x.2≠.cell)∧Nat.ble 20 fd.scope.names.length=false
 cv:∀ {x n a},V.cv x n=some a→∃ mc,typeIn V.K (.ref x)=some mc∧findCls V.K (.ref x) mc n=some (.val a)∧readsIn V.K x mc=true∧handedIn a=true
 mkc:∀ {C f},V.mkc C=some f→makesIn V.K C=true∧findIn V.K (.ref C) "__init__"=some (some (.ref f))∧isFn V.K (.ref f)=true
 mkx:∀ {C f},V.mkx C=some f→aI6 V.K C=true∧findIn V.K (.ref C) "__init__"=some (some (.ref f))∧typeIn V.K (.ref f)=some (.type "function")
 cm:∀ {x n f},V.cm x n=some f→∃ mc,typeIn V.K (.ref x)=some mc∧findCls V.K (.ref x) mc n=some (.val (.ref f))∧readsIn V.K x mc=true∧specialIn V.K (.ref x) "__getattribute__"=some (some (.builtin "type.__getattribute__"))∧keepIn V.K (.ref f)=true
 mt:∀ {C n f},V.mt C n=some f→plainGet V.K C n=true∧findIn V.K (.ref C) n=some (some (.ref f))∧isFn V.K (.ref f)=true∧keepIn V.K (.ref f)=true
 kp:∀ {a},V.kp a=true→keepIn V.K (.ref a)=true
 tp:∀ {a l},V.tp a=some l→∃ sl,V.K.lookup a=some ⟨.type "tuple",none,.seq l.toArray 0,sl⟩
 ve:∀ {C},V.ve C=true→aI6 V.K C=true∧ktsIn V.K C "ValueError"=true
end
inductive SV
 |k (v:Value)|a (i:Nat)|z (n:Int)|i (x:Int)|b (x:Bool)|s (y:Str)|t|u
inductive SO
 |inst (C d:Nat)
 |ns (es:List (Str×SV)) (n:Nat)
 |seq (tup:Bool) (vs:List SV) (n:Nat)
 |di (kvs:List (Int×SV))
 |dv (j:Option Nat) (n:Nat) (puts:List (Int×SV)) (facts:List (Int×Option SV))
 |ex (C d:Nat) (ctx:Option Nat)
 |xr (C:Nat)
 |xd (C d:Nat)
 |cell (y:Option SV)
 |raw (j:Nat)
 |any
structure Bet where
 d:Nat→List (Int×Value)
 o:Nat→Obj
noncomputable def gN{α:Type}:List α→Nat→Option α
 | [],_=>none
 |a::_,0=>some a
 |_::r,n+1=>gN r n
theorem aCs{α:Type}:∀ {l:List α} {i:Nat},gN l i=l[i]?
 | [],_=>by simp[gN]
 |_::_,0=>by simp[gN]
 |_::r,n+1=>by simp[gN,aCs (l:=r)]
noncomputable def stN{α:Type}:List α→Nat→α→List α
 | [],_,_=>[]
 |_::r,0,x=>x::r
 |a::r,n+1,x=>a::stN r n x
theorem aZv{α:Type}:∀ {l:List α} {i:Nat} {x:α},stN l i x=l.set i x
 | [],_,_=>rfl
 |_::_,0,_=>rfl
 |_::r,n+1,_=>congrArg _ (aZv (l:=r))
inductive All2 {α β:Type} (R:α→β→Prop):List α→List β→Prop
 |nil:All2 R [] []
 |cons {a b l m}:R a b→All2 R l m→All2 R (a::l) (b::m)
namespace All2
variable {α β:Type} {R S:α→β→Prop}
theorem len{l:List α}{m:List β}(h:All2 R l m):l.length=m.length:=by induction h with|nil=>rfl|cons _ _ ih=>simp[ih]
theorem mono{l:List α}{m:List β}(f:∀ a b,R a b→S a b)(h:All2 R l m):All2 S l m:=by induction h with|nil=>exact .nil|cons r _ ih=>exact .cons (f _ _ r) ih
theorem get{l:List α}{m:List β}(h:All2 R l m):∀ {i:Nat} {a:α},gN l i=some a→∃ b,gN m i=some b∧R a b:=by
 induction h with
 |nil=>intro i a e;cases e
 |cons r _ ih=>intro i a e;cases i with
  |zero=>cases e;exact⟨_,rfl,r⟩
  |succ i=>exact ih e
theorem app{l l':List α}{m m':List β}(h:All2 R l m)(h':All2 R l' m'):All2 R (l++l') (m++m'):=by induction h with|nil=>exact h'|cons q _ ih=>exact .cons q ih
theorem snoc{l:List α}{m:List β}{a:α}{b:β}(h:All2 R l m)(r:R a b):All2 R (l++[a]) (m++[b]):=h.app (.cons r .nil)
theorem set{l:List α}{m:List β}(h:All2 R l m):∀ {i:Nat} {a:α} {b:β},R a b→All2 R (stN l i a) (stN m i b):=by
 induction h with
 |nil=>intro i a b r;exact .nil
 |cons q h ih=>intro i a b r;cases i with
  |zero=>exact .cons r h
  |succ i=>exact .cons q (ih r)
theorem map2{γ δ:Type}{T:γ→δ→Prop}{f:α→γ}{g:β→δ}{l:List α}{m:List β}(k:∀ a b,R a b→T (f a) (g b))(h:All2 R l m):All2 T (l.map f) (m.map g):=by induction h with|nil=>exact .nil|cons q _ ih=>exact .cons (k _ _ q) ih
theorem rev{l:List α}{m:List β}(h:All2 R l m):All2 R l.reverse m.reverse:=by induction h with|nil=>exact .nil|cons q _ ih=>rw[List.reverse_cons,List.reverse_cons];exact ih.snoc q
theorem cons1{a:α}{l:List β}(h:All2 R [a] l):∃ b,l=[b]∧R a b:=by
 cases h with|cons r t=>cases t;exact⟨_,rfl,r⟩
theorem cons2{a a':α}{l:List β}(h:All2 R [a,a'] l):∃ b b',l=[b,b']∧R a b∧R a' b':=by
 cases h with|cons r t=>obtain⟨b,rfl,q⟩:=t.cons1;exact⟨_,_,rfl,r,q⟩
end All2
noncomputable def Den(ads:List Addr):SV→Value→Prop
 | .k v,x=>x=v
 | .a i,x=>∃ a,gN ads i=some a∧x=.ref a
 | .z n,x=>∃ t,x=.int n t
 | .i n,x=>∃ t,x=.int n t
 | .b c,x=>x=.bool c
 | .s y,x=>∃ t,x=.str y t
 | .t,x=>∃ y t,x=.str y t
 | .u,_=>True
noncomputable def Pre(a b:List Addr):Prop:=∃ c,b=a++c
theorem Pre.refl(a:List Addr):Pre a a:=⟨[],by simp⟩
theorem Pre.trans{a b c:List Addr}(x:Pre a b)(y:Pre b c):Pre a c:=by
 obtain⟨u,rfl⟩:=x;obtain⟨v,rfl⟩:=y;exact⟨u++v,by simp⟩
theorem aEp{α:Type}:∀ {a b:List α} {i:Nat} {c:α},gN a i=some c→gN (a++b) i=some c
 | [],_,_,_,h=>by cases h
 |_::_,_,0,_,h=>h
 |_::r,_,n+1,_,h=>aEp (a:=r) h
theorem aBh{α:Type}:∀ {a:List α} {c:α},gN (a++[c]) a.length=some c
 | [],_=>rfl
 |_::r,_=>aBh (a:=r)
theorem Pre.get{a b:List Addr}(x:Pre a b){i:Nat}{c:Addr}(h:gN a i=some c):gN b i=some c:=by
 obtain⟨u,rfl⟩:=x;exact aEp h
theorem Pre.snoc(a:List Addr)(x:Addr):Pre a (a++[x]):=⟨[x],rfl⟩
theorem Pre.mem{a b:List Addr}(x:Pre a b){c:Addr}(h:c∈a):c∈b:=by obtain⟨u,rfl⟩:=x;exact List.mem_append_left _ h
theorem Den.mono{a b:List Addr}(p:Pre a b){x:SV}{v:Value}(h:Den a x v):Den b x v:=by
 cases x with
 |a i=>obtain⟨c,h,e⟩:=h;exact⟨c,p.get h,e⟩
 |_=>exact h
noncomputable abbrev Dens(ads:List Addr):List SV→List Value→Prop:=All2 (Den ads)
theorem Dens.mono{a b:List Addr}(p:Pre a b){x:List SV}{v:List Value}(h:Dens a x v):Dens b x v:=All2.mono (fun _ _=>Den.mono p) h
structure Ctx(V:Vw) where
 prog:Program
 w:World
 vo:VOk w.params V
 p:Program
 loose:List Str
 mean:ExcName→Option Value
 mg:Str→Option Value
 mb:Str→Option Value
 β:Bet
section
variable {V:Vw} (X:Ctx V)
noncomputable def NsE(ads:List Addr)(p:Str×SV)(e:DictEntry):Prop:=∃ t v,Den ads p.2 v∧e=⟨PyData.keyHash X.w.params p.1,.str p.1 t,v⟩
noncomputable def DiE(ads:List Addr)(p:Int×SV)(q:Int×Value):Prop:=q.1=p.1∧Den ads p.2 q.2
inductive PutR (ads:List Addr) (l0:List (Int×Value)):List (Int×SV)→List (Int×Value)→Prop
 |nil:PutR ads l0 [] l0
 |cons {k x r l v}:PutR ads l0 r l→Den ads x v→PutR ads l0 ((k,x)::r) (stored l k v)
noncomputable def FactR(ads:List Addr)(l:List (Int×Value))(f:Int×Option SV):Prop:=match f.2 with
 |none=>valueAt l f.1=none
 |some x=>∃ v,valueAt l f.1=some v∧Den ads x v
noncomputable def CtxR(ads:List Addr)(ctx:Option Nat)(a0:Value):Prop:=match ctx with
 |none=>a0=.none
 |some i=>∃ a,gN ads i=some a∧a0=.ref a
noncomputable abbrev bD9(tup:Bool)(l:List Value)(n:Nat):Obj:={ cls:=.type (if tup then "tuple" else "list"),data:=.seq l.toArray n }
noncomputable abbrev bGe(o:Obj)(l:List (Int×Value)):Prop:=o.IsDictOf (intKind X.prog X.w) l
noncomputable def DenO(ads:List Addr):SO→Obj→Prop
 | .inst C d,o=>∃ dx,gN ads d=some dx∧o=instObj C dx
 | .ns es n,o=>∃ l,All2 (NsE X ads) es l∧o=dictOf l n
 | .seq tup vs n,o=>∃ l,Dens ads vs l∧o=bD9 tup l n
 | .di kvs,o=>∃ l,All2 (DiE ads) kvs l∧bGe X o l
 | .dv j n puts facts,o=>∃ l0 l,(∀ i,j=some i→l0=X.β.d i)∧l0.length≤n∧PutR ads l0 puts l∧(∀ f∈facts,FactR ads l f)∧bGe X o l
 | .ex C d ctx,o=>∃ dx vs a0,gN ads d=some dx∧o=exO C dx vs∧vs[2]?=some a0∧CtxR ads ctx a0
 | .xr C,o=>∃ t,o=aR9 C t
 | .xd C d,o=>∃ dx t,gN ads d=some dx∧o=exO C dx (vsX t)
 | .cell y,o=>match y with
  |none=>o.data=.cell none
  |some y=>∃ v,Den ads y v∧o.data=.cell (some v)
 | .raw j,o=>o=X.β.o j
 | .any,_=>True
end
theorem NsE.mono{V:Vw}{X:Ctx V}{a b:List Addr}(p:Pre a b){x:Str×SV}{e:DictEntry}(h:NsE X a x e):NsE X b x e:=by
 obtain⟨t,v,d,rfl⟩:=h;exact⟨t,v,d.mono p,rfl⟩
theorem DiE.mono{a b:List Addr}(p:Pre a b){x:Int×SV}{e:Int×Value}(h:DiE a x e):DiE b x e:=⟨h.1,h.2.mono p⟩
theorem PutR.mono{a b:List Addr}(p:Pre a b){l0 l:List (Int×Value)}{ps:List (Int×SV)}(h:PutR a l0 ps l):PutR b l0 ps l:=by
 induction h with|nil=>exact .nil|cons _ d ih=>exact .cons ih (d.mono p)
theorem FactR.mono{a b:List Addr}(p:Pre a b){l:List (Int×Value)}{f:Int×Option SV}(h:FactR a l f):FactR b l f:=by
 obtain⟨k,x⟩:=f
 cases x with
 |none=>exact h
 |some x=>obtain⟨v,e,d⟩:=h;exact⟨v,e,d.mono p⟩
theorem CtxR.mono{a b:List Addr}(p:Pre a b){c:Option Nat}{v:Value}(h:CtxR a c v):CtxR b c v:=by
 cases c with
 |none=>exact h
 |some i=>obtain⟨x,e,q⟩:=h;exact⟨x,p.get e,q⟩
theorem DenO.mono{V:Vw}{X:Ctx V}{a b:List Addr}(p:Pre a b){x:SO}{o:Obj}(h:DenO X a x o):DenO X b x o:=by
 cases x with
 |inst C d=>obtain⟨c,h,e⟩:=h;exact⟨c,p.get h,e⟩
 |ns es n=>obtain⟨l,h,e⟩:=h;exact⟨l,h.mono fun _ _=>NsE.mono p,e⟩
 |seq t vs n=>obtain⟨l,h,e⟩:=h;exact⟨l,h.mono p,e⟩
 |di kvs=>obtain⟨l,h,e⟩:=h;exact⟨l,h.mono fun _ _=>DiE.mono p,e⟩
 |dv j n ps fs=>obtain⟨l0,l,h,n,q,f,e⟩:=h;exact⟨l0,l,h,n,q.mono p,fun x hx=>(f x hx).mono p,e⟩
 |ex C d c=>obtain⟨dx,vs,a0,h,e,s,c⟩:=h;exact⟨dx,vs,a0,p.get h,e,s,c.mono p⟩
 |xd C d=>obtain⟨dx,t,h,e⟩:=h;exact⟨dx,t,p.get h,e⟩
 |cell y=>cases y with
  |none=>exact h
  |some y=>obtain⟨v,h,e⟩:=h;exact⟨v,h.mono p,e⟩
 |_=>exact h
structure St where
 m:List (Str×SV)
 led:List SO
 orc:List Nat
structure Cf where
 cs:Scope
 hd:Option Nat
 lv:Nat
 po:Bool
structure Gd(V:Vw) where
 X:Ctx V
 A:Around
 cn:Str
 L:Addr
 a:Addr
 ccd:Value
 cl:List (Str×Addr)
 outer:List Env
 A₀:Around
 base:Heap
 g:Heap
 gens:Array GenState
 drawn:Drawn
 os:OsState
 cf:Cf
 E:Value→Shared→Prop
section
variable {V:Vw}
noncomputable abbrev Gd.env(G:Gd V):Env:=envX G.cn G.cf.cs G.L G.a G.ccd G.cl
noncomputable abbrev Gd.fs(G:Gd V):List Addr:=G.outer.filterMap (·.frame)
noncomputable abbrev Gd.M(G:Gd V):Model:=model G.X.prog G.X.w
noncomputable abbrev Gd.wp{α:Type}(G:Gd V)(t:Sem α)(Q:α→Shared→Prop)(s:Shared):Prop:=wpAny G.M G.A t Q G.E s
noncomputable abbrev Gd.at_(G:Gd V)(g:Heap):Gd V:={ G with g:=g }
noncomputable abbrev Cf.top(c:Cf):Bool:=Nat.ble 20 c.cs.names.length
structure Wd where
 ads:List Addr
 objs:List Obj
 m:Str→Option Value
 h:Heap
 t:Nat
noncomputable abbrev Gd.st(G:Gd V)(W:Wd):Shared:=⟨W.h,G.gens,G.drawn,W.t,G.os⟩
noncomputable abbrev Wd.l(W:Wd):List (Addr×Obj):=W.ads.zip W.objs
noncomputable abbrev aD6(x:Str)(l:List (Str×SV)):Option SV:=lkS x l
theorem aAs{x:Str}{p:Str×SV}{r:List (Str×SV)}:aD6 x (p::r)=if p.1=x then some p.2 else aD6 x r:=aJ5
noncomputable def MD(ads:List Addr)(l:List (Str×SV))(m:Str→Option Value):Prop:=∀ x y,aD6 x l=some y→∃ v,m x=some v∧Den ads y v
theorem MD.mono{a b:List Addr}(p:Pre a b){l:List (Str×SV)}{m:Str→Option Value}(h:MD a l m):MD b l m:=fun x y e=>by
 obtain⟨v,q,d⟩:=h x y e;exact⟨v,q,d.mono p⟩
noncomputable def Own(G:Gd V):Prop:=(G.cf.top=false→G.A=G.A₀.deeper G.env∧G.cl=[])∧PassesOwn G.M G.A G.env G.E
structure Ok(G:Gd V):Prop where
 B:Below G.A₀ G.base G.outer G.g
 K:V.K.In G.g
 T:Top G.X.p G.X.loose G.X.mean G.X.mg G.X.mb G.g
 KB:V.K.In G.base
 TB:Top G.X.p G.X.loose G.X.mean G.X.mg G.X.mb G.base
 D:KtsDicts G.fs G.g
 fr:G.A.frames=some (G.env::G.outer)
 hk:G.cf.cs.kind=.function
 dp:G.A.depth+G.cf.lv<recursionLimit
 un:G.A.units+8*G.cf.lv<cLine
 tp:G.cf.top=true→G.outer=[]
 own:G.cf.po=true→Own G
noncomputable def Hdl(ads:List Addr)(A:Around):Option Nat→Prop
 |none=>A.handled=none
 |some j=>∃ e,gN ads j=some e∧A.handled=some (.ref e)
theorem Hdl.up{ads ads':List Addr}{A:Around}{hd:Option Nat}(h:Hdl ads A hd)(p:Pre ads ads'):Hdl ads' A hd:=by
 cases hd with
 |none=>exact h
 |some j=>obtain⟨x,q,r⟩:=h;exact⟨x,p.get q,r⟩
theorem Hdl.same{ads:List Addr}{hd:Option Nat}{A B:Around}(h:Hdl ads A hd)(e:B.handled=A.handled):Hdl ads B hd:=by
 cases hd with
 |none=>exact e.trans h
 |some j=>obtain⟨x,p,q⟩:=h;exact⟨x,p,e.trans q⟩
structure Sat(G:Gd V)(W:Wd)(σ:St):Prop where
 ok:Ok G
 F:Fr G.g G.L W.h W.m
 M:MD W.ads σ.m W.m
 N:News G.g G.L W.h W.l
 O:All2 (DenO G.X W.ads) σ.led W.objs
 len:W.ads.length=W.objs.length
 nd:W.ads.Nodup
 hd:Hdl W.ads G.A G.cf.hd
 cl:G.cf.top=true→∀ x i,V.cells x=some i→∃ a,gN W.ads i=some a∧G.cl.lookup x=some a
variable {G:Gd V} {W:Wd} {σ:St}
theorem Sat.K(S:Sat G W σ):V.K.In W.h:=S.ok.K.keeps S.F.keep
theorem aBf{α β:Type}:∀ {l:List α} {m:List β} {i:Nat} {d:α} {o:β},gN l i=some d→gN m i=some o→(d,o)∈l.zip m
 | [],_,_,_,_,h,_=>by cases h
 |_::_,[],_,_,_,_,h=>by cases h
 |_::_,_::_,0,_,_,h,k=>by cases h;cases k;exact .head _
 |_::l,_::m,i+1,_,_,h,k=>.tail _ (aBf (l:=l) (m:=m) h k)
theorem aBl{α:Type}:∀ {l:List α} {i:Nat} {d:α},gN l i=some d→i<l.length
 | [],_,_,h=>by cases h
 |_::_,0,_,_=>Nat.succ_pos _
 |_::r,i+1,_,h=>Nat.succ_lt_succ (aBl (l:=r) h)
theorem aAl{α:Type}:∀ {l:List α} {i:Nat},i<l.length→∃ d,gN l i=some d
 | [],_,h=>absurd h (Nat.not_lt_zero _)
 |a::_,0,_=>⟨a,rfl⟩
 |_::r,i+1,h=>aAl (l:=r) (Nat.lt_of_succ_lt_succ h)
theorem aCb{α:Type}:∀ {l:List α} {i:Nat} {d:α},gN l i=some d→d∈l
 | [],_,_,h=>by cases h
 |_::_,0,_,h=>by cases h;exact .head _
 |_::r,i+1,_,h=>.tail _ (aCb (l:=r) h)
theorem aCj{α:Type}:∀ {l:List α} {d:α},d∈l→∃ i,gN l i=some d
 |_::_,_,.head _=>⟨0,rfl⟩
 |_::_,_,.tail _ h=>by obtain⟨i,e⟩:=aCj h;exact⟨i+1,e⟩
theorem aC7{α:Type}:∀ {l:List α} {i j:Nat} {d:α},l.Nodup→gN l i=some d→gN l j=some d→i=j
 | [],_,_,_,_,h,_=>by cases h
 |_::_,0,0,_,_,_,_=>rfl
 |a::r,0,j+1,_,nd,h,k=>by cases h;exact absurd (aCb (l:=r) k) (List.nodup_cons.mp nd).1
 |a::r,i+1,0,_,nd,h,k=>by cases k;exact absurd (aCb (l:=r) h) (List.nodup_cons.mp nd).1
 |a::r,i+1,j+1,_,nd,h,k=>congrArg _ (aC7 (l:=r) (List.nodup_cons.mp nd).2 h k)
theorem Sat.slot(S:Sat G W σ){i:Nat}{so:SO}{a:Addr}(e:gN σ.led i=some so)(ha:gN W.ads i=some a):∃ o,gN W.objs i=some o∧(a,o)∈W.l∧DenO G.X W.ads so o:=by
 refine aAd (S.O.get e) fun o h1 h2=>?_
 exact⟨o,h1,aBf ha h1,h2⟩
theorem Sat.hi(S:Sat G W σ){a:Addr}(h:G.g.get? a=none):@LT.lt Nat _ sysModules a:=by
 refine aA6 G.X.vo.sm fun o1 e1=>?_
 refine aA6 G.X.vo.k0 fun o0 e0=>?_
 have k1:=S.ok.K _ _ e1
 have k0:=S.ok.K _ _ e0
 rcases a with _|_|a
 ·rw[h] at k0;cases k0
 ·exact absurd (k1.symm.trans h) (fun z=>nomatch z)
 ·exact Nat.succ_lt_succ (Nat.succ_pos a)
theorem Sat.hiA(S:Sat G W σ){a:Addr}(h:a∈W.ads):@LT.lt Nat _ sysModules a:=by
 refine aA6 (aCj h) fun i hi=>?_
 refine aA6 (aAl (l:=W.objs) (S.len▸aBl hi)) fun o ho=>?_
 exact S.hi (S.N _ (aBf hi ho)).2.2
theorem Sat.low(S:Sat G W σ){i:Nat}{a:Addr}(ha:gN W.ads i=some a):(a==sysModules)=false :=
 beq_eq_false_iff_ne.mpr (Nat.ne_of_gt (S.hiA (aCb ha)))
noncomputable abbrev Wd.tok(W:Wd)(t:Nat):Wd:=⟨W.ads,W.objs,W.m,W.h,t⟩
noncomputable abbrev Wd.new(W:Wd)(D:Addr)(o:Obj)(h:Heap)(t:Nat):Wd:=⟨W.ads++[D],W.objs++[o],W.m,h,t⟩
noncomputable abbrev Wd.put(W:Wd)(i:Nat)(o:Obj)(h:Heap)(t:Nat):Wd:=⟨W.ads,stN W.objs i o,W.m,h,t⟩
noncomputable abbrev Wd.hp(W:Wd)(m:Str→Option Value)(h:Heap)(t:Nat):Wd:=⟨W.ads,W.objs,m,h,t⟩
noncomputable abbrev St.new(σ:St)(o:SO):St:=⟨σ.m,σ.led++[o],σ.orc⟩
noncomputable abbrev St.put(σ:St)(i:Nat)(o:SO):St:=⟨σ.m,stN σ.led i o,σ.orc⟩
theorem Sat.tok(S:Sat G W σ)(t:Nat):Sat G (W.tok t) σ:=⟨S.ok,S.F,S.M,S.N,S.O,S.len,S.nd,S.hd,S.cl⟩
theorem Sat.orc(S:Sat G W σ)(r:List Nat):Sat G W ⟨σ.m,σ.led,r⟩:=⟨S.ok,S.F,S.M,S.N,S.O,S.len,S.nd,S.hd,S.cl⟩
theorem Sat.clUp(S:Sat G W σ){ads:List Addr}(p:Pre W.ads ads):G.cf.top=true→∀ x i,V.cells x=some i→∃ a,gN ads i=some a∧G.cl.lookup x=some a:=fun q x i e=>by
 obtain⟨a,k1,k2⟩:=S.cl q x i e;exact⟨a,p.get k1,k2⟩
theorem Sat.hp(S:Sat G W σ){l:List (Str×SV)}{m:Str→Option Value}{h:Heap}(t:Nat)(F:Fr G.g G.L h m)(M:MD W.ads l m)(N:News G.g G.L h W.l)(r:List Nat):Sat G (W.hp m h t) ⟨l,σ.led,r⟩ :=
 ⟨S.ok,F,M,N,S.O,S.len,S.nd,S.hd,S.cl⟩
theorem aB0{α β:Type}{l:List α}{m:List β}{a:α}{b:β}(h:l.length=m.length):(l++[a]).zip (m++[b])=l.zip m++[(a,b)]:=by
 rw[List.zip_append h];rfl
theorem Sat.new(S:Sat G W σ){D:Addr}{o:Obj}{so:SO}{h:Heap}(t:Nat)(F:Fr G.g G.L h W.m)(N:News G.g G.L h ((D,o)::W.l))(lt:∀ p∈W.l,p.1<D)(d:DenO G.X (W.ads++[D]) so o):Sat G (W.new D o h t) (σ.new so):=by
 refine⟨S.ok,F,S.M.mono (.snoc _ _),fun p hp=>?_,(S.O.mono fun _ _=>DenO.mono (.snoc _ _)).snoc d,by simp[S.len],?_,S.hd.up (.snoc _ _),S.clUp (.snoc _ _)⟩
 ·replace hp:p∈(W.ads++[D]).zip (W.objs++[o]):=hp
  rw[aB0 S.len] at hp
  exact N p ((List.mem_append.mp hp).elim (.tail _) fun q=>List.mem_singleton.mp q▸.head _)
 ·refine List.nodup_append.mpr ⟨S.nd,by simp,fun a ha b hb e=>?_⟩
  refine aA6 (aCj ha) fun i hi=>?_
  refine aA6 (aAl (l:=W.objs) (S.len▸aBl hi)) fun q hq=>?_
  rw[e,List.mem_singleton.mp hb] at hi
  exact Nat.lt_irrefl _ (lt _ (aBf hi hq))
theorem aXv{S:Sat G W σ}{D:Addr}:Den (W.ads++[D]) (.a σ.led.length) (.ref D) :=
 ⟨D,by rw[S.O.len,← S.len];exact aBh,rfl⟩
theorem aFy{α:Type}:∀ {l:List α} {i:Nat} {x:α},(stN l i x).length=l.length
 | [],_,_=>rfl
 |_::_,0,_=>rfl
 |_::r,i+1,x=>congrArg Nat.succ (aFy (l:=r))
theorem Sat.put(S:Sat G W σ){i:Nat}{o:Obj}{so:SO}{h:Heap}(t:Nat)(F:Fr G.g G.L h W.m)(N:News G.g G.L h (W.ads.zip (stN W.objs i o)))(d:DenO G.X W.ads so o):Sat G (W.put i o h t) (σ.put i so) :=
 ⟨S.ok,F,S.M,N,S.O.set d,S.len.trans aFy.symm,S.nd,S.hd,S.cl⟩
theorem aFw{d:Addr}{o o':Obj}:∀ {ads:List Addr} {objs:List Obj} {i:Nat},ads.Nodup→gN ads i=some d→gN objs i=some o→Upd d o o' (ads.zip objs) (ads.zip (stN objs i o'))
 | [],_,_,_,h,_=>by cases h
 |_::_,[],_,_,_,h=>by cases h
 |a::ads,x::objs,0,nd,h,h'=>by
  cases h;cases h'
  exact .head fun p hp e=>(List.nodup_cons.mp nd).1 (e▸(List.of_mem_zip hp).1)
 |a::ads,x::objs,i+1,nd,h,h'=>.tail (fun e=>(List.nodup_cons.mp nd).1 ((show a=d from e)▸aCb (l:=ads) h)) (aFw (ads:=ads) (List.nodup_cons.mp nd).2 h h')
theorem aI7{d:Addr}{o:Obj}:∀ {ads:List Addr} {objs:List Obj} {i:Nat},ads.Nodup→gN ads i=some d→gN objs i=some o→UpdF d o (ads.zip objs) (fun o'=>ads.zip (stN objs i o'))
 | [],_,_,_,h,_=>by cases h
 |_::_,[],_,_,_,h=>by cases h
 |a::ads,x::objs,0,nd,h,h'=>by
  cases h;cases h'
  exact .head fun p hp e=>(List.nodup_cons.mp nd).1 (e▸(List.of_mem_zip hp).1)
 |a::ads,x::objs,i+1,nd,h,h'=>.tail (fun e=>(List.nodup_cons.mp nd).1 ((show a=d from e)▸aCb (l:=ads) h)) (aI7 (ads:=ads) (List.nodup_cons.mp nd).2 h h')
theorem Sat.upd(S:Sat G W σ){i:Nat}{a:Addr}{o:Obj}(ha:gN W.ads i=some a)(ho:gN W.objs i=some o):UpdF a o W.l (fun o'=>W.ads.zip (stN W.objs i o')):=aI7 S.nd ha ho
end
structure XI where
 kind:Nat
 C:Addr
 es:List (Str×SV)
 n:Nat
 ctx:Option Nat
inductive Out (α:Type):Type
 |f
 |p (σ:St) (a:α)
 |t (σ:St) (a:α)
 |x (σ:St) (X:XI)
 |g (P:Prop) (o:Out α)
 |s (c:Bool) (o₁ o₂:Out α)
inductive Flw
 |n
 |r (y:SV)
theorem nn{α:Type}{a:α}{P:Prop}(h:none=some a):P:=nomatch h
section
variable {α β:Type}
noncomputable def bd(o:Out α)(k:St→α→Out β):Out β:=match o with
 | .p σ a=>k σ a
 | .x σ X=>.x σ X
 | .g P o=>.g P (bd o k)
 | .s b o₁ o₂=>.s b (bd o₁ k) (bd o₂ k)
 | .f=>.f
 | .t _ _=>.f
noncomputable def bn(o:Out Flw)(k:St→Out Flw):Out Flw:=match o with
 | .p σ .n=>k σ
 | .p σ (.r y)=>.p σ (.r y)
 | .t σ (.r y)=>.t σ (.r y)
 | .t _ .n=>.f
 | .x σ X=>.x σ X
 | .g P o=>.g P (bn o k)
 | .s b o₁ o₂=>.s b (bn o₁ k) (bn o₂ k)
 | .f=>.f
noncomputable def ifT(b:Bool)(o:Out α):Out α:=match b with
 |true=>o
 |false=>.f
noncomputable def onO{γ:Type}(x:Option γ)(k:γ→Out α):Out α:=match x with
 |some y=>k y
 |none=>.f
noncomputable def onN(y:SV)(k:Int→Bool→Out α):Out α:=match y with
 | .z n=>k n true
 | .i n=>k n false
 |_=>.f
noncomputable def onZ(y:SV)(k:Int→Out α):Out α:=match y with
 | .z n=>k n
 |_=>.f
noncomputable def onA(y:SV)(k:Nat→Out α):Out α:=match y with
 | .a i=>k i
 |_=>.f
noncomputable def onSeq(σ:St)(i:Nat)(k:Bool→List SV→Nat→Out α):Out α:=match gN σ.led i with
 |some (.seq t vs n)=>k t vs n
 |_=>.f
noncomputable def bBk(σ:St)(i:Nat)(k:List (Int×SV)→Out α):Out α:=match gN σ.led i with
 |some (.di kvs)=>k kvs
 |_=>.f
noncomputable def aM4(σ:St)(i:Nat)(k:List (Str×SV)→Nat→Out α):Out α:=match gN σ.led i with
 |some (.ns es n)=>k es n
 |_=>.f
noncomputable def br(c:Bool)(σ:St)(k:St→Bool→Out α):Out α:=match σ.orc with
 |a::r=>(match a with
  | 0=>.g (c=false) (k ⟨σ.m,σ.led,r⟩ false)
  |n+1=>(match n with
   | 0=>.g (c=true) (k ⟨σ.m,σ.led,r⟩ true)
   |_+1=>.s c (k ⟨σ.m,σ.led,r⟩ true) (k ⟨σ.m,σ.led,r⟩ false)))
 | []=>.f
end
section
variable {V:Vw}
structure Turn(G G':Gd V):Prop where
 eq:G'=G.at_ G'.g
 T:KtsTurn G.fs G.g G'.g
 ok:Ok G'
structure Exc(X:Ctx V)(ads:List Addr)(xi:XI)(e d:Addr)(od:Obj)(a0:Value):Prop where
 e_:e∉ads
 d_:d∉ads
 ed:e≠d
 el:@LT.lt Nat _ sysModules e
 dl:@LT.lt Nat _ sysModules d
 od_:DenO X ads (.ns xi.es xi.n) od
 ctx:CtxR ads xi.ctx a0
structure Led(X:Ctx V)(W:Wd)(led:List SO):Prop where
 O:All2 (DenO X W.ads) led W.objs
 len:W.ads.length=W.objs.length
 nd:W.ads.Nodup
 hi:∀ a∈W.ads,@LT.lt Nat _ sysModules a
noncomputable def aPt(G:Gd V)(W:Wd)(σ:St)(xi:XI)(e:Addr):Prop :=
 Led G.X W σ.led∧∃ d od a0,Exc G.X W.ads xi e d od a0 ∧
 match xi.kind with
 | 0=>∃ vs,Fr G.g G.L W.h W.m∧News G.g G.L W.h W.l∧News G.g G.L W.h [(e,exO xi.C d vs),(d,od)]∧vs.size=6∧vs[2]?=some a0∧vs[1]?=some .none
 | 1=>∃ vs h,Fr G.g G.L h W.m∧News G.g G.L h W.l∧News G.g G.L h [(e,exO xi.C d vs),(d,od)]∧h.UpToSlots W.h∧Fl (hideAll h (e::(G.env::G.outer).filterMap (·.frame))) (G.env::G.outer) e xi.C d a0 (rawInt G.L) W.h
 |_=>∃ h ads0 objs0,Fr G.g G.L h W.m∧MD W.ads σ.m W.m∧News G.g G.L h (ads0.zip objs0)∧ads0.length=objs0.length∧Pre ads0 W.ads∧Flown h (G.env::G.outer) ads0 W.l e xi.C d od a0 W.h
noncomputable def Hd{α:Type}(G:Gd V)(W:Wd):Out α→(Wd→St→α→Prop)→Prop
 | .f,_=>False
 | .p σ a,Φ=>∀ W',Pre W.ads W'.ads→Sat G W' σ→Φ W' σ a
 | .t σ a,Φ=>∀ G' W',Turn G G'→Pre W.ads W'.ads→Sat G' W' σ→Φ W' σ a
 | .x σ xi,_=>∀ G' W' e,Turn G G'→(xi.kind≠1→G'=G)→Pre W.ads W'.ads→aPt G' W' σ xi e→G.E (.ref e) (G.st W')
 | .g P o,Φ=>P∧Hd G W o Φ
 | .s c a b,Φ=>(c=true→Hd G W a Φ)∧(c=false→Hd G W b Φ)
variable {G:Gd V} {W W':Wd} {σ:St} {α β:Type} {Φ Ψ:Wd→St→α→Prop}
theorem Hd.up(p:Pre W.ads W'.ads):∀ {o:Out α},Hd G W o Φ→Hd G W' o Φ
 | .f,h=>h
 | .p _ _,h=>fun w q=>h w (p.trans q)
 | .t _ _,h=>fun g w t q=>h g w t (p.trans q)
 | .x _ _,h=>fun g w e t u q=>h g w e t u (p.trans q)
 | .g _ _,h=>⟨h.1,Hd.up p h.2⟩
 | .s _ _ _,h=>⟨fun e=>Hd.up p (h.1 e),fun e=>Hd.up p (h.2 e)⟩
theorem Hd.w{o:Out α}(x:Hd G W o Φ){l:List Obj}{m:Str→Option Value}{h:Heap}{t:Nat}:Hd G ⟨W.ads,l,m,h,t⟩ o Φ:=x.up (W':=⟨W.ads,l,m,h,t⟩) (.refl W.ads)
theorem Hd.to{k:St→α→Out β}{Φ:Wd→St→β→Prop}{Ψ:Wd→St→α→Prop}(f:∀ {W' σ a},Sat G W' σ→Pre W.ads W'.ads→Hd G W' (k σ a) Φ→Ψ W' σ a):∀ {o:Out α},Hd G W (Mine.bd o k) Φ→Hd G W o Ψ
 | .f,h=>h
 | .p _ _,h=>fun _ q S=>f S q (h.up q)
 | .t _ _,h=>False.elim h
 | .x _ _,h=>h
 | .g _ _,h=>⟨h.1,Hd.to f h.2⟩
 | .s _ _ _,h=>⟨fun e=>Hd.to f (h.1 e),fun e=>Hd.to f (h.2 e)⟩
theorem Hd.keep{k:St→α→Out β}{Φ:Wd→St→β→Prop}{Ψ:Wd→St→α→Prop}(f:∀ {W' σ a},Sat G W' σ→Pre W.ads W'.ads→Hd G W (k σ a) Φ→Ψ W' σ a):∀ {o:Out α},Hd G W (Mine.bd o k) Φ→Hd G W o Ψ
 | .f,h=>h
 | .p _ _,h=>fun _ q S=>f S q h
 | .t _ _,h=>False.elim h
 | .x _ _,h=>h
 | .g _ _,h=>⟨h.1,Hd.keep f h.2⟩
 | .s _ _ _,h=>⟨fun e=>Hd.keep f (h.1 e),fun e=>Hd.keep f (h.2 e)⟩
section
variable {P:Prop}
theorem ifT_e{b:Bool}{o:Out α}(h:Hd G W (ifT b o) Φ)(g:b=true→Hd G W o Φ→P):P:=by
 cases b with
 |true=>exact g rfl h
 |false=>exact h.elim
theorem onO_e{γ:Type}{x:Option γ}{k:γ→Out α}(h:Hd G W (onO x k) Φ)(g:∀ y,x=some y→Hd G W (k y) Φ→P):P:=by
 cases x with
 |some y=>exact g y rfl h
 |none=>exact h.elim
theorem aEh{y:SV}{k:Int→Bool→Out α}{ads:List Addr}{v:Value}(h:Hd G W (onN y k) Φ)(d:Den ads y v)(g:∀ x l t,v=(.int x t)→Hd G W (k x l) Φ→P):P:=by
 cases y with
 |z n=>obtain⟨t,rfl⟩:=d;exact g n true t rfl h
 |i n=>obtain⟨t,rfl⟩:=d;exact g n false t rfl h
 |_=>exact h.elim
theorem aM2{y:SV}{k:Int→Out α}{ads:List Addr}{v:Value}(h:Hd G W (onZ y k) Φ)(d:Den ads y v)(g:∀ x t,v=(.int x t)→Hd G W (k x) Φ→P):P:=by
 cases y with
 |z n=>obtain⟨t,rfl⟩:=d;exact g n t rfl h
 |_=>exact h.elim
theorem aDq{y:SV}{k:Nat→Out α}{ads:List Addr}{v:Value}(h:Hd G W (onA y k) Φ)(d:Den ads y v)(g:∀ i a,gN ads i=some a→v=(.ref a)→Hd G W (k i) Φ→P):P:=by
 cases y with
 |a n=>obtain⟨t,q,rfl⟩:=d;exact g n t q rfl h
 |_=>exact h.elim
theorem aCf{i:Nat}{a:Addr}{k:Bool→List SV→Nat→Out α}(h:Hd G W (onSeq σ i k) Φ)(S:Sat G W' σ)(ha:gN W'.ads i=some a)(g:∀ t vs n l,gN W'.objs i=some (bD9 t l n)→(a,bD9 t l n)∈W'.l→Dens W'.ads vs l→Hd G W (k t vs n) Φ→P):P:=by
 unfold onSeq at h
 cases e:gN σ.led i with
 |none=>rw[e] at h;exact h.elim
 |some so =>
  rw[e] at h
  cases so with
  |seq t vs n=>obtain⟨o,h1,h2,l,al,rfl⟩:=S.slot e ha;exact g t vs n l h1 h2 al h
  |_=>exact h.elim
theorem aM7{i:Nat}{a:Addr}{k:List (Int×SV)→Out α}(h:Hd G W (bBk σ i k) Φ)(S:Sat G W' σ)(ha:gN W'.ads i=some a)(g:∀ kvs o l,gN W'.objs i=some o→(a,o)∈W'.l→All2 (DiE W'.ads) kvs l→bGe G.X o l→Hd G W (k kvs) Φ→P):P:=by
 unfold bBk at h
 cases e:gN σ.led i with
 |none=>rw[e] at h;exact h.elim
 |some so =>
  rw[e] at h
  cases so with
  |di kvs=>obtain⟨o,h1,h2,l,al,r⟩:=S.slot e ha;exact g kvs o l h1 h2 al r h
  |_=>exact h.elim
theorem aM3{i:Nat}{a:Addr}{k:List (Str×SV)→Nat→Out α}(h:Hd G W (aM4 σ i k) Φ)(S:Sat G W' σ)(ha:gN W'.ads i=some a)(g:∀ es n l,gN W'.objs i=some (dictOf l n)→(a,dictOf l n)∈W'.l→All2 (NsE G.X W'.ads) es l→Hd G W (k es n) Φ→P):P:=by
 unfold aM4 at h
 cases e:gN σ.led i with
 |none=>rw[e] at h;exact h.elim
 |some so =>
  rw[e] at h
  cases so with
  |ns es n=>obtain⟨o,h1,h2,l,al,rfl⟩:=S.slot e ha;exact g es n l h1 h2 al h
  |_=>exact h.elim
theorem bGc{c:Bool}{k:St→Bool→Out α}(h:Hd G W (br c σ k) Φ)(g:∀ r,Hd G W (k ⟨σ.m,σ.led,r⟩ c) Φ→P):P:=by
 unfold br at h
 cases e:σ.orc with
 |nil=>rw[e] at h;exact h.elim
 |cons a r =>
  rw[e] at h
  cases a with
  |zero=>obtain⟨rfl,h⟩:=h;exact g r h
  |succ n=>cases n with
   |zero=>obtain⟨rfl,h⟩:=h;exact g r h
   |succ n=>cases c with
    |true=>exact g r (h.1 rfl)
    |false=>exact g r (h.2 rfl)
end
noncomputable abbrev PV(G:Gd V)(Q:Value→Shared→Prop):Wd→St→SV→Prop:=fun W _ y=>∀ v,Den W.ads y v→Q v (G.st W)
noncomputable abbrev PS(G:Gd V)(Q:List Value→Shared→Prop):Wd→St→List SV→Prop:=fun W _ y=>∀ v,Dens W.ads y v→Q v (G.st W)
noncomputable abbrev PB(G:Gd V)(Q:Bool→Shared→Prop):Wd→St→Bool→Prop:=fun W _ y=>Q y (G.st W)
noncomputable abbrev PU(G:Gd V)(Q:Unit→Shared→Prop):Wd→St→Unit→Prop:=fun W _ _=>Q () (G.st W)
noncomputable abbrev PF(G:Gd V)(Q:Flow→Shared→Prop):Wd→St→Flw→Prop:=fun W _ y=>match y with
 | .n=>Q .next (G.st W)
 | .r y=>∀ v,Den W.ads y v→Q (.ret v) (G.st W)
noncomputable abbrev PC(G:Gd V)(m:Str→Option Value)(Q:Value→Shared→Prop):Wd→St→SV→Prop:=fun W _ y=>W.m=m→∀ v,Den W.ads y v→Q v (G.st W)
noncomputable abbrev aIz(Q:Value→Shared→Prop)(E:Value→Shared→Prop):Result→Shared→Prop:=fun r s'=>match r with
 | .ok (.ret v)=>Q v s'
 | .ok _=>False
 | .error e=>E e s'
structure Rec where
 e:Cf→PySem.Expr→St→Out SV
 es:Cf→List PySem.Expr→St→Out (List SV)
 b:Cf→PySem.Expr→St→Out Bool
 st:Cf→Stmt→St→Out Flw
 bk:Cf→List Stmt→St→Out Flw
 fn:Cf→Addr→List SV→St→Out SV
structure Snd(V:Vw)(r:Rec):Prop where
 e:∀ {G:Gd V} {W σ x Q},Sat G W σ→Hd G W (r.e G.cf x σ) (PV G Q)→G.wp (eval x G.env) Q (G.st W)
 es:∀ {G:Gd V} {W σ l pos Q},Sat G W σ→Hd G W (r.es G.cf l σ) (PS G Q)→G.wp (spliced (backTo pos (starEach l G.env))) Q (G.st W)
 b:∀ {G:Gd V} {W σ x Q},Sat G W σ→Hd G W (r.b G.cf x σ) (PB G Q)→G.wp (isTrue x G.env (eval x G.env)) Q (G.st W)
 st:∀ {G:Gd V} {W σ x Q},Sat G W σ→Hd G W (r.st G.cf x σ) (PF G Q)→G.wp (exec x G.env) Q (G.st W)
 bk:∀ {G:Gd V} {W σ l Q},Sat G W σ→Hd G W (r.bk G.cf l σ) (PF G Q)→G.wp (execs l G.env) Q (G.st W)
 fn:∀ {G:Gd V} {W σ f args vs Q},Sat G W σ→Dens W.ads args vs→Hd G W (r.fn G.cf f args σ) (PC G W.m Q)→codeAny G.M G.A (.call (.ref f) ⟨vs,[]⟩) (aIz Q G.E) (G.st W)
variable {r:Rec}
theorem Snd.ev(R:Snd V r)(S:Sat G W σ){x:PySem.Expr}{k:St→SV→Out α}{Q:Value→Shared→Prop}(h:Hd G W (bd (r.e G.cf x σ) k) Φ)
  (g:∀ {W' σ' y v},Sat G W' σ'→Pre W.ads W'.ads→Den W'.ads y v→Hd G W' (k σ' y) Φ→Q v (G.st W')):G.wp (eval x G.env) Q (G.st W) :=
 R.e S (h.to fun S p h _ d=>g S p d h)
theorem Snd.evs(R:Snd V r)(S:Sat G W σ){l:List PySem.Expr}{pos:Pos}{k:St→List SV→Out α}{Q:List Value→Shared→Prop}(h:Hd G W (bd (r.es G.cf l σ) k) Φ)
  (g:∀ {W' σ' y v},Sat G W' σ'→Pre W.ads W'.ads→Dens W'.ads y v→Hd G W' (k σ' y) Φ→Q v (G.st W')):G.wp (spliced (backTo pos (starEach l G.env))) Q (G.st W) :=
 R.es S (h.to fun S p h _ d=>g S p d h)
theorem Snd.cond(R:Snd V r)(S:Sat G W σ){x:PySem.Expr}{k:St→Bool→Out α}{Q:Bool→Shared→Prop}(h:Hd G W (bd (r.b G.cf x σ) k) Φ)
  (g:∀ {W' σ' y},Sat G W' σ'→Pre W.ads W'.ads→Hd G W' (k σ' y) Φ→Q y (G.st W')):G.wp (isTrue x G.env (eval x G.env)) Q (G.st W) :=
 R.b S (h.to (Ψ:=PB G Q) fun S p h=>g S p h)
theorem bDg{k:St→Out Flw}{Q:Flow→Shared→Prop}{Q':Flow→Shared→Prop}{o:Out Flw}(h:Hd G W (Mine.bn o k) (PF G Q))(f:∀ W' σ,Sat G W' σ→Pre W.ads W'.ads→Hd G W' (k σ) (PF G Q)→Q' .next (G.st W'))(g:∀ v s,Q (.ret v) s→Q' (.ret v) s):Hd G W o (PF G Q'):=by
 induction o with
 |f=>exact h
 |p σ a=>cases a with
  |n=>exact fun W' p S=>f W' σ S p (h.up p)
  |r y=>exact fun W' p S v d=>g _ _ (h W' p S v d)
 |t σ a=>cases a with
  |n=>exact False.elim h
  |r y=>exact fun G' W' T p S v d=>g _ _ (h G' W' T p S v d)
 |x _ _=>exact h
 |g P o ih=>exact⟨h.1,ih h.2⟩
 |s c o1 o2 i1 i2=>exact⟨fun e=>i1 (h.1 e),fun e=>i2 (h.2 e)⟩
end
noncomputable def aGr:Value→SV
 | .int n _=>.z n
 | .str y _=>.s y
 |v=>.k v
theorem aBi{ads:List Addr}{v:Value}:Den ads (aGr v) v:=by
 cases v with
 |int _ t=>exact⟨t,rfl⟩
 |str _ t=>exact⟨t,rfl⟩
 |_=>exact rfl
noncomputable def aC5(b:Bool):SV:=.k (.bool b)
noncomputable def bK3(V:Vw)(x:Str)(r:Option Value):Option SV:=match r with
 |some v=>some (aGr v)
 |none=>bif aB8 x "__name__" then none else (bootBuiltins x).map aGr
noncomputable def aO2:SO→Option SV
 | .cell y=>y
 |_=>none
noncomputable def nameV(V:Vw)(cs:Scope)(x:Str)(σ:St):Option SV :=
 bif aB8 x "__debug__" then none else (lkS x cs.names).bind fun k=>match k with
  | .local=>aD6 x σ.m
  | .globalImplicit=>(V.ns mainGlobals x).bind (bK3 V x)
  | .cell=>bif Nat.ble 20 cs.names.length then (V.cells x).bind fun i=>(gN σ.led i).bind aO2 else none
  |_=>none
noncomputable def aKc(V:Vw)(cs:Scope)(x:Str)(σ:St):Out SV:=onO (nameV V cs x σ) (.p σ)
noncomputable def aOq(k:Const)(σ:St):Out SV:=match k with
 | .int n=>.p σ (.z n)
 | .str y=>.p σ (.s y)
 | .none=>.p σ (.k .none)
 | .bool b=>.p σ (aC5 b)
 |_=>.f
section
variable {V:Vw} {G:Gd V} {W:Wd} {σ:St} {α:Type} {Φ:Wd→St→α→Prop} {Q:Value→Shared→Prop} {P:Prop}
theorem aBu{b:Bool}(h:(!b)=true):b=false:=by cases b<;>first|rfl|cases h
theorem bGv{x y:Str}(h:(!(aB8 x y))=true):(x==y)=false:=beq_eq_false_iff_ne.mpr (aCm.mp (aBu h))
theorem aG5{i:Nat}{a:Addr}{k:SO→Out α}(h:Hd G W (onO (gN σ.led i) k) Φ)(S:Sat G W σ)(ha:gN W.ads i=some a)(g:∀ so o,gN W.objs i=some o→(a,o)∈W.l→DenO G.X W.ads so o→Hd G W (k so) Φ→P):P :=
 onO_e h fun so e h=>by obtain⟨o,h1,h2,h3⟩:=S.slot e ha;exact g so o h1 h2 h3 h
theorem bDj{c:Bool}{γ:Type}{x:Option γ}{y:γ}(h:(bif c then none else x)=some y):c=false∧x=some y:=by
 cases c with
 |true=>cases h
 |false=>exact⟨rfl,h⟩
theorem aGl{c:Bool}{γ:Type}{x:Option γ}{y:γ}(h:(bif c then x else none)=some y):c=true∧x=some y:=by
 cases c with
 |true=>exact⟨rfl,h⟩
 |false=>cases h
theorem aJc{x y:Str}(h:aB8 x y=false):(x==y)=false:=beq_eq_false_iff_ne.mpr (aCm.mp h)
theorem aC2{x:Str}{pos:Pos}{y:SV}(S:Sat G W σ)(e:nameV V G.cf.cs x σ=some y)(h:∀ v,Den W.ads y v→Q v (G.st W)):G.wp (eval (.Name x pos) G.env) Q (G.st W):=by
 refine aBa (bDj e) fun hd e=>?_
 replace hd:=aJc hd
 refine aAd (Option.bind_eq_some_iff.mp e) fun k hk e=>?_
 rw[aFk] at hk
 cases k with
 | «local»=>exact (S.M _ _ e).elim fun v q=>nameX_L S.F q.1 (h v q.2) S.ok.hk hk hd
 |globalImplicit =>
  refine aAd (Option.bind_eq_some_iff.mp e) fun r hn e=>?_
  cases r with
  |some v=>cases e;exact nameX_K S.F S.ok.K (topRead_of S.ok.T) (G.X.vo.ns hn).1 (h v aBi) S.ok.hk hk hd
  |none =>
   refine aBa (bDj e) fun he e=>?_
   refine aAd (Option.map_eq_some_iff.mp e) fun v hb r4_2=>?_
   subst r4_2
   exact nameX_B S.F S.ok.K (topRead_of S.ok.T) (G.X.vo.ns hn).1 hb (ne_of_beq_false (aJc he)) (h v aBi) S.ok.hk hk hd
 |cell =>
  refine aBa (aGl e) fun ht e=>?_
  refine aAd (Option.bind_eq_some_iff.mp e) fun i hi e=>?_
  refine aAd (Option.bind_eq_some_iff.mp e) fun so hso e=>?_
  refine aAd (S.cl ht x i hi) fun a k1 k2=>?_
  refine aDp (S.slot hso k1) fun o h1 h2 d=>?_
  cases so with
  |cell y=>cases e;exact d.elim fun v q=>wpAny_Name (wpAny_loadName_cell S.ok.hk hk k2 ⟨o,(S.N _ h2).1,q.2⟩ (h v q.1)) hd
  |_=>exact nn e
 |_=>exact nn e
theorem aEu{x:Str}{pos:Pos}(S:Sat G W σ)(h:Hd G W (aKc V G.cf.cs x σ) (PV G Q)):G.wp (eval (.Name x pos) G.env) Q (G.st W) :=
 onO_e h fun _ e h=>aC2 S e (h W (.refl _) S)
theorem aLg{k:Const}{kk:Nat}{pos:Pos}(S:Sat G W σ)(h:Hd G W (aOq k σ) (PV G Q)):G.wp (eval (.Constant k kk pos) G.env) Q (G.st W):=by
 cases k with
 |int n=>exact wpAny_Constant_int (h (W.tok (W.t+1)) (.refl _) (S.tok _) _ ⟨_,rfl⟩)
 |str y=>exact Constant_str (h (W.tok (W.t+1)) (.refl _) (S.tok _) _ ⟨_,rfl⟩)
 |none=>exact wpAny_Constant_none (h W (.refl _) S _ rfl)
 |bool b=>exact Constant_bool (h W (.refl _) S _ rfl)
 |_=>exact h.elim
end
noncomputable def num:SV→Option (Int×Bool)
 | .z n=>some (n,true)
 | .i x=>some (x,false)
 |_=>none
theorem aB6{ads:List Addr}{y:SV}{v:Value}{p:Int×Bool}(h:num y=some p)(d:Den ads y v):∃ t,v=.int p.1 t:=by
 cases y with
 |z n=>cases h;exact d
 |i n=>cases h;exact d
 |_=>exact nn h
noncomputable def mkI(l:Bool)(x:Int):SV:=match l with
 |true=>.z x
 |false=>.i x
theorem aEw{ads:List Addr}{l:Bool}{x:Int}{t:Tok}:Den ads (mkI l x) (.int x t):=by cases l<;>exact⟨t,rfl⟩
noncomputable def mkB(l:Bool)(b:Bool):SV:=match l with
 |true=>.k (.bool b)
 |false=>.b b
theorem aCx{ads:List Addr}{l b:Bool}:Den ads (mkB l b) (.bool b):=by cases l<;>rfl
section
variable {α:Type}
noncomputable def gd(l:Bool)(b:Bool)(P:Prop)(o:Out α):Out α:=match l with
 |true=>ifT b o
 |false=>.g P o
theorem bCl{V:Vw}{G:Gd V}{W:Wd}{Φ:Wd→St→α→Prop}{l b:Bool}{P C:Prop}{o:Out α}(h:Hd G W (gd l b P o) Φ)(hb:b=true→P)(g:P→Hd G W o Φ→C):C:=by
 cases l with
 |true=>exact ifT_e h fun q h=>g (hb q) h
 |false=>exact g h.1 h.2
end
noncomputable def aA4(n:Int):Int:=match (2:Int) ^ n.toNat with
 | .ofNat q=>.ofNat q
 | .negSucc q=>.negSucc q
theorem aH9{n:Int}:aA4 n=(2:Int) ^ n.toNat:=by unfold aA4;cases (2:Int) ^ n.toNat<;>rfl
theorem aQp{n:Int}:0<aA4 n:=by rw[aH9];exact Int.pow_pos (by decide)
noncomputable def bt(a x b:Int):Bool:=decide (a≤x)&&decide (x≤b)
theorem aGj{a x b:Int}(h:bt a x b=true):a≤x∧x≤b:=by
 unfold bt at h;rwa [Bool.and_eq_true,decide_eq_true_eq,decide_eq_true_eq] at h
noncomputable def i64:Int:=18446744073709551615
noncomputable def bXx(lx:Bool)(x:Int)(ly:Bool)(y:Int)(o:Out SV):Out SV:=match ly with
 |true=>ifT (bt (-i64) y i64) o
 |false=>gd lx (bt (-i64) x i64) (-i64≤x∧x≤i64) o
noncomputable def bSg(lx:Bool)(x:Int)(ly:Bool)(y:Int)(σ:St):Out SV:=match ly with
 |true=>ifT (bt 0 y 64) (.p σ (mkI (lx&&true) (x/aA4 y)))
 |false=>ifT (lx&&x==0) (.g (0≤y) (.p σ (.z 0)))
noncomputable def binI(op:Operator)(x:Int)(lx:Bool)(y:Int)(ly:Bool)(σ:St):Out SV:=match op with
 | .Add=>.p σ (mkI (lx&&ly) (x+y))
 | .Sub=>.p σ (mkI (lx&&ly) (x-y))
 | .Mult=>bXx lx x ly y (.p σ (mkI (lx&&ly) (x*y)))
 | .BitAnd=>.p σ (mkI (lx&&ly) (Builtin.bitAnd x y))
 | .BitOr=>.p σ (mkI (lx&&ly) (Builtin.bitOr x y))
 | .BitXor=>.p σ (mkI (lx&&ly) (Builtin.bitXor x y))
 | .Mod=>gd ly (bt 1 y i64) (1≤y∧y≤i64) (.p σ (mkI (lx&&ly) (x%y)))
 | .FloorDiv=>gd ly (bt 1 y 4294967296) (1≤y∧y≤4294967296) (.p σ (mkI (lx&&ly) (x/y)))
 | .RShift=>bSg lx x ly y σ
 | .LShift=>ifT (ly&&bt 0 y 64) (gd lx (bt 0 x i64) (0≤x∧x≤i64) (.p σ (mkI (lx&&ly) (x*aA4 y))))
 | .Pow=>ifT (ly&&bt 0 y 1000) (gd lx (bt (-i64) x i64) (-i64≤x∧x≤i64) (.p σ (mkI (lx&&ly) (x ^ y.toNat))))
 |_=>.f
noncomputable def bQa(op:CmpOp)(x:Int)(y:Int)(l:Bool):Option SV:=match op with
 | .Eq=>some (mkB l (x==y))
 | .NotEq=>some (mkB l (x != y))
 | .Lt=>some (mkB l (decide (x<y)))
 | .LtE=>some (mkB l (decide (x≤y)))
 | .Gt=>some (mkB l (decide (y<x)))
 | .GtE=>some (mkB l (decide (y≤x)))
 |_=>none
section
variable {V:Vw} {G:Gd V} {W:Wd} {σ:St} {Q:Value→Shared→Prop}
theorem aDt{z:Int}{l:Bool}(S:Sat G W σ)(h:Hd G W (.p σ (mkI l z)) (PV G Q)):Q (.int z W.t) (G.st (W.tok (W.t+1))):=h (W.tok (W.t+1)) (.refl _) (S.tok _) _ aEw
theorem aAc{a b:Bool}(h:(a&&b)=true):a=true∧b=true:=by rwa [Bool.and_eq_true] at h
theorem bDw{x:Int}(h:-i64≤x∧x≤i64):x.natAbs<2 ^ 64:=by unfold i64 at h;omega
theorem bPi{x:Int}(h:-i64≤x∧x≤i64):-2 ^ 64<x:=by unfold i64 at h;omega
theorem bPr{x:Int}(h:-i64≤x∧x≤i64):x<2 ^ 64:=by unfold i64 at h;omega
theorem aYd{op:Operator}{x y:Int}{lx ly:Bool}{t u:Tok}(S:Sat G W σ)(h:Hd G W (binI op x lx y ly σ) (PV G Q)):G.wp (binaryOp op (.int x t) (.int y u)) Q (G.st W):=by
 cases op with
 |Add=>exact add_int (aDt S h)
 |Sub=>exact sub_int (aDt S h)
 |BitAnd=>exact and_int (aDt S h)
 |BitOr=>exact or_int (aDt S h)
 |BitXor=>exact xor_int (aDt S h)
 |Mult=>cases ly with
  |true=>exact ifT_e h fun q h=>mul_int (aDt S h) (IntMulOk.of_right (intBits_le_64 (bPi (aGj q)) (bPr (aGj q))))
  |false=>exact bCl h aGj fun q h=>mul_int (aDt S h) (IntMulOk.of_left (intBits_le_64 (bPi q) (bPr q)))
 |Mod=>exact bCl h aGj fun q h=>aQu q.1 (aDt S h)
 |FloorDiv=>exact bCl h aGj fun q h=>aXu q.1 q.2 (aDt S h)
 |RShift=>cases ly with
  |true=>exact ifT_e h fun q h=>bG1 (aGj q).1 aH9.symm aQp (aDt S h)
  |false =>
   refine ifT_e h fun q h1=>?_
   have hx:x=0:=beq_iff_eq.mp (aAc q).2
   subst hx
   exact bSh h1.1 (h1.2 (W.tok (W.t+1)) (.refl _) (S.tok _) _ ⟨_,rfl⟩)
 |LShift=>exact ifT_e h fun q h=>bCl h aGj fun p h=>bLd (aGj (aAc q).2).1 (aGj (aAc q).2).2 p.1 (Int.lt_add_one_of_le p.2) aH9.symm (aDt S h)
 |Pow=>exact ifT_e h fun q h=>bCl h aGj fun p h=>pow_int_small (aGj (aAc q).2).1 (Int.le_trans (aGj (aAc q).2).2 (by decide)) (bDw p) (aDt S h)
 |_=>exact h.elim
theorem aXx{op:CmpOp}{x y:Int}{l:Bool}{t u:Tok}{z:SV}(e:bQa op x y l=some z)(h:∀ b,Den W.ads z (.bool b)→Q (.bool b) (G.st W)):G.wp (compareOp op (.int x t) (.int y u)) Q (G.st W):=by
 cases op with
 |Eq=>cases e;exact eq_int (h _ aCx)
 |NotEq=>cases e;exact ne_int (h _ aCx)
 |Lt=>cases e;exact lt_int (h _ aCx)
 |LtE=>cases e;exact le_int (h _ aCx)
 |Gt=>cases e;exact gt_int (h _ aCx)
 |GtE=>cases e;exact ge_int (h _ aCx)
 |_=>exact nn e
end
noncomputable def bGk:SV→Option Str
 | .s y=>some y
 |_=>none
noncomputable def bGj:List SV→Option (List Str)
 | []=>some []
 |y::r=>(bGk y).bind fun x=>(bGj r).map (x::·)
noncomputable def nums:List SV→Option (List Int×Bool)
 | []=>some ([],true)
 |y::r=>(num y).bind fun x=>(nums r).map fun q=>(x.1::q.1,x.2&&q.2)
noncomputable def aIj:List Value→Option (List Int)
 | []=>some []
 |v::r=>(num (aGr v)).bind fun x=>(aIj r).map (x.1::·)
theorem aEm:∀ {l:List Value} {ns:List Int},aIj l=some ns→IntsAre l ns
 | [],ns,h=>by cases h;exact .nil
 |v::r,ns,h=>by
  refine aAd (Option.bind_eq_some_iff.mp h) fun x h1 h2=>?_
  refine aAd (Option.map_eq_some_iff.mp h2) fun q h3 r1_2=>?_
  subst r1_2
  refine aA6 (aB6 (ads:=[]) h1 aBi) fun t e=>?_
  exact e▸.cons x.1 t (aEm h3)
theorem aPw{ads:List Addr}:∀ {l:List SV} {ys:List Str} {vs:List Value},bGj l=some ys→Dens ads l vs→StrsAre vs ys:=by
 intro l
 induction l with
 |nil=>intro ys vs h a;cases h;cases a;exact .nil
 |cons y r ih =>
  intro ys vs h a
  cases a with
  |cons d a =>
   refine aAd (Option.bind_eq_some_iff.mp h) fun x h1 h2=>?_
   refine aAd (Option.map_eq_some_iff.mp h2) fun q h3 r4_2=>?_
   subst r4_2
   cases y with
   |s y=>cases h1;obtain⟨t,rfl⟩:=d;exact .cons _ t (ih h3 a)
   |_=>exact nn h1
theorem aF7{ads:List Addr}:∀ {l:List SV} {p:List Int×Bool} {vs:List Value},nums l=some p→Dens ads l vs→IntsAre vs p.1:=by
 intro l
 induction l with
 |nil=>intro p vs h a;cases h;cases a;exact .nil
 |cons y r ih =>
  intro p vs h a
  cases a with
  |cons d a =>
   refine aAd (Option.bind_eq_some_iff.mp h) fun x h1 h2=>?_
   refine aAd (Option.map_eq_some_iff.mp h2) fun q h3 r6_2=>?_
   subst r6_2
   refine aA6 (aB6 h1 d) fun t r7_1=>?_
   subst r7_1
   exact .cons x.1 t (ih h3 a)
noncomputable def aCw(k:Int):List (Int×SV)→Option SV
 | []=>none
 |p::r=>if p.1=k then some p.2 else aCw k r
theorem aKf{ads:List Addr}{k:Int}:∀ {kvs:List (Int×SV)} {l:List (Int×Value)},All2 (DiE ads) kvs l→FactR ads l (k,aCw k kvs):=by
 intro kvs l h
 induction h with
 |nil=>rfl
 | @cons p q r m d a ih =>
  obtain⟨x,y⟩:=p
  obtain⟨z,v⟩:=q
  obtain⟨e,d⟩:=d
  dsimp only at e d
  subst e
  unfold aCw
  by_cases h:z=k
  ·rw[if_pos h];exact⟨v,by rw[valueAt,List.find?_cons_of_pos (by simp[h])];rfl,d⟩
  ·rw[if_neg h]
   have e2:valueAt ((z,v)::m) k=valueAt m k:=by unfold valueAt;rw[List.find?_cons_of_neg (by simp[h])]
   unfold FactR at *
   dsimp only at *
   rw[e2];exact ih
theorem aJb{x y:Str}:aB8 x y=(x==y):=by
 by_cases h:x=y
 ·rw[aCe.mpr h,h];simp
 ·rw[aCm.mpr h,beq_eq_false_iff_ne.mpr h]
noncomputable def aIl:SV→Option Bool
 | .k v=>(match v with
  | .none=>some true
  | .ref _=>some false
  |_=>none)
 | .a _=>some false
 | .z _=>some false
 | .i _=>some false
 |_=>none
noncomputable def bLz(a b:SV):Option Bool:=match num a with
 |some x=>(match num b with
  |some y=>some (x.1==y.1)
  |none=>(aIl b).bind fun c=>bif c then some false else none)
 |none=>(aIl a).bind fun c=>bif c then (match num b with
  |some _=>some false
  |none=>(aIl b).bind fun c=>bif c then some true else none) else none
theorem aFm{ads:List Addr}{y:SV}{v:Value}(h:aIl y=some true)(d:Den ads y v):v=.none:=by
 cases y with
 |k w=>cases w with
  |none=>exact d
  |_=>cases h
 |_=>cases h
theorem aXp{ads:List Addr}{A:Around}{s:Shared}{a b:SV}{va vb:Value}{c:Bool}(h:bLz a b=some c)(da:Den ads a va)(db:Den ads b vb):PySem.SeqAt.EqAt A s va vb c:=by
 have no:∀ {x:SV} {w:Value} {y:Bool} {z:Option Bool},(aIl x).bind (fun c=>bif c then z else none)=some y→Den ads x w→w=.none∧z=some y:=fun {x w y z} h d=>by
  refine aAd (Option.bind_eq_some_iff.mp h) fun c h1 h2=>?_
  cases c with
  |true=>exact⟨aFm h1 d,h2⟩
  |false=>cases h2
 unfold bLz at h
 cases ha:num a with
 |some x =>
  rw[ha] at h
  refine aA6 (aB6 ha da) fun t r12_1=>?_
  subst r12_1
  cases hb:num b with
  |some y =>
   rw[hb] at h
   refine aA6 (aB6 hb db) fun u r13_1=>?_
   subst r13_1
   cases h;exact PySem.SeqAt.EqAt.int_int _ _ _ _
  |none =>
   rw[hb] at h
   refine aBa (no h db) fun r14_0 e=>?_
   subst r14_0
   cases e;exact PySem.SeqAt.EqAt.int_none _ _
 |none =>
  rw[ha] at h
  refine aBa (no h da) fun r15_0 h=>?_
  subst r15_0
  cases hb:num b with
  |some y =>
   rw[hb] at h
   refine aA6 (aB6 hb db) fun u r16_1=>?_
   subst r16_1
   cases h;exact PySem.SeqAt.EqAt.none_int _ _
  |none =>
   rw[hb] at h
   refine aBa (no h db) fun r17_0 e=>?_
   subst r17_0
   cases e;exact PySem.SeqAt.EqAt.same _
noncomputable def aXq:List SV→List SV→Option (List Bool)
 | [],l=>(match l with
  | []=>some []
  |_::_=>none)
 |a::l,m=>(match m with
  | []=>none
  |b::m=>(bLz a b).bind fun x=>(aXq l m).map (x::·))
theorem aRp{ads:List Addr}{A:Around}{s:Shared}:∀ {l m:List SV} {vs ws:List Value} {r:List Bool},aXq l m=some r→Dens ads l vs→Dens ads m ws→vs.length=ws.length∧r.length=vs.length∧∀ j (h1:j<vs.length) (h2:j<ws.length),PySem.SeqAt.EqAt A s vs[j] ws[j] (r.getD j true):=by
 intro l
 induction l with
 |nil =>
  intro m vs ws r h a b
  cases m with
  |nil=>cases a;cases b;cases h;exact⟨rfl,rfl,fun j h1=>absurd h1 (Nat.not_lt_zero _)⟩
  |cons _ _=>cases h
 |cons x l ih =>
  intro m vs ws r h a b
  cases m with
  |nil=>cases h
  |cons y m =>
   refine aAd (Option.bind_eq_some_iff.mp h) fun c h1 h2=>?_
   refine aAd (Option.map_eq_some_iff.mp h2) fun q h3 r19_2=>?_
   subst r19_2
   cases a with
   |cons da a=>cases b with
    |cons db b =>
     refine aIv (ih h3 a b) fun e1 e2 e3=>?_
     refine⟨congrArg Nat.succ e1,congrArg Nat.succ e2,fun j j1 j2=>?_⟩
     cases j with
     |zero=>exact aXp h1 da db
     |succ j=>exact e3 j (Nat.lt_of_succ_lt_succ j1) (Nat.lt_of_succ_lt_succ j2)
noncomputable def allB:List Bool→Bool
 | []=>true
 |x::r=>(match r with
  | []=>x
  |_::_=>x&&allB r)
theorem aPd:∀ {r:List Bool},allB r=(List.range r.length).all (fun j=>r.getD j true)
 | []=>rfl
 |x::r=>by
  rw[List.length_cons,List.range_succ_eq_map,List.all_cons,List.all_map]
  have e:(List.all (List.range r.length) ((fun j=>(x::r).getD j true)∘Nat.succ))=(List.range r.length).all (fun j=>r.getD j true):=congrArg _ rfl
  rw[e,← aPd (r:=r)]
  cases r<;>simp[allB]
section
variable {α:Type}
noncomputable def onS(y:SV)(k:Str→Out α):Out α:=match y with
 | .s x=>k x
 |_=>.f
noncomputable def onK(y:SV)(k:Addr→Out α):Out α:=match y with
 | .k v=>(match v with
  | .ref a=>k a
  |_=>.f)
 |_=>.f
variable {V:Vw} {G:Gd V} {W:Wd} {σ:St} {Φ:Wd→St→α→Prop}
theorem aV0{y:SV}{k:Str→Out α}{ads:List Addr}{v:Value}{P:Prop}(h:Hd G W (onS y k) Φ)(d:Den ads y v)(g:∀ x t,v=(.str x t)→Hd G W (k x) Φ→P):P:=by
 cases y with
 |s x=>obtain⟨t,rfl⟩:=d;exact g x t rfl h
 |_=>exact h.elim
theorem aM5{y:SV}{k:Addr→Out α}{ads:List Addr}{v:Value}{P:Prop}(h:Hd G W (onK y k) Φ)(d:Den ads y v)(g:∀ x,v=(.ref x)→Hd G W (k x) Φ→P):P:=by
 cases y with
 |k w=>cases w with
  |ref a=>cases d;exact g a rfl h
  |_=>exact h.elim
 |_=>exact h.elim
end
noncomputable def bP2(i j:Nat)(σ:St):Out SV:=onSeq σ i fun ta vs _=>onSeq σ j fun tb ws _=>ifT (ta==tb) (onO (aXq vs ws) fun r=>.p σ (.b (!allB r)))
noncomputable def aNt(V:Vw)(d:Addr)(x:Int)(σ:St):Out SV:=match aCh V.O d x with
 |some r=>.p σ (aC5 (!r.isSome))
 |none=>onO (V.tp d) fun l=>onO (aIj l) fun ns=>.p σ (aC5 (!(ns.any (·==x))))
noncomputable def bPq(V:Vw)(x:Int)(lx:Bool)(b:SV)(σ:St):Out SV:=match b with
 | .a i=>onO (gN σ.led i) fun o=>(match o with
  | .seq tup vs _=>ifT tup (onO (nums vs) fun q=>.p σ (mkB (lx&&q.2) (q.1.any (·==x))))
  | .di kvs=>ifT lx (.p σ (aC5 (aCw x kvs).isSome))
  |_=>.f)
 |b=>onK b fun d=>ifT (lx&&!(d==sysModules)) (onO (aCh V.O d x) fun r=>.p σ (aC5 r.isSome))
noncomputable def inS(V:Vw)(x:Str)(b:SV)(σ:St):Out SV:=match b with
 | .a i=>onSeq σ i fun tup vs _=>ifT tup (onO (bGj vs) fun ys=>.p σ (aC5 (ys.any (aB8 · x))))
 |b=>onK b fun d=>ifT (!(d==mainGlobals)) (ifT (!(d==sysModules)) (onO (V.ns d x) fun r=>.p σ (aC5 r.isSome)))
noncomputable def bC3(V:Vw)(op:CmpOp)(x:Int)(lx:Bool)(b:SV)(σ:St):Out SV:=match op with
 | .In=>bPq V x lx b σ
 | .NotIn=>onK b fun d=>ifT (lx&&!(d==sysModules)) (aNt V d x σ)
 | .Is=>onO (aIl b) fun c=>ifT c (.p σ (aC5 false))
 | .IsNot=>onO (aIl b) fun c=>ifT c (.p σ (aC5 true))
 |_=>.f
noncomputable def bC2(V:Vw)(op:CmpOp)(a b:SV)(σ:St):Out SV:=match op with
 | .NotEq=>onA a fun i=>onA b fun j=>bP2 i j σ
 | .Is=>onO (aIl b) fun c=>ifT c (onO (aIl a) fun r=>.p σ (aC5 r))
 | .IsNot=>onO (aIl b) fun c=>ifT c (onO (aIl a) fun r=>.p σ (aC5 (!r)))
 | .Eq=>onS a fun x=>onS b fun y=>.p σ (aC5 (aB8 x y))
 | .In=>onS a fun x=>inS V x b σ
 |_=>.f
noncomputable def aOr(V:Vw)(op:CmpOp)(a b:SV)(σ:St):Out SV:=match num a with
 |some x=>(match num b with
  |some y=>onO (bQa op x.1 y.1 (x.2&&y.2)) (.p σ)
  |none=>bC3 V op x.1 x.2 b σ)
 |none=>bC2 V op a b σ
theorem notI{prog:Program}{w:World}{A:Around}{E:Value→Shared→Prop}{s:Shared}{K:Frag}{h₀:Heap}{L a:Addr}{m:Str→Option Value}{k:Int}{t:Tok}{r:Option Value}{Q:Value→Shared→Prop}(F:Fr h₀ L s.heap m)(X:K.In h₀)(e:aCh K a k=some r)(lo:(a==sysModules)=false)(h:∀ tk,Q (.bool !r.isSome) { s with toks:=tk }):wpAny (model prog w) A (compareOp .NotIn (.int k t) (.ref a)) Q E s:=by
 refine aAd (aBp (prog:=prog) (w:=w) (X.keeps F.keep) e) fun f hm hf=>?_
 exact wpAny_notIn_of (intKind_is prog w k t) lo hm (by rw[hf];exact h _)
section
variable {V:Vw} {G:Gd V} {W:Wd} {σ:St} {Q:Value→Shared→Prop}
theorem aDg{x:SV}{v:Value}(S:Sat G W σ)(h:Hd G W (.p σ x) (PV G Q))(d:Den W.ads x v):Q v (G.st W):=h W (.refl _) S v d
theorem aDf{x:SV}{v:Value}(S:Sat G W σ)(h:Hd G W (.p σ x) (PV G Q))(t:Nat)(d:Den W.ads x v):Q v (G.st (W.tok t)):=h (W.tok t) (.refl _) (S.tok t) v d
theorem bMz{a b:Bool}(h:(a==b)=true):a=b:=by cases a<;>cases b<;>first|rfl|cases h
theorem aXg{i j:Nat}{a b:Addr}(S:Sat G W σ)(ha:gN W.ads i=some a)(hb:gN W.ads j=some b)(h:Hd G W (bP2 i j σ) (PV G Q)):G.wp (compareOp .NotEq (.ref a) (.ref b)) Q (G.st W) :=
 aCf h S ha fun ta vs n l1 _ q2 al1 h=>aCf h S hb fun tb ws n2 l2 _ p2 al2 h=>ifT_e h fun ht h=>onO_e h fun r hr hz=>by
  cases bMz ht
  have hu:G.A.units<cLine:=Nat.lt_of_le_of_lt (Nat.le_add_right _ _) S.ok.un
  have key:∀ {B:Around},_:=fun {B}=>aRp (A:=B) (s:=G.st W) hr al1 al2
  obtain⟨e1,e2,-⟩:=key (B:=G.A)
  have fin:Q (.bool (!(List.range l1.length).all (fun j=>r.getD j true))) (G.st W):=by
   rw[← e2,← aPd];exact aDg S hz rfl
  refine cmp_ofNotEq ?_
  cases ta with
  |true =>
   refine PySem.SeqAt.RcNeAt.tuples (items:=l1.toArray) (items2:=l2.toArray) (News.isTup S.N q2) (News.isTup S.N p2) hu (fun j h1 h2=>(key (B:=G.A.in1)).2.2 j h1 h2) _ _ _ _ ?_
   simpa[e1] using fin
  |false =>
   exact PySem.SeqAt.RcNeAt.lists (items:=l1.toArray) (items2:=l2.toArray) (News.isList S.N q2) (News.isList S.N p2) e1 hu (fun j h1 h2=>(key (B:=G.A.in1)).2.2 j h1 h2) _ _ _ _ fin
theorem aNs{d:Addr}{x:Int}{t:Tok}(S:Sat G W σ)(lo:(d==sysModules)=false)(h:Hd G W (aNt V d x σ) (PV G Q)):G.wp (compareOp .NotIn (.int x t) (.ref d)) Q (G.st W):=by
 unfold aNt at h
 cases e:aCh V.O d x with
 |some r=>rw[e] at h;exact notI S.F S.ok.K (aC3 G.X.vo.O e) lo fun tk=>aDf S h tk rfl
 |none =>
  rw[e] at h
  exact onO_e h fun l hl h=>onO_e h fun ns hn h=>(G.X.vo.tp hl).elim fun sl q=>notin_tuple_ints ⟨_,S.K _ _ q,rfl,_,rfl⟩ (aEm hn) (aDg S h rfl)
theorem aOi{ads:List Addr}{l:List (Int×Value)}{k:Int}{y:Option SV}(h:FactR ads l (k,y)):((valueAt l k).isSome)=y.isSome:=by
 cases y with
 |none=>exact congrArg Option.isSome (show valueAt l k=none from h)
 |some y=>obtain⟨v,e,_⟩:=h;exact congrArg Option.isSome e
theorem aWz{x:Int}{lx:Bool}{t:Tok}{b:SV}{vb:Value}(S:Sat G W σ)(db:Den W.ads b vb)(h:Hd G W (bPq V x lx b σ) (PV G Q)):G.wp (compareOp .In (.int x t) vb) Q (G.st W):=by
 have kk:∀ {b:SV},Den W.ads b vb→Hd G W (onK b fun d=>ifT (lx&&!(d==sysModules)) (onO (aCh V.O d x) fun r=>.p σ (aC5 r.isSome))) (PV G Q)→G.wp (compareOp .In (.int x t) vb) Q (G.st W):=fun db h =>
  aM5 h db fun d qe h=>qe▸ifT_e h fun q h=>onO_e h fun r hr h=>Mine.inI S.F S.ok.K (aC3 G.X.vo.O hr) (aBu (aAc q).2) fun tk=>aDf S h tk rfl
 cases b with
 |a i =>
  refine aAd db fun ad h1 r22_2=>?_
  subst r22_2
  refine aG5 h S h1 fun so o ho hm d h=>?_
  cases so with
  |seq tup vs n =>
   refine aAd d fun l al r23_2=>?_
   subst r23_2
   refine ifT_e h fun e h=>?_
   cases e
   exact onO_e h fun q hq h=>in_tuple_ints (News.isTup S.N hm) (aF7 hq al) (aDg S h aCx)
  |di kvs =>
   refine aAd d fun l al hdo=>?_
   exact ifT_e h fun e h=>kda_in (knd:=intKind G.X.prog G.X.w) S.N hm hdo (S.low h1) (intKind_is _ _ _ _) _ (aOi (aKf al)) (aDf S h _ rfl)
  |_=>exact h.elim
 |k v=>exact kk db h
 |_=>exact h.elim
theorem bCj{x:Str}{t:Tok}{b:SV}{vb:Value}(S:Sat G W σ)(db:Den W.ads b vb)(h:Hd G W (inS V x b σ) (PV G Q)):G.wp (compareOp .In (.str x t) vb) Q (G.st W):=by
 have kk:∀ {b:SV},Den W.ads b vb→Hd G W (onK b fun d=>ifT (!(d==mainGlobals)) (ifT (!(d==sysModules)) (onO (V.ns d x) fun r=>.p σ (aC5 r.isSome)))) (PV G Q)→G.wp (compareOp .In (.str x t) vb) Q (G.st W):=fun db h =>
  aM5 h db fun d qe h=>qe▸ifT_e h fun q1 h=>ifT_e h fun q2 h=>onO_e h fun r hr h=>((G.X.vo.ns hr).2.resolve_left (ne_of_beq_false (aBu q1))).2.elim fun es q=>q.elim fun n q=>topIn_K S.F S.ok.K q.1 q.2 (G.X.vo.ns hr).1 (aBu q2) (aDf S h _ rfl)
 cases b with
 |a i =>
  refine aAd db fun ad h1 r25_2=>?_
  subst r25_2
  refine aCf h S h1 fun tup vs n l _ hm al h=>ifT_e h fun e h=>?_
  cases e
  exact onO_e h fun ys hys h=>in_tuple_strs (News.isTup S.N hm) (aPw hys al) (aDg S h (by simp only[aJb];rfl))
 |k v=>exact kk db h
 |_=>exact h.elim
theorem aWu{a:SV}{v:Value}{r:Bool}{s:Shared}{A:Around}{prog:Program}{w:World}{E:Value→Shared→Prop}(h:aIl a=some r)(d:Den W.ads a v)(hq:Q (.bool r) s):wpAny (model prog w) A (compareOp .Is v .none) Q E s:=by
 cases a with
 |k x=>cases x with
  |none=>cases h;cases d;exact is_none_none hq
  |ref c=>cases h;cases d;exact is_ref_none hq
  |_=>exact nn h
 |a i=>cases h;obtain⟨c,_,rfl⟩:=d;exact is_ref_none hq
 |z n=>cases h;obtain⟨c,rfl⟩:=d;exact is_int_none hq
 |i n=>cases h;obtain⟨c,rfl⟩:=d;exact is_int_none hq
 |_=>exact nn h
theorem aQ6{a:SV}{v:Value}{r:Bool}{s:Shared}{A:Around}{prog:Program}{w:World}{E:Value→Shared→Prop}(h:aIl a=some r)(d:Den W.ads a v)(hq:Q (.bool !r) s):wpAny (model prog w) A (compareOp .IsNot v .none) Q E s:=by
 cases a with
 |k x=>cases x with
  |none=>cases h;cases d;exact isnot_none_none hq
  |ref c=>cases h;cases d;exact isnot_ref_none hq
  |_=>exact nn h
 |a i=>cases h;obtain⟨c,_,rfl⟩:=d;exact isnot_ref_none hq
 |z n=>cases h;obtain⟨c,rfl⟩:=d;exact isnot_int_none hq
 |i n=>cases h;obtain⟨c,rfl⟩:=d;exact isnot_int_none hq
 |_=>exact nn h
theorem aKd{op:CmpOp}{a b:SV}{va vb:Value}(S:Sat G W σ)(da:Den W.ads a va)(db:Den W.ads b vb)(h:Hd G W (aOr V op a b σ) (PV G Q)):G.wp (compareOp op va vb) Q (G.st W):=by
 unfold aOr at h
 cases ha:num a with
 |some x =>
  rw[ha] at h
  refine aA6 (aB6 ha da) fun t r26_1=>?_
  subst r26_1
  cases hb:num b with
  |some y =>
   rw[hb] at h
   refine aA6 (aB6 hb db) fun u r27_1=>?_
   subst r27_1
   exact onO_e h fun z hz h=>aXx hz fun b d=>aDg S h d
  |none =>
   rw[hb] at h
   cases op with
   |In=>exact aWz S db h
   |NotIn=>exact aM5 h db fun d qe h=>qe▸ifT_e h fun q h=>aNs S (aBu (aAc q).2) h
   |Is=>exact onO_e h fun c hc h=>ifT_e h fun q h=>aFm (q▸hc) db▸is_int_none (aDg S h rfl)
   |IsNot=>exact onO_e h fun c hc h=>ifT_e h fun q h=>aFm (q▸hc) db▸isnot_int_none (aDg S h rfl)
   |_=>exact h.elim
 |none =>
  rw[ha] at h
  cases op with
  |NotEq=>exact aDq h da fun i x hx qe h=>qe▸aDq h db fun j y hy qe h=>qe▸aXg S hx hy h
  |Is=>exact onO_e h fun c hc h=>ifT_e h fun q h=>onO_e h fun r hr h=>aFm (q▸hc) db▸aWu hr da (aDg S h rfl)
  |IsNot=>exact onO_e h fun c hc h=>ifT_e h fun q h=>onO_e h fun r hr h=>aFm (q▸hc) db▸aQ6 hr da (aDg S h rfl)
  |Eq=>exact aV0 h da fun x t qe h=>qe▸aV0 h db fun y u qe h=>qe▸eq_str (aDg S h (congrArg _ aJb.symm))
  |In=>exact aV0 h da fun x t qe h=>qe▸bCj S db h
  |_=>exact h.elim
noncomputable def aGd(y:SV)(σ:St):Out Bool:=match y with
 | .z n=>.p σ (n != 0)
 | .i x=>br (x != 0) σ .p
 | .k v=>(match v with
  | .bool b=>.p σ b
  | .none=>.p σ false
  |_=>.f)
 | .b x=>br x σ .p
 |_=>.f
theorem aCr{y:SV}{v:Value}{Q:Bool→Shared→Prop}(S:Sat G W σ)(d:Den W.ads y v)(h:Hd G W (aGd y σ) (PB G Q)):G.wp (truthy v) Q (G.st W):=by
 cases y with
 |z n=>obtain⟨t,rfl⟩:=d;exact truthy_int (h W (.refl _) S)
 |i n=>obtain⟨t,rfl⟩:=d;exact truthy_int (bGc h fun r h=>h W (.refl _) (S.orc r))
 |b n=>cases d;exact wpAny_truthy_bool (bGc h fun r h=>h W (.refl _) (S.orc r))
 |k v=>cases d;cases v with
  |bool b=>exact wpAny_truthy_bool (h W (.refl _) S)
  |none=>exact truthy_none (h W (.refl _) S)
  |_=>exact h.elim
 |_=>exact h.elim
end
theorem aH1{p:Prop}[d:Decidable p]{α:Type}{f:p→α}{q:α}(h:(if h:p then some (f h) else none)=some q):∃ h,f h=q:=match d with
 | .isTrue x=>⟨x,Option.some.inj ((dif_pos x).symm.trans h)⟩
 | .isFalse x=>nomatch (dif_neg x).symm.trans h
noncomputable def alt{γ β:Type}(x:Option γ)(k:γ→β)(d:β):β:=match x with
 |some y=>k y
 |none=>d
theorem aE1{γ β:Type}{x:Option γ}{k:γ→β}{d:β}{C:β→Prop}{P:Prop}(h:C (alt x k d))(g:∀ y,x=some y→C (k y)→P)(g':C d→P):P:=match x,h,g with
 |some y,h,g=>g y rfl h
 |none,h,_=>g' h
noncomputable def one{α:Type}(l:List α):Option α:=l.casesOn none fun a l=>l.casesOn (some a) fun _ _=>none
theorem aQs{α:Type}{l:List α}{a:α}(h:one l=some a):l=[a]:=by
 cases l with
 |nil=>exact nomatch h
 |cons x l=>cases l with
  |nil=>exact congrArg (fun x=>[x]) (Option.some.inj h)
  |cons=>exact nomatch h
noncomputable def asN(e:PySem.Expr):Option (Str×Pos):=if h:e.ctorIdx=23 then some (PySem.Expr.Name.elim (motive_1:=fun _=>Str×Pos) e h fun a b=>(a,b)) else none
theorem aDl{e:PySem.Expr}{q:Str×Pos}(h:asN e=some q):e=.Name q.1 q.2:=(aH1 h).elim fun c k=>PySem.Expr.Name.elim (motive_1:=fun e=>∀ c,PySem.Expr.Name.elim (motive_1:=fun _=>Str×Pos) e c (fun a b=>(a,b))=q→e=.Name q.1 q.2) e c (fun a b _ k=>congrArg (fun q:Str×Pos=>PySem.Expr.Name q.1 q.2) k) c k
noncomputable def asA(e:PySem.Expr):Option (PySem.Expr×Str×Pos):=if h:e.ctorIdx=20 then some (PySem.Expr.Attribute.elim (motive_1:=fun _=>PySem.Expr×Str×Pos) e h fun a b c=>(a,b,c)) else none
theorem aLp{e:PySem.Expr}{q:PySem.Expr×Str×Pos}(h:asA e=some q):e=.Attribute q.1 q.2.1 q.2.2:=(aH1 h).elim fun c k=>PySem.Expr.Attribute.elim (motive_1:=fun e=>∀ c,PySem.Expr.Attribute.elim (motive_1:=fun _=>PySem.Expr×Str×Pos) e c (fun a b c=>(a,b,c))=q→e=.Attribute q.1 q.2.1 q.2.2) e c (fun a b c _ k=>congrArg (fun q:PySem.Expr×Str×Pos=>PySem.Expr.Attribute q.1 q.2.1 q.2.2) k) c k
noncomputable def asC(e:PySem.Expr):Option (PySem.Expr×List PySem.Expr×List Keyword×Pos):=if h:e.ctorIdx=16 then some (PySem.Expr.Call.elim (motive_1:=fun _=>PySem.Expr×List PySem.Expr×List Keyword×Pos) e h fun a b c d=>(a,b,c,d)) else none
theorem bDu{e:PySem.Expr}{q:PySem.Expr×List PySem.Expr×List Keyword×Pos}(h:asC e=some q):e=.Call q.1 q.2.1 q.2.2.1 q.2.2.2:=(aH1 h).elim fun c k=>PySem.Expr.Call.elim (motive_1:=fun e=>∀ c,PySem.Expr.Call.elim (motive_1:=fun _=>PySem.Expr×List PySem.Expr×List Keyword×Pos) e c (fun a b c d=>(a,b,c,d))=q→e=.Call q.1 q.2.1 q.2.2.1 q.2.2.2) e c (fun a b c d _ k=>congrArg (fun q:PySem.Expr×List PySem.Expr×List Keyword×Pos=>PySem.Expr.Call q.1 q.2.1 q.2.2.1 q.2.2.2) k) c k
noncomputable def asK(e:PySem.Expr):Option (Const×Nat×Pos):=if h:e.ctorIdx=19 then some (PySem.Expr.Constant.elim (motive_1:=fun _=>Const×Nat×Pos) e h fun a b c=>(a,b,c)) else none
theorem aR3{e:PySem.Expr}{q:Const×Nat×Pos}(h:asK e=some q):e=.Constant q.1 q.2.1 q.2.2:=(aH1 h).elim fun c k=>PySem.Expr.Constant.elim (motive_1:=fun e=>∀ c,PySem.Expr.Constant.elim (motive_1:=fun _=>Const×Nat×Pos) e c (fun a b c=>(a,b,c))=q→e=.Constant q.1 q.2.1 q.2.2) e c (fun a b c _ k=>congrArg (fun q:Const×Nat×Pos=>PySem.Expr.Constant q.1 q.2.1 q.2.2) k) c k
noncomputable def asL(e:PySem.Expr):Option (List PySem.Expr×Pos):=if h:e.ctorIdx=24 then some (PySem.Expr.List.elim (motive_1:=fun _=>List PySem.Expr×Pos) e h fun a b=>(a,b)) else none
theorem bDt{e:PySem.Expr}{q:List PySem.Expr×Pos}(h:asL e=some q):e=.List q.1 q.2:=(aH1 h).elim fun c k=>PySem.Expr.List.elim (motive_1:=fun e=>∀ c,PySem.Expr.List.elim (motive_1:=fun _=>List PySem.Expr×Pos) e c (fun a b=>(a,b))=q→e=.List q.1 q.2) e c (fun a b _ k=>congrArg (fun q:List PySem.Expr×Pos=>PySem.Expr.List q.1 q.2) k) c k
noncomputable def asT(e:PySem.Expr):Option (List PySem.Expr×Nat×Pos):=if h:e.ctorIdx=25 then some (PySem.Expr.Tuple.elim (motive_1:=fun _=>List PySem.Expr×Nat×Pos) e h fun a b c=>(a,b,c)) else none
theorem bDq{e:PySem.Expr}{q:List PySem.Expr×Nat×Pos}(h:asT e=some q):e=.Tuple q.1 q.2.1 q.2.2:=(aH1 h).elim fun c k=>PySem.Expr.Tuple.elim (motive_1:=fun e=>∀ c,PySem.Expr.Tuple.elim (motive_1:=fun _=>List PySem.Expr×Nat×Pos) e c (fun a b c=>(a,b,c))=q→e=.Tuple q.1 q.2.1 q.2.2) e c (fun a b c _ k=>congrArg (fun q:List PySem.Expr×Nat×Pos=>PySem.Expr.Tuple q.1 q.2.1 q.2.2) k) c k
noncomputable def asG(e:PySem.Expr):Option (PySem.Expr×List Comprehension×Scope×Pos):=if h:e.ctorIdx=8 then some (PySem.Expr.ListComp.elim (motive_1:=fun _=>PySem.Expr×List Comprehension×Scope×Pos) e h fun a b c d=>(a,b,c,d)) else none
theorem bM4{e:PySem.Expr}{q:PySem.Expr×List Comprehension×Scope×Pos}(h:asG e=some q):e=.ListComp q.1 q.2.1 q.2.2.1 q.2.2.2:=(aH1 h).elim fun c k=>PySem.Expr.ListComp.elim (motive_1:=fun e=>∀ c,PySem.Expr.ListComp.elim (motive_1:=fun _=>PySem.Expr×List Comprehension×Scope×Pos) e c (fun a b c d=>(a,b,c,d))=q→e=.ListComp q.1 q.2.1 q.2.2.1 q.2.2.2) e c (fun a b c d _ k=>congrArg (fun q:PySem.Expr×List Comprehension×Scope×Pos=>PySem.Expr.ListComp q.1 q.2.1 q.2.2.1 q.2.2.2) k) c k
noncomputable def asF(e:PySem.Expr):Option (PySem.Expr×Int×Option PySem.Expr×Pos):=if h:e.ctorIdx=17 then some (PySem.Expr.FormattedValue.elim (motive_1:=fun _=>PySem.Expr×Int×Option PySem.Expr×Pos) e h fun a b c d=>(a,b,c,d)) else none
theorem bM5{e:PySem.Expr}{q:PySem.Expr×Int×Option PySem.Expr×Pos}(h:asF e=some q):e=.FormattedValue q.1 q.2.1 q.2.2.1 q.2.2.2:=(aH1 h).elim fun c k=>PySem.Expr.FormattedValue.elim (motive_1:=fun e=>∀ c,PySem.Expr.FormattedValue.elim (motive_1:=fun _=>PySem.Expr×Int×Option PySem.Expr×Pos) e c (fun a b c d=>(a,b,c,d))=q→e=.FormattedValue q.1 q.2.1 q.2.2.1 q.2.2.2) e c (fun a b c d _ k=>congrArg (fun q:PySem.Expr×Int×Option PySem.Expr×Pos=>PySem.Expr.FormattedValue q.1 q.2.1 q.2.2.1 q.2.2.2) k) c k
noncomputable def asJ(e:PySem.Expr):Option (List PySem.Expr×Pos):=if h:e.ctorIdx=18 then some (PySem.Expr.JoinedStr.elim (motive_1:=fun _=>List PySem.Expr×Pos) e h fun a b=>(a,b)) else none
theorem bM2{e:PySem.Expr}{q:List PySem.Expr×Pos}(h:asJ e=some q):e=.JoinedStr q.1 q.2:=(aH1 h).elim fun c k=>PySem.Expr.JoinedStr.elim (motive_1:=fun e=>∀ c,PySem.Expr.JoinedStr.elim (motive_1:=fun _=>List PySem.Expr×Pos) e c (fun a b=>(a,b))=q→e=.JoinedStr q.1 q.2) e c (fun a b _ k=>congrArg (fun q:List PySem.Expr×Pos=>PySem.Expr.JoinedStr q.1 q.2) k) c k
noncomputable def asM(e:PySem.Expr):Option (PySem.Expr×List CmpOp×List PySem.Expr×Pos):=if h:e.ctorIdx=15 then some (PySem.Expr.Compare.elim (motive_1:=fun _=>PySem.Expr×List CmpOp×List PySem.Expr×Pos) e h fun a b c d=>(a,b,c,d)) else none
theorem bDs{e:PySem.Expr}{q:PySem.Expr×List CmpOp×List PySem.Expr×Pos}(h:asM e=some q):e=.Compare q.1 q.2.1 q.2.2.1 q.2.2.2:=(aH1 h).elim fun c k=>PySem.Expr.Compare.elim (motive_1:=fun e=>∀ c,PySem.Expr.Compare.elim (motive_1:=fun _=>PySem.Expr×List CmpOp×List PySem.Expr×Pos) e c (fun a b c d=>(a,b,c,d))=q→e=.Compare q.1 q.2.1 q.2.2.1 q.2.2.2) e c (fun a b c d _ k=>congrArg (fun q:PySem.Expr×List CmpOp×List PySem.Expr×Pos=>PySem.Expr.Compare q.1 q.2.1 q.2.2.1 q.2.2.2) k) c k
noncomputable def asU(e:PySem.Expr):Option (PySem.Expr×PySem.Expr×Pos):=if h:e.ctorIdx=21 then some (PySem.Expr.Subscript.elim (motive_1:=fun _=>PySem.Expr×PySem.Expr×Pos) e h fun a b c=>(a,b,c)) else none
theorem bDp{e:PySem.Expr}{q:PySem.Expr×PySem.Expr×Pos}(h:asU e=some q):e=.Subscript q.1 q.2.1 q.2.2:=(aH1 h).elim fun c k=>PySem.Expr.Subscript.elim (motive_1:=fun e=>∀ c,PySem.Expr.Subscript.elim (motive_1:=fun _=>PySem.Expr×PySem.Expr×Pos) e c (fun a b c=>(a,b,c))=q→e=.Subscript q.1 q.2.1 q.2.2) e c (fun a b c _ k=>congrArg (fun q:PySem.Expr×PySem.Expr×Pos=>PySem.Expr.Subscript q.1 q.2.1 q.2.2) k) c k
noncomputable def asP(e:PySem.Expr):Option (PySem.Expr×Operator×PySem.Expr×Pos):=if h:e.ctorIdx=2 then some (PySem.Expr.BinOp.elim (motive_1:=fun _=>PySem.Expr×Operator×PySem.Expr×Pos) e h fun a b c d=>(a,b,c,d)) else none
theorem bM0{e:PySem.Expr}{q:PySem.Expr×Operator×PySem.Expr×Pos}(h:asP e=some q):e=.BinOp q.1 q.2.1 q.2.2.1 q.2.2.2:=(aH1 h).elim fun c k=>PySem.Expr.BinOp.elim (motive_1:=fun e=>∀ c,PySem.Expr.BinOp.elim (motive_1:=fun _=>PySem.Expr×Operator×PySem.Expr×Pos) e c (fun a b c d=>(a,b,c,d))=q→e=.BinOp q.1 q.2.1 q.2.2.1 q.2.2.2) e c (fun a b c d _ k=>congrArg (fun q:PySem.Expr×Operator×PySem.Expr×Pos=>PySem.Expr.BinOp q.1 q.2.1 q.2.2.1 q.2.2.2) k) c k
noncomputable def asO(e:PySem.Expr):Option (UnaryOp×PySem.Expr×Pos):=if h:e.ctorIdx=3 then some (PySem.Expr.UnaryOp.elim (motive_1:=fun _=>UnaryOp×PySem.Expr×Pos) e h fun a b c=>(a,b,c)) else none
theorem bM1{e:PySem.Expr}{q:UnaryOp×PySem.Expr×Pos}(h:asO e=some q):e=.UnaryOp q.1 q.2.1 q.2.2:=(aH1 h).elim fun c k=>PySem.Expr.UnaryOp.elim (motive_1:=fun e=>∀ c,PySem.Expr.UnaryOp.elim (motive_1:=fun _=>UnaryOp×PySem.Expr×Pos) e c (fun a b c=>(a,b,c))=q→e=.UnaryOp q.1 q.2.1 q.2.2) e c (fun a b c _ k=>congrArg (fun q:UnaryOp×PySem.Expr×Pos=>PySem.Expr.UnaryOp q.1 q.2.1 q.2.2) k) c k
noncomputable def asB(e:PySem.Expr):Option (BoolOp×List PySem.Expr×Pos):=if h:e.ctorIdx=0 then some (PySem.Expr.BoolOp.elim (motive_1:=fun _=>BoolOp×List PySem.Expr×Pos) e h fun a b c=>(a,b,c)) else none
theorem bM6{e:PySem.Expr}{q:BoolOp×List PySem.Expr×Pos}(h:asB e=some q):e=.BoolOp q.1 q.2.1 q.2.2:=(aH1 h).elim fun c k=>PySem.Expr.BoolOp.elim (motive_1:=fun e=>∀ c,PySem.Expr.BoolOp.elim (motive_1:=fun _=>BoolOp×List PySem.Expr×Pos) e c (fun a b c=>(a,b,c))=q→e=.BoolOp q.1 q.2.1 q.2.2) e c (fun a b c _ k=>congrArg (fun q:BoolOp×List PySem.Expr×Pos=>PySem.Expr.BoolOp q.1 q.2.1 q.2.2) k) c k
noncomputable def asS(e:PySem.Const):Option (Str):=if h:e.ctorIdx=5 then some (PySem.Const.str.elim (motive:=fun _=>Str) e h fun a=>(a)) else none
theorem bDr{e:PySem.Const}{q:Str}(h:asS e=some q):e=.str q:=(aH1 h).elim fun c k=>PySem.Const.str.elim (motive:=fun e=>∀ c,PySem.Const.str.elim (motive:=fun _=>Str) e c (fun a=>(a))=q→e=.str q) e c (fun a _ k=>congrArg (fun q:Str=>PySem.Const.str q) k) c k
noncomputable def asI(e:PySem.Const):Option (Int):=if h:e.ctorIdx=2 then some (PySem.Const.int.elim (motive:=fun _=>Int) e h fun a=>(a)) else none
theorem bM3{e:PySem.Const}{q:Int}(h:asI e=some q):e=.int q:=(aH1 h).elim fun c k=>PySem.Const.int.elim (motive:=fun e=>∀ c,PySem.Const.int.elim (motive:=fun _=>Int) e c (fun a=>(a))=q→e=.int q) e c (fun a _ k=>congrArg (fun q:Int=>PySem.Const.int q) k) c k
noncomputable def aS5:SV→Bool
 | .k v=>handedIn v
 | .u=>false
 |_=>true
theorem aMz{ads:List Addr}{y:SV}{v:Value}(d:Den ads y v)(h:aS5 y=true):handedIn v=true:=by
 cases y with
 |k x=>cases d;exact h
 |a i=>obtain⟨_,_,rfl⟩:=d;rfl
 |z n=>obtain⟨_,rfl⟩:=d;rfl
 |i n=>obtain⟨_,rfl⟩:=d;rfl
 |b n=>cases d;rfl
 |s n=>obtain⟨_,rfl⟩:=d;rfl
 |t=>obtain⟨_,_,rfl⟩:=d;rfl
 |u=>cases h
section
variable {V:Vw} {X:Ctx V}
theorem aIf{ads:List Addr}{name:Str}{es:List (Str×SV)}{l:List DictEntry}(h:All2 (NsE X ads) es l):l.any (·.refKey)=false∧l.any (·.key.isStr name)=(aD6 name es).isSome∧match aD6 name es with
  |none=>l.find? (·.key.isStr name)=none
  |some y=>∃ e,l.find? (·.key.isStr name)=some e∧Den ads y e.val:=by
 induction h with
 |nil=>exact⟨rfl,rfl,rfl⟩
 | @cons a b es l r _ ih =>
  obtain⟨x,y⟩:=a
  refine aGf r fun t v d r1_3=>?_
  subst r1_3
  refine aIv ih fun i1 i2 i3=>?_
  rw[aAs]
  dsimp only
  refine⟨i1,?_⟩
  by_cases e:x=name
  ·have k:(x==name)=true:=beq_iff_eq.mpr e
   rw[if_pos e]
   exact⟨by rw[List.any_cons,show (Value.str x t).isStr name=true from k];rfl,_,List.find?_cons_of_pos k,d⟩
  ·have k:(x==name)=false:=beq_eq_false_iff_ne.mpr e
   rw[if_neg e]
   refine⟨by rw[List.any_cons,show (Value.str x t).isStr name=false from k];exact i2,?_⟩
   rw[List.find?_cons_of_neg (by show ¬ (x==name)=true;rw[k];decide)]
   exact i3
theorem aHl{ads:List Addr}{name:Str}{es:List (Str×SV)}{l:List DictEntry}(h:All2 (NsE X ads) es l){y:SV}(e:aD6 name es=some y):∃ v,getL name l=some (some v)∧Den ads y v:=by
 refine aIv (aIf (name:=name) h) fun _ _ i=>?_
 rw[e] at i
 refine aAd i fun z h1 h2=>?_
 exact⟨z.val,by unfold getL;rw[h1],h2⟩
theorem aEn{ads:List Addr}{name:Str}{es:List (Str×SV)}{l:List DictEntry}(h:All2 (NsE X ads) es l)(e:aD6 name es=none):getL name l=some none:=by
 refine aIv (aIf (name:=name) h) fun i0 _ i=>?_
 rw[e] at i
 unfold getL;rw[show l.find? (·.key.isStr name)=none from i];dsimp only;rw[i0];rfl
end
noncomputable def bKd(σ:St)(d:Nat)(name:Str)(ok:Bool)(r:Option (Option Value)):Option SV:=(gN σ.led d).bind fun o=>match o with
 | .ns es _=>(aD6 name es).bind fun y=>r.bind fun q=>bif ok&&aS5 y&&q.isNone then some y else none
 |_=>none
noncomputable def aYg(V:Vw)(x:Addr)(name:Str):Option SV:=match V.cv x name with
 |some a=>some (aGr a)
 |none=>(V.iv x name).map aGr
noncomputable def aYf(V:Vw)(o:SV)(name:Str)(σ:St):Option SV:=match o with
 | .a i=>(gN σ.led i).bind fun so=>(match so with
  | .inst C d=>bKd σ d name (V.pg C) (V.fin C name)
  | .ex C d _=>bKd σ d name (V.px C) (V.fin C name)
  |_=>none)
 | .k v=>(match v with
  | .ref x=>aYg V x name
  |_=>none)
 |_=>none
noncomputable def aYh(V:Vw)(o:SV)(name:Str)(σ:St):Out SV:=onO (aYf V o name σ) (.p σ)
noncomputable def pick(x:Int)(ns:List Int):Int:=ns.getD x.toNat 0
noncomputable def bN5(tup:Bool)(vs:List SV)(i:SV)(σ:St):Out SV:=match i with
 | .z x=>ifT (bt 0 x 99999) (onO (gN vs x.toNat) (.p σ))
 | .i x=>ifT (!tup&&Nat.ble vs.length 1000) (match σ.orc with
  |k::r=>(match k with
   | 0=>onO (nums vs) fun q=>.g (0≤x∧x<vs.length) (.p ⟨σ.m,σ.led,r⟩ (.i (pick x q.1)))
   |k+1=>onO (gN vs k) fun y=>.g (x=k) (.p ⟨σ.m,σ.led,r⟩ y))
  | []=>.f)
 |_=>.f
noncomputable def bD6(V:Vw)(a:Addr)(i:SV)(σ:St):Out SV:=match i with
 | .z x=>(match aCh V.O a x with
  |some r=>onO r fun v=>.p σ (aGr v)
  |none=>onO (V.tp a) fun l=>ifT (bt 0 x 99999) (onO (gN l x.toNat) fun v=>.p σ (aGr v)))
 |i=>onS i fun y=>ifT (!(a==mainGlobals)) (onO (V.ns a y) fun r=>onO r fun v=>.p σ (aGr v))
noncomputable def bCw(V:Vw)(o i:SV)(σ:St):Out SV:=match o with
 | .a j=>onO (gN σ.led j) fun so=>(match so with
  | .seq tup vs _=>bN5 tup vs i σ
  | .di kvs=>onZ i fun x=>onO (aCw x kvs) (.p σ)
  |_=>.f)
 |o=>onK o fun a=>bD6 V a i σ
noncomputable def aC1(e:PySem.Expr):Bool:=!Nat.beq e.ctorIdx 26
theorem aBt{sl:PySem.Expr}{o i:Value}(h:aC1 sl=true):subscripted sl false o i=operate [o,i] (getItem o i):=by
 cases sl<;>first|rfl|cases h
theorem aZy{x:Int}{n:Nat}(h0:0≤x)(h:x.toNat<n):seqIndex? x n=some x.toNat:=by
 show (if (decide (0≤(if x<0 then x+(n:Int) else x))&&decide ((if x<0 then x+(n:Int) else x)<(n:Int)))=true then some ((if x<0 then x+(n:Int) else x)).toNat else none)=_
 rw[if_neg (show ¬ x<0 by lia),if_pos]
 rw[Bool.and_eq_true,decide_eq_true_eq,decide_eq_true_eq]
 lia
theorem ints_get{vs:List Value}{ns:List Int}(h:IntsAre vs ns):∀ k<vs.length,∃ t,vs[k]?=some (.int (ns.getD k 0) t):=by
 induction h with
 |nil=>exact fun k h=>absurd h (Nat.not_lt_zero _)
 |cons n t r ih =>
  intro k h
  cases k with
  |zero=>exact⟨t,rfl⟩
  |succ k=>exact ih k (Nat.lt_of_succ_lt_succ h)
section
variable {V:Vw} {G:Gd V} {W:Wd} {σ:St} {Q:Value→Shared→Prop}
theorem aS7{d:Nat}{dx:Addr}{name:Str}{ok:Bool}{r:Option (Option Value)}{y:SV}(S:Sat G W σ)(hdx:gN W.ads d=some dx)(h:bKd σ d name ok r=some y):∃ n l v,(dx,dictOf l n)∈W.l∧getL name l=some (some v)∧Den W.ads y v∧ok=true∧handedIn v=true∧r=some none:=by
 refine aAd (Option.bind_eq_some_iff.mp h) fun so h1 h=>?_
 refine aDp (S.slot h1 hdx) fun o h2 h3 d=>?_
 cases so with
 |ns es n =>
  refine aAd d fun l al r8_2=>?_
  subst r8_2
  refine aAd (Option.bind_eq_some_iff.mp h) fun z h4 h=>?_
  refine aAd (Option.bind_eq_some_iff.mp h) fun q r10_1 h=>?_
  subst r10_1
  refine aBa (aGl h) fun hc e=>?_
  cases e
  refine aAd (aHl al h4) fun v k1 k2=>?_
  exact⟨n,l,v,h3,k1,k2,(aAc (aAc hc).1).1,aMz k2 (aAc (aAc hc).1).2,congrArg some (Option.isNone_iff_eq_none.mp (aAc hc).2)⟩
 |_=>exact nn h
theorem aKh{o y:SV}{v:Value}{name:Str}{expr:Bool}(S:Sat G W σ)(d:Den W.ads o v)(h:aYf V o name σ=some y)(hq:∀ t u,Den W.ads y u→Q u (G.st (W.tok t))):G.wp (getAttr v name expr) Q (G.st W):=by
 cases o with
 |a i =>
  refine aAd d fun x hx r13_2=>?_
  subst r13_2
  refine aAd (Option.bind_eq_some_iff.mp h) fun so h1 h=>?_
  refine aDp (S.slot h1 hx) fun o h2 hm d=>?_
  cases so with
  |inst C dd =>
   refine aAd d fun dx hdx r16_2=>?_
   subst r16_2
   refine bFz (aS7 S hdx h) fun n l u hm2 k1 k2 k3 k4 k5=>?_
   exact get_own S.F S.ok.K (InstAt.of_news S.N hm hm2) (G.X.vo.pg k3 name).1 (G.X.vo.pg k3 name).2 (G.X.vo.fin k5) rfl k1 k4 (hq _ _ k2)
  |ex C dd ctx =>
   refine bL4 d fun dx vs a0 hdx r18_4 _ _=>?_
   subst r18_4
   refine bFz (aS7 S hdx h) fun n l u hm2 k1 k2 k3 k4 k5=>?_
   have k:=G.X.vo.px k3
   exact bYp S.F S.ok.K S.N hm hm2 k.1 k.2.1 k.2.2.1 k.2.2.2 (G.X.vo.fin k5) rfl k1 k4 (hq _ _ k2)
  |_=>exact nn h
 |k w =>
  cases d
  cases v with
  |ref x =>
   replace h:aYg V x name=some y:=h
   unfold aYg at h
   cases e:V.cv x name with
   |some a =>
    simp only[e] at h
    cases h
    exact (G.X.vo.cv e).elim fun mc q=>cls_val S.F S.ok.K q.1 q.2.2.1 q.2.1 q.2.2.2 (hq _ _ aBi)
   |none =>
    simp only[e] at h
    refine aAd (Option.map_eq_some_iff.mp h) fun a ha r20_2=>?_
    subst r20_2
    refine bL2 (G.X.vo.iv ha) fun C dx sl es k z_=>bF1 z_ fun h1 h2 h3 h4 h5 h6 h7=>?_
    exact get_own S.F S.ok.K (InstAt.of_K S.K h1 h2) h5 h6 h4 rfl h3 h7 (hq _ _ aBi)
  |_=>exact nn h
 |_=>exact nn h
theorem aKi{o:SV}{v:Value}{name:Str}{expr:Bool}(S:Sat G W σ)(d:Den W.ads o v)(h:Hd G W (aYh V o name σ) (PV G Q)):G.wp (getAttr v name expr) Q (G.st W) :=
 onO_e h fun y hy h=>aKh S d hy fun t u du=>h (W.tok t) (.refl _) (S.tok t) u du
theorem aUf{tup:Bool}{vs:List SV}{l:List Value}{n:Nat}{i:SV}{vi:Value}{x:Addr}{value slice:PySem.Expr}(hsl:aC1 slice=true)(S:Sat G W σ)(hm:(x,bD9 tup l n)∈W.l)(al:Dens W.ads vs l)(di:Den W.ads i vi)(h:Hd G W (bN5 tup vs i σ) (PV G Q)):G.wp (subscriptTail value slice (.ref x) vi) Q (G.st W):=by
 cases i with
 |z k =>
  obtain⟨t,rfl⟩:=di
  refine ifT_e h fun q h=>onO_e h fun y hy hz=>(al.get hy).elim fun v z=>?_
  have z1:=aCs.symm.trans z.1
  have hk:k.toNat<l.length:=(List.getElem?_eq_some_iff.mp z1).1
  have b:=aGj q
  cases tup with
  |true=>exact item_tupleT (News.isTup S.N hm) (by lia) (by lia) (aZy b.1 hk) (by simpa using z1) (aDg S hz z.2) (aBt hsl)
  |false=>exact tail_any (News.isList S.N hm).typeIs slot_list_getitem.lookup (wpAny_getItem_list (News.isList S.N hm) b.1 (by lia) (by simpa using z1) (aDg S hz z.2)) (aBt hsl)
 |i k =>
  obtain⟨t,rfl⟩:=di
  refine ifT_e h fun q hz=>?_
  cases aBu (aAc q).1
  have hb:=Nat.le_of_ble_eq_true (aAc q).2
  have len:=al.len
  have go:∀ {u:Value},0≤k→k<vs.length→l[k.toNat]?=some u→Q u (G.st W)→G.wp (subscriptTail value slice (.ref x) (.int k t)) Q (G.st W):=fun h0 h1 e g =>
   tail_any (News.isList S.N hm).typeIs slot_list_getitem.lookup (wpAny_getItem_list (News.isList S.N hm) h0 (by lia) (by simpa using e) g) (aBt hsl)
  cases e:σ.orc with
  |nil=>rw[e] at hz;exact hz.elim
  |cons o r =>
   rw[e] at hz
   cases o with
   |zero=>exact onO_e hz fun p hp h=>(ints_get (aF7 hp al) k.toNat (by have:=h.1;lia)).elim fun t' e=>go h.1.1 h.1.2 e (h.2 W (.refl _) (S.orc r) _ ⟨t',rfl⟩)
   |succ o=>exact onO_e hz fun y hy h=>(al.get hy).elim fun v z=>go (by have:=h.1;lia) (by have:=h.1;have:=aBl hy;lia) (by rw[h.1];exact aCs.symm.trans z.1) (h.2 W (.refl _) (S.orc r) v z.2)
 |_=>exact h.elim
theorem aUg{a:Addr}{i:SV}{vi:Value}{value slice:PySem.Expr}(hsl:aC1 slice=true)(S:Sat G W σ)(di:Den W.ads i vi)(h:Hd G W (bD6 V a i σ) (PV G Q)):G.wp (subscriptTail value slice (.ref a) vi) Q (G.st W):=by
 cases i with
 |z x =>
  refine aA6 di fun t r24_1=>?_
  subst r24_1
  unfold bD6 at h
  cases e:aCh V.O a x with
  |some r =>
   simp only[e] at h
   exact onO_e h fun v hv h=>bLp S.F S.ok.K (by rw[aC3 G.X.vo.O e,hv]) (fun tk=>aDf S h tk aBi) (aBt hsl)
  |none =>
   simp only[e] at h
   refine onO_e h fun l hl h=>ifT_e h fun q h=>onO_e h fun v hv h=>(G.X.vo.tp hl).elim fun sl z=>?_
   have z1:=aCs.symm.trans hv
   have hk:x.toNat<l.length:=(List.getElem?_eq_some_iff.mp z1).1
   have b:=aGj q
   exact topTup_K S.F S.ok.K z (by lia) (by lia) (aZy b.1 hk) z1 (aDg S h aBi) (aBt hsl)
 |s y =>
  refine aA6 di fun t r25_1=>?_
  subst r25_1
  exact ifT_e h fun q h=>onO_e h fun r hr h=>onO_e h fun v hv h=>((G.X.vo.ns hr).2.resolve_left (ne_of_beq_false (aBu q))).2.elim fun es z=>z.elim fun n z=>topItem_K S.F S.ok.K z.1 z.2 (by rw[(G.X.vo.ns hr).1,hv]) (aDf S h _ aBi) (aBt hsl)
 |_=>exact h.elim
theorem aRj{o i:SV}{vo vi:Value}{value slice:PySem.Expr}(hsl:aC1 slice=true)(S:Sat G W σ)(d:Den W.ads o vo)(di:Den W.ads i vi)(h:Hd G W (bCw V o i σ) (PV G Q)):G.wp (subscriptTail value slice vo vi) Q (G.st W):=by
 cases o with
 |a j =>
  refine aAd d fun x hx r26_2=>?_
  subst r26_2
  refine aG5 h S hx fun so o ho hm d h=>?_
  cases so with
  |seq tup vs n=>obtain⟨l,al,rfl⟩:=d;exact aUf hsl S hm al di h
  |di kvs =>
   refine aAd d fun l al hdo=>?_
   refine aM2 h di fun z t qe h=>qe▸onO_e h fun y hy h=>?_
   have g:=aKf (k:=z) al
   rw[hy] at g
   exact g.elim fun v q=>kdt_tail (knd:=intKind G.X.prog G.X.w) S.N hm hdo (kdt_getItem (knd:=intKind G.X.prog G.X.w) S.N hm hdo (intKind_is _ _ _ _) q.1 (aDf S h _ q.2)) (aBt hsl)
  |_=>exact h.elim
 |k v=>exact (show Hd G W (onK (.k v) fun a=>bD6 V a i σ) (PV G Q)→_ from fun h=>aM5 h d fun a qe h=>qe▸aUg hsl S di h) h
 |_=>exact h.elim
end
noncomputable def aHb(x y:Int):Int:=if y<x then y else x
section
variable {V:Vw} {G:Gd V} {W:Wd} {σ:St} {Q:Value→Shared→Prop} {α:Type} {Φ:Wd→St→α→Prop} {P:Prop}
theorem bXq{l:List SV}{k:SV→SV→Out α}{vs:List Value}(h:Hd G W (match l with | [a,b]=>k a b|_=>.f) Φ)(a:Dens W.ads l vs)(g:∀ x y v u,l=[x,y]→vs=[v,u]→Den W.ads x v→Den W.ads y u→Hd G W (k x y) Φ→P):P:=by
 cases a with
 |nil=>exact h.elim
 |cons d1 a=>cases a with
  |nil=>exact h.elim
  |cons d2 a=>cases a with
   |nil=>exact g _ _ _ _ rfl rfl d1 d2 h
   |cons _ _=>exact h.elim
end
noncomputable def on2{α:Type}(l:List SV)(k:SV→SV→Out α):Out α:=match l with
 | [a,b]=>k a b
 |_=>.f
noncomputable def on1{α:Type}(l:List SV)(k:SV→Out α):Out α:=match l with
 | [a]=>k a
 |_=>.f
noncomputable def bP7(cf:Cf)(id:String)(vs:List SV)(σ:St):Out SV:=ifT (id=="min"&&cf.hd.isNone) (on2 vs fun a b=>onN a fun x lx=>onN b fun y ly=>match σ.orc with
 |k::r=>(match k with
  | 0=>.p ⟨σ.m,σ.led,r⟩ (mkI (lx&&ly) (aHb x y))
  |k+1=>.g (aHb x y=k) (.p ⟨σ.m,σ.led,r⟩ (.z k)))
 | []=>.f)
noncomputable def aOz(a b:List (Int×SV)):List (Int×SV):=b.foldl (fun acc p=>bif (aCw p.1 acc).isSome then acc.map (fun q=>if q.1=p.1 then (q.1,p.2) else q) else acc++[p]) a
noncomputable def bCu(i:Nat)(vs:List SV)(σ:St):Out SV:=on1 vs fun y=>onA y fun j=>bBk σ i fun a=>bBk σ j fun b=>ifT (Nat.ble (a.length+b.length) 1000&&!(Nat.beq i j)) (.p (σ.put i (.di (aOz a b))) (.k .none))
noncomputable def boolOf:SV→Option (Bool×Bool)
 | .b c=>some (c,false)
 | .k v=>(match v with
  | .bool c=>some (c,true)
  |_=>none)
 |_=>none
noncomputable def bP1(id:String)(vs:List SV)(σ:St):Out SV:=ifT (id=="int") (on1 vs fun y=>onO (boolOf y) fun c=>.p σ (mkI c.2 (bif c.1 then 1 else 0)))
noncomputable def bFv{α:Type}(σ:St)(i:Nat)(k:Nat→List (Int×SV)→List (Int×Option SV)→Option Nat→Out α):Out α:=match gN σ.led i with
 |some (.dv j n puts facts)=>k n puts facts j
 |_=>.f
noncomputable def bC0(i:Nat)(vs:List SV)(σ:St):Out SV:=bFv σ i fun _ _ facts _=>match facts with
 |p::_=>(match vs with
  |a::r=>onN a fun x _=>.g (x=p.1) (match r with
   | []=>.p σ (p.2.getD (.k .none))
   |d::r=>ifT r.isEmpty (.p σ (p.2.getD d)))
  | []=>.f)
 | []=>.f
noncomputable def bCx(i:Nat)(vs:List SV)(σ:St):Out SV:=bFv σ i fun n puts _ _=>on2 vs fun a _=>onN a fun _ _=>.g (n+puts.length≤1000) (.p (σ.put i (.dv none (n+puts.length) [] [])) .u)
noncomputable def bP4(V:Vw)(a:Addr)(vs:List SV)(σ:St):Out SV:=on1 vs fun y=>onZ y fun x=>ifT (!(a==sysModules)) (onO (aCh V.O a x) fun r=>.p σ (aGr (r.getD .none)))
noncomputable def bP0(V:Vw)(vs:List SV)(σ:St):Out SV:=on2 vs fun a _=>onA a fun i=>onO (gN σ.led i) fun so=>match so with
 | .xr C=>ifT (V.ve C) (.p (σ.new .any) (.k .none))
 |_=>.f
noncomputable def bDa(n:Nat)(σ':St)(y:SV):Out SV:=ifT ((aIl y).getD false) (.p σ' (.a n))
noncomputable def aXl(V:Vw)(r:Rec)(cf:Cf)(C:Addr)(args:List SV)(σ:St):Out SV:=match cf.lv with
 | 0=>.f
 |lv+1=>onO (V.mkc C) fun fI=>bd (r.fn ⟨cf.cs,cf.hd,lv,false⟩ fI (.a (σ.led.length+1)::args) ((σ.new (.ns [] 0)).new (.inst C σ.led.length))) (bDa (σ.led.length+1))
noncomputable def bLx(V:Vw)(r:Rec)(cf:Cf)(C:Addr)(args:List SV)(σ:St):Out SV:=match cf.lv with
 | 0=>.f
 |lv+1=>ifT (Nat.ble args.length 10) (onO (V.mkx C) fun fI=>bd (r.fn ⟨cf.cs,cf.hd,lv,false⟩ fI (.a (σ.led.length+1)::args) ((σ.new .any).new (.xr C))) (bDa (σ.led.length+1)))
noncomputable def aX4(V:Vw)(r:Rec)(cf:Cf)(a:Addr)(vs:List SV)(σ:St):Out SV:=match V.pf a||V.hf a with
 |true=>r.fn cf a vs σ
 |false=>aXl V r cf a vs σ
section
variable {V:Vw} {G:Gd V} {W:Wd} {σ:St} {Q:Value→Shared→Prop} {α:Type} {Φ:Wd→St→α→Prop} {P:Prop} {r:Rec}
theorem aV5{l:List SV}{k:SV→Out α}{vs:List Value}{C:List Value→Prop}(h:Hd G W (on1 l k) Φ)(a:Dens W.ads l vs)(g:∀ x v,Den W.ads x v→Hd G W (k x) Φ→C [v]):C vs:=by
 cases a with
 |nil=>exact h.elim
 |cons d1 a=>cases a with
  |nil=>exact g _ _ d1 h
  |cons _ _=>exact h.elim
theorem aV4{l:List SV}{k:SV→SV→Out α}{vs:List Value}{C:List Value→Prop}(h:Hd G W (on2 l k) Φ)(a:Dens W.ads l vs)(g:∀ x y v u,Den W.ads x v→Den W.ads y u→Hd G W (k x y) Φ→C [v,u]):C vs:=by
 cases a with
 |nil=>exact h.elim
 |cons d1 a=>cases a with
  |nil=>exact h.elim
  |cons d2 a=>cases a with
   |nil=>exact g _ _ _ _ d1 d2 h
   |cons _ _=>exact h.elim
theorem aTa{i:Nat}{a:Addr}{k:Nat→List (Int×SV)→List (Int×Option SV)→Option Nat→Out α}(h:Hd G W (bFv σ i k) Φ)(S:Sat G W σ)(ha:gN W.ads i=some a)
  (g:∀ n puts facts j o l0 l,gN W.objs i=some o→(a,o)∈W.l→(∀ i,j=some i→l0=G.X.β.d i)→l0.length≤n→PutR W.ads l0 puts l→(∀ f∈facts,FactR W.ads l f)→bGe G.X o l→Hd G W (k n puts facts j) Φ→P):P:=by
 unfold bFv at h
 cases e:gN σ.led i with
 |none=>rw[e] at h;exact h.elim
 |some so =>
  rw[e] at h
  cases so with
  |dv j n ps fs=>obtain⟨o,h1,h2,l0,l,q1,q2,q3,q4,q5⟩:=S.slot e ha;exact g n ps fs j o l0 l h1 h2 q1 q2 q3 q4 q5 h
  |_=>exact h.elim
theorem bB3{x y:Int}:(y<x∧y=aHb x y)∨(x≤y∧x=aHb x y):=by
 unfold aHb
 by_cases q:y<x
 ·rw[if_pos q];exact .inl ⟨q,rfl⟩
 ·rw[if_neg q];exact .inr ⟨by lia,rfl⟩
theorem aXo{id:String}{vs:List SV}{ws:List Value}(S:Sat G W σ)(a:Dens W.ads vs ws)(h:Hd G W (bP7 G.cf id vs σ) (PV G Q)):G.wp (call (.builtin id) ws) Q (G.st W):=by
 refine ifT_e h fun q hz=>?_
 cases beq_iff_eq.mp (aAc q).1
 have hh:=S.hd
 rw[Option.isNone_iff_eq_none.mp (aAc q).2] at hh
 refine aV4 (C:=fun ws=>G.wp (call (.builtin "min") ws) Q (G.st W)) hz a fun a b va vb da db h=>aEh h da fun x lx t qe h=>qe▸aEh h db fun y ly u qe h=>qe▸?_
 refine bB2 S.F S.N hh (bB3 (x:=x) (y:=y)) fun h' t tk F' N'=>?_
 cases e:σ.orc with
 |nil=>rw[e] at h;exact h.elim
 |cons k r =>
  rw[e] at h
  cases k with
  |zero=>exact h (W.hp W.m h' tk) (.refl _) (S.hp tk F' S.M N' r) _ aEw
  |succ k=>exact h.2 (W.hp W.m h' tk) (.refl _) (S.hp tk F' S.M N' r) _ ⟨t,by rw[h.1]⟩
theorem aXf{id:String}{vs:List SV}{ws:List Value}(S:Sat G W σ)(a:Dens W.ads vs ws)(h:Hd G W (bP1 id vs σ) (PV G Q)):G.wp (call (.type id) ws) Q (G.st W):=by
 refine ifT_e h fun q hz=>?_
 cases beq_iff_eq.mp q
 refine aV5 (C:=fun ws=>G.wp (call (.type "int") ws) Q (G.st W)) hz a fun y v d h=>onO_e h fun c hc hy=>?_
 have hv:v=.bool c.1:=by
  cases y with
  |b c=>cases hc;exact d
  |k w=>cases w with
   |bool c=>cases hc;exact d
   |_=>exact nn hc
  |_=>exact nn hc
 subst hv
 refine call_int_bool (aDf S hy _ ?_)
 cases c.1<;>exact aEw
theorem aHv{ads:List Addr}{k:Int}{kvs:List (Int×SV)}{l:List (Int×Value)}(h:All2 (DiE ads) kvs l):(l.any fun kv=>decide (kv.1=k))=(aCw k kvs).isSome:=by
 induction h with
 |nil=>rfl
 | @cons p q r m d _ ih =>
  rw[List.any_cons,ih,d.1]
  rw[show aCw k (p::r)=if p.1=k then some p.2 else aCw k r from rfl]
  by_cases e:p.1=k
  ·rw[if_pos e,decide_eq_true e];rfl
  ·rw[if_neg e,decide_eq_false e];rfl
theorem aR6{ads:List Addr}{a:List (Int×SV)}{la:List (Int×Value)}{p:Int×SV}{q:Int×Value}(r:DiE ads p q)(ha:All2 (DiE ads) a la):All2 (DiE ads) (bif (aCw p.1 a).isSome then a.map (fun q=>if q.1=p.1 then (q.1,p.2) else q) else a++[p]) (stored la q.1 q.2):=by
 unfold stored
 rw[show (la.any fun kv=>decide (kv.1=q.1))=(aCw p.1 a).isSome from r.1▸aHv ha]
 cases (aCw p.1 a).isSome with
 |true =>
  refine ha.map2 fun x y e=>?_
  rw[e.1,r.1]
  split
  ·exact⟨rfl,r.2⟩
  ·exact e
 |false=>exact ha.snoc ⟨r.1,r.2⟩
theorem aIw{ads:List Addr}{b:List (Int×SV)}{lb:List (Int×Value)}{a:List (Int×SV)}{la:List (Int×Value)}(h:All2 (DiE ads) b lb)(ha:All2 (DiE ads) a la):All2 (DiE ads) (aOz a b) (PySem.merged la lb):=by
 induction h generalizing a la with
 |nil=>exact ha
 |cons r _ ih=>exact ih (aR6 r ha)
theorem bSb{d o₂:Addr}{o:Obj}{kvs more:List (Int×Value)}{news:List (Addr×Obj)}{g:Obj→List (Addr×Obj)}{o2:Obj}{prog:Program}{w:World}{A:Around}{E:Value→Shared→Prop}{s:Shared}{h₀:Heap}{L:Addr}{m:Str→Option Value}{Q:Value→Shared→Prop}
  (F:Fr h₀ L s.heap m) (N:News h₀ L s.heap news) (U:UpdF d o news g) (hd:o.IsDictOf (intKind prog w) kvs) (h2:(o₂,o2)∈news) (hd2:o2.IsDictOf (intKind prog w) more) (hne:d≠o₂) (lo:(o₂==sysModules)=false) (hsz:kvs.length+more.length≤sizeLine)
  (h:∀ h' o',Fr h₀ L h' m→News h₀ L h' (g o')→o'.IsDictOf (intKind prog w) (PySem.merged kvs more)→Q .none { s with heap:=h' }):wpAny (model prog w) A (call (.builtin "dict.update") [.ref d,.ref o₂]) Q E s:=by
 refine bF0 U.split fun pre post r0_2 hg a b=>?_
 subst r0_2
 have hm:=N (d,o) (List.mem_append_right _ (.head _))
 have hD:s.heap.DictOf (intKind prog w) d kvs:=Heap.dictOf_iff.mpr ⟨o,hm.1,hd⟩
 refine call_meetsIn PySem.F.slot_dict_update hD.typeIs PySem.F.entry_dict_update (PySem.F.args_dict_update_2 _ _) (meets_dict_update (intKind prog w) d o₂ hne lo)
  ⟨kvs,more,hD,Heap.dictOf_iff.mpr ⟨o2,(N _ h2).1,hd2⟩,hsz,fun h' hmm _ hs=>?_⟩
 refine aAd (Heap.dictOf_iff.mp hmm) fun o' ho' hd'=>?_
 exact h h' o' (F.change hs hm.2.1 hm.2.2) (hg o'▸N.setIn a b hs ho') hd'
theorem aRh{i:Nat}{x:Addr}{vs:List SV}{ws:List Value}(S:Sat G W σ)(hx:gN W.ads i=some x)(a:Dens W.ads vs ws)(h:Hd G W (bCu i vs σ) (PV G Q)):G.wp (call (.builtin "dict.update") (.ref x::ws)) Q (G.st W) :=
 aV5 (C:=fun ws=>G.wp (call (.builtin "dict.update") (.ref x::ws)) Q (G.st W)) h a fun y v d h=>aDq h d fun j z hz qe h=>qe▸aM7 h S hx fun a o1 l1 q1 _ al1 hd1 h=>aM7 h S hz fun b o2 l2 _ p2 al2 hd2 h=>ifT_e h fun q h =>
  bSb S.F S.N (S.upd hx q1) hd1 p2 hd2 (fun e=>Nat.ne_of_beq_eq_false (aBu (aAc q).2) (aC7 S.nd hx (e▸hz))) (S.low hz) (by have:=Nat.le_of_ble_eq_true (aAc q).1;rw[al1.len,al2.len] at this;rw[sizeLine_eq];lia)
   fun h' o' F' N' hd'=>h (W.put i o' h' W.t) (.refl _) (S.put _ F' N' ⟨_,aIw al2 al1,hd'⟩) _ rfl
theorem aDz{ads:List Addr}{l0 l:List (Int×Value)}{ps:List (Int×SV)}{n:Nat}(h:PutR ads l0 ps l)(hl:l0.length≤n):l.length≤n+ps.length:=by
 induction h with
 |nil=>exact hl
 | @cons k x r l v _ _ ih=>have:=aFd (kvs:=l) (k:=k) (v:=v);simp only[List.length_cons];lia
theorem aRm{i:Nat}{x:Addr}{vs:List SV}{ws:List Value}(S:Sat G W σ)(hx:gN W.ads i=some x)(a:Dens W.ads vs ws)(h:Hd G W (bC0 i vs σ) (PV G Q)):G.wp (call (.builtin "dict.get") (.ref x::ws)) Q (G.st W) :=
 aTa h S hx fun n puts facts j o l0 l _ hm _ _ _ hf hdo h=>by
  cases facts with
  |nil=>exact h.elim
  |cons p fs =>
   obtain⟨k,f⟩:=p
   have hk:=hf _ (.head _)
   cases a with
   |nil=>exact h.elim
   |cons d a =>
    refine aEh h d fun z lz t qe h=>qe▸?_
    obtain⟨rfl,h⟩:=h
    cases a with
    |nil=>cases f with
     |none=>exact bCk S.N hm hdo (S.low hx) hk rfl fun tk=>aDf S h tk rfl
     |some y=>exact hk.elim fun u q=>bCk S.N hm hdo (S.low hx) q.1 rfl fun tk=>aDf S h tk q.2
    |cons d' a =>
     refine ifT_e h fun e h=>?_
     cases a with
     |nil=>cases f with
      |none=>exact kdg_get2 (knd:=intKind G.X.prog G.X.w) S.N hm hdo (S.low hx) (intKind_is _ _ _ _) none hk (aDf S h _ d')
      |some y=>exact hk.elim fun u q=>kdg_get2 (knd:=intKind G.X.prog G.X.w) S.N hm hdo (S.low hx) (intKind_is _ _ _ _) (some u) q.1 (aDf S h _ q.2)
     |cons _ _=>cases e
theorem aRk{i:Nat}{x:Addr}{vs:List SV}{ws:List Value}(S:Sat G W σ)(hx:gN W.ads i=some x)(a:Dens W.ads vs ws)(h:Hd G W (bCx i vs σ) (PV G Q)):G.wp (call (.builtin "dict.pop") (.ref x::ws)) Q (G.st W) :=
 aTa h S hx fun n puts facts j o l0 l hi hm _ hl0 hp _ hdo h=>aV4 (C:=fun ws=>G.wp (call (.builtin "dict.pop") (.ref x::ws)) Q (G.st W)) h a fun a b va vb da db h=>aEh h da fun z lz t qe h=>qe ▸
  have hlen:=aDz hp hl0
  bXp S.F S.N (S.upd hx hi) hdo (S.low hx) (by have:=h.1;lia) fun v h' o' kvs' tk F' N' hd' hl'=>h.2 (W.put i o' h' tk) (.refl _) (S.put tk F' N' ⟨kvs',kvs',(fun _ q=>nomatch q),by lia,.nil,(fun _ q=>nomatch q),hd'⟩) v trivial
theorem aXi{a:Addr}{vs:List SV}{ws:List Value}(S:Sat G W σ)(d:Dens W.ads vs ws)(h:Hd G W (bP4 V a vs σ) (PV G Q)):G.wp (call (.builtin "dict.get") (.ref a::ws)) Q (G.st W) :=
 aV5 (C:=fun ws=>G.wp (call (.builtin "dict.get") (.ref a::ws)) Q (G.st W)) h d fun y v d h=>aM2 h d fun x t qe h=>qe▸ifT_e h fun q h=>onO_e h fun r hr h=>bMr S.F S.ok.K (aC3 G.X.vo.O hr) (aBu q) rfl fun tk=>aDf S h tk aBi
theorem aD0:∀ {ads:List Addr} {objs:List Obj} {i:Nat} {x:Addr} {o:Obj},ads.Nodup→gN ads i=some x→gN objs i=some o→∃ rest,Pick (x,o) (ads.zip objs) rest∧(∀ p∈rest,p.1≠x)∧∀ o' p,p∈ads.zip (stN objs i o')→p=(x,o')∨p∈rest
 | [],_,_,_,_,_,h,_=>by cases h
 |_::_,[],_,_,_,_,_,h=>by cases h
 |a::ads,q::objs,0,x,o,nd,h,h'=>by
  cases h;cases h'
  exact⟨_,.head,fun p hp e=>(List.nodup_cons.mp nd).1 (e▸(List.of_mem_zip hp).1),fun o' p hp=>List.mem_cons.mp hp⟩
 |a::ads,q::objs,i+1,x,o,nd,h,h'=>by
  refine aDp (aD0 (ads:=ads) (objs:=objs) (List.nodup_cons.mp nd).2 h h') fun rest h1 h2 h3=>?_
  refine⟨(a,q)::rest,.tail h1,fun p hp=>?_,fun o' p hp=>?_⟩
  ·rcases List.mem_cons.mp hp with rfl|hp
   ·intro e;exact (List.nodup_cons.mp nd).1 ((show a=x from e)▸aCb (l:=ads) h)
   ·exact h2 p hp
  ·rcases List.mem_cons.mp hp with rfl|hp
   ·exact .inr (.head _)
   ·exact (h3 o' p hp).imp id (.tail _)
theorem Sat.putNew(S:Sat G W σ){i:Nat}{x D:Addr}{o' oD:Obj}{so sD:SO}{h:Heap}{rest:List (Addr×Obj)}(t:Nat)(hr:∀ p,p∈W.ads.zip (stN W.objs i o')→p=(x,o')∨p∈rest)(F:Fr G.g G.L h W.m)(N:News G.g G.L h ((x,o')::(D,oD)::rest))(lt:∀ p∈W.l,p.1<D)(d:DenO G.X (W.ads++[D]) so o')(dD:DenO G.X (W.ads++[D]) sD oD) :
  Sat G ⟨W.ads++[D],stN W.objs i o'++[oD],W.m,h,t⟩ ⟨σ.m,stN σ.led i so++[sD],σ.orc⟩:=by
 have hl:W.ads.length=(stN W.objs i o').length:=S.len.trans aFy.symm
 refine⟨S.ok,F,S.M.mono (.snoc _ _),fun p hp=>?_,((S.O.mono fun _ _=>DenO.mono (.snoc _ _)).set d).snoc dD,by simp[hl],?_,S.hd.up (.snoc _ _),S.clUp (.snoc _ _)⟩
 ·replace hp:p∈(W.ads++[D]).zip (stN W.objs i o'++[oD]):=hp
  rw[aB0 hl] at hp
  rcases List.mem_append.mp hp with hp|hp
  ·rcases hr p hp with rfl|hp
   ·exact N _ (.head _)
   ·exact N p (.tail _ (.tail _ hp))
  ·rw[List.mem_singleton.mp hp];exact N _ (.tail _ (.head _))
 ·refine List.nodup_append.mpr ⟨S.nd,by simp,fun a ha b hb e=>?_⟩
  refine aA6 (aCj ha) fun i hi=>?_
  refine aA6 (aAl (l:=W.objs) (S.len▸aBl hi)) fun q hq=>?_
  rw[e,List.mem_singleton.mp hb] at hi
  exact Nat.lt_irrefl _ (lt _ (aBf hi hq))
theorem aXe{vs:List SV}{ws:List Value}(S:Sat G W σ)(a:Dens W.ads vs ws)(h:Hd G W (bP0 V vs σ) (PV G Q)):G.wp (call (.builtin "ValueError.__init__") ws) Q (G.st W) :=
 aV4 (C:=fun ws=>G.wp (call (.builtin "ValueError.__init__") ws) Q (G.st W)) h a fun a b va vb da db h=>aDq h da fun i x hx qe h=>qe▸onO_e h fun so e h=>by
  refine aDp (S.slot e hx) fun o ho hm d=>?_
  cases so with
  |xr C =>
   refine aA6 d fun t r8_1=>?_
   subst r8_1
   refine ifT_e h fun q h=>?_
   refine aDp (aD0 S.nd hx ho) fun rest h1 h2 h3=>?_
   refine bLn S.F S.ok.K S.N h1 h2 (G.X.vo.ve q).1 fun t' h' F' N' lt=>?_
   have S':=S.putNew (so:=.xr C) (sD:=.any) W.t (h3 _) F' N' lt ⟨t',rfl⟩ trivial
   have e2:stN σ.led i (.xr C)=σ.led:=by
    clear S' h h1 h2 h3
    have:∀ (l:List SO) (i:Nat),gN l i=some (.xr C)→stN l i (.xr C)=l:=fun l=>by
     induction l with
     |nil=>intro i _;rfl
     |cons a l ih=>intro i e;cases i with
      |zero=>cases e;rfl
      |succ i=>exact congrArg _ (ih i e)
    exact this _ _ e
   rw[e2] at S'
   exact h _ (.snoc _ _) S' _ rfl
  |_=>exact h.elim
theorem aEv(A:Around)(C:Addr)(l:List Value):(A.under (.builtin "type.__call__" ⟨.ref C::l,[]⟩)).depth=A.depth+1:=rfl
theorem aXz{n:Nat}{y:SV}{v:Value}{x:Addr}(S:Sat G W σ)(d:Den W.ads y v)(hx:gN W.ads n=some x)(h:Hd G W (bDa n σ y) (PV G Q)):v=.none∧Q (.ref x) (G.st W) :=
 ifT_e h fun q h=>by
  refine⟨?_,h W (.refl _) S _ ⟨x,hx,rfl⟩⟩
  cases e:aIl y with
  |none=>rw[e] at q;cases q
  |some b=>rw[e] at q;cases (show b=true from q);exact aFm e d
noncomputable abbrev Gd.cls(G:Gd V)(C:Addr)(vs:List Value)(lv:Nat)(E:Value→Shared→Prop):Gd V:={ G with A:=G.A.under (.builtin "type.__call__" ⟨.ref C::vs,[]⟩),cf:=⟨G.cf.cs,G.cf.hd,lv,false⟩,E:=E }
theorem Ok.cls(O:Ok G){lv:Nat}(e:G.cf.lv=lv+1)(C:Addr)(vs:List Value):Ok (G.cls C vs lv G.E):=by
 have dp:=O.dp
 have un:=O.un
 rw[e] at dp un
 exact⟨O.B,O.K,O.T,O.KB,O.TB,O.D,O.fr,O.hk,by show (G.A.under _).depth+lv<_;rw[aEv];lia,by show (G.A.under _).units+8*lv<_;rw[aD8];lia,O.tp,fun q=>nomatch q⟩
theorem Ok.up(O:Ok G){G':Gd V}{C:Addr}{vs:List Value}{lv:Nat}(O':Ok G')(eq:G'=(G.cls C vs lv G.E).at_ G'.g):Ok (G.at_ G'.g):=by
 rw[eq] at O'
 exact⟨O'.B,O'.K,O'.T,O.KB,O.TB,O'.D,O.fr,O.hk,O.dp,O.un,O.tp,O.own⟩
theorem aTx{C:Addr}{vs:List Value}{args:List SV}{fI x:Addr}{σ2:St}{W2:Wd}{n lv:Nat}(R:Snd V r)(hlv:G.cf.lv=lv+1)(S2:Sat G W2 σ2)(hx:gN W2.ads n=some x)(a:Dens W2.ads args vs)(h:Hd G W2 (bd (r.fn ⟨G.cf.cs,G.cf.hd,lv,false⟩ fI (.a n::args) σ2) (bDa n)) (PV G Q)) :
  codeAny G.M (G.A.under (.builtin "type.__call__" ⟨.ref C::vs,[]⟩)) (.call (.ref fI) ⟨.ref x::vs,[]⟩) (fun r s'=>match r with | .ok (.ret v)=>v=.none∧Q (.ref x) s' | .ok _=>False | .error e=>G.E e s') (G.st W2):=by
 have S3:Sat (G.cls C vs lv G.E) W2 σ2:=⟨S2.ok.cls hlv C vs,S2.F,S2.M,S2.N,S2.O,S2.len,S2.nd,S2.hd.same rfl,S2.cl⟩
 refine R.fn (G:=G.cls C vs lv G.E) (Q:=fun v s'=>v=.none∧Q (.ref x) s') S3 (.cons (show Den W2.ads (.a n) (.ref x) from⟨x,hx,rfl⟩) a) ?_
 revert h
 generalize r.fn ⟨G.cf.cs,G.cf.hd,lv,false⟩ fI (.a n::args) σ2=o
 intro h
 induction o with
 |f=>exact h
 |p σ3 y=>exact fun W3 p S4 _ v d=>aXz (G:=G) (W:=W3) (σ:=σ3) ⟨S2.ok,S4.F,S4.M,S4.N,S4.O,S4.len,S4.nd,S4.hd.same rfl,S4.cl⟩ d (p.get hx) (Hd.up p (show Hd G W2 (bDa n σ3 y) (PV G Q) from h))
 |t _ _=>exact False.elim h
 |x σ3 xi =>
  intro G' W3 e T hT p SX
  have te:=T.eq
  exact h (G.at_ G'.g) W3 e ⟨rfl,T.T,S2.ok.up T.ok te⟩ (fun q=>by have:=hT q;rw[this]) p (by rw[te] at SX;exact SX)
 |g P o ih=>exact⟨h.1,ih h.2⟩
 |s c o1 o2 i1 i2=>exact⟨fun e=>i1 (h.1 e),fun e=>i2 (h.2 e)⟩
theorem aRn{C:Addr}{args:List SV}{vs:List Value}(R:Snd V r)(S:Sat G W σ)(a:Dens W.ads args vs)(h:Hd G W (aXl V r G.cf C args σ) (PV G Q)):G.wp (call (.ref C) vs) Q (G.st W):=by
 unfold aXl at h
 cases e:G.cf.lv with
 |zero=>rw[e] at h;exact h.elim
 |succ lv =>
  rw[e] at h
  refine onO_e h fun fI hf h=>?_
  have k:=G.X.vo.mkc hf
  refine call_cls S.F S.ok.K S.N k.1 k.2.1 k.2.2 fun x dx h' F' N' lt1 lt2=>?_
  have hlen:σ.led.length=W.ads.length:=by rw[S.O.len,S.len]
  have N1:News G.g G.L h' ((dx,dictOf [] 0)::W.l):=fun p hp=>N' p (.tail _ hp)
  have S1:=S.new (so:=.ns [] 0) W.t F' N1 lt1 ⟨[],.nil,rfl⟩
  have S2:=S1.new (D:=x) (o:=instObj C dx) (so:=.inst C σ.led.length) W.t F' (fun p hp=>by
   rcases List.mem_cons.mp hp with rfl|hp
   ·exact N' _ (.head _)
   ·exact S1.N p hp) (fun p hp=>by
   replace hp:p∈(W.ads++[dx]).zip (W.objs++[dictOf [] 0]):=hp
   rw[aB0 S.len] at hp
   rcases List.mem_append.mp hp with hp|hp
   ·exact Nat.lt_trans (lt1 p hp) lt2
   ·rw[List.mem_singleton.mp hp];exact lt2) ⟨dx,by rw[hlen];exact aEp aBh,rfl⟩
  have pre:Pre W.ads (W.ads++[dx]++[x]):=(Pre.snoc _ _).trans (.snoc _ _)
  refine codeAny_mono (aTx (n:=σ.led.length+1) R e S2 (by rw[hlen];have:=aBh (a:=W.ads++[dx]) (c:=x);simpa using this) (a.mono pre) (Hd.up pre h)) fun rr s' z=>?_
  rcases rr with e|fl
  ·exact z
  ·cases fl<;>first|exact z|exact z.elim
theorem aXd{C:Addr}{args:List SV}{vs:List Value}(R:Snd V r)(S:Sat G W σ)(a:Dens W.ads args vs)(h:Hd G W (bLx V r G.cf C args σ) (PV G Q)):G.wp (call (.ref C) vs) Q (G.st W):=by
 unfold bLx at h
 cases e:G.cf.lv with
 |zero=>rw[e] at h;exact h.elim
 |succ lv =>
  rw[e] at h
  refine ifT_e h fun hb h=>onO_e h fun fI hf h=>?_
  have k:=G.X.vo.mkx hf
  refine aX3 S.F S.ok.K S.N k.1 k.2.1 k.2.2 (a.len▸Nat.le_of_ble_eq_true hb) fun t x h' F' N' lt1 lt2=>?_
  have hlen:σ.led.length=W.ads.length:=by rw[S.O.len,S.len]
  have N1:News G.g G.L h' ((t,aL1 vs)::W.l):=fun p hp=>N' p (.tail _ hp)
  have S1:=S.new (so:=.any) W.t F' N1 lt1 trivial
  have S2:=S1.new (D:=x) (o:=aR9 C t) (so:=.xr C) W.t F' (fun p hp=>by
   rcases List.mem_cons.mp hp with rfl|hp
   ·exact N' _ (.head _)
   ·exact S1.N p hp) (fun p hp=>by
   replace hp:p∈(W.ads++[t]).zip (W.objs++[aL1 vs]):=hp
   rw[aB0 S.len] at hp
   rcases List.mem_append.mp hp with hp|hp
   ·exact Nat.lt_trans (lt1 p hp) lt2
   ·rw[List.mem_singleton.mp hp];exact lt2) ⟨t,rfl⟩
  have pre:Pre W.ads (W.ads++[t]++[x]):=(Pre.snoc _ _).trans (.snoc _ _)
  refine codeAny_mono (aTx (n:=σ.led.length+1) R e S2 (by rw[hlen];have:=aBh (a:=W.ads++[t]) (c:=x);simpa using this) (a.mono pre) (Hd.up pre h)) fun rr s' z=>?_
  rcases rr with e|fl
  ·exact z
  ·cases fl<;>first|exact z|exact z.elim
end
section
set_option tactic.hygienic true
noncomputable def notStar(e:PySem.Expr):Bool:=!Nat.beq e.ctorIdx 22
theorem aAb{e:PySem.Expr}{rest:List PySem.Expr}{env:Env}(h:notStar e=true):starEach (e::rest) env=(false,eval e env)::starEach rest env:=by
 cases e<;>first|rfl|cases h
theorem aA7{pos:Pos}{env:Env}:∀ {l:List PySem.Expr},l.all notStar=true→(backTo pos (starEach l env)).any (·.1)=false∧(backTo pos (starEach l env)).all (!·.1)=true
 | [],_=>⟨rfl,rfl⟩
 |e::r,h=>by
  rw[List.all_cons,Bool.and_eq_true] at h
  rw[aAb h.1]
  exact aA7 (pos:=pos) (env:=env) h.2
noncomputable def aNo:PySem.Expr→Bool
 | .Name _ _=>true
 | .Attribute _ _ _=>true
 |_=>false
theorem aYe{o:PySem.Expr}{attr:Str}{env:Env}{w:Sem Value}(h:aNo o=true):attributeBase o attr env w=w:=by
 cases o<;>first|rfl|cases h
theorem aNv{M:Model}{A:Around}{E:Value→Shared→Prop}{s:Shared}{env:Env}{o:PySem.Expr}{name:Str}{apos pos:Pos}{args:List PySem.Expr}{Q:Value→Shared→Prop}
  (hb:aNo o=true) (ha:args.all notStar=true) (hl:Nat.blt args.length 30=true) (hp:(apos.endLine==pos.line)=true)
  (h:∀ pl,wpAny M A (eval o env) (fun ov s₁=>wpAny M A (getMethod ov name pl) (fun fx s₂=>wpAny M A (callWith pos fx.1 fx.2 (backTo pos (starEach args env)) []) Q E s₂) E s₁) E s):wpAny M A (eval (Expr.Call (Expr.Attribute o name apos) args [] pos) env) Q E s:=by
 refine MethodCall_ (h (do return (← importBound o env).getD true)) ?_
 have hf:methodCallForm args.length (backTo pos (starEach args env)) []=true:=by
  unfold methodCallForm
  rw[(aA7 ha).2]
  have:args.length<30:=Nat.le_of_ble_eq_true hl
  simp[this]
 show (attributeBase o name env (eval o env) >>= fun ov=>standAt apos.atName >>= fun _=>methodCall o name apos pos env ov (args.length+0) (backTo pos (starEach args env)) [])=_
 rw[aYe hb]
 unfold methodCall
 rw[Nat.add_zero,hf]
 unfold calleeOf methodCallPos
 rw[hp]
 rfl
noncomputable def aD7(r:Rec)(cf:Cf)(args:List PySem.Expr)(σ:St)(k:St→List SV→Out SV):Out SV:=match args with
 | []=>k σ []
 |e::l=>bd (r.es cf (e::l) σ) k
noncomputable def aGn(r:Rec)(cf:Cf)(args:List PySem.Expr)(σ:St)(k:St→List SV→Out SV):Out SV:=match args with
 | []=>.f
 |e::l=>bd (r.es cf (e::l) σ) k
noncomputable def aV8(V:Vw)(r:Rec)(cf:Cf)(i:Nat)(name:Str)(args:List PySem.Expr)(σ:St)(so:SO):Out SV:=match so with
 | .inst C d=>aM4 σ d fun es _=>onO (V.mt C name) fun f=>ifT (aD6 name es).isNone (aD7 r cf args σ fun σ2 vs=>r.fn cf f (.a i::vs) σ2)
 | .di _=>ifT (aB8 name "update") (aGn r cf args σ fun σ2 vs=>bCu i vs σ2)
 | .dv _ _ _ _=>(match aB8 name "get" with
  |true=>aGn r cf args σ fun σ2 vs=>bC0 i vs σ2
  |false=>ifT (aB8 name "pop") (aGn r cf args σ fun σ2 vs=>bCx i vs σ2))
 |_=>.f
noncomputable def aV7(V:Vw)(r:Rec)(cf:Cf)(a:Addr)(name:Str)(args:List PySem.Expr)(σ:St):Out SV:=match V.cm a name with
 |some f=>aD7 r cf args σ fun σ2 vs=>r.fn cf f vs σ2
 |none=>ifT (aB8 name "get") (onO (aCh V.O a 0) fun _=>aGn r cf args σ fun σ2 vs=>bP4 V a vs σ2)
noncomputable def aTm(V:Vw)(r:Rec)(cf:Cf)(ov:SV)(name:Str)(args:List PySem.Expr)(σ:St):Out SV:=match ov with
 | .a i=>onO (gN σ.led i) (aV8 V r cf i name args σ)
 | .k v=>(match v with
  | .ref a=>aV7 V r cf a name args σ
  | .type id=>ifT (id=="ValueError") (ifT (aB8 name "__init__") (aGn r cf args σ fun σ2 vs=>bP0 V vs σ2))
  |_=>.f)
 |_=>.f
noncomputable def bK2(V:Vw)(r:Rec)(cf:Cf)(args:List PySem.Expr)(σ1:St)(f:SV):Out SV:=match f with
 | .k v=>(match v with
  | .ref a=>ifT (V.kp a) (aD7 r cf args σ1 (fun σ2 vs=>aX4 V r cf a vs σ2))
  | .builtin id=>aGn r cf args σ1 (fun σ2 vs=>bP7 cf id vs σ2)
  | .type id=>aGn r cf args σ1 (fun σ2 vs=>bP1 id vs σ2)
  |_=>.f)
 |_=>.f
noncomputable def aXn(V:Vw)(r:Rec)(cf:Cf)(o:PySem.Expr)(name:Str)(apos:Pos)(args:List PySem.Expr)(pos:Pos)(σ:St):Out SV :=
 ifT (aNo o&&args.all notStar) (ifT (Nat.blt args.length 30&&(apos.endLine==pos.line)) (bd (r.e cf o σ) (fun σ1 ov=>aTm V r cf ov name args σ1)))
noncomputable def aTp(V:Vw)(r:Rec)(cf:Cf)(f:PySem.Expr)(args:List PySem.Expr)(pos:Pos)(σ:St):Out SV:=alt (asA f) (fun q=>aXn V r cf q.1 q.2.1 q.2.2 args pos σ) (onO (asN f) fun q=>ifT (args.all notStar) (bd (aKc V cf.cs q.1 σ) (bK2 V r cf args)))
section
variable {V:Vw} {G:Gd V} {W:Wd} {σ:St} {Q:Value→Shared→Prop} {r:Rec}
theorem aIo{f:Addr}{args:List SV}{vs:List Value}(R:Snd V r)(S:Sat G W σ)(a:Dens W.ads args vs)(h:Hd G W (r.fn G.cf f args σ) (PV G Q)):G.wp (call (.ref f) vs) Q (G.st W) :=
 wpAny_call (codeAny_mono (R.fn (Q:=Q) S a (by
  revert h
  generalize r.fn G.cf f args σ=o
  intro h
  induction o with
  |f=>exact h
  |p _ _=>exact fun W' p S _=>h W' p S
  |t _ _=>exact fun G' W' T p S _=>h G' W' T p S
  |x _ _=>exact h
  |g P o ih=>exact⟨h.1,ih h.2⟩
  |s c o1 o2 i1 i2=>exact⟨fun e=>i1 (h.1 e),fun e=>i2 (h.2 e)⟩)) fun rr s' z=>by
  rcases rr with e|fl
  ·exact z
  ·cases fl<;>first|exact z|exact z.elim)
theorem aRz{f:Addr}{args:List SV}{vs:List Value}(R:Snd V r)(S:Sat G W σ)(a:Dens W.ads args vs)(h:Hd G W (aX4 V r G.cf f args σ) (PV G Q)):G.wp (call (.ref f) vs) Q (G.st W):=by
 unfold aX4 at h
 cases e:V.pf f||V.hf f with
 |true=>rw[e] at h;exact aIo R S a h
 |false=>rw[e] at h;exact aRn R S a h
theorem aYj{a:Addr}{first:List Value}{args:List PySem.Expr}{pos:Pos}{k:St→List SV→Out SV}(R:Snd V r)(S:Sat G W σ)(hk:keepIn V.K (.ref a)=true)(hst:args.all notStar=true)(h:Hd G W (aD7 r G.cf args σ k) (PV G Q))
  (g:∀ {W' σ' ys vs},Sat G W' σ'→Pre W.ads W'.ads→Dens W'.ads ys vs→Hd G W' (k σ' ys) (PV G Q)→G.wp (call (.ref a) (first++vs)) Q (G.st W')) :
  G.wp (callWith pos (.ref a) first (backTo pos (starEach args G.env)) []) Q (G.st W):=by
 cases args with
 |nil=>exact callWith_K0 S.K hk (g S (.refl _) .nil h)
 |cons e l =>
  have hst:=aAc (by rwa [List.all_cons] at hst)
  exact callWith_K S.ok.K hk (R.evs S h fun S' p d h'=>⟨S'.K,g S' p d h'⟩) (aAb hst.1) (aA7 hst.2).1
theorem aLq{id:String}{first:List Value}{args:List PySem.Expr}{pos:Pos}{k:St→List SV→Out SV}(R:Snd V r)(S:Sat G W σ)(hst:args.all notStar=true)(h:Hd G W (aGn r G.cf args σ k) (PV G Q))
  (g:∀ {W' σ' ys vs},Sat G W' σ'→Pre W.ads W'.ads→Dens W'.ads ys vs→Hd G W' (k σ' ys) (PV G Q)→G.wp (call (.builtin id) (first++vs)) Q (G.st W')) :
  G.wp (callWith pos (.builtin id) first (backTo pos (starEach args G.env)) []) Q (G.st W):=by
 cases args with
 |nil=>exact h.elim
 |cons e l =>
  have hst:=aAc (by rwa [List.all_cons] at hst)
  exact callWith_method1 (R.evs S h g) (aAb hst.1) (aA7 hst.2).1
theorem bM7{id:String}{args:List PySem.Expr}{pos:Pos}{k:St→List SV→Out SV}(R:Snd V r)(S:Sat G W σ)(hst:args.all notStar=true)(h:Hd G W (aGn r G.cf args σ k) (PV G Q))
  (g:∀ {W' σ' ys vs},Sat G W' σ'→Pre W.ads W'.ads→Dens W'.ads ys vs→Hd G W' (k σ' ys) (PV G Q)→G.wp (call (.type id) vs) Q (G.st W')) :
  G.wp (callWith pos (.type id) [] (backTo pos (starEach args G.env)) []) Q (G.st W):=by
 cases args with
 |nil=>exact h.elim
 |cons e l =>
  have hst:=aAc (by rwa [List.all_cons] at hst)
  exact PyProof.Rows.callWith_type1 (R.evs S h g) (aAb hst.1) (aA7 hst.2).1
noncomputable abbrev behind(G:Gd V)(Q:Value→Shared→Prop)(pos:Pos)(args:List PySem.Expr):Value×List Value→Shared→Prop:=fun fx s₂=>G.wp (callWith pos fx.1 fx.2 (backTo pos (starEach args G.env)) []) Q s₂
theorem aCl{x y:Str}(h:aB8 x y=true):x=y:=aCe.mp h
theorem aQw{i:Nat}{x:Addr}{name:Str}{args:List PySem.Expr}{pl:Sem Bool}{pos:Pos}{so:SO}{o:Obj}(R:Snd V r)(S:Sat G W σ)(hx:gN W.ads i=some x)(hm:(x,o)∈W.l)(d:DenO G.X W.ads so o)(hst:args.all notStar=true)(h:Hd G W (aV8 V r G.cf i name args σ so) (PV G Q)) :
  G.wp (getMethod (.ref x) name pl) (behind G Q pos args) (G.st W):=by
 cases so with
 |inst C dd =>
  refine aAd d fun dx hdx r0_2=>?_
  subst r0_2
  exact aM3 h S hdx fun es n l _ hm2 al h=>onO_e h fun f hf h=>ifT_e h fun q h =>
   let k:=G.X.vo.mt hf
   method_inst S.F S.ok.K (InstAt.of_news S.N hm hm2) k.1 k.2.1 k.2.2.1 (aEn al (Option.isNone_iff_eq_none.mp q)) (aYj R S k.2.2.2 hst h fun S' p dv h'=>aIo R S' (.cons (show Den _ (.a i) (.ref x) from⟨x,p.get hx,rfl⟩) dv) h')
 |di kvs =>
  refine aAd d fun l al hdo=>?_
  exact ifT_e h fun q h=>aCl q▸kob_method (knd:=intKind G.X.prog G.X.w) PySem.F.slot_dict_update PySem.F.type_dict_update S.N hm hdo (aLq (first:=[.ref x]) R S hst h fun S' p dv h'=>aRh S' (p.get hx) dv h')
 |dv j n ps fs =>
  refine aOw d fun l0 l _ _ _ _ hdo=>?_
  unfold aV8 at h
  cases e:aB8 name "get" with
  |true=>simp only[e] at h;exact aCl e▸kdg_method (knd:=intKind G.X.prog G.X.w) S.N hm hdo (aLq (first:=[.ref x]) R S hst h fun S' p dv h'=>aRm S' (p.get hx) dv h')
  |false=>simp only[e] at h;exact ifT_e h fun q h=>aCl q▸kob_method (knd:=intKind G.X.prog G.X.w) PySem.F.slot_dict_pop PySem.F.type_dict_pop S.N hm hdo (aLq (first:=[.ref x]) R S hst h fun S' p dv h'=>aRk S' (p.get hx) dv h')
 |_=>exact h.elim
theorem aT5{K:Frag}:findCls K (.type "ValueError") (.type "type") "__init__"=some (.val (.builtin "ValueError.__init__")):=by kernel_rfl
theorem aT3:typeOf (.type "ValueError")=pure (.type "type"):=by kernel_rfl
theorem aT4:Manifest.isStub "ValueError"=false:=by decide +kernel
theorem aT6:handedIn (.builtin "ValueError.__init__")=true:=by decide +kernel
theorem aZq{prog:Program}{w:World}{A:Around}{E:Value→Shared→Prop}{s:Shared}{K:Frag}{h₀:Heap}{L:Addr}{m:Str→Option Value}{pl:Sem Bool}{Q:Value×List Value→Shared→Prop}(F:Fr h₀ L s.heap m)(X₀:K.In h₀)(h:Q (.builtin "ValueError.__init__",[]) { s with toks:=s.toks+1 }):wpAny (model prog w) A (getMethod (.type "ValueError") "__init__" pl) Q E s :=
 by with_reducible exact method_type F X₀ aT3 aT4 aT5 aT6 h
theorem aQv{a:Addr}{name:Str}{args:List PySem.Expr}{pl:Sem Bool}{pos:Pos}(R:Snd V r)(S:Sat G W σ)(hst:args.all notStar=true)(h:Hd G W (aV7 V r G.cf a name args σ) (PV G Q)) :
  G.wp (getMethod (.ref a) name pl) (behind G Q pos args) (G.st W):=by
 unfold aV7 at h
 cases e:V.cm a name with
 |some f =>
  simp only[e] at h
  refine bP9 (G.X.vo.cm e) fun mc k1 k2 k3 k4 k5=>?_
  exact method_of_cls S.F S.ok.K k4 (cls_val S.F S.ok.K k1 k3 k2 rfl (aYj (W:=W.tok (W.t+1)) R (S.tok _) k5 hst (Hd.up (W:=W) (W':=W.tok (W.t+1)) (.refl W.ads) h) fun S' p dv h'=>aIo R S' dv h'))
 |none =>
  simp only[e] at h
  exact ifT_e h fun q h=>onO_e h fun rr hr h=>aCl q▸bK4 S.F S.ok.K (aC3 G.X.vo.O hr) (aLq (first:=[.ref a]) R S hst h fun S' p dv h'=>aXi S' dv h')
theorem aOo{ov:SV}{v:Value}{name:Str}{args:List PySem.Expr}{pl:Sem Bool}{pos:Pos}(R:Snd V r)(S:Sat G W σ)(d:Den W.ads ov v)(hst:args.all notStar=true)(h:Hd G W (aTm V r G.cf ov name args σ) (PV G Q)) :
  G.wp (getMethod v name pl) (behind G Q pos args) (G.st W):=by
 cases ov with
 |a i=>obtain⟨x,hx,rfl⟩:=d;exact aG5 h S hx fun so o ho hm d h=>aQw R S hx hm d hst h
 |k w =>
  cases d
  cases v with
  |ref a=>exact aQv R S hst h
  |type id =>
   refine ifT_e h fun q h1=>ifT_e h1 fun q2 h2=>?_
   have e1:=beq_iff_eq.mp q
   have e2:=aCl q2
   clear h h1 q q2
   subst e1 e2
   exact aZq S.F S.ok.K (aLq (W:=W.tok (W.t+1)) (first:=[]) R (S.tok _) hst (Hd.up (W:=W) (W':=W.tok (W.t+1)) (.refl W.ads) h2) fun S' p dv h'=>aXe S' dv h')
  |_=>exact h.elim
 |_=>exact h.elim
theorem aOs{f:PySem.Expr}{args:List PySem.Expr}{pos:Pos}(R:Snd V r)(S:Sat G W σ)(h:Hd G W (aTp V r G.cf f args pos σ) (PV G Q)):G.wp (eval (.Call f args [] pos) G.env) Q (G.st W):=by
 refine aE1 (C:=fun o=>Hd G W o (PV G Q)) h (fun q hq h=>?_) fun h=>onO_e h fun q hq h=>?_
 ·rw[aLp hq]
  exact ifT_e h fun q h=>ifT_e h fun q2 h=>aNv (aAc q).1 (aAc q).2 (aAc q2).1 (aAc q2).2 fun pl=>R.ev S h fun S' p d h'=>aOo R S' d (aAc q).2 h'
 ·rw[aDl hq]
  refine ifT_e h fun hst h=>Call_ (aEu S (h.to (Ψ:=PV G _) fun S' p h v d=>?_))
  rename_i W' σ' y
  cases y with
  |k w =>
   cases d
   cases v with
   |ref a=>exact ifT_e h fun hk h=>aYj (first:=[]) R S' (G.X.vo.kp hk) hst h fun S2 p2 d2 h2=>aRz R S2 d2 h2
   |builtin id=>exact aLq (first:=[]) R S' hst h fun S2 p2 d2 h2=>aXo S2 d2 h2
   |type id=>exact bM7 R S' hst h fun S2 p2 d2 h2=>aXf S2 d2 h2
   |_=>exact h.elim
  |_=>exact h.elim
end
end
noncomputable def aJ1(tup:Bool)(vs:List SV)(σ:St):Out SV:=ifT (Nat.ble vs.length 1000) (.p (σ.new (.seq tup vs 0)) (.a σ.led.length))
noncomputable def bQd(op:Operator)(i:Nat)(b:SV)(σ:St):Out SV:=match op with
 | .Mult=>onZ b fun k=>onSeq σ i fun tup vs _=>onO (nums vs) fun _=>ifT (!tup&&bt 0 k 999) (ifT (Nat.ble (vs.length*k.toNat) 1000) (.p (σ.new (.seq false (List.replicate k.toNat vs).flatten 0)) (.a σ.led.length)))
 | .Add=>onA b fun j=>onSeq σ i fun tup vs _=>onSeq σ j fun tup2 ws _=>ifT (!tup&&!tup2) (ifT (Nat.ble (vs.length+ws.length) 1000) (.p (σ.new (.seq false (vs++ws) 0)) (.a σ.led.length)))
 |_=>.f
noncomputable def bC4(op:Operator)(a b:SV)(σ:St):Out SV:=match a with
 | .a i=>bQd op i b σ
 |a=>onN a fun x lx=>onN b fun y ly=>binI op x lx y ly σ
noncomputable def aTw:SV→Option (Bool×Bool)
 | .z n=>some (n != 0,true)
 | .i x=>some (x != 0,false)
 | .k v=>(match v with
  | .bool b=>some (b,true)
  | .none=>some (false,true)
  |_=>none)
 | .b x=>some (x,false)
 |_=>none
noncomputable def aZj(e:PySem.Expr):Option Int:=(asK e).bind fun k=>asI k.1
noncomputable def isPow(o:Operator):Bool:=match o with
 | .Pow=>true
 |_=>false
noncomputable def peI(V:Vw)(cs:Scope)(σ:St)(e:PySem.Expr):Option Int:=bif Nat.beq e.ctorIdx 19 then aZj e else bif Nat.beq e.ctorIdx 2 then (asP e).bind fun q=>bif isPow q.2.1 then (aZj q.1).bind fun a=>(aZj q.2.2.1).bind fun b=>bif bt 0 b 1000&&bt (-i64) a i64 then some (a ^ b.toNat) else none else none
 else (asN e).bind fun q=>(nameV V cs q.1 σ).bind fun x=>(num x).map (·.1)
noncomputable def aQ7(n:Nat):List Nat→Bool
 | []=>false
 |a::l=>Nat.beq n a||aQ7 n l
noncomputable def aG3(e:PySem.Expr):Bool:=aQ7 e.ctorIdx [2,23,20,16,21,19]
noncomputable def ifU(V:Vw)(r:Rec)(cf:Cf)(body orelse:PySem.Expr)(σ:St)(b:Bool):Out SV:=match peI V cf.cs σ body with
 |some x=>(match peI V cf.cs σ orelse with
  |some z=>.p σ (.i (bif b then x else z))
  |none=>br b σ fun σ2 q=>r.e cf (bif q then body else orelse) σ2)
 |none=>br b σ fun σ2 q=>r.e cf (bif q then body else orelse) σ2
noncomputable def ifK(V:Vw)(r:Rec)(cf:Cf)(body orelse:PySem.Expr)(σ:St)(y:SV):Out SV:=onO (aTw y) fun c=>match c.2 with
 |true=>r.e cf (bif c.1 then body else orelse) σ
 |false=>ifU V r cf body orelse σ c.1
noncomputable def bF7(V:Vw)(r:Rec)(cf:Cf)(l:PySem.Expr)(op:CmpOp)(rr:PySem.Expr)(σ:St):Out SV:=ifT (!(behindInMarks op rr)) (bd (r.e cf l σ) fun σ1 a=>bd (r.e cf rr σ1) fun σ2 b=>aOr V op a b σ2)
noncomputable def bKf{α:Type}(ops:List CmpOp)(rs:List PySem.Expr)(k:CmpOp→PySem.Expr→Out α):Out α:=match ops with
 | [op]=>(match rs with
  | [rr]=>k op rr
  |_=>.f)
 |_=>.f
noncomputable def bCz(V:Vw)(r:Rec)(cf:Cf)(t body orelse:PySem.Expr)(σ:St):Out SV:=bif aG3 t then bd (r.e cf t σ) fun σ1 y=>ifK V r cf body orelse σ1 y
 else alt (asM t) (fun q=>bKf q.2.1 q.2.2.1 fun op rr=>bd (bF7 V r cf q.1 op rr σ) fun σ3 y=>ifK V r cf body orelse σ3 y) (bd (r.b cf t σ) fun σ1 b=>r.e cf (bif b then body else orelse) σ1)
noncomputable def aJ0:List (Int×SV)→Bool
 | []=>true
 |p::r=>(aCw p.1 r).isNone&&aJ0 r
noncomputable def bCd(k:Option PySem.Expr):Option Int:=k.bind aZj
theorem aEy{e:PySem.Expr}{n:Int}(h:aZj e=some n):∃ a b,e=.Constant (.int n) a b :=
 aAd (Option.bind_eq_some_iff.mp h) fun q hq h=>bPz q.2.1 q.2.2 (by rw[aR3 hq,bM3 h])
theorem oB{α β:Type}{x:Option α}{f:α→Option β}{y:β}{R:Prop}(h:x.bind f=some y)(k:∀ a,x=some a→f a=some y→R):R:=aAd (Option.bind_eq_some_iff.mp h) k
theorem bMy{α:Type}{C:α→Prop}{b:Bool}{x y:α}(h:C (bif b then x else y)):C x∨C y:=by
 cases b
 ·exact .inr h
 ·exact .inl h
theorem aR2{α:Type}{C:α→Prop}{P:Prop}{b:Bool}{x y:α}(h:C (bif b then x else y))(g:b=true→C x→P)(g':C y→P):P:=by
 cases b
 ·exact g' h
 ·exact g rfl h
theorem aWt{o:Operator}(h:isPow o=true):o=.Pow:=by cases o<;>first|rfl|cases h
noncomputable def aIr(r:Rec)(cf:Cf)(kk:St→List (Int×SV)→Out SV):List (Option PySem.Expr)→List PySem.Expr→St→List (Int×SV)→Out SV
 | [],vs,σ,acc=>(match vs with
  | []=>kk σ acc
  |_::_=>.f)
 |k::ks,vs,σ,acc=>(match vs with
  | []=>.f
  |v::vs=>onO (bCd k) fun n=>bd (r.e cf v σ) fun σ1 y=>aIr r cf kk ks vs σ1 (acc++[(n,y)]))
noncomputable def bL8(d:Nat)(σ:St)(kvs:List (Int×SV)):Out SV:=bBk σ d fun l=>ifT l.isEmpty (ifT (aJ0 kvs) (.p (σ.put d (.di kvs)) (.a d)))
noncomputable def aTo(r:Rec)(cf:Cf)(keys:List (Option PySem.Expr))(vals:List PySem.Expr)(σ:St):Out SV:=match keys with
 | []=>ifT vals.isEmpty (.p (σ.new (.di [])) (.a σ.led.length))
 |k::ks=>ifT (intLits (k::ks)) (ifT ((k::ks).all (·.isSome)) (ifT (Nat.beq (k::ks).length vals.length&&Nat.ble (k::ks).length 15) (aIr r cf (bL8 σ.led.length) (k::ks) vals (σ.new (.di [])) [])))
noncomputable def bCp(sp:Option PySem.Expr)(p:Int×Bool):Option Prop:=match sp with
 |none=>some (0≤p.1∧p.1<100)
 |some e=>(asJ e).bind fun l=>(one l.1).bind fun c=>(asK c).bind fun k=>(asS k.1).bind fun y=>bif aB8 y "x" then some (0≤p.1∧p.1<4294967296) else bif aB8 y "08x" then some (p.1=4294967295) else none
noncomputable def bPw(e:PySem.Expr):Option Prop:=(asK e).bind fun k=>(asS k.1).bind fun y=>bif Nat.ble y.length 100 then some True else none
noncomputable def bPx(V:Vw)(cs:Scope)(σ:St)(e:PySem.Expr):Option Prop:=(asF e).bind fun f=>(asN f.1).bind fun x=>bif f.2.1==-1 then (nameV V cs x.1 σ).bind fun y=>(num y).bind (bCp f.2.2.1) else none
noncomputable def bCq(V:Vw)(cs:Scope)(σ:St)(e:PySem.Expr):Option Prop:=bif Nat.beq e.ctorIdx 19 then bPw e else bPx V cs σ e
noncomputable def aOk(V:Vw)(cs:Scope)(σ:St):List PySem.Expr→Option Prop
 | []=>some True
 |e::r=>(bCq V cs σ e).bind fun P=>(aOk V cs σ r).map fun R=>P∧R
noncomputable def evJ(V:Vw)(cs:Scope)(l:List PySem.Expr)(σ:St):Out SV:=match l with
 |a::b::r=>ifT (Nat.ble r.length 7) (onO (aOk V cs σ (a::b::r)) fun P=>.g P (.p σ .t))
 |_=>.f
noncomputable def evE(V:Vw)(r:Rec)(cf:Cf)(x:PySem.Expr)(σ:St):Out SV:=match x with
 | .Name y _=>aKc V cf.cs y σ
 | .Constant k _ _=>aOq k σ
 | .BinOp l op rr _=>bd (r.e cf l σ) fun σ1 a=>bd (r.e cf rr σ1) fun σ2 b=>bC4 op a b σ2
 | .Compare l ops rs _=>bKf ops rs fun op rr=>bF7 V r cf l op rr σ
 | .Attribute o attr _=>(match o with
  | .Name y _=>bd (aKc V cf.cs y σ) fun σ1 o=>aYh V o attr σ1
  |_=>.f)
 | .Call f args kws pos=>(match kws with
  | []=>aTp V r cf f args pos σ
  |_::_=>.f)
 | .Subscript v sl _=>ifT (aC1 sl) (bd (r.e cf v σ) fun σ1 o=>bd (r.e cf sl σ1) fun σ2 i=>bCw V o i σ2)
 | .Tuple elts _ _=>bd (r.es cf elts σ) fun σ1 vs=>aJ1 true vs σ1
 | .List elts _=>bd (r.es cf elts σ) fun σ1 vs=>aJ1 false vs σ1
 | .Dict keys vals _=>aTo r cf keys vals σ
 | .IfExp t b o _=>bCz V r cf t b o σ
 | .JoinedStr l _=>evJ V cf.cs l σ
 |_=>.f
noncomputable def bP5(r:Rec)(cf:Cf)(l:List PySem.Expr)(σ:St):Out (List SV):=match l with
 | []=>.p σ []
 |e::rest=>ifT (notStar e) (bd (r.e cf e σ) fun σ1 y=>bd (r.es cf rest σ1) fun σ2 ys=>.p σ2 (y::ys))
section
variable {V:Vw} {G:Gd V} {W:Wd} {σ:St} {Q:Value→Shared→Prop} {r:Rec}
theorem aNx{D:Addr}{o:Obj}{so:SO}{h':Heap}(S:Sat G W σ)(h:Hd G W (.p (σ.new so) (.a σ.led.length)) (PV G Q))(F:Fr G.g G.L h' W.m)(N:News G.g G.L h' ((D,o)::W.l))(lt:∀ p∈W.l,p.1<D)(d:DenO G.X (W.ads++[D]) so o):Q (.ref D) (G.st (W.hp W.m h' W.t)) :=
 h (W.new D o h' W.t) (.snoc _ _) (S.new _ F N lt d) _ (aXv (S:=S))
theorem aK2{vs:List SV}{ws:List Value}(S:Sat G W σ)(a:Dens W.ads vs ws)(h:Hd G W (aJ1 true vs σ) (PV G Q)):G.wp (newTuple ws) Q (G.st W) :=
 ifT_e h fun hb h=>kup_newTuple S.F S.N (fun D h' F' N' lt=>aNx S h F' N' lt ⟨ws,a.mono (.snoc _ _),rfl⟩) (by have:=Nat.le_of_ble_eq_true hb;rw[sizeLine_eq,← a.len];lia)
theorem aK3{vs:List SV}{ws:List Value}(S:Sat G W σ)(a:Dens W.ads vs ws)(h:Hd G W (aJ1 false vs σ) (PV G Q)):G.wp (newList ws) Q (G.st W) :=
 ifT_e h fun hb h=>newList_K S.F S.N (fun D h' F' N' lt=>aNx S h F' N' lt ⟨ws,a.mono (.snoc _ _),rfl⟩) (by have:=Nat.le_of_ble_eq_true hb;rw[sizeLine_eq,← a.len];lia)
theorem All2.rep{α β:Type}{R:α→β→Prop}{l:List α}{m:List β}(h:All2 R l m):∀ k:Nat,All2 R (List.replicate k l).flatten (List.replicate k m).flatten
 | 0=>.nil
 |k+1=>h.app (All2.rep h k)
theorem bXt{a b:Bool}(h:(!a&&!b)=true):a=false∧b=false:=⟨aBu (aAc h).1,aBu (aAc h).2⟩
theorem aYc{op:Operator}{i:Nat}{x:Addr}{b:SV}{vb:Value}(S:Sat G W σ)(hx:gN W.ads i=some x)(db:Den W.ads b vb)(h:Hd G W (bQd op i b σ) (PV G Q)):G.wp (binaryOp op (.ref x) vb) Q (G.st W):=by
 cases op with
 |Mult =>
  refine aM2 h db fun k t qe h=>qe▸aCf h S hx fun tup vs n l _ hm al h=>onO_e h fun ns hns h=>ifT_e h fun q h=>ifT_e h fun q2 hz=>?_
  cases aBu (aAc q).1
  have b:=aGj (aAc q).2
  have hb2:=Nat.le_of_ble_eq_true q2
  exact KM.mul S.F S.N (News.isList S.N hm) (aF7 hns al) (by lia) (by lia) (by rw[← al.len];lia) fun D h' F' N' lt _ _ _ _ _ _=>aNx S hz F' N' lt ⟨_,(al.rep _).mono fun _ _=>Den.mono (.snoc _ _),rfl⟩
 |Add =>
  refine aDq h db fun j y hy qe h=>qe▸aCf h S hx fun tup vs n l _ hm al h=>aCf h S hy fun tup2 ws n2 l2 _ hm2 al2 h=>ifT_e h fun q h=>ifT_e h fun q2 hz=>?_
  refine aBa (bXt q) fun e1 e2=>?_
  subst e1 e2
  have hb:=Nat.le_of_ble_eq_true q2
  rw[al.len,al2.len] at hb
  exact add_lists S.F S.N (News.isList S.N hm) (News.isList S.N hm2) (fun h' F' N'=>aNx S hz F' N' (fun p hp=>Heap.lt_size (S.N p hp).1) ⟨_,(al.app al2).mono fun _ _=>Den.mono (.snoc _ _),rfl⟩) (by rw[sizeLine_eq];lia)
 |_=>exact h.elim
theorem aRo{op:Operator}{a b:SV}{va vb:Value}(S:Sat G W σ)(da:Den W.ads a va)(db:Den W.ads b vb)(h:Hd G W (bC4 op a b σ) (PV G Q)):G.wp (binaryOp op va vb) Q (G.st W):=by
 have kk:∀ {a:SV},Den W.ads a va→Hd G W (onN a fun x lx=>onN b fun y ly=>binI op x lx y ly σ) (PV G Q)→G.wp (binaryOp op va vb) Q (G.st W):=fun da h=>aEh h da fun x lx t qe h=>qe▸aEh h db fun y ly u qe h=>qe▸aYd S h
 cases a with
 |a i=>obtain⟨x,hx,rfl⟩:=da;exact aYc S hx db h
 |z n=>exact kk da h
 |i n=>exact kk da h
 |_=>exact h.elim
theorem aO0{y:SV}{v:Value}{c:Bool×Bool}{s:Shared}{QB:Bool→Shared→Prop}(e:aTw y=some c)(d:Den W.ads y v)(h:QB c.1 s):G.wp (truthy v) QB s:=by
 cases y with
 |z n=>cases e;obtain⟨t,rfl⟩:=d;exact truthy_int h
 |i n=>cases e;obtain⟨t,rfl⟩:=d;exact truthy_int h
 |b x=>cases e;cases d;exact wpAny_truthy_bool h
 |k w=>cases d;cases v with
  |bool b=>cases e;exact wpAny_truthy_bool h
  |none=>cases e;exact truthy_none h
  |_=>exact nn e
 |_=>exact nn e
theorem aS6{x:PySem.Expr}{n:Int}(S:Sat G W σ)(e:peI V G.cf.cs σ x=some n)(h:Hd G W (.p σ (.i n)) (PV G Q)):G.wp (eval x G.env) Q (G.st W) :=
 aR2 (C:=fun o=>o=some n) e (fun _ e=>aZi (aEy e) fun _ _ q=>q▸wpAny_Constant_int (h (W.tok (W.t+1)) (.refl _) (S.tok _) _ ⟨_,rfl⟩)) fun e=>aR2 (C:=fun o=>o=some n) e (fun _ e=>oB e fun q hq e=>aBa (aGl e) fun ho e=>oB e fun a h1 e=>oB e fun b h2 e=>aZi (aEy h1) fun _ _ k1=>aZi (aEy h2) fun _ _ k2=>aBa (aGl e) fun q e=>by
  rw[bM0 hq,aWt ho,k1,k2]
  rw[← Option.some.inj e] at h
  exact wpAny_BinOp (wpAny_Constant_int (wpAny_Constant_int (pow_int_small (aGj (aAc q).1).1 (Int.le_trans (aGj (aAc q).1).2 (by decide)) (bDw (aGj (aAc q).2)) (h (W.tok (W.t+1+1+1)) (.refl _) (S.tok _) _ ⟨_,rfl⟩))))) fun e=>oB e fun x hx e=>oB e fun z hz e=>aAd (Option.map_eq_some_iff.mp e) fun q hq r=>by
  rw[aDl hx]
  rw[← r] at h
  exact aC2 S hz fun v d=>h W (.refl _) S v (aB6 hq d)
theorem aQ9{b:Bool}{body orelse:PySem.Expr}(R:Snd V r)(S:Sat G W σ)(h:Hd G W (r.e G.cf (bif b then body else orelse) σ) (PV G Q)):if b=true then G.wp (eval body G.env) Q (G.st W) else G.wp (eval orelse G.env) Q (G.st W):=by
 cases b with
 |true=>exact R.e S h
 |false=>exact R.e S h
theorem aTh{body orelse:PySem.Expr}{y:SV}{v:Value}(R:Snd V r)(S:Sat G W σ)(d:Den W.ads y v)(h:Hd G W (ifK V r G.cf body orelse σ y) (PV G Q)) :
  G.wp (truthy v) (fun b s₂=>if b=true then G.wp (eval body G.env) Q s₂ else G.wp (eval orelse G.env) Q s₂) (G.st W) :=
 onO_e h fun c hc h=>aO0 hc d (by
  obtain⟨b,l⟩:=c
  cases l with
  |true=>exact aQ9 R S h
  |false =>
   replace h:Hd G W (ifU V r G.cf body orelse σ b) (PV G Q):=h
   unfold ifU at h
   cases e1:peI V G.cf.cs σ body with
   |none=>simp only[e1] at h;exact bGc h fun o h=>aQ9 R (S.orc o) h
   |some x =>
    cases e2:peI V G.cf.cs σ orelse with
    |none=>simp only[e1,e2] at h;exact bGc h fun o h=>aQ9 R (S.orc o) h
    |some z =>
     simp only[e1,e2] at h
     cases b with
     |true=>exact aS6 S e1 h
     |false=>exact aS6 S e2 h)
theorem aS9{α:Type}{Φ:Wd→St→α→Prop}{ops:List CmpOp}{rs:List PySem.Expr}{k:CmpOp→PySem.Expr→Out α}{P:Prop}(h:Hd G W (bKf ops rs k) Φ)(g:∀ op rr,ops=[op]→rs=[rr]→Hd G W (k op rr) Φ→P):P:=by
 cases ops with
 |nil=>exact h.elim
 |cons op ops=>cases ops with
  |cons _ _=>exact h.elim
  |nil=>cases rs with
   |nil=>exact h.elim
   |cons rr rs=>cases rs with
    |cons _ _=>exact h.elim
    |nil=>exact g op rr rfl rfl h
theorem aD5{α:Type}{Φ:Wd→St→α→Prop}{op:CmpOp}{a b:SV}{va vb:Value}{k:St→SV→Out α}{Q₁:Value→Shared→Prop}(S:Sat G W σ)(da:Den W.ads a va)(db:Den W.ads b vb)(h:Hd G W (bd (aOr V op a b σ) k) Φ)
  (g:∀ {W' σ' y v},Sat G W' σ'→Pre W.ads W'.ads→Den W'.ads y v→Hd G W' (k σ' y) Φ→Q₁ v (G.st W')):G.wp (compareOp op va vb) Q₁ (G.st W) :=
 aKd S da db (h.to fun S p h _ d=>g S p d h)
theorem aC8{α β γ:Type}{o:Out α}{k:St→α→Out β}{l:St→β→Out γ}:bd (bd o k) l=bd o fun σ a=>bd (k σ a) l:=by
 induction o with
 |f=>rfl
 |p _ _=>rfl
 |t _ _=>rfl
 |x _ _=>rfl
 |g P o ih=>exact congrArg _ ih
 |s c a b i j=>exact congr (congrArg _ i) j
theorem bDl{α β:Type}{b:Bool}{o:Out α}{k:St→α→Out β}:bd (ifT b o) k=ifT b (bd o k):=by cases b<;>rfl
theorem aRl{t body orelse:PySem.Expr}{pos:Pos}(R:Snd V r)(S:Sat G W σ)(h:Hd G W (bCz V r G.cf t body orelse σ) (PV G Q)):G.wp (eval (.IfExp t body orelse pos) G.env) Q (G.st W):=by
 refine IfExp_ (aR2 (C:=fun o=>Hd G W o (PV G Q)) h (fun e h=>isTrue_plain (R.ev S h fun S' p d h'=>aTh R S' d h') (by cases t<;>first|rfl|cases e)) fun h=>aE1 (C:=fun o=>Hd G W o (PV G Q)) h (fun q hq h=>?_) fun h=>R.cond S h fun S' p h'=>aQ9 R S' h')
 refine aS9 h fun op rr e1 e2 hz=>?_
 rw[bDs hq,e1,e2]
 unfold bF7 at hz
 rw[bDl] at hz
 refine ifT_e hz fun hm h=>?_
 rw[aC8] at h
 refine wpAny_isTrue_Compare1 (R.ev S h fun S1 p1 d1 h1=>?_) (aBu hm)
 rw[aC8] at h1
 exact R.ev S1 h1 fun S2 p2 d2 h2=>aD5 S2 (d1.mono p2) d2 h2 fun S3 p3 d3 h3=>aTh R S3 d3 h3
noncomputable def KV(ads:List Addr)(p:Int×SV)(q:Value×Value):Prop:=(∃ t,q.1=.int p.1 t)∧Den ads p.2 q.2
theorem KV.mono{a b:List Addr}(p:Pre a b){x:Int×SV}{y:Value×Value}(h:KV a x y):KV b x y:=⟨h.1,h.2.mono p⟩
theorem bLk{ads:List Addr}{l:List (Int×SV)}{m:List (Value×Value)}(h:All2 (KV ads) l m):All2 (DiE ads) l (intKeyPairs m)∧allIntKeys m=true:=by
 induction h with
 |nil=>exact⟨.nil,rfl⟩
 | @cons a b l m r _ ih =>
  obtain⟨x,y⟩:=b
  obtain⟨⟨t,rfl⟩,d⟩:=r
  exact⟨.cons ⟨rfl,d⟩ ih.1,ih.2⟩
theorem aQt{ads:List Addr}{l:List (Int×SV)}{m:List (Int×Value)}(h:All2 (DiE ads) l m):aJ0 l=true→(m.map (·.1)).Nodup:=by
 induction h with
 |nil=>intro _;exact .nil
 | @cons a b l m r hh ih =>
  intro q
  have q:=aAc (show ((aCw a.1 l).isNone&&aJ0 l)=true from q)
  rw[List.map_cons,List.nodup_cons]
  refine⟨fun z=>?_,ih q.2⟩
  refine aAd (List.mem_map.mp z) fun p hp e=>?_
  have g:=aHv (k:=a.1) hh
  rw[Option.isNone_iff_eq_none.mp q.1] at g
  exact absurd (List.any_eq_false.mp g p hp) (by simp[e,r.1])
theorem aLf{kk:St→List (Int×SV)→Out SV}{pos:Pos}(R:Snd V r):∀ (ks:List (Option PySem.Expr)) (vs:List PySem.Expr) (W:Wd) (σ:St) (acc:List (Int×SV)) (accV:List (Value×Value)) (Q₁:List (Value×Value)→Shared→Prop),
  Sat G W σ→All2 (KV W.ads) acc accV→Hd G W (aIr r G.cf kk ks vs σ acc) (PV G Q) →
  (∀ {W' σ' kvs ps},Sat G W' σ'→Pre W.ads W'.ads→All2 (KV W'.ads) kvs (accV++ps)→Hd G W' (kk σ' kvs) (PV G Q)→Q₁ ps (G.st W')) →
  G.wp (evalPairs (pairTrees ks vs G.env pos)) Q₁ (G.st W):=by
 intro ks
 induction ks with
 |nil =>
  intro vs W σ acc accV Q₁ S a h g
  cases vs with
  |nil=>exact pairTrees_nil_walk (g S (.refl _) (by rw[List.append_nil];exact a) h)
  |cons _ _=>exact h.elim
 |cons k ks ih =>
  intro vs W σ acc accV Q₁ S a h g
  cases vs with
  |nil=>exact h.elim
  |cons v vs =>
   refine onO_e h fun n hk h=>?_
   refine aAd (Option.bind_eq_some_iff.mp hk) fun e r12_1 hk=>?_
   subst r12_1
   refine aZi (aEy hk) fun a1 a2 r13_2=>?_
   subst r13_2
   refine pairTrees_cons_walk (wpAny_Constant_int (R.ev (W:=W.tok (W.t+1)) (S.tok _) (Hd.up (W:=W) (W':=W.tok (W.t+1)) (.refl W.ads) h) fun {W1 σ1 y v} S1 p1 d1 h1=>?_))
   exact ih _ W1 σ1 _ (accV++[(.int n W.t,v)]) _ S1 ((a.mono fun _ _=>KV.mono p1).snoc ⟨⟨_,rfl⟩,d1⟩) h1 fun S' p al h'=>g S' (Pre.trans p1 p) (by simpa using al) h'
theorem aOp{keys:List (Option PySem.Expr)}{vals:List PySem.Expr}{pos:Pos}(R:Snd V r)(S:Sat G W σ)(h:Hd G W (aTo r G.cf keys vals σ) (PV G Q)):G.wp (eval (.Dict keys vals pos) G.env) Q (G.st W):=by
 cases keys with
 |nil =>
  refine ifT_e h fun q h=>?_
  cases vals with
  |nil=>exact newDict_K S.F S.N (Top.nolimit S.ok.T) fun d h' o F' N' lt lo _ _ hi _=>aNx S h F' N' lt ⟨[],.nil,hi⟩
  |cons _ _=>cases q
 |cons k ks =>
  refine ifT_e h fun q1 h=>ifT_e h fun q2 h=>ifT_e h fun q3 h=>?_
  have h3:=Nat.eq_of_beq_eq_true (aAc q3).1
  refine kdn_int q1 S.F S.N (Top.nolimit S.ok.T) q2 h3 (List.cons_ne_nil _ _) (Nat.le_of_ble_eq_true (aAc q3).2) fun d h' o F' N' lt lo hdo=>?_
  have S1:=S.new (so:=.di []) W.t F' N' lt ⟨[],.nil,hdo⟩
  refine aLf (W:=W.new d o h' W.t) R _ _ _ [] [] _ S1 .nil (Hd.up (W:=W) (.snoc _ _) h) fun {W2 σ2 kvs ps} S' p al h'=>?_
  rw[List.nil_append] at al
  have hx:gN W2.ads σ.led.length=some d:=p.get (by rw[S.O.len,← S.len];exact aBh)
  refine aM7 h' S' hx fun l o2 l2 h5 h6 al2 hd2 h'=>ifT_e h' fun he h'=>ifT_e h' fun hnd hz=>?_
  cases l with
  |cons _ _=>cases he
  |nil =>
   cases al2
   obtain⟨k1,k2⟩:=bLk al
   exact kdn_made_int S'.F S'.N (S'.upd hx h5) hd2 k2 (aQt k1 hnd) fun h9 o9 F9 N9 hd9=>hz (W2.put _ o9 h9 (W2.t+ps.length)) (.refl _) (S'.put _ F9 N9 ⟨_,k1,hd9⟩) _ ⟨d,hx,rfl⟩
end
section
variable {prog:Program} {w:World} {A:Around} {E:Value→Shared→Prop} {s:Shared} {Q:Value→Shared→Prop}
theorem aRb{t:Tok}(h:∀ t' k,Q (.str (Str.ofString "ffffffff") t') { s with toks:=k }):wpAny (model prog w) A (formatField (.int 4294967295 t) (PySem.Str.ofString "08x")) Q E s:=by
 refine KXf.field_int (spec':=PySem.Str.ofString "08x") (y:=Str.ofString "ffffffff") rfl (by decide +kernel) (by decide +kernel) ?_ h
 intro u
 refine KPc.meets_of fun p' w' A' s' Q' E' h'=>?_
 refine aL2 (t':=typeNameOf (.str (PySem.Str.ofString "08x") u) >>= fun _=>typeNameOfCut 200 (.int 4294967295 t) >>= fun _=>retStr (Str.ofString "ffffffff")) (by kernel_rfl) ?_
 refine wpAny_bind (wpAny_typeNameOf (T:="str") (typeIs_str _ _ _) (by decide) fun _=>?_)
 refine wpAny_bind (wpAny_typeNameOfCut_int ?_)
 exact KXf.ret_text rfl (by decide +kernel) h'
theorem aXw:∀ n:Fin 100,(Str.ofString (toString (Int.ofNat n.val))).length≤100:=by decide +kernel
theorem aOh{a:Int}{t:Tok}(h0:0≤a)(h1:a<100)(h:∀ (y:Str) t' k,y.length≤100→Q (.str y t') { s with toks:=k }):wpAny (model prog w) A (formatField (.int a t) Str.empty) Q E s:=by
 refine aA6 (Int.eq_ofNat_of_zero_le h0) fun n r0_1=>?_
 subst r0_1
 have hn:n<100:=by lia
 refine formatField_int_small ?_ (h _ _ _ (aXw ⟨n,hn⟩))
 by_cases e:n=0
 ·subst e;decide
 ·have:n.log2<7:=(Nat.log2_lt e).mpr (by lia)
  show n.log2<1920
  lia
end
section
variable {V:Vw} {G:Gd V} {W:Wd} {σ:St} {Q:Value→Shared→Prop} {r:Rec}
noncomputable def aPf(s:Shared)(Q:Value→Shared→Prop):Prop:=∀ (y:Str) t k,y.length≤100→Q (.str y t) { s with toks:=k }
theorem aXa{e:PySem.Expr}{P:Prop}(he:bPw e=some P)(h:aPf (G.st W) Q):G.wp (eval e G.env) Q (G.st W) :=
 oB he fun k hk he=>oB he fun y hy he=>by
  rw[aR3 hk,bDr hy]
  exact Constant_str (h y _ _ (Nat.le_of_ble_eq_true (aGl he).1))
theorem aRc{e:PySem.Expr}{p:Int×Bool}{u:Tok}{P:Prop}(he:bCp (some e) p=some P)(hP:P)(h:aPf (G.st W) Q):G.wp (eval e G.env) (fun r s=>∃ sp t,r=.str sp t∧wpAny (model G.X.prog G.X.w) G.A (formatField (.int p.1 u) sp) Q G.E s) (G.st W) :=
 oB he fun l hl he=>oB he fun c hc he=>oB he fun k hk he=>oB he fun z hz he=>by
  rw[bM2 hl,aQs hc,aR3 hk,bDr hz]
  refine JoinedStr_one (Constant_str ⟨z,_,rfl,?_⟩)
  cases e1:aB8 z "x" with
  |true =>
   rw[e1] at he
   have e2:=Option.some.inj he
   subst e2
   exact aLd (aCl e1) (by have:=hP.1;have:=hP.2;lia) fun y t' k hl=>h y t' k hl
  |false =>
   rw[e1] at he
   refine aBa (aGl he) fun e2 he=>?_
   have e3:=Option.some.inj he
   subst e3
   rw[aCl e2,show p.1=4294967295 from hP]
   exact aRb fun t' k=>h _ t' k (by decide +kernel)
theorem aXb{e:PySem.Expr}{P:Prop}(S:Sat G W σ)(he:bPx V G.cf.cs σ e=some P)(hP:P)(h:aPf (G.st W) Q):G.wp (eval e G.env) Q (G.st W) :=
 oB he fun f hf he=>oB he fun x hx he=>aBa (aGl he) fun hc he=>oB he fun y hy he=>oB he fun q hq he=>by
  rw[bM5 hf,aDl hx,beq_iff_eq.mp hc]
  cases hs:f.2.2.1 with
  |none =>
   rw[hs] at he
   have e:=Option.some.inj he
   subst e
   refine FormattedValue_plain (aC2 S hy fun u d=>?_)
   refine aA6 (aB6 hq d) fun t r=>?_
   subst r
   exact aOh hP.1 hP.2 fun y t k hl=>h y t k hl
  |some s =>
   rw[hs] at he
   refine wpAny_FormattedValue_spec (aC2 S hy fun u d=>?_)
   refine aA6 (aB6 hq d) fun t r=>?_
   subst r
   exact aRc he hP h
theorem aRd{e:PySem.Expr}{P:Prop}(S:Sat G W σ)(he:bCq V G.cf.cs σ e=some P)(hP:P)(h:aPf (G.st W) Q):G.wp (eval e G.env) Q (G.st W):=(bMy (C:=fun o=>o=some P) he).elim (fun he=>aXa he h) fun he=>aXb S he hP h
theorem bLl{x:Sem Value}{rest:List (Sem Value)}{out:Str}{n:Nat}{s:Shared}{A:Around}{M:Model}{E:Value→Shared→Prop}(hl:out.length≤n)(hn:n≤1000)(h:∀ Q,aPf s Q→wpAny M A x Q E s)(k:∀ (out':Str) t,out'.length≤n+100→wpAny M A (joinParts out' rest) Q E { s with toks:=t }):wpAny M A (joinParts out (x::rest)) Q E s :=
 joinParts_cons (h _ fun y t k' hy=>by
  have:(out++y).length≤n+100:=by rw[strLen_append];lia
  exact⟨by rw[sizeLine_eq];lia,k _ _ this⟩)
theorem aOj:∀ (l:List PySem.Expr) {P:Prop} {W:Wd} {out:Str} {n:Nat} (S:Sat G W σ) (he:aOk V G.cf.cs σ l=some P) (hP:P) (hl:out.length≤n) (hn:n+100*l.length≤1000)
  (h:∀ y t k,Q (.str y t) (G.st (W.tok k))),G.wp (joinParts out (evalEach l G.env)) Q (G.st W):=by
 intro l
 induction l with
 |nil=>intro P W out n S he hP hl hn h;exact joinParts_nilE (joinParts_nil (h _ _ (W.t+1)) (by rw[sizeLine_eq];simp only[List.length_nil] at hn;lia))
 |cons e l ih =>
  intro P W out n S he hP hl hn h
  refine aAd (Option.bind_eq_some_iff.mp he) fun P1 h1 he=>?_
  refine aAd (Option.map_eq_some_iff.mp he) fun P2 h2 r8_2=>?_
  subst r8_2
  simp only[List.length_cons] at hn
  exact joinParts_consE (bLl hl (by lia) (fun Q' hQ=>aRd S h1 hP.1 hQ) fun out' t hl'=>ih (W:=W.tok t) (S.tok t) h2 hP.2 hl' (by lia) fun y t' k=>h y t' k)
theorem bCy{l:List PySem.Expr}{pos:Pos}(S:Sat G W σ)(h:Hd G W (evJ V G.cf.cs l σ) (PV G Q)):G.wp (eval (.JoinedStr l pos) G.env) Q (G.st W):=by
 cases l with
 |nil=>exact h.elim
 |cons a l=>cases l with
  |nil=>exact h.elim
  |cons b l=>exact ifT_e h fun hb h=>onO_e h fun P hP h=>JoinedStr_many (aOj (a::b::l) (n:=0) S hP h.1 (Nat.le_refl _) (by have:=Nat.le_of_ble_eq_true hb;simp only[List.length_cons];lia) fun y t k=>h.2 (W.tok k) (.refl _) (S.tok k) _ ⟨y,t,rfl⟩)
theorem aXy{l rr:PySem.Expr}{op:CmpOp}{pos:Pos}(R:Snd V r)(S:Sat G W σ)(h:Hd G W (bF7 V r G.cf l op rr σ) (PV G Q)):G.wp (eval (.Compare l [op] [rr] pos) G.env) Q (G.st W) :=
 ifT_e h fun hm h=>wpAny_Compare1 (R.ev S h fun S1 p1 d1 h1=>R.ev S1 h1 fun S2 p2 d2 h2=>aKd S2 (d1.mono p2) d2 h2) (aBu hm)
theorem bC1{x:PySem.Expr}(R:Snd V r)(S:Sat G W σ)(h:Hd G W (evE V r G.cf x σ) (PV G Q)):G.wp (eval x G.env) Q (G.st W):=by
 cases x with
 |Name y p=>exact aEu S h
 |Constant k a b=>exact aLg S h
 |BinOp l op rr p=>exact wpAny_BinOp (R.ev S h fun S1 p1 d1 h1=>R.ev S1 h1 fun S2 p2 d2 h2=>aRo S2 (d1.mono p2) d2 h2)
 |Compare l ops rs p=>exact aS9 h fun op rr e1 e2 h=>by subst e1 e2;exact aXy R S h
 |Attribute o attr p=>cases o with
  |Name y q=>exact Attribute_Name_ (aEu S (h.to fun S' p h v d=>aKi S' d h))
  |_=>exact h.elim
 |Call f args kws p=>cases kws with
  |nil=>exact aOs R S h
  |cons _ _=>exact h.elim
 |Subscript v sl p=>exact ifT_e h fun hs h=>Subscript_ (R.ev S h fun S1 p1 d1 h1=>R.ev S1 h1 fun S2 p2 d2 h2=>aRj hs S2 (d1.mono p2) d2 h2)
 |Tuple l k p=>exact Tuple_ (R.evs S h fun S1 p1 d1 h1=>aK2 S1 d1 h1)
 |List l p=>exact List_ (R.evs S h fun S1 p1 d1 h1=>aK3 S1 d1 h1)
 |Dict ks vs p=>exact aOp R S h
 |IfExp t b o p=>exact aRl R S h
 |JoinedStr l p=>exact bCy S h
 |_=>exact h.elim
theorem aXk{l:List PySem.Expr}{pos:Pos}{Q:List Value→Shared→Prop}(R:Snd V r)(S:Sat G W σ)(h:Hd G W (bP5 r G.cf l σ) (PS G Q)):G.wp (spliced (backTo pos (starEach l G.env))) Q (G.st W):=by
 cases l with
 |nil=>exact args_nil (h W (.refl _) S _ .nil)
 |cons e l=>exact ifT_e h fun hst h=>args_cons (R.ev S h fun S1 p1 d1 h1=>R.evs S1 h1 fun {W2 σ2 y v} S2 p2 d2 h2=>h2 W2 (.refl _) S2 _ (.cons (d1.mono p2) d2)) (aAb hst)
end
noncomputable def aKg(V:Vw)(op:CmpOp)(a:SV)(σ1:St)(b:SV):Out Bool:=bd (aOr V op a b σ1) fun σ2 y=>aGd y σ2
noncomputable def aIs(V:Vw)(r:Rec)(cf:Cf):SV→List CmpOp→List PySem.Expr→St→Out Bool
 |_,[],_,_=>.f
 |a,op::ops,es,σ=>(match es with
  | []=>.f
  |e::es=>(match ops with
   | []=>ifT es.isEmpty (bd (r.e cf e σ) (aKg V op a))
   |_::_=>ifT (!es.isEmpty) (bd (r.e cf e σ) fun σ1 b=>bd (aKg V op a σ1 b) fun σ3 t=>match t with
    |true=>aIs V r cf b ops es σ3
    |false=>.p σ3 false)))
noncomputable def bP6(V:Vw)(r:Rec)(cf:Cf)(l:PySem.Expr)(ops:List CmpOp)(rs:List PySem.Expr)(σ:St):Out Bool:=match ops with
 | []=>.f
 |op::ops=>(match rs with
  | []=>.f
  |rr::rs=>(match ops with
   | []=>ifT (rs.isEmpty&&!(behindInMarks op rr)) (bd (r.e cf l σ) fun σ1 a=>bd (r.e cf rr σ1) fun σ2 b=>aKg V op a σ2 b)
   |o2::ops=>(match rs with
    | []=>.f
    |r2::rs=>ifT (!(lastMarks (op::o2::ops) (rr::r2::rs))) (bd (r.e cf l σ) fun σ1 a=>aIs V r cf a (op::o2::ops) (rr::r2::rs) σ1))))
noncomputable def aTq(r:Rec)(cf:Cf)(op:BoolOp)(l:List PySem.Expr)(pos:Pos)(σ:St):Out Bool:=match op with
 | .And=>(match l with
  | []=>.p σ true
  |y::rest=>bd (r.b cf y σ) fun σ1 t=>match t with
   |true=>r.b cf (.BoolOp .And rest pos) σ1
   |false=>.p σ1 false)
 | .Or=>(match l with
  | []=>.p σ false
  |y::rest=>bd (r.b cf y σ) fun σ1 t=>match t with
   |true=>.p σ1 true
   |false=>r.b cf (.BoolOp .Or rest pos) σ1)
noncomputable def evB(V:Vw)(r:Rec)(cf:Cf)(x:PySem.Expr)(σ:St):Out Bool:=bif aG3 x then bd (r.e cf x σ) fun σ1 y=>aGd y σ1
 else alt (asM x) (fun q=>bP6 V r cf q.1 q.2.1 q.2.2.1 σ) (alt (asB x) (fun q=>aTq r cf q.1 q.2.1 q.2.2 σ) (onO (asO x) fun q=>match q.1 with
  | .Not=>bd (r.b cf q.2.1 σ) fun σ1 t=>.p σ1 (!t)
  |_=>.f))
section
variable {V:Vw} {G:Gd V} {W:Wd} {σ:St} {Q:Bool→Shared→Prop} {r:Rec}
theorem aKm{α:Type}{Φ:Wd→St→α→Prop}{y:SV}{v:Value}{k:St→Bool→Out α}{Q₁:Bool→Shared→Prop}(S:Sat G W σ)(d:Den W.ads y v)(h:Hd G W (bd (aGd y σ) k) Φ)
  (g:∀ {W' σ' t},Sat G W' σ'→Pre W.ads W'.ads→Hd G W' (k σ' t) Φ→Q₁ t (G.st W')):G.wp (truthy v) Q₁ (G.st W) :=
 aCr S d (h.to (Ψ:=PB G Q₁) fun S p h=>g S p h)
theorem aLh{pos:Pos}(R:Snd V r):∀ (ops:List CmpOp) (es:List PySem.Expr) (a:SV) (va:Value) (W:Wd) (σ:St),Sat G W σ→Den W.ads a va →
  Hd G W (aIs V r G.cf a ops es σ) (PB G Q)→G.wp (testChain pos va ops (evalEach es G.env)) Q (G.st W):=by
 intro ops
 induction ops with
 |nil=>intro es a va W σ S d h;exact h.elim
 |cons op ops ih =>
  intro es a va W σ S d h
  cases es with
  |nil=>exact h.elim
  |cons e es=>cases ops with
   |nil =>
    refine ifT_e h fun q hz=>?_
    cases es with
    |cons _ _=>cases q
    |nil=>exact test_last (R.ev S hz fun S1 p1 d1 h1=>aD5 S1 (d.mono p1) d1 h1 fun S2 p2 d2 h2=>aCr S2 d2 h2)
   |cons o2 ops =>
    refine ifT_e h fun q hz=>?_
    cases es with
    |nil=>cases q
    |cons e2 es =>
     refine test_link (R.ev S hz fun {W1 σ1 y1 v1} S1 p1 d1 h1=>?_)
     unfold aKg at h1
     rw[aC8] at h1
     refine aD5 S1 (d.mono p1) d1 h1 fun {W2 σ2 y2 v2} S2 p2 d2 h2=>aKm S2 d2 h2 fun {W3 σ3 t} S3 p3 h3=>?_
     cases t with
     |true=>exact ih (e2::es) y1 v1 W3 σ3 S3 ((d1.mono p2).mono p3) h3
     |false=>exact h3 W3 (.refl _) S3
theorem aXm{l:PySem.Expr}{ops:List CmpOp}{rs:List PySem.Expr}{pos:Pos}(R:Snd V r)(S:Sat G W σ)(h:Hd G W (bP6 V r G.cf l ops rs σ) (PB G Q)):G.wp (isTrue (.Compare l ops rs pos) G.env (eval (.Compare l ops rs pos) G.env)) Q (G.st W):=by
 cases ops with
 |nil=>exact h.elim
 |cons op ops=>cases rs with
  |nil=>exact h.elim
  |cons rr rs=>cases ops with
   |nil =>
    refine ifT_e h fun q hz=>?_
    cases rs with
    |cons _ _=>cases (aAc q).1
    |nil=>exact wpAny_isTrue_Compare1 (R.ev S hz fun S1 p1 d1 h1=>R.ev S1 h1 fun S2 p2 d2 h2=>aD5 S2 (d1.mono p2) d2 h2 fun S3 p3 d3 h3=>aCr S3 d3 h3) (aBu (aAc q).2)
   |cons o2 ops=>cases rs with
    |nil=>exact h.elim
    |cons r2 rs=>exact ifT_e h fun hm h=>isTrue_chain (R.ev S h fun S1 p1 d1 h1=>aLh R _ _ _ _ _ _ S1 d1 h1) (aBu hm)
theorem aOt{op:BoolOp}{l:List PySem.Expr}{p:Pos}(R:Snd V r)(S:Sat G W σ)(h:Hd G W (aTq r G.cf op l p σ) (PB G Q)):G.wp (isTrue (.BoolOp op l p) G.env (eval (.BoolOp op l p) G.env)) Q (G.st W):=by
 cases op with
 |And=>cases l with
  |nil=>exact isTrue_and_nil (h W (.refl _) S)
  |cons y l=>exact isTrue_and (R.cond S h fun {W1 σ1 t} S1 p1 h1=>by
    cases t with
    |true=>exact R.b S1 h1
    |false=>exact h1 W1 (.refl _) S1)
 |Or=>cases l with
  |nil=>exact isTrue_or_nil (h W (.refl _) S)
  |cons y l=>exact isTrue_or (R.cond S h fun {W1 σ1 t} S1 p1 h1=>by
    cases t with
    |true=>exact h1 W1 (.refl _) S1
    |false=>exact R.b S1 h1)
theorem bC5{x:PySem.Expr}(R:Snd V r)(S:Sat G W σ)(h:Hd G W (evB V r G.cf x σ) (PB G Q)):G.wp (isTrue x G.env (eval x G.env)) Q (G.st W):=by
 refine aR2 (C:=fun o=>Hd G W o (PB G Q)) h (fun e h=>isTrue_plain (R.ev S h fun S' p d h'=>aCr S' d h') (by cases x<;>first|rfl|cases e)) fun h=>aE1 (C:=fun o=>Hd G W o (PB G Q)) h (fun q hq h=>?_) fun h=>aE1 (C:=fun o=>Hd G W o (PB G Q)) h (fun q hq h=>?_) fun h=>onO_e h fun q hq h=>?_
 ·rw[bDs hq]
  exact aXm R S h
 ·rw[bM6 hq]
  exact aOt R S h
 ·rw[bM1 hq]
  obtain⟨op,y,p⟩:=q
  cases op with
  |Not=>exact isTrue_not (R.cond S h fun {W1 σ1 t} S1 p1 h1=>h1 W1 (.refl _) S1)
  |_=>exact h.elim
end
noncomputable def aFe(cs:Scope)(x:Str)(y:SV)(σ:St):Out Unit:=ifT (aBv cs x .local) (.p ⟨(x,y)::σ.m,σ.led,σ.orc⟩ ())
noncomputable def aR5(V:Vw)(cs:Scope)(x:Str)(y:SV)(σ:St):Out Unit:=onO (V.cells x) fun i=>onO (gN σ.led i) fun so=>match so with
 | .cell _=>ifT (aBv cs x .cell&&Nat.ble 20 cs.names.length) (.p (σ.put i (.cell (some y))) ())
 |_=>.f
noncomputable def aS3(name:Str)(y:SV):List (Str×SV)→List (Str×SV)
 | []=>[(name,y)]
 |p::r=>bif aB8 p.1 name then (p.1,y)::r else p::aS3 name y r
noncomputable def bKc(o:Option SV)(n:Nat):Nat:=match o with
 |some _=>n
 |none=>n+1
noncomputable def bD8(V:Vw)(ov:SV)(name:Str)(y:SV)(σ:St):Out Unit:=onA ov fun i=>onO (gN σ.led i) fun so=>match so with
 | .inst C d=>ifT (V.ps C name) (aM4 σ d fun es n=>ifT (Nat.ble es.length 900) (.p (σ.put d (.ns (aS3 name y es) (bKc (aD6 name es) n))) ()))
 | .xd C d=>ifT (V.xs C name) (aM4 σ d fun es n=>ifT (Nat.ble es.length 900) (.p (σ.put d (.ns (aS3 name y es) (bKc (aD6 name es) n))) ()))
 | .xr C=>ifT (V.xs C name) (.p ⟨σ.m,stN σ.led i (.xd C σ.led.length)++[.ns [(name,y)] 1],σ.orc⟩ ())
 |_=>.f
noncomputable def bGt:List SV→Nat→SV→Option (List SV)
 | [],_,_=>none
 |x::r,k,v=>(match k with
  | 0=>some (v::r)
  |k+1=>(bGt r k v).map (x::·))
noncomputable def bC7(k:Int)(y:SV)(kvs:List (Int×SV)):List (Int×SV):=bif (aCw k kvs).isSome then kvs.map (fun p=>if p.1=k then (p.1,y) else p) else kvs++[(k,y)]
noncomputable def bGu(ov iv y:SV)(σ:St):Out Unit:=onA ov fun j=>onO (gN σ.led j) fun so=>match so with
 | .seq tup vs n=>onZ iv fun x=>ifT (!tup&&bt 0 x 99999) (onO (bGt vs x.toNat y) fun q=>.p (σ.put j (.seq tup q n)) ())
 | .di kvs=>onZ iv fun x=>ifT (Nat.ble kvs.length 1000) (.p (σ.put j (.di (bC7 x y kvs))) ())
 | .dv b n puts facts=>onN iv fun x _=>.g (n+puts.length≤1000) (.p (σ.put j (.dv b n ((x,y)::puts) [(x,some y)])) ())
 |_=>.f
section
variable {V:Vw} {X:Ctx V}
theorem aG2{name:Str}{y:SV}{p:Str×SV}{r:List (Str×SV)}:aS3 name y (p::r)=if p.1=name then (p.1,y)::r else p::aS3 name y r:=by
 show (bif aB8 p.1 name then _ else _)=_
 by_cases h:p.1=name
 ·rw[if_pos h,aCe.mpr h];rfl
 ·rw[if_neg h,aCm.mpr h];rfl
theorem aJv{ads:List Addr}{name:Str}{y:SV}{v:Value}{t:Tok}(d:Den ads y v){es:List (Str×SV)}{l:List DictEntry}(h:All2 (NsE X ads) es l):All2 (NsE X ads) (aS3 name y es) (putL name (PyData.keyHash X.w.params name) (.str name t) v l):=by
 induction h with
 |nil=>exact .cons ⟨t,v,d,rfl⟩ .nil
 | @cons a b es l r hh ih =>
  obtain⟨x,z⟩:=a
  refine aGf r fun t' v' d' r1_3=>?_
  subst r1_3
  rw[aG2]
  unfold putL
  dsimp only
  by_cases e:x=name
  ·rw[if_pos e,if_pos (by show (x==name)=true;rw[e];exact beq_self_eq_true _)]
   exact .cons ⟨t',v,d,rfl⟩ hh
  ·rw[if_neg e,if_neg (by show ¬ (x==name)=true;rw[beq_iff_eq];exact e)]
   exact .cons ⟨t',v',d',rfl⟩ ih
theorem aJw{name:Str}{y:SV}:∀ {es:List (Str×SV)},(aS3 name y es).length≤es.length+1
 | []=>Nat.le_refl _
 |p::r=>by
  rw[aG2]
  split
  ·exact Nat.le_succ _
  ·exact Nat.succ_le_succ aJw
end
theorem aP9{ads:List Addr}{y:SV}{v:Value}(d:Den ads y v):∀ {vs:List SV} {l:List Value} {k:Nat} {q:List SV},Dens ads vs l→bGt vs k y=some q→∃ q',ki_setL l k v=some q'∧Dens ads q q':=by
 intro vs l k q h
 induction h generalizing k q with
 |nil=>intro e;cases e
 | @cons a b vs l r hh ih =>
  intro e
  cases k with
  |zero=>cases e;exact⟨_,rfl,.cons d hh⟩
  |succ k =>
   refine aAd (Option.map_eq_some_iff.mp e) fun q2 h2 r2_2=>?_
   subst r2_2
   refine aAd (ih h2) fun q' e1 e2=>?_
   exact⟨b::q',by unfold ki_setL;rw[e1],.cons r e2⟩
theorem aOy{ads:List Addr}{k:Int}{y:SV}{v:Value}(d:Den ads y v){kvs:List (Int×SV)}{l:List (Int×Value)}(h:All2 (DiE ads) kvs l):All2 (DiE ads) (bC7 k y kvs) (stored l k v) :=
 aR6 (p:=(k,y)) (q:=(k,v)) ⟨rfl,d⟩ h
section
variable {V:Vw} {G:Gd V} {W:Wd} {σ:St} {Q:Unit→Shared→Prop} {r:Rec}
theorem MD.put{ads:List Addr}{l:List (Str×SV)}{m:Str→Option Value}{x:Str}{y:SV}{v:Value}(M:MD ads l m)(d:Den ads y v):MD ads ((x,y)::l) (fun z=>if z=x then some v else m z):=fun z w e=>by
 have e:(if x=z then some y else aD6 z l)=some w:=(aAs (p:=(x,y)) (r:=l)).symm.trans e
 by_cases q:x=z
 ·rw[if_pos q] at e;cases e;exact⟨v,if_pos q.symm,d⟩
 ·rw[if_neg q] at e;exact (M z w e).elim fun u k=>⟨u,(if_neg (Ne.symm q)).trans k.1,k.2⟩
theorem aEb{x:Str}{y:SV}{v:Value}(S:Sat G W σ)(d:Den W.ads y v)(h:Hd G W (aFe G.cf.cs x y σ) (PU G Q)):G.wp (storeName G.env x v) Q (G.st W) :=
 ifT_e h fun hk h=>storeX_L S.F S.N (fun h' F' N'=>h (W.hp (fun z=>if z=x then some v else W.m z) h' (W.t+1)) (.refl _) (S.hp _ F' (S.M.put d) N' _)) S.ok.hk (aA5 hk)
theorem aL6{x:Str}{y:SV}{v:Value}(S:Sat G W σ)(d:Den W.ads y v)(h:Hd G W (aR5 V G.cf.cs x y σ) (PU G Q)):G.wp (storeName G.env x v) Q (G.st W) :=
 onO_e h fun i hi h=>onO_e h fun so hso h=>by
  cases so with
  |cell y0 =>
   refine ifT_e h fun q h=>(S.cl (aAc q).2 x i hi).elim fun a k=>?_
   refine aDp (S.slot hso k.1) fun o h1 h2 dd=>?_
   have:∃ v0,o.data=.cell v0:=by
    cases y0 with
    |none=>exact⟨_,dd⟩
    |some y1=>exact dd.elim fun v q=>⟨_,q.2⟩
   exact this.elim fun v0 hd=>storeX_C S.F S.N k.2 (S.upd k.1 h1) hd (fun h' o' F' N' hd'=>h (W.put i o' h' W.t) (.refl _) (S.put _ F' N' ⟨v,d,hd'⟩)) S.ok.hk (aA5 (aAc q).1)
  |_=>exact h.elim
theorem bB1{ads:List Addr}{name:Str}{y:SV}{v:Value}{t:Tok}{es:List (Str×SV)}{l:List DictEntry}{n:Nat}{X:Ctx V}(d:Den ads y v)(al:All2 (NsE X ads) es l):DenO X ads (.ns (aS3 name y es) (bKc (aD6 name es) n)) (dictOf (putL name (PyData.keyHash X.w.params name) (.str name t) v l) (putN name l n)):=by
 refine⟨_,aJv (t:=t) d al,?_⟩
 unfold putN
 rw[(aIf (name:=name) al).2.1]
 cases aD6 name es<;>rfl
theorem aN7{ads:List Addr}{name:Str}{es:List (Str×SV)}{l:List DictEntry}{X:Ctx V}(al:All2 (NsE X ads) es l):(getL name l).isSome=true:=by
 cases e:aD6 name es with
 |none=>rw[aEn al e];rfl
 |some y=>exact (aHl al e).elim fun v q=>by rw[q.1];rfl
theorem aS2{ads:List Addr}{name:Str}{y:SV}{v:Value}{t:Tok}{es:List (Str×SV)}{l:List DictEntry}{X:Ctx V}(d:Den ads y v)(al:All2 (NsE X ads) es l)(h:Nat.ble es.length 900=true):(putL name (PyData.keyHash X.w.params name) (.str name t) v l).length≤1000:=by
 rw[← (aJv (t:=t) d al).len]
 have:=aJw (name:=name) (y:=y) (es:=es)
 have:=Nat.le_of_ble_eq_true h
 omega
theorem aH5{ov y:SV}{vo v:Value}{name:Str}(S:Sat G W σ)(do_:Den W.ads ov vo)(d:Den W.ads y v)(h:Hd G W (bD8 V ov name y σ) (PU G Q)):G.wp (setAttr vo name v) Q (G.st W) :=
 aDq h do_ fun i x hx qe h=>qe▸aG5 h S hx fun so o ho hm dd h=>by
  cases so with
  |inst C dn =>
   refine aAd dd fun dx hdx r5_2=>?_
   subst r5_2
   exact ifT_e h fun q h=>aM3 h S hdx fun es n l ho2 hm2 al h=>ifT_e h fun q2 h =>
    let k:=G.X.vo.ps q
    set_dict S.F S.ok.K S.N (InstAt.of_news S.N hm hm2) rfl k.1 k.2.1 k.2.2.1 k.2.2.2 (aN7 al) rfl (aFw S.nd hdx ho2) (aS2 d al q2) fun h' F' N'=>h (W.put dn _ h' (W.t+2)) (.refl _) (S.put _ F' N' (bB1 d al))
  |xd C dn =>
   refine aGf dd fun dx t hdx r6_3=>?_
   subst r6_3
   exact ifT_e h fun q h=>aM3 h S hdx fun es n l ho2 hm2 al h=>ifT_e h fun q2 h =>
    let k:=G.X.vo.xs q
    aL9 S.F S.ok.K S.N hm hm2 k.1 k.2.1 k.2.2.1 k.2.2.2 (aN7 al) rfl (aFw S.nd hdx ho2) (aS2 d al q2) fun h' F' N'=>h (W.put dn _ h' (W.t+2)) (.refl _) (S.put _ F' N' (bB1 d al))
  |xr C =>
   refine aA6 dd fun t r7_1=>?_
   subst r7_1
   refine ifT_e h fun q h=>?_
   refine aDp (aD0 S.nd hx ho) fun rest h1 h2 h3=>?_
   have k:=G.X.vo.xs q
   refine aKp S.F S.ok.K S.N h1 h2 k.1 k.2.1 k.2.2.1 k.2.2.2 fun D h' F' N' lt=>?_
   have N2:=News.swap N'
   exact h ⟨W.ads++[D],stN W.objs i (exO C D (vsX t))++[_],W.m,h',W.t+2⟩ (.snoc _ _) (S.putNew _ (h3 _) F' N2 lt ⟨D,t,by rw[S.O.len,← S.len];exact aBh,rfl⟩ ⟨_,.cons ⟨_,v,d.mono (.snoc _ _),rfl⟩ .nil,rfl⟩)
  |_=>exact h.elim
theorem aMa{ov iv y:SV}{vo vi v:Value}(S:Sat G W σ)(do_:Den W.ads ov vo)(di:Den W.ads iv vi)(d:Den W.ads y v)(h:Hd G W (bGu ov iv y σ) (PU G Q)):G.wp (setItem vo vi v) Q (G.st W) :=
 aDq h do_ fun j x hx qe h=>qe▸aG5 h S hx fun so o ho hm dd h=>by
  cases so with
  |seq tup vs n =>
   refine aAd dd fun l al r9_2=>?_
   subst r9_2
   refine aM2 h di fun z t qe h=>qe▸ifT_e h fun q h=>onO_e h fun q2 hq2 hz=>?_
   cases aBu (aAc q).1
   have b:=aGj (aAc q).2
   exact (aP9 d al hq2).elim fun q' e=>ki_set S.F S.N b.1 (by omega) (by simpa using e.1) (aFw S.nd hx ho) fun h' F' N'=>hz (W.put j _ h' W.t) (.refl _) (S.put _ F' N' ⟨q',e.2,rfl⟩)
  |di kvs =>
   refine aAd dd fun l al hdo=>?_
   exact aM2 h di fun z t qe h=>qe▸ifT_e h fun q h=>kda_set (knd:=intKind G.X.prog G.X.w) S.F S.N (S.upd hx ho) hdo (intKind_is _ _ _ _) (by have:=Nat.le_of_ble_eq_true q;rw[al.len] at this;rw[sizeLine_eq];omega) fun h' o' F' N' hd'=>h (W.put j o' h' (W.t+1)) (.refl _) (S.put _ F' N' ⟨_,aOy d al,hd'⟩)
  |dv b n puts facts =>
   refine aOw dd fun l0 l hj0 hl0 hp hf hdo=>?_
   exact aEh h di fun z lz t qe h=>qe▸kda_set (knd:=intKind G.X.prog G.X.w) S.F S.N (S.upd hx ho) hdo (intKind_is _ _ _ _) (by have:=aDz hp hl0;have:=h.1;rw[sizeLine_eq];omega) fun h' o' F' N' hd' =>
    h.2 (W.put j o' h' (W.t+1)) (.refl _) (S.put _ F' N' ⟨l0,_,hj0,hl0,.cons hp d,fun f hf=>List.mem_singleton.mp hf▸⟨v,aEa,d⟩,hd'⟩)
  |_=>exact h.elim
end
noncomputable def aJa(V:Vw)(cf:Cf)(x:Str)(σ:St)(y:SV):Out Unit:=match aBv cf.cs x .cell with
 |true=>aR5 V cf.cs x y σ
 |false=>aFe cf.cs x y σ
noncomputable def aO9(V:Vw)(r:Rec)(cf:Cf)(t:PySem.Expr)(y:SV)(σ:St):Out Unit:=alt (asN t) (fun q=>aJa V cf q.1 σ y) (alt (asA t) (fun q=>bd (r.e cf q.1 σ) fun σ1 ov=>bD8 V ov q.2.1 y σ1) (onO (asU t) fun q=>bd (r.e cf q.1 σ) fun σ1 ov=>bd (r.e cf q.2.1 σ1) fun σ2 iv=>bGu ov iv y σ2))
noncomputable def aI2(V:Vw)(r:Rec)(cf:Cf):List PySem.Expr→List SV→St→Out Unit
 | [],ys,σ=>(match ys with
  | []=>.p σ ()
  |_::_=>.f)
 |t::ts,ys,σ=>(match ys with
  | []=>.f
  |y::ys=>ifT (notStar t) (bd (aO9 V r cf t y σ) fun σ1 _=>aI2 V r cf ts ys σ1))
noncomputable def aI1(cf:Cf):List Str→List SV→St→Out Unit
 | [],ys,σ=>(match ys with
  | []=>.p σ ()
  |_::_=>.f)
 |x::xs,ys,σ=>(match ys with
  | []=>.f
  |y::ys=>bd (aFe cf.cs x y σ) fun σ1 _=>aI1 cf xs ys σ1)
noncomputable def aZg:SO→Option (Option Nat)
 | .ex _ _ c=>some c
 |_=>none
noncomputable def aGh(σ:St):Option Nat→Bool
 |none=>true
 |some j=>(match (gN σ.led j).bind aZg with
  |some c=>(match c with
   |none=>true
   |some i=>(match (gN σ.led i).bind aZg with
    |some c=>c.isNone&&!(Nat.beq i j)
    |none=>false))
  |none=>false)
noncomputable def bGi(V:Vw)(r:Rec)(cf:Cf)(elts:List PySem.Expr)(σ:St)(y:SV):Out Unit:=onA y fun i=>onSeq σ i fun tup vs _=>ifT tup (ifT (Nat.beq vs.length elts.length) (ifT (elts.all notStar) (ifT (aGh σ cf.hd) (aI2 V r cf elts vs σ))))
noncomputable def swp(cf:Cf)(names:List Str)(σ:St)(y:SV):Out Unit:=onA y fun i=>onSeq σ i fun tup vs _=>ifT tup (ifT (Nat.beq vs.length names.length) (ifT cf.hd.isNone (aI1 cf names.reverse vs.reverse σ)))
noncomputable def bM9(old:SV)(y:SV)(k:SV→Out Unit):Out Unit:=onN old fun x lx=>onN y fun z lz=>k (mkI (lx&&lz) (x+z))
noncomputable def aEk(e:PySem.Expr):Bool:=!aQ7 e.ctorIdx [8,9,10]
noncomputable def aXr(cs:Scope):Env:=envX "" cs 0 0 .none []
noncomputable def aIq(r:Rec)(cf:Cf)(t:PySem.Expr)(b:List Stmt):Nat→St→Out Flw
 | 0,_=>.f
 |n+1,σ=>bd (r.b cf t σ) fun σ1 q=>match q with
  |true=>bn (r.bk cf b σ1) fun σ2=>aIq r cf t b n σ2
  |false=>.p σ1 .n
noncomputable def fin(o:Out Unit):Out Flw:=bd o fun σ _=>.p σ .n
noncomputable def asg(V:Vw)(r:Rec)(cf:Cf)(t:PySem.Expr)(v:PySem.Expr)(σ:St):Out Unit:=alt (asT t) (fun q=>onO (pureOf (swappedStores [.Tuple q.1 q.2.1 q.2.2] v (aXr cf.cs))) fun o=>alt o (fun names=>bd (r.e cf v σ) (swp cf names)) (bd (r.e cf v σ) (bGi V r cf q.1)))
 (alt (asN t) (fun q=>bd (r.e cf v σ) (aJa V cf q.1)) (alt (asA t) (fun q=>bd (r.e cf v σ) fun σ1 y=>bd (r.e cf q.1 σ1) fun σ2 ov=>bD8 V ov q.2.1 y σ2) (onO (asU t) fun q=>bd (r.e cf v σ) fun σ1 y=>bd (r.e cf q.1 σ1) fun σ2 ov=>bd (r.e cf q.2.1 σ2) fun σ3 iv=>bGu ov iv y σ3)))
noncomputable def aug(V:Vw)(r:Rec)(cf:Cf)(t:PySem.Expr)(v:PySem.Expr)(σ:St):Out Unit:=alt (asN t) (fun q=>ifT (aBv cf.cs q.1 .local) (onO (aD6 q.1 σ.m) fun old=>bd (r.e cf v σ) fun σ1 y=>bM9 old y fun z=>aFe cf.cs q.1 z σ1)) (onO (asA t) fun q=>bd (r.e cf q.1 σ) fun σ1 ov=>bd (aYh V ov q.2.1 σ1) fun σ2 old=>bd (r.e cf v σ2) fun σ3 y=>bM9 old y fun z=>bD8 V ov q.2.1 z σ3)
noncomputable def bLw(r:Rec)(cf:Cf)(e:Option PySem.Expr)(σ:St):Out Flw:=match e with
 |some e=>bd (r.e cf e σ) fun σ1 y=>.p σ1 (.r y)
 |none=>.p σ (.r (.k .none))
noncomputable def exB(r:Rec)(cf:Cf)(l:List Stmt)(σ:St):Out Flw:=match l with
 | []=>.p σ .n
 |st::rest=>bn (r.st cf st σ) fun σ1=>r.bk cf rest σ1
section
variable {V:Vw} {G:Gd V} {W:Wd} {σ:St} {r:Rec}
theorem aGs{x:Str}{y:SV}{v:Value}{Q:Unit→Shared→Prop}(S:Sat G W σ)(d:Den W.ads y v)(h:Hd G W (aJa V G.cf x σ y) (PU G Q)):G.wp (storeName G.env x v) Q (G.st W):=by
 unfold aJa at h
 cases e:aBv G.cf.cs x .cell with
 |true=>simp only[e] at h;exact aL6 S d h
 |false=>simp only[e] at h;exact aEb S d h
theorem aLo{t:PySem.Expr}{y:SV}{v:Value}{Q:Unit→Shared→Prop}(R:Snd V r)(S:Sat G W σ)(d:Den W.ads y v)(h:Hd G W (aO9 V r G.cf t y σ) (PU G Q)):G.wp (assign t G.env v) Q (G.st W):=by
 refine aE1 (C:=fun o=>Hd G W o (PU G Q)) h (fun q hq h=>?_) fun h=>aE1 (C:=fun o=>Hd G W o (PU G Q)) h (fun q hq h=>?_) fun h=>onO_e h fun q hq h=>?_
 ·rw[aDl hq];exact assign_Name (aGs S d h)
 ·rw[aLp hq];exact kas_attr (R.ev S h fun S1 p1 d1 h1=>aH5 S1 d1 (d.mono p1) h1)
 ·rw[bDp hq];exact kas_sub (R.ev S h fun S1 p1 d1 h1=>R.ev S1 h1 fun S2 p2 d2 h2=>aMa S2 (d1.mono p2) d2 ((d.mono p1).mono p2) h2)
theorem aCp{t:PySem.Expr}{ts:List PySem.Expr}{env:Env}(h:notStar t=true):assignEach (t::ts) env=(false,assign t env)::assignEach ts env:=by cases t<;>first|rfl|cases h
theorem aLn{Q:Unit→Shared→Prop}(R:Snd V r):∀ (ts:List PySem.Expr) (ys:List SV) (vs:List Value) (W:Wd) (σ:St),Sat G W σ→Dens W.ads ys vs→Hd G W (aI2 V r G.cf ts ys σ) (PU G Q)→G.wp (assignInOrder ((assignEach ts G.env).map (·.2)) vs) Q (G.st W):=by
 intro ts
 induction ts with
 |nil=>intro ys vs W σ S a h;cases a with
  |nil=>exact assignInOrder_nil (h W (.refl _) S)
  |cons _ _=>exact h.elim
 |cons t ts ih=>intro ys vs W σ S a h;cases a with
  |nil=>exact h.elim
  | @cons y v ys vs d a =>
   refine ifT_e h fun hst h=>?_
   rw[aCp hst]
   exact assignInOrder_cons (aLo R S d (h.to (Ψ:=PU G _) fun {W1 σ1 _} S1 p1 h1=>ih _ _ W1 σ1 S1 (Dens.mono p1 a) h1))
theorem aLm{Q:Unit→Shared→Prop}:∀ (xs:List Str) (ys:List SV) (vs:List Value) (W:Wd) (σ:St),Sat G W σ→Dens W.ads ys vs→Hd G W (aI1 G.cf xs ys σ) (PU G Q)→G.wp (assignInOrder (xs.map fun n=>bindName G.env n) vs) Q (G.st W):=by
 intro xs
 induction xs with
 |nil=>intro ys vs W σ S a h;cases a with
  |nil=>exact assignInOrder_nil (h W (.refl _) S)
  |cons _ _=>exact h.elim
 |cons x xs ih=>intro ys vs W σ S a h;cases a with
  |nil=>exact h.elim
  | @cons y v ys vs d a=>exact assignInOrder_cons (bindName_ (aEb S d (h.to (Ψ:=PU G _) fun {W1 σ1 _} S1 p1 h1=>ih _ _ W1 σ1 S1 (Dens.mono p1 a) h1)))
theorem aOn{i:Nat}{a:Addr}{c:Option Nat}(S:Sat G W σ)(ha:gN W.ads i=some a)(h:(gN σ.led i).bind aZg=some c):∃ C d vs a0,W.h.get? a=some (exO C d vs)∧vs[2]?=some a0∧CtxR W.ads c a0:=by
 refine aAd (Option.bind_eq_some_iff.mp h) fun so h1 h2=>?_
 cases so with
 |ex C d ctx=>cases h2;obtain⟨o,k1,k2,dx,vs,a0,k3,rfl,k4,k5⟩:=S.slot h1 ha;exact⟨C,dx,vs,a0,(S.N _ k2).1,k4,k5⟩
 |_=>exact nn h2
theorem aIx{e1:Addr}{j:Nat}(S:Sat G W σ)(he:gN W.ads j=some e1)(h:aGh σ (some j)=true):CtxOk W.h e1 []:=by
 unfold aGh at h
 cases e:(gN σ.led j).bind aZg with
 |none=>simp only[e] at h;cases h
 |some c =>
  simp only[e] at h
  refine bL3 (aOn S he e) fun C d vs a0 k1 k2 k3=>?_
  cases c with
  |none=>exact⟨C,d,vs,k1,List.not_mem_nil,.inl (k2.trans (congrArg some k3))⟩
  |some i =>
   refine aAd k3 fun a ha r2_2=>?_
   subst r2_2
   cases e2:(gN σ.led i).bind aZg with
   |none=>simp only[e2] at h;cases h
   |some c2 =>
    simp only[e2] at h
    refine bL3 (aOn S ha e2) fun C2 d2 vs2 a2 q1 q2 q3=>?_
    rw[Option.isNone_iff_eq_none.mp (aAc h).1] at q3
    exact⟨C,d,vs,k1,List.not_mem_nil,.inr ⟨a,C2,d2,vs2,k2,q1,List.not_mem_nil,fun z=>Nat.ne_of_beq_eq_false (aBu (aAc h).2) (aC7 S.nd ha (z▸he)),q2.trans (congrArg some q3)⟩⟩
theorem aRr{ts:List PySem.Expr}{env:Env}(q:ts.all notStar=true):(assignEach ts env).length=ts.length∧(assignEach ts env).findIdx? (·.1)=none:=by
 induction ts with
 |nil=>exact⟨rfl,rfl⟩
 |cons t ts ih =>
  have q:=aAc (show (notStar t&&ts.all notStar)=true by rwa [← List.all_cons])
  rw[aCp q.1]
  refine aBa (ih q.2) fun e1 e2=>?_
  exact⟨congrArg Nat.succ e1,by rw[List.findIdx?_cons,e2];rfl⟩
theorem aLz{elts:List PySem.Expr}{kk:Nat}{pos:Pos}{y:SV}{v:Value}{Q:Unit→Shared→Prop}(R:Snd V r)(S:Sat G W σ)(d:Den W.ads y v)(h:Hd G W (bGi V r G.cf elts σ y) (PU G Q)):G.wp (assign (.Tuple elts kk pos) G.env v) Q (G.st W) :=
 aDq h d fun i x hx qe h=>qe▸aCf h S hx fun tup vs n l _ hm al h=>ifT_e h fun ht h=>ifT_e h fun hl h=>ifT_e h fun hst h=>ifT_e h fun hc hz=>by
  cases ht
  have hl:=Nat.eq_of_beq_eq_true hl
  refine aBa (aRr (env:=G.env) hst) fun e1 e2=>?_
  have ht:=News.isTup S.N hm
  have k:∀ h',Fr G.g G.L h' W.m→News G.g G.L h' W.l→G.wp (assignInOrder ((assignEach elts G.env).map (·.2)) l) Q (G.st (W.hp W.m h' W.t)):=fun h' F' N' =>
   aLn R elts vs _ (W.hp W.m h' W.t) σ (S.hp _ F' S.M N' _) al hz.w
  have hh:=S.hd
  cases q:G.cf.hd with
  |none =>
   rw[q] at hh
   exact unpackN_ S.F S.N ht hh (by rw[e1,← hl,al.len];rfl) e2 k
  |some j =>
   rw[q] at hh hc
   refine aAd hh fun e he hA=>?_
   rw[assign_Tuple]
   refine wpAny_bind (wpAny_standAt ?_)
   unfold unpack
   rw[e1,e2,← hl,al.len]
   have hsz:l.length=l.toArray.size:=rfl
   rw[hsz]
   exact wpAny_bind (wpAny_holding (aQ5 hA (aIx S he hc) ht fun h' he'=>k h' (S.F.extBut he' (Nat.le_refl _)) (S.N.extBut he' (Nat.le_refl _))))
theorem nc{value:PySem.Expr}{t:Option PySem.Expr}{l:Nat}{env:Env}(h:aEk value=true):swapsWith value t l env=pure false:=by
 cases value<;>first|rfl|cases h
theorem aHo{o:Out Unit}{Q:Flow→Shared→Prop}(h:Hd G W (fin o) (PF G Q)):Hd G W o (PU G fun _ s=>Q .next s) :=
 Hd.to (k:=fun σ _=>Out.p σ Flw.n) (Φ:=PF G Q) (Ψ:=PU G fun _ s=>Q .next s) (fun {W1 _ _} S p h=>h W1 (.refl _) S) h
theorem aZt{names:List Str}{y:SV}{v:Value}{Q:Flow→Shared→Prop}(S:Sat G W σ)(d:Den W.ads y v)(h:Hd G W (fin (swp G.cf names σ y)) (PF G Q)) :
  G.wp (unpackItems v names.length none) (fun items s₂=>G.wp (assignInOrder (names.reverse.map fun n=>bindName G.env n) items.reverse) (fun _=>Q .next) s₂) (G.st W) :=
 aDq (aHo h) d fun i x hx qe h=>qe▸aCf h S hx fun tup vs n l _ hm al h=>ifT_e h fun ht h=>ifT_e h fun hl h=>ifT_e h fun hn hz=>by
  cases ht
  have hh:=S.hd
  rw[Option.isNone_iff_eq_none.mp hn] at hh
  exact unpackItemsN_ S.F S.N (News.isTup S.N hm) hh (by rw[← Nat.eq_of_beq_eq_true hl,al.len];rfl) fun h' F' N'=>aLm _ vs.reverse _ (W.hp W.m h' W.t) σ (S.hp _ F' S.M N' _) al.rev hz.w
theorem aZl{t:PySem.Expr}{b:List Stmt}{Q:Flow→Shared→Prop}(R:Snd V r)(hP:PassesOwn G.M G.A G.env G.E):∀ (n:Nat) (W:Wd) (σ:St),Sat G W σ→Hd G W (aIq r G.cf t b n σ) (PF G Q)→WhlRest G.X.prog G.X.w G.A G.E G.env t b [] Q n (G.st W):=by
 intro n
 induction n with
 |zero=>intro W σ S h;exact h.elim
 |succ n ih =>
  intro W σ S h
  refine whl_turn hP (R.cond S h fun {W1 σ1 q} S1 p1 h1=>?_)
  cases q with
  |false=>exact WhlIf.no rfl (wpAny_execs_nil (h1 W1 (.refl _) S1))
  |true=>exact WhlIf.yes rfl (R.bk S1 (bDg h1 (fun W2 σ2 S2 p2 h2=>ih W2 σ2 S2 h2) fun _ _ q=>q))
theorem bCt{l:List Stmt}{Q:Flow→Shared→Prop}(R:Snd V r)(S:Sat G W σ)(h:Hd G W (exB r G.cf l σ) (PF G Q)):G.wp (execs l G.env) Q (G.st W):=by
 cases l with
 |nil=>exact wpAny_execs_nil (h W (.refl _) S)
 |cons st l=>exact wpAny_execs_cons (R.st S (bDg h (fun W2 σ2 S2 p2 h2=>R.bk S2 h2) fun _ _ q=>q))
theorem Snd.evf(R:Snd V r)(S:Sat G W σ){x:PySem.Expr}{k:St→SV→Out Unit}{P:Value→Shared→Prop}{Φ:Wd→St→Flw→Prop}(h:Hd G W (fin (bd (r.e G.cf x σ) k)) Φ)
  (g:∀ {W' σ' y v},Sat G W' σ'→Pre W.ads W'.ads→Den W'.ads y v→Hd G W' (fin (k σ' y)) Φ→P v (G.st W')):G.wp (eval x G.env) P (G.st W):=by
 unfold fin at h
 rw[aC8] at h
 exact R.ev S h g
theorem aIp{γ:Type}{x:Option γ}{k:γ→Out Unit}{Q:Flow→Shared→Prop}{P:Prop}(h:Hd G W (fin (onO x k)) (PF G Q))(g:∀ y,x=some y→Hd G W (fin (k y)) (PF G Q)→P):P:=by
 cases x with
 |none=>exact h.elim
 |some y=>exact g y rfl h
theorem bDo{t v:PySem.Expr}{pos:Pos}{Q:Flow→Shared→Prop}(hn:aEk v=true)(R:Snd V r)(S:Sat G W σ)(h:Hd G W (fin (asg V r G.cf t v σ)) (PF G Q)):G.wp (exec (.Assign [t] v pos) G.env) Q (G.st W):=by
 refine aE1 (C:=fun o=>Hd G W (fin o) (PF G Q)) h (fun q hq h=>?_) fun h=>aE1 (C:=fun o=>Hd G W (fin o) (PF G Q)) h (fun q hq h=>?_) fun h=>aE1 (C:=fun o=>Hd G W (fin o) (PF G Q)) h (fun q hq h=>?_) fun h=>aIp h fun q hq h=>?_
 ·rw[bDq hq]
  have hs:swapsWithSole [.Tuple q.1 q.2.1 q.2.2] v pos.line G.env=pure false:=by unfold swapsWithSole;exact nc hn
  refine aIp h fun o e h=>?_
  cases o with
  |none=>exact Assign_Tuple (R.evf S h fun S1 p1 d1 h1=>aLz R S1 d1 (aHo h1)) hs (of_pureOf e)
  |some names=>exact Assign_Tuple_swapped (R.evf S h fun S1 p1 d1 h1=>aZt S1 d1 h1) hs (of_pureOf e)
 ·rw[aDl hq];exact wpAny_Assign_Name (R.evf S h fun S1 p1 d1 h1=>aGs S1 d1 (aHo h1)) (nc hn)
 ·rw[aLp hq];exact plainObj_wpAny_Assign_Attribute (R.evf S h fun S1 p1 d1 h1=>R.evf S1 h1 fun S2 p2 d2 h2=>aH5 S2 d2 (d1.mono p2) (aHo h2)) (nc hn)
 ·rw[bDp hq];exact wpAny_Assign_Subscript (R.evf S h fun S1 p1 d1 h1=>R.evf S1 h1 fun S2 p2 d2 h2=>R.evf S2 h2 fun S3 p3 d3 h3=>aMa S3 (d2.mono p3) d3 ((d1.mono p2).mono p3) (aHo h3)) (nc hn)
theorem aYm{old y:SV}{vo v:Value}{k:SV→Out Unit}{Q:Flow→Shared→Prop}{P:Value→Shared→Prop}(S:Sat G W σ)(d0:Den W.ads old vo)(d:Den W.ads y v)(h:Hd G W (fin (bM9 old y k)) (PF G Q))(g:∀ {z u t},Den W.ads z u→Hd G W (k z) (PU G fun _ s=>Q .next s)→P u (G.st (W.tok t))):G.wp (inplaceOp .Add vo v) P (G.st W) :=
 aEh (aHo h) d0 fun x lx t qe h=>qe▸aEh h d fun z lz u qe h=>qe▸iadd_int (g (t:=W.t+1) aEw h)
theorem aQ0{x:Str}{y:SV}{Q:Value→Shared→Prop}(S:Sat G W σ)(hk:aBv G.cf.cs x .local=true)(hy:aD6 x σ.m=some y)(h:∀ v,Den W.ads y v→Q v (G.st W)):G.wp (loadName G.env x) Q (G.st W) :=
 (S.M _ _ hy).elim fun v q=>wpAny_loadName_local S.ok.hk (aA5 hk) S.F.ns q.1 (h v q.2)
theorem bCo{α:Type}{o:Out α}{k:St→α→Out Unit}:fin (bd o k)=bd o fun σ a=>fin (k σ a):=aC8
theorem bDm{t v:PySem.Expr}{pos:Pos}{Q:Flow→Shared→Prop}(R:Snd V r)(S:Sat G W σ)(h:Hd G W (fin (aug V r G.cf t v σ)) (PF G Q)):G.wp (exec (.AugAssign t .Add v pos) G.env) Q (G.st W):=by
 refine aE1 (C:=fun o=>Hd G W (fin o) (PF G Q)) h (fun q hq h=>?_) fun h=>aIp h fun q hq h=>?_
 ·rw[aDl hq]
  refine ifT_e (aHo h) fun hk h1=>onO_e h1 fun old ho h1=>?_
  refine wpAny_AugAssign_Name (aQ0 S hk ho fun vo d0=>R.ev S h1 fun S1 p1 d1 h1=>aEh h1 (d0.mono p1) fun x lx t qe h=>qe▸aEh h d1 fun z lz u qe h=>qe▸iadd_int (aEb (S1.tok _) aEw h.w))
 ·rw[aLp hq]
  refine wpAny_AugAssign_AttributeAny (R.evf S h fun {W1 σ1 y1 v1} S1 p1 d1 h1=>?_)
  rw[bCo] at h1
  exact aKi S1 d1 (h1.to fun S2 p2 h2 v2 d2=>R.evf S2 h2 fun S3 p3 d3 h3=>aYm S3 (d2.mono p3) d3 h3 fun dz h=>aH5 (S3.tok _) ((d1.mono p2).mono p3) dz h.w)
end
noncomputable def aLl{α:Type}(ns:List Str)(D:List α):List α:=D.drop (D.length-ns.length)
noncomputable def aLk{α:Type}(ns:List Str)(vs D:List α):List (Str×α) :=
 (((ns.drop (ns.length-(aLl ns D).length)).zip (aLl ns D)).foldl (fun sl p=>if (sl.lookup p.1).isNone then sl++[(p.1,p.2)] else sl) (ns.zip vs))
noncomputable def aDu{α:Type}(ns:List Str)(vs D:List α):List (Str×α):=ns.filterMap fun n=>((aLk ns vs D).lookup n).map (n,·)
noncomputable def bindM{α:Type}(ns:List Str)(vs D:List α):List Str:=(ns.take (ns.length-(aLl ns D).length)).filter fun n=>((ns.zip vs).lookup n).isNone
theorem aEr{α β:Type}{f:α→β→Sem (ForInStep β)}{g:β→α→β}(hf:∀ a b,f a b=pure (.yield (g b a))):∀ (l:List α) (b:β),forIn l b f=pure (l.foldl g b)
 | [],b=>by rw[List.forIn_nil];rfl
 |a::l,b=>by
  rw[List.forIn_cons,hf]
  exact aEr hf l (g b a)
theorem aLj{fd:FuncData}{as:List PySem.Arg}{kd:List (Option PySem.Expr)}{ds:List PySem.Expr}{vs:List Value}{M:Model}{A:Around}{E:Value→Shared→Prop}{s:Shared}{Q:List (Str×Value)→Shared→Prop}{D:List Value}
 (hp:fd.params=⟨[],as,none,[],kd,none,ds⟩) (hl:vs.length≤as.length) (hm:bindM (as.map (·.arg)) vs D=[])
 (hd:∀ k:Option (Array Value)→Sem (List (Str×Value)),((∀ x,x=none∨x=some D.toArray→(x.getD #[]).toList=D→wpAny M A (k x) Q E s)→wpAny M A (seqItems? fd.defaults >>= k) Q E s))
 (h:Q (aDu (as.map (·.arg)) vs D) s):wpAny M A (bindArgs fd ⟨vs,[]⟩) Q E s:=by
 unfold bindArgs
 rw[hp]
 simp only[List.map_nil,List.nil_append]
 refine hd _ fun x _ hx=>?_
 rw[hx]
 have c1:(decide (vs.length>(as.map (·.arg)).length)&&(none:Option PySem.Arg).isNone)=false:=by simp;lia
 rw[if_neg (by rw[c1];decide)]
 have c2:(!(bindM (as.map (·.arg)) vs D).isEmpty)=false:=by rw[hm];rfl
 rw[if_neg (by show ¬ (!(bindM (as.map (·.arg)) vs D).isEmpty)=true;rw[c2];decide)]
 rw[aEr (g:=fun sl p=>if (sl.lookup p.1).isNone then sl++[(p.1,p.2)] else sl) (fun a b=>by by_cases q:(List.lookup a.1 b).isNone=true<;>simp only[q,if_true,if_false,Bool.false_eq_true])]
 refine wpAny_bind (wpAny_pure ?_)
 rw[List.forIn_nil]
 refine wpAny_bind (wpAny_pure ?_)
 rw[if_neg (by simp)]
 rw[List.append_nil]
 exact wpAny_pure h
section
variable {α β:Type} {R:α→β→Prop}
noncomputable def PRl(R:α→β→Prop)(a:Str×α)(b:Str×β):Prop:=a.1=b.1∧R a.2 b.2
theorem aFu:∀ {ns:List Str} {vs:List α} {ws:List β},All2 R vs ws→All2 (PRl R) (ns.zip vs) (ns.zip ws)
 | [],_,_,_=>.nil
 |_::_,_,_,.nil=>.nil
 |_::_,_,_,.cons r h=>.cons ⟨rfl,r⟩ (aFu h)
theorem aDe{n:Str}{l:List (Str×α)}{m:List (Str×β)}(h:All2 (PRl R) l m):match l.lookup n with
  |none=>m.lookup n=none
  |some a=>∃ b,m.lookup n=some b∧R a b:=by
 induction h with
 |nil=>rfl
 | @cons a b l m r _ ih =>
  obtain⟨x,a⟩:=a
  obtain⟨y,b⟩:=b
  obtain⟨e,r⟩:=r
  dsimp only at e r
  subst e
  rw[List.lookup_cons,List.lookup_cons]
  cases q:n==x with
  |true=>exact⟨_,rfl,r⟩
  |false=>exact ih
theorem lookup_none{n:Str}{l:List (Str×α)}{m:List (Str×β)}(h:All2 (PRl R) l m):(l.lookup n).isNone=(m.lookup n).isNone:=by
 have:=aDe (n:=n) h
 cases q:l.lookup n with
 |none=>rw[q] at this;rw[this];rfl
 |some a=>rw[q] at this;obtain⟨b,e,_⟩:=this;rw[e];rfl
theorem aKe:∀ {k:Nat} {l:List α} {m:List β},All2 R l m→All2 R (l.drop k) (m.drop k)
 | 0,_,_,h=>h
 |_+1,_,_,.nil=>.nil
 |k+1,_::l,_::m,.cons _ h=>by rw[List.drop_succ_cons,List.drop_succ_cons];exact aKe (k:=k) h
theorem aOc{l:List (Str×α)}{m:List (Str×β)}(q:All2 (PRl R) l m):∀ {a:List (Str×α)} {b:List (Str×β)},All2 (PRl R) a b →
  All2 (PRl R) (l.foldl (fun sl p=>if (sl.lookup p.1).isNone then sl++[(p.1,p.2)] else sl) a) (m.foldl (fun sl p=>if (sl.lookup p.1).isNone then sl++[(p.1,p.2)] else sl) b):=by
 induction q with
 |nil=>exact fun h=>h
 |cons r t ih =>
  intro a b h
  refine ih ?_
  show All2 (PRl R) (if _ then _ else _) (if _ then _ else _)
  rw[← r.1,lookup_none h]
  split
  ·exact h.snoc ⟨rfl,r.2⟩
  ·exact h
theorem aEz{ns:List Str}{D:List α}{D':List β}(d:All2 R D D'):All2 R (aLl ns D) (aLl ns D'):=by
 unfold aLl;rw[d.len];exact aKe d
theorem aO5{ns:List Str}{vs D:List α}{ws D':List β}(h:All2 R vs ws)(d:All2 R D D'):All2 (PRl R) (aLk ns vs D) (aLk ns ws D'):=by
 unfold aLk
 rw[(aEz (ns:=ns) d).len]
 exact aOc (aFu (aEz d)) (aFu h)
theorem aO7{ns:List Str}{vs D:List α}{ws D':List β}(h:All2 R vs ws)(d:All2 R D D'):All2 (PRl R) (aDu ns vs D) (aDu ns ws D'):=by
 unfold aDu
 have hS:=aO5 (ns:=ns) h d
 generalize aLk ns vs D=S at hS
 generalize aLk ns ws D'=S' at hS
 induction ns with
 |nil=>exact .nil
 |cons n ns ih =>
  rw[List.filterMap_cons,List.filterMap_cons]
  have:=aDe (n:=n) hS
  cases q:S.lookup n with
  |none=>rw[q] at this;rw[this];exact ih
  |some a=>rw[q] at this;obtain⟨b,e,r⟩:=this;rw[e];exact .cons ⟨rfl,r⟩ ih
theorem aO6{ns:List Str}{vs D:List α}{ws D':List β}(h:All2 R vs ws)(d:All2 R D D'):bindM ns vs D=bindM ns ws D':=by
 unfold bindM
 rw[(aEz (ns:=ns) d).len]
 congr 1
 funext n
 rw[lookup_none (aFu h)]
end
theorem aI0{ads:List Addr}{l:List (Str×SV)}{m:List (Str×Value)}(h:All2 (PRl (Den ads)) l m):MD ads l (fun y=>m.lookup y):=fun x y e=>by
 have:=aDe (n:=x) h
 rw[← aFk,show lkS x l=some y from e] at this
 exact this
noncomputable def aF5(p:Arguments):Option (List PySem.Arg):=match p.posonlyargs with
 | []=>(match p.vararg with
  |none=>(match p.kwonlyargs with
   | []=>(match p.kwarg with
    |none=>some p.args
    |some _=>none)
   |_::_=>none)
  |some _=>none)
 |_::_=>none
theorem aIc{p:Arguments}{as:List PySem.Arg}(h:aF5 p=some as):p=⟨[],as,none,[],p.kw_defaults,none,p.defaults⟩:=by
 obtain⟨a,b,c,d,e,f,g⟩:=p
 unfold aF5 at h
 cases a with
 |cons _ _=>cases h
 |nil=>cases c with
  |some _=>cases h
  |none=>cases d with
   |cons _ _=>cases h
   |nil=>cases f with
    |some _=>cases h
    |none=>cases h;rfl
noncomputable def bC8(V:Vw):Value→Option (List Value)
 | .none=>some []
 | .ref T=>V.tp T
 |_=>none
noncomputable def fnD(V:Vw)(f:Addr):Option FuncData:=(lkN f V.O).bind fun o=>match o.data with
 | .func fd=>some fd
 |_=>none
noncomputable def leave(top:Bool)(m:List (Str×SV)):Out Flw→Out SV
 | .p σ a=>(match a with
  | .n=>.p ⟨m,σ.led,σ.orc⟩ (.k .none)
  | .r x=>.p ⟨m,σ.led,σ.orc⟩ x)
 | .t σ a=>(match a with
  | .n=>.f
  | .r x=>ifT top (.p ⟨m,σ.led,σ.orc⟩ x))
 | .x σ X=>.x ⟨m,σ.led,σ.orc⟩ ⟨2,X.C,X.es,X.n,X.ctx⟩
 | .g P o=>.g P (leave top m o)
 | .s b o₁ o₂=>.s b (leave top m o₁) (leave top m o₂)
 | .f=>.f
noncomputable def aOu(r:Rec)(cf:Cf)(fd:FuncData)(body:List Stmt)(bs:List (Str×SV))(σ:St):Out SV:=match cf.lv with
 | 0=>.f
 |lv+1=>ifT (bs.all (fun y=>aBv fd.scope y.1 .local)) (leave cf.top σ.m (r.bk ⟨fd.scope,cf.hd,lv,true⟩ body ⟨bs.reverse,σ.led,σ.orc⟩))
noncomputable def bLy(V:Vw)(r:Rec)(cf:Cf)(f:Addr)(args:List SV)(σ:St):Out SV:=onO (fnD V f) fun fd=>match fd.body with
 | .stmts body=>onO (aF5 fd.params) fun as=>onO (bC8 V fd.defaults) fun D=>ifT (V.pf f) (ifT (Nat.ble args.length as.length) (ifT (bindM (as.map (·.arg)) args (D.map aGr)).isEmpty (aOu r cf fd body (aDu (as.map (·.arg)) args (D.map aGr)) σ)))
 |_=>.f
theorem aEq{ads:List Addr}{objs:List Obj}(h:ads.length=objs.length):(ads.zip objs).map (·.1)=ads:=by
 rw[List.map_fst_zip];lia
theorem aMy{fd:FuncData}{body:List Stmt}(h1:fd.globals=mainGlobals)(h2:fd.closure=[])(h3:fd.builtins=builtinsNs)(hb:fd.body=.stmts body):fd=fnOf fd.name fd.qualname fd.params body fd.scope fd.defaults fd.kwdefaults fd.doc fd.pyModule fd.annotations fd.code fd.closureTuple:=by
 obtain⟨a,b,p,bd,sc,gl,cl,d,k,dc,pm,an,cd,ct,bi⟩:=fd
 dsimp only at h1 h2 h3 hb
 subst h1 h2 h3 hb
 rfl
section
variable {prog:Program} {w:World} {A A₀:Around} {s:Shared} {K:Frag} {L:Addr} {h₀ base:Heap} {m mg mb:Str→Option Value} {news:List (Addr×Obj)} {p:Program} {loose:List Str} {mean:ExcName→Option Value}
theorem aXs{env:Env}{outer:List Env}{R:Result→Shared→Prop}{name qual:Str}{params:Arguments}{body:List Stmt}{scope:Scope}{dV kV doc pm cdv ct oc:Value}{an od:Option Addr}{osl:Array (Option Value)}{f:Addr}{args:Args}{binds:List (Str×Value)}
  (B:Below A₀ base outer h₀) (F:Fr h₀ L s.heap m) (X₀:K.In h₀) (N:News h₀ L s.heap news) (T:Top p loose mean mg mb h₀) (hA:A.frames=some (env::outer)) (hf:env.frame=some L) (hke:env.scope.kind=.function)
  (ho:K.lookup f=some ⟨oc,od,.func (fnOf name qual params body scope dV kV doc pm an cdv ct),osl⟩) (hcd:codeIn K cdv qual=true) (hroom:A.depth<recursionLimit)
  (hbind:BindsTo s (fnOf name qual params body scope dV kV doc pm an cdv ct) args binds) (hloc:∀ y∈binds,scope.names.lookup y.1=some .local)
  (h:∀ g L' h₁,Kept s.heap g (news.map (·.1))→s.heap.objs.size=L'→Fr g L' h₁ (fun y=>binds.reverse.lookup y)→News g L' h₁ news→(∀ p∈news,p.1<L')→Below A base (env::outer) g→K.In g→Top p loose mean mg mb g →
   wpAny (model prog w) (A.deeper (envOf qual scope L' f cdv)) (execs body (envOf qual scope L' f cdv))
    (fun fl s'=>LeaveK h₀ L m g R (match fl with | .ret v=>v|_=>.none) s'∨(outer=[]∧aT2 [L] h₀ L m g R (match fl with | .ret v=>v|_=>.none) s'))
    (fun e s'=>wpAny (model prog w) (A.deeper (envOf qual scope L' f cdv)) (leaving (envOf qual scope L' f cdv) e) (fun _ s''=>R (.error e) s'') (fun e' s''=>R (.error e') s'') s')
    { s with heap:=h₁,toks:=s.toks+binds.length })
  (hco:scope.isCoroutine=false) (hgen:scope.isGenerator=false) (hk:scope.kind=.function)
  (hcell:∀ x∈scope.names,x.2≠.cell):codeAny (model prog w) A (.call (.ref f) args) R s:=by
 refine bF2 (groundX (R:=R) B F N hA hf hke) fun FG BG st lv=>?_
 have kp:=aDo s.heap (news.map (·.1))
 have nL₀:h₀.get? L=none:=kts_self F
 refine codeAny_call_def (fd:=fnOf name qual params body scope dV kV doc pm an cdv ct) (body:=body) (binds:=binds) hroom ((X₀.keeps F.keep) _ _ ho) rfl (T.nolimit.keeps F.keep) (codeRec_of (X₀.keeps F.keep) hcd) rfl hbind hcell hloc (fun h₁ hns hk₁=>?_) hco hgen hk
 refine wpAny_mono (h _ s.heap.objs.size h₁ kp rfl ⟨hns,fun b o e=>hk₁ b o (of_hideAll _ e),Nat.le_of_eq (hideAll_size _ _)⟩
  (fun p hp=>⟨hk₁ _ _ (N p hp).1,Nat.ne_of_lt (Heap.lt_size (N p hp).1),hideAll_none _ (List.mem_map_of_mem hp)⟩) (fun p hp=>Heap.lt_size (N p hp).1) BG (X₀.keeps st) (T.keeps st)) (fun fl s' hl=>?_) fun _ _ y=>y
 rcases hl with hl|⟨ho',hl⟩
 ·exact lv _ _ hl
 ·subst ho'
  refine bZv hl fun g' L' m' news' T' F' N' k=>?_
  refine aRs FG.ns fun oL es ep hL hLd hLr=>?_
  refine aA6 (T'.up hL) fun sl hs=>?_
  have stays:∀ b o,h₀.get? b=some o→s'.heap.get? b=some o:=fun b o e=>F'.keep b o (T'.other b o (st b o e) fun q=>by
   rw[List.mem_singleton.mp q,nL₀] at e;cases e)
  refine k ⟨⟨_,es,ep,F'.keep _ _ hs,hLd,hLr⟩,stays,F.above⟩ (fun p hp=>⟨(N' p hp).1,fun q=>?_,?_⟩)
  ·have:=(N' p hp).2.2;rw[q,hs] at this;cases this
  ·cases q:h₀.get? p.1 with
   |none=>rfl
   |some o =>
    refine aA6 (T'.up (st _ _ q)) fun sl' hs'=>?_
    have:=(N' p hp).2.2
    rw[hs'] at this;cases this
end
section
variable {V:Vw} {G:Gd V} {W:Wd} {σ:St} {r:Rec}
theorem aRu{M:Model}{A:Around}{α:Type}{s:Shared}{Q:α→Shared→Prop}{E:Value→Shared→Prop}{v:Value}{D:List Value}{P:Params}(vo:VOk P V)(h:bC8 V v=some D)(K:V.K.In s.heap)(k:Option (Array Value)→Sem α)(g:∀ x,x=none∨x=some D.toArray→(x.getD #[]).toList=D→wpAny M A (k x) Q E s):wpAny M A (seqItems? v >>= k) Q E s:=by
 cases v with
 |none=>cases h;exact wpAny_bind (wpAny_of_eq (a:=none) (by rfl) (g none (.inl rfl) rfl))
 |ref T=>exact (vo.tp h).elim fun sl q=>wpAny_bind (wpAny_seqItems (K _ _ q) rfl (g (some D.toArray) (.inr rfl) rfl))
 |_=>exact nn h
noncomputable abbrev Gd.call(G:Gd V)(fd:FuncData)(f L':Addr)(g:Heap)(lv:Nat)(E:Value→Shared→Prop):Gd V:={ X:=G.X,A:=G.A.deeper (envOf fd.qualname fd.scope L' f fd.code),cn:=fd.qualname,L:=L',a:=f,ccd:=fd.code,cl:=[],outer:=G.env::G.outer,A₀:=G.A,base:=G.base,g:=g,gens:=G.gens,drawn:=G.drawn,os:=G.os,cf:=⟨fd.scope,G.cf.hd,lv,true⟩,E:=E }
theorem aRa{fd:FuncData}{f L' lv:Nat}{g:Heap}{E':Value→Shared→Prop}{R:Unit→Shared→Prop}{G2:Gd V}{W':Wd}{σ':St}{xi:XI}{e:Addr}
  (S:Sat G W σ) (kg:Kept W.h g W.ads) (hI:∀ b∈W.ads,g.get? b=none) (hk:fd.scope.kind=.function) (T:Turn (G.call fd f L' g lv E') G2) (hT:xi.kind≠1→G2=G.call fd f L' g lv E') (p:Pre W.ads W'.ads) (SX:aPt G2 W' σ' xi e)
  (k:∀ W2,Pre W.ads W2.ads→aPt G W2 ⟨σ.m,σ'.led,σ'.orc⟩ ⟨2,xi.C,xi.es,xi.n,xi.ctx⟩ e→R () (G.st W2)) {E2:Value→Shared→Prop} :
  wpAny G.M (G.A.deeper (envOf fd.qualname fd.scope L' f fd.code)) (leaving (envOf fd.qualname fd.scope L' f fd.code) (.ref e)) R E2 (G.st W'):=by
 refine aBa SX fun Ld z10_1=>?_
 obtain⟨d,od,a0,EX,SX⟩:=z10_1
 have hid:=aEq S.len
 have dn:d∉W.ads:=fun z=>EX.d_ (p.mem z)
 have en:e∉W.ads:=fun z=>EX.e_ (p.mem z)
 have te:=T.eq
 have tt:=T.T
 have tb:=T.ok.B
 have tk:=T.ok.hk
 rw[te] at SX EX Ld tb tk
 have fin:∀ h' ,Flown W.h (G.env::G.outer) W.ads W'.l e xi.C d od a0 h'→R () (G.st ⟨W'.ads,W'.objs,W.m,h',W'.t⟩):=fun h' fl =>
  k ⟨W'.ads,W'.objs,W.m,h',W'.t⟩ p ⟨⟨Ld.O,Ld.len,Ld.nd,Ld.hi⟩,d,od,a0,⟨EX.e_,EX.d_,EX.ed,EX.el,EX.dl,EX.od_,EX.ctx⟩,W.h,W.ads,W.objs,S.F,S.M.mono p,S.N,S.len,p,fl⟩
 have outs:∀ {h:Heap} {vs:Array Value},News G2.g L' h W'.l→News G2.g L' h [(e,exO xi.C d vs),(d,od)]→News G2.g L' h ((e,exO xi.C d vs)::(d,od)::W'.l):=fun L2 N2 q hq=>by
  rcases List.mem_cons.mp hq with rfl|hq
  ·exact N2 _ (.head _)
  ·rcases List.mem_cons.mp hq with rfl|hq
   ·exact N2 _ (.tail _ (.head _))
   ·exact L2 _ hq
 have hne:∀ q∈(d,od)::W'.l,q.1≠e:=fun q hq=>by
  rcases List.mem_cons.mp hq with rfl|hq
  ·exact Ne.symm EX.ed
  ·intro z;exact EX.e_ (z▸(List.of_mem_zip hq).1)
 obtain⟨kd,C,es,n,cx⟩:=xi
 cases kd with
 |zero =>
  refine bL5 SX fun vs F2 NL N2 hsz h2 h1=>?_
  exact aQ2 (kg.turn tt) (fun b hb=>tt.none_ b (hI b hb)) tb F2 (outs NL N2) hsz h2 h1 hne dn en (fun h' fl=>fin h' fl) hk
 |succ kd=>cases kd with
 |zero =>
  refine aOw SX fun vs h F2 NL N2 up fl=>?_
  refine wpAny_bind (aK1 (L:=L') rfl fl ?_)
  exact flight fl fun h₃ x₃ u₃=>fin h₃ (aFo (s':={ G.st W' with heap:=h }) (kg.turn tt) (fun b hb=>tt.none_ b (hI b hb)) tb F2 (outs NL N2) hne dn en x₃ (up.trans u₃))
 |succ kd =>
  refine bFz SX fun h ads0 objs0 F2 M2 N0 len0 p0 fl=>?_
  have e0:=hT (fun q=>nomatch q)
  have fl':Flown h ((G.call fd f L' g lv E').env::G.env::G.outer) ((ads0.zip objs0).map (·.1)) W'.l e C d od a0 W'.h:=by rw[aEq len0];exact fl
  rw[e0] at tb F2 N0
  refine aK6 kg hI tb F2 (ins:=ads0.zip objs0) (rest:=[]) (by rw[List.append_nil];exact N0) (aGm fun _ h=>nomatch h) fl' dn en fun h' fl2=>fin h' (by rw[List.append_nil] at fl2;exact fl2)
theorem aQ1{m:List (Str×SV)}{o:Out Flw}{top:Bool}{Φ:Wd→St→SV→Prop}{G1:Gd V}{W1:Wd}{Q:Flow→Shared→Prop}(h:Hd G W (leave top m o) Φ)(pw:Pre W.ads W1.ads)
  (kn:∀ {W' σ' y},Sat G1 W' σ'→Pre W.ads W'.ads→(∀ W2,W2.ads=W'.ads→Sat G W2 ⟨m,σ'.led,σ'.orc⟩→Φ W2 ⟨m,σ'.led,σ'.orc⟩ y)→∀ v,Den W'.ads y v→Q (.ret v) (G1.st W'))
  (kn0:∀ {W' σ'},Sat G1 W' σ'→Pre W.ads W'.ads→(∀ W2,W2.ads=W'.ads→Sat G W2 ⟨m,σ'.led,σ'.orc⟩→Φ W2 ⟨m,σ'.led,σ'.orc⟩ (.k .none))→Q .next (G1.st W'))
  (kt:∀ {G2 W' σ' y},top=true→Turn G1 G2→Sat G2 W' σ'→Pre W.ads W'.ads→(∀ W2,W2.ads=W'.ads→Sat G W2 ⟨m,σ'.led,σ'.orc⟩→Φ W2 ⟨m,σ'.led,σ'.orc⟩ y)→∀ v,Den W'.ads y v→Q (.ret v) (G1.st W'))
  (kx:∀ {G2 W' σ' e} {xi:XI},Turn G1 G2→(xi.kind≠1→G2=G1)→Pre W.ads W'.ads→aPt G2 W' σ' xi e→(∀ W2,Pre W.ads W2.ads→aPt G W2 ⟨m,σ'.led,σ'.orc⟩ ⟨2,xi.C,xi.es,xi.n,xi.ctx⟩ e→G.E (.ref e) (G.st W2))→G1.E (.ref e) (G1.st W')) (O:Ok G):Hd G1 W1 o (PF G1 Q):=by
 induction o with
 |f=>exact h
 |p σ a=>cases a with
  |n=>exact fun W' p S=>kn0 S (pw.trans p) fun W2 e S2=>h W2 (e▸pw.trans p) S2
  |r y=>exact fun W' p S v d=>kn S (pw.trans p) (fun W2 e S2=>h W2 (e▸pw.trans p) S2) v d
 |t σ a=>cases a with
  |n=>exact False.elim h
  |r y=>exact fun G2 W' T p S v d=>ifT_e h fun ht h=>kt ht T S (pw.trans p) (fun W2 e S2=>h W2 (e▸pw.trans p) S2) v d
 |x σ xi=>exact fun G2 W' e T hT p SX=>kx T hT (pw.trans p) SX fun W2 p2 SX2=>h G W2 e ⟨rfl,.refl,O⟩ (fun _=>rfl) p2 SX2
 |g P o ih=>exact⟨h.1,ih h.2⟩
 |s c o1 o2 i1 i2=>exact⟨fun e=>i1 (h.1 e),fun e=>i2 (h.2 e)⟩
theorem aHr{ads:List Addr}:∀ {D:List Value},Dens ads (D.map aGr) D
 | []=>.nil
 |_::_=>.cons aBi aHr
theorem aTb{fd:FuncData}{f L' lv:Nat}{g:Heap}{E':Value→Shared→Prop}{P:Prop}(h:Nat.ble 20 fd.scope.names.length=false)(q:(G.call fd f L' g lv E').cf.top=true):P:=absurd (h.symm.trans q) (fun z=>nomatch z)
theorem aXj{f:Addr}{args:List SV}{vs:List Value}{Q:Value→Shared→Prop}(R:Snd V r)(S:Sat G W σ)(a:Dens W.ads args vs)(h:Hd G W (bLy V r G.cf f args σ) (PC G W.m Q)):codeAny G.M G.A (.call (.ref f) ⟨vs,[]⟩) (aIz Q G.E) (G.st W) :=
 onO_e h fun fd hf h=>by
  refine aAd (Option.bind_eq_some_iff.mp hf) fun o ho hd=>?_
  rw[aHc] at ho
  replace ho:=G.X.vo.O ho
  obtain⟨oc,od,da,osl⟩:=o
  cases da with
  |func fd' =>
   cases hd
   cases hb:fd.body with
   |stmts body =>
    rw[hb] at h
    refine onO_e h fun as hp h=>onO_e h fun D hD h=>ifT_e h fun hpl h=>ifT_e h fun hle h=>ifT_e h fun hmi h=>?_
    refine bZ5 (G.X.vo.pf hpl ho) fun q1 q2 q3 hcd hco hgen hk hcell htp=>?_
    have eta:=aMy q1 q2 q3 hb
    have dD:Dens W.ads (D.map aGr) D:=aHr
    have hm0:bindM (as.map (·.arg)) vs D=[]:=by
     rw[← aO6 a dD];simpa using hmi
    have hlen:vs.length≤as.length:=by rw[← a.len];exact Nat.le_of_ble_eq_true hle
    have bs:=aO7 (ns:=as.map (·.arg)) a dD
    have hbind:BindsTo (G.st W) fd ⟨vs,[]⟩ (aDu (as.map (·.arg)) vs D):=fun M A E Q hq=>aLj (aIc hp) hlen hm0 (fun k g=>aRu G.X.vo hD S.K k g) hq
    rw[eta] at ho hbind
    replace h:Hd G W (aOu r G.cf fd body (aDu (as.map (·.arg)) args (D.map aGr)) σ) (PC G W.m Q):=h
    unfold aOu at h
    cases hlv:G.cf.lv with
    |zero=>simp only[hlv] at h;exact h.elim
    |succ lv =>
     simp only[hlv] at h
     refine ifT_e h fun hall h=>?_
     have hloc:∀ y∈aDu (as.map (·.arg)) vs D,fd.scope.names.lookup y.1=some .local:=fun y hy=>by
      refine aA6 (aCj hy) fun i hi=>?_
      refine aA6 (aAl (l:=aDu (as.map (·.arg)) args (D.map aGr)) (by rw[bs.len];exact aBl hi)) fun z hz=>?_
      refine aAd (bs.get hz) fun b e1 e2=>?_
      rw[hi] at e1;cases e1
      rw[← e2.1];exact aA5 (List.all_eq_true.mp hall _ (aCb hz))
     have dp:=S.ok.dp
     have un:=S.ok.un
     rw[hlv] at dp un
     refine aXs (binds:=aDu (as.map (·.arg)) vs D) S.ok.B S.F S.ok.K S.N S.ok.T S.ok.fr rfl S.ok.hk ho hcd (by lia) hbind hloc (fun g L' h₁ kg hs' F' N' lt B' K' T'=>?_) hco hgen hk hcell
     rw[aEq S.len] at kg
     have D':=aRt (env:=G.env) (outer:=G.outer) S.F S.N S.ok.D ((aEq S.len).symm▸kg) rfl
     have hI:∀ b∈W.ads,g.get? b=none:=fun b hb=>by
      refine aA6 (aCj hb) fun i hi=>?_
      refine aA6 (aAl (l:=W.objs) (S.len▸aBl hi)) fun o ho=>?_
      exact (N' _ (aBf hi ho)).2.2
     have O':∀ E',(Own (G.call fd f L' g lv E'))→Ok (G.call fd f L' g lv E'):=fun E' ow=>⟨B',K',T',S.ok.KB,S.ok.TB,D',Around.frames_deeper S.ok.fr,hk,by show G.A.depth+1+lv<_;lia,by show G.A.units+3+8*lv<_;lia,fun q=>aTb htp q,fun _=>ow⟩
     have S':∀ E',Own (G.call fd f L' g lv E')→Sat (G.call fd f L' g lv E') ⟨W.ads,W.objs,_,h₁,W.t+(aDu (as.map (·.arg)) vs D).length⟩ ⟨(aDu (as.map (·.arg)) args (D.map aGr)).reverse,σ.led,σ.orc⟩:=fun E' ow =>
      ⟨O' E' ow,F',aI0 bs.rev,N',S.O,S.len,S.nd,S.hd.same rfl,fun q=>aTb htp q⟩
     refine R.bk (S' _ ⟨fun _=>⟨rfl,rfl⟩,PassesOwn.leaving⟩) (aQ1 h (.refl _) ?_ ?_ ?_ ?_ S.ok)
     ·exact fun {W1 σ1 y} S1 p k v d=>.inl <| leaveK_ S1.F S1.N fun F3 N3=>k ⟨W1.ads,W1.objs,W.m,W1.h,W1.t⟩ rfl ⟨S.ok,F3,S.M.mono p,N3,S1.O,S1.len,S1.nd,S.hd.up p,S.clUp p⟩ rfl v d
     ·exact fun {W1 σ1} S1 p k=>.inl <| leaveK_ S1.F S1.N fun F3 N3=>k ⟨W1.ads,W1.objs,W.m,W1.h,W1.t⟩ rfl ⟨S.ok,F3,S.M.mono p,N3,S1.O,S1.len,S1.nd,S.hd.up p,S.clUp p⟩ rfl .none rfl
     ·intro G2 W1 σ1 y ht T2 S1 p k v d
      have ho:=S.ok.tp ht
      have te:=T2.eq
      have tt:KtsTurn [G.L] g G2.g:=by
       have:=T2.T
       rw[show Gd.fs _=[G.L] from by show (G.env::G.outer).filterMap (·.frame)=[G.L];rw[ho];rfl] at this
       exact this
      have F1:=S1.F
      have N1:=S1.N
      have O1:=S1.O
      rw[te] at F1 N1 O1
      exact .inr ⟨ho,aWk F1 N1 tt fun F3 N3=>k ⟨W1.ads,W1.objs,W.m,W1.h,W1.t⟩ rfl ⟨S.ok,F3,S.M.mono p,N3,O1,S1.len,S1.nd,S.hd.up p,S.clUp p⟩ rfl v d⟩
     ·exact fun {G2 W1 σ1 e xi} T2 hT2 p SX k=>aRa S kg hI hk T2 hT2 p SX k
   |_=>rw[hb] at h;exact h.elim
  |_=>exact nn hd
end
noncomputable def clV(k:Nat):SV→Bool
 | .a i=>Nat.blt i k
 |_=>true
noncomputable def clN(k:Nat):Option Nat→Bool
 |none=>true
 |some i=>Nat.blt i k
noncomputable def clS(k:Nat):Option SV→Bool
 |none=>true
 |some y=>clV k y
noncomputable def clO(k:Nat):SO→Bool
 | .inst _ d=>Nat.blt d k
 | .ns es _=>es.all fun p=>clV k p.2
 | .seq _ vs _=>vs.all fun y=>clV k y
 | .di kvs=>kvs.all fun p=>clV k p.2
 | .dv _ _ puts facts=>(puts.all fun p=>clV k p.2)&&facts.all fun p=>clS k p.2
 | .ex _ d ctx=>Nat.blt d k&&clN k ctx
 | .xr _=>true
 | .xd _ d=>Nat.blt d k
 | .cell y=>clS k y
 | .raw j=>Nat.blt j 1000
 | .any=>true
section
variable {V:Vw} {a b:List Addr} {k:Nat}
theorem Den.cut(hk:∀ i,i<k→gN a i=gN b i){y:SV}{v:Value}(c:clV k y=true)(h:Den a y v):Den b y v:=by
 cases y with
 |a i=>obtain⟨x,h,e⟩:=h;exact⟨x,(hk i (Nat.le_of_ble_eq_true c)).symm.trans h,e⟩
 |_=>exact h
theorem All2.cut{α β:Type}{R S:α→β→Prop}{P:α→Bool}(f:∀ x y,P x=true→R x y→S x y){l:List α}{m:List β}(h:l.all P=true)(r:All2 R l m):All2 S l m:=by
 induction r with
 |nil=>exact .nil
 | @cons x y l m q _ ih =>
  have h:=aAc (show (P x&&l.all P)=true from h)
  exact .cons (f _ _ h.1 q) (ih h.2)
theorem PutR.cut(hk:∀ i,i<k→gN a i=gN b i){l0 l:List (Int×Value)}{ps:List (Int×SV)}(h:PutR a l0 ps l):(ps.all fun p=>clV k p.2)=true→PutR b l0 ps l:=by
 induction h with
 |nil=>intro _;exact .nil
 | @cons z x r l v _ d ih =>
  intro this
  have this:=aAc (show (clV k x&&r.all fun p=>clV k p.2)=true from this)
  exact .cons (ih this.2) (d.cut hk this.1)
theorem DenO.cut{X:Ctx V}{β':Bet}(hβ:β'.d=X.β.d)(hβo:∀ j,j<1000→β'.o j=X.β.o j)(hk:∀ i,i<k→gN a i=gN b i){x:SO}{o:Obj}(h:clO k x=true)(d:DenO X a x o):DenO { X with β:=β' } b x o:=by
 have lt:∀ {e y},Nat.blt e k=true→gN a e=some y→gN b e=some y:=fun q r=>(hk _ (Nat.le_of_ble_eq_true q)).symm.trans r
 cases x with
 |inst C e=>obtain⟨y,h1,h2⟩:=d;exact⟨y,lt h h1,h2⟩
 |ns es n=>obtain⟨l,al,e⟩:=d;exact⟨l,All2.cut (P:=fun p:Str×SV=>clV k p.2) (fun x y c r=>by obtain⟨t,v,q,z⟩:=r;exact⟨t,v,q.cut hk c,z⟩) h al,e⟩
 |seq tup vs n=>obtain⟨l,al,e⟩:=d;exact⟨l,All2.cut (P:=fun y=>clV k y) (fun x y c r=>Den.cut hk c r) h al,e⟩
 |di kvs=>obtain⟨l,al,e⟩:=d;exact⟨l,All2.cut (P:=fun p:Int×SV=>clV k p.2) (fun x y c r=>⟨r.1,r.2.cut hk c⟩) h al,e⟩
 |dv j n puts facts =>
  refine aOw d fun l0 l h1 h2 h3 h4 h5=>?_
  have h:=aAc h
  refine⟨l0,l,by rw[hβ];exact h1,h2,h3.cut hk h.1,fun f hf=>?_,h5⟩
  have c:=List.all_eq_true.mp h.2 f hf
  have r:=h4 f hf
  obtain⟨q,x⟩:=f
  cases x with
  |none=>exact r
  |some x=>obtain⟨v,e,d⟩:=r;exact⟨v,e,d.cut hk c⟩
 |ex C e ctx =>
  refine bL4 d fun dx vs a0 h1 h2 h3 h4=>?_
  have h:=aAc h
  refine⟨dx,vs,a0,lt h.1 h1,h2,h3,?_⟩
  cases ctx with
  |none=>exact h4
  |some i=>obtain⟨x,e,q⟩:=h4;exact⟨x,lt h.2 e,q⟩
 |xr C=>exact d
 |xd C e=>obtain⟨dx,t,h1,h2⟩:=d;exact⟨dx,t,lt h h1,h2⟩
 |cell y =>
  cases y with
  |none=>exact d
  |some y=>obtain⟨v,q,e⟩:=d;exact⟨v,q.cut hk h,e⟩
 |raw j=>exact (show o=X.β.o j from d).trans (hβo j (Nat.le_of_ble_eq_true h)).symm
 |any=>trivial
theorem All2.take{α β:Type}{R:α→β→Prop}{l:List α}{m:List β}(h:All2 R l m):∀ k,All2 R (l.take k) (m.take k):=by
 induction h with
 |nil=>intro k;rw[List.take_nil,List.take_nil];exact .nil
 |cons r _ ih=>intro k;cases k with
  |zero=>exact .nil
  |succ k=>exact .cons r (ih k)
theorem aEo{α:Type}:∀ {l:List α} {n i:Nat},i<n→gN (l.take n) i=gN l i
 | [],n,i,_=>by rw[List.take_nil]
 |_::_,0,_,h=>absurd h (Nat.not_lt_zero _)
 |_::_,n+1,0,_=>rfl
 |_::r,n+1,i+1,h=>aEo (l:=r) (Nat.lt_of_succ_lt_succ h)
end
noncomputable def aMf(V:Vw)(fromN:Bool)(cf:Cf)(n i:Nat)(σ:St):Out Flw:=onO (gN σ.led i) fun so=>match so with
 | .xd C d=>aM4 σ d fun es m=>ifT (V.ve C) (ifT (Nat.ble n i&&Nat.ble n d&&!(Nat.beq i d)) (ifT ((σ.led.take n).all (clO n)) (ifT (es.all fun p=>clV n p.2) (match fromN with
  |false=>ifT cf.hd.isNone (.x ⟨σ.m,σ.led.take n,σ.orc⟩ ⟨0,C,es,m,none⟩)
  |true=>onO cf.hd fun j=>ifT (Nat.blt j n) (onO ((gN σ.led j).bind aZg) fun c=>ifT c.isNone (.x ⟨σ.m,σ.led.take n,σ.orc⟩ ⟨0,C,es,m,some j⟩))))))
 |_=>.f
noncomputable def aEt(V:Vw)(r:Rec)(cf:Cf)(fromN:Bool)(x:Str)(args:List PySem.Expr)(σ:St):Out Flw :=
 ifT (args.all notStar&&!args.isEmpty) (onO (nameV V cf.cs x σ) fun f=>onK f fun C=>ifT (V.kp C&&V.ve C) (bd (r.es cf args σ) fun σ2 vs=>bd (bLx V r cf C vs σ2) fun σ3 y=>onA y fun i=>aMf V fromN cf σ2.led.length i σ3))
section
variable {V:Vw} {G:Gd V} {W:Wd} {σ:St} {r:Rec} {Φ:Wd→St→Flw→Prop}
noncomputable abbrev Wd.cut(W:Wd)(n:Nat)(h:Heap):Wd:=⟨W.ads.take n,W.objs.take n,W.m,h,W.t⟩
theorem aDv{α β:Type}:∀ {l:List α} {m:List β} {n:Nat} {p:α×β},p∈(l.take n).zip (m.take n)→p∈l.zip m
 | [],_,n,_,h=>by rw[List.take_nil] at h;cases h
 |_::_,[],n,_,h=>by rw[List.take_nil,List.zip_nil_right] at h;cases h
 |_::_,_::_,0,_,h=>by cases h
 |_::l,_::m,n+1,_,h=>by
  rcases List.mem_cons.mp h with rfl|h
  ·exact .head _
  ·exact .tail _ (aDv h)
theorem aJ2{α:Type}:∀ {l:List α} {n:Nat} {d:α},d∈l.take n→∃ i,i<n∧gN l i=some d
 | [],n,_,h=>by rw[List.take_nil] at h;cases h
 |_::_,0,_,h=>by cases h
 |a::l,n+1,_,h=>by
  rcases List.mem_cons.mp h with rfl|h
  ·exact⟨0,Nat.succ_pos _,rfl⟩
  ·obtain⟨i,h1,h2⟩:=aJ2 h;exact⟨i+1,Nat.succ_lt_succ h1,h2⟩
theorem Sat.ledCut(S:Sat G W σ){n:Nat}(h:(σ.led.take n).all (clO n)=true)(hp:Heap):Led G.X (W.cut n hp) (σ.led.take n) :=
 ⟨All2.cut (P:=clO n) (fun x y c d=>DenO.cut (X:=G.X) (β':=G.X.β) rfl (fun _ _=>rfl) (fun i hi=>(aEo hi).symm) c d) h (S.O.take n),by simp[S.len],List.Nodup.sublist (List.take_sublist _ _) S.nd,fun a ha=>S.hiA (List.mem_of_mem_take ha)⟩
theorem aIg(S:Sat G W σ){n i:Nat}{x:Addr}(hx:gN W.ads i=some x)(hn:n≤i):x∉W.ads.take n:=fun q=>by
 refine aAd (aJ2 q) fun j h1 h2=>?_
 have:=aC7 S.nd hx h2
 lia
theorem aJi{W0:Wd}{i n C d m:Nat}{e dx:Addr}{es:List (Str×SV)}{ctx:Option Nat}{a0:Value}{od:Obj}{vs:Array Value}{h':Heap}(S:Sat G W σ)(hW:W0.ads=W.ads.take n)(he:gN W.ads i=some e)(hd:gN W.ads d=some dx)(hn:(Nat.ble n i&&Nat.ble n d&&!(Nat.beq i d))=true)(hc:(σ.led.take n).all (clO n)=true)(hc2:(es.all fun p=>clV n p.2)=true)(dd:DenO G.X W.ads (.ns es m) od)
  (F:Fr G.g G.L h' W.m) (N1:News G.g G.L h' ((W.cut n h').l)) (N2:News G.g G.L h' [(e,exO C dx vs),(dx,od)]) (hsz:vs.size=6) (h2:vs[2]?=some a0) (h1:vs[1]?=some .none) (hctx:CtxR (W.ads.take n) ctx a0)
  (h:Hd G W0 (.x ⟨σ.m,σ.led.take n,σ.orc⟩ ⟨0,C,es,m,ctx⟩) Φ):G.E (.ref e) (G.st (W.cut n h')):=by
 have q:=aAc hn
 have q1:=aAc q.1
 exact h G (W.cut n h') e ⟨rfl,.refl,S.ok⟩ (fun _=>rfl) (hW▸.refl _) ⟨S.ledCut hc h',dx,od,a0,⟨aIg S he (Nat.le_of_ble_eq_true q1.1),aIg S hd (Nat.le_of_ble_eq_true q1.2),fun z=>Nat.ne_of_beq_eq_false (aBu q.2) (aC7 S.nd he (z▸hd)),S.hiA (aCb he),S.hiA (aCb hd),DenO.cut (X:=G.X) (k:=n) (β':=G.X.β) rfl (fun _ _=>rfl) (fun i hi=>(aEo hi).symm) hc2 dd,hctx⟩,vs,F,N1,N2,hsz,h2,h1⟩
theorem aFg{fromN:Bool}{x:Str}{xp p:Pos}{args:List PySem.Expr}{Th:Value→Shared→Prop}(R:Snd V r)(S:Sat G W σ)(h:Hd G W (aEt V r G.cf fromN x args σ) Φ)
  (g:∀ {W2 W3 σ3 i e n},W2.ads=W3.ads.take n→Sat G W3 σ3→Pre W.ads W2.ads→gN W3.ads i=some e→Hd G W2 (aMf V fromN G.cf n i σ3) Φ→Th (.ref e) (G.st W3)):G.wp (eval (.Call (.Name x xp) args [] p) G.env) Th (G.st W) :=
 ifT_e h fun hst h=>onO_e h fun f hf h=>Call_ (aC2 S hf fun v d=>aM5 h d fun C qe h=>qe▸ifT_e h fun hk h=>by
  cases args with
  |nil=>cases (aAc hst).2
  |cons e l =>
   have hst:=aAc (show (notStar e&&l.all notStar)=true from (aAc hst).1)
   refine callWith_K S.ok.K (G.X.vo.kp (aAc hk).1) (R.evs S h fun {W2 σ2 ys vs} S2 p2 d2 h2=>⟨S2.K,aXd R S2 d2 (h2.keep (Ψ:=PV G Th) fun {W3 σ3 y} S3 p3 h3 v dv=>aDq h3 dv fun i e he qe h3=>qe▸g ?_ S3 p2 he h3)⟩) (aAb hst.1) (aA7 hst.2).1
   refine aA6 p3 fun u hu=>?_
   rw[hu,S2.O.len,← S2.len,List.take_left])
theorem Sat.cutN(S:Sat G W σ)(n:Nat):News G.g G.L W.h (W.cut n W.h).l:=fun p hp=>S.N p (aDv hp)
theorem Pick.inv{x:Addr×Obj}{l l':List (Addr×Obj)}(p:Pick x l l'):∀ y∈l,y=x∨y∈l':=by
 induction p with
 |head=>exact fun y h=>List.mem_cons.mp h
 |tail _ ih=>exact fun y h=>(List.mem_cons.mp h).elim (fun e=>.inr (e▸.head _)) fun h=>(ih y h).imp id (.tail _)
theorem aGy{fromN:Bool}{n i:Nat}{e:Addr}{W0:Wd}(S:Sat G W σ)(hW:W0.ads=W.ads.take n)(he:gN W.ads i=some e)(h:Hd G W0 (aMf V fromN G.cf n i σ) Φ) :
  (fromN=false→G.cf.hd=none→aHx V.K G.E (.ref e) (G.st W))∧(fromN=true→∀ j e1,G.cf.hd=some j→gN W.ads j=some e1→aE2 V.K e1 G.E (.ref e) (G.st W)) :=
 onO_e h fun so hso h=>by
  refine aDp (S.slot hso he) fun o ho hm d=>?_
  cases so with
  |xd C dn =>
   refine aGf d fun dx t hdx r6_3=>?_
   subst r6_3
   have h':Hd G W0 (aM4 σ dn _) Φ:=h
   unfold aM4 at h'
   refine aA6 (aAl (l:=σ.led) (i:=dn) (by rw[S.O.len,← S.len];exact aBl hdx)) fun so2 hso2=>?_
   rw[hso2] at h'
   cases so2 with
   |ns es m =>
    refine aDp (S.slot hso2 hdx) fun od ho2 hm2 d2=>?_
    replace h':Hd G W0 (ifT (V.ve C) _) Φ:=h'
    refine ifT_e h' fun hv h=>ifT_e h fun hn h=>ifT_e h fun hc h=>ifT_e h fun hc2 h=>?_
    have N2:∀ {vs:Array Value} {h':Heap},(h'.get? e=some (exO C dx vs))→News G.g G.L h' W.l→News G.g G.L W.h W.l→h'.get? dx=some od→News G.g G.L h' [(e,exO C dx vs),(dx,od)]:=fun k1 _ N k2 p hp=>by
     rcases List.mem_cons.mp hp with rfl|hp
     ·exact⟨k1,(N _ hm).2⟩
     ·rw[List.mem_singleton.mp hp];exact⟨k2,(N _ hm2).2⟩
    cases fromN with
    |false =>
     refine⟨fun _ hh=>ifT_e h fun _ h=>aUa S.F S.ok.K S.N hm (G.X.vo.ve hv).1 ?_,fun q=>nomatch q⟩
     exact aJi S hW he hdx hn hc hc2 d2 S.F (S.cutN n) (N2 (S.N _ hm).1 S.N S.N (S.N _ hm2).1) rfl rfl rfl (show CtxR _ none Value.none from rfl) h
    |true =>
     refine⟨fun q=>(nomatch q),fun _ j e1 hj he1=>onO_e h fun j' hj' h=>ifT_e h fun hjn h=>onO_e h fun c hcx h=>ifT_e h fun hcn h=>?_⟩
     cases hj.symm.trans hj'
     refine bL3 (aOn S he1 hcx) fun C1 d1 vs1 a1 k1 k2 k3=>?_
     rw[Option.isNone_iff_eq_none.mp hcn] at k3
     refine aA6 (aAl (l:=W.objs) (i:=j) (S.len▸aBl he1)) fun o1 ho1=>?_
     have m1:=aBf he1 ho1
     have eo:=(S.N _ m1).1.symm.trans k1
     cases eo
     refine aDp (aD0 S.nd he ho) fun rest pk aw _=>?_
     have q1:=aAc (aAc hn).1
     have ne:e1≠e:=fun z=>by have:=aC7 S.nd he1 (z▸he);have:=Nat.le_of_ble_eq_true q1.1;have:j<n:=Nat.le_of_ble_eq_true hjn;lia
     refine aP0 S.F S.ok.K S.N m1 pk aw ne (k2.trans (congrArg some k3)) (G.X.vo.ve hv).1 fun h3 F3 N3=>?_
     have N4:∀ p∈W.l,p.1≠e→h3.get? p.1=some p.2∧p.1≠G.L∧G.g.get? p.1=none:=fun p hp z=>(pk.inv p hp).elim (fun q=>absurd (congrArg Prod.fst q) z) fun q=>N3 p (.tail _ q)
     have hne:dx≠e:=fun z=>Nat.ne_of_beq_eq_false (aBu (aAc hn).2) (aC7 S.nd he (z▸hdx))
     refine aJi (vs:=vsN t e1) (a0:=.ref e1) S hW he hdx hn hc hc2 d2 F3 (fun p hp=>N4 p (aDv hp) ?_) (fun p hp=>?_) rfl rfl rfl (show CtxR _ (some j) _ from⟨e1,by rw[aEo (Nat.le_of_ble_eq_true hjn)];exact he1,rfl⟩) h
     ·intro z
      exact aIg S he (Nat.le_of_ble_eq_true q1.1) (z▸(List.of_mem_zip hp).1)
     ·rcases List.mem_cons.mp hp with rfl|hp
      ·exact N3 _ (.head _)
      ·rw[List.mem_singleton.mp hp];exact N4 _ hm2 hne
   |_=>exact False.elim h'
  |_=>exact h.elim
theorem aGe{x:Str}{xp p pos:Pos}{args:List PySem.Expr}{Q:Flow→Shared→Prop}(R:Snd V r)(S:Sat G W σ)(hh:G.cf.hd=none)(h:Hd G W (aEt V r G.cf false x args σ) Φ):G.wp (exec (.Raise (some (.Call (.Name x xp) args [] p)) none pos) G.env) Q (G.st W):=by
 have hA:=S.hd
 rw[hh] at hA
 exact aGw S.ok.K hA (aFg R S h fun hW S3 _ he h3=>(aGy S3 hW he h3).1 rfl hh)
theorem aHq{x:Str}{xp p pos cp:Pos}{kk j:Nat}{args:List PySem.Expr}{Q:Flow→Shared→Prop}(R:Snd V r)(S:Sat G W σ)(hh:G.cf.hd=some j)(h:Hd G W (aEt V r G.cf true x args σ) Φ):G.wp (exec (.Raise (some (.Call (.Name x xp) args [] p)) (some (.Constant .none kk cp)) pos) G.env) Q (G.st W):=by
 have hA:=S.hd
 rw[hh] at hA
 exact hA.elim fun e1 q=>aH7 S.ok.K q.2 (aFg R S h fun hW S3 p3 he h3=>(aGy S3 hW he h3).2 rfl j e1 hh (by
  have:=p3.get q.1
  rw[hW] at this
  exact (aEo (by have:=aBl this;simp at this;lia)).symm.trans this))
end
noncomputable def hmap(named:Bool):Out Flw→Out Flw
 | .p σ a=>(match a with
  | .n=>.f
  | .r y=>.t ⟨[],σ.led,σ.orc⟩ (.r y))
 | .x σ xi=>ifT (!named&&Nat.beq xi.kind 0) (.x σ ⟨1,xi.C,xi.es,xi.n,xi.ctx⟩)
 | .g P o=>.g P (hmap named o)
 | .s b o₁ o₂=>.s b (hmap named o₁) (hmap named o₂)
 | .t _ _=>.f
 | .f=>.f
noncomputable def bXv(cs:Scope):Option Str→Bool
 |none=>true
 |some y=>aBv cs y .local
noncomputable def nmM(n:Nat)(m:List (Str×SV)):Option Str→List (Str×SV)
 |none=>m
 |some y=>(y,.a n)::m
noncomputable def refOf:Value→Option Addr
 | .ref a=>some a
 |_=>none
noncomputable def aW2(V:Vw)(r:Rec)(cf:Cf)(x:Str)(nm:Option Str)(suite:List Stmt)(σ:St)(xi:XI):Out Flw :=
 ifT (Nat.beq xi.kind 2&&aBv cf.cs x .globalImplicit) (ifT (!(aB8 x "__debug__")) (onO (V.ns mainGlobals x) fun u=>onO u fun v=>onO (refOf v) fun C=>ifT (Nat.beq C xi.C) (ifT (V.ve xi.C&&bXv cf.cs nm)
  (hmap nm.isSome (r.bk ⟨cf.cs,some σ.led.length,cf.lv,false⟩ suite ⟨nmM σ.led.length σ.m nm,σ.led++[.ex xi.C (σ.led.length+1) xi.ctx]++[.ns xi.es xi.n],σ.orc⟩)))))
noncomputable def bD5(V:Vw)(r:Rec)(cf:Cf)(x:Str)(nm:Option Str)(suite:List Stmt):Out Flw→Out Flw
 | .p σ a=>.p σ a
 | .x σ xi=>aW2 V r cf x nm suite σ xi
 | .g P o=>.g P (bD5 V r cf x nm suite o)
 | .s b o₁ o₂=>.s b (bD5 V r cf x nm suite o₁) (bD5 V r cf x nm suite o₂)
 | .t _ _=>.f
 | .f=>.f
noncomputable def bCv(V:Vw)(r:Rec)(cf:Cf)(body:List Stmt)(x:Str)(nm:Option Str)(suite:List Stmt)(σ:St):Out Flw :=
 ifT (cf.po&&cf.hd.isNone) (ifT (!cf.top) (bD5 V r cf x nm suite (r.bk ⟨cf.cs,cf.hd,cf.lv,false⟩ body σ)))
section
variable {A₀:Around} {base g G B h₅:Heap} {outer:List Env} {L a:Addr} {m:Str→Option Value} {name:Str} {scope:Scope} {cd:Value}
theorem aRx{A:Around}{env:Env}(hE:env=envOf name scope L a cd)(hA:A=A₀.deeper env)(R:Flown G (env::outer) (ins.map (·.1)) outs e C d od a0 s'.heap)(F:Fr g L G m)(K:Below A₀ base outer g)(N:News g L G (ins++rest))(aw:Away rest (ins.map (·.1)))(XB:KF.In base)(TB:Top p loose mean mg mb base)
  (D:KtsDicts (outer.filterMap (·.frame)) g) (T0:KtsTurn (outer.filterMap (·.frame)) g₀ g) (q:ktsIn KF C "ValueError"=true) (ex:nsIn KF mainGlobals x=some (some (.ref C)))
  (k:∀ h' g' vs,vs.size=6→vs[2]?=some a0→KtsTurn (outer.filterMap (·.frame)) g₀ g'→Fr g' L h' m→News g' L h' ((e,exO C d vs)::(d,od)::(outs++rest))→Below A₀ base outer g'→KF.In g'→Top p loose mean mg mb g'→KtsDicts (outer.filterMap (·.frame)) g' →
   AllNe e ((d,od)::(ins++rest))→AllNe d (ins++rest)→(∀ q∈outs,q.1∈ins.map (·.1)∨AllNe q.1 (ins++rest)) →
   wpAny (model prog w) (A.mark (some (.ref e))) (execs (b₀::suite) env) Q
    (notedBy (model prog w) (A.mark (some (.ref e))) env (cameBackBy (model prog w) A env E)) { s' with heap:=h' })
  (hk:scope.kind=.function) (hx:env.kindOf x=some .globalImplicit) (hd:(x==("__debug__":Str))=false) :
  wpAny (model prog w) A (noteFrame (.ref e) env)
   (fun _ s₂=>wpAny (model prog w) A (setFlight (.ref e) none) (fun _ s₃ =>
    wpAny (model prog w) A (handleBy (.ref e) env (.ExceptHandler (some (.Name x np)) none (b₀::suite) pos::hrest)) Q E s₃) E s₂) E s':=by
 subst hE hA
 exact aX2 R F K N aw XB TB D T0 q ex k hk hx hd
theorem aO3{A:Around}{env:Env}(hE:env=envOf name scope L a cd)(hA:A=A₀.deeper env)(R:Flown G (env::outer) (ins.map (·.1)) outs e C d od a0 s'.heap)(F:Fr g L G m)(K:Below A₀ base outer g)(N:News g L G (ins++rest))(aw:Away rest (ins.map (·.1)))(XB:KF.In base)(TB:Top p loose mean mg mb base)
  (D:KtsDicts (outer.filterMap (·.frame)) g) (T0:KtsTurn (outer.filterMap (·.frame)) g₀ g) (q:ktsIn KF C "ValueError"=true) (ex:nsIn KF mainGlobals x=some (some (.ref C)))
  (k:∀ h' g' vs,vs.size=6→vs[2]?=some a0→KtsTurn (outer.filterMap (·.frame)) g₀ g'→Fr g' L h' (fun y=>if y=n then some (.ref e) else m y)→News g' L h' ((e,exO C d vs)::(d,od)::(outs++rest))→Below A₀ base outer g'→KF.In g'→Top p loose mean mg mb g'→KtsDicts (outer.filterMap (·.frame)) g' →
   AllNe e ((d,od)::(ins++rest))→AllNe d (ins++rest)→(∀ q∈outs,q.1∈ins.map (·.1)∨AllNe q.1 (ins++rest)) →
   wpAny (model prog w) (A.mark (some (.ref e))) (execs (b₀::suite) env)
    (fun f s₄=>wpAny (model prog w) A (do bindName env n .none;unbindBehindTheSuite env n pos) (fun _ s₅=>Q f s₅) E s₄)
    (fun _ _=>False) { s' with heap:=h',toks:=s'.toks+1 })
  (hk:scope.kind=.function) (hlo:env.kindOf n=some .local) (hx:env.kindOf x=some .globalImplicit) (hd:(x==("__debug__":Str))=false) :
  wpAny (model prog w) A (noteFrame (.ref e) env)
   (fun _ s₂=>wpAny (model prog w) A (setFlight (.ref e) none) (fun _ s₃ =>
    wpAny (model prog w) A (handleBy (.ref e) env (.ExceptHandler (some (.Name x np)) (some n) (b₀::suite) pos::hrest)) Q E s₃) E s₂) E s':=by
 subst hE hA
 exact aRy R F K N aw XB TB D T0 q ex k hk hlo hx hd
end
section
variable {V:Vw} {G:Gd V} {W:Wd} {σ:St} {r:Rec}
theorem aKz{M:Model}{A A₀:Around}{env:Env}{outer:List Env}{cn:Str}{cs:Scope}{L a e C d:Addr}{ccd:Value}{vs:Array Value}{a0:Value}{g' base:Heap}{s:Shared}{eh:Value}{m:Str→Option Value}{E:Value→Shared→Prop}(hE:env=envOf cn cs L a ccd)(hA:A=A₀.deeper env)(tb:Below A₀ base outer g')(F:Fr g' L s.heap m)(tk:cs.kind=.function)(hx:s.heap.get? e=some (exO C d vs))(hsz:vs.size=6)(h2:vs[2]?=some a0)(h1:vs[1]?=some .none)
  (h:∀ h₂,s.heap.UpToSlots h₂→Fl (hideAll s.heap (e::(env::outer).filterMap (·.frame))) (env::outer) e C d a0 (rawInt L) h₂→E (.ref e) { s with heap:=h₂ }):notedBy M (A.mark (some eh)) env (cameBackBy M A env E) (.ref e) s:=by
 subst hE hA
 have K':=tb.push (name:=cn) (a:=a) (cd:=ccd) F tk
 have hfr:s.heap.FunFrames (hideAll s.heap (e::(envOf cn cs L a ccd::outer).filterMap (·.frame))) (envOf cn cs L a ccd::outer) :=
  funFrames_hide K'.frames fun env he b hb=>List.mem_cons_of_mem _ (List.mem_filterMap.mpr ⟨env,he,hb⟩)
 refine aK0 (aFj (A:=(A₀.deeper (envOf cn cs L a ccd)).mark (some eh)) K'.stack hfr rfl hx (fun b o q=>of_hideAll _ q) (hideAll_none _ (.head _)) hsz h2 h1 fun h₁ x₁ u₁=>?_)
 refine bP8 x₁.obj fun vs1 TT oT ts he _ _ hT1 _=>?_
 refine wpAny_bind (wpAny_field he rfl hT1 ?_)
 rw[if_neg (by simp)]
 exact flight (s:={ s with heap:=h₁ }) (fr:=some L) x₁ fun h₂ x₂ u₂=>h h₂ (u₁.trans u₂) x₂
theorem aTs(hcl:G.cl=[]):G.env=envOf G.cn G.cf.cs G.L G.a G.ccd:=by
 show envX G.cn G.cf.cs G.L G.a G.ccd G.cl=_
 rw[hcl];rfl
theorem aNq{G':Gd V}{g':Heap}{eh:Value}{hdl:Option Nat}{E2:Value→Shared→Prop}{W':Wd}{σ3:St}{xi:XI}{e:Addr}(T:Turn G (G.at_ g'))(hcl:G.cl=[])(hdp:G.A=G.A₀.deeper G.env)(hk0:xi.kind=0)(he:G'={ G with A:=G.A.mark (some eh),g:=g',cf:=⟨G.cf.cs,hdl,G.cf.lv,false⟩,E:=E2 })(SX:aPt G' W' σ3 xi e)
  (h:∀ W2,W2.ads=W'.ads→aPt (G.at_ g') W2 σ3 ⟨1,xi.C,xi.es,xi.n,xi.ctx⟩ e→G.E (.ref e) (G.st W2)):notedBy G.M (G.A.mark (some eh)) G.env (cameBackBy G.M G.A G.env G.E) (.ref e) (G.st W'):=by
 subst he
 refine aBa SX fun Ld z1_1=>?_
 obtain⟨d,od,a0,EX,SX⟩:=z1_1
 obtain⟨kd,C,es,n,cx⟩:=xi
 cases hk0
 refine bL5 SX fun vs F N N2 hsz h2 h1=>?_
 exact aKz (s:=G.st W') (aTs hcl) hdp T.ok.B F T.ok.hk (N2 _ (.head _)).1 hsz h2 h1 fun h₂ u x₂=>h ⟨W'.ads,W'.objs,W'.m,h₂,W'.t⟩ rfl ⟨⟨Ld.O,Ld.len,Ld.nd,Ld.hi⟩,d,od,a0,⟨EX.e_,EX.d_,EX.ed,EX.el,EX.dl,EX.od_,EX.ctx⟩,vs,W'.h,F,N,N2,u,x₂⟩
theorem aN5{o:Out Flw}{named:Bool}{G2:Gd V}{W2:Wd}{Q Q2:Flow→Shared→Prop}(h:Hd G W (hmap named o) (PF G Q))(p0:Pre W.ads W2.ads)
  (kr:∀ {W' σ' y},Sat G2 W' σ'→Pre W.ads W'.ads→(∀ {G' W3},Turn G G'→W3.ads=W'.ads→Sat G' W3 ⟨[],σ'.led,σ'.orc⟩→∀ v,Den W'.ads y v→Q (.ret v) (G.st W3))→∀ v,Den W'.ads y v→Q2 (.ret v) (G2.st W'))
  (kx:∀ {G' W' σ' e} {xi:XI},Turn G2 G'→(xi.kind≠1→G'=G2)→Pre W.ads W'.ads→aPt G' W' σ' xi e→named=false→xi.kind=0→(∀ {G3 W3},Turn G G3→W3.ads=W'.ads→aPt G3 W3 σ' ⟨1,xi.C,xi.es,xi.n,xi.ctx⟩ e→G.E (.ref e) (G.st W3))→G2.E (.ref e) (G2.st W')):Hd G2 W2 o (PF G2 Q2):=by
 induction o with
 |f=>exact h
 |p σ a=>cases a with
  |n=>exact False.elim h
  |r y=>exact fun W' p S v d=>kr S (p0.trans p) (fun {G' W3} T e S3 v d=>h G' W3 T (e▸p0.trans p) S3 v (e▸d)) v d
 |t _ _=>exact False.elim h
 |x σ xi=>exact fun G' W' e T hT p SX=>ifT_e h fun q h=>kx T hT (p0.trans p) SX (aBu (aAc q).1) (Nat.eq_of_beq_eq_true (aAc q).2) fun {G3 W3} T3 e3 SX3=>h G3 W3 e T3 (fun z=>(z rfl).elim) (e3▸p0.trans p) SX3
 |g P o ih=>exact⟨h.1,ih h.2⟩
 |s c o1 o2 i1 i2=>exact⟨fun e=>i1 (h.1 e),fun e=>i2 (h.2 e)⟩
theorem aW1{x:Str}{nm:Option Str}{b₀:Stmt}{suite:List Stmt}{xp hp:Pos}{xi:XI}{e:Addr}{G0:Gd V}{E0:Value→Shared→Prop}{Q:Flow→Shared→Prop}(hnt:G.cf.top=false)(R:Snd V r)(O:Ok G)(S0:Hdl W.ads G.A G.cf.hd)(ho:Own G)(e0:G0={ G with cf:=⟨G.cf.cs,G.cf.hd,G.cf.lv,false⟩,E:=E0 })(SX:aPt G0 W σ xi e)(h:Hd G W (aW2 V r G.cf x nm (b₀::suite) σ xi) (PF G Q)) :
  G.wp (noteFrame (.ref e) G.env) (fun _ s₂=>G.wp (setFlight (.ref e) none) (fun _ s₃=>G.wp (handleBy (.ref e) G.env [.ExceptHandler (some (.Name x xp)) nm (b₀::suite) hp]) Q s₃) s₂) (G.st W) :=
 ifT_e h fun q1 h=>ifT_e h fun q2 h=>onO_e h fun u hu h=>onO_e h fun v hv h=>onO_e h fun C hC h=>ifT_e h fun q3 h=>ifT_e h fun q4 h=>by
  subst e0
  have k1:=Nat.eq_of_beq_eq_true (aAc q1).1
  have k2:=aA5 (aAc q1).2
  have k3:=bGv q2
  have k5:=(G.X.vo.ve (aAc q4).1).2
  have k4:nsIn V.K mainGlobals x=some (some (.ref xi.C)):=by
   cases v with
   |ref a=>cases hC;rw[← Nat.eq_of_beq_eq_true q3,(G.X.vo.ns hu).1];subst_vars;rfl
   |_=>cases hC
  refine aBa SX fun Ld z4_1=>?_
  obtain⟨d,od,a0,EX,SX⟩:=z4_1
  obtain⟨kd,C',es,n,cx⟩:=xi
  cases k1
  refine bFz SX fun hh ads0 objs0 F M N0 len0 p0 fl=>?_
  have hA:=ho.1 hnt
  have hlen:σ.led.length=W.ads.length:=by rw[Ld.O.len,Ld.len]
  have pre:Pre W.ads (W.ads++[e]++[d]):=(Pre.snoc _ _).trans (.snoc _ _)
  have hd2:∀ (A':Around),A'.handled=some (.ref e)→Hdl (W.ads++[e]++[d]) A' (some σ.led.length):=fun A' q=>⟨e,by rw[hlen];exact aEp aBh,q⟩
  have fl':Flown hh (G.env::G.outer) ((ads0.zip objs0).map (·.1)) W.l e C' d od a0 W.h:=by rw[aEq len0];exact fl
  have N0':News G.g G.L hh (ads0.zip objs0++[]):=by rw[List.append_nil];exact N0
  have ln:W.ads.length=W.objs.length:=Ld.len
  -- the ledger behind a catch
  have led:∀ {g' h' vs t} {m':Str→Option Value},vs[2]?=some a0→Fr g' G.L h' m'→News g' G.L h' ((e,exO C' d vs)::(d,od)::(W.l++[]))→MD (W.ads++[e]++[d]) (nmM σ.led.length σ.m nm) m'→Below G.A₀ G.base G.outer g'→V.K.In g'→Top G.X.p G.X.loose G.X.mean G.X.mg G.X.mb g'→KtsDicts G.fs g'→∀ E2,
    Sat { G with A:=G.A.mark (some (.ref e)),g:=g',cf:=⟨G.cf.cs,some σ.led.length,G.cf.lv,false⟩,E:=E2 } ⟨W.ads++[e]++[d],W.objs++[exO C' d vs]++[od],m',h',t⟩ ⟨nmM σ.led.length σ.m nm,σ.led++[.ex C' (σ.led.length+1) cx]++[.ns es n],σ.orc⟩:=fun {g' h' vs t m'} h2 F' N' M' B' K' P' D' E2=>by
   refine⟨⟨B',K',P',O.KB,O.TB,D',O.fr,O.hk,O.dp,O.un,O.tp,fun q=>nomatch q⟩,F',M',fun p hp=>?_,((Ld.O.mono fun _ _=>DenO.mono pre).snoc (show DenO G.X (W.ads++[e]++[d]) (.ex C' (σ.led.length+1) cx) (exO C' d vs) from⟨d,vs,a0,by rw[hlen];have:=aBh (a:=W.ads++[e]) (c:=d);simpa using this,rfl,h2,EX.ctx.mono pre⟩)).snoc (EX.od_.mono pre),by simp[ln],?_,hd2 _ rfl,fun q=>absurd (hnt.symm.trans q) (fun z=>nomatch z)⟩
   ·rw[List.append_nil] at N'
    replace hp:p∈(W.ads++[e]++[d]).zip (W.objs++[exO C' d vs]++[od]):=hp
    rw[aB0 (by simp[ln]),aB0 ln] at hp
    rcases List.mem_append.mp hp with hp|hp
    ·rcases List.mem_append.mp hp with hp|hp
     ·exact N' p (.tail _ (.tail _ hp))
     ·rw[List.mem_singleton.mp hp];exact N' _ (.head _)
    ·rw[List.mem_singleton.mp hp];exact N' _ (.tail _ (.head _))
   ·rw[List.append_assoc]
    refine List.nodup_append.mpr ⟨Ld.nd,by simp[EX.ed],fun a ha b hb q=>?_⟩
    subst q
    simp only[List.cons_append,List.nil_append,List.mem_cons,List.not_mem_nil,or_false] at hb
    rcases hb with rfl|rfl
    ·exact EX.e_ ha
    ·exact EX.d_ ha
  have tu:∀ {g'},KtsTurn G.fs G.g g'→Below G.A₀ G.base G.outer g'→V.K.In g'→Top G.X.p G.X.loose G.X.mean G.X.mg G.X.mb g'→KtsDicts G.fs g'→Turn G (G.at_ g'):=fun T' B' K' P' D'=>⟨rfl,T',⟨B',K',P',O.KB,O.TB,D',O.fr,O.hk,O.dp,O.un,O.tp,O.own⟩⟩
  refine aBa hA fun hA hcl=>?_
  have hE:=aTs hcl
  cases nm with
  |none =>
   refine aRx hE hA fl' F O.B N0' (aGm fun _ h=>nomatch h) O.KB O.TB O.D .refl k5 k4 (fun h' g' vs hsz h2 T' F' N' B' K' P' D' l1 l2 l3=>?_) O.hk k2 k3
   have t:=tu T' B' K' P' D'
   refine R.bk (led (t:=W.t) h2 F' N' (M.mono pre) B' K' P' D' _) (aN5 h pre ?_ ?_)
   ·exact fun {W1 σ1 y} S1 p k v d1=>k t rfl ⟨t.ok,S1.F,(fun _ _ q=>nomatch q),S1.N,S1.O,S1.len,S1.nd,S0.up p,fun q=>absurd (hnt.symm.trans q) (fun z=>nomatch z)⟩ v d1
   ·intro G' W1 σ1 e1 xi1 T1 hT1 p SX1 _ hk0 k
    exact aNq (g':=g') t hcl hA hk0 (hT1 (by rw[hk0];decide)) SX1 fun W2 e2 SX2=>k t e2 SX2
  |some y =>
   refine aO3 hE hA fl' F O.B N0' (aGm fun _ h=>nomatch h) O.KB O.TB O.D .refl k5 k4 (fun h' g' vs hsz h2 T' F' N' B' K' P' D' l1 l2 l3=>?_) O.hk (aA5 (aAc q4).2) k2 k3
   have t:=tu T' B' K' P' D'
   refine R.bk (led (t:=W.t+1) h2 F' N' (MD.put (M.mono pre) ⟨e,by rw[hlen];exact aEp aBh,rfl⟩) B' K' P' D' (fun _ _=>False)) (aN5 h pre ?_ ?_)
   ·intro W1 σ1 y1 S1 p k v d1
    rw[hE]
    refine name_goes_keeps S1.F S1.N (fun h4 v4 F4 N4=>?_) O.hk (aA5 (aAc q4).2)
    exact k (W3:=⟨W1.ads,W1.objs,_,h4,_⟩) t rfl ⟨t.ok,F4,(fun _ _ q=>nomatch q),N4,S1.O,S1.len,S1.nd,S0.up p,fun q=>absurd (hnt.symm.trans q) (fun z=>nomatch z)⟩ v d1
   ·exact fun _ _ _ _ q=>nomatch q
theorem aRi{body:List Stmt}{x:Str}{nm:Option Str}{b₀:Stmt}{suite:List Stmt}{xp hp pos:Pos}{Q:Flow→Shared→Prop}(R:Snd V r)(S:Sat G W σ)(h:Hd G W (bCv V r G.cf body x nm (b₀::suite) σ) (PF G Q)):G.wp (exec (.Try body [.ExceptHandler (some (.Name x xp)) nm (b₀::suite) hp] [] [] pos) G.env) Q (G.st W) :=
 ifT_e h fun q1 h=>ifT_e h fun q2 h=>by
  have hnt:=aBu q2
  have hown:=S.ok.own (aAc q1).1
  refine wpAny_Try_except (R.bk (G:={ G with cf:=⟨G.cf.cs,G.cf.hd,G.cf.lv,false⟩,E:=_ }) (W:=W) (σ:=σ) ⟨⟨S.ok.B,S.ok.K,S.ok.T,S.ok.KB,S.ok.TB,S.ok.D,S.ok.fr,S.ok.hk,S.ok.dp,S.ok.un,S.ok.tp,fun q=>nomatch q⟩,S.F,S.M,S.N,S.O,S.len,S.nd,S.hd,S.cl⟩ ?_)
  revert h
  generalize r.bk ⟨G.cf.cs,G.cf.hd,G.cf.lv,false⟩ body σ=o
  intro h
  induction o with
  |f=>exact h
  |p σ1 a=>cases a with
   |n=>exact fun W1 p S1=>wpAny_execs_nil (h W1 p ⟨S.ok,S1.F,S1.M,S1.N,S1.O,S1.len,S1.nd,S1.hd,S1.cl⟩)
   |r y=>exact fun W1 p S1 v d=>h W1 p ⟨S.ok,S1.F,S1.M,S1.N,S1.O,S1.len,S1.nd,S1.hd,S1.cl⟩ v d
  |t _ _=>exact False.elim h
  |x σ1 xi =>
   intro G' W1 e T hT p SX
   have h:=Hd.up p (show Hd G W (aW2 V r G.cf x nm (b₀::suite) σ1 xi) (PF G Q) from h)
   have hk:xi.kind=2:=ifT_e h fun q _=>Nat.eq_of_beq_eq_true (aAc q).1
   exact aW1 hnt R S.ok (S.hd.up p) hown (hT (by rw[hk];decide)) SX h
  |g P o ih=>exact⟨h.1,ih h.2⟩
  |s c o1 o2 i1 i2=>exact⟨fun e=>i1 (h.1 e),fun e=>i2 (h.2 e)⟩
end
noncomputable def aAk:Nat→Nat→List SO
 | 0,_=>[]
 |n+1,i=>.raw i::aAk n (i+1)
noncomputable def aHg:Nat→Nat→List SO→Bool
 | 0,_,_=>true
 |n+1,i,l=>(match l with
  | []=>false
  |o::r=>(match o with
   | .raw j=>Nat.beq i j&&aHg n (i+1) r
   |_=>false))
noncomputable def aLx(o:Nat→Obj)(ex:List (Addr×Obj))(i:Nat):Obj:=if i<1000 then o i else match gN ex (i-1000) with
 |some p=>p.2
 |none=>⟨.none,none,.plain,#[]⟩
theorem aF6{o:Nat→Obj}{ex:List (Addr×Obj)}{i:Nat}(h:i<1000):aLx o ex i=o i:=if_pos h
theorem aIe{o:Nat→Obj}{ex:List (Addr×Obj)}{i:Nat}{p:Addr×Obj}(h:gN ex i=some p):aLx o ex (1000+i)=p.2:=by
 unfold aLx
 rw[if_neg (by lia),Nat.add_sub_cancel_left,h]
noncomputable def bf{α β:Type}(o:Out α)(k:St→α→Out β):Out β:=match o with
 | .p σ a=>k σ a
 | .g P o=>.g P (bf o k)
 | .s b o₁ o₂=>.s b (bf o₁ k) (bf o₂ k)
 |_=>.f
section
variable {V:Vw}
noncomputable abbrev Gd.wβ(G:Gd V)(β:Bet):Gd V:={ G with X:={ G.X with β:=β } }
noncomputable abbrev exβ(G:Gd V)(ex:List (Addr×Obj)):Gd V:=G.wβ ⟨G.X.β.d,aLx G.X.β.o ex⟩
variable {G G':Gd V} {W W1:Wd} {σ:St}
theorem Hd.bf{α β:Type}{k:St→α→Out β}{Φ:Wd→St→β→Prop}{Ψ:Wd→St→α→Prop}(f:∀ {W' σ a},Sat G' W' σ→Pre W1.ads W'.ads→Hd G W (k σ a) Φ→Ψ W' σ a):∀ {o:Out α},Hd G W (Mine.bf o k) Φ→Hd G' W1 o Ψ
 | .f,h=>h
 | .p _ _,h=>fun _ p S=>f S p h
 | .t _ _,h=>False.elim h
 | .x _ _,h=>False.elim h
 | .g _ _,h=>⟨h.1,Hd.bf f h.2⟩
 | .s _ _ _,h=>⟨fun e=>Hd.bf f (h.1 e),fun e=>Hd.bf f (h.2 e)⟩
theorem Ok.wβ(O:Ok G)(β:Bet):Ok (G.wβ β):=⟨O.B,O.K,O.T,O.KB,O.TB,O.D,O.fr,O.hk,O.dp,O.un,O.tp,O.own⟩
theorem aF2{X:Ctx V}{d:Nat→List (Int×Value)}{oo:Nat→Obj}{ads:List Addr}{all:List (Addr×Obj)}:∀ (ex:List (Addr×Obj)) (i:Nat),(∀ j,gN ex j=gN all (i+j))→All2 (DenO { X with β:=⟨d,aLx oo all⟩ } ads) (aAk ex.length (1000+i)) (ex.map (·.2))
 | [],_,_=>.nil
 |p::r,i,h=>.cons (aIe (p:=p) (show gN all i=some p from (h 0).symm)).symm (aF2 r (i+1) fun j=>by rw[show i+1+j=i+(j+1) by lia];exact h (j+1))
theorem aDk{α:Type}{a b:List α}{i:Nat}(h:i<a.length):gN (a++b) i=gN a i:=by
 refine aA6 (aAl h) fun d hd=>?_
 rw[hd];exact aEp hd
theorem aCn{α:Type}:∀ {a b:List α} {i:Nat},gN (a++b) (a.length+i)=gN b i
 | [],b,i=>by simp
 |x::a,b,i=>by rw[List.length_cons,Nat.add_right_comm];exact aCn (a:=a)
noncomputable abbrev Wd.ext(W:Wd)(ex:List (Addr×Obj)):Wd:=⟨W.ads++ex.map (·.1),W.objs++ex.map (·.2),W.m,W.h,W.t⟩
theorem Sat.ext(S:Sat G W σ)(hcl:σ.led.all (clO σ.led.length)=true){ex:List (Addr×Obj)}(NX:News G.g G.L W.h ex)(nd:(W.ads++ex.map (·.1)).Nodup) :
  Sat (exβ G ex) (W.ext ex) ⟨σ.m,σ.led++aAk ex.length 1000,σ.orc⟩:=by
 have pre:Pre W.ads (W.ads++ex.map (·.1)):=⟨_,rfl⟩
 have hlen:σ.led.length=W.ads.length:=by rw[S.O.len,S.len]
 refine⟨S.ok.wβ _,S.F,S.M.mono pre,fun p hp=>?_,?_,by simp[S.len],nd,S.hd.up pre,S.clUp pre⟩
 ·replace hp:p∈(W.ads++ex.map (·.1)).zip (W.objs++ex.map (·.2)):=hp
  rw[List.zip_append S.len] at hp
  rcases List.mem_append.mp hp with hp|hp
  ·exact S.N p hp
  ·refine NX p ?_
   rw[List.zip_map'] at hp
   simpa using hp
 ·exact All2.app (All2.cut (P:=clO σ.led.length) (fun x y h d=>DenO.cut (X:=G.X) (β':=(exβ G ex).X.β) rfl (fun j hj=>aF6 hj) (fun i hi=>(aDk (by rw[← hlen];exact hi)).symm) h d) hcl S.O) (aF2 (X:=G.X) ex 0 fun j=>by rw[Nat.zero_add])
theorem aFl{X:Ctx V}{d:Nat→List (Int×Value)}{oo:Nat→Obj}{ads:List Addr}{all:List (Addr×Obj)}:∀ {n i:Nat} {l:List SO} {objs:List Obj},aHg n i l=true→All2 (DenO { X with β:=⟨d,aLx oo all⟩ } ads) l objs→∀ j<n,gN objs j=some (aLx oo all (i+j))
 | 0,_,_,_,_,_,j,h=>absurd h (Nat.not_lt_zero _)
 |n+1,i,[],_,h,_,_,_=>nomatch h
 |n+1,i,x::l,objs,h,a,j,hj=>by
  cases a with
  |cons d a=>cases x with
   |raw q =>
    have h:=aAc h
    have:=Nat.eq_of_beq_eq_true h.1
    subst this
    cases j with
    |zero=>exact congrArg some (show _=aLx oo all i from d)
    |succ j=>rw[show i+(j+1)=i+1+j by lia];exact aFl h.2 a j (by lia)
   |_=>cases h
theorem aOx{α β:Type}{R:α→β→Prop}{l:List α}{m:List β}(h:All2 R l m):∀ k,All2 R (l.drop k) (m.drop k):=by
 induction h with
 |nil=>intro k;rw[List.drop_nil,List.drop_nil];exact .nil
 |cons r t ih=>intro k;cases k with
  |zero=>exact .cons r t
  |succ k=>exact ih k
theorem aN9{α:Type}:∀ {l:List α} {k j:Nat},gN (l.drop k) j=gN l (k+j)
 | [],k,j=>by rw[List.drop_nil];rfl
 |x::l,0,j=>by rw[Nat.zero_add];rfl
 |x::l,k+1,j=>by rw[Nat.add_right_comm];exact aN9 (l:=l)
theorem Sat.cut{σ':St}{W0 W':Wd}{ex:List (Addr×Obj)}{σ0:St}(S0:Sat G W0 σ0)(S:Sat (exβ G ex) W' σ')(pre:Pre (W0.ads++ex.map (·.1)) W'.ads)
  (hraw:aHg ex.length 1000 (σ'.led.drop σ0.led.length)=true) (hcl:(σ'.led.take σ0.led.length).all (clO σ0.led.length)=true) (hm:σ'.m.all (fun p=>clV σ0.led.length p.2)=true) :
  Sat G ⟨W0.ads,W'.objs.take σ0.led.length,W'.m,W'.h,W'.t⟩ ⟨σ'.m,σ'.led.take σ0.led.length,σ'.orc⟩∧News G.g G.L W'.h ex:=by
 have hlen:σ0.led.length=W0.ads.length:=by rw[S0.O.len,S0.len]
 refine aA6 pre fun rest hr=>?_
 have hk:∀ i,i<σ0.led.length→gN W'.ads i=gN W0.ads i:=fun i hi=>by
  rw[hr,List.append_assoc];exact aDk (by rw[← hlen];exact hi)
 have tk:W'.ads.take σ0.led.length=W0.ads:=by rw[hr,List.append_assoc,hlen,List.take_left]
 refine⟨⟨S0.ok,S.F,fun x y e=>?_,fun p hp=>S.N p (aDv (n:=σ0.led.length) (by rw[tk];exact hp)),?_,?_,S0.nd,S0.hd,S0.cl⟩,fun p hp=>?_⟩
 ·refine aAd (S.M x y e) fun v h1 h2=>?_
  have e':σ'.m.lookup x=some y:=by rw[← aFk];exact e
  exact⟨v,h1,h2.cut hk (List.all_eq_true.mp hm _ (mem_of_lookup e'))⟩
 ·exact All2.cut (P:=clO σ0.led.length) (fun x y h d=>DenO.cut (X:=(exβ G ex).X) (β':=G.X.β) rfl (fun j hj=>(aF6 hj).symm) hk h d) hcl (S.O.take _)
 ·have:=S.len
  have h2:=congrArg List.length hr
  simp only[List.length_append,List.length_map] at h2
  simp only[List.length_take]
  lia
 ·refine aA6 (aCj hp) fun j hj=>?_
  have:=aFl (X:=G.X) hraw (aOx S.O _) j (aBl hj)
  rw[aN9,aIe hj] at this
  have ha:gN W'.ads (σ0.led.length+j)=some p.1:=by
   rw[hr,List.append_assoc,hlen,aCn]
   refine aEp ?_
   have:∀ (l:List (Addr×Obj)) (j:Nat),gN l j=some p→gN (l.map (·.1)) j=some p.1:=fun l=>by
    induction l with
    |nil=>intro j h;cases h
    |cons a l ih=>intro j h;cases j with
     |zero=>cases h;rfl
     |succ j=>exact ih j h
   exact this ex j hj
  exact S.N _ (aBf ha this)
end
noncomputable def bF4{α:Type}(k e:Nat)(kk:St→Out α)(σ:St):Out α:=ifT (aHg e 1000 (σ.led.drop k)) (ifT ((σ.led.take k).all (clO k)) (ifT (σ.m.all (fun p=>clV k p.2)) (kk ⟨σ.m,σ.led.take k,σ.orc⟩)))
noncomputable def bBi{α:Type}(a:Flw)(o:Out α):Out α:=match a with
 | .n=>o
 | .r _=>.f
noncomputable def aWc(V:Vw)(r:Rec)(cf:Cf)(elts:List PySem.Expr)(body:List Stmt):List SV→St→Out Flw
 | [],σ=>.p σ .n
 |v::rest,σ=>ifT (σ.led.all (clO σ.led.length)) (ifT (clV σ.led.length v)
   (bf (bGi V r cf elts ⟨σ.m,σ.led++aAk 2 1000,σ.orc⟩ v) fun σ2 _=>bf (r.bk cf body σ2) fun σ3 a=>bBi a (bF4 σ.led.length 2 (fun σ4=>aWc V r cf elts body rest σ4) σ3)))
noncomputable def aTn(V:Vw)(r:Rec)(cf:Cf)(elts es:List PySem.Expr)(body:List Stmt)(σ:St):Out Flw :=
 ifT (cf.po&&cf.hd.isNone) (bd (r.es cf es σ) fun σ1 vs=>ifT (Nat.ble vs.length 1000) (aWc V r cf elts body vs σ1))
section
variable {V:Vw} {G:Gd V} {W:Wd} {σ:St} {r:Rec}
theorem aK4{prog:Program}{w:World}{A:Around}{elts:List PySem.Expr}{kk:Nat}{pos:Pos}{I l:Addr}{i:Nat}{v:Value}{s:Shared}{Q:Unit→Shared→Prop}{E:Value→Shared→Prop}(hit:s.heap.IsListIter I l i)(hQ:Q () s):wpAny (model prog w) A (letOwnedTupleGo (.Tuple elts kk pos) (.ref I) v) Q E s:=by
 cases v with
 |ref T=>exact wpAny_letOwnedTupleGo_listiter hit hQ
 |_=>exact wpAny_pure hQ
theorem aTv{α:Type}{k e:Nat}{kk:St→Out α}{Φ:Wd→St→α→Prop}{P:Prop}(h:Hd G W (bF4 k e kk σ) Φ)(g:aHg e 1000 (σ.led.drop k)=true→(σ.led.take k).all (clO k)=true→σ.m.all (fun p=>clV k p.2)=true→Hd G W (kk ⟨σ.m,σ.led.take k,σ.orc⟩) Φ→P):P :=
 ifT_e h fun a h=>ifT_e h fun b h=>ifT_e h fun c h=>g a b c h
theorem aPe(S:Sat G W σ){D:Addr}(lt:∀ p∈W.l,p.1<D){a:Addr}(ha:a∈W.ads):@LT.lt Nat _ a D:=by
 refine aA6 (aCj ha) fun i hi=>?_
 refine aA6 (aAl (l:=W.objs) (S.len▸aBl hi)) fun o ho=>?_
 exact lt _ (aBf hi ho)
theorem aW6{elts es:List PySem.Expr}{body:List Stmt}{kk:Nat}{tp lp pos:Pos}{Q:Flow→Shared→Prop}(R:Snd V r)(S:Sat G W σ)(h:Hd G W (aTn V r G.cf elts es body σ) (PF G Q)):G.wp (exec (.For (.Tuple elts kk tp) (.List es lp) body [] pos) G.env) Q (G.st W) :=
 ifT_e h fun hck h=>by
  have hn:=Option.isNone_iff_eq_none.mp (aAc hck).2
  refine For_turns (h₀:=G.g) S.F (List_ (R.evs S h fun {W1 σ1 vs ws} S1 p1 d1 h1=>ifT_e h1 fun hb h1=>?_)) (fun x=>rfl) (S.ok.own (aAc hck).1).2
  have hb:=Nat.le_of_ble_eq_true hb
  refine newList_K S1.F S1.N (fun D h' F' N' lt=>?_) (by rw[sizeLine_eq,← d1.len];lia)
  have hD:=N' _ (.head _)
  have NL:News G.g G.L h' W1.l:=fun p hp=>N' p (.tail _ hp)
  have hl:h'.IsList D ws.toArray:=News.isList N' (.head _)
  have hDI:D≠h'.objs.size:=Nat.ne_of_lt (Heap.lt_size hD.1)
  have hh:=S1.hd
  rw[hn] at hh
  have ltI:∀ p∈W1.l,p.1<h'.objs.size:=fun p hp=>Heap.lt_size (NL p hp).1
  refine wpAny_pyIter_list hl ?_
  have hI0:G.g.get? h'.objs.size=none:=next_is_new F'
  have DI:@LT.lt Nat _ D h'.objs.size:=Heap.lt_size hD.1
  refine bLv h'.objs.size [h'.objs.size,D] [h'.objs.size] ws.toArray.size _ _ _ W1.m W1.l
   (fun i m₁ news₁=>∃ σi objsi,news₁=W1.ads.zip objsi∧MD W1.ads σi.m m₁∧All2 (DenO G.X W1.ads) σi.led objsi∧W1.ads.length=objsi.length∧Hd G W1 (aWc V r G.cf elts body (vs.drop i) σi) (PF G Q))
   ⟨rfl,KTurns.ofWalks (Walks.list hh h'.objs.size D hDI ws.toArray) (fun i v s Q E st hq=>aK4 st.1 hq),?_,?_,?_,⟨⟨_,Heap.get?_push_size _ rfl,rfl,rfl⟩,hl.at fun o e=>Heap.get?_push_of_some _ e⟩,F'.push _,(fun p hp=>⟨Heap.get?_push_of_some _ (NL p hp).1,(NL p hp).2⟩),⟨σ1,W1.objs,rfl,S1.M,S1.O,S1.len,h1⟩,?_,?_⟩
  ·intro q
   rcases List.mem_cons.mp q with q|q
   ·exact Nat.ne_of_lt F'.ns.lt q
   ·exact hD.2.1 (List.mem_singleton.mp q).symm
  ·intro b q;rw[List.mem_singleton.mp q];exact hI0
  ·intro p hp q;exact Nat.ne_of_lt (ltI p hp) (List.mem_singleton.mp q)
  ·intro i v m₁ news₁ h₁ tk₁ own hi hP hJ hnw own1 own2 own3 st F₁ N₁
   refine aOw hJ fun σi objsi r6_2 Mi Ai leni hi2=>?_
   subst r6_2
   have hPv:ws[i]?=some v:=by simpa using (show ws.toArray[i]?=some v from hP)
   have hiv:i<vs.length:=by rw[d1.len];exact (List.getElem?_eq_some_iff.mp hPv).1
   refine aAd (d1.get (aCs.trans (List.getElem?_eq_getElem hiv))) fun v' hv' dv=>?_
   rw[aCs,hPv] at hv';cases hv'
   rw[List.drop_eq_getElem_cons hiv] at hi2
   refine ifT_e hi2 fun hcl hi2=>ifT_e hi2 fun _ hi2=>?_
   have Ni:News G.g G.L h₁ (W1.ads.zip objsi):=fun p hp=>N₁ p (List.mem_append_right _ hp)
   have Si:Sat G ⟨W1.ads,objsi,m₁,h₁,tk₁⟩ σi:=⟨S1.ok,F₁,Mi,Ni,Ai,leni,S1.nd,S1.hd,S1.cl⟩
   refine aBa st fun z8_0 z8_1=>?_
   refine aAd z8_0 fun oI gI _=>?_
   refine aAd z8_1 fun oD gD _=>?_
   have mI:=own3 h'.objs.size (.head _) hI0 oI gI
   have mD:=own3 D (.tail _ (.head _)) hD.2.2 oD gD
   have NX:News G.g G.L h₁ [(h'.objs.size,oI),(D,oD)]:=fun p hp=>by
    rcases List.mem_cons.mp hp with rfl|hp
    ·exact N₁ _ (List.mem_append_left _ mI)
    ·rw[List.mem_singleton.mp hp];exact N₁ _ (List.mem_append_left _ mD)
   have nd:(W1.ads++[(h'.objs.size,oI),(D,oD)].map (·.1)).Nodup:=by
    refine List.nodup_append.mpr ⟨S1.nd,by simp[Ne.symm hDI],fun a ha b hb e=>?_⟩
    have l1:=aPe S1 lt ha
    simp only[List.map_cons,List.map_nil,List.mem_cons,List.not_mem_nil,or_false] at hb
    rcases hb with rfl|rfl
    ·exact Nat.ne_of_lt (Nat.lt_trans l1 DI) e
    ·exact Nat.ne_of_lt l1 e
   have Sx:=Si.ext hcl NX nd
   refine aLz (G:=exβ G [(h'.objs.size,oI),(D,oD)]) R Sx (dv.mono ⟨_,rfl⟩) (Hd.bf (fun {W2 σ2 _} S2 p2 h2=>R.bk (G:=exβ G [(h'.objs.size,oI),(D,oD)]) S2 (Hd.bf (fun {W3 σ3 a} S3 p3 h3=>?_) h2)) hi2)
   cases a with
   |r _=>exact False.elim h3
   |n =>
    refine aTv (show Hd G W1 (bF4 σi.led.length 2 _ σ3) (PF G Q) from h3) fun c1 c2 c3 h4=>?_
    refine aBa (Sat.cut Si S3 (Pre.trans p2 p3) c1 c2 c3) fun S4 NX4=>?_
    refine LoopStepV.next ⟨rfl,W3.h,W3.t,W3.m,W1.ads.zip (W3.objs.take σi.led.length),rfl,S4.F,fun p hp=>?_,fun p hp q=>?_,⟨_,W3.objs.take σi.led.length,rfl,S4.M,S4.O,S4.len,h4⟩⟩
    ·rcases List.mem_append.mp hp with hp|hp
     ·refine NX4 p ?_
      have g2:=own2 p hp
      rcases List.mem_cons.mp (own1 p hp) with q|q
      ·rw[q,gI] at g2;cases g2;rw[← q];exact .head _
      ·have q:=List.mem_singleton.mp q
       rw[q,gD] at g2;cases g2;rw[← q];exact .tail _ (.head _)
     ·exact S4.N p hp
    ·exact Nat.ne_of_lt (Nat.lt_trans (aPe S1 lt (List.of_mem_zip hp).1) DI) (List.mem_singleton.mp q)
  ·intro h₁ tk₁ m₁ news₁ F₁ N₁ hnw hJ
   refine aOw hJ fun σi objsi r10_2 Mi Ai leni hi2=>?_
   subst r10_2
   have e:vs.drop ws.toArray.size=[]:=by rw[List.drop_eq_nil_iff];simp[d1.len]
   rw[e] at hi2
   exact hi2 ⟨W1.ads,objsi,m₁,h₁,tk₁⟩ (.refl _) ⟨S1.ok,F₁,Mi,N₁,Ai,leni,S1.nd,S1.hd,S1.cl⟩
end
noncomputable def bC9(V:Vw)(r:Rec)(cf:Cf)(b at_ me:Str)(v:SV)(σ:St)(k:St→SV→Out Flw):Out Flw:=onO (V.cells b) fun i=>onO ((gN σ.led i).bind aO2) fun y=>onO (aYf V y at_ σ) fun o=>onA o fun j=>onO (gN σ.led j) fun so=>match so with
 | .inst C d=>aM4 σ d fun es _=>onO (V.mt C me) fun f=>ifT (aD6 me es).isNone (bf (r.fn cf f [.a j,v] σ) fun σ2 z=>ifT (num z).isSome (k σ2 z))
 |_=>.f
noncomputable def aRv(V:Vw)(r:Rec)(cf:Cf)(x b at_ me:Str):List SV→List SV→St→Out Flw
 | [],acc,σ=>fin (aFe cf.cs x (.a σ.led.length) (σ.new (.seq false acc acc.length)))
 |v::rest,acc,σ=>ifT (σ.led.all (clO σ.led.length)) (bC9 V r ⟨cf.cs,cf.hd,cf.lv,false⟩ b at_ me v ⟨σ.m,σ.led++aAk 4 1000,σ.orc⟩ fun σ2 z=>bF4 σ.led.length 4 (fun σ4=>aRv V r cf x b at_ me rest (acc++[z]) σ4) σ2)
noncomputable def scN(cs:Scope)(n0 y' b' y b:Str):Bool:=aB8 y' y&&aB8 b' b&&(!(aB8 n0 b)&&!(aB8 y b))&&(!(aB8 n0 y)&&aBv cs b .cell)&&(!(aB8 b "__debug__")&&!(aB8 y "__debug__"))
noncomputable def bG0(cs sc:Scope)(y b:Str):Bool:=match sc.names with
 | [p,q,t]=>decide (p.2=.local)&&decide (q.2=.local)&&decide (t.2=.free)&&decide (sc.kind=.function)&&scN cs p.1 q.1 t.1 y b
 |_=>false
noncomputable def litE:List PySem.Expr→Option (List Int)
 | []=>some []
 |e::r=>(aZj e).bind fun n=>(litE r).map (n::·)
noncomputable def bN4(cs:Scope)(whole:PySem.Expr)(t:PySem.Expr)(ln:Nat):Bool:=(pureOf (swapsWith whole (some t) ln (aXr cs))).getD false
noncomputable def bP3(V:Vw)(r:Rec)(cf:Cf)(whole t:PySem.Expr)(x y y' b at_ me:Str)(ln:Nat)(pk:Bool)(sc:Scope)(es:List PySem.Expr)(σ:St):Out Flw :=
 ifT (pk&&cf.hd.isNone) (ifT (aB8 y y'&&bG0 cf.cs sc y b) (ifT (aBv cf.cs x .local&&cf.top) (ifT (bN4 cf.cs whole t ln&&(V.cells b).isSome) (onO (litE es) fun ns=>ifT (Nat.ble ns.length 1000) (aRv V r cf x b at_ me (ns.map .z) [] σ)))))
section
theorem aO1{sc:Scope}{n0 y b:Str}{env:Env}{a:Addr}(hn:sc.names=[(n0,.local),(y,.local),(b,.free)])(ha:env.cells.lookup b=some a):closureFor sc env=pure [(b,a)]:=by
 have hc:cellOf env b=pure a:=by unfold cellOf;rw[ha]
 unfold closureFor
 rw[hn]
 simp only[List.forIn_cons,List.forIn_nil]
 have e1:(NameKind.local==NameKind.free)=false:=by decide
 have e2:(NameKind.free==NameKind.free)=true:=by decide
 simp only[e1,e2,if_true,if_false,Bool.false_eq_true,hc]
 rfl
theorem kind_free{sc:Scope}{n0 y b:Str}{env:Env}{cl:List (Str×Addr)}{C:Addr}(hn:sc.names=[(n0,.local),(y,.local),(b,.free)])(h0:n0≠b)(h1:y≠b)(hk:env.scope.kind=.function)(hb:env.kindOf b=some .cell):(compEnvC sc cl C env).kindOf b=some .cell:=by
 show List.lookup b (relabel sc env).names=some .cell
 unfold relabel
 dsimp only
 rw[hn]
 have e0:(b==n0)=false:=beq_eq_false_iff_ne.mpr (Ne.symm h0)
 have e1:(b==y)=false:=beq_eq_false_iff_ne.mpr (Ne.symm h1)
 simp[List.lookup_cons,e0,e1,hk,hb]
theorem aJ7{sc:Scope}{n0 y b:Str}{env:Env}{cl:List (Str×Addr)}{C:Addr}(hn:sc.names=[(n0,.local),(y,.local),(b,.free)])(h0:n0≠y):(compEnvC sc cl C env).kindOf y=some .local:=by
 show List.lookup y (relabel sc env).names=some .local
 unfold relabel
 dsimp only
 rw[hn]
 have e0:(y==n0)=false:=beq_eq_false_iff_ne.mpr (Ne.symm h0)
 simp[List.lookup_cons,e0]
theorem aJz{D:Addr}:∀ {l:List (Addr×Obj)},LCg.Off1 D l→∀ p∈l,p.1≠D
 | [],_,_,h=>nomatch h
 |q::r,h,p,hp=>by
  rcases List.mem_cons.mp hp with rfl|hp
  ·exact h.1
  ·exact aJz h.2 p hp
theorem aV6{ads:List Addr}{y:SV}{v:Value}(h:(num y).isSome=true)(d:Den ads y v):∀ {b:List Addr},Den b y v:=by
 intro b
 cases y with
 |z n=>exact d
 |i n=>exact d
 |_=>cases h
theorem aF9{M:Model}{A:Around}{env:Env}{pos:Pos}:∀ {es:List PySem.Expr} {ns:List Int} {s:Shared} {Qs:List Value→Shared→Prop} {E:Value→Shared→Prop},litE es=some ns→(∀ ws t,(∀ b:List Addr,Dens b (ns.map .z) ws)→Qs ws { s with toks:=t })→wpAny M A (spliced (backTo pos (starEach es env))) Qs E s:=by
 intro es
 induction es with
 |nil=>intro ns s Qs E h g;cases h;exact args_nil (g [] s.toks fun _=>.nil)
 |cons e r ih =>
  intro ns s Qs E h g
  refine aAd (Option.bind_eq_some_iff.mp h) fun n h1 h=>?_
  refine aAd (Option.map_eq_some_iff.mp h) fun l hl r1_2=>?_
  subst r1_2
  refine aZi (aEy h1) fun _ _ r2_2=>?_
  subst r2_2
  exact args_cons (wpAny_Constant_int (ih hl fun ws t a=>g _ t fun b=>.cons ⟨_,rfl⟩ (a b))) (aAb rfl)
theorem aUr{cs sc:Scope}{y b:Str}(h:bG0 cs sc y b=true):∃ n0,sc.names=[(n0,.local),(y,.local),(b,.free)]∧sc.kind=.function∧n0≠b∧y≠b∧n0≠y∧cs.names.lookup b=some .cell∧(b==("__debug__":Str))=false∧(y==("__debug__":Str))=false:=by
 unfold bG0 at h
 cases e:sc.names with
 |nil=>rw[e] at h;cases h
 |cons p l=>cases l with
  |nil=>rw[e] at h;cases h
  |cons q l=>cases l with
   |nil=>rw[e] at h;cases h
   |cons t l=>cases l with
    |cons _ _=>rw[e] at h;cases h
    |nil =>
     rw[e] at h
     obtain⟨p1,p2⟩:=p
     obtain⟨q1,q2⟩:=q
     obtain⟨t1,t2⟩:=t
     simp only[Bool.and_eq_true,decide_eq_true_eq,scN,Bool.not_eq_true'] at h
     obtain⟨⟨⟨⟨rfl,rfl⟩,rfl⟩,hk⟩,⟨⟨⟨h1,h2⟩,h3,h4⟩,h5,h7⟩,h8,h9⟩:=h
     have h1:=aCl h1
     have h2:=aCl h2
     subst h1 h2
     exact⟨p1,rfl,hk,aCm.mp h3,aCm.mp h4,aCm.mp h5,aA5 h7,aJc h8,aJc h9⟩
end
section
variable {V:Vw} {G:Gd V} {W:Wd} {σ:St} {r:Rec}
theorem aRw{b at_ me y n0:Str}{bp ap mp yp cp:Pos}{sc:Scope}{ca:Addr}{ci:Nat}{C:Addr}{m₂:Str→Option Value}{v0:SV}{v:Value}{Q:Value→Shared→Prop}{W0:Wd}{G0:Gd V}{Φ:Wd→St→Flw→Prop}{k:St→SV→Out Flw}(R:Snd V r)(S:Sat G W σ)
  (hsc:sc.names=[(n0,.local),(y,.local),(b,.free)]) (hk:sc.kind=.function) (h0b:n0≠b) (hyb:y≠b) (h0y:n0≠y) (hcb:G.cf.cs.names.lookup b=some .cell) (hdb:(b==("__debug__":Str))=false) (hdy:(y==("__debug__":Str))=false)
  (hp:(mp.endLine==cp.line)=true) (hV:V.cells b=some ci) (hci:gN W.ads ci=some ca) (hNs:W.h.Ns C m₂) (hx:m₂ y=some v) (dv:Den W.ads v0 v) (h:Hd G0 W0 (bC9 V r G.cf b at_ me v0 σ k) Φ)
  (g:∀ {W2 σ2 z u},Sat G W2 σ2→Pre W.ads W2.ads→W2.m=W.m→(∀ ads,Den ads z u)→Hd G0 W0 (k σ2 z) Φ→Q u (G.st W2)) :
  G.wp (eval (.Call (.Attribute (.Attribute (.Name b bp) at_ ap) me mp) [.Name y yp] [] cp) (compEnvC sc [(b,ca)] C G.env)) Q (G.st W) :=
 onO_e h fun i hi h=>onO_e h fun y0 hy0 h=>onO_e h fun o ho hz=>by
  cases hV.symm.trans hi
  refine aAd (Option.bind_eq_some_iff.mp hy0) fun so h1 h2=>?_
  refine aDp (S.slot h1 hci) fun oc q1 q2 d=>?_
  cases so with
  |cell yy =>
   cases h2
   refine aAd d fun vc dvc hdc=>?_
   refine aNv (env:=compEnvC sc [(b,ca)] C G.env) rfl rfl rfl hp fun pl=>?_
   refine Attribute_Name_ (ldCellK (c:=ca) (v:=vc) (by simp) ⟨oc,(S.N _ q2).1,hdc⟩ (aKh S dvc ho fun t1 u1 du1=>?_) hk (kind_free hsc h0b hyb S.ok.hk hcb) hdb)
   have S1:=S.tok t1
   refine aDq hz du1 fun j xx hj qe h=>qe▸onO_e h fun so hso h=>?_
   refine aDp (S1.slot hso hj) fun oi k1 k2 d=>?_
   cases so with
   |inst C1 dd =>
    refine aAd d fun dx hdx r12_2=>?_
    subst r12_2
    refine aA6 (aAl (l:=σ.led) (i:=dd) (by rw[S.O.len,← S.len];exact aBl hdx)) fun so2 hs2=>?_
    refine aDp (S1.slot hs2 hdx) fun o2 k3 k4 d2=>?_
    replace h:Hd G0 W0 (aM4 σ dd _) Φ:=h
    unfold aM4 at h
    rw[hs2] at h
    cases so2 with
    |ns es n =>
     refine aAd d2 fun l al r15_2=>?_
     subst r15_2
     refine onO_e h fun f hf h=>ifT_e h fun hno h=>?_
     have km:=G.X.vo.mt hf
     refine method_inst S1.F S.ok.K (InstAt.of_news S1.N k2 k4) km.1 km.2.1 km.2.2.1 (aEn al (Option.isNone_iff_eq_none.mp hno)) ?_
     refine callWith_K S.ok.K km.2.2.2 (args_cons (ldVarK hNs hx (args_nil ⟨S1.K,?_⟩) hk (aJ7 hsc h0y) hdy) (aAb rfl)) (aAb rfl) rfl
     refine wpAny_call (codeAny_mono (R.fn (Q:=Q) (W:=W.tok t1) (args:=[.a j,v0]) (vs:=[.ref xx,v]) S1 (.cons ⟨xx,hj,rfl⟩ (.cons dv .nil)) (Hd.bf (W:=W0) (G:=G0) (G':=G) (W1:=W.tok t1) (Ψ:=PC G W.m Q) (fun {W2 σ2 z} S2 p2 h2 em u du=>ifT_e h2 fun hz h2=>g S2 p2 em (fun _=>aV6 hz du) h2) h)) fun rr s' z=>by
      rcases rr with e|fl
      ·exact z
      ·cases fl<;>first|exact z|exact z.elim)
    |_=>exact False.elim h
   |_=>exact h.elim
  |_=>exact nn h2
theorem bMc{x b at_ me y n0:Str}{bp ap mp yp cp:Pos}{sc:Scope}{ca D0:Addr}{o0:Obj}{its:Array Value}{k0:Nat}{hb:Heap}{tb:Nat}{Fin:List Value→List (Addr×Obj)→Prop}{ci:Nat}{Q:Flow→Shared→Prop}(R:Snd V r)(S:Sat G W σ)(hn:G.cf.hd=none)
  (hsc:sc.names=[(n0,.local),(y,.local),(b,.free)]) (hk:sc.kind=.function) (h0b:n0≠b) (hyb:y≠b) (h0y:n0≠y) (hcb:G.cf.cs.names.lookup b=some .cell) (hdb:(b==("__debug__":Str))=false) (hdy:(y==("__debug__":Str))=false)
  (hp:(mp.endLine==cp.line)=true) (hV:V.cells b=some ci) (hci:gN W.ads ci=some ca) (hD0:D0∉W.ads) (ho0:o0={ cls:=.type "list",data:=.seq its k0 })
  (hFin:∀ σ' objs' acc' ys',Dens W.ads acc' ys'→MD W.ads σ'.m W.m→All2 (DenO G.X W.ads) σ'.led objs'→W.ads.length=objs'.length→Hd G W (aRv V r G.cf x b at_ me [] acc' σ') (PF G Q)→Fin ys' ((D0,o0)::W.ads.zip objs')) :
  ∀ (vs:List SV) (i:Nat) (acc:List SV) (ys:List Value) (σ:St) (objs:List Obj),(∀ j y,gN vs j=some y→∃ v,its[i+j]?=some v∧Den W.ads y v)→Dens W.ads acc ys→MD W.ads σ.m W.m→All2 (DenO G.X W.ads) σ.led objs→W.ads.length=objs.length →
   Hd G W (aRv V r G.cf x b at_ me vs acc σ) (PF G Q) →
   LCg.CompRest G.X.prog G.X.w G.A G.g G.L W.m G.env (.Call (.Attribute (.Attribute (.Name b bp) at_ ap) me mp) [.Name y yp] [] cp) y sc [(b,ca)] ⟨hb,G.gens,G.drawn,tb,G.os⟩ (LCg.SrcAt G.g D0 its) (fun i v=>its[i]?=some v) Fin vs.length i ys ((D0,o0)::W.ads.zip objs):=by
 intro vs
 induction vs with
 |nil=>intro i acc ys σ objs _ a M A2 len h;exact LCg.CompRest.zero (hFin σ objs acc ys a M A2 len h)
 |cons w0 rest ih =>
  intro i acc ys σ objs hv a M A2 len h
  refine LCg.CompRest.succ ?_
  intro v I oI C oC D m₂ hp0 tk E' hP hC hx F N off ne3
  have N0:News G.g G.L hp0 (W.ads.zip objs):=fun p q=>N p (.tail _ (.tail _ (.tail _ (.tail _ q))))
  refine aAd (hv 0 w0 rfl) fun v' hv' dv=>?_
  rw[Nat.add_zero,show its[i]?=some v from hP] at hv'
  cases hv'
  refine ifT_e h fun hck h=>?_
  have Si:Sat { G with cf:=⟨G.cf.cs,G.cf.hd,G.cf.lv,false⟩,E:=E' } ⟨W.ads,objs,W.m,hp0,tk⟩ σ:=⟨⟨S.ok.B,S.ok.K,S.ok.T,S.ok.KB,S.ok.TB,S.ok.D,S.ok.fr,S.ok.hk,S.ok.dp,S.ok.un,S.ok.tp,fun q=>nomatch q⟩,F,M,N0,A2,len,S.nd,S.hd,S.cl⟩
  have S0:Sat G ⟨W.ads,objs,W.m,hp0,tk⟩ σ:=⟨S.ok,F,M,N0,A2,len,S.nd,S.hd,S.cl⟩
  have NX:News G.g G.L hp0 [(I,oI),(C,oC),(D,LCg.lst ys),(D0,o0)]:=fun p q=>N p (by
   simp only[List.mem_cons,List.not_mem_nil,or_false] at q ⊢
   rcases q with q|q|q|q
   ·exact .inl q
   ·exact .inr (.inl q)
   ·exact .inr (.inr (.inl q))
   ·exact .inr (.inr (.inr (.inl q))))
  have offm:=off.mem
  have apart:∀ a∈W.ads,a≠I∧a≠C∧a≠D:=fun a ha=>by
   refine aA6 (aCj ha) fun j hj=>?_
   refine aA6 (aAl (l:=objs) (len▸aBl hj)) fun o ho=>?_
   exact offm _ (.tail _ (aBf hj ho))
  have o3:=offm (D0,o0) (.head _)
  have nd2:(W.ads++[I,C,D,D0]).Nodup:=by
   refine List.nodup_append.mpr ⟨S.nd,?_,fun a ha b hb e=>?_⟩
   ·simp only[List.nodup_cons,List.mem_cons,List.not_mem_nil,or_false,not_or,not_false_eq_true,List.nodup_nil,and_true]
    exact⟨⟨ne3.1,ne3.2.1,fun e=>o3.1 e.symm⟩,⟨ne3.2.2,fun e=>o3.2.1 e.symm⟩,fun e=>o3.2.2 e.symm⟩
   ·subst e
    simp only[List.mem_cons,List.not_mem_nil,or_false] at hb
    have q:=apart a ha
    rcases hb with rfl|rfl|rfl|rfl
    ·exact q.1 rfl
    ·exact q.2.1 rfl
    ·exact q.2.2 rfl
    ·exact hD0 ha
  have Sx:=Si.ext hck NX nd2
  have pre:Pre W.ads (W.ads++[I,C,D,D0]):=⟨_,rfl⟩
  refine aRw (G:=exβ { G with cf:=⟨G.cf.cs,G.cf.hd,G.cf.lv,false⟩,E:=E' } [(I,oI),(C,oC),(D,LCg.lst ys),(D0,o0)]) R Sx hsc hk h0b hyb h0y hcb hdb hdy hp hV (pre.get hci) (hC.ns (N _ (.tail _ (.head _))).1) hx (dv.mono pre) h fun {W2 σ2 z u} S2 p2 em dz h2=>aTv h2 fun c1 c2 c3 h4=>?_
  refine aBa (Sat.cut Si S2 p2 c1 c2 c3) fun S4 NX4=>?_
  have em:W2.m=W.m:=em
  refine⟨W2.h,W2.t,(D0,o0)::W.ads.zip (W2.objs.take σ.led.length),rfl,em▸S4.F,fun p q=>?_,⟨o3,LCg.Off3.of fun p q=>apart _ (List.of_mem_zip q).1⟩,.inr ⟨o0,.head _,by rw[ho0],k0,by rw[ho0]⟩,ih (i+1) (acc++[z]) (ys++[u]) _ _ (fun j' y' e=>?_) (a.snoc (dz _)) (em▸S4.M) S4.O S4.len h4⟩
  ·simp only[List.mem_cons] at q
   rcases q with q|q|q|q|q
   ·exact NX4 _ (q▸.head _)
   ·exact NX4 _ (q▸.tail _ (.head _))
   ·exact NX4 _ (q▸.tail _ (.tail _ (.head _)))
   ·exact NX4 _ (q▸.tail _ (.tail _ (.tail _ (.head _))))
   ·exact S4.N _ q
  ·have:=hv (j'+1) y' e
   rwa [show i+1+j'=i+(j'+1) by omega]
theorem aXh{x y y' b at_ me:Str}{xp bp ap mp yp cp tp lp pos sp:Pos}{sc:Scope}{es:List PySem.Expr}{Q:Flow→Shared→Prop}(R:Snd V r)(S:Sat G W σ)
  (h:Hd G W (bP3 V r G.cf (.ListComp (.Call (.Attribute (.Attribute (.Name b bp) at_ ap) me mp) [.Name y' yp] [] cp) [⟨.Name y tp,.List es lp,[],0⟩] sc pos) (.Name x xp) x y y' b at_ me sp.line (mp.endLine==cp.line) sc es σ) (PF G Q)) :
  G.wp (exec (.Assign [.Name x xp] (.ListComp (.Call (.Attribute (.Attribute (.Name b bp) at_ ap) me mp) [.Name y' yp] [] cp) [⟨.Name y tp,.List es lp,[],0⟩] sc pos) sp) G.env) Q (G.st W) :=
 ifT_e h fun q1 h=>ifT_e h fun q2 h=>ifT_e h fun q3 h=>ifT_e h fun q4 h=>onO_e h fun ns hns h=>ifT_e h fun hb hz=>by
  have hn:=Option.isNone_iff_eq_none.mp (aAc q1).2
  cases aCl (aAc q2).1
  refine bZ3 (aUr (aAc q2).2) fun n0 hn0 hkind h0b hyb h0y hcb hdb hdy=>?_
  refine aA6 (Option.isSome_iff_exists.mp (aAc q4).2) fun ci hci=>?_
  refine aAd (S.cl (aAc q3).2 b ci hci) fun ca hca hla=>?_
  have k5:=aA5 (aAc q3).1
  have hh:=S.hd
  rw[hn] at hh
  have hb:=Nat.le_of_ble_eq_true hb
  refine LCg.Assign_ListComp_U (F₀:=S.F) (cl:=[(b,ca)]) rfl ?_ (aO1 hn0 hla) (by rw[hn0];simp) hkind (by rw[hn0];simp[List.lookup_cons,beq_eq_false_iff_ne.mpr (Ne.symm h0y)]) (by rw[hn0];simp[List.lookup_cons,beq_eq_false_iff_ne.mpr (Ne.symm h0y)]) k5 (by rw[show G.env.scope.kind=.function from S.ok.hk];rfl) ?_ (fun _=>rfl)
  ·have k7:=(aAc q4).1
   unfold bN4 at k7
   cases e:pureOf (swapsWith (.ListComp (.Call (.Attribute (.Attribute (.Name b bp) at_ ap) me mp) [.Name y yp] [] cp) [⟨.Name y tp,.List es lp,[],0⟩] sc pos) (some (.Name x xp)) sp.line (aXr G.cf.cs)) with
   |none=>rw[e] at k7;cases k7
   |some c=>rw[e] at k7;cases (show c=true from k7);exact of_pureOf e
  ·refine List_ (aF9 hns fun ws t aw=>?_)
   have hwl:ws.length=ns.length:=by have:=(aw []).len;simpa using this.symm
   refine newList_K (s:={ G.st W with toks:=t }) S.F S.N (fun D0 h' F' N' lt=>?_) (by rw[sizeLine_eq];omega)
   refine LCg.CompSrc.ledger hh F' N' (.head _) (by rw[sizeLine_eq,List.size_toArray];omega) fun g=>?_
   have hD0:D0∉W.ads:=fun q=>Nat.lt_irrefl _ (aPe S lt q)
   rw[List.size_toArray,hwl,← List.length_map (f:=SV.z) (as:=ns)]
   refine bMc (x:=x) (its:=ws.toArray) (o0:=PySem.W.listOf ws.toArray 0) R S hn hn0 hkind h0b hyb h0y hcb hdb hdy (aAc q1).1 hci hca hD0 rfl (fun σ' objs' acc' ys' a M' A2' len' h2=>?_) (ns.map .z) 0 [] [] σ W.objs (fun j y0 e=>?_) .nil S.M S.O S.len hz
   ·intro D hq tk FD ND o1
    replace h2:Hd G W (fin (aFe G.cf.cs x (.a σ'.led.length) (σ'.new (.seq false acc' acc'.length)))) (PF G Q):=h2
    refine ifT_e (aHo h2) fun _ h2=>?_
    have off:=aJz o1
    have nD:D∉W.ads:=fun q=>by
     refine aA6 (aCj q) fun i hi=>?_
     refine aA6 (aAl (l:=objs') (len'▸aBl hi)) fun o ho=>?_
     exact off _ (.tail _ (aBf hi ho)) rfl
    have pre:Pre W.ads (W.ads++[D]):=.snoc _ _
    refine h2 ⟨W.ads++[D],objs'++[LCg.lst ys'],_,hq,tk⟩ pre ⟨S.ok,FD,MD.put (M'.mono pre) ⟨D,by rw[A2'.len,← len'];exact aBh,rfl⟩,fun p hp=>?_,(A2'.mono fun _ _=>DenO.mono pre).snoc ⟨ys',a.mono pre,by rw[a.len];rfl⟩,by simp[len'],?_,S.hd.up pre,S.clUp pre⟩
    ·replace hp:p∈(W.ads++[D]).zip (objs'++[LCg.lst ys']):=hp
     rw[aB0 len'] at hp
     rcases List.mem_append.mp hp with hp|hp
     ·exact ND p (.tail _ (.tail _ hp))
     ·rw[List.mem_singleton.mp hp];exact ND _ (.head _)
    ·refine List.nodup_append.mpr ⟨S.nd,by simp,fun a ha b hb e=>?_⟩
     rw[List.mem_singleton.mp hb] at e
     exact nD (e▸ha)
   ·refine aAd ((aw W.ads).get e) fun v e1 e2=>?_
    exact⟨v,by rw[Nat.zero_add];simpa using aCs.symm.trans e1,e2⟩
end
noncomputable abbrev Hook:=Cf→Addr→List SV→St→Option (Out SV)
noncomputable abbrev LcT:=(PySem.Expr×List Comprehension×Scope×Pos)×(PySem.Expr×List PySem.Expr×List Keyword×Pos)×(PySem.Expr×Str×Pos)×(PySem.Expr×Str×Pos)×(Str×Pos)×(Str×Pos)×(Str×Pos)×List PySem.Expr×Pos
noncomputable def lcI(i:Comprehension):Option ((Str×Pos)×List PySem.Expr×Pos):=(asN i.target).bind fun j=>(asL i.iter).bind fun l=>bif i.ifs.isEmpty&&i.is_async==0 then some (j,l) else none
theorem bLj{i:Comprehension}{q:(Str×Pos)×List PySem.Expr×Pos}(h:lcI i=some q):i=⟨.Name q.1.1 q.1.2,.List q.2.1 q.2.2,[],0⟩ :=
 aAd (Option.bind_eq_some_iff.mp h) fun j hj h=>aAd (Option.bind_eq_some_iff.mp h) fun l hl h=>aBa (aGl h) fun q h=>by
  rw[← Option.some.inj h]
  obtain⟨it,ii,ifs,as⟩:=i
  rw[← aDl hj,← bDt hl,← List.isEmpty_iff.mp (aAc q).1,← beq_iff_eq.mp (aAc q).2]
noncomputable def lcW(v:PySem.Expr):Option LcT :=
 (asG v).bind fun a=>(asC a.1).bind fun b=>(asA b.1).bind fun c=>(asA c.1).bind fun d=>(asN d.1).bind fun e=>(one b.2.1).bind fun f=>(asN f).bind fun g=>(one a.2.1).bind fun i=>(lcI i).bind fun l=>bif b.2.2.1.isEmpty then some (a,b,c,d,e,g,l.1,l.2) else none
noncomputable def lcE(z:LcT):PySem.Expr:=.ListComp (.Call (.Attribute (.Attribute (.Name z.2.2.2.2.1.1 z.2.2.2.2.1.2) z.2.2.2.1.2.1 z.2.2.2.1.2.2) z.2.2.1.2.1 z.2.2.1.2.2) [.Name z.2.2.2.2.2.1.1 z.2.2.2.2.2.1.2] [] z.2.1.2.2.2) [⟨.Name z.2.2.2.2.2.2.1.1 z.2.2.2.2.2.2.1.2,.List z.2.2.2.2.2.2.2.1 z.2.2.2.2.2.2.2.2,[],0⟩] z.1.2.2.1 z.1.2.2.2
theorem bLi{v:PySem.Expr}{z:LcT}(h:lcW v=some z):v=lcE z :=
 aAd (Option.bind_eq_some_iff.mp h) fun a ha h=>aAd (Option.bind_eq_some_iff.mp h) fun b hb h=>aAd (Option.bind_eq_some_iff.mp h) fun c hc h=>aAd (Option.bind_eq_some_iff.mp h) fun d hd h=>aAd (Option.bind_eq_some_iff.mp h) fun e he h=>aAd (Option.bind_eq_some_iff.mp h) fun f hf h=>aAd (Option.bind_eq_some_iff.mp h) fun g hg h=>aAd (Option.bind_eq_some_iff.mp h) fun i hi h=>aAd (Option.bind_eq_some_iff.mp h) fun l hl h=>aBa (aGl h) fun q h=>by
  rw[← Option.some.inj h,bM4 ha,bDu hb,aLp hc,aLp hd,aDl he,aQs hf,aDl hg,aQs hi,bLj hl,List.isEmpty_iff.mp q]
  rfl
noncomputable def bPj(V:Vw)(r:Rec)(cf:Cf)(x:Str)(xp:Pos)(v:PySem.Expr)(sp:Pos)(σ:St):Out Flw :=
 onO (lcW v) fun z=>bP3 V r cf (lcE z) (.Name x xp) x z.2.2.2.2.2.2.1.1 z.2.2.2.2.2.1.1 z.2.2.2.2.1.1 z.2.2.2.1.2.1 z.2.2.1.2.1 sp.line (z.2.2.1.2.2.endLine==z.2.1.2.2.2.line) z.1.2.2.1 z.2.2.2.2.2.2.2.1 σ
noncomputable def aXc(V:Vw)(r:Rec)(cf:Cf)(ts:List PySem.Expr)(v:PySem.Expr)(sp:Pos)(σ:St):Out Flw:=match ts with
 | [t]=>(match aEk v with
  |true=>fin (asg V r cf t v σ)
  |false=>onO (asN t) fun n=>bPj V r cf n.1 n.2 v sp σ)
 |_=>.f
noncomputable def bPu(σ:St)(y:SV):Out Flw:=onA y fun i=>onSeq σ i fun tup vs _=>ifT (!tup&&vs.isEmpty) (.p σ .n)
noncomputable def bCs(V:Vw)(r:Rec)(cf:Cf)(t iter:PySem.Expr)(body:List Stmt)(σ:St):Out Flw:=alt (asT t) (fun q=>onO (asL iter) fun l=>aTn V r cf q.1 l.1 body σ)
 (onO (asN t) fun n=>ifT (aQ7 iter.ctorIdx [20,23]) (ifT (cf.po&&cf.hd.isNone) (ifT (aBv cf.cs n.1 .local) (bd (r.e cf iter σ) bPu))))
noncomputable def aF3(c:PySem.Expr)(k:Str→List PySem.Expr→Out Flw):Out Flw:=onO (asC c) fun a=>onO (asN a.1) fun n=>ifT a.2.2.1.isEmpty (k n.1 a.2.1)
noncomputable def bPp(c:Const):Bool:=Nat.beq c.ctorIdx 0
theorem bCg{c:Const}(h:bPp c=true):c=.none:=Const.none.elim (motive:=fun c=>c=.none) c (Nat.eq_of_beq_eq_true h) rfl
noncomputable def aOm(V:Vw)(r:Rec)(cf:Cf)(e c:Option PySem.Expr)(σ:St):Out Flw:=match e with
 |some e=>(match c with
  |none=>ifT cf.hd.isNone (aF3 e fun x args=>aEt V r cf false x args σ)
  |some c=>onO (asK c) fun k=>ifT (bPp k.1) (ifT cf.hd.isSome (aF3 e fun x args=>aEt V r cf true x args σ)))
 |none=>.f
noncomputable def bCr(V:Vw)(r:Rec)(cf:Cf)(body:List Stmt)(hs:List ExceptHandler)(σ:St):Out Flw:=onO (one hs) fun h=>(match h with
 | .ExceptHandler e nm suite _=>onO e fun e=>onO (asN e) fun n=>(match suite with
  |b₀::suite=>bCv V r cf body n.1 nm (b₀::suite) σ
  | []=>.f))
noncomputable def aTl(V:Vw)(r:Rec)(cf:Cf)(st:Stmt)(σ:St):Out Flw:=match st with
 | .Expr e _=>ifT (aEk e) (bd (r.e cf e σ) fun σ1 _=>.p σ1 .n)
 | .Assign ts v sp=>aXc V r cf ts v sp σ
 | .AugAssign t op v _=>(match op with
  | .Add=>fin (aug V r cf t v σ)
  |_=>.f)
 | .If t b o _=>bd (r.b cf t σ) fun σ1 q=>r.bk cf (bif q then b else o) σ1
 | .Return e _=>bLw r cf e σ
 | .Pass _=>.p σ .n
 | .While t b o _=>ifT (cf.po&&o.isEmpty) (aIq r cf t b 10 σ)
 | .For t iter body o _=>ifT o.isEmpty (bCs V r cf t iter body σ)
 | .Raise e c _=>aOm V r cf e c σ
 | .Try body hs o f _=>ifT (o.isEmpty&&f.isEmpty) (bCr V r cf body hs σ)
 |_=>.f
noncomputable def bGp(V:Vw)(hk:Hook)(r:Rec):Rec where
 e:=fun cf x σ=>evE V r cf x σ
 es:=fun cf l σ=>bP5 r cf l σ
 b:=fun cf x σ=>evB V r cf x σ
 st:=fun cf s σ=>aTl V r cf s σ
 bk:=fun cf l σ=>exB r cf l σ
 fn:=fun cf f args σ=>match hk cf f args σ with
  |some o=>o
  |none=>bLy V r cf f args σ
noncomputable def aYq(V:Vw)(hk:Hook):Nat→Rec
 | 0=>⟨fun _ _ _=>.f,fun _ _ _=>.f,fun _ _ _=>.f,fun _ _ _=>.f,fun _ _ _=>.f,fun _ _ _ _=>.f⟩
 |n+1=>bGp V hk (aYq V hk n)
noncomputable def aPi(V:Vw)(hk:Hook):Prop:=∀ {G:Gd V} {W:Wd} {σ:St} {f:Addr} {args:List SV} {vs:List Value} {Q:Value→Shared→Prop} {o:Out SV},Sat G W σ→Dens W.ads args vs→hk G.cf f args σ=some o →
 Hd G W o (PC G W.m Q)→codeAny G.M G.A (.call (.ref f) ⟨vs,[]⟩) (aIz Q G.E) (G.st W)
theorem noHook{V:Vw}:aPi V (fun _ _ _ _=>none):=fun _ _ h=>nomatch h
section
variable {V:Vw} {G:Gd V} {W:Wd} {σ:St} {r:Rec} {Q:Flow→Shared→Prop}
theorem aWl{x:Str}{xp sp:Pos}{v:PySem.Expr}(R:Snd V r)(S:Sat G W σ)(h:Hd G W (bPj V r G.cf x xp v sp σ) (PF G Q)):G.wp (exec (.Assign [.Name x xp] v sp) G.env) Q (G.st W) :=
 onO_e h fun z hz h=>by
  rw[bLi hz]
  exact aXh R S h
theorem aRg{ts:List PySem.Expr}{sp:Pos}{v:PySem.Expr}(R:Snd V r)(S:Sat G W σ)(h:Hd G W (aXc V r G.cf ts v sp σ) (PF G Q)):G.wp (exec (.Assign ts v sp) G.env) Q (G.st W):=by
 cases ts with
 |nil=>exact h.elim
 |cons t ts=>cases ts with
  |cons _ _=>exact h.elim
  |nil =>
   unfold aXc at h
   cases e:aEk v with
   |true=>simp only[e] at h;exact bDo e R S h
   |false =>
    simp only[e] at h
    refine onO_e h fun n hn h=>?_
    rw[aDl hn]
    exact aWl R S h
theorem aW7{x:Str}{xp pos:Pos}{iter:PySem.Expr}{body:List Stmt}(hset:∀ v,foldedSetIterable iter G.env v=pure v)(R:Snd V r)(S:Sat G W σ)(h:Hd G W (ifT (G.cf.po&&G.cf.hd.isNone) (ifT (aBv G.cf.cs x .local) (bd (r.e G.cf iter σ) bPu))) (PF G Q)):G.wp (exec (.For (.Name x xp) iter body [] pos) G.env) Q (G.st W) :=
 ifT_e h fun q h=>ifT_e h fun hk h=>by
  have hn:=Option.isNone_iff_eq_none.mp (aAc q).2
  refine For_invVF (h₀:=G.g) (m:=W.m) S.F (aA5 hk) (by rw[show G.env.scope.kind=.function from S.ok.hk];rfl) (R.ev S h fun {W1 σ1 y1 v1} S1 p1 d1 h1=>?_) hset (S.ok.own (aAc q).1).2
  refine aDq h1 d1 fun i z hz qe h1=>qe▸aCf h1 S1 hz fun tup vs n l _ hm al h1=>ifT_e h1 fun e h1=>?_
  cases aBu (aAc e).1
  cases List.isEmpty_iff.mp (aAc e).2
  cases al
  have hh:=S1.hd
  rw[hn] at hh
  exact iter_listUnr hh S1.F S1.N hm rfl rfl fun I lt=>ListRest.zero fun h' tk F2 N2=>h1 (W1.hp W1.m h' tk) (.refl _) (S1.hp tk F2 S1.M N2 _)
theorem aRf{t iter:PySem.Expr}{body:List Stmt}{pos:Pos}(R:Snd V r)(S:Sat G W σ)(h:Hd G W (bCs V r G.cf t iter body σ) (PF G Q)):G.wp (exec (.For t iter body [] pos) G.env) Q (G.st W):=by
 refine aE1 (C:=fun o=>Hd G W o (PF G Q)) h (fun q hq h=>onO_e h fun l hl h=>?_) fun h=>onO_e h fun q hq h=>ifT_e h fun k h=>?_
 ·rw[bDq hq,bDt hl]
  exact aW6 R S h
 ·rw[aDl hq]
  refine aW7 (fun _=>?_) R S h
  cases iter<;>first|rfl|cases k
theorem aFh{c:PySem.Expr}{k:Str→List PySem.Expr→Out Flw}{P:PySem.Expr→Prop}(h:Hd G W (aF3 c k) (PF G Q))(g:∀ x xp args p,Hd G W (k x args) (PF G Q)→P (.Call (.Name x xp) args [] p)):P c :=
 onO_e h fun a ha h=>onO_e h fun n hn h=>ifT_e h fun q h=>by
  rw[bDu ha,aDl hn,List.isEmpty_iff.mp q]
  exact g _ _ _ _ h
theorem aLe{e c:Option PySem.Expr}{pos:Pos}(R:Snd V r)(S:Sat G W σ)(h:Hd G W (aOm V r G.cf e c σ) (PF G Q)):G.wp (exec (.Raise e c pos) G.env) Q (G.st W):=by
 cases e with
 |none=>exact h.elim
 |some e=>cases c with
  |none=>exact ifT_e h fun q h=>aFh (P:=fun e=>G.wp (exec (.Raise (some e) none pos) G.env) Q (G.st W)) h fun x xp args p h=>aGe R S (Option.isNone_iff_eq_none.mp q) h
  |some c =>
   exact onO_e h fun k hk h=>ifT_e h fun qc h=>by
    rw[aR3 hk,bCg qc]
    exact ifT_e h fun q h=>aFh (P:=fun e=>G.wp (exec (.Raise (some e) (some (.Constant .none _ _)) pos) G.env) Q (G.st W)) h fun x xp args p h=>(Option.isSome_iff_exists.mp q).elim fun j hj=>aHq R S hj h
theorem aRe{body:List Stmt}{hs:List ExceptHandler}{pos:Pos}(R:Snd V r)(S:Sat G W σ)(h:Hd G W (bCr V r G.cf body hs σ) (PF G Q)):G.wp (exec (.Try body hs [] [] pos) G.env) Q (G.st W) :=
 onO_e h fun h1 hh h=>by
  rw[aQs hh]
  obtain⟨e,nm,suite,hp⟩:=h1
  refine onO_e h fun e' he h=>onO_e h fun n hn h=>?_
  rw[he,aDl hn]
  cases suite with
  |nil=>exact h.elim
  |cons b suite=>exact aRi R S h
theorem aOl{st:Stmt}(R:Snd V r)(S:Sat G W σ)(h:Hd G W (aTl V r G.cf st σ) (PF G Q)):G.wp (exec st G.env) Q (G.st W):=by
 cases st with
 |Expr e p=>exact ifT_e h fun hn h=>wpAny_Expr_any (R.ev S h fun {W1 _ _ _} S1 p1 d1 h1=>h1 W1 (.refl _) S1) (by unfold interactive;rw[show G.env.scope.kind=.function from S.ok.hk];rfl) (nc hn)
 |Assign ts v sp=>exact aRg R S h
 |AugAssign t op v p=>cases op with
  |Add=>exact bDm R S h
  |_=>exact h.elim
 |If t b o p=>exact wpAny_If (R.cond S h fun {W1 σ1 q} S1 p1 h1=>by
   cases q with
   |true=>exact R.bk S1 h1
   |false=>exact R.bk S1 h1)
 |Return e p=>cases e with
  |some e=>exact wpAny_Return_some (R.ev S h fun {W1 _ _ v} S1 p1 d1 h1=>h1 W1 (.refl _) S1 v d1)
  |none=>exact wpAny_Return_none (h W (.refl _) S .none rfl)
 |Pass p=>exact wpAny_Pass (h W (.refl _) S)
 |While t b o p =>
  refine ifT_e h fun q h=>?_
  cases List.isEmpty_iff.mp (aAc q).2
  exact whl_start 10 (aZl R (S.ok.own (aAc q).1).2 10 W σ S (by assumption))
 |For t iter body o p =>
  refine ifT_e h fun q hz=>?_
  cases List.isEmpty_iff.mp q
  exact aRf R S hz
 |Raise e c p=>exact aLe R S h
 |Try body hs o f p =>
  refine ifT_e h fun q hz=>?_
  cases List.isEmpty_iff.mp (aAc q).1
  cases List.isEmpty_iff.mp (aAc q).2
  exact aRe R S hz
 |_=>exact h.elim
theorem aF0{hk:Hook}(HO:aPi V hk):∀ n,Snd V (aYq V hk n)
 | 0=>⟨fun _ h=>h.elim,fun _ h=>h.elim,fun _ h=>h.elim,fun _ h=>h.elim,fun _ h=>h.elim,fun _ _ h=>h.elim⟩
 |n+1 =>
  have R:=aF0 HO n
  ⟨bC1 R,aXk R,bC5 R,aOl R,bCt R,fun {G W σ f args vs Q} S a h=>by
   replace h:Hd G W (match hk G.cf f args σ with|some o=>o|none=>bLy V (aYq V hk n) G.cf f args σ) (PC G W.m Q):=h
   cases e:hk G.cf f args σ with
   |some o=>rw[e] at h;exact HO S a e h
   |none=>rw[e] at h;exact aXj R S a h⟩
end
noncomputable def aZe(i:Nat):List Nat→Nat→Option Nat
 | [],_=>none
 |j::r,k=>bif Nat.beq j i then some k else aZe i r (k+1)
theorem aGb{i:Nat}:∀ {p:List Nat} {k q:Nat},aZe i p k=some q→∃ t,q=k+t∧gN p t=some i
 | [],_,_,h=>by cases h
 |j::r,k,q,h=>by
  unfold aZe at h
  cases e:Nat.beq j i with
  |true=>rw[e] at h;cases h;have:=Nat.eq_of_beq_eq_true e;subst this;exact⟨0,rfl,rfl⟩
  |false =>
   rw[e] at h
   refine aAd (aGb (show aZe i r (k+1)=some q from h)) fun t h1 h2=>?_
   exact⟨t+1,by lia,h2⟩
noncomputable def onI{α:Type}(x:Option Nat)(k:Nat→α)(d:α):α:=match x with
 |some i=>k i
 |none=>d
noncomputable def aR8(p:List Nat)(y:SV):SV:=match y with
 | .a i=>onI (aZe i p 0) .a .u
 |y=>y
noncomputable def bG3(p:List Nat):Option SV→Option SV
 |some y=>some (aR8 p y)
 |none=>none
noncomputable def bOc(p:List Nat)(x:SO):SO:=match x with
 | .inst C d=>onI (aZe d p 0) (.inst C) .any
 | .ns es n=>.ns (es.map fun q=>(q.1,aR8 p q.2)) n
 | .seq t vs n=>.seq t (vs.map (aR8 p)) n
 | .di kvs=>.di (kvs.map fun q=>(q.1,aR8 p q.2))
 | .dv j n puts facts=>.dv j n (puts.map fun q=>(q.1,aR8 p q.2)) (facts.map fun q=>(q.1,bG3 p q.2))
 | .cell y=>.cell (bG3 p y)
 | .raw j=>.raw j
 |_=>.any
noncomputable def aAp(p:List Nat)(ads:List Addr):List Addr:=p.map fun j=>ads.getD j 0
noncomputable abbrev aNp:Obj:=⟨.none,none,.plain,#[]⟩
noncomputable def aHa(p:List Nat)(objs:List Obj):List Obj:=p.map fun j=>objs.getD j aNp
noncomputable abbrev Wd.re(W:Wd)(p:List Nat):Wd:=⟨aAp p W.ads,aHa p W.objs,W.m,W.h,W.t⟩
theorem aTj{α β:Type}{f:α→β}:∀ {l:List α} {i:Nat},gN (l.map f) i=(gN l i).map f
 | [],_=>rfl
 |_::_,0=>rfl
 |_::r,i+1=>aTj (l:=r)
section
variable {ads:List Addr} {p:List Nat}
theorem aCa{t i:Nat}(h:gN p t=some i){a:Addr}(ha:gN ads i=some a):gN (aAp p ads) t=some a:=by
 unfold aAp
 rw[aTj,h,Option.map_some,List.getD,← aCs,ha];rfl
theorem bBj{α:Type}{x:Option Nat}{k:Nat→α}{d:α}{P:α→Prop}(h1:∀ i,x=some i→P (k i))(h2:P d):P (onI x k d):=by
 cases x with
 |some i=>exact h1 i rfl
 |none=>exact h2
theorem Den.ren{y:SV}{v:Value}(h:Den ads y v):Den (aAp p ads) (aR8 p y) v:=by
 cases y with
 |a i=>obtain⟨a,h,e⟩:=h;exact bBj (P:=fun y=>Den _ y v) (fun k hk=>by
   refine aAd (aGb hk) fun t h1 h2=>?_
   rw[Nat.zero_add] at h1
   subst h1
   exact⟨a,aCa h2 h,e⟩) trivial
 |_=>exact h
theorem All2.mapL{α β γ:Type}{R:α→β→Prop}{S:γ→β→Prop}{f:α→γ}{l:List α}{m:List β}(k:∀ a b,R a b→S (f a) b)(h:All2 R l m):All2 S (l.map f) m:=by induction h with|nil=>exact .nil|cons q _ ih=>exact .cons (k _ _ q) ih
theorem PutR.ren{l0 l:List (Int×Value)}{ps:List (Int×SV)}(h:PutR ads l0 ps l):PutR (aAp p ads) l0 (ps.map fun q=>(q.1,aR8 p q.2)) l:=by
 induction h with
 |nil=>exact .nil
 |cons _ d ih=>exact .cons ih d.ren
theorem FactR.ren{l:List (Int×Value)}{g:Int×Option SV}(r:FactR ads l g):FactR (aAp p ads) l (g.1,bG3 p g.2):=by
 obtain⟨q,x⟩:=g
 cases x with
 |none=>exact r
 |some x=>obtain⟨v,e,d⟩:=r;exact⟨v,e,d.ren⟩
theorem DenO.ren{V:Vw}{X:Ctx V}{x:SO}{o:Obj}(d:DenO X ads x o):DenO X (aAp p ads) (bOc p x) o:=by
 cases x with
 |inst C e=>obtain⟨a,h1,h2⟩:=d;exact bBj (P:=fun y=>DenO X _ y o) (fun k hk=>by
   refine aAd (aGb hk) fun t q1 q2=>?_
   rw[Nat.zero_add] at q1
   subst q1
   exact⟨a,aCa q2 h1,h2⟩) trivial
 |ns es n=>obtain⟨l,al,e⟩:=d;exact⟨l,All2.mapL (fun a b ⟨t,v,q,z⟩=>⟨t,v,q.ren,z⟩) al,e⟩
 |seq tup vs n=>obtain⟨l,al,e⟩:=d;exact⟨l,All2.mapL (fun _ _ r=>Den.ren r) al,e⟩
 |di kvs=>obtain⟨l,al,e⟩:=d;exact⟨l,All2.mapL (fun _ _ r=>⟨r.1,r.2.ren⟩) al,e⟩
 |dv j n puts facts =>
  refine aOw d fun l0 l h1 h2 h3 h4 h5=>?_
  refine⟨l0,l,h1,h2,h3.ren,fun f hf=>?_,h5⟩
  refine aAd (List.mem_map.mp hf) fun g hg r5_2=>?_
  subst r5_2
  exact (h4 g hg).ren
 |cell y=>cases y with
  |none=>exact d
  |some y=>obtain⟨v,q,e⟩:=d;exact⟨v,q.ren,e⟩
 |raw j=>exact d
 |_=>trivial
end
noncomputable def aZf(pat y:SV):Option SV:=match pat with
 | .u=>some .u
 | .i _=>(match y with
  | .z n=>some (.i n)
  | .i n=>some (.i n)
  |_=>none)
 | .z n=>(match y with
  | .z m=>bif decide (n=m) then some (.z m) else none
  |_=>none)
 | .a i=>(match y with
  | .a j=>bif Nat.beq i j then some (.a j) else none
  |_=>none)
 | .k _=>(match y with
  | .k v=>some (.k v)
  |_=>none)
 | .s x=>(match y with
  | .s z=>bif aB8 x z then some (.s x) else none
  |_=>none)
 |_=>none
noncomputable def aW8:List SV→List SV→Option (List SV)
 | [],l=>(match l with
  | []=>some []
  |_=>none)
 |p::r,l=>(match l with
  | []=>none
  |y::s=>(aZf p y).bind fun z=>(aW8 r s).map fun t=>z::t)
noncomputable def bLr:List (Str×SV)→List (Str×SV)→Option (List (Str×SV))
 | [],l=>(match l with
  | []=>some []
  |_=>none)
 |p::r,l=>(match l with
  | []=>none
  |y::s=>bif aB8 p.1 y.1 then (aZf p.2 y.2).bind fun z=>(bLr r s).map fun t=>(p.1,z)::t else none)
noncomputable def bLs:List (Int×SV)→List (Int×SV)→Option (List (Int×SV))
 | [],l=>(match l with
  | []=>some []
  |_=>none)
 |p::r,l=>(match l with
  | []=>none
  |y::s=>(aZf p.2 y.2).bind fun z=>(bLs r s).map fun t=>(y.1,z)::t)
noncomputable def bPv(pat x:SO):Option SO:=match pat with
 | .any=>some .any
 | .inst C d=>(match x with
  | .inst C' d'=>bif Nat.beq C C'&&Nat.beq d d' then some (.inst C d) else none
  |_=>none)
 | .ns es n=>(match x with
  | .ns es' n'=>bif Nat.beq n n' then (bLr es es').map fun t=>.ns t n else none
  |_=>none)
 | .seq t vs _=>(match x with
  | .seq t' vs' n'=>bif t==t' then (aW8 vs vs').map fun l=>.seq t l n' else none
  |_=>none)
 | .di es=>(match x with
  | .di es'=>(bLs es es').map .di
  |_=>none)
 | .dv _ _ _ _=>(match x with
  | .dv j n ps fs=>some (.dv j n ps fs)
  |_=>none)
 | .cell y=>(match y with
  |none=>none
  |some y=>(match x with
   | .cell z=>(match z with
    |some z=>(aZf y z).map fun t=>.cell (some t)
    |none=>none)
   |_=>none))
 | .raw j=>(match x with
  | .raw i=>bif Nat.beq i j then some (.raw j) else none
  |_=>none)
 |_=>none
section
variable {V:Vw} {X:Ctx V} {ads:List Addr}
theorem aAr{α:Type}{b:Bool}{x:Option α}{y:α}(h:(bif b then x else none)=some y):b=true∧x=some y:=by
 cases b with
 |true=>exact⟨rfl,h⟩
 |false=>cases h
theorem aEs{pat y z:SV}{v:Value}(h:aZf pat y=some z)(d:Den ads y v):Den ads z v:=by
 cases pat with
 |u=>cases h;trivial
 |i _=>cases y with
  |z n=>cases h;exact d
  |i n=>cases h;exact d
  |_=>exact nn h
 |z n=>cases y with
  |z m=>cases (aAr h).2;exact d
  |_=>exact nn h
 |a n=>cases y with
  |a m=>cases (aAr h).2;exact d
  |_=>exact nn h
 |k _=>cases y with
  |k _=>cases h;exact d
  |_=>exact nn h
 |s x=>cases y with
  |s m=>obtain⟨q,h⟩:=aAr h;cases h;cases aCe.mp q;exact d
  |_=>exact nn h
 |_=>exact nn h
theorem aKa:∀ {pat y z:List SV} {v:List Value},aW8 pat y=some z→Dens ads y v→Dens ads z v
 | [],[],_,_,h,d=>by cases h;exact d
 | [],_::_,_,_,h,_=>by cases h
 |_::_,[],_,_,h,_=>by cases h
 |p::r,y::s,z,v,h,d=>by
  refine aAd (Option.bind_eq_some_iff.mp h) fun z1 h1 h=>?_
  refine aAd (Option.map_eq_some_iff.mp h) fun t h2 r7_2=>?_
  subst r7_2
  cases d with
  |cons d1 d2=>exact .cons (aEs h1 d1) (aKa h2 d2)
theorem aOd:∀ {pat y z:List (Str×SV)} {v:List DictEntry},bLr pat y=some z→All2 (NsE X ads) y v→All2 (NsE X ads) z v
 | [],[],_,_,h,d=>by cases h;exact d
 | [],_::_,_,_,h,_=>by cases h
 |_::_,[],_,_,h,_=>by cases h
 |p::r,y::s,z,v,h,d=>by
  refine aBa (aAr h) fun q h=>?_
  refine aAd (Option.bind_eq_some_iff.mp h) fun z1 h1 h=>?_
  refine aAd (Option.map_eq_some_iff.mp h) fun t h2 r10_2=>?_
  subst r10_2
  cases d with
  |cons d1 d2 =>
   refine aGf d1 fun tt v dv e=>?_
   exact .cons ⟨tt,v,aEs h1 dv,by rw[aCe.mp q];exact e⟩ (aOd h2 d2)
theorem aOf:∀ {pat y z:List (Int×SV)} {v:List (Int×Value)},bLs pat y=some z→All2 (DiE ads) y v→All2 (DiE ads) z v
 | [],[],_,_,h,d=>by cases h;exact d
 | [],_::_,_,_,h,_=>by cases h
 |_::_,[],_,_,h,_=>by cases h
 |p::r,y::s,z,v,h,d=>by
  refine aAd (Option.bind_eq_some_iff.mp h) fun z1 h1 h=>?_
  refine aAd (Option.map_eq_some_iff.mp h) fun t h2 r13_2=>?_
  subst r13_2
  cases d with
  |cons d1 d2=>exact .cons ⟨d1.1,aEs h1 d1.2⟩ (aOf h2 d2)
theorem aW9{pat x z:SO}{o:Obj}(h:bPv pat x=some z)(d:DenO X ads x o):DenO X ads z o:=by
 cases pat with
 |any=>cases h;trivial
 |inst C e=>cases x with
  |inst C' e' =>
   refine aBa (aAr h) fun q h=>?_
   cases h
   cases Nat.eq_of_beq_eq_true (aAc q).1
   cases Nat.eq_of_beq_eq_true (aAc q).2
   exact d
  |_=>exact nn h
 |ns es n=>cases x with
  |ns es' n' =>
   refine aBa (aAr h) fun q hz=>?_
   refine aAd (Option.map_eq_some_iff.mp hz) fun t h2 r16_2=>?_
   subst r16_2
   cases Nat.eq_of_beq_eq_true q
   refine aAd d fun l al e=>?_
   exact⟨l,aOd h2 al,e⟩
  |_=>exact nn h
 |seq t vs n=>cases x with
  |seq t' vs' n' =>
   refine aBa (aAr h) fun q hz=>?_
   refine aAd (Option.map_eq_some_iff.mp hz) fun t h2 r19_2=>?_
   subst r19_2
   cases eq_of_beq q
   refine aAd d fun l al e=>?_
   exact⟨l,aKa h2 al,e⟩
  |_=>exact nn h
 |di es=>cases x with
  |di es' =>
   refine aAd (Option.map_eq_some_iff.mp h) fun t h2 r21_2=>?_
   subst r21_2
   refine aAd d fun l al e=>?_
   exact⟨l,aOf h2 al,e⟩
  |_=>exact nn h
 |dv _ _ _ _=>cases x with
  |dv j n ps fs=>cases h;exact d
  |_=>exact nn h
 |cell y=>cases y with
  |none=>cases h
  |some y=>cases x with
   |cell z'=>cases z' with
    |none=>cases h
    |some z' =>
     refine aAd (Option.map_eq_some_iff.mp h) fun t h2 r23_2=>?_
     subst r23_2
     refine aAd d fun v dv e=>?_
     exact⟨v,aEs h2 dv,e⟩
   |_=>exact nn h
 |raw j=>cases x with
  |raw i =>
   refine aBa (aAr h) fun q h=>?_
   cases h
   cases Nat.eq_of_beq_eq_true q
   exact d
  |_=>exact nn h
 |_=>exact nn h
end
noncomputable def bCn(p:List Nat)(led:List SO):List Nat→List SO→Option (List SO)
 | [],pats=>(match pats with
  | []=>some []
  |_=>none)
 |j::r,pats=>(match pats with
  | []=>none
  |pat::ps=>(gN led j).bind fun x=>(bPv pat (bOc p x)).bind fun z=>(bCn p led r ps).map fun t=>z::t)
noncomputable def bFx(p:List Nat)(m:List (Str×SV)):List (Str×SV)→Option (List (Str×SV))
 | []=>some []
 |q::r=>(aD6 q.1 m).bind fun y=>(aZf q.2 (aR8 p y)).bind fun z=>(bFx p m r).map fun t=>(q.1,z)::t
noncomputable def aG8:List Nat→Bool
 | []=>true
 |a::r=>!(aH0 a r)&&aG8 r
theorem aJ3{a:Nat}:∀ {l:List Nat},a∈l→aH0 a l=true
 |b::r,h=>by
  unfold aH0
  cases q:Nat.beq b a with
  |true=>rfl
  |false =>
   rcases List.mem_cons.mp h with rfl|h
   ·rw[Nat.beq_refl] at q;cases q
   ·exact aJ3 h
theorem aG7:∀ {l:List Nat},aG8 l=true→l.Nodup
 | [],_=>.nil
 |a::r,h=>by
  have h:=aAc h
  refine List.nodup_cons.mpr ⟨fun q=>?_,aG7 h.2⟩
  rw[aJ3 q] at h
  cases h.1
section
variable {V:Vw} {G:Gd V} {W:Wd} {σ:St}
theorem aOe(S:Sat G W σ){p:List Nat}:∀ {r:List Nat} {pats led':List SO},bCn p σ.led r pats=some led'→All2 (DenO G.X (aAp p W.ads)) led' (r.map fun j=>W.objs.getD j aNp)∧∀ j∈r,j<W.ads.length
 | [],[],_,h=>by cases h;exact⟨.nil,fun _ q=>nomatch q⟩
 | [],_::_,_,h=>by cases h
 |_::_,[],_,h=>by cases h
 |j::r,pat::ps,led',h=>by
  refine aAd (Option.bind_eq_some_iff.mp h) fun x h1 h=>?_
  refine aAd (Option.bind_eq_some_iff.mp h) fun z h2 h=>?_
  refine aAd (Option.map_eq_some_iff.mp h) fun t h3 r28_2=>?_
  subst r28_2
  refine aAd (S.O.get h1) fun o q1 q2=>?_
  refine aBa (aOe S h3) fun i1 i2=>?_
  refine⟨.cons ?_ i1,fun i hi=>?_⟩
  ·show DenO G.X _ z (W.objs.getD j aNp)
   rw[List.getD,← aCs,q1]
   exact aW9 h2 q2.ren
  ·rcases List.mem_cons.mp hi with rfl|hi
   ·rw[S.len];exact aBl q1
   ·exact i2 i hi
theorem aGc{p:List Nat}{m:List (Str×SV)}{ads:List Addr}{M:Str→Option Value}(hm:MD ads m M):∀ {nm m':List (Str×SV)},bFx p m nm=some m'→MD (aAp p ads) m' M
 | [],_,h=>by cases h;exact fun _ _ e=>nomatch e
 |q::r,m',h=>by
  refine aAd (Option.bind_eq_some_iff.mp h) fun y h1 h=>?_
  refine aAd (Option.bind_eq_some_iff.mp h) fun z h2 h=>?_
  refine aAd (Option.map_eq_some_iff.mp h) fun t h3 r33_2=>?_
  subst r33_2
  intro x y' e
  rw[aAs] at e
  split at e
  ·cases e
   subst x
   refine aAd (hm _ _ h1) fun v k1 k2=>?_
   exact⟨v,k1,aEs h2 k2.ren⟩
  ·exact aGc hm h3 x y' e
theorem nodup_map_on{α β:Type}{f:α→β}:∀ {l:List α},l.Nodup→(∀ a∈l,∀ b∈l,f a=f b→a=b)→(l.map f).Nodup
 | [],_,_=>.nil
 |a::r,h,k=>by
  rw[List.nodup_cons] at h
  rw[List.map_cons,List.nodup_cons]
  refine⟨fun q=>?_,nodup_map_on h.2 fun x hx y hy=>k x (.tail _ hx) y (.tail _ hy)⟩
  refine aAd (List.mem_map.mp q) fun b hb e=>?_
  have:=k a (.head _) b (.tail _ hb) e.symm
  subst this
  exact h.1 hb
theorem Sat.remap{V':Vw}{G':Gd V'}(S:Sat G W σ)(ok:Ok G')(hG:G'.g=G.g∧G'.L=G.L∧G'.A=G.A∧G'.cf=G.cf∧G'.cl=G.cl)(hX:∀ ads so o,DenO G.X ads so o→DenO G'.X ads so o)(hn:G.cf.hd=none){p:List Nat}{led':List SO}{m':List (Str×SV)}{o':List Nat}
  (hl:∃ pats,bCn p σ.led p pats=some led') (hm:MD (aAp p W.ads) m' W.m) (hnd:aG8 p=true) (hc:G.cf.top=true→∀ x i,V'.cells x=some i→∃ j,V.cells x=some j∧gN p i=some j) :
  Sat G' (W.re p) ⟨m',led',o'⟩:=by
 refine aA6 hl fun pats hl=>?_
 refine bC6 hG fun e1 e2 e3 e4 e5=>?_
 refine aBa (aOe S hl) fun hO hp=>?_
 have getA:∀ {t i:Nat},gN p t=some i→∃ a,gN W.ads i=some a∧gN (aAp p W.ads) t=some a:=fun {t i} h=>by
  refine aA6 (aAl (hp i (aCb h))) fun a ha=>?_
  exact⟨a,ha,aCa h ha⟩
 refine⟨ok,by rw[e1,e2];exact S.F,hm,fun q hq=>?_,hO.mono (hX _),by simp[aAp,aHa],?_,?_,fun q x i e=>?_⟩
 ·rw[e1,e2]
  have hq:q∈(aAp p W.ads).zip (aHa p W.objs):=hq
  unfold aAp aHa at hq
  rw[List.zip_map'] at hq
  refine aAd (List.mem_map.mp hq) fun i hi r40_2=>?_
  subst r40_2
  have hi:=hp i hi
  refine aA6 (aAl hi) fun a ha=>?_
  refine aA6 (aAl (S.len▸hi)) fun o ho=>?_
  simp only[List.getD,← aCs,ha,ho,Option.getD_some]
  exact S.N _ (aBf ha ho)
 ·show (p.map fun j=>W.ads.getD j 0).Nodup
  refine nodup_map_on (aG7 hnd) fun i hi j hj e=>?_
  refine aA6 (aAl (hp i hi)) fun a ha=>?_
  refine aA6 (aAl (hp j hj)) fun b hb=>?_
  simp only[List.getD,← aCs,ha,hb,Option.getD_some] at e
  subst e
  exact aC7 S.nd ha hb
 ·have:=S.hd
  rw[hn] at this
  rw[e4,hn,e3];exact this
 ·rw[e4] at q
  refine aAd (hc q x i e) fun j h1 h2=>?_
  refine aAd (S.cl q x j h1) fun a h3 h4=>?_
  refine aAd (getA h2) fun b h5 h6=>?_
  rw[h3] at h5;cases h5
  rw[e5]
  exact⟨a,h6,h4⟩
noncomputable def bFy(cells:List Nat)(p:List Nat)(pats:List SO)(nm:List (Str×SV))(σ:St):Out (List Nat) :=
 ifT (aG8 p&&cells.all fun c=>match gN p c with
  |some j=>Nat.beq j c
  |none=>false) (onO (bCn p σ.led p pats) fun led'=>onO (bFx p σ.m nm) fun m'=>.p ⟨m',led',[]⟩ p)
noncomputable def Hl{α:Type}:Out α→(St→α→Prop)→Prop
 | .f,_=>False
 | .p σ a,Φ=>Φ σ a
 | .t _ _,_=>False
 | .x _ _,_=>False
 | .g P o,Φ=>P∧Hl o Φ
 | .s c a b,Φ=>(c=true→Hl a Φ)∧(c=false→Hl b Φ)
theorem Hl.to{α β:Type}{k:St→α→Out β}{Φ:St→β→Prop}{Ψ:Wd→St→α→Prop}(f:∀ {W' σ a},Sat G W' σ→Pre W.ads W'.ads→Hl (k σ a) Φ→Ψ W' σ a):∀ {o:Out α},Hl (Mine.bf o k) Φ→Hd G W o Ψ
 | .f,h=>h
 | .p _ _,h=>fun _ q S=>f S q h
 | .t _ _,h=>False.elim h
 | .x _ _,h=>False.elim h
 | .g _ _,h=>⟨h.1,Hl.to f h.2⟩
 | .s _ _ _,h=>⟨fun e=>Hl.to f (h.1 e),fun e=>Hl.to f (h.2 e)⟩
theorem Hl.onO_e{α γ:Type}{x:Option γ}{k:γ→Out α}{Φ:St→α→Prop}(h:Hl (onO x k) Φ):∃ y,x=some y∧Hl (k y) Φ:=by
 cases x with
 |some y=>exact⟨y,rfl,h⟩
 |none=>exact h.elim
theorem Hl.ifT_e{α:Type}{b:Bool}{o:Out α}{Φ:St→α→Prop}(h:Hl (ifT b o) Φ):b=true∧Hl o Φ:=by
 cases b with
 |true=>exact⟨rfl,h⟩
 |false=>exact h.elim
theorem stretch{r:Rec}(R:Snd V r)(S:Sat G W σ)(hn:G.cf.hd=none){cells p:List Nat}{pats:List SO}{nm:List (Str×SV)}{ss:List Stmt}{Φ:St→List Nat→Prop}{Q:Flow→Shared→Prop}{pf:St→List Nat}
  (hc:∀ x i,V.cells x=some i→i∈cells)
  (h:Hl (Mine.bf (r.bk G.cf ss σ) fun σ' a=>bBi a (bFy cells (pf σ') pats nm σ')) Φ)
  (q:∀ σ' p W',Φ σ' p→Pre W.ads W'.ads→Sat G (W'.re p) σ'→Q .next (G.st W')):G.wp (execs ss G.env) Q (G.st W):=by
 refine R.bk S (h.to fun {W' σ' a} S' pre h=>?_)
 cases a with
 |r _=>exact h.elim
 |n =>
  refine aBa (Hl.ifT_e h) fun h1 h=>?_
  refine aAd (Hl.onO_e h) fun led' h2 h=>?_
  refine aAd (Hl.onO_e h) fun m' h3 h=>?_
  refine q _ _ W' h pre (S'.remap S'.ok ⟨rfl,rfl,rfl,rfl,rfl⟩ (fun _ _ _ d=>d) hn ⟨_,h2⟩ (aGc S'.M h3) (aAc h1).1 fun _ x i e=>⟨i,e,?_⟩)
  have:=List.all_eq_true.mp (aAc h1).2 i (hc x i e)
  cases ez:gN (pf σ') i with
  |none=>rw[ez] at this;cases this
  |some j=>rw[ez] at this;cases Nat.eq_of_beq_eq_true this;rfl
end
noncomputable def vwc(ci:Nat)(K:Frag):Vw :=
 { K:=K,O:=vO pw,cells:=fun x=>bif aB8 x aAu then some ci else none,hf:=fun a=>aH0 a vHF,iv:=aI8 vIV,ns:=aI8 vNS,fin:=aI8 aZr,pg:=fun C=>aH0 C vPG,px:=fun C=>aH0 C vPX,ps:=fun C x=>aH0 C vPG&&(aI8 aZr C x).isSome,pf:=fun f=>aH0 f vPF,cv:=aI8 vCV,mkc:=fun C=>lkN C vMK,mt:=aI8 vMT,kp:=fun a=>aH0 a vKP,ve:=fun C=>aH0 C vVE,xs:=fun C x=>(aI8 vXS C x).isSome,mkx:=fun C=>lkN C bN3,cm:=aI8 vCM,tp:=fun a=>lkN a vTP }
noncomputable def Vw.bare(V:Vw):Vw:={ V with cells:=fun _=>none }
theorem VOk.bare{P:Params}{V:Vw}(h:VOk P V):VOk P V.bare:=⟨h.O,h.iv,h.sm,h.k0,h.ns,h.fin,h.pg,h.px,h.xs,h.ps,h.pf,h.cv,h.mkc,h.mkx,h.cm,h.mt,h.kp,h.tp,h.ve⟩
noncomputable def erN{α:Type}:List α→Nat→List α
 | [],_=>[]
 |_::r,0=>r
 |a::r,n+1=>a::erN r n
theorem aIu{α β:Type}{f:α→β}:∀ {l:List α} {b:Nat},(erN l b).map f=erN (l.map f) b
 | [],_=>rfl
 |_::_,0=>rfl
 |x::r,b+1=>congrArg _ (aIu (l:=r))
theorem aIt{α:Type}{x:α}:∀ {l:List α} {b:Nat},x∈erN l b→x∈l
 |_::_,0,h=>.tail _ h
 |y::r,b+1,h=>by
  rcases List.mem_cons.mp (show x∈y::erN r b from h) with e|h
  ·exact e▸.head _
  ·exact .tail _ (aIt (l:=r) h)
theorem aTr{α:Type}:∀ {l:List α} {b:Nat} {a:α},l.Nodup→gN l b=some a→(a::erN l b).Nodup
 |x::r,0,a,nd,h=>by cases h;exact nd
 |x::r,b+1,a,nd,h=>by
  have nd':=List.nodup_cons.mp nd
  have ih:=List.nodup_cons.mp (aTr (l:=r) nd'.2 h)
  refine List.nodup_cons.mpr ⟨fun q=>?_,List.nodup_cons.mpr ⟨fun q=>nd'.1 (aIt q),ih.2⟩⟩
  rcases List.mem_cons.mp (show a∈x::erN r b from q) with e|q
  ·exact nd'.1 (e▸aCb (l:=r) h)
  ·exact ih.1 q
theorem aOv{α:Type}:∀ {l:List α} {b i:Nat} {a:α},gN l i=some a→i≠b→a∈erN l b
 |x::r,0,0,a,h,n=>absurd rfl n
 |x::r,0,i+1,a,h,n=>aCb (l:=r) h
 |x::r,b+1,0,a,h,n=>by cases h;exact .head _
 |x::r,b+1,i+1,a,h,n=>.tail _ (aOv (l:=r) h fun e=>n (congrArg _ e))
theorem aHm{α:Type}:∀ {l:List α} {b i:Nat} {x:α},i≠b→gN (stN l b x) i=gN l i
 | [],_,_,_,_=>rfl
 |_::_,0,0,_,n=>absurd rfl n
 |_::_,0,_+1,_,_=>rfl
 |_::_,_+1,0,_,_=>rfl
 |_::r,b+1,i+1,_,n=>aHm (l:=r) fun e=>n (congrArg _ e)
theorem aHn{α:Type}:∀ {l:List α} {b:Nat} {x y:α},gN (stN l b x) b=some y→y=x
 |_::_,0,_,_,h=>by cases h;rfl
 |_::r,b+1,_,_,h=>aHn (l:=r) h
noncomputable def others(b:Nat)(W:Wd):List (Addr×Obj):=erN W.l b
section
variable {V:Vw} {G:Gd V} {W W':Wd} {σ:St}
noncomputable abbrev Gd.fb(G:Gd V)(ex:List (Addr×Obj)):Gd V.bare:=⟨⟨G.X.prog,G.X.w,G.X.vo.bare,G.X.p,G.X.loose,G.X.mean,G.X.mg,G.X.mb,⟨G.X.β.d,aLx G.X.β.o ex⟩⟩,G.A,G.cn,G.L,G.a,G.ccd,G.cl,G.outer,G.A₀,G.base,G.g,G.gens,G.drawn,G.os,⟨G.cf.cs,none,5,false⟩,G.E⟩
theorem Ok.fb(O:Ok G)(h:5≤G.cf.lv)(ex:List (Addr×Obj)):Ok (G.fb ex):=⟨O.B,O.K,O.T,O.KB,O.TB,O.D,O.fr,O.hk,by show G.A.depth+5<_;have:=O.dp;lia,by show G.A.units+8*5<_;have:=O.un;lia,O.tp,fun q=>nomatch q⟩
noncomputable abbrev Wd.fb(W:Wd)(b:Nat)(a:Addr)(o:Obj):Wd:=⟨a::(others b W).map (·.1),o::(others b W).map (·.2),W.m,W.h,W.t⟩
theorem aH2{α β:Type}:∀ {l:List α} {m:List β},l.length=m.length→(l.zip m).map (·.1)=l
 | [],[],_=>rfl
 |a::l,b::m,h=>congrArg _ (aH2 (Nat.succ.inj h))
theorem Sat.focus(S:Sat G W σ)(hn:G.cf.hd=none)(h5:5≤G.cf.lv){b:Nat}{so:SO}(hb:gN σ.led b=some so)(hcl:clO 0 so=true){a:Addr}(ha:gN W.ads b=some a){o:Obj}(hm:(a,o)∈W.l)(hd:DenO G.X W.ads so o)(orc:List Nat) :
  Sat (G.fb (others b W)) (W.fb b a o) ⟨[],so::aAk (others b W).length 1000,orc⟩:=by
 have hmap:(others b W).map (·.1)=erN W.ads b:=by unfold others;rw[aIu,aH2 S.len]
 refine⟨S.ok.fb h5 _,S.F,(fun _ _ e=>nomatch e),fun p hp=>?_,?_,by simp,?_,?_,fun _ _ _ e=>nomatch e⟩
 ·have hp:p∈(a::(others b W).map (·.1)).zip (o::(others b W).map (·.2)):=hp
  rw[List.zip_cons_cons,List.zip_map'] at hp
  rcases List.mem_cons.mp hp with rfl|hp
  ·exact S.N _ hm
  ·exact S.N _ (aIt (l:=W.l) (b:=b) (by simpa[others] using hp))
 ·exact .cons (DenO.cut (X:=G.X) (β':=(G.fb (others b W)).X.β) (k:=0) rfl (fun j hj=>aF6 hj) (fun i hi=>absurd hi (Nat.not_lt_zero _)) hcl hd) (aF2 (X:=(G.fb (others b W)).X) _ 0 fun j=>by rw[Nat.zero_add])
 ·show (a::(others b W).map (·.1)).Nodup
  rw[hmap];exact aTr S.nd ha
 ·have:=S.hd
  rw[hn] at this
  exact this
theorem aMe{X:Ctx V}{d:Nat→List (Int×Value)}{oo:Nat→Obj}{ads:List Addr}{all:List (Addr×Obj)}:∀ (ex:List (Addr×Obj)) (i:Nat) (t:List Obj),(∀ j,gN ex j=gN all (i+j))→All2 (DenO { X with β:=⟨d,aLx oo all⟩ } ads) (aAk ex.length (1000+i)) t→t=ex.map (·.2)
 | [],_,t,_,h=>by cases h;rfl
 |p::r,i,t,e,h=>by
  cases (show All2 (DenO { X with β:=⟨d,aLx oo all⟩ } ads) (.raw (1000+i)::aAk r.length (1000+i+1)) t from h) with
  | @cons _ o _ t hd ht =>
   have hd:o=aLx oo all (1000+i):=hd
   rw[aIe (p:=p) (show gN all i=some p from (e 0).symm)] at hd
   rw[List.map_cons,hd,aMe r (i+1) t (fun j=>by rw[show i+1+j=i+(j+1) by lia];exact e (j+1)) ht]
theorem Sat.unfocus(S:Sat G W σ){b:Nat}{so':SO}{a:Addr}{o:Obj}(ha:gN W.ads b=some a){σ2:St}(S':Sat (G.fb (others b W)) W' σ2)(pre:Pre (W.fb b a o).ads W'.ads)(h2:σ2.led=so'::aAk (others b W).length 1000)(hcl:clO 0 so'=true)(orc:List Nat)(hm:W'.m=W.m) :
  ∃ objs,Sat G ⟨W.ads,objs,W.m,W'.h,W'.t⟩ ⟨σ.m,stN σ.led b so',orc⟩:=by
 have hmap:(others b W).map (·.1)=erN W.ads b:=by unfold others;rw[aIu,aH2 S.len]
 have O2:=S'.O
 rw[h2] at O2
 obtain⟨ads2,objs2,m2,hp2,t2⟩:=W'
 replace hm:m2=W.m:=hm
 subst hm
 replace O2:All2 (DenO (G.fb (others b W)).X ads2) (so'::aAk (others b W).length 1000) objs2:=O2
 cases O2 with
 | @cons _ o' _ t hd ht =>
  have et:=aMe (X:=(G.fb (others b W)).X) (others b W) 0 t (fun j=>by rw[Nat.zero_add]) ht
  obtain⟨rest,hr⟩:=pre
  replace hr:ads2=(a::(others b W).map (fun p:Addr×Obj=>p.1))++rest:=hr
  subst hr
  have hl:=S'.len
  have e0:rest=[]:=by
   rw[et] at hl
   simpa using hl
  subst e0
  have N2:News G.g G.L hp2 (((a::(others b W).map (fun p:Addr×Obj=>p.1))++[]).zip (o'::t)):=S'.N
  rw[et,List.append_nil,List.zip_cons_cons,List.zip_map'] at N2
  refine⟨stN W.objs b o',S.ok,S'.F,S.M,fun p hp=>?_,S.O.set (DenO.cut (X:=(G.fb (others b W)).X) (β':=G.X.β) (k:=0) rfl (fun j hj=>(aF6 hj).symm) (fun i hi=>absurd hi (Nat.not_lt_zero _)) hcl hd),by rw[aFy];exact S.len,S.nd,S.hd,S.cl⟩
  obtain⟨i,hi⟩:=List.getElem?_of_mem hp
  obtain⟨h3,h4⟩:=List.getElem?_zip_eq_some.mp hi
  rw[← aCs] at h3 h4
  by_cases e:i=b
  ·subst e
   rw[ha] at h3
   have:=aHn h4
   have:p=(a,o'):=by cases p;simp_all
   rw[this];exact N2 _ (.head _)
  ·rw[aHm e] at h4
   refine N2 _ (.tail _ (List.mem_map.mpr ⟨p,aOv (l:=W.l) (i:=i) ?_ e,rfl⟩))
   rw[aCs]
   exact List.getElem?_zip_eq_some.mpr ⟨by rw[← aCs];exact h3,by rw[← aCs];exact h4⟩
end
noncomputable def aW0(s n:Int):Int:=((s+15485867*n+13) ^ Int.toNat 5%2147483647*48271+7919*n) ^ Int.toNat 3%4611686018427387847/64
noncomputable def aCd(g s n many d g' n':Int):Prop:=(0<g∧d=g%many∧g'=g/many∧n'=n)∨(¬ 0<g∧d=aW0 s (n+1)%many∧g'=g∧n'=n+1)
structure DrawOk(s n many:Int):Prop where
 m0:0<many
 m1:many≤4294967296
 s0:0≤s
 s1:s<2147483629
 n0:0≤n
 n1:n<100000
noncomputable def bEc(K:Frag):Rec:=aYq (vwc 13 K).bare (fun _ _ _ _=>none) 60
section
set_option tactic.hygienic true
theorem aP3(K:Frag)(cs:Scope)(g s n many:Int)(q:Nat)(tl:List SO):(bEc K).fn ⟨cs,none,5,false⟩ 2213 [.a 0,.i many] ⟨[],.seq false [.i g,.i s,.i n] q::tl,[1]⟩ =
  .g (decide (0<g)=true) (.g (1≤many∧many≤i64) (.g (1≤many∧many≤4294967296) (.p ⟨[],.seq false [.i (g/many),.i s,.i n] q::tl,[]⟩ (.i (g%many))))):=aAa (by k_slotget)
theorem aUc(K:Frag)(cs:Scope)(g s n many:Int)(q:Nat)(tl:List SO):(bEc K).fn ⟨cs,none,5,false⟩ 2213 [.a 0,.i many] ⟨[],.seq false [.i g,.i s,.i n] q::tl,[0]⟩ =
  .g (decide (0<g)=false) (.g (-i64≤s+15485867*(n+1)+13∧s+15485867*(n+1)+13≤i64) (.g (-i64≤(s+15485867*(n+1)+13) ^ Int.toNat 5%2147483647*48271+7919*(n+1)∧(s+15485867*(n+1)+13) ^ Int.toNat 5%2147483647*48271+7919*(n+1)≤i64) (.g (1≤many∧many≤i64) (.p ⟨[],.seq false [.i g,.i s,.i (n+1)] q::tl,[]⟩ (.i (aW0 s (n+1)%many)))))):=aAa (by k_slotget)
theorem aLb{s n:Int}(h0:0≤s)(h1:s<2147483629)(h2:0≤n)(h3:n<100000):(-i64≤s+15485867*(n+1)+13∧s+15485867*(n+1)+13≤i64)∧(-i64≤(s+15485867*(n+1)+13) ^ Int.toNat 5%2147483647*48271+7919*(n+1)∧(s+15485867*(n+1)+13) ^ Int.toNat 5%2147483647*48271+7919*(n+1)≤i64):=by
 have:=Int.emod_nonneg ((s+15485867*(n+1)+13) ^ Int.toNat 5) (show (2147483647:Int)≠0 by decide)
 have:=Int.emod_lt_of_pos ((s+15485867*(n+1)+13) ^ Int.toNat 5) (show (0:Int)<2147483647 by decide)
 generalize (s+15485867*(n+1)+13) ^ Int.toNat 5%2147483647=z at *
 unfold i64
 lia
noncomputable def bFu{α:Type}(y:SV)(k:Int→Option α):Option α:=match y with
 | .i n=>k n
 |_=>none
theorem aM1{α:Type}{y:SV}{k:Int→Option α}{o:α}(h:bFu y k=some o):∃ n,y=.i n∧k n=some o:=by
 cases y with
 |i n=>exact⟨n,rfl,h⟩
 |_=>exact nn h
noncomputable def on3{α:Type}(l:List SV)(k:SV→SV→SV→Option α):Option α:=match l with
 | [a,b,c]=>k a b c
 |_=>none
theorem bKg{α:Type}{l:List SV}{k:SV→SV→SV→Option α}{o:α}(h:on3 l k=some o):∃ a b c,l=[a,b,c]∧k a b c=some o:=by
 unfold on3 at h
 split at h
 ·exact⟨_,_,_,rfl,h⟩
 ·exact nn h
noncomputable def aV3{α:Type}(σ:St)(b:Nat)(k:Int→Int→Int→Nat→Option α):Option α:=match gN σ.led b with
 |some so=>(match so with
  | .seq f l q=>bif f then none else on3 l fun x y z=>bFu x fun g=>bFu y fun s=>bFu z fun n=>k g s n q
  |_=>none)
 |none=>none
noncomputable def aV1{α:Type}(y:SV)(k:Int→Option α):Option α:=match y with
 | .i n=>k n
 | .z n=>k n
 |_=>none
noncomputable def aUe(D:Nat→Int×Int×Int)(args:List SV)(σ:St):Option (Out SV):=match args,σ.orc with
  | [.a b,m],k::r=>aV1 m fun many=>aV3 σ b fun g s n q=>some (.g (aCd g s n many (D k).1 (D k).2.1 (D k).2.2∧DrawOk s n many) (.p ⟨σ.m,stN σ.led b (.seq false [.i (D k).2.1,.i s,.i (D k).2.2] q),r⟩ (.i (D k).1)))
  |_,_=>none
theorem aM6{α:Type}{y:SV}{k:Int→Option α}{o:α}(h:aV1 y k=some o):∃ n,(y=.i n∨y=.z n)∧k n=some o:=by
 cases y with
 |i n=>exact⟨n,.inl rfl,h⟩
 |z n=>exact⟨n,.inr rfl,h⟩
 |_=>exact nn h
theorem aV2{α:Type}{σ:St}{b:Nat}{k:Int→Int→Int→Nat→Option α}{o:α}(h:aV3 σ b k=some o):∃ g s n q,gN σ.led b=some (.seq false [.i g,.i s,.i n] q)∧k g s n q=some o:=by
 unfold aV3 at h
 generalize gN σ.led b=so at h
 cases so with
 |none=>exact nn h
 |some so =>
  cases so with
  |seq f l q =>
   cases f with
   |true=>exact nn h
   |false =>
    refine aZh (bKg h) fun x y z r0_3 h=>?_
    subst r0_3
    refine aAd (aM1 h) fun g r1_1 h=>?_
    subst r1_1
    refine aAd (aM1 h) fun s r2_1 h=>?_
    subst r2_1
    refine aAd (aM1 h) fun n r3_1 h=>?_
    subst r3_1
    exact⟨g,s,n,q,rfl,h⟩
  |_=>exact nn h
section
variable {K:Frag} {ci:Nat} {G:Gd (vwc ci K)} {W:Wd} {σ:St}
theorem aUd{P:Params}(vo:VOk P (vwc ci K)):Snd (vwc ci K).bare (bEc K):=aF0 (V:=(vwc 13 K).bare) noHook 60
theorem aP4{D:Nat→Int×Int×Int}{args:List SV}{vs:List Value}{o:Out SV}{Q:Value→Shared→Prop}(hn:G.cf.hd=none)(hlv:5≤G.cf.lv)(S:Sat G W σ)(a:Dens W.ads args vs)(ho:aUe D args σ=some o)
  (h:Hd G W o (PC G W.m Q)):codeAny G.M G.A (.call (.ref 2213) ⟨vs,[]⟩) (aIz Q G.E) (G.st W):=by
 unfold aUe at ho
 split at ho
 ·rename_i b mv k r horc
  refine aAd (aM6 ho) fun many hmv ho=>?_
  refine bZw (aV2 ho) fun gi si ni q hb ho=>?_
  cases ho
  refine aBa h fun z6_0 h=>?_
  obtain⟨ht,hd⟩:=z6_0
  refine aXt a.cons2 fun v1 v2 r7_2 z7_3 d2=>?_
  subst r7_2
  obtain⟨x,hx,rfl⟩:=z7_3
  obtain⟨t,rfl⟩:∃ t,v2=.int many t:=by rcases hmv with rfl|rfl<;>exact d2
  refine aDp (S.slot hb hx) fun ob ho1 ho2 ho3=>?_
  have key:∀ (g' n':Int) (orc:List Nat) (d:Int),(∀ (tl:List SO) (Φ:Wd→St→SV→Prop),Hd (G.fb (others b W)) (W.fb b x ob) (.p ⟨[],.seq false [.i g',.i si,.i n'] q::tl,[]⟩ (.i d)) Φ→Hd (G.fb (others b W)) (W.fb b x ob) ((bEc K).fn ⟨G.cf.cs,none,5,false⟩ 2213 [.a 0,.i many] ⟨[],.seq false [.i gi,.i si,.i ni] q::tl,orc⟩) Φ)→d=(D k).1→g'=(D k).2.1→n'=(D k).2.2→codeAny G.M G.A (.call (.ref 2213) ⟨[.ref x,.int many t],[]⟩) (aIz Q G.E) (G.st W):=fun g' n' orc d run e1 e2 e3=>by
   have S0:=S.focus hn hlv hb rfl hx ho2 ho3 orc
   refine (aUd (K:=K) G.X.vo).fn (G:=G.fb (others b W)) (W:=W.fb b x ob) (Q:=Q) (args:=[.a 0,.i many]) S0 (.cons ⟨x,rfl,rfl⟩ (.cons ⟨t,rfl⟩ .nil)) (run _ (PC (G.fb (others b W)) W.m Q) (fun W' pre S' hm v dv=>?_))
   refine aA6 (Sat.unfocus S hx S' pre rfl rfl r hm) fun objs z=>?_
   have:=h ⟨W.ads,objs,W.m,W'.h,W'.t⟩ (.refl _) (by rw[← e2,← e3];exact z) rfl v (by rw[← e1];exact dv)
   exact this
  rcases ht with⟨h0,e1,e2,e3⟩|⟨h0,e1,e2,e3⟩
  ·exact key (gi/many) ni [1] (gi%many) (fun tl Φ hh=>by
    rw[aP3]
    have:=hd.m1
    have:=hd.m0
    exact⟨decide_eq_true h0,⟨by lia,by unfold i64;lia⟩,⟨by lia,by lia⟩,hh⟩) e1.symm e2.symm e3.symm
  ·exact key gi (ni+1) [0] (aW0 si (ni+1)%many) (fun tl Φ hh=>by
    rw[aUc]
    have:=hd.m1
    have:=hd.m0
    refine aBa (aLb hd.s0 hd.s1 hd.n0 hd.n1) fun q1 q2=>?_
    exact⟨decide_eq_false h0,q1,q2,⟨by lia,by unfold i64;lia⟩,hh⟩) e1.symm e2.symm e3.symm
 ·cases ho
end
end
noncomputable def aB4:Scope:=fdS (F pw 155)
noncomputable def aQ4:List Stmt:=fdB (F pw 155)
noncomputable def bPg:List Stmt→Nat→Stmt
 | [],_=>.Pass default
 |a::_,0=>a
 |_::r,n+1=>bPg r n
noncomputable def aBg:List Stmt:=match bPg aQ4 4 with
 | .For _ _ b _ _=>b
 |_=>[]
noncomputable def cfL:Cf:=⟨aB4,none,300,true⟩
noncomputable def aAe(x:Int):Int:=2*(x/2%2)+8*(x/8%2)+32*(x/32%2)+128*(x/128%2)+256*(x/256%2)+131072*(x/131072%2)+262144*(x/262144%2)+524288*(x/524288%2)+(if x/2048%4=2 then 0 else 2048*(x/2048%4))
noncomputable def dr(l:List (Int×Int×Int))(k:Nat):Int×Int×Int:=match l with
 | []=>(0,0,0)
 |a::r=>(match k with
  | 0=>a
  |n+1=>dr r n)
noncomputable def aP7(args:List SV)(σ:St):Option (Out SV):=match args with
 | [m]=>aV1 m fun x=>some (.g (0≤x∧x<4294967296) (.p σ (.i (aAe x))))
 |_=>none
noncomputable def hkL(D:Nat→Int×Int×Int):Hook:=fun cf f args σ=>bif cf.hd.isNone&&Nat.ble 20 cf.lv then bif Nat.beq f 2213 then aUe D args σ else bif Nat.beq f 2225 then aP7 args σ else none else none
noncomputable def bOb(K:Frag)(D:List (Int×Int×Int)):Rec:=aYq (vwc 13 K) (hkL (dr D)) 300
noncomputable def bMa(st:SV)(cy re:Int)(pl:Nat):List (Str×SV):=[(bAt,st),(bIn,.z 0),(bIl,.z 0),(bIm,.z 0),(bIh,.z 0),(q77,.z 0),(bIo,.i cy),(bIj,.i re),(bIi,.k .none),(bAu,.z 0),(bIk,.a pl)]
noncomputable def bBg(a b c d:SV):List (Int×SV):=[(261,.z 0),(262,.z 7),(320,.z 0),(321,.z 0),(322,.z 0),(323,.z 0),(773,a),(774,.z 7),(832,.z 0),(833,b),(834,c),(835,d)]
noncomputable def bMb(rg pc md:SV):List (Str×SV):=[(aVb,.a 8),(aVa,.u),(bHv,.u),(bAc,.a 2),(bE2,rg),(bE1,pc),(aE9,md),(bHw,.a 11),(bEq,.a 12)]
noncomputable def aD3(rg pc md st:SV)(cy re:Int)(a b c d:SV)(bg:Int)(wd kn:SO)(g s n:Int)(rw:List SO):List SO :=
 .inst 1899 1::.ns (bMb rg pc md) 9::.inst 1506 3::.ns (bMa st cy re 4) 11::.di (bBg a b c d)::.inst 2088 6::.ns [(aEf,.z 32),(aJj,.i bg),(aMg,.i (bg+32)),(bHe,.a 7)] 4::wd ::
 .inst 2195 9::.ns [(aKu,.a 5),(bG6,.a 10)] 2::.seq false [] 0::kn::.di []::.cell (some (.a 0))::.seq false [.i g,.i s,.i n] 0::rw
noncomputable def mH(bg t:Int):List (Str×SV):=[(aGp,.a 14),(aJj,.i bg),(aKu,.a 5),(aH8,.i t)]
noncomputable def aCk(st cy re bg:Int)(wd kn:SO)(g s n:Int)(rw:List SO):List SO:=aD3 .u .u .u (.i st) cy re .u .u .u .u bg wd kn g s n rw
noncomputable def rows0:List SO:=aAk 16 0
noncomputable def aDs(st cy re vc bg:Int)(wd kn:SO)(g s n:Int)(rw:List SO):List SO:=aD3 .u .u .u (.i st) cy re (.i vc) .u .u .u bg wd kn g s n rw
noncomputable def aWj(pc md st cy re vc:Int)(b c d:SV)(bg:Int)(wd kn:SO)(g s n:Int)(rw:List SO):List SO:=aD3 .u (.i pc) (.i md) (.i st) cy re (.i vc) b c d bg wd kn g s n rw
noncomputable def mA(bg t place:Int)(w:SV)(d:SV):List (Str×SV):=[(aYt,d),(bOh,w),(aE8,.i place),(aGp,.a 14),(aJj,.i bg),(aKu,.a 5),(aH8,.i t)]
noncomputable def mB(bg t place:Int)(w:SV)(d:SV)(vec wan low mode:Int):List (Str×SV):=(bSj,.i wan)::(aYu,.i low)::(aE9,.i mode)::(bIt,.i vec)::mA bg t place w d
noncomputable def mC(bg t place vec low mode:Int)(told goes:SV)(cause value status:Int):List (Str×SV):=[(aSd,told),(bAt,.i status),(q65,.i cause),(q66,.i value),(bSi,goes),(aYu,.i low),(aE9,.i mode),(bIt,.i vec),(aE8,.i place),(aGp,.a 14),(aJj,.i bg),(aKu,.a 5),(aH8,.i t)]
noncomputable def aKq(K:Frag)(D:List (Int×Int×Int))(a b:Nat)(pf:St→List Nat)(pats:List SO)(nm:List (Str×SV))(σ:St):Out (List Nat):=bf ((bOb K D).bk cfL ((aBg.drop a).take b) σ) fun σ' x=>bBi x (bFy [13] (pf σ') pats nm σ')
noncomputable def dv0:SO:=.dv none 0 [] []
noncomputable def frN:Nat→Nat→List Nat
 | 0,_=>[]
 |n+1,i=>i::frN n (i+1)
noncomputable def bD7(y:Option SV):Nat:=match y with
 |some (.a i)=>i
 |_=>0
noncomputable def bXs(led:List SO)(i:Nat)(x:Str):Nat:=match gN led i with
 |some (.ns es _)=>bD7 (aD6 x es)
 |_=>0
noncomputable def bLm(led:List SO)(i:Nat):Nat:=match gN led i with
 |some (.inst _ d)=>d
 |_=>0
noncomputable def bSf(led:List SO)(i k:Nat):Nat:=match gN led i with
 |some (.seq _ vs _)=>bD7 (gN vs k)
 |_=>0
noncomputable def dvN(led:List SO)(i:Nat):Nat:=match gN led i with
 |some (.dv _ _ ps _)=>(match ps with
  |p::_=>bD7 (some p.2)
  | []=>0)
 |_=>0
noncomputable def nmN(m:List (Str×SV))(x:Str):Nat:=bD7 (aD6 x m)
noncomputable def pA(k:Nat)(j:Nat)(σ:St):List Nat:=frN 15 0++(frN j 15++[nmN σ.m aYt])
noncomputable def pA0(σ:St):List Nat:=frN 20 0++([21,22,23,25,26,27,28,29,30,31]++[20,nmN σ.m aYt])
noncomputable def pB(σ:St):List Nat:=frN 32 0
noncomputable def aR7(q:Nat)(r i d:Nat):Nat→List Nat
 | 0=>[]
 |k+1=>aR7 q r i d k++(bif Nat.beq k q then [r,i,d] else [15+3*k,16+3*k,17+3*k])
noncomputable def pC(new:Bool)(q:Nat)(σ:St):List Nat:=frN 12 0++bXs σ.led 1 bEq::13::14::(bif new then (let r:=dvN σ.led 11;let i:=bSf σ.led r 2;aR7 q r i (bLm σ.led i) 5++[30]) else frN 16 15)
noncomputable def pD(σ:St):List Nat:=frN 31 0
noncomputable def aAn:Nat→Int
 | 0=>1048691
 | 1=>115
 | 2=>1081491
 | 3=>4292866159
 | 4=>172163
 |_=>4294967295
noncomputable def aWw(nm:Str)(rd rs1 rs2 imm csr:Int):SO:=.ns [(aAf,.s nm),(aZc,.z rd),(bBa,.z rs1),(bA9,.z rs2),(bA8,.z imm),(bFt,.z csr)] 6
noncomputable def aUu(q i d:Nat):List SO:=[.seq true (match q with
 | 2=>[.z 0,.k (.ref 1083),.a i]
 | 4=>[.z 2,.k (.ref 1749),.a i]
 |_=>[.z 5,.k .none,.a i]) 0,.inst 140 d,match q with
 | 0=>aWw aLv 0 0 0 0 0
 | 1=>aWw aLw 0 0 0 0 0
 | 2=>aWw aJt 1 1 0 1 0
 | 3=>aWw aMu 0 0 0 (-4) 0
 |_=>aWw aJu 1 5 0 0 0]
noncomputable def aGv(q:Nat):Nat→List SO
 | 0=>[]
 |k+1=>aGv q k++(bif Nat.beq k q then aUu q (16+3*q) (17+3*q) else [.raw (3*k),.raw (3*k+1),.raw (3*k+2)])
noncomputable def aBj(q:Nat):List SO:=aGv q 5++[.raw 15]
noncomputable abbrev pcT(vc:Int):Int:=Builtin.bitAnd vc (Builtin.bitXor 4294967295 3)
noncomputable abbrev stT(st mode:Int):Int:=Builtin.bitOr (Builtin.bitOr (Builtin.bitAnd st (Builtin.bitXor 4294967295 (Builtin.bitOr (Builtin.bitOr 128 8) 6144))) (bif Builtin.bitAnd st 8 != 0 then 128 else 0)) (mode*aA4 11)
noncomputable abbrev x5V(bg:Int):Int:=bif bg != 64 then 64 else 2 ^ 31
noncomputable abbrev plc(bg d1 d2:Int):Int:=pick d2 [bg+4*d1,bg+28,bg+32,bg-4,bg+2,bg+5]%2 ^ 32
noncomputable def gs{α:Type}:List Prop→Out α→Out α
 | [],o=>o
 |P::r,o=>.g P (gs r o)
noncomputable abbrev sB{α:Type}(c:Bool)(o:Out α):Out α:=.s c o o
noncomputable def known0(nk:Nat):SO:=.dv (some 0) nk [] []
noncomputable def aN0(nk:Nat)(q:Nat):SO:=.dv (some 0) nk [] [(aAn q,none)]
noncomputable def bCb(nk:Nat)(q:Nat):SO:=.dv (some 0) nk [] [(aAn q,some (.a (15+3*q)))]
noncomputable def aGg(c v:Int):SO:=.seq true [.k .none,.z c,.i v] 0
noncomputable def bF3(g v:Int):SO:=.seq true [.i g,.z 0,.i v] 0
section
theorem aHp{M:Model}{A:Around}{env:Env}{Q:Flow→Shared→Prop}{E:Value→Shared→Prop}{l₂:List Stmt}{Γ:PySem.Ctx}(hΓ:Γ.In A):∀ (l₁:List Stmt) (p:Pos) (s:Shared),Sem.wp M Γ (execs l₁ env) (fun f _ s'=>match f with | .next=>wpAny M A (execs l₂ env) Q E s'|f=>Q f s') (fun e _ s'=>E e s') p s→Sem.wp M Γ (execs (l₁++l₂) env) (fun f _ s'=>Q f s') (fun e _ s'=>E e s') p s
 | [],p,s,h=>h Γ p hΓ
 |a::r,p,s,h=>by
  rw[List.cons_append,execs_cons,Sem.wp_bind']
  rw[execs_cons,Sem.wp_bind'] at h
  refine Sem.wp_mono M Γ _ (fun f p' s' h'=>?_) (fun _ _ _ h'=>h') _ _ h
  cases f with
  |next=>exact aHp hΓ r p' s' h'
  |_=>exact h'
theorem aKb{M:Model}{A:Around}{env:Env}{Q:Flow→Shared→Prop}{E:Value→Shared→Prop}{s:Shared}{l₁ l₂:List Stmt}(h:wpAny M A (execs l₁ env) (fun f s'=>match f with | .next=>wpAny M A (execs l₂ env) Q E s'|f=>Q f s') E s):wpAny M A (execs (l₁++l₂) env) Q E s :=
 fun Γ p hΓ=>aHp hΓ l₁ p s (h Γ p hΓ)
variable {V:Vw} {G:Gd V} {W:Wd} {σ:St}
theorem Sat.chg{m m':List (Str×SV)}{led led':List SO}{orc orc':List Nat}(S:Sat G W ⟨m,led,orc⟩)(β:Bet)(hO:All2 (DenO (G.wβ β).X W.ads) led' W.objs)(hm:MD W.ads m' W.m):Sat (G.wβ β) W ⟨m',led',orc'⟩ :=
 ⟨S.ok.wβ β,S.F,hm,S.N,hO,S.len,S.nd,S.hd,S.cl⟩
theorem All2.uncons{α β:Type}{R:α→β→Prop}{a:α}{l:List α}{m:List β}(h:All2 R (a::l) m):∃ b t,m=b::t∧R a b∧All2 R l t:=by
 cases h with|cons r t=>exact⟨_,_,rfl,r,t⟩
noncomputable def noB:SO→Bool
 | .inst _ _=>true
 | .ns _ _=>true
 | .seq _ _ _=>true
 | .di _=>true
 | .cell _=>true
 |_=>false
theorem DenO.noB{X:Ctx V}{β:Bet}{ads:List Addr}{so:SO}{o:Obj}(h:noB so=true)(d:DenO X ads so o):DenO { X with β:=β } ads so o:=by
 cases so<;>first|exact d|cases h
theorem All2.unapp{α β:Type}{R:α→β→Prop}{r:List α}:∀ {A:List α} {m:List β},All2 R (A++r) m→∃ a b,m=a++b∧All2 R A a∧All2 R r b
 | [],m,h=>⟨[],m,rfl,.nil,h⟩
 |x::A,m,h=>by
  obtain⟨b,t,rfl,r0,h⟩:=All2.uncons (show All2 R (x::(A++r)) m from h)
  obtain⟨c,d,rfl,e,f⟩:=All2.unapp h
  exact⟨b::c,d,rfl,.cons r0 e,f⟩
theorem All2.noB{X:Ctx V}{β:Bet}{ads:List Addr}{A:List SO}{l:List Obj}(h:All2 (DenO X ads) A l):A.all Mine.noB=true→All2 (DenO { X with β:=β } ads) A l:=by
 induction h with
 |nil=>intro _;exact .nil
 |cons d _ ih=>intro q;exact .cons (DenO.noB (aAc q).1 d) (ih (aAc q).2)
theorem aWi{X:Ctx V}{ads:List Addr}{A B C r:List SO}{x y:SO}{objs:List Obj}(hA:A.all Mine.noB=true)(hB:B.all Mine.noB=true)(hC:C.all Mine.noB=true)(h:All2 (DenO X ads) (A++x::(B++y::(C++r))) objs) :
  ∃ ox oy os,DenO X ads x ox∧DenO X ads y oy∧All2 (DenO X ads) r os∧(∀ i,gN objs (A.length+(B.length+(C.length+i+1)+1))=gN os i) ∧
   ∀ β x' y' r',DenO { X with β:=β } ads x' ox→DenO { X with β:=β } ads y' oy→All2 (DenO { X with β:=β } ads) r' os→All2 (DenO { X with β:=β } ads) (A++x'::(B++y'::(C++r'))) objs:=by
 obtain⟨oA,t,rfl,rA,h⟩:=All2.unapp h
 obtain⟨ox,t,rfl,rx,h⟩:=All2.uncons h
 obtain⟨oB,t,rfl,rB,h⟩:=All2.unapp h
 obtain⟨oy,t,rfl,ry,h⟩:=All2.uncons h
 obtain⟨oC,os,rfl,rC,h⟩:=All2.unapp h
 refine⟨ox,oy,os,rx,ry,h,fun i=>?_,fun β x' y' r' a b c=>(rA.noB hA).app (.cons a ((rB.noB hB).app (.cons b ((rC.noB hC).app c))))⟩
 rw[rA.len,rB.len,rC.len,aCn]
 show gN (oB++oy::(oC++os)) (oB.length+(oC.length+i+1))=_
 rw[aCn]
 show gN (oC++os) (oC.length+i)=_
 rw[aCn]
theorem aD2{X:Ctx V}{ads:List Addr}{rg pc md st a b c d:SV}{cy re bg g s n:Int}{wd kn:SO}{rw:List SO}{objs:List Obj}
  (h:All2 (DenO X ads) (aD3 rg pc md st cy re a b c d bg wd kn g s n rw) objs):∃ ow ok os,DenO X ads wd ow∧DenO X ads kn ok∧All2 (DenO X ads) rw os∧(∀ i,gN objs (15+i)=gN os i) ∧
   ∀ β wd' kn' rw',DenO { X with β:=β } ads wd' ow→DenO { X with β:=β } ads kn' ok→All2 (DenO { X with β:=β } ads) rw' os→All2 (DenO { X with β:=β } ads) (aD3 rg pc md st cy re a b c d bg wd' kn' g s n rw') objs:=by
 refine aFp (aWi (A:=(aD3 rg pc md st cy re a b c d bg wd kn g s n []).take 7) (B:=(aD3 rg pc md st cy re a b c d bg wd kn g s n []).drop 8 |>.take 3) (C:=(aD3 rg pc md st cy re a b c d bg wd kn g s n []).drop 12) rfl rfl rfl h) fun ow ok os h1 h2 h3 h4 h5=>?_
 refine⟨ow,ok,os,h1,h2,h3,fun i=>?_,h5⟩
 have:=h4 i
 rw[show 15+i=7+(3+(3+i+1)+1) by lia]
 exact this
theorem aIn{l:List Obj}{j:Nat}{o:Obj}(h:gN l j=some o):l.getD j aNp=o:=by rw[List.getD,← aCs,h];rfl
theorem aF1{X:Ctx V}{ads:List Addr}:∀ (os:List Obj) (k:Nat),(∀ j o,gN os j=some o→o=X.β.o (k+j))→All2 (DenO X ads) (aAk os.length k) os
 | [],_,_=>.nil
 |a::r,k,h=>.cons (h 0 a rfl) (aF1 r (k+1) fun j o e=>by rw[show k+1+j=k+(j+1) by lia];exact h (j+1) o e)
theorem Sat.close{rg pc md st a b c d:SV}{cy re bg g s n:Int}{nw nk:Nat}{pw' pk:List (Int×SV)}{fw fk:List (Int×Option SV)}{rw:List SO}{m:List (Str×SV)}{orc orc':List Nat}
  (S:Sat G W ⟨m,aD3 rg pc md st cy re a b c d bg (.dv none nw pw' fw) (.dv (some 0) nk pk fk) g s n rw,orc⟩) :
  ∃ β,Sat (G.wβ β) W ⟨m,aD3 rg pc md st cy re a b c d bg (.dv none (nw+pw'.length) [] []) (known0 (nk+pk.length)) g s n (aAk rw.length 0),orc'⟩∧PutR W.ads (G.X.β.d 0) pk (β.d 0)∧∀ j so,gN rw j=some so→DenO G.X W.ads so (β.o j):=by
 refine aFp (aD2 S.O) fun ow ok os z8_3 z8_4 h3 _ k=>?_
 refine aOw z8_3 fun z0 z w1 w2 w3 w4 w5=>?_
 refine aOw z8_4 fun l0 l q1 q2 q3 q4 q5=>?_
 cases q1 0 rfl
 refine⟨⟨fun _=>l,fun j=>os.getD j aNp⟩,S.chg ⟨fun _=>l,fun j=>os.getD j aNp⟩ (k _ _ _ _ ⟨z,z,(fun _ e=>nomatch e),aDz w3 w2,.nil,(fun _ e=>nomatch e),w5⟩ ⟨l,l,(fun _ e=>rfl),aDz q3 q2,.nil,(fun _ e=>nomatch e),q5⟩ ?_) S.M,q3,fun j so e=>?_⟩
 ·rw[h3.len]
  exact aF1 os 0 fun j o e=>by rw[Nat.zero_add];exact (aIn e).symm
 ·refine aAd (h3.get e) fun o e1 e2=>?_
  show DenO G.X W.ads so (os.getD j aNp)
  rw[aIn e1];exact e2
theorem Sat.near{rg pc md st a b c d:SV}{cy re bg g s n:Int}{nk:Nat}{fk:List (Int×Option SV)}{wd:SO}{rw rw':List SO}{m m':List (Str×SV)}{orc orc':List Nat}
  (S:Sat G W ⟨m,aD3 rg pc md st cy re a b c d bg wd (known0 nk) g s n rw,orc⟩) (hm:MD W.ads m' W.m) (hf:∀ f∈fk,FactR W.ads (G.X.β.d 0) f) (hl:rw'.length=rw.length) (hr:∀ j so so' o,gN rw j=some so→gN rw' j=some so'→DenO G.X W.ads so o→DenO G.X W.ads so' o) :
  Sat G W ⟨m',aD3 rg pc md st cy re a b c d bg wd (.dv (some 0) nk [] fk) g s n rw',orc'⟩:=by
 refine aFp (aD2 S.O) fun ow ok os h1 z10_4 h3 _ k=>?_
 refine aOw z10_4 fun l0 l q1 q2 q3 q4 q5=>?_
 cases q1 0 rfl
 cases q3
 refine S.chg (orc':=orc') G.X.β (k G.X.β _ _ _ h1 ⟨_,_,(fun i e=>by cases e;rfl),q2,.nil,hf,q5⟩ ?_) hm
 have key:∀ {rw rw':List SO} {os:List Obj},rw'.length=rw.length→(∀ j so so' o,gN rw j=some so→gN rw' j=some so'→DenO G.X W.ads so o→DenO G.X W.ads so' o)→All2 (DenO G.X W.ads) rw os→All2 (DenO G.X W.ads) rw' os:=fun {rw rw' os} hl hr h=>by
  induction h generalizing rw' with
  |nil=>cases List.length_eq_zero_iff.mp hl;exact .nil
  |cons d t ih=>cases rw' with
   |nil=>cases hl
   |cons x y=>exact .cons (hr 0 _ _ _ rfl rfl d) (ih (Nat.succ.inj hl) fun j so so' o e e'=>hr (j+1) so so' o e e')
 exact key hl hr h3
end
noncomputable def aAv(K:Frag):Prop:=∀ {ci:Nat} {G:Gd (vwc ci K)} {W:Wd} {σ:St} {args:List SV} {vs:List Value} {Q:Value→Shared→Prop} {o:Out SV},G.cf.hd=none→20≤G.cf.lv→Sat G W σ→Dens W.ads args vs→aP7 args σ=some o →
 Hd G W o (PC G W.m Q)→codeAny G.M G.A (.call (.ref 2225) ⟨vs,[]⟩) (aIz Q G.E) (G.st W)
theorem aTi{ci:Nat}{K:Frag}(H:aAv K)(D:Nat→Int×Int×Int):aPi (vwc ci K) (hkL D):=fun {G W σ f args vs Q o} S a ho h=>by
 unfold hkL at ho
 refine aBa (aAr ho) fun q ho=>?_
 have q1:=Option.isNone_iff_eq_none.mp (aAc q).1
 have q2:=Nat.le_of_ble_eq_true (aAc q).2
 cases e:Nat.beq f 2213 with
 |true=>rw[e] at ho;cases Nat.eq_of_beq_eq_true e;exact aP4 q1 (Nat.le_trans (by decide) q2) S a ho h
 |false =>
  rw[e] at ho
  refine aBa (aAr (show (bif Nat.beq f 2225 then aP7 args σ else none)=some o from ho)) fun e2 ho=>?_
  cases Nat.eq_of_beq_eq_true e2
  exact H q1 q2 S a ho h
theorem aUs{K:Frag}(H:aAv K)(D:List (Int×Int×Int)):Snd (vwc 13 K) (bOb K D):=aF0 (aTi H (dr D)) 300
section
variable {K:Frag} {G:Gd (vwc 13 K)} {W:Wd} {σ:St}
theorem aX1:∀ x i,(vwc 13 K).cells x=some i→i∈[13]:=fun x i h=>by
 cases (aAr (show (bif aB8 x aAu then some 13 else none)=some i from h)).2
 exact .head _
theorem aUn(H:aAv K)(hcf:G.cf=cfL){D:List (Int×Int×Int)}{a b:Nat}{pf:St→List Nat}{pats:List SO}{nm:List (Str×SV)}{Φ:St→List Nat→Prop}{Q:Flow→Shared→Prop}(S:Sat G W σ)(h:Hl (aKq K D a b pf pats nm σ) Φ)
  (q:∀ σ' p W',Φ σ' p→Pre W.ads W'.ads→Sat G (W'.re p) σ'→Q .next (G.st W')):G.wp (execs ((aBg.drop a).take b) G.env) Q (G.st W) :=
 stretch (p:=[]) (aUs H D) S (by rw[hcf];rfl) aX1 (by rw[hcf];exact h) q
end
noncomputable def gP{α:Type}{σ:St}{a:α}{Φ:St→α→Prop}(h:Φ σ a):Hl (.p σ a) Φ:=h
theorem aDw{V:Vw}{X:Ctx V}{β:Bet}{ads ads':List Addr}{q i1 d1 i:Nat}{so:SO}{o:Obj}(e:gN (aUu q i1 d1) i=some so)(hi:gN ads' i1=gN ads i1)(hd:gN ads' d1=gN ads d1)(h:DenO X ads so o):DenO { X with β:=β } ads' so o:=by
 have seqm:∀ {x y:SV},(∀ v,Den ads x v→Den ads' x v)→(∀ v,Den ads y v→Den ads' y v)→DenO X ads (.seq true [x,y,.a i1] 0) o→DenO { X with β:=β } ads' (.seq true [x,y,.a i1] 0) o:=fun {x y} hx hy ⟨l,al,e⟩=>by
  obtain⟨v1,t,rfl,r1,al⟩:=All2.uncons al
  obtain⟨v2,t,rfl,r2,al⟩:=All2.uncons al
  obtain⟨v3,t,rfl,⟨a,r3,r4⟩,al⟩:=All2.uncons al
  cases al
  exact⟨_,.cons (hx _ r1) (.cons (hy _ r2) (.cons ⟨a,hi.trans r3,r4⟩ .nil)),e⟩
 have insm:∀ {nm:Str} {a b c d f:Int},DenO X ads (aWw nm a b c d f) o→DenO { X with β:=β } ads' (aWw nm a b c d f) o:=fun {nm a b c d f} ⟨l,al,e⟩=>by
  obtain⟨v1,t,rfl,r1,al⟩:=All2.uncons al
  obtain⟨v2,t,rfl,r2,al⟩:=All2.uncons al
  obtain⟨v3,t,rfl,r3,al⟩:=All2.uncons al
  obtain⟨v4,t,rfl,r4,al⟩:=All2.uncons al
  obtain⟨v5,t,rfl,r5,al⟩:=All2.uncons al
  obtain⟨v6,t,rfl,r6,al⟩:=All2.uncons al
  cases al
  exact⟨_,.cons r1 (.cons r2 (.cons r3 (.cons r4 (.cons r5 (.cons r6 .nil))))),e⟩
 match i,e with
 | 0,e =>
  cases e
  match q,h with
  | 0,h=>exact seqm (fun _ h=>h) (fun _ h=>h) h
  | 1,h=>exact seqm (fun _ h=>h) (fun _ h=>h) h
  | 2,h=>exact seqm (fun _ h=>h) (fun _ h=>h) h
  | 3,h=>exact seqm (fun _ h=>h) (fun _ h=>h) h
  | 4,h=>exact seqm (fun _ h=>h) (fun _ h=>h) h
  |q+5,h=>exact seqm (fun _ h=>h) (fun _ h=>h) h
 | 1,e=>cases e;obtain⟨dx,h1,h2⟩:=h;exact⟨dx,hd.trans h1,h2⟩
 | 2,e =>
  cases e
  match q,h with
  | 0,h=>exact insm h
  | 1,h=>exact insm h
  | 2,h=>exact insm h
  | 3,h=>exact insm h
  | 4,h=>exact insm h
  |q+5,h=>exact insm h
 |_+3,e=>cases e
structure KI{V:Vw}(IT:Addr×Obj)(X:Ctx V)(ads:List Addr):Prop where
 bad:valueAt (X.β.d 0) (aAn 5)=none
 at_:∀ q<5,valueAt (X.β.d 0) (aAn q)=none∨∃ a,gN ads (15+3*q)=some a∧valueAt (X.β.d 0) (aAn q)=some (.ref a)∧∀ i so,gN (aUu q (16+3*q) (17+3*q)) i=some so→DenO X ads so (X.β.o (3*q+i))
 it:gN ads 30=some IT.1∧X.β.o 15=IT.2
theorem KI.keep{V:Vw}{IT:Addr×Obj}{X:Ctx V}{β:Bet}{ads ads':List Addr}(h:KI IT X ads)(ha:∀ i,15≤i→i<31→gN ads' i=gN ads i)(hd:β.d 0=X.β.d 0)(ho:∀ j<16,β.o j=X.β.o j):KI IT { X with β:=β } ads' where
 bad:=by rw[show ({ X with β:=β }:Ctx V).β.d 0=X.β.d 0 from hd];exact h.bad
 at_:=fun q hq=>by
  rw[show ({ X with β:=β }:Ctx V).β.d 0=X.β.d 0 from hd]
  refine (h.at_ q hq).imp id fun ⟨a,h1,h2,h3⟩=>⟨a,(ha _ (by lia) (by lia)).trans h1,h2,fun i so e=>?_⟩
  have hi:i<3:=by have:=aBl e;exact this
  rw[show ({ X with β:=β }:Ctx V).β.o (3*q+i)=X.β.o (3*q+i) from ho _ (by lia)]
  exact aDw e (ha _ (by lia) (by lia)) (ha _ (by lia) (by lia)) (h3 i so e)
 it:=⟨(ha 30 (by lia) (by lia)).trans h.it.1,(ho 15 (by lia)).trans h.it.2⟩
theorem aBb{g s n many:Int}(h:0<many):∃ d g' n',aCd g s n many d g' n'∧0≤d∧d<many∧n≤n'∧n'≤n+1:=by
 by_cases hg:0<g
 ·exact⟨_,_,_,.inl ⟨hg,rfl,rfl,rfl⟩,Int.emod_nonneg _ (Int.ne_of_gt h),Int.emod_lt_of_pos _ h,Int.le_refl _,by lia⟩
 ·exact⟨_,_,_,.inr ⟨hg,rfl,rfl,rfl⟩,Int.emod_nonneg _ (Int.ne_of_gt h),Int.emod_lt_of_pos _ h,by lia,Int.le_refl _⟩
noncomputable abbrev wd0(nw:Nat):SO:=.dv none nw [] []
noncomputable def aCv(k:Nat)(place:Int):SO:=match k with
 | 0=>aGg 3 place
 | 1=>aGg 8 0
 | 2=>bF3 ((place+4)%2 ^ 32) 0
 | 3=>bF3 ((place-4)%2 ^ 32) 0
 | 4=>aGg 5 64
 | 5=>aGg 2 4294967295
 | 6=>aGg 0 place
 |_=>aGg 1 place
noncomputable def wSV(k:Nat)(w:Int):SV:=match k with
 | 6=>.i w
 | 7=>.i w
 |k=>.z (aAn k)
noncomputable abbrev mZ(place:Int):Prop:=(place%4 != 0)=false
noncomputable abbrev mL(bg place:Int):Prop:=decide (bg≤place)=true
noncomputable abbrev mH'(bg place:Int):Prop:=decide (place<bg+32)=true
noncomputable abbrev aZm(wan:Int):Prop:=0≤wan∧wan<4294967296
noncomputable abbrev tvK(c v:Int):Prop:=True∧(0≤c∧c<100)∧True∧(0≤v∧v<4294967296)∧True
noncomputable abbrev mdK(mode:Int):Prop:=0≤mode∧mode≤i64
noncomputable abbrev bFw(mode:Int):Prop:=(Builtin.bitAnd (8+mode) 2147483648 != 0)=false
noncomputable abbrev A4(b:Bool)(bg:Int):Int:=Builtin.bitAnd (x5V bg+bif b then Builtin.bitAnd (aAn 4) 4294967295/aA4 20 else 0) 4294967295
noncomputable abbrev J4(b:Bool)(place:Int):Int:=Builtin.bitAnd (place+bif b then (Builtin.bitOr (Builtin.bitOr (Builtin.bitAnd (Builtin.bitAnd (aAn 3) 4294967295/aA4 12) 255*aA4 12) (Builtin.bitAnd (Builtin.bitAnd (aAn 3) 4294967295/aA4 20) 1*aA4 11)) (Builtin.bitAnd (Builtin.bitAnd (aAn 3) 4294967295/aA4 21) 1023*aA4 1)-1048576) else -4) 4294967295
noncomputable abbrev dk9(g s n d g' n' many:Int):Prop:=aCd g s n many d g' n'∧DrawOk s n many
noncomputable abbrev dH(g s n d0 g0 n0 d1 g1 n1 d2 g2 n2:Int)(x:Out (List Nat)):Out (List Nat):=gs [dk9 g s n d0 g0 n0 9,dk9 g0 s n0 d1 g1 n1 8,dk9 g1 s n1 d2 g2 n2 (bif decide (5<d0) then 6 else 2),0≤d2∧d2<6] x
noncomputable abbrev pSc(bg t st cy re g s n place:Int)(nw nk:Nat)(w:SV)(due:SO)(f:List Nat):Out (List Nat):=.p ⟨mA bg t place w (.a 31),aCk st cy re bg (wd0 nw) (known0 nk) g s n (rows0++[due]),[]⟩ (frN 31 0++f)
noncomputable abbrev bEa(K:Frag)(D:List (Int×Int×Int))(due:SO)(w:SV)(bg t st cy re g s n:Int)(nw nk:Nat)(orc:List Nat):Out (List Nat):=aKq K D 0 1 (pA 0 16) (aCk 0 0 0 0 dv0 dv0 0 0 0 (rows0++[due])) (mA 0 0 0 w (.a 31)) ⟨mH bg t,aCk st cy re bg (wd0 nw) (known0 nk) g s n rows0,orc⟩
noncomputable def gA(bg place mode:Int)(nw nk:Nat)(b c:Bool)(q:Nat)(x:Out (List Nat)):Out (List Nat) :=
 gs [mL bg place,mH' bg place,(place%4==0)=true,mZ place,decide (place<bg)=false,decide (bg+32<place+4)=false,nw+0≤1000,(Builtin.bitAnd place 3 != 0)=false,(mode==3)=c,mL bg place,decide (place+4≤bg+32)=true,mZ place,decide (place<bg)=false,decide (bg+32<place+4)=false,place/aA4 2=place/aA4 2,Builtin.bitAnd (aAn q) 4294967295=aAn q] (gs (bif b then [nk+0≤1000] else []) x)
noncomputable def gT(mode vc wan:Int)(c:Bool)(x:Out (List Nat)):Out (List Nat):=gs [(mode==3)=c,mdK mode] (sB (Builtin.bitAnd vc 1 != 0) (gs [aZm wan] x))
noncomputable def fC(b:Bool)(q s:Nat):List Nat:=frN 12 0++(bif b then s::frN (2+3*q) 13++([46,45,44]++frN (13-3*q) (18+3*q)) else (bif Nat.ble s 12 then s else s-4)::frN 18 13)
noncomputable def knB(b:Bool)(nk q:Nat):SO:=bif b then aN0 nk q else bCb nk q
noncomputable def rwB(b:Bool)(q:Nat):List SO:=bif b then rows0 else aBj q
noncomputable def pkB(b:Bool)(q:Nat):List (Int×SV):=bif b then [(aAn q,.a (15+3*q))] else []
noncomputable def nB(c:Bool):Nat:=bif c then 1 else 0
noncomputable abbrev sTr(bg t place vec wan low mode cz v D st cy re vc g s n:Int)(nw nk:Nat)(pw pk:List (Int×SV))(fw fk:List (Int×Option SV))(rw:List SO):St:=⟨mC bg t place vec low mode (.i cz) (.k .none) cz v (aAe wan),aD3 .u (.i (pcT vc)) (.i 3) (.i (stT st mode)) (cy+1) re (.i vc) (.i place) (.i cz) (.i D) bg (.dv none nw pw fw) (.dv (some 0) nk pk fk) g s n rw,[]⟩
noncomputable abbrev sGo(bg t place vec wan low mode v go pc st cy re vc g s n:Int)(nw nk:Nat)(pw pk:List (Int×SV))(fw fk:List (Int×Option SV))(rw:List SO):St:=⟨mC bg t place vec low mode (.k .none) (.i go) 0 v (aAe wan),aD3 .u (.i pc) (.i mode) (.i st) (cy+1) (re+1) (.i vc) .u .u .u bg (.dv none nw pw fw) (.dv (some 0) nk pk fk) g s n rw,[]⟩
noncomputable abbrev fwB(q:Nat)(place:Int):List (Int×Option SV):=[(place/aA4 2,some (.z (aAn q)))]
noncomputable abbrev fkB(q:Nat):List (Int×Option SV):=[(aAn q,some (.a (15+3*q)))]
noncomputable abbrev aYo(K:Frag)(a n:Nat)(pf:St→List Nat)(rw:List SO)(w:SV)(bg t place vec wan low mode st cy re vc g s n':Int)(nw:Nat)(kn:SO)(rows:List SO)(orc:List Nat):Out (List Nat):=aKq K [] a n pf (aWj 0 0 0 0 0 0 (.i 0) (.i 0) (.i 0) 0 dv0 dv0 0 0 0 rw) (mC 0 0 0 0 0 0 (.i 0) (.k .none) 0 0 0) ⟨mB bg t place w (.a 31) vec wan low mode,aDs st cy re vc bg (wd0 nw) kn g s n' rows,orc⟩
noncomputable abbrev bOa(K:Frag)(a n:Nat)(pf:St→List Nat)(rw:List SO)(w:SV)(bg t place vec wan low mode st cy re vc g s n':Int)(nw:Nat)(kn:SO)(rows:List SO)(orc:List Nat):Out (List Nat):=aKq K [] a n pf (aWj 0 0 0 0 0 0 .u .u .u 0 dv0 dv0 0 0 0 rw) (mC 0 0 0 0 0 0 (.k .none) (.i 0) 0 0 0) ⟨mB bg t place w (.a 31) vec wan low mode,aDs st cy re vc bg (wd0 nw) kn g s n' rows,orc⟩
noncomputable abbrev bN9(K:Frag)(w bg t place vec wan low mode st cy re vc g s n:Int)(nw nk:Nat)(orc:List Nat):Out (List Nat):=aKq K [] 7 1 pB (aDs 0 0 0 0 0 dv0 dv0 0 0 0 (aAk 17 0)) (mB 0 0 0 (.i 0) (.a 31) 0 0 0 0) ⟨mB bg t place (.i w) (.a 31) vec wan low mode,aDs st cy re vc bg (wd0 nw) (known0 nk) g s n (aAk 17 0),orc⟩
noncomputable def a15:List SO:=[.any,.any,.any,.any,.any,.any,.any,.any,.any,.any,.any,.any,.any,.any,.any,.raw 5]
theorem aKr(K:Frag)(bg st cy re g s n d0 g0 n0 d1 g1 n1:Int)(nw nk:Nat):aKq K [(d0,g0,n0),(d1,g1,n1)] 0 1 pA0 (aCk 0 0 0 0 dv0 dv0 0 0 0 (a15++[(aGg 3 0)])) (mA 0 0 0 (.z (aAn 0)) (.a 31)) ⟨(mH bg 0),(aCk st cy re bg (.dv none nw [] []) (known0 nk) g s n (aAk 6 0)),[1,0,1,0,0,1,1]⟩ =
  gs [((0:Int)==0)=true,aCd g s n 8 d0 g0 n0∧DrawOk s n 8,aCd g0 s n0 2 d1 g1 n1∧DrawOk s n0 2,0≤d1∧d1<6,(plc bg d0 d1%4 != 0)=false,decide (bg≤plc bg d0 d1)=true,decide (plc bg d0 d1<bg+32)=true] (.p ⟨mA (bg) (0) (plc bg d0 d1) (.z (1048691)) (.a 31),(aCk st cy re bg (wd0 nw) (known0 nk) (g1) (s) (n1) (a15++[aGg 3 (plc bg d0 d1)])),[]⟩ (frN 20 0++[21,22,23,25,26,27,28,29,30,31,20,24])):=aAa (by k_slotget)
section
variable (K:Frag) (bg t st cy re g s n d0 g0 n0 d1 g1 n1 d2 g2 n2 d3 g3 n3:Int) (nw nk:Nat)
theorem aUp(k:Nat)(hk:k<6):bEa K [(d0,g0,n0),(d1,g1,n1),(d2,g2,n2)] (aCv k 0) (wSV k 0) bg t st cy re g s n nw nk [0,0,1,2,0,1,k+1,0,1,1] =
  .g ((t==0)=false) (dH g s n d0 g0 n0 d1 g1 n1 d2 g2 n2 (gs [decide (d0<6)=true,d0=(k:Int),mZ (plc bg d1 d2),mL bg (plc bg d1 d2),mH' bg (plc bg d1 d2)] (pSc bg t st cy re g2 s n2 (plc bg d1 d2) nw nk (wSV k 0) (aCv k (plc bg d1 d2)) [34+k+nB (Nat.ble 3 k)]))):=by
 match k,hk with
 | 0,_ | 1,_ | 2,_ | 3,_ | 4,_ | 5,_=>exact aAa (by k_slotget)
theorem aUq(k:Nat)(hk:k<6):bEa K [(d0,g0,n0),(d1,g1,n1),(d2,g2,n2),(d3,g3,n3)] (aCv k 0) (wSV k 0) bg t st cy re g s n nw nk [0,0,1,2,0,0,3,k+1,0,1,1] =
  .g ((t==0)=false) (dH g s n d0 g0 n0 d1 g1 n1 d2 g2 n2 (gs [decide (d0<6)=false,dk9 g2 s n2 d3 g3 n3 6,d3=(k:Int),mZ (plc bg d1 d2),mL bg (plc bg d1 d2),mH' bg (plc bg d1 d2)] (pSc bg t st cy re g3 s n3 (plc bg d1 d2) nw nk (wSV k 0) (aCv k (plc bg d1 d2)) [34+k+nB (Nat.ble 3 k)]))):=by
 match k,hk with
 | 0,_ | 1,_ | 2,_ | 3,_ | 4,_ | 5,_=>exact aAa (by k_slotget)
theorem aQd:bEa K [(d0,g0,n0),(d1,g1,n1),(d2,g2,n2),(d3,g3,n3)] (aGg 0 0) (.i 0) bg t st cy re g s n nw nk [0,0,1,2,0,0,3,0,1] =
  .g ((t==0)=false) (dH g s n d0 g0 n0 d1 g1 n1 d2 g2 n2 (gs [decide (d0<6)=false,dk9 g2 s n2 d3 g3 n3 6,0≤d3∧d3<6,(plc bg d1 d2%4 != 0)=true] (pSc bg t st cy re g3 s n3 (plc bg d1 d2) nw nk (.i (pick d3 [1048691,115,1081491,4292866159,172163,4294967295])) (aGg 0 (plc bg d1 d2)) [33]))):=aAa (by k_slotget)
theorem aQc:bEa K [(d0,g0,n0),(d1,g1,n1),(d2,g2,n2),(d3,g3,n3)] (aGg 1 0) (.i 0) bg t st cy re g s n nw nk [0,0,1,2,0,0,3,0,0,2,0] =
  .g ((t==0)=false) (dH g s n d0 g0 n0 d1 g1 n1 d2 g2 n2 (gs [decide (d0<6)=false,dk9 g2 s n2 d3 g3 n3 6,0≤d3∧d3<6,mZ (plc bg d1 d2)] (.s (decide (bg≤plc bg d1 d2)) (gs [decide (plc bg d1 d2<bg+32)=false] (pSc bg t st cy re g3 s n3 (plc bg d1 d2) nw nk (.i (pick d3 [1048691,115,1081491,4292866159,172163,4294967295])) (aGg 1 (plc bg d1 d2)) [33])) (pSc bg t st cy re g3 s n3 (plc bg d1 d2) nw nk (.i (pick d3 [1048691,115,1081491,4292866159,172163,4294967295])) (aGg 1 (plc bg d1 d2)) [33])))):=aAa (by k_slotget)
end
theorem bGz(K:Frag)(bg t st cy re g s n w place d0 g0 n0 d1 g1 n1 d2 g2 n2 d3 g3 n3 d4 g4 n4 d5 g5 n5:Int)(nw nk:Nat):aKq K [(d0,g0,n0),(d1,g1,n1),(d2,g2,n2),(d3,g3,n3),(d4,g4,n4),(d5,g5,n5)] 1 4 pB (aCk 0 0 0 0 dv0 dv0 0 0 0 (aAk 17 0)) (mB 0 0 0 (.i 0) (.a 31) 0 0 0 0) ⟨(mA bg t place (.i w) (.a 31)),(aCk st cy re bg (wd0 nw) (known0 nk) g s n (aAk 17 0)),[0,1,0,2,3,4,5,0]⟩ =
  gs [aCd g s n (2 ^ 30) d0 g0 n0∧DrawOk s n (2 ^ 30),aCd g0 s n0 3 d1 g1 n1∧DrawOk s n0 3,0≤d1∧d1<3,aCd g1 s n1 4 d2 g2 n2∧DrawOk s n1 4,aCd g2 s n2 (2 ^ 32) d3 g3 n3∧DrawOk s n2 (2 ^ 32),aCd g3 s n3 2 d4 g4 n4∧DrawOk s n3 2,aCd g4 s n4 3 d5 g5 n5∧DrawOk s n4 3,0≤d5∧d5<3] (.p ⟨mB bg t place (.i w) (.a 31) (pick d1 [4096,4294967040,4*d0]+d2) (d3-2 ^ 17*(d3/2 ^ 17%2)) (2 ^ 32-1-d4) (pick d5 [3,0,1]),(aD3 (.u) (.u) (.u) (.i st) cy re (.u) (.u) (.u) (.u) bg (wd0 nw) (known0 nk) g5 s n5 (rows0++[.raw 16])),[]⟩ (frN 32 0)):=aAa (by k_slotget)
theorem bGy(K:Frag)(bg t st cy re g s n w place vec wan low mode:Int)(nw nk:Nat):aKq K [] 5 1 pB (aDs 0 0 0 0 0 dv0 dv0 0 0 0 (aAk 17 0)) (mB 0 0 0 (.i 0) (.a 31) 0 0 0 0) ⟨(mB bg t place (.i w) (.a 31) vec wan low mode),(aCk st cy re bg (wd0 nw) (known0 nk) g s n (aAk 17 0)),[2]⟩ =
  .s (Builtin.bitAnd (Builtin.bitAnd (Builtin.bitAnd wan 4294967295) 924074) 6144==2*aA4 11) (gs [0≤cy/aA4 32∧cy/aA4 32≤i64,0≤re/aA4 32∧re/aA4 32≤i64] (.p ⟨mB bg t place (.i w) (.a 31) vec wan low mode,(aD3 (.u) (.u) (.u) (.i (Builtin.bitOr (Builtin.bitAnd (Builtin.bitAnd (Builtin.bitAnd wan 4294967295) 924074) (Builtin.bitXor 4294967295 6144)) (Builtin.bitAnd (Builtin.bitAnd (Builtin.bitAnd 0 4294967295) 924074) 6144))) (Builtin.bitOr (Builtin.bitAnd 6 4294967295*aA4 32) (Builtin.bitAnd (Builtin.bitOr (cy/aA4 32*aA4 32) (Builtin.bitAnd low 4294967295)) 4294967295)) (Builtin.bitOr (Builtin.bitAnd 9 4294967295*aA4 32) (Builtin.bitAnd (Builtin.bitOr (re/aA4 32*aA4 32) (Builtin.bitAnd low 4294967295)) 4294967295)) (.i (Builtin.bitAnd (Builtin.bitAnd vec 4294967295) (Builtin.bitXor 4294967295 2))) (.u) (.u) (.u) bg (wd0 nw) (known0 nk) g s n (rows0++[.raw 16])),[]⟩ (frN 32 0))) (gs [0≤cy/aA4 32∧cy/aA4 32≤i64,0≤re/aA4 32∧re/aA4 32≤i64] (.p ⟨mB bg t place (.i w) (.a 31) vec wan low mode,(aD3 (.u) (.u) (.u) (.i (Builtin.bitAnd (Builtin.bitAnd wan 4294967295) 924074)) (Builtin.bitOr (Builtin.bitAnd 6 4294967295*aA4 32) (Builtin.bitAnd (Builtin.bitOr (cy/aA4 32*aA4 32) (Builtin.bitAnd low 4294967295)) 4294967295)) (Builtin.bitOr (Builtin.bitAnd 9 4294967295*aA4 32) (Builtin.bitAnd (Builtin.bitOr (re/aA4 32*aA4 32) (Builtin.bitAnd low 4294967295)) 4294967295)) (.i (Builtin.bitAnd (Builtin.bitAnd vec 4294967295) (Builtin.bitXor 4294967295 2))) (.u) (.u) (.u) bg (wd0 nw) (known0 nk) g s n (rows0++[.raw 16])),[]⟩ (frN 32 0))):=aAa (by k_slotget)
theorem bGx(K:Frag)(bg t st cy re vc g s n w place vec wan low mode:Int)(nw nk:Nat):aKq K [] 6 1 pB (aDs 0 0 0 0 0 dv0 dv0 0 0 0 (aAk 17 0)) (mB 0 0 0 (.i 0) (.a 31) 0 0 0 0) ⟨(mB bg t place (.i w) (.a 31) vec wan low mode),(aDs st cy re vc bg (wd0 nw) (known0 nk) g s n (aAk 17 0)),[0,0,1,5,1,5,1,5,1,5,1,5,1,5,1,5,1,5,0]⟩ =
  gs [decide (bg<bg)=false,decide (bg+32<bg+32)=false,decide (bg<bg+32)=true,aHb (4-Builtin.bitAnd bg 3) (bg+32-bg)=4,nw+0≤1000,decide (bg+4<bg+32)=true,aHb (4-Builtin.bitAnd (bg+4) 3) (bg+32-(bg+4))=4,nw+0+0≤1000,decide (bg+4+4<bg+32)=true,aHb (4-Builtin.bitAnd (bg+4+4) 3) (bg+32-(bg+4+4))=4,nw+0+0+0≤1000,decide (bg+4+4+4<bg+32)=true,aHb (4-Builtin.bitAnd (bg+4+4+4) 3) (bg+32-(bg+4+4+4))=4,nw+0+0+0+0≤1000,decide (bg+4+4+4+4<bg+32)=true,aHb (4-Builtin.bitAnd (bg+4+4+4+4) 3) (bg+32-(bg+4+4+4+4))=4,nw+0+0+0+0+0≤1000,decide (bg+4+4+4+4+4<bg+32)=true,aHb (4-Builtin.bitAnd (bg+4+4+4+4+4) 3) (bg+32-(bg+4+4+4+4+4))=4,nw+0+0+0+0+0+0≤1000,decide (bg+4+4+4+4+4+4<bg+32)=true,aHb (4-Builtin.bitAnd (bg+4+4+4+4+4+4) 3) (bg+32-(bg+4+4+4+4+4+4))=4,nw+0+0+0+0+0+0+0≤1000,decide (bg+4+4+4+4+4+4+4<bg+32)=true,aHb (4-Builtin.bitAnd (bg+4+4+4+4+4+4+4) 3) (bg+32-(bg+4+4+4+4+4+4+4))=4,nw+0+0+0+0+0+0+0+0≤1000,decide (bg+4+4+4+4+4+4+4+4<bg+32)=false] (.p ⟨mB bg t place (.i w) (.a 31) vec wan low mode,(aD3 (.u) (.u) (.u) (.i st) cy re (.i vc) (.u) (.u) (.u) bg (.dv none (nw+0+0+0+0+0+0+0+0) [] []) (known0 nk) g s n (rows0++[.raw 16])),[]⟩ (frN 32 0)):=aAa (by k_slotget)
theorem bLo{α:Type}{o t:Out α}{Φ:St→α→Prop}(e:o=t)(h:Hl t Φ):Hl o Φ:=e▸h
theorem gG{α:Type}{P:Prop}{o:Out α}{Φ:St→α→Prop}(h:P)(k:Hl o Φ):Hl (.g P o) Φ:=⟨h,k⟩
theorem gS{α:Type}{c:Bool}{a b:Out α}{Φ:St→α→Prop}(h:c=true→Hl a Φ)(k:c=false→Hl b Φ):Hl (.s c a b) Φ:=⟨h,k⟩
noncomputable abbrev aR4{V:Vw}(G:Gd V)(W:Wd)(Q:Flow→Shared→Prop)(σ':St)(p:List Nat):Prop:=∀ W',Pre W.ads W'.ads→Sat G (W'.re p) σ'→Q .next (G.st W')
section
variable {K:Frag} {G:Gd (vwc 13 K)} {W:Wd} {σ:St} {Q:Flow→Shared→Prop} {IT:Addr×Obj}
structure Run(G:Gd (vwc 13 K))(n:Nat)(Q:Flow→Shared→Prop)(s:Shared):Prop where
 h:G.wp (execs (aBg.drop n) G.env) Q s
structure RunS(G:Gd (vwc 13 K))(a b:Nat)(Q:Flow→Shared→Prop)(s:Shared):Prop where
 h:G.wp (execs ((aBg.drop a).take b) G.env) Q s
theorem RunS.tail{a b:Nat}{s:Shared}(e:(aBg.drop a).take b=aBg.drop a)(h:RunS G a b Q s):Run G a Q s:=⟨e▸h.h⟩
noncomputable def aP2(G:Gd (vwc 13 K))(n:Nat)(Q:Flow→Shared→Prop)(f:Flow)(s:Shared):Prop:=match f with
 | .next=>Run G n Q s
 |f=>Q f s
theorem aAo{a b c:Nat}{s:Shared}(hc:c=a+b)(h:RunS G a b (aP2 G c Q) s):Run G a Q s:=by
 subst hc
 refine⟨?_⟩
 rw[← List.take_append_drop b (aBg.drop a),List.drop_drop]
 refine aKb (wpAny_mono h.h (fun f s' k=>?_) fun _ _ k=>k)
 cases f with
 |next=>exact k.h
 |_=>exact k
theorem seg_end(H:aAv K)(hcf:G.cf=cfL){D:List (Int×Int×Int)}{a b:Nat}{pf:St→List Nat}{pats:List SO}{nm:List (Str×SV)}{t:Out (List Nat)}(S:Sat G W σ)(e:aKq K D a b pf pats nm σ=t)(h:Hl t (aR4 G W Q)):RunS G a b Q (G.st W) :=
 ⟨aUn H hcf S (bLo e h) fun _ _ _ k p s=>k _ p s⟩
theorem aOb:∀ {n k i:Nat} {l:List Nat},i<n→gN (frN n k++l) i=some (k+i)
 | 0,_,_,_,h=>absurd h (Nat.not_lt_zero _)
 |n+1,k,0,_,_=>rfl
 |n+1,k,i+1,l,h=>by
  show gN (frN n (k+1)++l) i=_
  rw[aOb (Nat.lt_of_succ_lt_succ h),show k+1+i=k+(i+1) by lia]
theorem agree{p:List Nat}{ads ads':List Addr}{i:Nat}(hp:gN p i=some i)(pre:Pre ads ads')(hi:i<ads.length):gN (aAp p ads') i=gN ads i:=by
 refine aA6 (aAl hi) fun a ha=>?_
 rw[ha];exact aCa hp (pre.get ha)
theorem aDa{n:Nat}{l:List Nat}{ads ads':List Addr}(pre:Pre ads ads')(hn:n≤ads.length):∀ i,i<n→gN (aAp (frN n 0++l) ads') i=gN ads i:=fun i hi =>
 agree (by rw[aOb hi,Nat.zero_add]) pre (Nat.lt_of_lt_of_le hi hn)
theorem Sat.alen(S:Sat G W σ):W.ads.length=σ.led.length:=by rw[S.O.len,S.len]
noncomputable def aHh(bg:Int):Prop:=64≤bg∧bg≤4294967264∧bg%4=0
noncomputable def aCq(k:Nat)(bg place:Int):Prop:=0≤place∧place<4294967296∧match k with
 | 6=>place%4≠0
 | 7=>place%4=0∧¬ (bg≤place∧place<bg+32)
 |_=>bg≤place∧place<bg+32∧place%4=0
structure Scene(IT:Addr×Obj)(G:Gd (vwc 13 K))(W:Wd)(bg t st cy re:Int)(nw nk:Nat)(g s n:Int)(k:Nat)(place w:Int):Prop where
 S:Sat G W ⟨mA bg t place (wSV k w) (.a 31),aCk st cy re bg (.dv none nw [] []) (known0 nk) g s n (aAk 17 0),[]⟩
 ki:KI IT G.X W.ads
 due:DenO G.X W.ads (aCv k place) (G.X.β.o 16)
 pl:aCq k bg place
theorem aC0{ads:List Addr}{l0 l:List (Int×Value)}(h:PutR ads l0 [] l):l=l0:=by cases h;rfl
theorem aDj{l:List SO}:∀ {n k i:Nat},i<n→gN (aAk n k++l) i=some (.raw (k+i))
 | 0,_,_,h=>absurd h (Nat.not_lt_zero _)
 |n+1,k,0,_=>rfl
 |n+1,k,i+1,h=>by
  show gN (aAk n (k+1)++l) i=_
  rw[aDj (Nat.lt_of_succ_lt_succ h),show k+1+i=k+(i+1) by lia]
theorem aD4{V:Vw}{X:Ctx V}{β:Bet}{ads ads':List Addr}{k:Nat}{place:Int}{o:Obj}(h:DenO X ads (aCv k place) o):DenO { X with β:=β } ads' (aCv k place) o:=by
 have key:∀ {x:SV} {c v:Int},(∀ v,Den ads x v→Den ads' x v)→DenO X ads (.seq true [x,.z c,.i v] 0) o→DenO { X with β:=β } ads' (.seq true [x,.z c,.i v] 0) o:=fun {x c v} hx ⟨l,al,e⟩=>by
  obtain⟨v1,t,rfl,r1,al⟩:=All2.uncons al
  obtain⟨v2,t,rfl,r2,al⟩:=All2.uncons al
  obtain⟨v3,t,rfl,r3,al⟩:=All2.uncons al
  cases al
  exact⟨_,.cons (hx _ r1) (.cons r2 (.cons r3 .nil)),e⟩
 match k,h with
 | 0,h=>exact key (fun _ h=>h) h
 | 1,h=>exact key (fun _ h=>h) h
 | 2,h=>exact key (fun _ h=>h) h
 | 3,h=>exact key (fun _ h=>h) h
 | 4,h=>exact key (fun _ h=>h) h
 | 5,h=>exact key (fun _ h=>h) h
 | 6,h=>exact key (fun _ h=>h) h
 |k+7,h=>exact key (fun _ h=>h) h
theorem Scene.of{bg t st cy re s g' n':Int}{nw nk k:Nat}{place w:Int}{W W':Wd}{p l:List Nat}(hp:p=frN 31 0++l)(h30:31≤W.ads.length)(ki:KI IT G.X W.ads)(pre:Pre W.ads W'.ads)(S:Sat G (W'.re p) ⟨mA bg t place (wSV k w) (.a 31),aCk st cy re bg (.dv none nw [] []) (known0 nk) g' s n' (rows0++[aCv k place]),[]⟩)(pl:aCq k bg place) :
  ∃ β,Scene IT (G.wβ β) (W'.re p) bg t st cy re nw nk g' s n' k place w:=by
 subst hp
 refine aDp (S.close (orc':=[])) fun β S1 P R=>?_
 exact⟨β,S1,ki.keep (fun i _ h=>aDa pre h30 i h) (aC0 P) fun j hj=>by
  have:=R j _ (aDj hj)
  rw[Nat.zero_add] at this
  exact this,aD4 (R 16 _ rfl),pl⟩
end
theorem aS4{bg d1 d2:Int}(h:aHh bg)(a:0≤d1)(b:d1<8)(c:0≤d2)(d:d2<2):aCq 0 bg (plc bg d1 d2):=by
 refine aIv h fun h1 h2 h3=>?_
 have:d2=0∨d2=1:=by lia
 rcases this with rfl|rfl
 ·show 0≤(bg+4*d1)%4294967296∧(bg+4*d1)%4294967296<4294967296∧bg≤(bg+4*d1)%4294967296∧(bg+4*d1)%4294967296<bg+32∧(bg+4*d1)%4294967296%4=0
  lia
 ·show 0≤(bg+28)%4294967296∧(bg+28)%4294967296<4294967296∧bg≤(bg+28)%4294967296∧(bg+28)%4294967296<bg+32∧(bg+28)%4294967296%4=0
  lia
theorem aMx{bg d1 d2:Int}:0≤plc bg d1 d2∧plc bg d1 d2<4294967296:=⟨Int.emod_nonneg _ (by decide),Int.emod_lt_of_pos _ (by decide)⟩
theorem aBn{a:Int}(h:a=0):(a != 0)=false:=by rw[h];rfl
theorem aGk{a b:Int}(h:a≠b):(a != b)=true:=by rw[bne,beq_eq_false_iff_ne.mpr h];rfl
structure BoxOk(s n:Int):Prop where
 s0:0≤s
 s1:s<2147483629
 n0:0≤n
 n1:n<90000
theorem BoxOk.dk{s n n' many:Int}(h:BoxOk s n)(a:n≤n')(b:n'≤n+1000)(c:0<many)(d:many≤4294967296):DrawOk s n' many:=⟨c,d,h.s0,h.s1,by have:=h.n0;lia,by have:=h.n1;lia⟩
section
variable {K:Frag} {G:Gd (vwc 13 K)} {W:Wd} {Q:Flow→Shared→Prop} {IT:Addr×Obj}
theorem plk{bg p:Int}{k:Nat}(hk:k<6)(h:aCq 0 bg p):aCq k bg p:=by
 match k,hk with
 | 0,_ | 1,_ | 2,_ | 3,_ | 4,_ | 5,_=>exact h
theorem cA7(H:aAv K)(hcf:G.cf=cfL){bg t st cy re g s n:Int}{nw nk:Nat}{orc:List Nat}(S0:Sat G W ⟨mH bg t,aCk st cy re bg (.dv none nw [] []) (known0 nk) g s n rows0,orc⟩)(ki:KI IT G.X W.ads)(ht:t≠0)(hb:aHh bg)(bx:BoxOk s n)
  (cont:∀ β W' k place w g' n',k<8→n≤n'→n'≤n+4→Scene IT (G.wβ β) W' bg t st cy re nw nk g' s n' k place w→Q .next (G.st W')):RunS G 0 1 Q (G.st W):=by
 have h30:31≤W.ads.length:=Nat.le_of_eq S0.alen.symm
 have S:∀ orc',Sat G W ⟨mH bg t,aCk st cy re bg (.dv none nw [] []) (known0 nk) g s n rows0,orc'⟩:=fun orc'=>⟨S0.ok,S0.F,S0.M,S0.N,S0.O,S0.len,S0.nd,S0.hd,S0.cl⟩
 refine aFp (aBb (g:=g) (s:=s) (n:=n) (many:=9) (by decide)) fun d0 g0 n0 t0 a0 b0 e0 f0=>?_
 refine aFp (aBb (g:=g0) (s:=s) (n:=n0) (many:=8) (by decide)) fun d1 g1 n1 t1 a1 b1 e1 f1=>?_
 have dk0:=bx.dk (Int.le_refl n) (by lia) (many:=9) (by decide) (by decide)
 have dk1:=bx.dk e0 (by lia) (many:=8) (by decide) (by decide)
 have hm:0<(bif decide (5<d0) then (6:Int) else 2)∧(bif decide (5<d0) then (6:Int) else 2)≤6∧(d0<6→(bif decide (5<d0) then (6:Int) else 2)=2):=by
  by_cases h:5<d0
  ·rw[decide_eq_true h];exact⟨by decide,by decide,fun q=>by lia⟩
  ·rw[decide_eq_false h];exact⟨by decide,by decide,fun _=>rfl⟩
 refine aFp (aBb (g:=g1) (s:=s) (n:=n1) hm.1) fun d2 g2 n2 t2 a2 b2 e2 f2=>?_
 have dk2:=bx.dk (n':=n1) (by lia) (by lia) hm.1 (by lia)
 have hd:∀ {x:Out (List Nat)},Hl x (aR4 G W Q)→Hl (.g ((t==0)=false) (dH g s n d0 g0 n0 d1 g1 n1 d2 g2 n2 x)) (aR4 G W Q):=fun h=>gG (beq_eq_false_iff_ne.mpr ht) (gG ⟨t0,dk0⟩ (gG ⟨t1,dk1⟩ (gG ⟨t2,dk2⟩ (gG ⟨a2,Int.lt_of_lt_of_le b2 hm.2.1⟩ h))))
 have fin:∀ {k:Nat} {w g' n':Int} {l:List Nat} {W':Wd},k<8→n≤n'→n'≤n+4→aCq k bg (plc bg d1 d2)→Pre W.ads W'.ads→Sat G (W'.re (frN 31 0++l)) ⟨mA bg t (plc bg d1 d2) (wSV k w) (.a 31),aCk st cy re bg (wd0 nw) (known0 nk) g' s n' (rows0++[aCv k (plc bg d1 d2)]),[]⟩→Q .next (G.st W') :=
  fun hk e f pl pre S'=>(Scene.of rfl h30 ki pre S' pl).elim fun β sc=>cont β (Wd.re _ _) _ _ _ _ _ hk e f sc
 have kk:∀ {d:Int},0≤d→d<6→d.toNat<6:=fun a b=>by lia
 have o2:n≤n2∧n2≤n+3:=by lia
 by_cases h6:d0<6
 ·have pl:=aS4 hb a1 b1 a2 (by rw[← hm.2.2 h6];exact b2)
  have hk:=kk a0 h6
  exact seg_end H hcf (S _) (aUp K bg t st cy re g s n d0 g0 n0 d1 g1 n1 d2 g2 n2 nw nk _ hk) (hd (gG (decide_eq_true h6) (gG (Int.toNat_of_nonneg a0).symm (gG (aBn pl.2.2.2.2) (gG (decide_eq_true pl.2.2.1) (gG (decide_eq_true pl.2.2.2.1) (gP fun W' pre S'=>fin (Nat.lt_of_lt_of_le hk (by decide)) o2.1 (by lia) (plk hk pl) pre S')))))))
 ·refine aFp (aBb (g:=g2) (s:=s) (n:=n2) (many:=6) (by decide)) fun d3 g3 n3 t3 a3 b3 e3 f3=>?_
  have dk3:=bx.dk (n':=n2) o2.1 (by lia) (many:=6) (by decide) (by decide)
  have o3:n≤n3∧n3≤n+4:=by lia
  refine aBa (aMx (bg:=bg) (d1:=d1) (d2:=d2)) fun r0 r1=>?_
  have hh:∀ {x:Out (List Nat)},Hl x (aR4 G W Q)→Hl (.g ((t==0)=false) (dH g s n d0 g0 n0 d1 g1 n1 d2 g2 n2 (.g (decide (d0<6)=false) (.g (dk9 g2 s n2 d3 g3 n3 6) x)))) (aR4 G W Q):=fun h=>hd (gG (decide_eq_false h6) (gG ⟨t3,dk3⟩ h))
  by_cases hp:plc bg d1 d2%4=0
  ·by_cases hin:bg≤plc bg d1 d2∧plc bg d1 d2<bg+32
   ·have hk:=kk a3 b3
    exact seg_end H hcf (S _) (aUq K bg t st cy re g s n d0 g0 n0 d1 g1 n1 d2 g2 n2 d3 g3 n3 nw nk _ hk) (hh (gG (Int.toNat_of_nonneg a3).symm (gG (aBn hp) (gG (decide_eq_true hin.1) (gG (decide_eq_true hin.2) (gP fun W' pre S'=>fin (Nat.lt_of_lt_of_le hk (by decide)) o3.1 o3.2 (plk hk ⟨r0,r1,hin.1,hin.2,hp⟩) pre S'))))))
   ·have go:aR4 G W Q ⟨mA bg t (plc bg d1 d2) (.i (pick d3 [1048691,115,1081491,4292866159,172163,4294967295])) (.a 31),aCk st cy re bg (wd0 nw) (known0 nk) g3 s n3 (rows0++[aCv 7 (plc bg d1 d2)]),[]⟩ (frN 31 0++[33]):=fun W' pre S'=>fin (k:=7) (by decide) o3.1 o3.2 ⟨r0,r1,hp,hin⟩ pre S'
    exact seg_end H hcf (S _) (aQc K bg t st cy re g s n d0 g0 n0 d1 g1 n1 d2 g2 n2 d3 g3 n3 nw nk) (hh (gG ⟨a3,b3⟩ (gG (aBn hp) (gS (fun c=>gG (decide_eq_false fun q=>hin ⟨of_decide_eq_true c,q⟩) (gP go)) (fun _=>gP go)))))
  ·exact seg_end H hcf (S _) (aQd K bg t st cy re g s n d0 g0 n0 d1 g1 n1 d2 g2 n2 d3 g3 n3 nw nk) (hh (gG ⟨a3,b3⟩ (gG (aGk hp) (gP fun W' pre S'=>fin (k:=6) (by decide) o3.1 o3.2 ⟨r0,r1,hp⟩ pre S'))))
end
theorem aIa:aA4 32=4294967296:=rfl
theorem aIb:aA4 11=2048:=rfl
theorem aFc{x:Int}(h0:0≤x)(h1:x<4294967296):Builtin.bitAnd x 4294967295=x:=by rw[bitAnd_m32];lia
theorem aWn{x:Int}(h0:0≤x)(h1:x<4294967296)(c:(Builtin.bitAnd (Builtin.bitAnd (Builtin.bitAnd x 4294967295) 924074) 6144==2*aA4 11)=false):Builtin.bitAnd (Builtin.bitAnd x 4294967295) 924074=aAe x:=by
 rw[aFc h0 h1,aPc,aIb] at c
 rw[aFc h0 h1,aE0]
 have c:=beq_eq_false_iff_ne.mp c
 unfold aAe
 rw[if_neg (by lia)]
 lia
theorem aWo{x:Int}(h0:0≤x)(h1:x<4294967296)(c:(Builtin.bitAnd (Builtin.bitAnd (Builtin.bitAnd x 4294967295) 924074) 6144==2*aA4 11)=true):Builtin.bitOr (Builtin.bitAnd (Builtin.bitAnd (Builtin.bitAnd x 4294967295) 924074) (Builtin.bitXor 4294967295 6144)) (Builtin.bitAnd (Builtin.bitAnd (Builtin.bitAnd 0 4294967295) 924074) 6144)=aAe x:=by
 rw[aFc h0 h1,aPc,aIb] at c
 have c:=eq_of_beq c
 have r:=bitAnd_range x (show (0:Int)≤924074 by decide)
 rw[aFc h0 h1,show Builtin.bitAnd (Builtin.bitAnd (Builtin.bitAnd 0 4294967295) 924074) 6144=0 by decide,show Builtin.bitXor 4294967295 6144=4294961151 by decide,aGo r.1 (by lia) (k:=6144) (by decide) (by decide) (by decide),aPc,bitOr_and]
 have z:∀ y:Int,Builtin.bitAnd y 0=0:=fun y=>by have:=bitAnd_range y (Int.le_refl 0);lia
 rw[z,aE0]
 unfold aAe
 rw[if_pos (by lia)]
 lia
theorem aGa{old low k:Int}(hk:0≤k)(hk1:k<4294967296)(h0:0≤low)(h1:low<4294967296):Builtin.bitOr (Builtin.bitAnd k 4294967295*aA4 32) (Builtin.bitAnd (Builtin.bitOr (old/aA4 32*aA4 32) (Builtin.bitAnd low 4294967295)) 4294967295)=k*4294967296+low:=by
 rw[aIa,aFc hk hk1,aFc h0 h1,aS8 (Int.mul_emod_left _ _) h0 h1,bitAnd_m32,Int.add_comm,Int.add_mul_emod_self_right,Int.emod_eq_of_lt h0 h1,aS8 (Int.mul_emod_left _ _) h0 h1]
theorem aNy{x:Int}(h0:0≤x)(h1:x<4294967296):Builtin.bitAnd (Builtin.bitAnd x 4294967295) (Builtin.bitXor 4294967295 2)=x-2*(x/2%2):=by
 rw[aFc h0 h1,show Builtin.bitXor 4294967295 2=4294967293 by decide,aYl h0 h1];lia
theorem bB8{x:Int}(h0:0≤x)(h1:x<4294967296):Builtin.bitAnd x (Builtin.bitXor 4294967295 3)=x-x%4:=by
 rw[show Builtin.bitXor 4294967295 3=4294967292 by decide,aYk h0 h1]
theorem aTc{st md:Int}(h5:0≤st)(h6:st<4294967296)(h7:0≤md)(h8:md≤3):Builtin.bitOr (Builtin.bitOr (Builtin.bitAnd st (Builtin.bitXor 4294967295 (Builtin.bitOr (Builtin.bitOr 128 8) 6144))) (bif Builtin.bitAnd st 8 != 0 then 128 else 0)) (md*aA4 11)=st-8*(st/8%2)-128*(st/128%2)-2 ^ 11*(st/2 ^ 11%4)+128*(st/8%2)+2 ^ 11*md:=by
 rw[aIb]
 refine (aL3 h5 h6 h7 h8 ?_).trans (by unfold aL8;lia)
 rw[aYb]
 by_cases h:st/8%2*8=0
 ·rw[h];exact .inr ⟨rfl,rfl⟩
 ·exact .inl ⟨by rw[bne_iff_ne.mpr h];rfl,h⟩
section
set_option tactic.hygienic true
theorem mv{x e:Int}(h:x%4=0)(h1:x+4≤e):aHb (4-Builtin.bitAnd x 3) (e-x)=4:=by
 rw[bitAnd_m2,h]
 unfold aHb
 rw[if_neg (by lia)];rfl
theorem MD.conv{ads:List Addr}{M:Str→Option Value}:∀ {l l':List (Str×SV)},All2 (fun p q=>p.1=q.1∧∀ v,Den ads p.2 v→Den ads q.2 v) l l'→MD ads l M→MD ads l' M:=fun {l l'} h hm x y e=>by
 have:∃ y0,aD6 x l=some y0∧∀ v,Den ads y0 v→Den ads y v:=by
  clear hm
  induction h with
  |nil=>cases e
  | @cons p q l m r _ ih =>
   rw[aAs] at e
   rw[aAs,r.1]
   split at e
   ·rename_i h1;rw[if_pos h1];cases e;exact⟨_,rfl,r.2⟩
   ·rename_i h1;rw[if_neg h1];exact ih e
 refine aAd this fun y0 e0 k=>?_
 refine aAd (hm x y0 e0) fun v h1 h2=>?_
 exact⟨v,h1,k v h2⟩
theorem aEx{ads:List Addr}:∀ {l:List (Str×SV)},All2 (fun p q=>p.1=q.1∧∀ v,Den ads p.2 v→Den ads q.2 v) l l
 | []=>.nil
 |_::_=>.cons ⟨rfl,fun _ h=>h⟩ aEx
noncomputable def wI(k:Nat)(w:Int):Int:=match k with
 | 6=>w
 | 7=>w
 |k=>aAn k
theorem aZn{ads:List Addr}{k:Nat}{w:Int}{v:Value}:Den ads (wSV k w) v↔Den ads (.i (wI k w)) v:=by
 match k with
 | 0=>exact Iff.rfl
 | 1=>exact Iff.rfl
 | 2=>exact Iff.rfl
 | 3=>exact Iff.rfl
 | 4=>exact Iff.rfl
 | 5=>exact Iff.rfl
 | 6=>exact Iff.rfl
 | 7=>exact Iff.rfl
 |_+8=>exact Iff.rfl
theorem bX1{ads:List Addr}{M:Str→Option Value}{bg t place w:Int}{k:Nat}{d:SV}(h:MD ads (mA bg t place (wSV k w) d) M):MD ads (mA bg t place (.i (wI k w)) d) M :=
 MD.conv (l:=mA bg t place (wSV k w) d) (l':=mA bg t place (.i (wI k w)) d) (.cons ⟨rfl,fun _ h=>h⟩ (.cons ⟨rfl,fun _=>aZn.mp⟩ aEx)) h
theorem bX0{ads:List Addr}{M:Str→Option Value}{bg t place w vec wan low mode:Int}{k:Nat}{d:SV}(h:MD ads (mB bg t place (.i (wI k w)) d vec wan low mode) M):MD ads (mB bg t place (wSV k w) d vec wan low mode) M :=
 MD.conv (l:=mB bg t place (.i (wI k w)) d vec wan low mode) (l':=mB bg t place (wSV k w) d vec wan low mode) (.cons ⟨rfl,fun _ h=>h⟩ (.cons ⟨rfl,fun _ h=>h⟩ (.cons ⟨rfl,fun _ h=>h⟩ (.cons ⟨rfl,fun _ h=>h⟩ (.cons ⟨rfl,fun _ h=>h⟩ (.cons ⟨rfl,fun _=>aZn.mpr⟩ aEx)))))) h
theorem Sat.mm{V:Vw}{G:Gd V}{W:Wd}{m m':List (Str×SV)}{led:List SO}{orc orc':List Nat}(S:Sat G W ⟨m,led,orc⟩)(h:MD W.ads m' W.m):Sat G W ⟨m',led,orc'⟩:=⟨S.ok,S.F,h,S.N,S.O,S.len,S.nd,S.hd,S.cl⟩
structure Drew(vec wan low mode:Int):Prop where
 v0:0≤vec
 v1:vec<4294967296
 w0:0≤wan
 w1:wan<4294967296
 w17:wan/131072%2=0
 lo:low=4294967295∨low=4294967294
 md:mode=3∨mode=0∨mode=1
section
variable {K:Frag} {G:Gd (vwc 13 K)} {W:Wd} {Q:Flow→Shared→Prop}
structure Ready(IT:Addr×Obj)(G:Gd (vwc 13 K))(W:Wd)(bg t:Int)(nw nk:Nat)(g s n:Int)(k:Nat)(place w vec wan low mode:Int):Prop where
 S:Sat G W ⟨mB bg t place (wSV k w) (.a 31) vec wan low mode,aDs (aAe wan) (6*4294967296+low) (9*4294967296+low) (vec-2*(vec/2%2)) bg (.dv none nw [] []) (known0 nk) g s n (aAk 17 0),[]⟩
 ki:KI IT G.X W.ads
 due:DenO G.X W.ads (aCv k place) (G.X.β.o 16)
 pl:aCq k bg place
 dr:Drew vec wan low mode
theorem aVz{a b c d:Int}(h0:0≤d)(h1:d<3):(d=0∧pick d [a,b,c]=a)∨(d=1∧pick d [a,b,c]=b)∨(d=2∧pick d [a,b,c]=c):=by
 have:d=0∨d=1∨d=2:=by lia
 rcases this with rfl|rfl|rfl
 ·exact .inl ⟨rfl,rfl⟩
 ·exact .inr (.inl ⟨rfl,rfl⟩)
 ·exact .inr (.inr ⟨rfl,rfl⟩)
theorem bN0(H:aAv K)(hcf:G.cf=cfL){bg t st cy re g s n place w:Int}{nw nk:Nat}(S:∀ orc,Sat G W ⟨mA bg t place (.i w) (.a 31),aCk st cy re bg (.dv none nw [] []) (known0 nk) g s n (aAk 17 0),orc⟩)(bx:BoxOk s n)
  (cont:∀ W' g' n' vec wan low mode,n≤n'→n'≤n+6→Drew vec wan low mode→Pre W.ads W'.ads→Sat G (W'.re (frN 32 0)) ⟨mB bg t place (.i w) (.a 31) vec wan low mode,aCk st cy re bg (.dv none nw [] []) (known0 nk) g' s n' (aAk 17 0),[]⟩→Q .next (G.st W')):RunS G 1 4 Q (G.st W):=by
 refine aFp (aBb (g:=g) (s:=s) (n:=n) (many:=2 ^ 30) (by decide)) fun d0 g0 n0 t0 a0 b0 e0 f0=>?_
 refine aFp (aBb (g:=g0) (s:=s) (n:=n0) (many:=3) (by decide)) fun d1 g1 n1 t1 a1 b1 e1 f1=>?_
 refine aFp (aBb (g:=g1) (s:=s) (n:=n1) (many:=4) (by decide)) fun d2 g2 n2 t2 a2 b2 e2 f2=>?_
 refine aFp (aBb (g:=g2) (s:=s) (n:=n2) (many:=2 ^ 32) (by decide)) fun d3 g3 n3 t3 a3 b3 e3 f3=>?_
 refine aFp (aBb (g:=g3) (s:=s) (n:=n3) (many:=2) (by decide)) fun d4 g4 n4 t4 a4 b4 e4 f4=>?_
 refine aFp (aBb (g:=g4) (s:=s) (n:=n4) (many:=3) (by decide)) fun d5 g5 n5 t5 a5 b5 e5 f5=>?_
 have dk:∀ {n' many:Int},n≤n'→n'≤n+1000→0<many→many≤4294967296→DrawOk s n' many:=fun a b c d=>bx.dk a b c d
 have hv:=aVz (a:=4096) (b:=4294967040) (c:=4*d0) a1 b1
 have hmd:=aVz (a:=3) (b:=0) (c:=1) a5 b5
 have e30:(2:Int) ^ 30=1073741824:=rfl
 have e32:(2:Int) ^ 32=4294967296:=rfl
 have e17:(2:Int) ^ 17=131072:=rfl
 refine seg_end H hcf (S _) (bGz K bg t st cy re g s n w place d0 g0 n0 d1 g1 n1 d2 g2 n2 d3 g3 n3 d4 g4 n4 d5 g5 n5 nw nk) (gG ⟨t0,dk (by lia) (by lia) (by decide) (by decide)⟩ (gG ⟨t1,dk (by lia) (by lia) (by decide) (by decide)⟩ (gG ⟨a1,b1⟩ (gG ⟨t2,dk (by lia) (by lia) (by decide) (by decide)⟩ (gG ⟨t3,dk (by lia) (by lia) (by decide) (by decide)⟩ (gG ⟨t4,dk (by lia) (by lia) (by decide) (by decide)⟩ (gG ⟨t5,dk (by lia) (by lia) (by decide) (by decide)⟩ (gG ⟨a5,b5⟩ (gP fun W' pre S'=>cont W' g5 n5 _ _ _ _ (by lia) (by lia) ?_ pre S')))))))))
 rw[e30] at b0
 rw[e32] at b3
 refine⟨?_,?_,?_,?_,?_,?_,?_⟩
 ·rcases hv with⟨_,h⟩|⟨_,h⟩|⟨_,h⟩<;>rw[h]<;>lia
 ·rcases hv with⟨_,h⟩|⟨_,h⟩|⟨_,h⟩<;>rw[h]<;>lia
 ·rw[e17];lia
 ·rw[e17];lia
 ·rw[e17];lia
 ·rw[e32];lia
 ·rcases hmd with⟨_,h⟩|⟨_,h⟩|⟨_,h⟩<;>rw[h]<;>decide
theorem bNz(H:aAv K)(hcf:G.cf=cfL){bg t st cy re g s n place w vec wan low mode:Int}{nw nk:Nat}(S:∀ orc,Sat G W ⟨mB bg t place (.i w) (.a 31) vec wan low mode,aCk st cy re bg (.dv none nw [] []) (known0 nk) g s n (aAk 17 0),orc⟩)(dr:Drew vec wan low mode)(hc:0≤cy∧cy<1000000000000)(hr:0≤re∧re<1000000000000)
  (cont:∀ W',Pre W.ads W'.ads→Sat G (W'.re (frN 32 0)) ⟨mB bg t place (.i w) (.a 31) vec wan low mode,aDs (aAe wan) (6*4294967296+low) (9*4294967296+low) (vec-2*(vec/2%2)) bg (.dv none nw [] []) (known0 nk) g s n (aAk 17 0),[]⟩→Q .next (G.st W')):RunS G 5 1 Q (G.st W):=by
 have gc:∀ {x:Int},0≤x∧x<1000000000000→0≤x/aA4 32∧x/aA4 32≤i64:=fun h=>by rw[aIa];unfold i64;lia
 have l0:0≤low:=by rcases dr.lo with h|h<;>lia
 have l1:low<4294967296:=by rcases dr.lo with h|h<;>lia
 refine seg_end H hcf (S _) (bGy K bg t st cy re g s n w place vec wan low mode nw nk) (gS (fun c=>gG (gc hc) (gG (gc hr) (gP fun W' pre S'=>cont W' pre ?_))) (fun c=>gG (gc hc) (gG (gc hr) (gP fun W' pre S'=>cont W' pre ?_))))
 ·rw[aWo dr.w0 dr.w1 c,aGa (by decide) (by decide) l0 l1,aGa (by decide) (by decide) l0 l1,aNy dr.v0 dr.v1] at S'
  exact S'
 ·rw[aWn dr.w0 dr.w1 c,aGa (by decide) (by decide) l0 l1,aGa (by decide) (by decide) l0 l1,aNy dr.v0 dr.v1] at S'
  exact S'
theorem bNy(H:aAv K)(hcf:G.cf=cfL){bg t st cy re vc g s n place w vec wan low mode:Int}{nw nk:Nat}(S:∀ orc,Sat G W ⟨mB bg t place (.i w) (.a 31) vec wan low mode,aDs st cy re vc bg (.dv none nw [] []) (known0 nk) g s n (aAk 17 0),orc⟩)(hb:aHh bg)(hw:nw≤1000)
  (cont:∀ W',Pre W.ads W'.ads→Sat G (W'.re (frN 32 0)) ⟨mB bg t place (.i w) (.a 31) vec wan low mode,aDs st cy re vc bg (.dv none nw [] []) (known0 nk) g s n (aAk 17 0),[]⟩→Q .next (G.st W')):RunS G 6 1 Q (G.st W):=by
 refine aIv hb fun h1 h2 h3=>?_
 exact seg_end H hcf (S _) (bGx K bg t st cy re vc g s n w place vec wan low mode nw nk) (gG (decide_eq_false (Int.lt_irrefl _)) (gG (decide_eq_false (Int.lt_irrefl _)) (gG (decide_eq_true (by lia)) (gG (mv (by lia) (by lia)) (gG hw (gG (decide_eq_true (by lia)) (gG (mv (by lia) (by lia)) (gG hw (gG (decide_eq_true (by lia)) (gG (mv (by lia) (by lia)) (gG hw (gG (decide_eq_true (by lia)) (gG (mv (by lia) (by lia)) (gG hw (gG (decide_eq_true (by lia)) (gG (mv (by lia) (by lia)) (gG hw (gG (decide_eq_true (by lia)) (gG (mv (by lia) (by lia)) (gG hw (gG (decide_eq_true (by lia)) (gG (mv (by lia) (by lia)) (gG hw (gG (decide_eq_true (by lia)) (gG (mv (by lia) (by lia)) (gG hw (gG (decide_eq_false (by lia)) (gP fun W' pre S'=>cont W' pre S'))))))))))))))))))))))))))))
end
end
theorem aUo(K:Frag)(bg t place vec low mode cause value status pc md st cy re vc g s n go:Int)(nw nk:Nat):aKq K [] 13 4 pD (aCk 0 0 0 0 dv0 dv0 0 0 0 rows0) (mH 0 0) ⟨(mC bg t place vec low mode (.k .none) (.i go) cause value status),(aWj pc md st cy re vc .u .u .u bg (wd0 nw) (known0 nk) g s n rows0),[0,0,0,0,0,0]⟩ =
  gs [(!allB [Builtin.bitAnd cy 4294967295==(low+1)%2 ^ 32,Builtin.bitAnd (cy/aA4 32) 4294967295==6+(low+1)/2 ^ 32,Builtin.bitAnd re 4294967295==(low+bif true then 1 else 0)%2 ^ 32,Builtin.bitAnd (re/aA4 32) 4294967295==9+(low+bif true then 1 else 0)/2 ^ 32])=false,(!allB [true,pc==go,md==mode,st==status])=false] (.p ⟨mH (bg) (t),(aD3 (.u) (.u) (.u) (.i (st)) (cy) (re) (.u) (.u) (.u) (.u) (bg) (.dv none (nw) [] []) (.dv (some (0)) (nk) [] []) (g) (s) (n) rows0),[]⟩ (frN 31 0)):=aAa (by k_slotget)
theorem aQb(K:Frag)(bg t place vec low mode cause value status pc md st cy re vc g s n told b c d:Int)(nw nk:Nat):aKq K [] 13 4 pD (aCk 0 0 0 0 dv0 dv0 0 0 0 rows0) (mH 0 0) ⟨(mC bg t place vec low mode (.i told) (.k .none) cause value status),(aWj pc md st cy re vc (.i b) (.i c) (.i d) bg (wd0 nw) (known0 nk) g s n rows0),[0,0,0,0]⟩ =
  gs [(!allB [Builtin.bitAnd cy 4294967295==(low+1)%2 ^ 32,Builtin.bitAnd (cy/aA4 32) 4294967295==6+(low+1)/2 ^ 32,Builtin.bitAnd re 4294967295==(low+bif !true then 1 else 0)%2 ^ 32,Builtin.bitAnd (re/aA4 32) 4294967295==9+(low+bif !true then 1 else 0)/2 ^ 32])=false,(cause != 0)=false,(!allB [b==b,c==cause,d==value,st==status-8*(status/8%2)-128*(status/128%2)-2 ^ 11*(status/2 ^ 11%4)+128*(status/8%2)+2 ^ 11*mode,vc==vec-2*(vec/2%2)])=false,(!allB [told==cause,pc==vec/4*4,md==3])=false] (.p ⟨mH (bg) (t),(aD3 (.u) (.u) (.u) (.i (st)) (cy) (re) (.u) (.u) (.u) (.u) (bg) (.dv none (nw) [] []) (.dv (some (0)) (nk) [] []) (g) (s) (n) rows0),[]⟩ (frN 31 0)):=aAa (by k_slotget)
theorem aQa(K:Frag)(bg t place vec low mode cause value status pc md st cy re vc g s n told b c d:Int)(nw nk:Nat):aKq K [] 13 4 pD (aCk 0 0 0 0 dv0 dv0 0 0 0 rows0) (mH 0 0) ⟨(mC bg t place vec low mode (.i told) (.k .none) cause value status),(aWj pc md st cy re vc (.i b) (.i c) (.i d) bg (wd0 nw) (known0 nk) g s n rows0),[0,1,0,0]⟩ =
  gs [(!allB [Builtin.bitAnd cy 4294967295==(low+1)%2 ^ 32,Builtin.bitAnd (cy/aA4 32) 4294967295==6+(low+1)/2 ^ 32,Builtin.bitAnd re 4294967295==(low+bif !true then 1 else 0)%2 ^ 32,Builtin.bitAnd (re/aA4 32) 4294967295==9+(low+bif !true then 1 else 0)/2 ^ 32])=false,(cause != 0)=true,(!allB [b==place,c==cause,d==value,st==status-8*(status/8%2)-128*(status/128%2)-2 ^ 11*(status/2 ^ 11%4)+128*(status/8%2)+2 ^ 11*mode,vc==vec-2*(vec/2%2)])=false,(!allB [told==cause,pc==vec/4*4,md==3])=false] (.p ⟨mH (bg) (t),(aD3 (.u) (.u) (.u) (.i (st)) (cy) (re) (.u) (.u) (.u) (.u) (bg) (.dv none (nw) [] []) (.dv (some (0)) (nk) [] []) (g) (s) (n) rows0),[]⟩ (frN 31 0)):=aAa (by k_slotget)
theorem al0:(!allB [])=false:=rfl
theorem alc{a:Bool}{l:List Bool}(h:a=true)(k:(!allB l)=false):(!allB (a::l))=false:=by
 subst h;cases l with
 |nil=>rfl
 |cons b r=>exact k
theorem be{a b:Int}(h:a=b):(a==b)=true:=beq_iff_eq.mpr h
theorem aL5{a b c d e f g h m:Int}(ha:0≤a∧a<2)(hb:0≤b∧b<2)(hc:0≤c∧c<2)(hd:0≤d∧d<2)(he:0≤e∧e<2)(hf:0≤f∧f<2)(hg:0≤g∧g<2)(hh:0≤h∧h<2)(hm:0≤m∧m≤6144) :
  0≤2*a+8*b+32*c+128*d+256*e+131072*f+262144*g+524288*h+m∧2*a+8*b+32*c+128*d+256*e+131072*f+262144*g+524288*h+m<4294967296∧(2*a+8*b+32*c+128*d+256*e+131072*f+262144*g+524288*h+m)/131072%2=f:=by
 refine⟨by lia,by lia,?_⟩
 have e1:2*a+8*b+32*c+128*d+256*e+131072*f+262144*g+524288*h+m=(2*a+8*b+32*c+128*d+256*e+m)+131072*(f+2*(g+2*h)):=by lia
 rw[e1]
 have:0≤2*a+8*b+32*c+128*d+256*e+m∧2*a+8*b+32*c+128*d+256*e+m<131072:=by lia
 generalize 2*a+8*b+32*c+128*d+256*e+m=z at this ⊢
 generalize g+2*h=y
 lia
theorem m2(x:Int):0≤x%2∧x%2<2:=⟨Int.emod_nonneg _ (by decide),Int.emod_lt_of_pos _ (by decide)⟩
theorem aCy{x:Int}(h0:0≤x)(h1:x<4294967296):0≤aAe x∧aAe x<4294967296∧aAe x/131072%2=x/131072%2:=by
 refine aL5 (m2 _) (m2 _) (m2 _) (m2 _) (m2 _) (m2 _) (m2 _) (m2 _) ?_
 split<;>lia
theorem aLy{vec:Int}(h0:0≤vec)(h1:vec<4294967296):0≤vec-2*(vec/2%2)∧vec-2*(vec/2%2)<4294967296∧(vec-2*(vec/2%2))-(vec-2*(vec/2%2))%4=vec/4*4:=by lia
theorem bF6{low c:Int}(hl:low=4294967295∨low=4294967294)(d:Int)(hd:d=0∨d=1):Builtin.bitAnd (c*4294967296+low+d) 4294967295=(low+d)%2 ^ 32:=by
 rw[bitAnd_m32,show (2:Int) ^ 32=4294967296 from rfl];lia
theorem bF5{low c:Int}(h0:0≤c)(h1:c<100)(hl:low=4294967295∨low=4294967294)(d:Int)(hd:d=0∨d=1):Builtin.bitAnd ((c*4294967296+low+d)/aA4 32) 4294967295=c+(low+d)/2 ^ 32:=by
 rw[bitAnd_m32,aIa,show (2:Int) ^ 32=4294967296 from rfl];lia
section
variable {K:Frag} {G:Gd (vwc 13 K)} {W:Wd} {Q:Flow→Shared→Prop}
theorem cAg(H:aAv K)(hcf:G.cf=cfL){bg t place vec wan low mode cz v D g s n:Int}{nw nk:Nat}(dr:Drew vec wan low mode)(hD:D=v)
  (S:∀ orc,Sat G W ⟨mC bg t place vec low mode (.i cz) (.k .none) cz v (aAe wan),aWj (pcT (vec-2*(vec/2%2))) 3 (stT (aAe wan) mode) (6*4294967296+low+1) (9*4294967296+low) (vec-2*(vec/2%2)) (.i place) (.i cz) (.i D) bg (.dv none nw [] []) (known0 nk) g s n rows0,orc⟩)
  (cont:∀ W' st,Pre W.ads W'.ads→Sat G (W'.re (frN 31 0)) ⟨mH bg t,aCk st (6*4294967296+low+1) (9*4294967296+low) bg (.dv none nw [] []) (known0 nk) g s n rows0,[]⟩→Q .next (G.st W')):RunS G 13 4 Q (G.st W):=by
 refine aIv (aLy dr.v0 dr.v1) fun v0 v1 v2=>?_
 refine aIv (aCy dr.w0 dr.w1) fun s0 s1 _=>?_
 have m0:0≤mode∧mode≤3:=by rcases dr.md with h|h|h<;>lia
 have e0:(9*4294967296+low)=9*4294967296+low+0:=by lia
 have g1:(!allB [Builtin.bitAnd (6*4294967296+low+1) 4294967295==(low+1)%2 ^ 32,Builtin.bitAnd ((6*4294967296+low+1)/aA4 32) 4294967295==6+(low+1)/2 ^ 32,Builtin.bitAnd (9*4294967296+low) 4294967295==(low+bif !true then 1 else 0)%2 ^ 32,Builtin.bitAnd ((9*4294967296+low)/aA4 32) 4294967295==9+(low+bif !true then 1 else 0)/2 ^ 32])=false :=
  alc (be (bF6 dr.lo 1 (.inr rfl))) (alc (be (bF5 (by decide) (by decide) dr.lo 1 (.inr rfl))) (alc (be (by rw[e0];exact bF6 dr.lo 0 (.inl rfl))) (alc (be (by rw[e0];exact bF5 (by decide) (by decide) dr.lo 0 (.inl rfl))) al0)))
 have g3:∀ b:Int,b=place∨b=b→True:=fun _ _=>trivial
 have g4:(!allB [cz==cz,pcT (vec-2*(vec/2%2))==vec/4*4,(3:Int)==3])=false:=alc (be rfl) (alc (be ((bB8 v0 v1).trans v2)) (alc (be rfl) al0))
 by_cases hc:cz=0
 ·exact seg_end H hcf (S _) (aQb K bg t place vec low mode cz v (aAe wan) (pcT (vec-2*(vec/2%2))) 3 (stT (aAe wan) mode) (6*4294967296+low+1) (9*4294967296+low) (vec-2*(vec/2%2)) g s n cz place cz D nw nk) (gG g1 (gG (aBn hc) (gG (alc (be rfl) (alc (be rfl) (alc (be hD) (alc (be (aTc s0 s1 m0.1 m0.2)) (alc (be rfl) al0))))) (gG g4 (gP fun W' pre S'=>cont W' _ pre S')))))
 ·exact seg_end H hcf (S _) (aQa K bg t place vec low mode cz v (aAe wan) (pcT (vec-2*(vec/2%2))) 3 (stT (aAe wan) mode) (6*4294967296+low+1) (9*4294967296+low) (vec-2*(vec/2%2)) g s n cz place cz D nw nk) (gG g1 (gG (aGk hc) (gG (alc (be rfl) (alc (be rfl) (alc (be hD) (alc (be (aTc s0 s1 m0.1 m0.2)) (alc (be rfl) al0))))) (gG g4 (gP fun W' pre S'=>cont W' _ pre S')))))
theorem cAh(H:aAv K)(hcf:G.cf=cfL){bg t place vec wan low mode cz v go pc g s n:Int}{nw nk:Nat}(dr:Drew vec wan low mode)(hp:pc=go)
  (S:∀ orc,Sat G W ⟨mC bg t place vec low mode (.k .none) (.i go) cz v (aAe wan),aWj pc mode (aAe wan) (6*4294967296+low+1) (9*4294967296+low+1) (vec-2*(vec/2%2)) .u .u .u bg (.dv none nw [] []) (known0 nk) g s n rows0,orc⟩)
  (cont:∀ W' st,Pre W.ads W'.ads→Sat G (W'.re (frN 31 0)) ⟨mH bg t,aCk st (6*4294967296+low+1) (9*4294967296+low+1) bg (.dv none nw [] []) (known0 nk) g s n rows0,[]⟩→Q .next (G.st W')):RunS G 13 4 Q (G.st W) :=
 seg_end H hcf (S _) (aUo K bg t place vec low mode cz v (aAe wan) pc mode (aAe wan) (6*4294967296+low+1) (9*4294967296+low+1) (vec-2*(vec/2%2)) g s n go nw nk)
  (gG (alc (be (bF6 dr.lo 1 (.inr rfl))) (alc (be (bF5 (by decide) (by decide) dr.lo 1 (.inr rfl))) (alc (be (bF6 dr.lo 1 (.inr rfl))) (alc (be (bF5 (by decide) (by decide) dr.lo 1 (.inr rfl))) al0)))) (gG (alc rfl (alc (be hp) (alc (be rfl) (alc (be rfl) al0)))) (gP fun W' pre S'=>cont W' _ pre S')))
end
section
variable (K:Frag) (b c x:Bool) (bg t place vec wan low mode v st cy re vc g s n go w:Int) (nw nk:Nat)
theorem sC0:aYo K 7 6 (pC b 0) (aBj 0) (.z (aAn 0)) bg t place vec wan low mode st cy re vc g s n nw (knB b nk 0) (rwB b 0++[aGg 3 v]) [1,1,1,0,0,0,0,nB c,1,1,0,0,0,nB c,2] =
  gA bg place mode nw nk b c 0 (gs [tvK 3 place] (gT mode vc wan c (.p (sTr bg t place vec wan low mode 3 v (Builtin.bitAnd place 4294967295) st cy re vc g s n nw nk [(place/aA4 2,.z (aAn 0))] (pkB b 0) (fwB 0 place) (fkB 0) (aBj 0)) (fC b 0 53)))):=by cases b<;>cases c<;>exact aAa (by k_slotget)
theorem sC1:aYo K 7 6 (pC b 1) (aBj 1) (.z (aAn 1)) bg t place vec wan low mode st cy re vc g s n nw (knB b nk 1) (rwB b 1++[aGg 8 v]) ([1,1,1,0,0,0,0,nB c,1,1,0,0,0]++(bif c then [1] else [0,0])++[2,0]) =
  gA bg place mode nw nk b c 1 (gs [tvK (8+mode) 0,(mode==3)=c] (gs (bif c then [] else [bFw mode,0≤Builtin.bitAnd (8+mode) 31]) (gs [mdK mode] (.s (Builtin.bitAnd vc 1 != 0) (gs [bFw mode,aZm wan] (.p (sTr bg t place vec wan low mode (8+mode) v (Builtin.bitAnd 0 4294967295) st cy re vc g s n nw nk [(place/aA4 2,.z (aAn 1))] (pkB b 1) (fwB 1 place) (fkB 1) (aBj 1)) (fC b 1 53))) (gs [aZm wan] (.p (sTr bg t place vec wan low mode (8+mode) v (Builtin.bitAnd 0 4294967295) st cy re vc g s n nw nk [(place/aA4 2,.z (aAn 1))] (pkB b 1) (fwB 1 place) (fkB 1) (aBj 1)) (fC b 1 53))))))):=by cases b<;>cases c<;>exact aAa (by k_slotget)
theorem sC2:bOa K 7 6 (pC b 2) (aBj 2) (.z (aAn 2)) bg t place vec wan low mode st cy re vc g s n nw (knB b nk 2) (rwB b 2++[bF3 go v]) [1,1,1,0,0,0,0,nB c,1,1,0,0,0,0] =
  gA bg place mode nw nk b c 2 (gs [aZm wan] (.p (sGo bg t place vec wan low mode v go (Builtin.bitAnd (place+4) 4294967295) st cy re vc g s n nw nk [(place/aA4 2,.z (aAn 2))] (pkB b 2) (fwB 2 place) (fkB 2) (aBj 2)) (fC b 2 12))):=by cases b<;>cases c<;>exact aAa (by k_slotget)
theorem sC3:bOa K 7 6 (pC b 3) (aBj 3) (.z (aAn 3)) bg t place vec wan low mode st cy re vc g s n nw (knB b nk 3) (rwB b 3++[bF3 go v]) [1,1,1,0,0,0,0,nB c,1,1,0,0,0,0] =
  gA bg place mode nw nk b c 3 (gs [(Builtin.bitAnd (J4 b place) 3 != 0)=false,aZm wan] (.p (sGo bg t place vec wan low mode v go (J4 b place) st cy re vc g s n nw nk [(place/aA4 2,.z (aAn 3))] (pkB b 3) (fwB 3 place) (fkB 3) (aBj 3)) (fC b 3 12))):=by cases b<;>cases c<;>exact aAa (by k_slotget)
theorem sC4:aYo K 7 6 (pC b 4) (aBj 4) (.z (aAn 4)) bg t place vec wan low mode st cy re vc g s n nw (knB b nk 4) (rwB b 4++[aGg 5 v]) ([1,1,1,0,0,0,0,nB c,1,1,0,0,0,0,0,nB c]++(bif x then [1,0] else [0])++[0,nB c,2]) =
  gA bg place mode nw nk b c 4 (gs [(Builtin.bitAnd (A4 b bg) (4-1) != 0)=false,(Builtin.bitAnd st 131072 != 0)=false,(mode==3)=c] (gs (bif x then [decide (bg≤A4 b bg)=true,decide (A4 b bg+4≤bg+32)=false] else [decide (bg≤A4 b bg)=false]) (gs [(A4 b bg%4 != 0)=false,tvK 5 (A4 b bg),tvK 5 (A4 b bg)] (gT mode vc wan c (.p (sTr bg t place vec wan low mode 5 (x5V bg) (Builtin.bitAnd (A4 b bg) 4294967295) st cy re vc g s n nw nk [(place/aA4 2,.z (aAn 4))] (pkB b 4) (fwB 4 place) (fkB 4) (aBj 4)) (fC b 4 55)))))):=by cases x<;>cases b<;>cases c<;>exact aAa (by k_slotget)
theorem sC5:aYo K 7 6 (pC false 0) (rows0) (.z (aAn 5)) bg t place vec wan low mode st cy re vc g s n nw (aN0 nk 5) (rows0++[aGg 2 v]) [1,1,1,0,0,0,0,nB c,1,1,0,0,0,nB c,2] =
  gA bg place mode nw nk false c 5 (gs [True∧Builtin.bitAnd (aAn 5) 4294967295=4294967295∧True,tvK 2 (Builtin.bitAnd (aAn 5) 4294967295)] (gT mode vc wan c (.p (sTr bg t place vec wan low mode 2 v (Builtin.bitAnd (Builtin.bitAnd (aAn 5) 4294967295) 4294967295) st cy re vc g s n nw nk [(place/aA4 2,.z (aAn 5))] [] (fwB 5 place) [(aAn 5,none)] rows0) (fC false 0 53)))):=by cases c<;>exact aAa (by k_slotget)
theorem sC6:aYo K 8 5 (pC false 0) rows0 (.i w) bg t place vec wan low mode st cy re vc g s n nw (known0 nk) (rows0++[aGg 0 v]) [1,nB c,2] =
  gs [(Builtin.bitAnd place 3 != 0)=true,tvK 0 place] (gT mode vc wan c (.p (sTr bg t place vec wan low mode 0 v (Builtin.bitAnd place 4294967295) st cy re vc g s n nw nk [] [] [] [] rows0) (fC false 0 50))):=by cases c<;>exact aAa (by k_slotget)
theorem sC7:aYo K 8 5 (pC false 0) rows0 (.i w) bg t place vec wan low mode st cy re vc g s n nw (known0 nk) (rows0++[aGg 1 v]) ([0,nB c]++(bif x then [1,0] else [0])++[0,nB c,2]) =
  gs [(Builtin.bitAnd place 3 != 0)=false,(mode==3)=c] (gs (bif x then [mL bg place,decide (place+4≤bg+32)=false] else [decide (bg≤place)=false]) (gs [mZ place,tvK 1 place,tvK 1 place] (gT mode vc wan c (.p (sTr bg t place vec wan low mode 1 v (Builtin.bitAnd place 4294967295) st cy re vc g s n nw nk [] [] [] [] rows0) (fC false 0 53))))):=by cases x<;>cases c<;>exact aAa (by k_slotget)
theorem sS6:bN9 K w bg t place vec wan low mode st cy re vc g s n nw nk [2,2,0] =
  .s (decide (bg≤place)) (.s (decide (place<bg+32)) (gs [(place%4==0)=false] (.p ⟨mB bg t place (.i w) (.a 31) vec wan low mode,aDs st cy re vc bg (wd0 nw) (known0 nk) g s n (aAk 17 0),[]⟩ (frN 32 0))) (.p ⟨mB bg t place (.i w) (.a 31) vec wan low mode,aDs st cy re vc bg (wd0 nw) (known0 nk) g s n (aAk 17 0),[]⟩ (frN 32 0))) (.p ⟨mB bg t place (.i w) (.a 31) vec wan low mode,aDs st cy re vc bg (wd0 nw) (known0 nk) g s n (aAk 17 0),[]⟩ (frN 32 0)):=aAa (by k_slotget)
theorem sS7:bN9 K w bg t place vec wan low mode st cy re vc g s n nw nk [2,0] =
  .s (decide (bg≤place)) (gs [decide (place<bg+32)=false] (.p ⟨mB bg t place (.i w) (.a 31) vec wan low mode,aDs st cy re vc bg (wd0 nw) (known0 nk) g s n (aAk 17 0),[]⟩ (frN 32 0))) (.p ⟨mB bg t place (.i w) (.a 31) vec wan low mode,aDs st cy re vc bg (wd0 nw) (known0 nk) g s n (aAk 17 0),[]⟩ (frN 32 0)):=aAa (by k_slotget)
end
theorem aB9{q:Nat}:∀ {k:Nat},(aGv q k).length=3*k
 | 0=>rfl
 |k+1=>by
  have:=aB9 (q:=q) (k:=k)
  unfold aGv
  rw[List.length_append,this]
  cases Nat.beq k q<;>rfl
theorem aGu{q j:Nat}:∀ {k:Nat},j<3*k→gN (aGv q k) j=if j/3=q then gN (aUu q (16+3*q) (17+3*q)) (j%3) else some (.raw j)
 | 0,h=>absurd h (by lia)
 |k+1,h=>by
  unfold aGv
  by_cases hj:j<3*k
  ·rw[aDk (by rw[aB9];exact hj)]
   exact aGu hj
  ·obtain⟨i,rfl⟩:∃ i,j=3*k+i:=⟨j-3*k,by lia⟩
   have hi:i<3:=by lia
   have:=aCn (a:=aGv q k) (b:=bif Nat.beq k q then aUu q (16+3*q) (17+3*q) else [.raw (3*k),.raw (3*k+1),.raw (3*k+2)]) (i:=i)
   rw[aB9] at this
   rw[this,show (3*k+i)/3=k by lia,show (3*k+i)%3=i by lia]
   by_cases e:k=q
   ·subst e;rw[Nat.beq_refl,if_pos rfl];rfl
   ·rw[if_neg e,show Nat.beq k q=false from Bool.eq_false_iff.mpr fun h=>e (Nat.eq_of_beq_eq_true h)]
    match i,hi with
    | 0,_=>rfl
    | 1,_=>rfl
    | 2,_=>rfl
theorem aEe{q j:Nat}(h:j<15):gN (aBj q) j=if j/3=q then gN (aUu q (16+3*q) (17+3*q)) (j%3) else some (.raw j):=by
 unfold aBj
 rw[aDk (by rw[aB9];exact h)]
 exact aGu h
theorem aJg{q:Nat}:gN (aBj q) 15=some (.raw 15):=by
 have:=aCn (a:=aGv q 5) (b:=[.raw 15]) (i:=0)
 rw[aB9] at this
 exact this
theorem aCz{q:Nat}:(aBj q).length=16:=by unfold aBj;rw[List.length_append,aB9];rfl
theorem aMb{j:Nat}(h:j<16):gN rows0 j=some (.raw j):=by
 have:=aDj (l:=[]) (n:=16) (k:=0) h
 rw[List.append_nil,Nat.zero_add] at this
 exact this
theorem aI4{a b:Nat}(ha:a<6)(hb:b<6)(h:a≠b):aAn a≠aAn b :=
 (by decide:∀ a<6,∀ b<6,a≠b→aAn a≠aAn b) a ha b hb h
section
variable {V:Vw} {X:Ctx V} {β:Bet} {ads ads1:List Addr} {q:Nat} {IT:Addr×Obj}
theorem KI.row(h:KI IT X ads)(hq:q<5)(ha:∀ i,15≤i→i<31→i/3≠5+q→gN ads1 i=gN ads i)(R:∀ j so,gN (aBj q) j=some so→DenO X ads1 so (β.o j))
  (hd:∀ k,k≠aAn q→valueAt (β.d 0) k=valueAt (X.β.d 0) k) (hv:∃ a,gN ads1 (15+3*q)=some a∧valueAt (β.d 0) (aAn q)=some (.ref a)):KI IT { X with β:=β } ads1 where
 bad:=(hd _ (aI4 (by decide) (by lia) (by lia))).trans h.bad
 at_:=fun r hr=>by
  by_cases e:r=q
  ·subst e
   refine aAd hv fun a h1 h2=>?_
   refine .inr ⟨a,h1,h2,fun i so e=>?_⟩
   have hi:i<3:=aBl e
   refine aDw e rfl rfl (R (3*r+i) so ?_)
   rw[aEe (by lia),if_pos (by lia),show (3*r+i)%3=i by lia]
   exact e
  ·rw[show valueAt (({ X with β:=β }:Ctx V).β.d 0) (aAn r)=_ from hd _ (aI4 (by lia) (by lia) e)]
   refine (h.at_ r hr).imp id fun ⟨a,h1,h2,h3⟩=>⟨a,(ha _ (by lia) (by lia) (by lia)).trans h1,h2,fun i so e=>?_⟩
   have hi:i<3:=aBl e
   have:=R (3*r+i) (.raw (3*r+i)) (by rw[aEe (by lia),if_neg (by lia)])
   rw[show ({ X with β:=β }:Ctx V).β.o (3*r+i)=X.β.o (3*r+i) from this]
   exact aDw e (ha _ (by lia) (by lia) (by lia)) (ha _ (by lia) (by lia) (by lia)) (h3 i so e)
 it:=⟨(ha 30 (by lia) (by lia) (by lia)).trans h.it.1,(show ({ X with β:=β }:Ctx V).β.o 15=X.β.o 15 from R 15 (.raw 15) aJg).trans h.it.2⟩
theorem KI.new(h:KI IT X ads)(hq:q<5)(ha:∀ i,15≤i→i<31→i/3≠5+q→gN ads1 i=gN ads i)(P:PutR ads1 (X.β.d 0) [(aAn q,.a (15+3*q))] (β.d 0))(R:∀ j so,gN (aBj q) j=some so→DenO X ads1 so (β.o j)):KI IT { X with β:=β } ads1:=by
 generalize e:β.d 0=L at P
 cases P with
 |cons P d =>
  cases P
  refine aAd d fun a h1 r1_2=>?_
  subst r1_2
  exact h.row hq ha R (fun k n=>by rw[e];exact aFv n) ⟨a,h1,by rw[e];exact aEa⟩
theorem KI.old(h:KI IT X ads)(hq:q<5)(ha:∀ i,15≤i→i<31→gN ads1 i=gN ads i)(P:PutR ads1 (X.β.d 0) [] (β.d 0))(R:∀ j so,gN (aBj q) j=some so→DenO X ads1 so (β.o j))(hv:∃ a,gN ads (15+3*q)=some a∧valueAt (X.β.d 0) (aAn q)=some (.ref a)):KI IT { X with β:=β } ads1 :=
 h.row hq (fun i a b _=>ha i a b) R (fun k _=>by rw[aC0 P]) (hv.imp fun a ⟨h1,h2⟩=>⟨(ha _ (by lia) (by lia)).trans h1,by rw[aC0 P];exact h2⟩)
theorem KI.raws(h:KI IT X ads)(ha:∀ i,15≤i→i<31→gN ads1 i=gN ads i)(P:PutR ads1 (X.β.d 0) [] (β.d 0))(R:∀ j so,gN rows0 j=some so→DenO X ads1 so (β.o j)):KI IT { X with β:=β } ads1 :=
 h.keep ha (aC0 P) fun j hj=>R j _ (aMb hj)
end
noncomputable def Head{K:Frag}(IT:Addr×Obj)(G:Gd (vwc 13 K))(W:Wd)(bg t s:Int)(lim:Nat):Prop:=∃ st cy re g n:Int,∃ nw nk:Nat,Sat G W ⟨mH bg t,aCk st cy re bg (.dv none nw [] []) (known0 nk) g s n rows0,[]⟩∧KI IT G.X W.ads∧(0≤cy∧cy<1000000000000)∧(0≤re∧re<1000000000000)∧(0≤n∧n≤100*lim)∧nw≤lim∧nk≤lim
section
variable {K:Frag} {G:Gd (vwc 13 K)} {W W1:Wd} {Q:Flow→Shared→Prop} {IT:Addr×Obj}
theorem bPt{W W':Wd}(pre:Pre W.ads W'.ads)(h:W.ads.length=31):∀ i,15≤i→i<31→gN (aAp (frN 31 0) W'.ads) i=gN W.ads i:=fun i _ hi =>
 show gN (aAp (frN 31 0++[]) W'.ads) i=_ from aDa pre (Nat.le_of_eq h.symm) i hi
theorem aZk(H:aAv K)(hcf:G.cf=cfL)(h17:(aBg.drop 13).take 4=aBg.drop 13){bg t place vec wan low mode cz v D g s n:Int}{nw nk lim:Nat}{pw' pk:List (Int×SV)}{fw fk:List (Int×Option SV)}{rw:List SO}(dr:Drew vec wan low mode)(hD:D=v)
  (S:Sat G W1 (sTr bg t place vec wan low mode cz v D (aAe wan) (6*4294967296+low) (9*4294967296+low) (vec-2*(vec/2%2)) g s n nw nk pw' pk fw fk rw))
  (hrw:aAk rw.length 0=rows0) (hb:(0≤n∧n≤100*lim)∧nw+pw'.length≤lim∧nk+pk.length≤lim)
  (ki:∀ β:Bet,PutR W1.ads (G.X.β.d 0) pk (β.d 0)→(∀ j so,gN rw j=some so→DenO G.X W1.ads so (β.o j))→KI IT { G.X with β:=β } W1.ads)
  (cont:∀ β W',Head IT (G.wβ β) W' bg t s lim→Q .next (G.st W')):Run G 13 Q (G.st W1):=by
 have l0:4294967294≤low∧low≤4294967295:=by rcases dr.lo with h|h<;>lia
 refine aDp (S.close (orc':=[])) fun β S2 P R=>?_
 rw[hrw] at S2
 have h30:W1.ads.length=31:=S2.alen
 refine RunS.tail (G:=G) h17 ⟨(?_:RunS (G.wβ β) 13 4 Q (G.st W1)).h⟩
 refine cAg (G:=G.wβ β) (W:=W1) (Q:=Q) H hcf dr hD (fun orc=>S2.mm S2.M) fun W' st pre S3=>cont β (W'.re (frN 31 0)) ⟨st,_,_,g,n,_,_,S3,(ki β P R).keep (bPt pre h30) rfl (fun _ _=>rfl),by lia,by lia,hb.1,hb.2.1,hb.2.2⟩
theorem bQe(H:aAv K)(hcf:G.cf=cfL)(h17:(aBg.drop 13).take 4=aBg.drop 13){bg t place vec wan low mode v go pc g s n:Int}{nw nk lim:Nat}{pw' pk:List (Int×SV)}{fw fk:List (Int×Option SV)}{rw:List SO}(dr:Drew vec wan low mode)(hp:pc=go)
  (S:Sat G W1 (sGo bg t place vec wan low mode v go pc (aAe wan) (6*4294967296+low) (9*4294967296+low) (vec-2*(vec/2%2)) g s n nw nk pw' pk fw fk rw))
  (hrw:aAk rw.length 0=rows0) (hb:(0≤n∧n≤100*lim)∧nw+pw'.length≤lim∧nk+pk.length≤lim)
  (ki:∀ β:Bet,PutR W1.ads (G.X.β.d 0) pk (β.d 0)→(∀ j so,gN rw j=some so→DenO G.X W1.ads so (β.o j))→KI IT { G.X with β:=β } W1.ads)
  (cont:∀ β W',Head IT (G.wβ β) W' bg t s lim→Q .next (G.st W')):Run G 13 Q (G.st W1):=by
 have l0:4294967294≤low∧low≤4294967295:=by rcases dr.lo with h|h<;>lia
 refine aDp (S.close (orc':=[])) fun β S2 P R=>?_
 rw[hrw] at S2
 have h30:W1.ads.length=31:=S2.alen
 refine RunS.tail (G:=G) h17 ⟨(?_:RunS (G.wβ β) 13 4 Q (G.st W1)).h⟩
 refine cAh (G:=G.wβ β) (W:=W1) (Q:=Q) H hcf dr hp (fun orc=>S2.mm S2.M) fun W' st pre S3=>cont β (W'.re (frN 31 0)) ⟨st,_,_,g,n,_,_,S3,(ki β P R).keep (bPt pre h30) rfl (fun _ _=>rfl),by lia,by lia,hb.1,hb.2.1,hb.2.2⟩
end
theorem gB{α:Type}{c:Bool}{a:Out α}{Φ:St→α→Prop}(h:Hl a Φ):Hl (.s c a a) Φ:=⟨fun _=>h,fun _=>h⟩
structure In8(bg place:Int):Prop where
 p1:decide (bg≤place)=true
 p2:decide (place<bg+32)=true
 p3:(place%4==0)=true
 p4:(place%4 != 0)=false
 p5:decide (place<bg)=false
 p6:decide (bg+32<place+4)=false
 p7:(Builtin.bitAnd place 3 != 0)=false
 p8:decide (place+4≤bg+32)=true
 al:place%4=0
theorem in8{bg place:Int}(h:bg≤place∧place<bg+32∧place%4=0)(hb:bg%4=0):In8 bg place :=
 ⟨decide_eq_true h.1,decide_eq_true h.2.1,be h.2.2,aBn h.2.2,decide_eq_false (by lia),decide_eq_false (by lia),aBn (by rw[bitAnd_m2];exact h.2.2),decide_eq_true (by lia),h.2.2⟩
theorem m31{mode:Int}(h:mode=3∨mode=0∨mode=1):Builtin.bitAnd (8+mode) 2147483648=0:=by rcases h with rfl|rfl|rfl<;>decide
theorem m8{mode:Int}(h:mode=3∨mode=0∨mode=1):0≤8+mode∧8+mode<100:=by lia
theorem m17{vec wan low mode:Int}(d:Drew vec wan low mode):Builtin.bitAnd (aAe wan) 131072=0:=by
 rw[aTz,(aCy d.w0 d.w1).2.2,d.w17];rfl
theorem j4{bg place:Int}(h:In8 bg place)(b:Bool):J4 b place=(place-4)%2 ^ 32∧Builtin.bitAnd (J4 b place) 3=0:=by
 have e:J4 b place=Builtin.bitAnd (place+-4) 4294967295:=by
  unfold J4
  exact congrArg (fun z=>Builtin.bitAnd (place+z) 4294967295) (by cases b<;>decide)
 have:=h.al
 rw[e,bitAnd_m2,bitAnd_m32]
 exact⟨rfl,by lia⟩
structure X5(bg A:Int):Prop where
 e:Builtin.bitAnd A 4294967295=x5V bg
 r:0≤A∧A<4294967296
 a:Builtin.bitAnd A (4-1)=0
 m:A%4=0
 o:∃ x:Bool,∀ {α:Type} {t:Out α} {Φ:St→α→Prop},Hl t Φ→Hl (gs (bif x then [decide (bg≤A)=true,decide (A+4≤bg+32)=false] else [decide (bg≤A)=false]) t) Φ
theorem x5{bg:Int}(hb:aHh bg)(b:Bool):X5 bg (A4 b bg):=by
 have e:A4 b bg=Builtin.bitAnd (x5V bg) 4294967295:=by
  unfold A4
  rw[show (bif b then Builtin.bitAnd (aAn 4) 4294967295/aA4 20 else 0)=0 by cases b<;>decide,Int.add_zero]
 rw[e]
 by_cases h:bg=64
 ·subst h;exact⟨by decide,by decide,by decide,by decide,true,fun h=>gG (by decide) (gG (by decide) h)⟩
 ·have e:x5V bg=64:=by unfold x5V;rw[aGk h];rfl
  have:=hb.1
  rw[e]
  exact⟨e.symm▸by decide,by decide,by decide,by decide,false,fun h=>gG (decide_eq_false (show ¬ bg≤64 by lia)) h⟩
section
variable {K:Frag} {G:Gd (vwc 13 K)} {W W1:Wd} {Q:Flow→Shared→Prop} {IT:Addr×Obj}
theorem lb{α β:Type}{l:List α}{m:List β}{n:Int}{nw nk lim:Nat}(h:(0≤n∧n≤100*(lim:Int))∧nw+1≤lim∧nk+1≤lim∧lim≤900)(e:Nat.ble l.length 1=true)(f:Nat.ble m.length 1=true):(0≤n∧n≤100*(lim:Int))∧nw+l.length≤lim∧nk+m.length≤lim :=
 ⟨h.1,Nat.le_trans (Nat.add_le_add_left (Nat.le_of_ble_eq_true e) _) h.2.1,Nat.le_trans (Nat.add_le_add_left (Nat.le_of_ble_eq_true f) _) h.2.2.1⟩
theorem Ready.move{bg t g s n place w vec wan low mode:Int}{nw nk k:Nat}{W2:Wd}(rd:Ready IT G W bg t nw nk g s n k place w vec wan low mode)(pre:Pre W.ads W2.ads)(S:Sat G (W2.re (frN 32 0)) ⟨mB bg t place (wSV k w) (.a 31) vec wan low mode,aDs (aAe wan) (6*4294967296+low) (9*4294967296+low) (vec-2*(vec/2%2)) bg (wd0 nw) (known0 nk) g s n (aAk 17 0),[]⟩):Ready IT G (W2.re (frN 32 0)) bg t nw nk g s n k place w vec wan low mode where
 S:=S
 ki:=rd.ki.keep (fun i _ h=>show gN (aAp (frN 32 0++[]) W2.ads) i=gN W.ads i from aDa pre (Nat.le_of_eq (show W.ads.length=32 from rd.S.alen).symm) i (by lia)) rfl (fun _ _=>rfl)
 due:=aD4 rd.due
 pl:=rd.pl
 dr:=rd.dr
theorem aQr{V:Vw}{X:Ctx V}{ads:List Addr}{d:SO}(h:DenO X ads d (X.β.o 16)):∀ j so so' o,gN (aAk 17 0) j=some so→gN (rows0++[d]) j=some so'→DenO X ads so o→DenO X ads so' o:=fun j so so' o e1 e2 r=>by
 have hj:j<17:=aBl e2
 by_cases h16:j<16
 ·have e3:=aDj (l:=[.raw 16]) (n:=16) (k:=0) h16
  have e4:=aDj (l:=[d]) (n:=16) (k:=0) h16
  cases e1.symm.trans e3
  cases e2.symm.trans e4
  exact r
 ·obtain rfl:j=16:=by lia
  cases e1
  cases e2
  replace r:o=X.β.o 16:=r
  rw[r];exact h
theorem bKe{V:Vw}{X:Ctx V}{ads:List Addr}{d:SO}{q:Nat}(hq:q<5)(h3:∀ i so,gN (aUu q (16+3*q) (17+3*q)) i=some so→DenO X ads so (X.β.o (3*q+i)))(h:DenO X ads d (X.β.o 16)):∀ j so so' o,gN (aAk 17 0) j=some so→gN (aBj q++[d]) j=some so'→DenO X ads so o→DenO X ads so' o:=fun j so so' o e1 e2 r=>by
 have hj:j<17:=by have:=aBl e2;rw[List.length_append,aCz] at this;exact this
 by_cases h16:j<16
 ·have e3:=aDj (l:=[.raw 16]) (n:=16) (k:=0) h16
  cases e1.symm.trans e3
  rw[aDk (by rw[aCz];exact h16)] at e2
  replace r:o=X.β.o (0+j):=r
  rw[Nat.zero_add] at r
  by_cases h15:j<15
  ·rw[aEe h15] at e2
   by_cases e:j/3=q
   ·rw[if_pos e] at e2
    rw[r,show j=3*q+j%3 by lia]
    exact h3 _ _ e2
   ·rw[if_neg e] at e2
    cases e2
    exact r
  ·obtain rfl:j=15:=by lia
   cases e2.symm.trans aJg
   exact r
 ·obtain rfl:j=16:=by lia
  cases e1
  have e4:=aCn (a:=aBj q) (b:=[d]) (i:=0)
  rw[aCz] at e4
  cases e2.symm.trans e4
  replace r:o=X.β.o 16:=r
  rw[r];exact h
theorem aG4(b:Bool)(q:Nat):Nat.ble (pkB b q).length 1=true:=by cases b<;>rfl
section
variable {bg t g s n place w vec wan low mode:Int} {nw nk lim:Nat} (H:aAv K) (hcf:G.cf=cfL) (h17:(aBg.drop 13).take 4=aBg.drop 13) (hbg:aHh bg) (hb:(0≤n∧n≤100*lim)∧nw+1≤lim∧nk+1≤lim∧lim≤900) (cont:∀ β W',Head IT (G.wβ β) W' bg t s lim→Q .next (G.st W'))
theorem agP{p:List Nat}{ads ads':List Addr}{P:Nat→Prop}(hp:∀ i<31,15≤i→P i→gN p i=some i)(pre:Pre ads ads')(h:ads.length=32):∀ i,15≤i→i<31→P i→gN (aAp p ads') i=gN ads i:=fun i a b c=>agree (hp i b a c) pre (by lia)
theorem Ready.pick{q:Nat}(hq:q<5)(rd:Ready IT G W bg t nw nk g s n q place w vec wan low mode):∃ b:Bool,
  (∀ orc,Sat G W ⟨mB bg t place (wSV q w) (.a 31) vec wan low mode,aDs (aAe wan) (6*4294967296+low) (9*4294967296+low) (vec-2*(vec/2%2)) bg (wd0 nw) (knB b nk q) g s n (rwB b q++[aCv q place]),orc⟩) ∧
  ∀ {p:List Nat} {β:Bet} {ads:List Addr},(∀ i<31,15≤i→(b=true→i/3≠5+q)→gN p i=some i)→Pre W.ads ads→PutR (aAp p ads) (G.X.β.d 0) (pkB b q) (β.d 0)→(∀ j so,gN (aBj q) j=some so→DenO G.X (aAp p ads) so (β.o j))→KI IT { G.X with β:=β } (aAp p ads):=by
 have h31:W.ads.length=32:=rd.S.alen
 rcases rd.ki.at_ q hq with hn|⟨a,h1,h2,h3⟩
 ·exact⟨true,fun orc=>rd.S.near rd.S.M (fun f hf=>by cases List.mem_singleton.mp hf;exact hn) rfl (aQr rd.due),
   fun hp pre P R=>rd.ki.new hq (fun i a b c=>agP hp pre h31 i a b fun _=>c) P R⟩
 ·exact⟨false,fun orc=>rd.S.near rd.S.M (fun f hf=>by cases List.mem_singleton.mp hf;exact⟨_,h2,a,h1,rfl⟩) (by show (aBj q++_).length=_;rw[List.length_append,aCz];rfl) (bKe hq h3 rd.due),
   fun hp pre P R=>rd.ki.old hq (fun i a b=>agP hp pre h31 i a b fun h=>nomatch h) P R ⟨a,h1,h2⟩⟩
theorem gB1{b:Bool}{x:Out (List Nat)}{Φ:St→List Nat→Prop}(hk:nk≤1000)(h:Hl x Φ):Hl (gs (bif b then [nk+0≤1000] else []) x) Φ:=by
 cases b
 ·exact h
 ·exact gG hk h
theorem gM{c:Bool}{x:Out (List Nat)}{Φ:St→List Nat→Prop}(a:bFw mode)(b:0≤Builtin.bitAnd (8+mode) 31)(h:Hl x Φ):Hl (gs (bif c then [] else [bFw mode,0≤Builtin.bitAnd (8+mode) 31]) x) Φ:=by
 cases c
 ·exact gG a (gG b h)
 ·exact h
theorem aLc{q:Nat}{b c:Bool}{x:Out (List Nat)}{Φ:St→List Nat→Prop}(hbg:aHh bg)(hb:(0≤n∧n≤100*lim)∧nw+1≤lim∧nk+1≤lim∧lim≤900)(pl:aCq 0 bg place)(hc:(mode==3)=c)(hq:Builtin.bitAnd (aAn q) 4294967295=aAn q)(h:Hl x Φ):Hl (gA bg place mode nw nk b c q x) Φ:=by
 have hin:=in8 pl.2.2 hbg.2.2
 exact gG hin.p1 (gG hin.p2 (gG hin.p3 (gG hin.p4 (gG hin.p5 (gG hin.p6 (gG (show nw≤1000 by lia) (gG hin.p7 (gG hc (gG hin.p1 (gG hin.p8 (gG hin.p4 (gG hin.p5 (gG hin.p6 (gG rfl (gG hq (gB1 (by lia) h))))))))))))))))
theorem Drew.mo(d:Drew vec wan low mode):0≤mode∧mode≤i64:=by unfold i64;rcases d.md with h|h|h<;>lia
theorem aN8{vc:Int}{c:Bool}{x:Out (List Nat)}{Φ:St→List Nat→Prop}(d:Drew vec wan low mode)(hc:(mode==3)=c)(h:Hl x Φ):Hl (gT mode vc wan c x) Φ:=gG hc (gG d.mo (gB (gG ⟨d.w0,d.w1⟩ h)))
theorem tvk{c v:Int}(a:0≤c∧c<100)(b:0≤v∧v<4294967296):tvK c v:=⟨trivial,a,trivial,b,trivial⟩
noncomputable abbrev aPh(q s:Nat):Prop:=∀ b:Bool,∀ i<31,15≤i→(b=true→i/3≠5+q)→gN (fC b q s) i=some i
theorem kC0:aPh 0 53:=by decide
theorem kC1:aPh 1 53:=by decide
theorem kC2:aPh 2 12:=by decide
theorem kC3:aPh 3 12:=by decide
theorem kC4:aPh 4 55:=by decide
include H hcf h17 hbg hb cont
theorem C_0(rd:Ready IT G W bg t nw nk g s n 0 place w vec wan low mode):Run G 7 Q (G.st W):=by
 refine aAd (rd.pick (by decide)) fun b S1 ki=>?_
 exact aAo (a:=7) (b:=6) (c:=13) rfl (seg_end H hcf (S1 _) (sC0 K b _ bg t place vec wan low mode place _ _ _ _ g s n nw nk) (aLc hbg hb rd.pl rfl (by decide) (gG (tvk (by decide) ⟨rd.pl.1,rd.pl.2.1⟩) (aN8 rd.dr rfl (gP fun W' pre S' =>
  aZk (W1:=W'.re _) H hcf h17 rd.dr (aFc rd.pl.1 rd.pl.2.1) S' rfl (lb hb rfl (aG4 b _)) (fun β P R=>ki (kC0 b) pre P R) cont)))))
theorem C_1(rd:Ready IT G W bg t nw nk g s n 1 place w vec wan low mode):Run G 7 Q (G.st W):=by
 refine aAd (rd.pick (by decide)) fun b S1 ki=>?_
 have m:=aBn (m31 rd.dr.md)
 have fin:aR4 G W (aP2 G 13 Q) (sTr bg t place vec wan low mode (8+mode) 0 (Builtin.bitAnd 0 4294967295) (aAe wan) (6*4294967296+low) (9*4294967296+low) (vec-2*(vec/2%2)) g s n nw nk [(place/aA4 2,.z (aAn 1))] (pkB b 1) (fwB 1 place) (fkB 1) (aBj 1)) (fC b 1 53):=fun W' pre S' =>
  aZk (W1:=W'.re _) H hcf h17 rd.dr rfl S' rfl (lb hb rfl (aG4 b _)) (fun β P R=>ki (kC1 b) pre P R) cont
 exact aAo (a:=7) (b:=6) (c:=13) rfl (seg_end H hcf (S1 _) (sC1 K b _ bg t place vec wan low mode 0 _ _ _ _ g s n nw nk) (aLc hbg hb rd.pl rfl (by decide) (gG (tvk (m8 rd.dr.md) (by decide)) (gG rfl (gM m (bitAnd_range _ (by decide)).1 (gG rd.dr.mo (gS (fun _=>gG m (gG ⟨rd.dr.w0,rd.dr.w1⟩ (gP fin))) (fun _=>gG ⟨rd.dr.w0,rd.dr.w1⟩ (gP fin)))))))))
theorem C_2(rd:Ready IT G W bg t nw nk g s n 2 place w vec wan low mode):Run G 7 Q (G.st W):=by
 refine aAd (rd.pick (by decide)) fun b S1 ki=>?_
 exact aAo (a:=7) (b:=6) (c:=13) rfl (seg_end H hcf (S1 _) (sC2 K b _ bg t place vec wan low mode 0 _ _ _ _ g s n _ nw nk) (aLc hbg hb rd.pl rfl (by decide) (gG ⟨rd.dr.w0,rd.dr.w1⟩ (gP fun W' pre S' =>
  bQe (W1:=W'.re _) H hcf h17 rd.dr (bitAnd_m32 _) S' rfl (lb hb rfl (aG4 b _)) (fun β P R=>ki (kC2 b) pre P R) cont))))
theorem C_3(rd:Ready IT G W bg t nw nk g s n 3 place w vec wan low mode):Run G 7 Q (G.st W):=by
 refine aAd (rd.pick (by decide)) fun b S1 ki=>?_
 have j:=j4 (in8 rd.pl.2.2 hbg.2.2) b
 exact aAo (a:=7) (b:=6) (c:=13) rfl (seg_end H hcf (S1 _) (sC3 K b _ bg t place vec wan low mode 0 _ _ _ _ g s n _ nw nk) (aLc hbg hb rd.pl rfl (by decide) (gG (aBn j.2) (gG ⟨rd.dr.w0,rd.dr.w1⟩ (gP fun W' pre S' =>
  bQe (W1:=W'.re _) H hcf h17 rd.dr j.1 S' rfl (lb hb rfl (aG4 b _)) (fun β P R=>ki (kC3 b) pre P R) cont)))))
theorem C_4(rd:Ready IT G W bg t nw nk g s n 4 place w vec wan low mode):Run G 7 Q (G.st W):=by
 refine aAd (rd.pick (by decide)) fun b S1 ki=>?_
 obtain⟨e,r,a,m,x,o⟩:=x5 hbg b
 exact aAo (a:=7) (b:=6) (c:=13) rfl (seg_end H hcf (S1 _) (sC4 K b _ x bg t place vec wan low mode 64 _ _ _ _ g s n nw nk) (aLc hbg hb rd.pl rfl (by decide) (gG (aBn a) (gG (aBn (m17 rd.dr)) (gG rfl (o (gG (aBn m) (gG (tvk (by decide) r) (gG (tvk (by decide) r) (aN8 rd.dr rfl (gP fun W' pre S' =>
  aZk (W1:=W'.re _) H hcf h17 rd.dr e S' rfl (lb hb rfl (aG4 b _)) (fun β P R=>ki (kC4 b) pre P R) cont)))))))))))
theorem C_5(rd:Ready IT G W bg t nw nk g s n 5 place w vec wan low mode):Run G 7 Q (G.st W):=by
 have h31:W.ads.length=32:=rd.S.alen
 have S1:∀ orc,Sat G W ⟨mB bg t place (.z (aAn 5)) (.a 31) vec wan low mode,aDs (aAe wan) (6*4294967296+low) (9*4294967296+low) (vec-2*(vec/2%2)) bg (wd0 nw) (aN0 nk 5) g s n (rows0++[aCv 5 place]),orc⟩:=fun orc=>rd.S.near rd.S.M (fun f hf=>by cases List.mem_singleton.mp hf;exact rd.ki.bad) rfl (aQr rd.due)
 exact aAo (a:=7) (b:=6) (c:=13) rfl (seg_end H hcf (S1 _) (sC5 K _ bg t place vec wan low mode 4294967295 _ _ _ _ g s n nw nk) (aLc hbg hb rd.pl rfl (by decide) (gG ⟨trivial,by decide,trivial⟩ (gG (tvk (by decide) (by decide)) (aN8 rd.dr rfl (gP fun W' pre S' =>
  aZk (W1:=W'.re _) H hcf h17 rd.dr (by decide) S' rfl (lb hb rfl rfl) (fun β P R=>rd.ki.raws (fun i a b=>agP (P:=fun _=>True) (by decide) pre h31 i a b trivial) P R) cont))))))
end
end
section
variable {K:Frag} {G:Gd (vwc 13 K)} {W W1:Wd} {Q:Flow→Shared→Prop} {IT:Addr×Obj} {bg t g s n place w vec wan low mode:Int} {nw nk lim:Nat} (H:aAv K) (hcf:G.cf=cfL) (h17:(aBg.drop 13).take 4=aBg.drop 13) (hbg:aHh bg) (hb:(0≤n∧n≤100*lim)∧nw+1≤lim∧nk+1≤lim∧lim≤900)
include H hcf h17 hbg hb
theorem cA4(rd:Ready IT G W bg t nw nk g s n 6 place w vec wan low mode)(cont:∀ β W',Head IT (G.wβ β) W' bg t s lim→Q .next (G.st W')):Run G 8 Q (G.st W):=by
 have S1:∀ orc,Sat G W ⟨mB bg t place (.i w) (.a 31) vec wan low mode,aDs (aAe wan) (6*4294967296+low) (9*4294967296+low) (vec-2*(vec/2%2)) bg (wd0 nw) (known0 nk) g s n (rows0++[aCv 6 place]),orc⟩:=fun orc=>rd.S.near rd.S.M (fun f hf=>nomatch hf) rfl (aQr rd.due)
 have h31:W.ads.length=32:=rd.S.alen
 exact aAo (a:=8) (b:=5) (c:=13) rfl (seg_end H hcf (S1 _) (sC6 K _ bg t place vec wan low mode place _ _ _ _ g s n w nw nk)
  (gG (aGk (show Builtin.bitAnd place 3≠0 by rw[bitAnd_m2];exact rd.pl.2.2)) (gG (tvk (by decide) ⟨rd.pl.1,rd.pl.2.1⟩) (aN8 rd.dr rfl (gP fun W' pre S' =>
   aZk (W1:=W'.re _) H hcf h17 rd.dr (aFc rd.pl.1 rd.pl.2.1) S' rfl (lb hb rfl rfl) (fun β P R=>rd.ki.raws (fun i a b=>agP (P:=fun _=>True) (by decide) pre h31 i a b trivial) P R) cont)))))
theorem C_6(rd:Ready IT G W bg t nw nk g s n 6 place w vec wan low mode)(cont:∀ β W',Head IT (G.wβ β) W' bg t s lim→Q .next (G.st W')):Run G 7 Q (G.st W):=by
 have S0:∀ orc,Sat G W ⟨mB bg t place (.i w) (.a 31) vec wan low mode,aDs (aAe wan) (6*4294967296+low) (9*4294967296+low) (vec-2*(vec/2%2)) bg (wd0 nw) (known0 nk) g s n (aAk 17 0),orc⟩:=fun orc=>rd.S.mm rd.S.M
 have go:aR4 G W (aP2 G 8 Q) ⟨mB bg t place (.i w) (.a 31) vec wan low mode,aDs (aAe wan) (6*4294967296+low) (9*4294967296+low) (vec-2*(vec/2%2)) bg (wd0 nw) (known0 nk) g s n (aAk 17 0),[]⟩ (frN 32 0):=fun W2 pre2 S2 =>
  cA4 (W:=W2.re (frN 32 0)) H hcf h17 hbg hb (rd.move pre2 S2) cont
 exact aAo (a:=7) (b:=1) (c:=8) rfl (seg_end H hcf (S0 _) (sS6 K bg t place vec wan low mode _ _ _ _ g s n w nw nk) (gS (fun _=>gS (fun _=>gG (beq_eq_false_iff_ne.mpr rd.pl.2.2) (gP go)) (fun _=>gP go)) (fun _=>gP go)))
theorem cA3(rd:Ready IT G W bg t nw nk g s n 7 place w vec wan low mode)(cont:∀ β W',Head IT (G.wβ β) W' bg t s lim→Q .next (G.st W')):Run G 8 Q (G.st W):=by
 have S1:∀ orc,Sat G W ⟨mB bg t place (.i w) (.a 31) vec wan low mode,aDs (aAe wan) (6*4294967296+low) (9*4294967296+low) (vec-2*(vec/2%2)) bg (wd0 nw) (known0 nk) g s n (rows0++[aCv 7 place]),orc⟩:=fun orc=>rd.S.near rd.S.M (fun f hf=>nomatch hf) rfl (aQr rd.due)
 have h31:W.ads.length=32:=rd.S.alen
 have hal:place%4=0:=rd.pl.2.2.1
 have h4:=hbg.2.2
 have o:∃ x:Bool,∀ {t:Out (List Nat)} {Φ:St→List Nat→Prop},Hl t Φ→Hl (gs (bif x then [mL bg place,decide (place+4≤bg+32)=false] else [decide (bg≤place)=false]) t) Φ:=by
  by_cases ho:bg≤place
  ·exact⟨true,fun h=>gG (decide_eq_true ho) (gG (decide_eq_false fun q=>rd.pl.2.2.2 ⟨ho,by lia⟩) h)⟩
  ·exact⟨false,fun h=>gG (decide_eq_false ho) h⟩
 refine aA6 o fun x o=>?_
 have tv:tvK 1 place:=tvk (by decide) ⟨rd.pl.1,rd.pl.2.1⟩
 exact aAo (a:=8) (b:=5) (c:=13) rfl (seg_end H hcf (S1 _) (sC7 K _ x bg t place vec wan low mode place _ _ _ _ g s n w nw nk)
  (gG (aBn (by rw[bitAnd_m2];exact hal)) (gG rfl (o (gG (aBn hal) (gG tv (gG tv (aN8 rd.dr rfl (gP fun W' pre S' =>
   aZk (W1:=W'.re _) H hcf h17 rd.dr (aFc rd.pl.1 rd.pl.2.1) S' rfl (lb hb rfl rfl) (fun β P R=>rd.ki.raws (fun i a b=>agP (P:=fun _=>True) (by decide) pre h31 i a b trivial) P R) cont)))))))))
theorem C_7(rd:Ready IT G W bg t nw nk g s n 7 place w vec wan low mode)(cont:∀ β W',Head IT (G.wβ β) W' bg t s lim→Q .next (G.st W')):Run G 7 Q (G.st W):=by
 have S0:∀ orc,Sat G W ⟨mB bg t place (.i w) (.a 31) vec wan low mode,aDs (aAe wan) (6*4294967296+low) (9*4294967296+low) (vec-2*(vec/2%2)) bg (wd0 nw) (known0 nk) g s n (aAk 17 0),orc⟩:=fun orc=>rd.S.mm rd.S.M
 have go:aR4 G W (aP2 G 8 Q) ⟨mB bg t place (.i w) (.a 31) vec wan low mode,aDs (aAe wan) (6*4294967296+low) (9*4294967296+low) (vec-2*(vec/2%2)) bg (wd0 nw) (known0 nk) g s n (aAk 17 0),[]⟩ (frN 32 0):=fun W2 pre2 S2 =>
  cA3 (W:=W2.re (frN 32 0)) H hcf h17 hbg hb (rd.move pre2 S2) cont
 exact aAo (a:=7) (b:=1) (c:=8) rfl (seg_end H hcf (S0 _) (sS7 K bg t place vec wan low mode _ _ _ _ g s n w nw nk) (gS (fun c=>gG (decide_eq_false fun q=>rd.pl.2.2.2 ⟨of_decide_eq_true c,q⟩) (gP go)) (fun _=>gP go)))
end
section
variable {K:Frag} {G:Gd (vwc 13 K)} {W W1:Wd} {Q:Flow→Shared→Prop} {IT:Addr×Obj}
theorem cA2(H:aAv K)(hcf:G.cf=cfL)(h17:(aBg.drop 13).take 4=aBg.drop 13){bg t g s n place w vec wan low mode:Int}{nw nk lim k:Nat}(hk:k<8)(hbg:aHh bg)(hb:(0≤n∧n≤100*lim)∧nw+1≤lim∧nk+1≤lim∧lim≤900)(rd:Ready IT G W bg t nw nk g s n k place w vec wan low mode)(cont:∀ β W',Head IT (G.wβ β) W' bg t s lim→Q .next (G.st W')):Run G 7 Q (G.st W) :=
 match k,hk,rd with
 | 0,_,rd=>C_0 H hcf h17 hbg hb cont rd
 | 1,_,rd=>C_1 H hcf h17 hbg hb cont rd
 | 2,_,rd=>C_2 H hcf h17 hbg hb cont rd
 | 3,_,rd=>C_3 H hcf h17 hbg hb cont rd
 | 4,_,rd=>C_4 H hcf h17 hbg hb cont rd
 | 5,_,rd=>C_5 H hcf h17 hbg hb cont rd
 | 6,_,rd=>C_6 H hcf h17 hbg hb rd cont
 | 7,_,rd=>C_7 H hcf h17 hbg hb rd cont
 |k+8,h,_=>absurd h (by lia)
theorem aNu{W2:Wd}(pre:Pre W.ads W2.ads)(h:W.ads.length=32):∀ i,i<32→gN (aAp (frN 32 0) W2.ads) i=gN W.ads i:=fun i hi =>
 show gN (aAp (frN 32 0++[]) W2.ads) i=gN W.ads i from aDa pre (Nat.le_of_eq h.symm) i hi
theorem bQf(H:aAv K)(hcf:G.cf=cfL)(h17:(aBg.drop 13).take 4=aBg.drop 13){bg t st cy re g s n place w:Int}{nw nk lim k:Nat}(hk:k<8)(hbg:aHh bg)(bx:BoxOk s n)(hc:0≤cy∧cy<1000000000000)(hr:0≤re∧re<1000000000000)(hb:(0≤n∧n+6≤100*lim)∧nw+1≤lim∧nk+1≤lim∧lim≤900)
  (sc:Scene IT G W bg t st cy re nw nk g s n k place w) (cont:∀ β W',Head IT (G.wβ β) W' bg t s lim→Q .next (G.st W')):Run G 1 Q (G.st W):=by
 have h31:W.ads.length=32:=sc.S.alen
 refine aAo (a:=1) (b:=4) (c:=5) rfl (bN0 (w:=wI k w) H hcf (fun orc=>sc.S.mm (bX1 sc.S.M)) bx fun W1 g' n' vec wan low mode a1 a2 dr p1 S1=>(?_:Run G 5 Q (G.st W1)))
 have a31:=aNu p1 h31
 have l1:(W1.re (frN 32 0)).ads.length=32:=S1.alen
 refine aAo (a:=5) (b:=1) (c:=6) rfl (bNz (W:=W1.re (frN 32 0)) H hcf (fun orc=>S1.mm S1.M) dr hc hr fun W2 p2 S2=>(?_:Run G 6 Q (G.st W2)))
 have b31:=aNu p2 l1
 have l2:(W2.re (frN 32 0)).ads.length=32:=S2.alen
 refine aAo (a:=6) (b:=1) (c:=7) rfl (bNy (W:=W2.re (frN 32 0)) H hcf (fun orc=>S2.mm S2.M) hbg (by lia) fun W3 p3 S3=>(?_:Run G 7 Q (G.st W3)))
 have c31:=aNu p3 l2
 refine cA2 (W:=W3.re (frN 32 0)) H hcf h17 hk hbg ⟨⟨by lia,by lia⟩,hb.2⟩ ⟨S3.mm (bX0 S3.M),sc.ki.keep (fun i _ h=>(c31 i (by lia)).trans ((b31 i (by lia)).trans (a31 i (by lia)))) rfl (fun _ _=>rfl),aD4 sc.due,sc.pl,dr⟩ cont
theorem aT7(H:aAv K)(hcf:G.cf=cfL)(h17:(aBg.drop 13).take 4=aBg.drop 13){bg t s:Int}{lim:Nat}(ht:t≠0)(hbg:aHh bg)(hs:0≤s∧s<2147483629)(hl:lim≤800)(hd:Head IT G W bg t s lim)(cont:∀ β W',Head IT (G.wβ β) W' bg t s (lim+1)→Q .next (G.st W')):Run G 0 Q (G.st W):=by
 refine bL1 hd fun st cy re g n nw nk z_=>bF1 z_ fun S ki hc hr hn hw hk=>?_
 have bx:BoxOk s n:=⟨hs.1,hs.2,hn.1,by lia⟩
 refine aAo (a:=0) (b:=1) (c:=1) rfl (cA7 H hcf S ki ht hbg bx fun β W' k place w g' n' hk8 a1 a2 sc=>?_)
 have:=bQf (G:=G.wβ β) (Q:=Q) H hcf h17 hk8 hbg ⟨hs.1,hs.2,by lia,by lia⟩ hc hr ⟨⟨by lia,by lia⟩,by lia,by lia,by lia⟩ sc fun β' W' h=>cont β' W' h
 exact⟨this.h⟩
end
section
variable {K:Frag} {G:Gd (vwc 13 K)} {W W1:Wd} {Q:Flow→Shared→Prop} {IT:Addr×Obj}
theorem KI.none{V:Vw}{X:Ctx V}{ads:List Addr}(h:X.β.d 0=[])(it:gN ads 30=some IT.1∧X.β.o 15=IT.2):KI IT X ads:=⟨by rw[h];rfl,fun q _=>.inl (by rw[h];rfl),it⟩
theorem bN1(H:aAv K)(hcf:G.cf=cfL){bg st cy re g s n:Int}{nw nk:Nat}(S:∀ orc,Sat G W ⟨mH bg 0,aCk st cy re bg (.dv none nw [] []) (known0 nk) g s n (aAk 6 0),orc⟩)(hi:gN W.ads 20=some IT.1∧G.X.β.o 5=IT.2)(hd:G.X.β.d 0=[])(hb:aHh bg)(bx:BoxOk s n)
  (cont:∀ β W' place g' n',n≤n'→n'≤n+4→Scene IT (G.wβ β) W' bg 0 st cy re nw nk g' s n' 0 place 0→Q .next (G.st W')):RunS G 0 1 Q (G.st W):=by
 refine aFp (aBb (g:=g) (s:=s) (n:=n) (many:=8) (by decide)) fun d0 g0 n0 t0 a0 b0 e0 f0=>?_
 refine aFp (aBb (g:=g0) (s:=s) (n:=n0) (many:=2) (by decide)) fun d1 g1 n1 t1 a1 b1 e1 f1=>?_
 have dk0:=bx.dk (Int.le_refl n) (by lia) (many:=8) (by decide) (by decide)
 have dk1:=bx.dk e0 (by lia) (many:=2) (by decide) (by decide)
 have pl:=aS4 hb a0 b0 a1 b1
 refine seg_end H hcf (S _) (aKr K bg st cy re g s n d0 g0 n0 d1 g1 n1 nw nk) (gG rfl (gG ⟨t0,dk0⟩ (gG ⟨t1,dk1⟩ (gG ⟨a1,by lia⟩ (gG (aBn pl.2.2.2.2) (gG (decide_eq_true pl.2.2.1) (gG (decide_eq_true pl.2.2.2.1) (gP fun W' pre S'=>?_))))))))
 refine aDp (S'.close (orc':=[])) fun β S1 P R=>?_
 have hd':β.d 0=[]:=(aC0 P).trans hd
 exact cont β (W'.re _) _ _ _ (by lia) (by lia) ⟨S1,KI.none hd' ⟨aCa (t:=30) (i:=20) rfl (pre.get hi.1),(show β.o 15=G.X.β.o 5 from R 15 (.raw 5) rfl).trans hi.2⟩,aD4 (k:=0) (R 16 _ rfl),pl⟩
theorem aPx(H:aAv K)(hcf:G.cf=cfL)(h17:(aBg.drop 13).take 4=aBg.drop 13){bg st cy re g s n:Int}{nw nk:Nat}(hbg:aHh bg)(hs:0≤s∧s<2147483629)(S:∀ orc,Sat G W ⟨mH bg 0,aCk st cy re bg (.dv none nw [] []) (known0 nk) g s n (aAk 6 0),orc⟩)(hi:gN W.ads 20=some IT.1∧G.X.β.o 5=IT.2)(hd:G.X.β.d 0=[])(hc:0≤cy∧cy<1000000000000)(hr:0≤re∧re<1000000000000)(hn:0≤n∧n≤50)(hw:nw=0∧nk=0)
  (cont:∀ β W',Head IT (G.wβ β) W' bg 0 s 1→Q .next (G.st W')):Run G 0 Q (G.st W):=by
 have bx:BoxOk s n:=⟨hs.1,hs.2,hn.1,by lia⟩
 refine aAo (a:=0) (b:=1) (c:=1) rfl (bN1 H hcf S hi hd hbg bx fun β W' place g' n' a1 a2 sc=>?_)
 have:=bQf (G:=G.wβ β) (Q:=Q) (lim:=1) H hcf h17 (by decide) hbg ⟨hs.1,hs.2,by lia,by lia⟩ hc hr ⟨⟨by lia,by lia⟩,by lia,by lia,by lia⟩ sc fun β' W' h=>cont β' W' h
 exact⟨this.h⟩
theorem h17:(aBg.drop 13).take 4=aBg.drop 13:=aAa (by k_slotget)
end
noncomputable def bEb(K:Frag)(D:List (Int×Int×Int)):Rec:=aYq (vwc 1 K) (hkL (dr D)) 300
noncomputable def bN8(K:Frag)(D:List (Int×Int×Int))(a b:Nat)(cl p:List Nat)(pats:List SO)(nm:List (Str×SV))(σ:St):Out (List Nat):=bf ((bEb K D).bk cfL ((aQ4.drop a).take b) σ) fun σ' x=>bBi x (bFy cl p pats nm σ')
noncomputable def mQ(bg:Int):List (Str×SV):=[(aGp,.a 14),(aJj,.i bg),(aKu,.a 5)]
noncomputable def mS(bg:Int)(v:Value):List (Str×SV):=[(aGp,.a 14),(aJj,.i bg),(aKu,.a 5),(aB7,.k v)]
noncomputable def bMw(g s n:Int):List SO:=[.seq false [.i g,.i s,.i n] 0,.cell none]
noncomputable def pP:List Nat:=[12,11,16,15,17,4,3,5,7,6,8,20,21,1,0,9,10,13,14,18]
noncomputable def bM8:List SO:=[.any,.any,.any,.any,.any]
noncomputable abbrev bgV(d0 d1:Int):Int:=pick d1 [64+4*d0,96,2 ^ 32-32]
theorem bGw(K:Frag)(v:Value)(g s n d0 g0 n0 d1 g1 n1:Int):bN8 K [(d0,g0,n0),(d1,g1,n1)] 1 3 [] pP (aD3 .u .u .u (.i 0) 0 0 .u .u .u .u 0 (.di []) (.di []) 0 0 0 bM8) (mS 0 .none) ⟨[(aGp,.a 0),(aB7,.k v)],bMw g s n,[0,1,0,1,1,1,0,0]⟩ =
  .g (aCd g s n 900 d0 g0 n0∧DrawOk s n 900) (.g (aCd g0 s n0 3 d1 g1 n1∧DrawOk s n0 3) (.g (0≤d1∧d1<3) (.g (decide (0≤bgV d0 d1)=true) (.g (decide (bgV d0 d1<bgV d0 d1+32)=true) (.g (decide (bgV d0 d1+32≤4294967296)=true) (.g ((bgV d0 d1%4 != 0)=false) (.g (((bgV d0 d1+32)%4 != 0)=false) (.p ⟨mS (bgV d0 d1) v,aD3 .u .u .u (.i 0) 0 0 .u .u .u .u (bgV d0 d1) (.di []) (.di []) g1 s n1 bM8,[]⟩ pP)))))))):=aAa (by k_slotget)
section
variable {K:Frag} {G:Gd (vwc 1 K)} {W:Wd}
noncomputable abbrev Gd.to13(G:Gd (vwc 1 K))(vo:VOk G.X.w.params (vwc 13 K))(β:Bet):Gd (vwc 13 K):=⟨⟨G.X.prog,G.X.w,vo,G.X.p,G.X.loose,G.X.mean,G.X.mg,G.X.mb,β⟩,G.A,G.cn,G.L,G.a,G.ccd,G.cl,G.outer,G.A₀,G.base,G.g,G.gens,G.drawn,G.os,G.cf,G.E⟩
theorem Ok.to13(O:Ok G)(vo:VOk G.X.w.params (vwc 13 K))(β:Bet):Ok (G.to13 vo β):=⟨O.B,O.K,O.T,O.KB,O.TB,O.D,O.fr,O.hk,O.dp,O.un,O.tp,O.own⟩
theorem bL9{vo:VOk G.X.w.params (vwc 13 K)}:∀ (ads:List Addr) (so:SO) (o:Obj),DenO G.X ads so o→DenO (G.to13 vo G.X.β).X ads so o:=fun ads so o d=>by
 cases so<;>exact d
theorem aUt{K:Frag}(H:aAv K)(D:List (Int×Int×Int)):Snd (vwc 1 K) (bEb K D):=aF0 (aTi H (dr D)) 300
theorem bBf(vo:VOk G.X.w.params (vwc 13 K))(hcf:G.cf=cfL){D:List (Int×Int×Int)}(H:Snd (vwc 1 K) (bEb K D)){p:List Nat}{pats:List SO}{nm:List (Str×SV)}{σ:St}{a b:Nat}{t:Out (List Nat)}{Q:Flow→Shared→Prop}(S:Sat G W σ)(e:bN8 K D a b [] p pats nm σ=t)(hp:gN p 13=some 1)
  (h:Hl t (fun σ' p'=>∀ W',Pre W.ads W'.ads→Sat (G.to13 vo G.X.β) (W'.re p) σ'→Q .next (G.st W'))):G.wp (execs ((aQ4.drop a).take b) G.env) Q (G.st W):=by
 subst e
 have h0:Hl (Mine.bf ((bEb K D).bk G.cf ((aQ4.drop a).take b) σ) fun σ' x=>bBi x (bFy [] p pats nm σ')) (fun σ' p'=>∀ W',Pre W.ads W'.ads→Sat (G.to13 vo G.X.β) (W'.re p) σ'→Q .next (G.st W')):=by rw[hcf];exact h
 refine H.bk S (h0.to fun {W' σ' x} S' pre h=>?_)
 cases x with
 |r _=>exact h.elim
 |n =>
  refine aBa (Hl.ifT_e h) fun h1 h=>?_
  refine aAd (Hl.onO_e h) fun led' h2 h=>?_
  refine aAd (Hl.onO_e h) fun m' h3 h=>?_
  refine h W' pre (S'.remap (S'.ok.to13 vo G.X.β) ⟨rfl,rfl,rfl,rfl,rfl⟩ bL9 (by rw[hcf];rfl) ⟨_,h2⟩ (aGc S'.M h3) (aAc h1).1 fun _ x i e=>?_)
  have e0:=aAr (show (bif aB8 x aAu then some 13 else none)=some i from e)
  cases e0.2
  exact⟨1,by show (bif aB8 x aAu then some 1 else none)=some 1;rw[e0.1];rfl,hp⟩
end
section
variable {K:Frag} {G:Gd (vwc 13 K)} {W:Wd}
theorem Sat.start{bg g s n:Int}{m:List (Str×SV)}(S:Sat G W ⟨m,aD3 .u .u .u (.i 0) 0 0 .u .u .u .u bg (.di []) (.di []) g s n bM8,[]⟩) :
  ∃ β:Bet,β.d 0=[]∧∀ orc,Sat (G.wβ β) W ⟨m,aCk 0 0 0 bg (.dv none 0 [] []) (known0 0) g s n (aAk 5 0),orc⟩:=by
 refine aFp (aD2 S.O) fun ow ok os z0_3 z0_4 h3 _ k=>?_
 refine aAd z0_3 fun l1 a1 d1=>?_
 refine aAd z0_4 fun l2 a2 d2=>?_
 cases a1
 cases a2
 refine⟨⟨fun _=>[],fun j=>os.getD j aNp⟩,rfl,fun orc=>S.chg ⟨fun _=>[],fun j=>os.getD j aNp⟩ (k _ _ _ _ ⟨[],[],(fun _ e=>nomatch e),Nat.le_refl 0,.nil,(fun _ e=>nomatch e),d1⟩ ⟨[],[],(fun _ e=>rfl),Nat.le_refl 0,.nil,(fun _ e=>nomatch e),d2⟩ ?_) S.M⟩
 have e5:os.length=5:=h3.len.symm
 have:=aF1 (X:={ G.X with β:=⟨fun _=>[],fun j=>os.getD j aNp⟩ }) (ads:=W.ads) os 0 fun j o e=>by rw[Nat.zero_add];exact (aIn e).symm
 rw[e5] at this
 exact this
end
section
variable {K:Frag} {G:Gd (vwc 1 K)} {W:Wd} {Q:Flow→Shared→Prop}
structure RunP(G:Gd (vwc 1 K))(a b:Nat)(Q:Flow→Shared→Prop)(s:Shared):Prop where
 h:G.wp (execs ((aQ4.drop a).take b) G.env) Q s
theorem bDk{d0 d1:Int}(a0:0≤d0)(b0:d0<900)(a1:0≤d1)(b1:d1<3):aHh (bgV d0 d1):=by
 have e32:(2:Int) ^ 32=4294967296:=rfl
 rcases aVz (a:=64+4*d0) (b:=96) (c:=2 ^ 32-32) a1 b1 with⟨_,h⟩|⟨_,h⟩|⟨_,h⟩<;>(unfold aHh bgV;rw[h];lia)
theorem aMv(H:aAv K)(vo:VOk G.X.w.params (vwc 13 K))(hcf:G.cf=cfL){v:Value}{g s n:Int}(hs:0≤s∧s<2147483629)(hn:n=0)(S:∀ orc,Sat G W ⟨[(aGp,.a 0),(aB7,.k v)],bMw g s n,orc⟩)
  (cont:∀ β W' bg g' n',aHh bg→0≤n'→n'≤2→β.d 0=[]→(∀ orc,Sat (G.to13 vo β) W' ⟨mS bg v,aCk 0 0 0 bg (.dv none 0 [] []) (known0 0) g' s n' (aAk 5 0),orc⟩)→Q .next (G.st W')):RunP G 1 3 Q (G.st W):=by
 refine aFp (aBb (g:=g) (s:=s) (n:=n) (many:=900) (by decide)) fun d0 g0 n0 t0 a0 b0 e0 f0=>?_
 refine aFp (aBb (g:=g0) (s:=s) (n:=n0) (many:=3) (by decide)) fun d1 g1 n1 t1 a1 b1 e1 f1=>?_
 have bx:BoxOk s n:=⟨hs.1,hs.2,by lia,by lia⟩
 have hb:=bDk a0 b0 a1 b1
 refine aIv hb fun h1 h2 h3=>?_
 refine⟨bBf vo hcf (aUt H _) (S _) (bGw K v g s n d0 g0 n0 d1 g1 n1) rfl (gG ⟨t0,bx.dk (by lia) (by lia) (by decide) (by decide)⟩ (gG ⟨t1,bx.dk (by lia) (by lia) (by decide) (by decide)⟩ (gG ⟨a1,b1⟩ (gG (decide_eq_true (by lia)) (gG (decide_eq_true (by lia)) (gG (decide_eq_true (by lia)) (gG (aBn h3) (gG (aBn (by lia)) (gP fun W' pre S'=>?_)))))))))⟩
 refine aAd (Sat.start S') fun β hd S2=>?_
 exact cont β (W'.re pP) _ g1 n1 ⟨h1,h2,h3⟩ (by lia) (by lia) hd S2
end
noncomputable def lcS:Scope:=⟨.function,[(bG4,.local),(aSa,.local),(q66,.free)],false,false,[]⟩
noncomputable def stA:Stmt:=.Assign [(.Name aLt ⟨1012,4,1012,8⟩)] (.BinOp (.List [(.Constant (.int 1) 0 ⟨1012,12,1012,13⟩),(.Constant (.int 3) 0 ⟨1012,15,1012,16⟩),(.Constant (.int 5) 0 ⟨1012,18,1012,19⟩),(.Constant (.int 7) 0 ⟨1012,21,1012,22⟩),(.Constant (.int 8) 0 ⟨1012,24,1012,25⟩),(.Constant (.int 17) 0 ⟨1012,27,1012,29⟩),(.Constant (.int 18) 0 ⟨1012,31,1012,33⟩),(.Constant (.int 19) 0 ⟨1012,35,1012,37⟩)] ⟨1012,11,1012,38⟩) .Add (.IfExp (.Compare (.BinOp (.BinOp (.Name q66 ⟨1012,54,1012,59⟩) .FloorDiv (.BinOp (.Constant (.int 2) 0 ⟨1012,63,1012,64⟩) .Pow (.Constant (.int 11) 0 ⟨1012,68,1012,70⟩) ⟨1012,63,1012,70⟩) ⟨1012,54,1012,70⟩) .Mod (.Constant (.int 4) 0 ⟨1012,73,1012,74⟩) ⟨1012,54,1012,74⟩) [.NotEq] [(.Constant (.int 2) 0 ⟨1012,78,1012,79⟩)] ⟨1012,54,1012,79⟩) (.List [(.Constant (.int 11) 0 ⟨1012,43,1012,45⟩),(.Constant (.int 12) 0 ⟨1012,47,1012,49⟩)] ⟨1012,42,1012,50⟩) (.List [] ⟨1012,85,1012,87⟩) ⟨1012,42,1012,87⟩) ⟨1012,11,1012,88⟩) ⟨1012,4,1012,88⟩
noncomputable def stR:Stmt:=.Return (some (.Call (.Name aPj ⟨1013,11,1013,14⟩) [(.ListComp (.BinOp (.Constant (.int 2) 0 ⟨1013,16,1013,17⟩) .Pow (.Name aSa ⟨1013,21,1013,23⟩) ⟨1013,16,1013,23⟩) [⟨(.Name aSa ⟨1013,28,1013,30⟩),(.Name aLt ⟨1013,34,1013,38⟩),[(.Compare (.BinOp (.BinOp (.Name q66 ⟨1013,42,1013,47⟩) .FloorDiv (.BinOp (.Constant (.int 2) 0 ⟨1013,51,1013,52⟩) .Pow (.Name aSa ⟨1013,56,1013,58⟩) ⟨1013,51,1013,58⟩) ⟨1013,42,1013,58⟩) .Mod (.Constant (.int 2) 0 ⟨1013,61,1013,62⟩) ⟨1013,42,1013,62⟩) [.Eq] [(.Constant (.int 1) 0 ⟨1013,66,1013,67⟩)] ⟨1013,42,1013,67⟩)],0⟩] lcS ⟨1013,15,1013,68⟩)] [] ⟨1013,11,1013,69⟩)) ⟨1013,4,1013,69⟩
noncomputable def stS:Scope:=⟨.function,[(q66,.cell),(aLt,.local),(aPj,.globalImplicit)],false,false,[(bG5,.str q66),(bG5,.str aLt),(bG5,.str aSa)]⟩
noncomputable def stP:Arguments:=⟨[],[⟨q66,none,⟨1011,16,1011,21⟩⟩],none,[],[],none,[]⟩
noncomputable def aFa(x:Int):List Int:=[1,3,5,7,8,17,18,19]++(if x/2048%4=2 then [] else [11,12])
section
variable {prog:Program} {w:World} {A:Around} {E:Value→Shared→Prop} {s:Shared} {h₀:Heap} {L f c:Addr} {m:Str→Option Value} {news:List (Addr×Obj)} {cn:Str} {ccd:Value} {o:Obj} {x:Int} {t:Tok}
theorem aJ9{ns:List Int}:∀ {ws:List Value},Dens [] (ns.map .z) ws→IntsAre ws ns:=by
 induction ns with
 |nil=>intro ws h;cases h;exact .nil
 |cons n ns ih =>
  intro ws h
  refine aXt (All2.uncons (show Dens [] (.z n::ns.map .z) ws from h)) fun v r r0_2 z0_3 h2=>?_
  subst r0_2
  obtain⟨t,rfl⟩:=z0_3
  exact .cons _ _ (ih h2)
theorem bGr:stS.names.lookup aLt=some .local:=by decide
theorem aUj:stS.names.lookup q66=some .cell:=by decide
theorem bGq:stS.names.lookup aPj=some .globalImplicit:=by decide
theorem bN6{cl:List (Str×Addr)}:(envX cn stS L f ccd cl).kindOf aLt=some .local:=bGr
theorem bN7{cl:List (Str×Addr)}:(envX cn stS L f ccd cl).kindOf q66=some .cell:=aUj
theorem bSe{cl:List (Str×Addr)}:(envX cn stS L f ccd cl).kindOf aPj=some .globalImplicit:=bGq
structure WpS{α:Type}(M:Model)(A:Around)(t:Sem α)(Q:α→Shared→Prop)(E:Value→Shared→Prop)(s:Shared):Prop where
 h:wpAny M A t Q E s
theorem aUi{Q:Flow→Shared→Prop}(F:Fr h₀ L s.heap m)(N:News h₀ L s.heap ((c,o)::news))(hd:o.data=.cell (some (.int x t)))
  (k:∀ l ws h' tk,Fr h₀ L h' (fun y=>if y=aLt then some (.ref l) else m y)→News h₀ L h' ((c,o)::news)→h'.IsList l ws.toArray→IntsAre ws (aFa x)→Q .next { s with heap:=h',toks:=tk }) :
  WpS (model prog w) A (exec stA (envX cn stS L f ccd [(q66,c)])) Q E s:=by
 refine⟨?_⟩
 unfold stA
 with_reducible refine wpAny_Assign_Name ?_ (nc (by with_unfolding_all rfl))
 with_reducible refine wpAny_BinOp ?_
 with_reducible refine List_ ?_
 with_reducible refine aF9 (ns:=[1,3,5,7,8,17,18,19]) (by with_unfolding_all rfl) ?_
 intro ws t1 aw
 have i1:=aJ9 (aw [])
 refine newList_K (s:={ s with toks:=t1 }) F N ?_ (by rw[i1.length,sizeLine_eq];decide)
 intro D h1 F1 N1 lt1
 have l1:h1.IsList D ws.toArray:=News.isList N1 (.head _)
 have last:∀ {ms:List Int} {vs:List Value} {l2:Addr} {h2:Heap} {tk:Nat},(if x/2048%4=2 then [] else [11,12])=ms→IntsAre vs ms→h2.IsList l2 vs.toArray→Fr h₀ L h2 m→News h₀ L h2 ((D,listOf ws.toArray 0)::(c,o)::news) →
   WpS (model prog w) A (binaryOp .Add (.ref D) (.ref l2)) (fun v s'=>wpAny (model prog w) A (storeName (envX cn stS L f ccd [(q66,c)]) aLt v) (fun _ s''=>Q .next s'') E s') E { s with heap:=h2,toks:=tk }:=by
  intro ms vs l2 h2 tk e i2 il F2 N2
  refine⟨?_⟩
  have hm:ms.length≤2:=by rw[← e];split<;>decide
  refine add_lists_ints (s:={ s with heap:=h2,toks:=tk }) F2 N2 (News.isList N2 (.head _)) il i1 i2 ?_ (by rw[sizeLine_eq];simp only[List.length_cons,List.length_nil];lia)
  intro h3 F3 N3 i3
  refine storeX_L F3 N3 ?_ rfl bN6
  intro h4 F4 N4
  refine k _ _ h4 _ F4 (fun p hp=>N4 p (.tail _ (.tail _ hp))) (News.isList N4 (.head _)) ?_
  unfold aFa;rw[e];exact i3
 with_reducible refine IfExp_ ?_
 with_reducible refine wpAny_isTrue_Compare1 ?_ (by with_unfolding_all rfl)
 with_reducible refine wpAny_BinOp ?_
 with_reducible refine wpAny_BinOp ?_
 with_reducible refine nameX_C N1 (by with_unfolding_all rfl) (List.Mem.tail _ (List.Mem.head _)) hd ?_ (by with_unfolding_all rfl) bN7 (by with_unfolding_all decide)
 with_reducible refine wpAny_BinOp ?_
 with_reducible refine wpAny_Constant_int ?_
 with_reducible refine wpAny_Constant_int ?_
 with_reducible refine aMw (r:=2048) (by with_unfolding_all decide) (by with_unfolding_all decide) (by with_unfolding_all decide) (by with_unfolding_all rfl) ?_
 with_reducible refine aXu (by with_unfolding_all decide) (by with_unfolding_all decide) ?_
 with_reducible refine wpAny_Constant_int ?_
 with_reducible refine aQu (by with_unfolding_all decide) ?_
 with_reducible refine wpAny_Constant_int ?_
 with_reducible refine ne_int ?_
 with_reducible refine wpAny_truthy_bool ?_
 by_cases e:x/2048%4=2
 ·rw[if_neg (by simp[e])]
  with_reducible refine List_ ?_
  with_reducible refine args_nil ?_
  refine newList_K (s:={ s with heap:=h1,toks:=_ }) F1 N1 ?_ (by decide)
  intro D2 h2 F2 N2 lt2
  exact (last (if_pos e) .nil (News.isList N2 (.head _)) F2 fun p hp=>N2 p (.tail _ hp)).h
 ·rw[if_pos (by simp[e])]
  with_reducible refine List_ ?_
  with_reducible refine aF9 (ns:=[11,12]) (by with_unfolding_all rfl) ?_
  intro ws2 t2 aw2
  have i2:=aJ9 (aw2 [])
  refine newList_K (s:={ s with heap:=h1,toks:=_ }) F1 N1 ?_ (by rw[i2.length,sizeLine_eq];decide)
  intro D2 h2 F2 N2 lt2
  exact (last (if_neg e) i2 (News.isList N2 (.head _)) F2 fun p hp=>N2 p (.tail _ hp)).h
theorem aF8{a:Int}(h:a∈aFa x):0≤a∧a≤19:=by
 unfold aFa at h
 split at h<;>(simp only[List.cons_append,List.nil_append,List.append_nil,List.mem_cons,List.not_mem_nil,or_false] at h;omega)
theorem aQo{a:Int}(h:a∈aFa x):0<(2:Int) ^ a.toNat∧(2:Int) ^ a.toNat≤4294967296:=by
 refine⟨Int.pow_pos (by decide),?_⟩
 have:(2:Nat) ^ a.toNat≤2 ^ 19:=Nat.pow_le_pow_right (by decide) (by have:=aF8 h;lia)
 have e:((2 ^ a.toNat:Nat):Int)=(2:Int) ^ a.toNat:=by simp
 have:((2 ^ a.toNat:Nat):Int)≤((2 ^ 19:Nat):Int):=Int.ofNat_le.mpr this
 rw[← e]
 lia
noncomputable abbrev bDi(x a:Int):Bool:=x/(2:Int) ^ a.toNat%2==1
theorem sum_cons(p:Int→Bool)(f:Int→Int)(n:Int)(l:List Int):(((n::l).filter p).map f).sum=(if p n=true then f n else 0)+((l.filter p).map f).sum:=by
 cases h:p n<;>simp[List.filter_cons,h]
theorem bMx(x k m:Int):(if (x/k%2==1)=true then m else 0)=m*(x/k%2):=by
 rcases Int.emod_two_eq (x/k) with h|h<;>simp[h]
theorem aP5(x:Int):(((aFa x).filter (bDi x)).map (fun a:Int=>(2:Int) ^ a.toNat)).sum=aAe x:=by
 have b:∀ n:Int,(if bDi x n=true then (2:Int) ^ n.toNat else 0)=(2:Int) ^ n.toNat*(x/(2:Int) ^ n.toNat%2):=fun n=>bMx x _ _
 have e:∀ l:List Int,((([1,3,5,7,8,17,18,19]++l).filter (bDi x)).map (fun a:Int=>(2:Int) ^ a.toNat)).sum=2*(x/2%2)+(8*(x/8%2)+(32*(x/32%2)+(128*(x/128%2)+(256*(x/256%2)+(131072*(x/131072%2)+(262144*(x/262144%2)+(524288*(x/524288%2)+((l.filter (bDi x)).map (fun a:Int=>(2:Int) ^ a.toNat)).sum))))))):=fun l=>by
  simp only[List.cons_append,List.nil_append,sum_cons,b]
  rfl
 unfold aFa aAe
 rw[e]
 by_cases h:x/2048%4=2
 ·rw[if_pos h,if_pos h]
  simp only[List.filter_nil,List.map_nil,List.sum_nil]
  lia
 ·rw[if_neg h,if_neg h]
  simp only[sum_cons,b,List.filter_nil,List.map_nil,List.sum_nil]
  have e1:(2:Int) ^ (11:Int).toNat=2048:=rfl
  have e2:(2:Int) ^ (12:Int).toNat=4096:=rfl
  rw[e1,e2]
  have:2048*(x/2048%4)=2048*(x/2048%2)+4096*(x/4096%2):=by lia
  rw[this]
  lia
end
section
variable {prog:Program} {w:World} {A:Around} {E:Value→Shared→Prop} {s:Shared} {h₀:Heap} {L f c:Addr} {m mg mb:Str→Option Value} {news:List (Addr×Obj)} {cn:Str} {ccd:Value} {o:Obj} {x:Int} {t:Tok} {K:Frag} {p:Program} {loose:List Str}
theorem aZu{Q:Flow→Shared→Prop}{kl:Addr}{ws:List Value}(F:Fr h₀ L s.heap m)(hm:m aLt=some (.ref kl))(N:News h₀ L s.heap ((c,o)::news))(hd:o.data=.cell (some (.int x t)))(hh:A.handled=none)(X:K.In h₀)(T:TopRead p loose mg mb h₀)(en:nsIn K mainGlobals aPj=some none)
  (hl:s.heap.IsList kl ws.toArray) (hi:IntsAre ws (aFa x)) (k:∀ h' tk t',Fr h₀ L h' m→News h₀ L h' ((c,o)::news)→Q (.ret (.int (aAe x) t')) { s with heap:=h',toks:=tk }) :
  WpS (model prog w) A (exec stR (envX cn stS L f ccd [(q66,c)])) Q E s:=by
 refine⟨?_⟩
 unfold stR
 with_reducible refine wpAny_Return_some ?_
 refine Call_ ?_
 refine nameX_B (v:=.builtin "sum") F X T en ?bb ?bn ?_ ?bk bSe ?bd
 case bb=>exact aAa (by k_slotget)
 case bn=>decide
 case bk=>rfl
 case bd=>decide
 refine callWith_method1 (first:=[]) ?_ (aAb rfl) (aA7 (l:=[]) rfl).1
 refine args_cons ?_ (aAb rfl)
 refine ListComp_DC (h₀:=h₀) (L:=L) (m:=m) (news:=(c,o)::news) (K:=.int) (pz:=bDi x) (d:=fun a=>.int ((2:Int) ^ a.toNat)) (cl:=[(q66,c)]) hh ?c1 ?c2 rfl ?c3 ?c4 ?_ ?c5
 case c1=>exact aO1 rfl rfl
 case c2=>decide
 case c3=>decide
 case c4=>decide
 case c5=>intro _;rfl
 refine nameX_L F hm ?_ rfl bN6 (by decide)
 have kc:∀ C,(compEnvC lcS [(q66,c)] C (envX cn stS L f ccd [(q66,c)])).kindOf q66=some .cell:=fun C=>kind_free (n0:=bG4) (y:=aSa) rfl (by decide) (by decide) rfl bN7
 have kv:∀ C,(compEnvC lcS [(q66,c)] C (envX cn stS L f ccd [(q66,c)])).kindOf aSa=some .local:=fun C=>aJ7 (n0:=bG4) (b:=q66) rfl (by decide)
 refine⟨kl,ws,aFa x,rfl,hl,hi.areOf,?_,F,N,?_,?_,?_⟩
 ·unfold aFa;split<;>(rw[sizeLine_eq];decide)
 ·intro C a v s2 m2 E2 ha hv hns hx hk
  obtain⟨u,rfl⟩:=hv
  obtain⟨a0,a1⟩:=aF8 ha
  obtain⟨p0,p1⟩:=aQo ha
  refine wpAny_tests_one ?_
  with_reducible refine wpAny_isTrue_Compare1 ?_ (by with_unfolding_all rfl)
  with_reducible refine wpAny_BinOp ?_
  with_reducible refine wpAny_BinOp ?_
  refine ldCellK (c:=c) (v:=.int x t) rfl ⟨o,hk _ _ (N _ (.head _)).1,hd⟩ ?_ rfl (kc C) (by decide)
  with_reducible refine wpAny_BinOp ?_
  with_reducible refine wpAny_Constant_int ?_
  refine ldVarK hns hx ?_ rfl (kv C) (by decide)
  refine pow_int_small a0 (by lia) (by decide) ?_
  refine aXu p0 p1 ?_
  with_reducible refine wpAny_Constant_int ?_
  refine aQu (by decide) ?_
  with_reducible refine wpAny_Constant_int ?_
  refine eq_int ?_
  refine wpAny_truthy_bool ?_
  exact⟨rfl,_,_,rfl,fun _ _ e=>e⟩
 ·intro C a v s2 m2 E2 ha hv hz hns hx hk
  obtain⟨u,rfl⟩:=hv
  obtain⟨a0,a1⟩:=aF8 ha
  with_reducible refine wpAny_BinOp ?_
  with_reducible refine wpAny_Constant_int ?_
  refine ldVarK hns hx ?_ rfl (kv C) (by decide)
  refine pow_int_small a0 (by lia) (by decide) ?_
  exact⟨.int _ _,_,_,rfl,fun _ _ e=>e⟩
 ·intro D ys h' tk F' N' hD il hc
  refine args_nil ?_
  have is:=CarriedAll.intsOf (f:=fun a:Int=>(2:Int) ^ a.toNat) hc
  refine LSm.sum_ints (s:={ s with heap:=h',toks:=tk }) F' N' hh il is ?_
  intro h2 tk2 t2 F2 N2
  rw[aP5]
  exact k h2 tk2 t2 F2 N2
noncomputable def bGl(M:Model)(A:Around)(env:Env)(rest:List Stmt)(Q:Flow→Shared→Prop)(E:Value→Shared→Prop)(f:Flow)(s:Shared):Prop:=match f with
 | .next=>WpS M A (execs rest env) Q E s
 |f=>Q f s
theorem WpS.cons{M:Model}{env:Env}{st:Stmt}{rest:List Stmt}{Q:Flow→Shared→Prop}(h:WpS M A (exec st env) (bGl M A env rest Q E) E s):WpS M A (execs (st::rest) env) Q E s :=
 ⟨wpAny_execs_cons (wpAny_mono h.h (fun f s' q=>by
  cases f with
  |next=>exact WpS.h q
  |_=>exact q) fun _ _ q=>q)⟩
theorem WpS.to{α:Type}{M:Model}{t:Sem α}{Q Q':α→Shared→Prop}(h:WpS M A t Q E s)(k:∀ f s',Q f s'→Q' f s'):wpAny M A t Q' E s:=wpAny_mono h.h k fun _ _ q=>q
theorem aUk{Q:Flow→Shared→Prop}(F:Fr h₀ L s.heap m)(N:News h₀ L s.heap ((c,o)::news))(hd:o.data=.cell (some (.int x t)))(hh:A.handled=none)(X:K.In h₀)(T:TopRead p loose mg mb h₀)(en:nsIn K mainGlobals aPj=some none)
  (k:∀ h' tk t' m',Fr h₀ L h' m'→News h₀ L h' ((c,o)::news)→Q (.ret (.int (aAe x) t')) { s with heap:=h',toks:=tk }) :
  WpS (model prog w) A (execs [stA,stR] (envX cn stS L f ccd [(q66,c)])) Q E s :=
 WpS.cons (aUi F N hd fun l ws h2 tk2 F2 N2 il ii=>WpS.cons (aZu (s:={ s with heap:=h2,toks:=tk2 }) F2 (if_pos rfl) N2 hd hh X T en il ii fun h' tk t' F3 N3=>k h' tk t' _ F3 N3))
end
section
set_option tactic.hygienic true
structure StK(K:Frag):Prop where
 ob:K.lookup 2225=some ⟨.type "function",none,.func (fnX aHy aHy stP [stA,stR] stS [] .none .none .none (.str aKw 5834) none (.ref 2224) .none),#[]⟩
 cd:codeIn K (.ref 2224) aHy=true
 nm:nsIn K mainGlobals aPj=some none
theorem aP8{L:Nat}:cellsFrom (L+1) stS.names []=[(q66,L+1)]:=rfl
theorem aUl{v:Value}{k:Str→Option NameKind}(h:k q66=some .cell):bindC k [(q66,v)] (fun _=>none) q66=some v:=by
 show (if k q66=some .local then (fun _=>none) else fun y=>if y=q66 then some v else none) q66=some v
 rw[if_neg (by rw[h];exact nofun)]
 exact if_pos rfl
theorem aUh{K:Frag}(k:StK K):aAv K:=by
 intro ci G W σ args vs Q o hn hlv S a ho h
 unfold aP7 at ho
 split at ho
 ·rename_i m
  refine aAd (aM6 ho) fun x hx e=>?_
  cases e
  refine aBa h fun z1_0 h=>?_
  obtain⟨h0,h1⟩:=z1_0
  refine aAd a.cons1 fun v r2_1 d=>?_
  subst r2_1
  obtain⟨t,rfl⟩:∃ t,v=.int x t:=by rcases hx with rfl|rfl<;>exact d
  have dp:=S.ok.dp
  refine callX_cells (binds:=[(q66,.int x t)]) S.ok.B S.F S.N (Top.nolimit S.ok.T) S.ok.fr rfl S.ok.hk (S.K _ _ k.ob) rfl (codeRec_of S.K k.cd) (by lia) (BindsTo.of_eq rfl) (kindsX (by simp only[List.all_cons,List.all_nil,aUj];decide)) (by decide) ?_ rfl rfl rfl
  intro g L' hp tk cells F' F1 N1 Y B' st lt
  rw[aP8] at Y
  obtain⟨oc,rfl,hoc⟩:=CellsAre.one Y
  have hoc:oc.data=.cell (some (.int x t)):=hoc.trans (congrArg Data.cell (aUl (k:=fun y=>stS.names.lookup y) aUj))
  have eE:envOfC aHy stS L' 2225 (.ref 2224)=envX aHy stS L' 2225 (.ref 2224) [(q66,L'+1)]:=rfl
  rw[eE]
  have hh:=S.hd
  rw[hn] at hh
  replace N1:News g L' hp ((L'+1,oc)::W.l):=N1
  have kn:nsIn (vwc ci K).K mainGlobals aPj=some none:=k.nm
  have T':=topRead_of (S.ok.T.keeps st)
  have K':=S.ok.K.keeps st
  have A':(G.A.deeper (envX aHy stS L' 2225 (.ref 2224) [(q66,L'+1)])).handled=none:=hh
  generalize G.A.deeper (envX aHy stS L' 2225 (.ref 2224) [(q66,L'+1)])=A1 at A' ⊢
  with_reducible refine WpS.to (Q:=fun f s'=>∃ v,f=.ret v∧LeaveK G.g G.L W.m g (aIz Q G.E) v s') ?_ ?_
  ·with_reducible refine aUk (s:=⟨hp,G.gens,G.drawn,tk,G.os⟩) (c:=L'+1) (x:=x) (t:=t) F1 N1 hoc A' K' T' kn ?_
   intro h3 tk3 t3 m3 F3 N3
   refine⟨_,rfl,leaveK_ F3 N3 fun F4 N4=>?_⟩
   exact h ⟨W.ads,W.objs,W.m,h3,tk3⟩ (.refl _) ⟨S.ok,F4,S.M,fun p hp=>N4 p (.tail _ hp),S.O,S.len,S.nd,S.hd,S.cl⟩ rfl _ ⟨t3,rfl⟩
  ·rintro f s' ⟨v,rfl,q⟩
   exact q
 ·cases ho
end
structure Rest{V:Vw}(G:Gd V)(ads:List Addr)(objs:List Obj)(m:Str→Option Value)(nm:List (Str×SV))(led:List SO):Prop where
 M:MD ads nm m
 O:All2 (DenO G.X ads) led objs
 len:ads.length=objs.length
 nd:ads.Nodup
 cl:G.cf.top=true→∀ x i,V.cells x=some i→∃ a,gN ads i=some a∧G.cl.lookup x=some a
theorem Sat.rest{V:Vw}{G:Gd V}{W:Wd}{σ:St}(S:Sat G W σ):Rest G W.ads W.objs W.m σ.m σ.led:=⟨S.M,S.O,S.len,S.nd,S.cl⟩
noncomputable def KJ{V:Vw}(X:Ctx V)(ads:List Addr):Prop:=∀ (IT:Addr×Obj) (β':Bet) (ads':List Addr),(∀ i,15≤i→i<30→gN ads' i=gN ads i)→β'.d 0=X.β.d 0→(∀ j<15,β'.o j=X.β.o j)→(gN ads' 30=some IT.1∧β'.o 15=IT.2)→KI IT { X with β:=β' } ads'
theorem KI.swap{V:Vw}{IT0:Addr×Obj}{X:Ctx V}{ads:List Addr}(h:KI IT0 X ads):KJ X ads:=fun IT β ads' ha hd ho it=>{
 bad:=by rw[show ({ X with β:=β }:Ctx V).β.d 0=X.β.d 0 from hd];exact h.bad
 at_:=fun q hq=>by
  rw[show ({ X with β:=β }:Ctx V).β.d 0=X.β.d 0 from hd]
  refine (h.at_ q hq).imp id fun ⟨a,h1,h2,h3⟩=>⟨a,(ha _ (by lia) (by lia)).trans h1,h2,fun i so e=>?_⟩
  have hi:i<3:=by have:=aBl e;exact this
  rw[show ({ X with β:=β }:Ctx V).β.o (3*q+i)=X.β.o (3*q+i) from ho _ (by lia)]
  exact aDw e (ha _ (by lia) (by lia)) (ha _ (by lia) (by lia)) (h3 i so e)
 it:=it }
noncomputable def aVy(β:Bet)(k:Nat)(o:Obj):Bet:=⟨β.d,fun j=>if j=k then o else β.o j⟩
theorem aJh{V:Vw}{X:Ctx V}{ads:List Addr}:∀ {k i:Nat} {os:List Obj},All2 (DenO X ads) (aAk k i) os→∀ j o,gN os j=some o→o=X.β.o (i+j)
 | 0,_,_,.nil,_,_,h=>nomatch h
 |k+1,i,_,.cons d _,0,_,h=>by cases h;exact d
 |k+1,i,_,.cons _ t,j+1,o,h=>by rw[show i+(j+1)=i+1+j by lia];exact aJh t j o h
theorem aFf:∀ {k i:Nat},aAk (k+1) i=aAk k i++[.raw (i+k)]
 | 0,i=>rfl
 |k+1,i=>by
  show SO.raw i::aAk (k+1) (i+1)=SO.raw i::(aAk k (i+1)++[.raw (i+(k+1))])
  rw[aFf,show i+1+k=i+(k+1) by lia]
section
variable {K:Frag} {G:Gd (vwc 13 K)}
theorem Rest.add{β:Bet}{ads:List Addr}{objs:List Obj}{m:Str→Option Value}{st cy re bg g s n:Int}{nw k:Nat}{kn:SO}{I:Addr}{oI:Obj}{m':Str→Option Value}{nm':List (Str×SV)}{h:Heap}{tk:Nat}(ok:Ok G)(hn:G.cf.hd=none)(hh:G.A.handled=none)
  (hkn:∀ ads o,DenO (G.wβ β).X ads kn o→DenO (G.wβ (aVy β k oI)).X ads kn o)
  (R:Rest (G.wβ β) ads objs m (mQ bg) (aCk st cy re bg (.dv none nw [] []) kn g s n (aAk k 0))) (hI:I∉ads) (F:Fr G.g G.L h m') (N:News G.g G.L h ((I,oI)::ads.zip objs)) (hM:MD ads nm' m') :
  ∀ orc,Sat (G.wβ (aVy β k oI)) ⟨ads++[I],objs++[oI],m',h,tk⟩ ⟨nm',aCk st cy re bg (.dv none nw [] []) kn g s n (aAk (k+1) 0),orc⟩:=fun orc=>by
 have pre:Pre ads (ads++[I]):=.snoc _ _
 refine aFp (aD2 (R.O.mono fun _ _=>DenO.mono pre)) fun ow ok' os d1 d2 d3 _ kk=>?_
 have O2:=kk (aVy β k oI) (.dv none nw [] []) kn (aAk k 0) d1 (hkn _ _ d2) (by
  have hl:os.length=k:=by
   have:=d3.len.symm
   rw[this]
   clear this d3
   have:∀ k i,(aAk k i).length=k:=fun k=>by
    induction k with
    |zero=>intro i;rfl
    |succ k ih=>intro i;exact congrArg Nat.succ (ih (i+1))
   exact this k 0
  have:=aF1 (X:=(G.wβ (aVy β k oI)).X) (ads:=ads++[I]) os 0 fun j o e=>by
   have hj:j<k:=hl▸aBl e
   have:=aJh d3 j o e
   rw[this]
   show β.o (0+j)=if 0+j=k then oI else β.o (0+j)
   rw[if_neg (by lia)]
  rwa [hl] at this)
 have O3:=O2.snoc (a:=SO.raw k) (b:=oI) (show oI=(if k=k then oI else β.o k) from (if_pos rfl).symm)
 refine⟨ok.wβ _,F,hM.mono pre,fun p hp=>?_,?_,by simp[R.len],?_,?_,fun q x i e=>?_⟩
 ·replace hp:p∈(ads++[I]).zip (objs++[oI]):=hp
  rw[aB0 R.len] at hp
  exact N p ((List.mem_append.mp hp).elim (.tail _) fun q=>List.mem_singleton.mp q▸.head _)
 ·rw[aFf,Nat.zero_add];exact O3
 ·refine List.nodup_append.mpr ⟨R.nd,by simp,fun a ha b hb e=>?_⟩
  rw[List.mem_singleton.mp hb] at e
  exact hI (e▸ha)
 ·show Hdl (ads++[I]) G.A G.cf.hd
  rw[hn];exact hh
 ·refine aAd (R.cl q x i e) fun a k1 k2=>?_
  exact⟨a,pre.get k1,k2⟩
end
section
set_option tactic.hygienic true
theorem KJ.move{V:Vw}{X:Ctx V}{ads ads1:List Addr}(h:KJ X ads)(ha:∀ i,i<30→gN ads1 i=gN ads i):KJ X ads1:=fun IT β ads' a hd ho it=>h IT β ads' (fun i h1 h2=>(a i h1 h2).trans (ha i h2)) hd ho it
theorem aK5{p:List Nat}{ads:List Addr}:(aAp p ads).length=p.length:=by unfold aAp;rw[List.length_map]
variable {K:Frag} {G:Gd (vwc 13 K)}
structure LJ0(G:Gd (vwc 13 K))(bg s:Int)(β:Bet)(ads:List Addr)(objs:List Obj)(m:Str→Option Value):Prop where
 d0:β.d 0=[]
 r:∃ g n,(0≤n∧n≤50)∧Rest (G.wβ β) ads objs m (mQ bg) (aCk 0 0 0 bg (.dv none 0 [] []) (known0 0) g s n (aAk 5 0))
structure LJ1(G:Gd (vwc 13 K))(bg s:Int)(lim:Nat)(β:Bet)(ads:List Addr)(objs:List Obj)(m:Str→Option Value):Prop where
 kj:KJ (G.wβ β).X ads
 r:∃ st cy re g n:Int,∃ nw nk:Nat,Rest (G.wβ β) ads objs m (mQ bg) (aCk st cy re bg (.dv none nw [] []) (known0 nk) g s n (aAk 15 0))∧(0≤cy∧cy<1000000000000)∧(0≤re∧re<1000000000000)∧(0≤n∧n≤100*lim)∧nw≤lim∧nk≤lim
noncomputable def LJ(G:Gd (vwc 13 K))(bg s:Int)(i:Nat)(m:Str→Option Value)(news:List (Addr×Obj)):Prop:=∃ β ads objs,news=ads.zip objs∧match i with
 | 0=>LJ0 G bg s β ads objs m
 |k+1=>LJ1 G bg s (k+1) β ads objs m
noncomputable abbrev stG(G:Gd (vwc 13 K))(h:Heap)(tk:Nat):Shared:=⟨h,G.gens,G.drawn,tk,G.os⟩
noncomputable abbrev bDy(G:Gd (vwc 13 K))(bg s:Int)(i:Nat)(I:Addr)(oI:Obj)(Q:Flow→Shared→Prop):Prop:=∀ h' tk' m' news',Fr G.g G.L h' m'→News G.g G.L h' ((I,oI)::news')→(∀ p∈news',p.1≠I)→LJ G bg s i m' news'→Q .next (stG G h' tk')
theorem bLt(bg st cy re g s n:Int)(nw nk:Nat):bCn (frN 30 0) (aCk st cy re bg (.dv none nw [] []) (known0 nk) g s n rows0) (frN 30 0) (aCk 0 0 0 0 dv0 dv0 0 0 0 (aAk 15 0))=some (aCk st cy re bg (.dv none nw [] []) (known0 nk) g s n (aAk 15 0)):=aAa (by k_slotget)
theorem bY6(bg t:Int):bFx (frN 30 0) (mH bg t) (mQ 0)=some (mQ bg):=aAa (by k_slotget)
theorem bXw:aG8 (frN 30 0)=true:=aAa (by k_slotget)
theorem Head.next{bg t s:Int}{lim:Nat}{I:Addr}{oI:Obj}{β:Bet}{W:Wd}{Q:Flow→Shared→Prop}(hn:G.cf.hd=none)(hd:Head (I,oI) (G.wβ β) W bg t s (lim+1))(cont:bDy G bg s (lim+1) I oI Q):Q .next (G.st W):=by
 refine bL1 hd fun st cy re g n nw nk z_=>bF1 z_ fun S ki hc hr hb hw hk=>?_
 have S1:=S.remap (G':=G.wβ β) (o':=[]) S.ok ⟨rfl,rfl,rfl,rfl,rfl⟩ (fun _ _ _ d=>d) hn ⟨_,bLt bg st cy re g s n nw nk⟩ (aGc S.M (bY6 bg t)) bXw fun _ x i e=>⟨i,e,by cases (aAr (show (bif aB8 x aAu then some 13 else none)=some i from e)).2;rfl⟩
 have h31:W.ads.length=31:=S.alen
 have ag:∀ i,i<30→gN (aAp (frN 30 0) W.ads) i=gN W.ads i:=fun i hi=>show gN (aAp (frN 30 0++[]) W.ads) i=_ from aDa (.refl _) (by omega) i hi
 refine aBa ki.it fun i1 i2=>?_
 replace i1:gN W.ads 30=some I:=i1
 replace i2:β.o 15=oI:=i2
 refine aDp (S.slot (i:=30) (so:=.raw 15) rfl i1) fun o _ hm d=>?_
 replace d:o=β.o 15:=d
 rw[i2] at d
 subst d
 refine cont W.h W.t W.m ((aAp (frN 30 0) W.ads).zip (aHa (frN 30 0) W.objs)) S.F (fun p hp=>?_) (fun p hp e=>?_) ⟨β,_,_,rfl,KJ.move ki.swap ag,st,cy,re,g,n,nw,nk,S1.rest,hc,hr,hb,hw,hk⟩
 ·rcases List.mem_cons.mp hp with rfl|hp
  ·exact S.N _ hm
  ·exact S1.N p hp
 ·refine aA6 (aCj (List.of_mem_zip hp).1) fun i hi=>?_
  have hl:i<30:=by have:=aBl hi;rw[aK5] at this;exact this
  rw[ag i hl,e] at hi
  have:=aC7 S.nd hi i1
  omega
theorem MD.turn{ads:List Addr}{m:Str→Option Value}{bg t:Int}{u:Tok}(h:MD ads (mQ bg) m):MD ads (mH bg t) (fun y=>if y=aH8 then some (.int t u) else m y):=fun x y e=>by
 have n1:aGp≠aH8:=by decide
 have n2:aJj≠aH8:=by decide
 have n3:aKu≠aH8:=by decide
 have key:∀ {z:Str} {w:SV},z≠aH8→aD6 z (mQ bg)=some w→∃ v,(if z=aH8 then some (.int t u) else m z)=some v∧Den ads w v:=fun {z w} hz e=>by rw[if_neg hz];exact h z w e
 unfold mH at e
 rw[aAs] at e
 split at e
 ·rename_i q;cases q;cases e;exact key n1 rfl
 ·rw[aAs] at e
  split at e
  ·rename_i q;cases q;cases e;exact key n2 rfl
  ·rw[aAs] at e
   split at e
   ·rename_i q;cases q;cases e;exact key n3 rfl
   ·rw[aAs] at e
    split at e
    ·rename_i q;cases q;cases e;exact⟨_,if_pos rfl,u,rfl⟩
    ·cases e
theorem aL0(H:aAv K)(hcf:G.cf=cfL)(ok:Ok G)(hh:G.A.handled=none){bg s:Int}(hbg:aHh bg)(hs:0≤s∧s<2147483629){i:Nat}(hi:i<8){m:Str→Option Value}{news:List (Addr×Obj)}(J:LJ G bg s i m news){I:Addr}{oI:Obj}{h:Heap}{tk:Nat}{u:Tok}
  (hI:∀ p∈news,p.1≠I) (F:Fr G.g G.L h (fun y=>if y=aH8 then some (.int (i:Int) u) else m y)) (N:News G.g G.L h ((I,oI)::news)) {Q:Flow→Shared→Prop} (cont:bDy G bg s (i+1) I oI Q):Run G 0 Q (stG G h tk):=by
 have hn:G.cf.hd=none:=by rw[hcf];rfl
 obtain⟨β,ads,objs,rfl,J⟩:=J
 have off:ads.length=objs.length→I∉ads:=fun e q=>by
  obtain⟨j,hj⟩:=aCj q
  obtain⟨o,ho⟩:=aAl (l:=objs) (e▸aBl hj)
  exact hI _ (aBf hj ho) rfl
 match i,J with
 | 0,J =>
  obtain⟨d0,g,n,hb,R⟩:=J
  have S:=R.add (tk:=tk) (oI:=oI) ok hn hh (fun ads o d=>d) (off R.len) F N (MD.turn (t:=0) R.M)
  have l20:ads.length=20:=by rw[R.len,← R.O.len];rfl
  have:=aPx (G:=G.wβ (aVy β 5 oI)) (IT:=(I,oI)) (Q:=Q) H hcf h17 hbg hs S ⟨by have:=aBh (a:=ads) (c:=I);rw[l20] at this;exact this,(show (if 5=5 then oI else β.o 5)=oI from if_pos rfl)⟩ d0 (by decide) (by decide) hb ⟨rfl,rfl⟩ fun β' W' hd=>Head.next (G:=G) (β:=β') (lim:=0) hn hd cont
  exact⟨this.h⟩
 |k+1,J =>
  obtain⟨kj,st,cy,re,g,n,nw,nk,R,hc,hr,hb,hw,hk⟩:=J
  have S:=R.add (tk:=tk) (oI:=oI) ok hn hh (fun ads o d=>d) (off R.len) F N (MD.turn (t:=((k+1:Nat):Int)) R.M)
  have l30:ads.length=30:=by rw[R.len,← R.O.len];rfl
  have i1:gN (ads++[I]) 30=some I:=by have:=aBh (a:=ads) (c:=I);rw[l30] at this;exact this
  have KI':=kj (I,oI) (aVy β 15 oI) (ads++[I]) (fun j a b=>aDk (by omega)) rfl (fun j hj=>if_neg (by omega)) ⟨i1,(show (if 15=15 then oI else β.o 15)=oI from if_pos rfl)⟩
  have:=aT7 (G:=G.wβ (aVy β 15 oI)) (W:=⟨ads++[I],objs++[oI],_,h,tk⟩) (IT:=(I,oI)) (Q:=Q) (t:=((k+1:Nat):Int)) (lim:=k+1) H hcf h17 (by omega) hbg hs (by omega) ⟨st,cy,re,g,n,nw,nk,S [],KI',hc,hr,hb,hw,hk⟩ fun β' W' hd=>Head.next (G:=G) (β:=β') (lim:=k+1) hn hd cont
  exact⟨this.h⟩
end
section
theorem aZw:∀ N:_root_.Fin 9,Builtin.Range.small 0 (N.val:Int) 1=true∧Builtin.Range.rangeSize 0 (N.val:Int) 1=(N.val:Int):=by decide
variable {K:Frag} {G:Gd (vwc 13 K)} {W:Wd}
theorem aWb(H:aAv K)(hcf:G.cf=cfL)(ok:Ok G)(hh:G.A.handled=none){bg s g n:Int}(hbg:aHh bg)(hs:0≤s∧s<2147483629)(S:∀ orc,Sat G W ⟨mQ bg,aCk 0 0 0 bg (.dv none 0 [] []) (known0 0) g s n (aAk 5 0),orc⟩)(hd:G.X.β.d 0=[])(hb:0≤n∧n≤50)
  {iter:PySem.Expr} {N:Nat} (hN:N≤8) {px pos:Pos} (hx:G.env.kindOf aH8=some .local) (hf:∀ x,foldedSetIterable iter G.env x=pure x)
  (hit:∀ Q':Value→Shared→Prop,(∀ r h tk t u v,Fr G.g G.L h W.m→News G.g G.L h W.l→IsRange h r 0 (N:Int) 1 t u v→Q' (.ref r) (stG G h tk))→WpS G.M G.A (eval iter G.env) Q' G.E (G.st W))
  {Q:Flow→Shared→Prop} (done:∀ h tk m,Fr G.g G.L h m→Q .next (stG G h tk)):WpS G.M G.A (exec (.For (.Name aH8 px) iter aBg [] pos) G.env) Q G.E (G.st W):=by
 have hpo:G.cf.po=true:=by rw[hcf];rfl
 refine⟨For_invV G.g hx (by show (G.cf.cs.kind==.class||(G.cf.cs.kind==.module&&G.L != mainGlobals))=false;rw[ok.hk];rfl) (hit _ fun r h tk t u v F Nw hr=>?_).h hf (ok.own hpo).2⟩
 refine aBa (aZw ⟨N,by lia⟩) fun sm sz=>?_
 refine wpAny_pyIter_range hr sm ?_
 have hI0:G.g.get? h.objs.size=none:=next_is_new F
 refine bLu h.objs.size [h.objs.size] [h.objs.size] N _ _ W.m W.l (LJ G bg s) ⟨rfl,(Walks.range hh h.objs.size 0 1 N).bound,?_,?_,?_,?_,F.push _,fun p hp=>⟨Heap.get?_push_of_some _ (Nw p hp).1,(Nw p hp).2⟩,?_,?_,fun h' tk' m' news' F' _ _ _=>done h' tk' m' F'⟩
 ·intro q;exact Nat.ne_of_lt F.ns.lt (List.mem_singleton.mp q)
 ·intro b q;rw[List.mem_singleton.mp q];exact hI0
 ·intro p hp q;exact Nat.ne_of_lt (Heap.lt_size (Nw p hp).1) (List.mem_singleton.mp q)
 ·show IsRangeIter _ _ _ _ _
  rw[show Builtin.Range.rangeSize 0 (N:Int) 1=(N:Int) from sz]
  simpa using Heap.get?_push_size _ rfl
 ·exact⟨G.X.β,W.ads,W.objs,rfl,hd,g,n,hb,(S []).rest⟩
 ·rintro i v m₁ news₁ s₁ own ⟨h₁,tk₁,rfl⟩ hi ⟨_,u1,rfl⟩ hJ hnw own1 own2 own3 st F₁ N₁
  obtain⟨oI,st'⟩:∃ oI,h₁.get? h.objs.size=some oI:=⟨_,st⟩
  have mI:=own3 h.objs.size (.head _) hI0 _ st'
  have e1:(0:Int)+(i:Int)*1=(i:Int):=by lia
  rw[e1] at F₁
  refine (aL0 (Q:=LoopStepV G.g G.env.locals [h.objs.size] own (LJ G bg s (i+1)) (stG G h₁ tk₁) (fun v s'=>Q (.ret v) s') fun s'=>Q .next s') H hcf ok hh hbg hs (i:=i) (I:=h.objs.size) (oI:=oI) (h:=h₁) (by lia) hJ (fun p hp q=>hnw p hp (List.mem_singleton.mpr q)) F₁ (fun p hp=>?_) fun h' tk' m' news' F' N' off J'=>LoopStepV.next ⟨rfl,h',tk',m',news',rfl,F',fun p hp=>?_,fun p hp q=>off p hp (List.mem_singleton.mp q),J'⟩).h
  ·rcases List.mem_cons.mp hp with rfl|hp
   ·exact N₁ _ (List.mem_append_left _ mI)
   ·exact N₁ _ (List.mem_append_right _ hp)
  ·rcases List.mem_append.mp hp with hp|hp
   ·have g2:=own2 p hp
    have q:=List.mem_singleton.mp (own1 p hp)
    rw[q,st'] at g2
    obtain⟨p1,p2⟩:=p
    dsimp only at q g2
    subst q
    cases g2
    exact N' _ (.head _)
   ·exact N' _ (.tail _ hp)
end
noncomputable def bxA:Stmt:=.Assign [(.Tuple [(.Name aQh ⟨984,4,984,8⟩),(.Name aQg ⟨984,10,984,15⟩)] 0 ⟨984,4,984,15⟩)] (.Tuple [(.Constant (.int 29) 0 ⟨984,19,984,21⟩),(.Constant (.int 0) 0 ⟨984,23,984,24⟩)] 0 ⟨984,18,984,25⟩) ⟨984,4,984,25⟩
noncomputable def bxI:PySem.Expr:=(.Subscript (.Name aB7 ⟨985,16,985,22⟩) (.Slice none (some (.Constant (.int 24) 0 ⟨985,24,985,26⟩)) none ⟨985,23,985,26⟩) ⟨985,16,985,27⟩)
noncomputable def bx1:Stmt:=.Assign [(.Name aQh ⟨986,8,986,12⟩)] (.BinOp (.BinOp (.BinOp (.BinOp (.Name aQh ⟨986,16,986,20⟩) .Mult (.Constant (.int 48271) 0 ⟨986,23,986,28⟩) ⟨986,16,986,28⟩) .Add (.BinOp (.Name aLr ⟨986,31,986,35⟩) .Mult (.Constant (.int 69621) 0 ⟨986,38,986,43⟩) ⟨986,31,986,43⟩) ⟨986,16,986,43⟩) .Add (.Constant (.int 7) 0 ⟨986,46,986,47⟩) ⟨986,16,986,47⟩) .Mod (.Constant (.int 2147483629) 0 ⟨986,51,986,61⟩) ⟨986,15,986,61⟩) ⟨986,8,986,61⟩
noncomputable def bx2:Stmt:=.If (.BoolOp .And [(.Compare (.Name aQg ⟨987,11,987,16⟩) [.Eq] [(.Constant (.int 0) 0 ⟨987,20,987,21⟩)] ⟨987,11,987,21⟩),(.Compare (.Call (.Name aKt ⟨987,26,987,29⟩) [(.Name aLr ⟨987,30,987,34⟩)] [] ⟨987,26,987,35⟩) [.GtE] [(.BinOp (.Constant (.int 10) 0 ⟨987,39,987,41⟩) .Pow (.Constant (.int 18) 0 ⟨987,45,987,47⟩) ⟨987,39,987,47⟩)] ⟨987,26,987,47⟩)] ⟨987,11,987,47⟩) [.Assign [(.Name aQg ⟨988,12,988,17⟩)] (.Call (.Name aKt ⟨988,20,988,23⟩) [(.Name aLr ⟨988,24,988,28⟩)] [] ⟨988,20,988,29⟩) ⟨988,12,988,29⟩] [] ⟨987,8,988,29⟩
noncomputable def bxF:Stmt:=.For (.Name aLr ⟨985,8,985,12⟩) bxI [bx1,bx2] [] ⟨985,4,988,29⟩
noncomputable def bxR:Stmt:=.Return (some (.List [(.Name aQg ⟨989,12,989,17⟩),(.Name aQh ⟨989,19,989,23⟩),(.Constant (.int 0) 0 ⟨989,25,989,26⟩)] ⟨989,11,989,27⟩)) ⟨989,4,989,27⟩
noncomputable def bxS:Scope:=⟨.function,[(aB7,.local),(aQh,.local),(aQg,.local),(aLr,.local),(aKt,.globalImplicit)],false,false,[]⟩
noncomputable def bxP:Arguments:=⟨[],[⟨aB7,none,⟨983,13,983,19⟩⟩],none,[],[],none,[]⟩
section
variable {prog:Program} {w:World} {A:Around} {E:Value→Shared→Prop} {s:Shared} {h₀:Heap} {L f:Addr} {m mg mb:Str→Option Value} {news:List (Addr×Obj)} {cn:Str} {ccd:Value} {K:Frag} {p:Program} {loose:List Str}
theorem bDc:bxS.names.lookup aB7=some .local:=by decide
theorem bMt:bxS.names.lookup aQh=some .local:=by decide
theorem bMs:bxS.names.lookup aQg=some .local:=by decide
theorem bMu:bxS.names.lookup aLr=some .local:=by decide
theorem bMv:bxS.names.lookup aKt=some .globalImplicit:=by decide
theorem bZ6:(envX cn bxS L f ccd []).kindOf aB7=some .local:=bDc
theorem bGa:(envX cn bxS L f ccd []).kindOf aQh=some .local:=bMt
theorem bF9:(envX cn bxS L f ccd []).kindOf aQg=some .local:=bMs
theorem bGb:(envX cn bxS L f ccd []).kindOf aLr=some .local:=bMu
theorem bQc:(envX cn bxS L f ccd []).kindOf aKt=some .globalImplicit:=bMv
structure BxM(m:Str→Option Value):Prop where
 r:∃ sd g t1 t2,m aQh=some (.int sd t1)∧m aQg=some (.int g t2)∧0≤sd∧sd<2147483629∧0≤g
theorem bDf{Q:Flow→Shared→Prop}(F:Fr h₀ L s.heap m)(N:News h₀ L s.heap news)(hh:A.handled=none)
  (k:∀ h' tk m',Fr h₀ L h' m'→News h₀ L h' news→BxM m'→m' aB7=m aB7→Q .next { s with heap:=h',toks:=tk }):WpS (model prog w) A (exec bxA (envX cn bxS L f ccd [])) Q E s:=by
 refine⟨?_⟩
 unfold bxA
 with_reducible refine Assign_Tuple ?_ (by with_unfolding_all rfl) (by with_unfolding_all rfl)
 with_reducible refine Tuple_ ?_
 with_reducible refine aF9 (ns:=[29,0]) (by with_unfolding_all rfl) ?_
 intro ws t1 aw
 refine aXt (All2.uncons (show Dens [] [.z 29,.z 0] ws from aw [])) fun v1 r r0_2 z0_3 aw1=>?_
 subst r0_2
 obtain⟨u1,rfl⟩:=z0_3
 refine aXt (All2.uncons aw1) fun v2 r r1_2 z1_3 aw2=>?_
 subst r1_2
 obtain⟨u2,rfl⟩:=z1_3
 cases aw2
 refine kup_newTuple (s:={ s with toks:=t1 }) F N ?_ (by rw[sizeLine_eq];show 2≤16777216;decide)
 intro D h1 F1 N1 lt1
 refine unpackN_ (s:={ s with heap:=h1,toks:=t1 }) F1 N1 (News.isTup N1 (.head _)) hh rfl rfl ?_
 intro h2 F2 N2
 refine assignInOrder_cons (wpAny_assign_Name ?_)
 refine storeX_L (s:={ s with heap:=h2,toks:=t1 }) F2 N2 ?_ rfl bGa
 intro h3 F3 N3
 refine assignInOrder_cons (wpAny_assign_Name ?_)
 refine storeX_L (s:={ s with heap:=h3,toks:=_ }) F3 N3 ?_ rfl bF9
 intro h4 F4 N4
 refine assignInOrder_nil ?_
 refine k h4 _ _ F4 (fun p hp=>N4 p (.tail _ hp)) ⟨29,0,u1,u2,?_,if_pos rfl,by decide,by decide,by decide⟩ ?_
 ·exact (if_neg (by decide)).trans (if_pos rfl)
 ·exact (if_neg (by decide)).trans (if_neg (by decide))
theorem aX6{Q:Flow→Shared→Prop}{c:Int}{tc:Tok}(F:Fr h₀ L s.heap m)(N:News h₀ L s.heap news)(hm:BxM m)(hc:m aLr=some (.int c tc))
  (k:∀ h' tk m',Fr h₀ L h' m'→News h₀ L h' news→BxM m'→m' aLr=some (.int c tc)→Q .next { s with heap:=h',toks:=tk }):WpS (model prog w) A (exec bx1 (envX cn bxS L f ccd [])) Q E s:=by
 obtain⟨sd,g,t1,t2,m1,m2,b0,b1,b2⟩:=hm
 refine⟨?_⟩
 unfold bx1
 with_reducible refine wpAny_Assign_Name ?_ (nc (by with_unfolding_all rfl))
 with_reducible refine wpAny_BinOp ?_
 with_reducible refine wpAny_BinOp ?_
 with_reducible refine wpAny_BinOp ?_
 with_reducible refine wpAny_BinOp ?_
 refine nameX_L F m1 ?_ rfl bGa (by decide)
 with_reducible refine wpAny_Constant_int ?_
 refine mul_int ?_ (IntMulOk.of_right (intBits_le_64 (by decide) (by decide)))
 with_reducible refine wpAny_BinOp ?_
 refine nameX_L F hc ?_ rfl bGb (by decide)
 with_reducible refine wpAny_Constant_int ?_
 refine mul_int ?_ (IntMulOk.of_right (intBits_le_64 (by decide) (by decide)))
 refine add_int ?_
 with_reducible refine wpAny_Constant_int ?_
 refine add_int ?_
 with_reducible refine wpAny_Constant_int ?_
 refine aQu (by decide) ?_
 refine storeX_L (s:={ s with toks:=_ }) F N ?_ rfl bGa
 intro h' F' N'
 exact k h' _ _ F' N' ⟨_,g,_,t2,if_pos rfl,(if_neg (by decide)).trans m2,Int.emod_nonneg _ (by decide),Int.emod_lt_of_pos _ (by decide),b2⟩ ((if_neg (by decide)).trans hc)
theorem aR0{Q:Flow→Shared→Prop}{c:Int}{tc:Tok}(F:Fr h₀ L s.heap m)(N:News h₀ L s.heap news)(hm:BxM m)(hc:m aLr=some (.int c tc))(X:K.In h₀)(T:TopRead p loose mg mb h₀)(en:nsIn K mainGlobals aKt=some none)
  (k:∀ h' tk m',Fr h₀ L h' m'→News h₀ L h' news→BxM m'→Q .next { s with heap:=h',toks:=tk }):WpS (model prog w) A (exec bx2 (envX cn bxS L f ccd [])) Q E s:=by
 obtain⟨sd,g,t1,t2,m1,m2,b0,b1,b2⟩:=hm
 have hb:bootBuiltins aKt=some (.builtin "abs"):=aAa (by k_slotget)
 refine⟨?_⟩
 unfold bx2
 with_reducible refine wpAny_If ?_
 with_reducible refine isTrue_and ?_
 with_reducible refine wpAny_isTrue_Compare1 ?_ (by with_unfolding_all rfl)
 refine nameX_L F m2 ?_ rfl bF9 (by decide)
 with_reducible refine wpAny_Constant_int ?_
 refine eq_int ?_
 refine wpAny_truthy_bool ?_
 by_cases e:g=0
 ·rw[if_pos (by simp[e])]
  with_reducible refine isTrue_and ?_
  with_reducible refine wpAny_isTrue_Compare1 ?_ (by with_unfolding_all rfl)
  refine Call_ ?_
  refine nameX_B (s:={ s with toks:=_ }) (v:=.builtin "abs") F X T en hb (by decide) ?_ rfl bQc (by decide)
  refine callWith_method1 (first:=[]) ?_ (aAb rfl) (aA7 (l:=[]) rfl).1
  refine args_cons ?_ (aAb rfl)
  refine nameX_L (s:={ s with toks:=_ }) F hc ?_ rfl bGb (by decide)
  refine args_nil ?_
  refine call_abs_int ?_
  intro u1 tk1
  with_reducible refine wpAny_BinOp ?_
  with_reducible refine wpAny_Constant_int ?_
  with_reducible refine wpAny_Constant_int ?_
  refine aMw (r:=1000000000000000000) (by decide) (by decide) (by decide) (by decide) ?_
  refine ge_int ?_
  refine wpAny_truthy_bool ?_
  by_cases e2:(1000000000000000000:Int)≤(if c<0 then -c else c)
  ·rw[if_pos (by simpa using e2)]
   refine isTrue_and_nil ?_
   rw[if_pos rfl]
   refine wpAny_execs_cons ?_
   with_reducible refine wpAny_Assign_Name ?_ (nc (by with_unfolding_all rfl))
   refine Call_ ?_
   refine nameX_B (s:={ s with toks:=_ }) (v:=.builtin "abs") F X T en hb (by decide) ?_ rfl bQc (by decide)
   refine callWith_method1 (first:=[]) ?_ (aAb rfl) (aA7 (l:=[]) rfl).1
   refine args_cons ?_ (aAb rfl)
   refine nameX_L (s:={ s with toks:=_ }) F hc ?_ rfl bGb (by decide)
   refine args_nil ?_
   refine call_abs_int ?_
   intro u2 tk2
   refine storeX_L (s:={ s with toks:=_ }) F N ?_ rfl bF9
   intro h' F' N'
   refine wpAny_execs_nil ?_
   exact k h' _ _ F' N' ⟨sd,_,t1,_,(if_neg (by decide)).trans m1,if_pos rfl,b0,b1,Int.le_trans (by decide) e2⟩
  ·rw[if_neg (by simpa using e2)]
   rw[if_neg (by decide)]
   refine wpAny_execs_nil ?_
   exact k s.heap _ _ F N ⟨sd,g,t1,t2,m1,m2,b0,b1,b2⟩
 ·rw[if_neg (by simp[e])]
  rw[if_neg (by decide)]
  refine wpAny_execs_nil ?_
  exact k s.heap _ _ F N ⟨sd,g,t1,t2,m1,m2,b0,b1,b2⟩
end
section
variable {prog:Program} {w:World} {A:Around} {E:Value→Shared→Prop} {s:Shared} {h₀:Heap} {L f:Addr} {m mg mb:Str→Option Value} {news:List (Addr×Obj)} {cn:Str} {ccd:Value} {K:Frag} {p:Program} {loose:List Str}
theorem aX5{Q:Flow→Shared→Prop}{c:Int}{tc:Tok}(F:Fr h₀ L s.heap m)(N:News h₀ L s.heap news)(hm:BxM m)(hc:m aLr=some (.int c tc))(X:K.In h₀)(T:TopRead p loose mg mb h₀)(en:nsIn K mainGlobals aKt=some none)
  (k:∀ h' tk m',Fr h₀ L h' m'→News h₀ L h' news→BxM m'→Q .next { s with heap:=h',toks:=tk }):WpS (model prog w) A (execs [bx1,bx2] (envX cn bxS L f ccd [])) Q E s :=
 WpS.cons (aX6 F N hm hc fun h' tk m' F' N' M' hc'=>WpS.cons (aR0 (s:={ s with heap:=h',toks:=tk }) F' N' M' hc' X T en fun h2 tk2 m2 F2 N2 M2=>⟨wpAny_execs_nil (k h2 tk2 m2 F2 N2 M2)⟩))
theorem bDe{Q:Flow→Shared→Prop}{l:Addr}{vs:List Value}{ns:List Int}(F:Fr h₀ L s.heap m)(N:News h₀ L s.heap news)(hh:A.handled=none)(hm:BxM m)(hs:m aB7=some (.ref l))(hl:h₀.IsList l vs.toArray)(hi:IntsAre vs ns)(hlen:ns.length≤63)
  (X:K.In h₀) (T:TopRead p loose mg mb h₀) (en:nsIn K mainGlobals aKt=some none) (hE:PassesOwn (model prog w) A (envX cn bxS L f ccd []) E)
  (k:∀ h' tk m',Fr h₀ L h' m'→News h₀ L h' news→BxM m'→Q .next { s with heap:=h',toks:=tk }):WpS (model prog w) A (exec bxF (envX cn bxS L f ccd [])) Q E s:=by
 refine⟨?_⟩
 unfold bxF
 have hl':s.heap.IsList l vs.toArray:=hl.at fun o e=>F.keep l o e
 with_reducible refine For_invV h₀ bGb (by with_unfolding_all rfl) ?_ (by intro x;with_unfolding_all rfl) hE
 unfold bxI
 refine Subscript_ ?_
 refine nameX_L F hs ?_ rfl bZ6 (by decide)
 refine wpAny_Slice ?_
 refine evalPart_none_step ?_
 refine evalPart_some_step ?_
 refine wpAny_Constant_int ?_
 refine evalPart_none_step ?_
 refine slice_list (s:={ s with toks:=_ }) (lo:=none) (hi:=some 24) F N hl' .none (.int _ _) ?_ (by with_unfolding_all rfl) (by intro _;with_unfolding_all rfl) (by rw[sizeLine_eq];have:=hi.length;simp only[List.size_toArray];lia)
 intro h1 F1 N1
 have i1:=slice_ints_uptoW hi (y:=24) (by decide)
 generalize slicePick vs.toArray none (some 24) none=its at N1 i1
 have l1:h1.IsList (s.heap.objs.size+1) its:=by
  refine⟨_,(N1 _ (.head _)).1,rfl,_,rfl⟩
 refine wpAny_pyIter_list l1 ?_
 have hD:=N1 _ (.head _)
 have hDI:s.heap.objs.size+1≠h1.objs.size:=Nat.ne_of_lt (Heap.lt_size hD.1)
 have hI0:h₀.get? h1.objs.size=none:=next_is_new F1
 have NL:News h₀ L h1 news:=fun p hp=>N1 p (.tail _ hp)
 refine bLu h1.objs.size [h1.objs.size,s.heap.objs.size+1] [h1.objs.size] its.size _ _ m news (fun _ m₁ news₁=>news₁=news∧BxM m₁) ⟨rfl,Walks.list hh h1.objs.size (s.heap.objs.size+1) hDI its,?_,?_,?_,⟨⟨_,Heap.get?_push_size _ rfl,rfl,rfl⟩,l1.at fun o e=>Heap.get?_push_of_some _ e⟩,F1.push _,fun p hp=>⟨Heap.get?_push_of_some _ (NL p hp).1,(NL p hp).2⟩,⟨rfl,hm⟩,?_,?_⟩
 ·intro q
  rcases List.mem_cons.mp q with q|q
  ·exact Nat.ne_of_lt F1.ns.lt q
  ·exact hD.2.1 (List.mem_singleton.mp q).symm
 ·intro b q;rw[List.mem_singleton.mp q];exact hI0
 ·intro p hp q;exact Nat.ne_of_lt (Heap.lt_size (NL p hp).1) (List.mem_singleton.mp q)
 ·rintro i v m₁ news₁ s₁ own ⟨h2,tk2,rfl⟩ hi2 hP ⟨rfl,hJ⟩ hnw own1 own2 own3 st F₁ N₁
  obtain⟨c,_,u,rfl⟩:∃ c:Int,True∧∃ u,v=.int c u:=by
   have hv:its.toList[i]?=some v:=by simpa using (show its[i]?=some v from hP)
   refine aAd (i1.areOf.get i v hv) fun a _ z0_2=>?_
   obtain⟨u,e⟩:=z0_2
   exact⟨a,trivial,u,e⟩
  obtain⟨sd,g,t1,t2,e1,e2,b0,b1,b2⟩:=hJ
  refine (aX5 (s:={ s with heap:=h2,toks:=tk2 }) (c:=c) (tc:=u) F₁ N₁ ⟨sd,g,t1,t2,(if_neg (by decide)).trans e1,(if_neg (by decide)).trans e2,b0,b1,b2⟩ (if_pos rfl) X T en fun h' tk' m' F' N' M'=>?_).h
  exact LoopStepV.next ⟨rfl,h',tk',m',news₁,rfl,F',N',hnw,rfl,M'⟩
 ·rintro h' tk' m' news' F' N' _ ⟨rfl,M'⟩
  exact k h' tk' m' F' N' M'
theorem bDd{Q:Flow→Shared→Prop}(F:Fr h₀ L s.heap m)(N:News h₀ L s.heap news)(hm:BxM m)
  (k:∀ h' tk D g sd t1 t2 t3,Fr h₀ L h' m→News h₀ L h' ((D,listOf [.int g t1,.int sd t2,.int 0 t3].toArray 0)::news)→0≤sd→sd<2147483629→0≤g→Q (.ret (.ref D)) { s with heap:=h',toks:=tk }):WpS (model prog w) A (exec bxR (envX cn bxS L f ccd [])) Q E s:=by
 obtain⟨sd,g,t1,t2,m1,m2,b0,b1,b2⟩:=hm
 refine⟨?_⟩
 unfold bxR
 with_reducible refine wpAny_Return_some ?_
 with_reducible refine List_ ?_
 refine args_cons ?_ (aAb rfl)
 refine nameX_L F m2 ?_ rfl bF9 (by decide)
 refine args_cons ?_ (aAb rfl)
 refine nameX_L F m1 ?_ rfl bGa (by decide)
 refine args_cons ?_ (aAb rfl)
 refine wpAny_Constant_int ?_
 refine args_nil ?_
 refine newList_K (s:={ s with toks:=_ }) F N ?_ (by rw[sizeLine_eq];show 3≤16777216;decide)
 intro D h' F' N' lt
 exact k h' _ D g sd t2 t1 _ F' N' b0 b1 b2
theorem aX8{Q:Flow→Shared→Prop}{l:Addr}{vs:List Value}{ns:List Int}(F:Fr h₀ L s.heap m)(N:News h₀ L s.heap news)(hh:A.handled=none)(hs:m aB7=some (.ref l))(hl:h₀.IsList l vs.toArray)(hi:IntsAre vs ns)(hlen:ns.length≤63)
  (X:K.In h₀) (T:TopRead p loose mg mb h₀) (en:nsIn K mainGlobals aKt=some none) (hE:PassesOwn (model prog w) A (envX cn bxS L f ccd []) E)
  (k:∀ h' tk D g sd t1 t2 t3 m',Fr h₀ L h' m'→News h₀ L h' ((D,listOf [.int g t1,.int sd t2,.int 0 t3].toArray 0)::news)→0≤sd→sd<2147483629→0≤g→Q (.ret (.ref D)) { s with heap:=h',toks:=tk }) :
  WpS (model prog w) A (execs [bxA,bxF,bxR] (envX cn bxS L f ccd [])) Q E s :=
 WpS.cons (bDf F N hh fun h1 tk1 m1 F1 N1 M1 e1=>WpS.cons (bDe (s:={ s with heap:=h1,toks:=tk1 }) F1 N1 hh M1 (e1.trans hs) hl hi hlen X T en hE fun h2 tk2 m2 F2 N2 M2 =>
  WpS.cons (bDd (s:={ s with heap:=h2,toks:=tk2 }) F2 N2 M2 fun h3 tk3 D g sd t1 t2 t3 F3 N3 b0 b1 b2=>k h3 tk3 D g sd t1 t2 t3 m2 F3 N3 b0 b1 b2)))
end
section
structure BxK(K:Frag):Prop where
 ob:K.lookup 2206=some ⟨.type "function",none,.func (fnX aE4 aE4 bxP [bxA,bxF,bxR] bxS [] .none .none .none (.str aKw 5834) none (.ref 2205) .none),#[]⟩
 cd:codeIn K (.ref 2205) aE4=true
 na:nsIn K mainGlobals aKt=some none
 nb:nsIn K mainGlobals aE4=some (some (.ref 2206))
 kp:keepIn K (.ref 2206)=true
variable {prog:Program} {w:World} {A A₀:Around} {s:Shared} {h₀ base:Heap} {L:Addr} {m mg mb:Str→Option Value} {news:List (Addr×Obj)} {K:Frag} {p:Program} {loose:List Str} {mean:ExcName→Option Value} {env:Env} {outer:List Env}
theorem aX7(k:BxK K)(B:Below A₀ base outer h₀)(F:Fr h₀ L s.heap m)(N:News h₀ L s.heap news)(T:Top p loose mean mg mb h₀)(X:K.In h₀)(hA:A.frames=some (env::outer))(hf:env.frame=some L)(hke:env.scope.kind=.function)(hroom:A.depth<recursionLimit)(hh:A.handled=none)
  {l:Addr} {vs:List Value} {ns:List Int} (hl:h₀.IsList l vs.toArray) (hi:IntsAre vs ns) (hlen:ns.length≤63) {R:Result→Shared→Prop}
  (kk:∀ h' tk D g sd t1 t2 t3,Fr h₀ L h' m→News h₀ L h' ((D,listOf [.int g t1,.int sd t2,.int 0 t3].toArray 0)::news)→0≤sd→sd<2147483629→0≤g→R (.ok (.ret (.ref D))) { s with heap:=h',toks:=tk }) :
  codeAny (model prog w) A (.call (.ref 2206) ⟨[.ref l],[]⟩) R s:=by
 refine callX_plain (binds:=[(aB7,.ref l)]) B F N (Top.nolimit T) hA hf hke (F.keep _ _ (X _ _ k.ob)) rfl (codeRec_of (X.keeps F.keep) k.cd) hroom (BindsTo.of_eq rfl) (fun y hy=>?_) ?_ (by decide) rfl rfl rfl
 ·rw[List.mem_singleton.mp hy];exact bDc
 ·intro g L' hp F0 F1 N1 B' st lt
  have hg:g.IsList l vs.toArray:=hl.at fun o e=>st l o e
  have T':=topRead_of (T.keeps st)
  have X':=X.keeps st
  have A':(A.deeper (envX aE4 bxS L' 2206 (.ref 2205) [])).handled=none:=hh
  have hE:PassesOwn (model prog w) (A.deeper (envX aE4 bxS L' 2206 (.ref 2205) [])) (envX aE4 bxS L' 2206 (.ref 2205) []) (fun e s'=>wpAny (model prog w) (A.deeper (envX aE4 bxS L' 2206 (.ref 2205) [])) (leaving (envX aE4 bxS L' 2206 (.ref 2205) []) e) (fun _ s''=>R (.error e) s'') (fun e' s''=>R (.error e') s'') s'):=PassesOwn.leaving
  generalize A.deeper (envX aE4 bxS L' 2206 (.ref 2205) [])=A1 at A' hE ⊢
  with_reducible refine WpS.to (Q:=fun f s'=>∃ v,f=.ret v∧LeaveK h₀ L m g R v s') ?_ ?_
  ·with_reducible refine aX8 (s:={ s with heap:=hp,toks:=_ }) F1 N1 A' ?_ hg hi hlen X' T' k.na hE ?_
   ·show List.lookup aB7 [(aB7,Value.ref l)]=some (.ref l)
    rw[List.lookup_cons,beq_self_eq_true]
   ·intro h3 tk3 D g3 sd t1 t2 t3 m3 F3 N3 b0 b1 b2
    exact⟨_,rfl,leaveK_ F3 N3 fun F4 N4=>kk h3 tk3 D g3 sd t1 t2 t3 F4 N4 b0 b1 b2⟩
  ·rintro f s' ⟨v,rfl,q⟩
   exact q
end
noncomputable def lwP:Arguments:=⟨[],[⟨aB7,none,⟨1017,8,1017,14⟩⟩],none,[],[],none,[]⟩
noncomputable def lw0:Stmt:=.Assign [(.Name aGp ⟨1018,4,1018,7⟩)] (.Call (.Name aE4 ⟨1018,10,1018,18⟩) [(.Name aB7 ⟨1018,19,1018,25⟩)] [] ⟨1018,10,1018,26⟩) ⟨1018,4,1018,26⟩
noncomputable def lwI:PySem.Expr:=.Call (.Name aUv ⟨1022,16,1022,21⟩) [(.BinOp (.Constant (.int 2) 0 ⟨1022,22,1022,23⟩) .Add (.Call (.Name aUw ⟨1022,26,1022,29⟩) [(.Call (.Name aUx ⟨1022,30,1022,33⟩) [(.Name aB7 ⟨1022,34,1022,40⟩)] [] ⟨1022,30,1022,41⟩),(.Constant (.int 6) 0 ⟨1022,43,1022,44⟩)] [] ⟨1022,26,1022,45⟩) ⟨1022,22,1022,45⟩)] [] ⟨1022,16,1022,46⟩
noncomputable def lwF:Stmt:=.For (.Name aH8 ⟨1022,8,1022,12⟩) lwI aBg [] ⟨1022,4,1051,28⟩
noncomputable def lwR:Stmt:=.Return (some (.Constant (.bool true) 0 ⟨1052,11,1052,15⟩)) ⟨1052,4,1052,15⟩
theorem bB6:aQ4=lw0::((aQ4.drop 1).take 3++[lwF,lwR]):=aAa (by k_slotget)
theorem aQx:aB4.names.lookup aB7=some .local:=aAa (by k_slotget)
theorem bLc:aB4.names.lookup aGp=some .local:=aAa (by k_slotget)
theorem bK6:aB4.names.lookup aH8=some .local:=aAa (by k_slotget)
theorem bK5:aB4.names.lookup aE4=some .globalImplicit:=aAa (by k_slotget)
theorem bK7:aB4.names.lookup aUv=some .globalImplicit:=aAa (by k_slotget)
theorem bK8:aB4.names.lookup aUw=some .globalImplicit:=aAa (by k_slotget)
theorem bK9:aB4.names.lookup aUx=some .globalImplicit:=aAa (by k_slotget)
theorem aPr:aB4.kind=.function:=aAa (by k_slotget)
theorem bLb:aB4.isCoroutine=false:=aAa (by k_slotget)
theorem bLa:aB4.isGenerator=false:=aAa (by k_slotget)
theorem bB4:Nat.ble 20 aB4.names.length=true:=aAa (by k_slotget)
theorem aJ4(L:Nat):cellsFrom (L+1) aB4.names []=[(aAu,L+1)]:=aAa (by k_slotget)
theorem aNw:cellsFrom 0 aB4.names []=[(aAu,0)]:=aAa (by k_slotget)
structure LwK(K:Frag):Prop where
 ob:K.lookup 2237=some ⟨.type "function",none,.func (fnOf aCt aCt lwP aQ4 aB4 .none .none .none (.str aKw 5834) none (.ref 2236) .none),#[]⟩
 cd:codeIn K (.ref 2236) aCt=true
 nr:nsIn K mainGlobals aUv=some none
 nm:nsIn K mainGlobals aUw=some none
 nl:nsIn K mainGlobals aUx=some none
section
variable {prog:Program} {w:World} {A:Around} {E:Value→Shared→Prop} {s:Shared} {h₀:Heap} {L f:Addr} {m mg mb:Str→Option Value} {news:List (Addr×Obj)} {cn:Str} {ccd:Value} {K:Frag} {p:Program} {loose:List Str} {cl:List (Str×Addr)}
theorem bPh:(envX cn aB4 L f ccd cl).kindOf aB7=some .local:=aQx
theorem bX6:(envX cn aB4 L f ccd cl).kindOf aGp=some .local:=bLc
theorem bX2:(envX cn aB4 L f ccd cl).kindOf aE4=some .globalImplicit:=bK5
theorem bX3:(envX cn aB4 L f ccd cl).kindOf aUv=some .globalImplicit:=bK7
theorem bX4:(envX cn aB4 L f ccd cl).kindOf aUw=some .globalImplicit:=bK8
theorem bX5:(envX cn aB4 L f ccd cl).kindOf aUx=some .globalImplicit:=bK9
theorem bB5(kk:LwK K){Q:Value→Shared→Prop}{l:Addr}{vs:List Value}{ns:List Int}(F:Fr h₀ L s.heap m)(N:News h₀ L s.heap news)(hh:A.handled=none)(hs:m aB7=some (.ref l))(hl:h₀.IsList l vs.toArray)(hi:IntsAre vs ns)(hlen:ns.length≤63)(X:K.In h₀)(T:TopRead p loose mg mb h₀)
  (k:∀ r h tk t u v,Fr h₀ L h m→News h₀ L h news→IsRange h r 0 ((2+min ns.length 6:Nat):Int) 1 t u v→Q (.ref r) { s with heap:=h,toks:=tk }):WpS (model prog w) A (eval lwI (envX cn aB4 L f ccd cl)) Q E s:=by
 have br:bootBuiltins aUv=some (.type "range"):=aAa (by k_slotget)
 have bm:bootBuiltins aUw=some (.builtin "min"):=aAa (by k_slotget)
 have bl:bootBuiltins aUx=some (.builtin "len"):=aAa (by k_slotget)
 have hl':s.heap.IsList l vs.toArray:=hl.at fun o e=>F.keep l o e
 refine⟨?_⟩
 unfold lwI
 refine Call_ ?_
 refine nameX_B (v:=.type "range") F X T kk.nr br (by decide) ?_ aPr bX3 (by decide)
 refine PyProof.Rows.callWith_type1 ?_ (aAb rfl) (aA7 (l:=[]) rfl).1
 refine args_cons ?_ (aAb rfl)
 with_reducible refine wpAny_BinOp ?_
 refine wpAny_Constant_int ?_
 refine Call_ ?_
 refine nameX_B (s:={ s with toks:=_ }) (v:=.builtin "min") F X T kk.nm bm (by decide) ?_ aPr bX4 (by decide)
 refine callWith_method1 (first:=[]) ?_ (aAb rfl) (aA7 (l:=[_]) rfl).1
 refine args_cons ?_ (aAb rfl)
 refine Call_ ?_
 refine nameX_B (s:={ s with toks:=_ }) (v:=.builtin "len") F X T kk.nl bl (by decide) ?_ aPr bX5 (by decide)
 refine callWith_method1 (first:=[]) ?_ (aAb rfl) (aA7 (l:=[]) rfl).1
 refine args_cons ?_ (aAb rfl)
 refine nameX_L (s:={ s with toks:=_ }) F hs ?_ aPr bPh (by decide)
 refine args_nil ?_
 refine len_ints_fit (s:={ s with toks:=_ }) hl' hi (by lia) ?_
 refine args_cons ?_ (aAb rfl)
 refine wpAny_Constant_int ?_
 refine args_nil ?_
 refine bB2 (s:={ s with toks:=_ }) F N hh (bB3 (x:=(ns.length:Int)) (y:=6)) ?_
 intro h1 t1 tk1 F1 N1
 refine add_int ?_
 refine args_nil ?_
 refine call_range_1 ?_
 have e:(2:Int)+aHb (ns.length:Int) 6=((2+min ns.length 6:Nat):Int):=by unfold aHb;split<;>lia
 rw[e]
 exact k _ _ _ _ _ _ (F1.push _) (N1.grown fun _ _ q=>Heap.get?_push_of_some _ q) (IsRange.new _ _ _ _ _ _ _)
end
section
set_option tactic.hygienic true
theorem bXz{ads:List Addr}{m:Str→Option Value}{bg:Int}{v:Value}(h:MD ads (mS bg v) m):MD ads (mQ bg) m:=fun x y e=>by
 refine h x y ?_
 unfold mQ at e
 unfold mS
 rw[aAs] at e ⊢
 split at e
 ·rename_i q;rw[if_pos q];exact e
 ·rename_i q;rw[if_neg q]
  rw[aAs] at e ⊢
  split at e
  ·rename_i q;rw[if_pos q];exact e
  ·rename_i q;rw[if_neg q]
   rw[aAs] at e ⊢
   split at e
   ·rename_i q;rw[if_pos q];exact e
   ·cases e
theorem bXy{ads:List Addr}{m:Str→Option Value}{bg:Int}{v:Value}(h:MD ads (mS bg v) m):m aB7=some v:=by
 refine aAd (h aB7 (.k v) rfl) fun v' e d=>?_
 rw[e];exact congrArg some d
noncomputable def gL{K:Frag}(prog:Program)(w:World)(vo:VOk w.params (vwc 1 K))(p:Program)(loose:List Str)(mean:ExcName→Option Value)(mg mb:Str→Option Value)(s:Shared)(L:Addr)(E:Value→Shared→Prop):Gd (vwc 1 K) :=
 { X:=⟨prog,w,vo,p,loose,mean,mg,mb,⟨fun _=>[],fun _=>aNp⟩⟩,A:=callerA.deeper (envX aCt aB4 L 2237 (.ref 2236) [(aAu,L+1)]),cn:=aCt,L:=L,a:=2237,ccd:=.ref 2236,cl:=[(aAu,L+1)],outer:=[],A₀:=callerA,base:=s.heap,g:=s.heap,gens:=s.gens,drawn:=s.drawn,os:=s.os,cf:=cfL,E:=E }
variable {K:Frag} {prog:Program} {w:World} {vo:VOk w.params (vwc 1 K)} {p:Program} {loose:List Str} {mean:ExcName→Option Value} {mg mb:Str→Option Value} {s:Shared} {L:Addr} {E:Value→Shared→Prop}
theorem bLq(X:K.In s.heap)(T:Top p loose mean mg mb s.heap)(hE:PassesOwn (model prog w) (callerA.deeper (envX aCt aB4 L 2237 (.ref 2236) [(aAu,L+1)])) (envX aCt aB4 L 2237 (.ref 2236) [(aAu,L+1)]) E):Ok (gL prog w vo p loose mean mg mb s L E) where
 B:=below_caller s.heap
 K:=X
 T:=T
 KB:=X
 TB:=T
 D:=fun _ h=>nomatch h
 fr:=Around.frames_deeper rfl
 hk:=aPr
 dp:=by show 1+claimMargin+1+300<recursionLimit;decide
 un:=by show 4+3+8*300<cLine;decide
 tp:=fun _=>rfl
 own:=fun _=>⟨fun q=>absurd (bB4.symm.trans q) (fun z=>nomatch z),hE⟩
theorem aWa(H:aAv K)(kb:BxK K)(kl:LwK K)(vo:VOk w.params (vwc 1 K))(vo13:VOk w.params (vwc 13 K))(X:K.In s.heap)(T:Top p loose mean mg mb s.heap){l:Addr}{vs:List Value}{ns:List Int}(hli:s.heap.IsList l vs.toArray)(hi:IntsAre vs ns)(hlen:ns.length≤63)
  (hE:PassesOwn (model prog w) (callerA.deeper (envX aCt aB4 L 2237 (.ref 2236) [(aAu,L+1)])) (envX aCt aB4 L 2237 (.ref 2236) [(aAu,L+1)]) E)
  {h₁:Heap} {tk:Nat} {oc:Obj} {m0:Str→Option Value} (F:Fr s.heap L h₁ m0) (N:News s.heap L h₁ [(L+1,oc)]) (hoc:oc.data=.cell none) (hs:m0 aB7=some (.ref l)) {Q:Flow→Shared→Prop}
  (done:∀ h tk m,Fr s.heap L h m→Q (.ret (.bool true)) { s with heap:=h,toks:=tk }) :
  WpS (model prog w) (callerA.deeper (envX aCt aB4 L 2237 (.ref 2236) [(aAu,L+1)])) (execs aQ4 (envX aCt aB4 L 2237 (.ref 2236) [(aAu,L+1)])) Q E { s with heap:=h₁,toks:=tk }:=by
 have ok:=bLq (vo:=vo) (E:=E) X T hE
 have hh:(callerA.deeper (envX aCt aB4 L 2237 (.ref 2236) [(aAu,L+1)])).handled=none:=rfl
 rw[bB6]
 refine WpS.cons ⟨?_⟩
 unfold lw0
 with_reducible refine wpAny_Assign_Name ?_ (nc (by with_unfolding_all rfl))
 refine Call_ ?_
 refine nameX_K (s:={ s with heap:=h₁,toks:=tk }) F X (topRead_of T) kb.nb ?_ aPr bX2 (by decide)
 refine callWith_K (s:={ s with heap:=h₁,toks:=tk }) X kb.kp (args_cons ?_ (aAb rfl)) (aAb rfl) rfl
 refine nameX_L (s:={ s with heap:=h₁,toks:=tk }) F hs ?_ aPr bPh (by decide)
 refine args_nil ⟨X.keeps F.keep,?_⟩
 refine wpAny_call ?_
 refine aX7 (s:={ s with heap:=h₁,toks:=tk }) kb ok.B F N T X ok.fr rfl aPr (by show 1+claimMargin+1<recursionLimit;decide) hh hli hi hlen ?_
 intro h2 tk2 D g sd t1 t2 t3 F2 N2 b0 b1 b2
 refine storeX_L (s:={ s with heap:=h2,toks:=tk2 }) F2 N2 ?_ aPr bX6
 intro h3 F3 N3
 have nD:D≠L+1:=fun e=>by
  have a:=(N3 _ (.head _)).1
  have b:=(N3 _ (.tail _ (.head _))).1
  rw[e] at a
  have e2:listOf [.int g t1,.int sd t2,.int 0 t3].toArray 0=oc:=Option.some.inj (a.symm.trans b)
  rw[← e2] at hoc
  cases hoc
 have n1:aB7≠aGp:=by decide
 have M3:MD [D,L+1] [(aGp,.a 0),(aB7,.k (.ref l))] (fun y=>if y=aGp then some (.ref D) else m0 y):=fun x y e=>by
  rw[aAs] at e
  split at e
  ·rename_i q;cases q;cases e;exact⟨_,if_pos rfl,D,rfl,rfl⟩
  ·rw[aAs] at e
   split at e
   ·rename_i q;cases q;cases e;exact⟨_,(if_neg n1).trans hs,rfl⟩
   ·cases e
 have S:∀ orc,Sat (gL prog w vo p loose mean mg mb s L E) ⟨[D,L+1],[listOf [.int g t1,.int sd t2,.int 0 t3].toArray 0,oc],fun y=>if y=aGp then some (.ref D) else m0 y,h3,tk2+1⟩ ⟨[(aGp,.a 0),(aB7,.k (.ref l))],bMw g sd 0,orc⟩:=fun orc =>
  ⟨ok,F3,M3,N3,.cons ⟨_,.cons ⟨t1,rfl⟩ (.cons ⟨t2,rfl⟩ (.cons ⟨t3,rfl⟩ .nil)),rfl⟩ (.cons hoc .nil),rfl,by simp[nD],hh,fun _ x i e=>by
   have e0:=aAr (show (bif aB8 x aAu then some 1 else none)=some i from e)
   cases e0.2
   cases aCl e0.1
   exact⟨L+1,rfl,by rw[show (gL prog w vo p loose mean mg mb s L E).cl=[(aAu,L+1)] from rfl,List.lookup_cons,beq_self_eq_true]⟩⟩
 refine⟨aKb ?_⟩
 refine (aMv (G:=gL prog w vo p loose mean mg mb s L E) (Q:=fun f s'=>match f with
  | .next=>wpAny (model prog w) (callerA.deeper (envX aCt aB4 L 2237 (.ref 2236) [(aAu,L+1)])) (execs [lwF,lwR] (envX aCt aB4 L 2237 (.ref 2236) [(aAu,L+1)])) Q E s'
  |f=>Q f s') H vo13 rfl ⟨b0,b1⟩ rfl S fun β W' bg g' n' hbg n0 n1 hd S'=>?_).h
 have M':=(S' []).M
 have ok':=(S' []).ok
 refine (WpS.cons (aWb (G:=(gL prog w vo p loose mean mg mb s L E).to13 vo13 β) H rfl ok' hh hbg ⟨b0,b1⟩ (fun orc=>(S' orc).mm (bXz M')) hd ⟨n0,by omega⟩ (N:=2+min ns.length 6) (by omega) bK6 (fun x=>rfl) (fun Q' hq=>?_) fun h tk m F=>?_)).h
 ·exact bB5 (s:=⟨W'.h,s.gens,s.drawn,W'.t,s.os⟩) kl (S' []).F (S' []).N hh (bXy M') hli hi hlen X (topRead_of T) fun r h tk t u v F N hr=>hq r h tk t u v F N hr
 ·exact WpS.cons ⟨wpAny_Return_some (Constant_bool (done h tk m F))⟩
end
noncomputable def kOf(T:BT):List Nat→Frag
 | []=>[]
 |a::r=>(match T.get a with
  |some o=>(a,o)::kOf T r
  |none=>kOf T r)
noncomputable def vK(P:Params):Frag:=kOf (T16 pw P) vKA
noncomputable def aX0(K:Frag):Bool:=aZr.all fun e=>e.2.all fun q=>decide (findIn K (.ref e.1) q.1=some q.2)
noncomputable def bMi(K:Frag):Bool:=vPG.all fun C=>decide (findIn K (.ref C) "__getattribute__"=some (some (.builtin "object.__getattribute__")))&&decide (findIn K (.ref C) "__getattr__"=some none)&&hasDictIn K C&&decide (findIn K (.ref C) "__setattr__"=some (some (.builtin "object.__setattr__")))&&plainOver K C
noncomputable def bMg(K:Frag):Bool:=vPX.all fun C=>decide (findIn K (.ref C) "__getattribute__"=some (some (.builtin "BaseException.__getattribute__")))&&decide (findIn K (.ref C) "__getattr__"=some none)&&aDr K C&&hasDictIn K C
noncomputable def bMh(K:Frag):Bool:=aZr.all fun e=>e.2.all fun q=>!(aH0 e.1 vPG)||decide (takerIn K e.1 q.1=some none)
noncomputable def bMj(K:Frag):Bool:=vPF.all fun f=>match K.lookup f with
 |some ⟨_,_,.func fd,_⟩=>decide (fd.globals=mainGlobals)&&fd.closure.isEmpty&&decide (fd.builtins=builtinsNs)&&codeIn K fd.code fd.qualname&&!fd.scope.isCoroutine&&!fd.scope.isGenerator&&decide (fd.scope.kind=.function)&&(fd.scope.names.all fun x=>decide (x.2≠.cell))&&!(Nat.ble 20 fd.scope.names.length)
 |_=>true
noncomputable def bMp(K:Frag):Bool:=vCV.all fun e=>e.2.all fun q=>match typeIn K (.ref e.1) with
 |some mc=>(match findCls K (.ref e.1) mc q.1 with
  |some (.val a)=>decide (a=q.2)&&readsIn K e.1 mc&&handedIn a
  |_=>false)
 |none=>false
noncomputable def dOf:Obj→Option (List DictEntry×Nat)
 |⟨.type t,none,.dict es n,sl⟩=>if t=="dict"&&sl.isEmpty then some (es.toList,n) else none
 |_=>none
noncomputable def bMo(K:Frag):Bool:=vIV.all fun e=>e.2.all fun q=>match K.lookup e.1 with
 |some ⟨.ref C,some dx,.plain,_⟩=>(match (K.lookup dx).bind dOf with
  |some (es,_)=>decide (getL q.1 es=some (some q.2))&&decide (findIn K (.ref C) q.1=some none)&&plainGet K C q.1&&hasDictIn K C&&handedIn q.2
  |none=>false)
 |_=>false
noncomputable def bMm(K:Frag):Bool:=vMK.all fun e=>makesIn K e.1&&decide (findIn K (.ref e.1) "__init__"=some (some (.ref e.2)))&&isFn K (.ref e.2)
noncomputable def bMl(K:Frag):Bool:=vMT.all fun e=>e.2.all fun q=>plainGet K e.1 q.1&&decide (findIn K (.ref e.1) q.1=some (some (.ref q.2)))&&isFn K (.ref q.2)&&keepIn K (.ref q.2)
noncomputable def bMn(K:Frag):Bool:=vKP.all fun a=>keepIn K (.ref a)
noncomputable def bMe(K:Frag):Bool:=vVE.all fun C=>aI6 K C&&ktsIn K C "ValueError"
noncomputable def bCf(K:Frag)(a:Addr):Bool:=match K.lookup a with
 |some o=>(dOf o).isSome
 |none=>false
noncomputable def aTe:Value→Bool
 | .str _ _=>true
 |_=>false
noncomputable def aRq(K:Frag)(a:Addr):List DictEntry:=match K.lookup a with
 |some o=>(match dOf o with
  |some (es,_)=>es
  |none=>[])
 |none=>[]
noncomputable def bF8(K:Frag):Bool:=vNS.all fun e=>(Nat.beq e.1 3||(!(Nat.beq e.1 1)&&bCf K e.1&&(aRq K e.1).all fun d=>aTe d.key))&&e.2.all fun q=>decide (nsIn K e.1 q.1=some q.2)
noncomputable def bCm(P:Params)(e:DictEntry):DictEntry:=match e.key with
 | .str x t=>⟨PyData.keyHash P x,.str x t,e.val⟩
 |k=>⟨e.hash,k,e.val⟩
noncomputable def ents(K:Frag):List (List DictEntry):=vNS.map fun e=>if Nat.beq e.1 3 then [] else aRq K e.1
noncomputable def bMd(K:Frag):Bool:=vXS.all fun e=>e.2.all fun q=>decide (findIn K (.ref e.1) "__setattr__"=some (some (.builtin "object.__setattr__")))&&aDr K e.1&&decide (takerIn K e.1 q.1=some none)&&hasDictIn K e.1
noncomputable def bMk(K:Frag):Bool:=bN3.all fun e=>aI6 K e.1&&decide (findIn K (.ref e.1) "__init__"=some (some (.ref e.2)))&&decide (typeIn K (.ref e.2)=some (.type "function"))
noncomputable def bMq(K:Frag):Bool:=vCM.all fun e=>e.2.all fun q=>match typeIn K (.ref e.1) with
 |some mc=>(match findCls K (.ref e.1) mc q.1 with
  |some (.val a)=>decide (a=.ref q.2)&&readsIn K e.1 mc&&decide (specialIn K (.ref e.1) "__getattribute__"=some (some (.builtin "type.__getattribute__")))&&keepIn K (.ref q.2)
  |_=>false)
 |none=>false
noncomputable def bMf(K:Frag):Bool:=vTP.all fun e=>match K.lookup e.1 with
 |some ⟨.type t,none,.seq l n,_⟩=>t=="tuple"&&decide (l.toList=e.2)&&Nat.beq n 0
 |_=>false
theorem aM8(P:Params):bMd (vK P)=true:=aAa (by k_slotget)
theorem aNg(P:Params):bMk (vK P)=true:=aAa (by k_slotget)
theorem aNn(P:Params):bMq (vK P)=true:=aAa (by k_slotget)
theorem aNa(P:Params):bMf (vK P)=true:=aAa (by k_slotget)
theorem aNk(P:Params):((vK P).lookup 0).isSome=true:=aAa (by k_slotget)
theorem aG6(P:Params):aX0 (vK P)=true:=aAa (by k_slotget)
theorem aKy(P:Params):bMi (vK P)=true:=aAa (by k_slotget)
theorem aNc(P:Params):bMg (vK P)=true:=aAa (by k_slotget)
theorem aNd(P:Params):bMh (vK P)=true:=aAa (by k_slotget)
theorem aNe(P:Params):bMj (vK P)=true:=aAa (by k_slotget)
theorem aNm(P:Params):bMp (vK P)=true:=aAa (by k_slotget)
theorem aNl(P:Params):bMo (vK P)=true:=aAa (by k_slotget)
theorem aNi(P:Params):bMm (vK P)=true:=aAa (by k_slotget)
theorem aNh(P:Params):bMl (vK P)=true:=aAa (by k_slotget)
theorem aNj(P:Params):bMn (vK P)=true:=aAa (by k_slotget)
theorem aM9(P:Params):bMe (vK P)=true:=aAa (by k_slotget)
theorem aNf(P:Params):bF8 (vK P)=true:=aAa (by k_slotget)
theorem aEi(P:Params):ents (vK P)=(ents (vK P)).map (·.map (bCm P)):=aAa (by k_slotget)
theorem bXr(P:Params):(vO pw).map (fun p=>(vK P).lookup p.1)=(vO pw).map (fun p=>some p.2):=aAa (by k_slotget)
theorem aNb(P:Params):((vK P).lookup sysModules).isSome=true:=aAa (by k_slotget)
section
set_option tactic.hygienic true
theorem aIi{β:Type}{t:List (Nat×β)}{P:Nat→β→Bool}(h:t.all (fun e=>P e.1 e.2)=true){a:Nat}{r:β}(e:lkN a t=some r):P a r=true:=by
 rw[aHc] at e
 exact List.all_eq_true.mp h _ (mem_of_lookup e)
theorem aTu{o:Obj}{es:List DictEntry}{n:Nat}(h:dOf o=some (es,n)):o=⟨.type "dict",none,.dict es.toArray n,#[]⟩:=by
 unfold dOf at h
 split at h
 ·rename_i t a n' sl
  split at h
  ·rename_i hc
   rw[Bool.and_eq_true,beq_iff_eq,Array.isEmpty_iff] at hc
   obtain⟨rfl,rfl⟩:=hc
   cases h
   simp
  ·cases h
 ·cases h
theorem aN1{P:Params}:∀ {l:List DictEntry},l=l.map (bCm P)→l.all (fun d=>aTe d.key)=true→KeysLit P l
 | [],_,_=>trivial
 |e::r,h,k=>by
  rw[List.map_cons,List.cons.injEq] at h
  rw[List.all_cons,Bool.and_eq_true] at k
  refine⟨?_,aN1 h.2 k.2⟩
  obtain⟨hs,ky,v⟩:=e
  cases ky with
  |str x t =>
   have:=h.1
   unfold bCm at this
   dsimp only at this
   injection this with h1 h2 h3
   exact⟨x,t,rfl,h1⟩
  |_=>cases k.1
theorem aZo(ci:Nat)(P:Params)(K:Frag)(aG6:aX0 K=true)(aKy:bMi K=true)(aNc:bMg K=true)(aNd:bMh K=true)(aNe:bMj K=true)(aNm:bMp K=true)(aNl:bMo K=true)(aNi:bMm K=true)(aNh:bMl K=true)(aNj:bMn K=true)(aM9:bMe K=true)(aNf:bF8 K=true)(aM8:bMd K=true)(aNg:bMk K=true)(aNn:bMq K=true)(aNa:bMf K=true)(aNk:(K.lookup 0).isSome=true)(aEi:ents K=(ents K).map (·.map (bCm P)))(O:Frag)(hO:O.map (fun p=>K.lookup p.1)=O.map (fun p=>some p.2))(aNb:(K.lookup sysModules).isSome=true):VOk P { vwc ci K with O:=O } where
 O:=fun {a o} h=>by
  obtain⟨i,hi⟩:=List.getElem?_of_mem (mem_of_lookup h)
  have:=congrArg (fun l=>l[i]?) hO
  simp only[List.getElem?_map] at this
  rw[show O[i]?=some (a,o) from hi] at this
  exact Option.some.inj this
 iv:=fun {x n v} h=>by
  have:=aB1 (P:=fun a x r=>match K.lookup a with
   |some ⟨.ref C,some dx,.plain,_⟩=>(match (K.lookup dx).bind dOf with
    |some (es,_)=>decide (getL x es=some (some r))&&decide (findIn K (.ref C) x=some none)&&plainGet K C x&&hasDictIn K C&&handedIn r
    |none=>false)
   |_=>false) aNl h
  split at this
  ·rename_i C dx sl hx
   split at this
   ·rename_i es k hd
    obtain⟨od,h1,h2⟩:=Option.bind_eq_some_iff.mp hd
    simp only[Bool.and_eq_true,decide_eq_true_eq] at this
    exact⟨C,dx,sl,es,k,hx,by rw[aTu h2] at h1;exact h1,this.1.1.1.1,this.1.1.1.2,this.1.1.2,this.1.2,this.2⟩
   ·cases this
  ·cases this
 sm:=by
  have h:=aNb
  cases q:K.lookup sysModules with
  |none=>rw[q] at h;cases h
  |some o=>exact⟨o,q⟩
 ns:=fun {a x r} h=>by
  have h0:=aNf
  unfold bF8 at h0
  have h1:vNS.all (fun e=>e.2.all fun q=>decide (nsIn K e.1 q.1=some q.2))=true:=by
   rw[List.all_eq_true] at h0 ⊢
   intro e he
   have:=h0 e he
   rw[Bool.and_eq_true] at this
   exact this.2
  have t:decide (nsIn K a x=some r)=true:=aB1 (P:=fun a x r=>decide (nsIn K a x=some r)) h1 h
  rw[decide_eq_true_eq] at t
  refine⟨t,?_⟩
  have h:aI8 vNS a x=some r:=h
  unfold aI8 at h
  split at h
  ·rename_i l hl
   rw[aHc] at hl
   obtain⟨i,hi⟩:=List.getElem?_of_mem (mem_of_lookup hl)
   have hm:=List.all_eq_true.mp h0 _ (mem_of_lookup hl)
   rw[Bool.and_eq_true,Bool.or_eq_true] at hm
   rcases hm.1 with hm|hm
   ·exact .inl (Nat.eq_of_beq_eq_true hm)
   ·rw[Bool.and_eq_true,Bool.and_eq_true,Bool.not_eq_true'] at hm
    obtain⟨⟨k1,k2⟩,k3⟩:=hm
    by_cases e3:a=3
    ·exact .inl e3
    refine .inr ⟨Nat.ne_of_beq_eq_false k1,?_⟩
    unfold bCf at k2
    dsimp only at k2 k3
    split at k2
    ·rename_i o ho
     obtain⟨⟨es,n⟩,hd⟩:=Option.isSome_iff_exists.mp k2
     have hen:aRq K a=es:=by unfold aRq;rw[ho];dsimp only;rw[hd]
     rw[hen] at k3
     refine⟨es.toArray,n,by rw[aTu hd] at ho;exact ho,?_⟩
     have:=congrArg (fun l=>l[i]?) aEi
     unfold ents at this
     simp only[List.getElem?_map,hi,Option.map_some] at this
     rw[if_neg (by intro q;exact e3 (Nat.eq_of_beq_eq_true q))] at this
     rw[hen] at this
     exact aN1 (Option.some.inj this) (by simpa using k3)
    ·cases k2
  ·cases h
 fin:=fun {C x r} h=>by
  have t:decide (findIn K (.ref C) x=some r)=true:=aB1 (P:=fun a x r=>decide (findIn K (.ref a) x=some r)) aG6 h
  rw[decide_eq_true_eq] at t
  exact t
 pg:=fun {C} h n=>by
  have:=List.all_eq_true.mp aKy _ (aCg h)
  simp only[Bool.and_eq_true,decide_eq_true_eq] at this
  refine⟨?_,this.1.1.2⟩
  unfold plainGet
  show (findIn K (.ref C) "__getattribute__"==_&&findIn K (.ref C) "__getattr__"==_)=true
  rw[this.1.1.1.1,this.1.1.1.2];simp
 px:=fun {C} h=>by
  have:=List.all_eq_true.mp aNc _ (aCg h)
  simp only[Bool.and_eq_true,decide_eq_true_eq] at this
  exact⟨this.1.1.1,this.1.1.2,this.1.2,this.2⟩
 ps:=fun {C x} h=>by
  have h:(aH0 C vPG&&(aI8 aZr C x).isSome)=true:=h
  rw[Bool.and_eq_true] at h
  obtain⟨r,hr⟩:=Option.isSome_iff_exists.mp h.2
  have:=List.all_eq_true.mp aKy _ (aCg h.1)
  simp only[Bool.and_eq_true,decide_eq_true_eq] at this
  have t:=aB1 (P:=fun a x _=>!(aH0 a vPG)||decide (takerIn K a x=some none)) aNd hr
  rw[h.1] at t
  have t:decide (takerIn K C x=some none)=true:=by simpa using t
  rw[decide_eq_true_eq] at t
  exact⟨this.1.2,this.2,t,this.1.1.2⟩
 pf:=fun {f} h {oc od sl fd} hf=>by
  have:=List.all_eq_true.mp aNe _ (aCg h)
  have hf:K.lookup f=_:=hf
  rw[hf] at this
  simp only[Bool.and_eq_true,decide_eq_true_eq,Bool.not_eq_true',List.isEmpty_iff,List.all_eq_true] at this
  obtain⟨⟨⟨⟨⟨⟨⟨⟨h1,h2⟩,h3⟩,h4⟩,h5⟩,h6⟩,h7⟩,h8⟩,h9⟩:=this
  exact⟨h1,h2,h3,h4,h5,h6,h7,h8,h9⟩
 cv:=fun {x n a} h=>by
  have:=aB1 (P:=fun a x r=>match typeIn K (.ref a) with
   |some mc=>(match findCls K (.ref a) mc x with
    |some (.val b)=>decide (b=r)&&readsIn K a mc&&handedIn b
    |_=>false)
   |none=>false) aNm h
  split at this
  ·rename_i mc hmc
   split at this
   ·rename_i b hb
    rw[Bool.and_eq_true,Bool.and_eq_true,decide_eq_true_eq] at this
    obtain⟨⟨rfl,h2⟩,h3⟩:=this
    exact⟨mc,hmc,hb,h2,h3⟩
   ·cases this
  ·cases this
 mkc:=fun {C f} h=>by
  have:=aIi (P:=fun C f=>makesIn K C&&decide (findIn K (.ref C) "__init__"=some (some (.ref f)))&&isFn K (.ref f)) aNi h
  simp only[Bool.and_eq_true,decide_eq_true_eq] at this
  exact⟨this.1.1,this.1.2,this.2⟩
 mt:=fun {C n f} h=>by
  have:=aB1 (P:=fun a x r=>plainGet K a x&&decide (findIn K (.ref a) x=some (some (.ref r)))&&isFn K (.ref r)&&keepIn K (.ref r)) aNh h
  simp only[Bool.and_eq_true,decide_eq_true_eq] at this
  exact⟨this.1.1.1,this.1.1.2,this.1.2,this.2⟩
 kp:=fun {a} h=>by
  have h0:vKP.all (fun a=>keepIn K (.ref a))=true:=aNj
  have:=List.all_eq_true.mp h0 a (aCg h)
  exact this
 ve:=fun {C} h=>by
  have h0:vVE.all (fun C=>aI6 K C&&ktsIn K C "ValueError")=true:=aM9
  have:=List.all_eq_true.mp h0 C (aCg h)
  rw[Bool.and_eq_true] at this
  exact this
 k0:=by
  have h:=aNk
  cases q:K.lookup 0 with
  |none=>rw[q] at h;cases h
  |some o=>exact⟨o,q⟩
 xs:=fun {C x} h=>by
  have h:(aI8 vXS C x).isSome=true:=h
  obtain⟨r,hr⟩:=Option.isSome_iff_exists.mp h
  have:=aB1 (P:=fun a x _=>decide (findIn K (.ref a) "__setattr__"=some (some (.builtin "object.__setattr__")))&&aDr K a&&decide (takerIn K a x=some none)&&hasDictIn K a) aM8 hr
  simp only[Bool.and_eq_true,decide_eq_true_eq] at this
  exact⟨this.1.1.1,this.1.1.2,this.1.2,this.2⟩
 mkx:=fun {C f} h=>by
  have:=aIi (P:=fun C f=>aI6 K C&&decide (findIn K (.ref C) "__init__"=some (some (.ref f)))&&decide (typeIn K (.ref f)=some (.type "function"))) aNg h
  simp only[Bool.and_eq_true,decide_eq_true_eq] at this
  exact⟨this.1.1,this.1.2,this.2⟩
 cm:=fun {x n f} h=>by
  have:=aB1 (P:=fun a x r=>match typeIn K (.ref a) with
   |some mc=>(match findCls K (.ref a) mc x with
    |some (.val b)=>decide (b=.ref r)&&readsIn K a mc&&decide (specialIn K (.ref a) "__getattribute__"=some (some (.builtin "type.__getattribute__")))&&keepIn K (.ref r)
    |_=>false)
   |none=>false) aNn h
  split at this
  ·rename_i mc hmc
   split at this
   ·rename_i b hb
    simp only[Bool.and_eq_true,decide_eq_true_eq] at this
    obtain⟨⟨⟨rfl,h2⟩,h3⟩,h4⟩:=this
    exact⟨mc,hmc,hb,h2,h3,h4⟩
   ·cases this
  ·cases this
 tp:=fun {a l} h=>by
  have:=aIi (P:=fun a l=>match K.lookup a with
   |some ⟨.type t,none,.seq m n,_⟩=>t=="tuple"&&decide (m.toList=l)&&Nat.beq n 0
   |_=>false) aNa h
  split at this
  ·rename_i t m n sl hx
   simp only[Bool.and_eq_true,decide_eq_true_eq,beq_iff_eq] at this
   obtain⟨⟨rfl,rfl⟩,h3⟩:=this
   have:=Nat.eq_of_beq_eq_true h3
   subst this
   exact⟨sl,hx⟩
  ·cases this
theorem aZp(ci:Nat)(P:Params)(K:Frag)(aG6:aX0 K=true)(aKy:bMi K=true)(aNc:bMg K=true)(aNd:bMh K=true)(aNe:bMj K=true)(aNm:bMp K=true)(aNl:bMo K=true)(aNi:bMm K=true)(aNh:bMl K=true)(aNj:bMn K=true)(aM9:bMe K=true)(aNf:bF8 K=true)(aM8:bMd K=true)(aNg:bMk K=true)(aNn:bMq K=true)(aNa:bMf K=true)(aNk:(K.lookup 0).isSome=true)(aEi:ents K=(ents K).map (·.map (bCm P)))(hO:(vO pw).map (fun p=>K.lookup p.1)=(vO pw).map (fun p=>some p.2))(aNb:(K.lookup sysModules).isSome=true):VOk P (vwc ci K) :=
 aZo ci P K aG6 aKy aNc aNd aNe aNm aNl aNi aNh aNj aM9 aNf aM8 aNg aNn aNa aNk aEi (vO pw) hO aNb
theorem vok(ci:Nat)(P:Params):VOk P (vwc ci (vK P)):=aZp ci P (vK P) (aG6 P) (aKy P) (aNc P) (aNd P) (aNe P) (aNm P) (aNl P) (aNi P) (aNh P) (aNj P) (aM9 P) (aNf P) (aM8 P) (aNg P) (aNn P) (aNa P) (aNk P) (aEi P) (bXr P) (aNb P)
end
section
set_option tactic.hygienic true
theorem aIk{T:BT}{a:Nat}{o:Obj}:∀ {l:List Nat},(a,o)∈kOf T l→T.get a=some o
 | [],h=>nomatch h
 |b::r,h=>by
  unfold kOf at h
  split at h
  ·rename_i o' e
   rcases List.mem_cons.mp h with q|h
   ·cases q;exact e
   ·exact aIk h
  ·exact aIk h
noncomputable def okA(p:Nat×Obj):Bool:=Nat.blt p.1 2238&&(match p.2.data with
 | .freed=>false
 |_=>true)
theorem bCc{T:BT}{l:List Nat}{K:Frag}(hK:K=kOf T l)(h:K.all okA=true){H:Heap}(Y:∀ b o,(absHeap T 2238 aBk).get? b=some o→H.get? b=some o):K.In H:=fun a o e=>by
 have hm:=mem_of_lookup e
 have h1:=List.all_eq_true.mp h _ hm
 rw[hK] at hm
 obtain⟨q1,q2⟩:=aAc (show (Nat.blt a 2238&&(match o.data with
  | .freed=>false
  |_=>true))=true from h1)
 refine Y a o ((abs_get (Nat.le_of_ble_eq_true q1) (aIk hm)).trans ?_)
 obtain⟨c,d,dt,sl⟩:=o
 cases dt<;>first|rfl|cases q2
theorem bKh(P:Params):(vK P).all okA=true:=aAa (by k_slotget)
theorem stk(P:Params):StK (vK P):=⟨aAa (by k_slotget),aAa (by k_slotget),aAa (by k_slotget)⟩
theorem bxk(P:Params):BxK (vK P):=⟨aAa (by k_slotget),aAa (by k_slotget),aAa (by k_slotget),aAa (by k_slotget),aAa (by k_slotget)⟩
theorem lwk(P:Params):LwK (vK P):=⟨aAa (by k_slotget),aAa (by k_slotget),aAa (by k_slotget),aAa (by k_slotget),aAa (by k_slotget)⟩
theorem lwn(P:Params):nsIn (vK P) mainGlobals aCt=some (some (.ref 2237)):=aAa (by k_slotget)
theorem aV9:(aPs pw).name=aCt:=aAa (by k_slotget)
theorem kin(w:World)(h:Heap)(Y:yP w h):(vK w.params).In h:=bCc (T:=T16 pw w.params) (l:=vKA) rfl (bKh w.params) Y
section
variable {K:Frag} {prog:Program} {w:World} {p:Program} {loose:List Str} {mean:ExcName→Option Value} {mg mb:Str→Option Value} {s:Shared}
theorem aQy{v:Value}{k:Str→Option NameKind}(h:k aB7=some .local):bindL k [(aB7,v)] (fun _=>none) aB7=some v:=by
 show (if k aB7=some .local then (fun y=>if y=aB7 then some v else none) else fun _=>none) aB7=some v
 rw[if_pos h]
 exact if_pos rfl
theorem aQz{v:Value}{k:Str→Option NameKind}(h:k aB7=some .local):bindC k [(aB7,v)] (fun _=>none) aAu=none:=by
 show (if k aB7=some .local then (fun _=>none) else fun y=>if y=aB7 then some v else none) aAu=none
 rw[if_pos h]
theorem aWp(st:StK K)(kb:BxK K)(kl:LwK K)(vo:VOk w.params (vwc 1 K))(vo13:VOk w.params (vwc 13 K))(X:K.In s.heap)(T:Top p loose mean mg mb s.heap){l:Addr}{vs:List Value}{ns:List Int}(hli:s.heap.IsList l vs.toArray)(hi:IntsAre vs ns)(hlen:ns.length≤63){R:Result→Shared→Prop}
  (hR:∀ h tk,(∀ b o,s.heap.get? b=some o→h.get? b=some o)→R (.ok (.ret (.bool true))) { s with heap:=h,toks:=tk }):codeAny (model prog w) callerA (.call (.ref 2237) ⟨[.ref l],[]⟩) R s:=by
 refine aNz (binds:=[(aB7,.ref l)]) X (Top.nolimit T) kl.ob kl.cd (by decide) (BindsTo.of_eq rfl) ?_ ?_ ?_ bLb bLa aPr
 ·simp only[List.all_cons,List.all_nil,aQx];decide
 ·rw[aNw];simp
 ·intro L h₁ tk cells hL F N Y
  rw[aJ4] at Y
  refine aAd (CellsAre.one Y) fun oc r1_1 hoc=>?_
  subst r1_1
  have hoc:oc.data=.cell none:=hoc.trans (congrArg Data.cell (aQz (k:=fun y=>aB4.names.lookup y) aQx))
  have hs:bindL (envOfC aCt aB4 L 2237 (.ref 2236)).kindOf [(aB7,Value.ref l)] (fun _=>none) aB7=some (.ref l):=aQy (k:=fun y=>aB4.names.lookup y) aQx
  generalize bindL (envOfC aCt aB4 L 2237 (.ref 2236)).kindOf [(aB7,Value.ref l)] (fun _=>none)=m0 at F hs
  have eE:envOfC aCt aB4 L 2237 (.ref 2236)=envX aCt aB4 L 2237 (.ref 2236) [(aAu,L+1)]:=by
   show envX aCt aB4 L 2237 (.ref 2236) (cellsFrom (L+1) aB4.names [])=_
   rw[aJ4]
  rw[eE]
  have hE:PassesOwn (model prog w) (callerA.deeper (envX aCt aB4 L 2237 (.ref 2236) [(aAu,L+1)])) (envX aCt aB4 L 2237 (.ref 2236) [(aAu,L+1)]) (fun e s'=>wpAny (model prog w) (callerA.deeper (envX aCt aB4 L 2237 (.ref 2236) [(aAu,L+1)])) (leaving (envX aCt aB4 L 2237 (.ref 2236) [(aAu,L+1)]) e) (fun _ s''=>R (.error e) s'') (fun e' s''=>R (.error e') s'') s'):=PassesOwn.leaving
  have B:=aWa (Q:=fun f s'=>f=.ret (.bool true)∧∃ h tk,s'={ s with heap:=h,toks:=tk }∧∀ b o,s.heap.get? b=some o→h.get? b=some o) (aUh st) kb kl vo vo13 X T hli hi hlen hE F N hoc hs (tk:=tk) fun h tk m F=>⟨rfl,h,tk,rfl,F.keep⟩
  with_reducible refine WpS.to B ?_
  rintro f s' ⟨rfl,h,tk,rfl,k⟩
  exact hR h tk k
end
theorem call:WalkO (qP pw) lo (XL (qP pw) []) yP PySem.Challenge.rw_nz0234_01.row.toRowW (aPs pw) [] fun f vs=>PySem.call f vs:=by
 intro w s₀ s₁ mg mb G Y fa o pm cd doc dV kV ho hd hcd hD hmg hg args vals as hpre hlay hrd hwl hlo
 have X:=kin w s₁.heap Y
 have e1:=mg_of X G.T.g (lwn w.params)
 rw[aV9,e1] at hmg
 cases hmg
 have T:=G.T
 clear hd hcd hD ho
 wrow_args hpre hlay hrd hwl hlo
 refine enter_call ?_
 rename_i hlen _
 refine aWp (stk w.params) (bxk w.params) (lwk w.params) (vok 1 w.params) (vok 13 w.params) X T (by assumption) (by assumption) (by omega) fun h tk k=>?_
 refine⟨.inl ⟨_,_,[],rfl,fun _=>rfl,ReadsW.bool true,?_,fun _=>⟨List.nodup_nil,fun _ hm=>(nomatch hm)⟩⟩,OldK.of_keep k,rfl,?_⟩
 ·wrow_post
 ·exact .of_eq hg
theorem cw_holds:PySem.Challenge.rw_nz0234_01.Holds:=of_walk call
end
end Mine
theorem PySem.Challenge.cw_nz0234_01_holds : PySem.Challenge.rw_nz0234_01.Holds :=
  Mine.cw_holds
