import PyProof.Rows.All
import Wide.All
import OpenK.AllK
import Wide.FinOn
import PySem.Challenge.RW_nu0031_01
set_option bootstrap.genMatcherCode false
set_option genSizeOf false
set_option tactic.hygienic false
set_option Elab.async false
set_option maxRecDepth 1000000
set_option linter.all false
set_option maxHeartbeats 8000000
open PySem PySem.W PySem.Calls PyProof.Rows
noncomputable section
namespace Mine
section
def tR:Lean.Syntax:=Lean.Unhygienic.run `(Lean.Parser.Tactic.tacticSeq| rfl)
def tD:Lean.Syntax:=Lean.Unhygienic.run `(Lean.Parser.Tactic.tacticSeq| decide)
def tI:Lean.Syntax:=Lean.Unhygienic.run `(Lean.Parser.Tactic.tacticSeq| intro _;rfl)
def tW:Lean.Syntax:=Lean.Unhygienic.run `(Lean.Parser.Tactic.tacticSeq| with_unfolding_all rfl)
def tX:Lean.Syntax:=Lean.Unhygienic.run `(Lean.Parser.Tactic.tacticSeq| intro _ _ _;with_unfolding_all rfl)
def tA:Lean.Syntax:=Lean.Unhygienic.run `(Lean.Parser.Tactic.tacticSeq| assumption)
def tY:Lean.Syntax:=Lean.Unhygienic.run `(Lean.Parser.Tactic.tacticSeq| intro _ _;with_unfolding_all rfl)
def tJ:Lean.Syntax:=Lean.Unhygienic.run `(Lean.Parser.Tactic.tacticSeq| intro _ _;rfl)
@[elab_as_elim] theorem sE {α:Sort _} {a b:α} {G:α->Prop} (h:a=b) (k:G b):G a:=by subst h;exact k
@[elab_as_elim] theorem sF {α:Sort _} {a b:α} {G:α->Prop} (h:b=a) (k:G b):G a:=by subst h;exact k
theorem llN {a b:Nat} (h:autoParam (a<b) tA):a<=b:=Nat.le_of_lt h
theorem llI {a b:Int} (h:autoParam (a<b) tA):a<=b:=Int.le_of_lt h
theorem tdN {a b c:Nat} (h:autoParam (a<=b) tA) (k:autoParam (b<=c) tD):a<=c:=Nat.le_trans h k
theorem tzN {a b c:Nat} (h:autoParam (a<=b) tA) (k:autoParam (b<c) tD):a<c:=Nat.lt_of_le_of_lt h k
theorem tyN {a b c:Nat} (h:autoParam (a<b) tA) (k:autoParam (b<=c) tD):a<c:=Nat.lt_of_lt_of_le h k
theorem tzI {a b c:Int} (h:autoParam (a<=b) tA) (k:autoParam (b<c) tD):a<c:=Int.lt_of_le_of_lt h k
theorem aaN {a b c:Nat} (h:autoParam (a<=b) tA) (k:autoParam (b<=c) tA):a<=c:=Nat.le_trans h k
theorem clN {a b:Nat} (h:autoParam (a<b) tA):(a:Int)<b:=Int.ofNat_lt.mpr h
theorem ceN {a b:Nat} (h:autoParam (a<=b) tA):(a:Int)<=b:=Int.ofNat_le.mpr h
theorem qlN {a b:Nat} (h:autoParam (¬ a<b) tA):b<=a:=Nat.not_lt.mp h
theorem qeN {a b:Nat} (h:autoParam (¬ a<=b) tA):b<a:=Nat.not_le.mp h
theorem svN {a b:Nat} (h:autoParam (a<b+1) tA):a<=b:=Nat.le_of_lt_succ h
section
variable {α:Type _} {a b c d:α} {l:List α}
theorem mm0:a∈a::l:=.head _
theorem mm1:a∈b::a::l:=.tail _ mm0
theorem mm2:a∈b::c::a::l:=.tail _ mm1
theorem mm3:a∈b::c::d::a::l:=.tail _ mm2
end
theorem mS {α:Type _} {a b:α} (h:a∈[b]):a=b:=List.mem_singleton.mp h
theorem mC {α:Type _} {a b:α} {l:List α} (h:a∈b::l):a=b∨a∈l:=List.mem_cons.mp h
theorem mA {α:Type _} {a:α} {k l:List α} (h:a∈k++l):a∈k∨a∈l:=List.mem_append.mp h
theorem Jb {α:Sort _} {P:α->Prop} {G:Prop} (h:∃ x:α,P x) (k:∀ x:α,P x->G):G:=by rcases h with ⟨y0,y1⟩;exact k y0 y1
theorem J3 {P Q R:Prop} {G:Prop} (h:P/\Q/\R) (k:P->Q->R->G):G:=by rcases h with ⟨y0,y1,y2⟩;exact k y0 y1 y2
theorem J0 {α:Sort _} {P Q:α->Prop} {G:Prop} (h:∃ x:α,P x/\Q x) (k:∀ x:α,P x->Q x->G):G:=by rcases h with ⟨y0,y1,y2⟩;exact k y0 y1 y2
theorem J5 {α β:Sort _} {P:α->β->Prop} {G:Prop} (h:∃ x:α,∃ y:β,P x y) (k:∀ x:α,∀ y:β,P x y->G):G:=by rcases h with ⟨y0,y1,y2⟩;exact k y0 y1 y2
theorem Ja {P Q R S:Prop} {G:Prop} (h:P/\Q/\R/\S) (k:P->Q->R->S->G):G:=by rcases h with ⟨y0,y1,y2,y3⟩;exact k y0 y1 y2 y3
theorem J1 {α:Sort _} {P Q R:α->Prop} {G:Prop} (h:∃ x:α,P x/\Q x/\R x) (k:∀ x:α,P x->Q x->R x->G):G:=by rcases h with ⟨y0,y1,y2,y3⟩;exact k y0 y1 y2 y3
theorem J2 {α β:Sort _} {P Q:α->β->Prop} {G:Prop} (h:∃ x:α,∃ y:β,P x y/\Q x y) (k:∀ x:α,∀ y:β,P x y->Q x y->G):G:=by rcases h with ⟨y0,y1,y2,y3⟩;exact k y0 y1 y2 y3
theorem Jj {α β γ:Sort _} {P:α->β->γ->Prop} {G:Prop} (h:∃ x:α,∃ y:β,∃ z:γ,P x y z) (k:∀ x:α,∀ y:β,∀ z:γ,P x y z->G):G:=by rcases h with ⟨y0,y1,y2,y3⟩;exact k y0 y1 y2 y3
theorem Je {P Q R S T:Prop} {G:Prop} (h:P/\Q/\R/\S/\T) (k:P->Q->R->S->T->G):G:=by rcases h with ⟨y0,y1,y2,y3,y4⟩;exact k y0 y1 y2 y3 y4
theorem Jm {P:Prop} {α:Sort _} {Q R S:α->Prop} {G:Prop} (h:P/\∃ x:α,Q x/\R x/\S x) (k:P->∀ x:α,Q x->R x->S x->G):G:=by rcases h with ⟨y0,y1,y2,y3,y4⟩;exact k y0 y1 y2 y3 y4
theorem J6 {α:Sort _} {P Q R S:α->Prop} {G:Prop} (h:∃ x:α,P x/\Q x/\R x/\S x) (k:∀ x:α,P x->Q x->R x->S x->G):G:=by rcases h with ⟨y0,y1,y2,y3,y4⟩;exact k y0 y1 y2 y3 y4
theorem J7 {α:Sort _} {P Q:α->Prop} {β:Sort _} {R:α->β->Prop} {G:Prop} (h:∃ x:α,P x/\Q x/\∃ y:β,R x y) (k:∀ x:α,P x->Q x->∀ y:β,R x y->G):G:=by rcases h with ⟨y0,y1,y2,y3,y4⟩;exact k y0 y1 y2 y3 y4
theorem J8 {α:Sort _} {P:α->Prop} {β:Sort _} {Q R:α->β->Prop} {G:Prop} (h:∃ x:α,P x/\∃ y:β,Q x y/\R x y) (k:∀ x:α,P x->∀ y:β,Q x y->R x y->G):G:=by rcases h with ⟨y0,y1,y2,y3,y4⟩;exact k y0 y1 y2 y3 y4
theorem Jl {α:Sort _} {P:α->Prop} {β γ:Sort _} {Q:α->β->γ->Prop} {G:Prop} (h:∃ x:α,P x/\∃ y:β,∃ z:γ,Q x y z) (k:∀ x:α,P x->∀ y:β,∀ z:γ,Q x y z->G):G:=by rcases h with ⟨y0,y1,y2,y3,y4⟩;exact k y0 y1 y2 y3 y4
theorem J4 {α β:Sort _} {P Q R:α->β->Prop} {G:Prop} (h:∃ x:α,∃ y:β,P x y/\Q x y/\R x y) (k:∀ x:α,∀ y:β,P x y->Q x y->R x y->G):G:=by rcases h with ⟨y0,y1,y2,y3,y4⟩;exact k y0 y1 y2 y3 y4
theorem Jp {α β γ:Sort _} {P Q:α->β->γ->Prop} {G:Prop} (h:∃ x:α,∃ y:β,∃ z:γ,P x y z/\Q x y z) (k:∀ x:α,∀ y:β,∀ z:γ,P x y z->Q x y z->G):G:=by rcases h with ⟨y0,y1,y2,y3,y4⟩;exact k y0 y1 y2 y3 y4
theorem Jd {α β γ δ:Sort _} {P:α->β->γ->δ->Prop} {G:Prop} (h:∃ x:α,∃ y:β,∃ z:γ,∃ u:δ,P x y z u) (k:∀ x:α,∀ y:β,∀ z:γ,∀ u:δ,P x y z u->G):G:=by rcases h with ⟨y0,y1,y2,y3,y4⟩;exact k y0 y1 y2 y3 y4
theorem Jf {α:Sort _} {P:α->Prop} {β:Sort _} {Q R S:α->β->Prop} {G:Prop} (h:∃ x:α,P x/\∃ y:β,Q x y/\R x y/\S x y) (k:∀ x:α,P x->∀ y:β,Q x y->R x y->S x y->G):G:=by rcases h with ⟨y0,y1,y2,y3,y4,y5⟩;exact k y0 y1 y2 y3 y4 y5
theorem J9 {α β:Sort _} {P Q R S:α->β->Prop} {G:Prop} (h:∃ x:α,∃ y:β,P x y/\Q x y/\R x y/\S x y) (k:∀ x:α,∀ y:β,P x y->Q x y->R x y->S x y->G):G:=by rcases h with ⟨y0,y1,y2,y3,y4,y5⟩;exact k y0 y1 y2 y3 y4 y5
theorem Jc {α β γ:Sort _} {P Q R:α->β->γ->Prop} {G:Prop} (h:∃ x:α,∃ y:β,∃ z:γ,P x y z/\Q x y z/\R x y z) (k:∀ x:α,∀ y:β,∀ z:γ,P x y z->Q x y z->R x y z->G):G:=by rcases h with ⟨y0,y1,y2,y3,y4,y5⟩;exact k y0 y1 y2 y3 y4 y5
theorem Jg {α:Sort _} {P Q:α->Prop} {β:Sort _} {R S T:α->β->Prop} {G:Prop} (h:∃ x:α,P x/\Q x/\∃ y:β,R x y/\S x y/\T x y) (k:∀ x:α,P x->Q x->∀ y:β,R x y->S x y->T x y->G):G:=by rcases h with ⟨y0,y1,y2,y3,y4,y5,y6⟩;exact k y0 y1 y2 y3 y4 y5 y6
theorem Jh {α β:Sort _} {P Q:α->β->Prop} {γ:Sort _} {R S:α->β->γ->Prop} {G:Prop} (h:∃ x:α,∃ y:β,P x y/\Q x y/\∃ z:γ,R x y z/\S x y z) (k:∀ x:α,∀ y:β,P x y->Q x y->∀ z:γ,R x y z->S x y z->G):G:=by rcases h with ⟨y0,y1,y2,y3,y4,y5,y6⟩;exact k y0 y1 y2 y3 y4 y5 y6
theorem Ji {α β γ:Sort _} {P Q R S:α->β->γ->Prop} {G:Prop} (h:∃ x:α,∃ y:β,∃ z:γ,P x y z/\Q x y z/\R x y z/\S x y z) (k:∀ x:α,∀ y:β,∀ z:γ,P x y z->Q x y z->R x y z->S x y z->G):G:=by rcases h with ⟨y0,y1,y2,y3,y4,y5,y6⟩;exact k y0 y1 y2 y3 y4 y5 y6
theorem Jk {α β γ δ:Sort _} {P Q R:α->β->γ->δ->Prop} {G:Prop} (h:∃ x:α,∃ y:β,∃ z:γ,∃ u:δ,P x y z u/\Q x y z u/\R x y z u) (k:∀ x:α,∀ y:β,∀ z:γ,∀ u:δ,P x y z u->Q x y z u->R x y z u->G):G:=by rcases h with ⟨y0,y1,y2,y3,y4,y5,y6⟩;exact k y0 y1 y2 y3 y4 y5 y6
theorem Jn {α β:Sort _} {P Q R:α->β->Prop} {γ:Sort _} {S T:α->β->γ->Prop} {G:Prop} (h:∃ x:α,∃ y:β,P x y/\Q x y/\R x y/\∃ z:γ,S x y z/\T x y z) (k:∀ x:α,∀ y:β,P x y->Q x y->R x y->∀ z:γ,S x y z->T x y z->G):G:=by rcases h with ⟨y0,y1,y2,y3,y4,y5,y6,y7⟩;exact k y0 y1 y2 y3 y4 y5 y6 y7
theorem Jo {α β γ δ:Sort _} {P Q R S:α->β->γ->δ->Prop} {G:Prop} (h:∃ x:α,∃ y:β,∃ z:γ,∃ u:δ,P x y z u/\Q x y z u/\R x y z u/\S x y z u) (k:∀ x:α,∀ y:β,∀ z:γ,∀ u:δ,P x y z u->Q x y z u->R x y z u->S x y z u->G):G:=by rcases h with ⟨y0,y1,y2,y3,y4,y5,y6,y7⟩;exact k y0 y1 y2 y3 y4 y5 y6 y7
theorem sb1 {n i:Nat} (h:autoParam (i<n) tA):n-(i+1)<n-i:=Nat.sub_succ_lt_self n i h
theorem dr {α:Sort _} {P Q R:α->Prop} (h:∃ x,P x/\Q x/\R x):∃ x,P x/\R x:=J1 h fun x p _ r=>⟨x,p,r⟩
noncomputable def YZ5:List String:=Builtin.Bytes.decodersThatHold++["bytearray.__contains__", "bytearray.__mod__", "bytearray.__rmod__", "_struct.pack_into.held", "bytearray.find.held"]
noncomputable def Code.holds:Code->Bool
 | .builtin id _=>YZ5.contains id
 | _=>false
noncomputable def Free (l:List (Code×Pos)):Prop:=∀ x∈l,Code.holds x.1=false
noncomputable def wpC {α:Type} (M:Model) (A:Around) (t:Sem α) (Q:α->Shared->Prop) (E:Value->Shared->Prop) (s:Shared):Prop :=
 ∀ Γ p,Γ.In A->Free ((Γ.code,p)::Γ.below)->Sem.wp M Γ t (fun a _ s'=>Q a s') (fun e _ s'=>E e s') p s
noncomputable def YZ7 (M:Model) (A:Around) (c:Code) (R:Result->Shared->Prop) (s:Shared):Prop :=
 ∀ Γ p,Γ.code=c->Γ.Below A->Free Γ.below->wpCode M Γ R p s
section
variable {α β:Type} {M:Model} {A:Around} {E:Value->Shared->Prop} {s:Shared}
theorem YZb {t:Sem α} {Q:α->Shared->Prop} (h:wpAny M A t Q E s):wpC M A t Q E s:=fun Γ p hΓ _=>h Γ p hΓ
theorem YZc {a:α} {Q:α->Shared->Prop} (h:Q a s):wpC M A (Pure.pure a) Q E s:=fun _ _ _ _=>h
theorem YZf {t:Sem α} {Q Q':α->Shared->Prop} {E':Value->Shared->Prop} (h:wpC M A t Q E s) (hQ:∀ a s,Q a s->Q' a s) (hE:∀ e s,E e s->E' e s):wpC M A t Q' E' s :=
 fun Γ p hΓ hf=>Sem.wp_mono M Γ t (fun a _ s=>hQ a s) (fun e _ s=>hE e s) p s (h Γ p hΓ hf)
theorem Free.pos {Γ:Ctx} {p q:Pos} (h:Free ((Γ.code,p)::Γ.below)):Free ((Γ.code,q)::Γ.below):=fun x hx=>by
 rcases mC hx with rfl | hx
 ·exact h (Γ.code,p) (List.mem_cons_self ..)
 ·exact h _ (List.mem_cons_of_mem _ hx)
theorem YZa {m:Sem α} {f:α->Sem β} {Q:β->Shared->Prop} (h:wpC M A m (fun a s'=>wpC M A (f a) Q E s') E s):wpC M A (m >>= f) Q E s:=fun Γ p hΓ hf=>by
 refine sE (Sem.wp_bind' ..) ?_
 exact Sem.wp_mono M Γ m (fun a p' s' h'=>h' Γ p' hΓ hf.pos) (fun _ _ _ h'=>h') p s (h Γ p hΓ hf)
theorem YZ1 {m:Sem α} {k:Value->Sem Unit} {Q:α->Shared->Prop}
  (h:wpC M A m Q (fun e s'=>wpC M A (k e) (fun _ s''=>E e s'') E s') s):wpC M A (m.onRaise k) Q E s:=fun Γ p hΓ hf=>by
 refine sE (Sem.wp_onRaise ..) ?_
 exact Sem.wp_mono M Γ m (fun _ _ _ h'=>h') (fun e p' s' h'=>h' Γ p' hΓ hf.pos) p s (h Γ p hΓ hf)
theorem GZ0 {m:Sem α} {Q:Except Value α->Shared->Prop} (h:wpC M A m (fun a=>Q (.ok a)) (fun e=>Q (.error e)) s):wpC M A m.attempt Q E s :=
 fun Γ p hΓ hf=>by refine sE (Sem.wp_attempt ..) ?_;exact h Γ p hΓ hf
theorem DZ8 {m:Sem α} {k:Value->Sem α} {Q:α->Shared->Prop} (h:wpC M A m Q (fun e s'=>wpC M A (k e) Q E s') s) :
  wpC M A (tryCatch m k) Q E s:=fun Γ p hΓ hf=>by
 refine sE (Sem.wp_tryCatch' ..) ?_
 exact Sem.wp_mono M Γ m (fun _ _ _ h'=>h') (fun e p' s' h'=>h' Γ p' hΓ hf.pos) p s (h Γ p hΓ hf)
theorem YZe {vs:List Value} {m:Sem α} {Q:α->Shared->Prop} (h:wpC M A m Q E s):wpC M A (holding vs m) Q E s :=
 fun Γ p hΓ hf=>by refine sE (Sem.wp_holding ..) ?_;exact h Γ p hΓ hf
theorem wpC_keep {vs:List Value} {m:Sem α} {Q:α->Shared->Prop} (h:wpC M A m Q E s):wpC M A (m.keep vs) Q E s :=
 fun Γ p hΓ hf=>by refine sE (Sem.wp_keep ..) ?_;exact h Γ p hΓ hf
theorem YZd {pos:Pos} {Q:Unit->Shared->Prop} (h:Q () s):wpC M A (standAt pos) Q E s:=fun _ _ _ _=>h
theorem UZr {Q:Unit->Shared->Prop} (h:Q () s):wpC M A point Q E s:=fun _ _ _ _=>h
theorem VZo {vs:List Value} {m:Sem Value} {Q:Value->Shared->Prop} (h:wpC M A m Q E s):wpC M A (operate vs m) Q E s :=
 fun Γ p hΓ hf=>by refine sE (Sem.wp_operate ..) ?_;exact h Γ p hΓ hf
theorem XZm {env:Env} {x:Str} {v:Value} {Q:Unit->Shared->Prop} (h:wpC M A (storeName env x v) Q E s):wpC M A (bindName env x v) Q E s :=
 fun Γ p hΓ hf=>by refine sE (Sem.wp_bindName ..) ?_;exact h Γ p hΓ hf
theorem wpC_stack {f:Code×Pos->Bool} {Q:Bool->Shared->Prop} (hf:∀ c p,Code.holds c=false->f (c,p)=false) (h:Q false s):wpC M A (do return (<- stack).any f) Q E s:=fun Γ p hΓ hfr=>by
 show Q (((Γ.code,p)::Γ.below).any f) s
 have:((Γ.code,p)::Γ.below).any f=false:=by
  rw [List.any_eq_false]
  intro x hx
  refine sE (hf x.1 x.2 (hfr x hx)) ?_
  decide
 refine sE this ?_;exact h
theorem VZf {c:Bool} {a b:Sem α} {Q:α->Shared->Prop} (hc:c=false) (h:wpC M A b Q E s):wpC M A (if c=true then a else b) Q E s:=by
 subst hc;exact h
theorem c_ifT {c:Bool} {a b:Sem α} {Q:α->Shared->Prop} (hc:c=true) (h:wpC M A a Q E s):wpC M A (if c=true then a else b) Q E s:=by
 subst hc;exact h
theorem GZa {c:Code} {R R':Result->Shared->Prop} (h:YZ7 M A c R s) (hR:∀ r s,R r s->R' r s):YZ7 M A c R' s :=
 fun Γ p hc hΓ hf=>wpCode_mono hR (h Γ p hc hΓ hf)
theorem Free.enter {Γ:Ctx} {p:Pos} (h:Free ((Γ.code,p)::Γ.below)) (c:Code) (hd:Option Value):Free (Γ.enter c hd p).below:=h
theorem DZ9 {c:Code} {Q:Value->Shared->Prop}
  (hc:YZ7 M A c (fun r s'=>match r with | .ok (.ret v)=>Q v s' | .ok _=>False | .error e=>E e s') s):wpC M A (runValue c) Q E s :=
 fun Γ p hΓ hf=>by refine sE (Sem.wp_runValue ..) ?_;exact hc _ p rfl (hΓ.enter c none p (by intro x;cases x)) (hf.enter c none)
theorem YZy {f:Value} {pos:List Value} {kw:List (Str×Value)} {Q:Value->Shared->Prop}
  (hc:YZ7 M A (.call f ⟨pos,kw⟩) (fun r s'=>match r with | .ok (.ret v)=>Q v s' | .ok _=>False | .error e=>E e s') s):wpC M A (PySem.call f pos kw) Q E s:=DZ9 hc
theorem BZg {c:Code} {h:Option Value} {Q:Flow->Shared->Prop}
  (hc:YZ7 M (A.mark h) c (fun r s'=>match r with | .ok f=>Q f s' | .error e=>E e s') s) (hnb:h≠some byPass:=by intro x;cases x):wpC M A (run c h) Q E s :=
 fun Γ p hΓ hf=>by refine sE (Sem.wp_run ..) ?_;exact hc _ p rfl (hΓ.enter c h p hnb) (hf.enter c h)
theorem YZm {c:Code} {R:Result->Shared->Prop}
  (h:wpC M (A.under c) (M.den c) (fun fin s'=>match fin with | .done f=>R (.ok f) s' | .again c'=>c'.quiet=true/\YZ7 M A c' R s') (fun e s'=>R (.error e) s') s)
  (hh:autoParam (Code.holds c=false) tR):YZ7 M A c R s:=fun Γ p hc hΓ hf=>by
 have hfree:Free ((Γ.code,p)::Γ.below):=fun x hx=>by
  rcases mC hx with rfl | hx
  ·refine sE hc ?_;exact hh
  ·exact hf x hx
 rewrite [wpCode_iff_wp];refine sE hc ?_
 refine Sem.wp_mono M Γ _ (fun fin p' s' h'=>?_) (fun _ _ _ h'=>h') p s (h Γ p (hc▸hΓ.in) hfree)
 cases fin with
 | done f=>exact h'
 | again c'=>exact ⟨h'.1,h'.2 (Γ.goto c') p' rfl (hΓ.goto c') hf⟩
theorem UZc {c:Code} (hq:c.quiet=true) (hh:Code.holds c=false) {R:Result->Shared->Prop} (I:Nat->Shared->Prop)
  (turn:∀ n s,I n s->wpC M (A.under c) (M.den c) (fun fin s'=>match fin with
    | .done f=>R (.ok f) s'
    | .again c'=>(c'=c/\∃ m,m<n/\I m s')∨(c'.quiet=true/\YZ7 M A c' R s')) (fun e s'=>R (.error e) s') s)
  (n:Nat) (h:I n s):YZ7 M A c R s:=by
 induction n using Nat.strongRecOn generalizing s with
 | ind n ih =>
  refine YZm (YZf (turn n s h) (fun fin s' hf=>?_) fun _ _ h'=>h') hh
  cases fin with
  | done f=>exact hf
  | again c' =>
   rcases hf with ⟨rfl,m,hm,hI⟩ | hf
   ·exact ⟨hq,ih m hm hI⟩
   ·exact hf
end
end
section
theorem NZc {α:Type} {as:List α} {n:Nat} (h:as.length=n+1):∃ a bs,as=a::bs/\bs.length=n:=by
 cases as with
 | nil=>cases h
 | cons a b=>exact ⟨a,b,rfl,Nat.succ.inj h⟩
@[elab_as_elim] theorem ar0 {α:Type} {p:List α->Prop} (as:List α) (h:as.length=0) (k:p []):p as:=List.length_eq_zero_iff.mp h▸k
@[elab_as_elim] theorem ar1 {α:Type} {p:List α->Prop} (as:List α) (h:as.length=1) (k:∀ a,p [a]):p as:=by
 refine J2 (NZc h) ?_;rintro a bs rfl hb
 exact ar0 (p:=fun bs=>p (a::bs)) bs hb (k a)
@[elab_as_elim] theorem ar2 {α:Type} {p:List α->Prop} (as:List α) (h:as.length=2) (k:∀ a b,p [a,b]):p as:=by
 refine J2 (NZc h) ?_;rintro a bs rfl hb
 exact ar1 (p:=fun bs=>p (a::bs)) bs hb (k a)
@[elab_as_elim] theorem ar3 {α:Type} {p:List α->Prop} (as:List α) (h:as.length=3) (k:∀ a b c,p [a,b,c]):p as:=by
 refine J2 (NZc h) ?_;rintro a bs rfl hb
 exact ar2 (p:=fun bs=>p (a::bs)) bs hb (k a)
@[elab_as_elim] theorem ar4 {α:Type} {p:List α->Prop} (as:List α) (h:as.length=4) (k:∀ a b c d,p [a,b,c,d]):p as:=by
 refine J2 (NZc h) ?_;rintro a bs rfl hb
 exact ar3 (p:=fun bs=>p (a::bs)) bs hb (k a)
theorem mlen {α β:Type} {f:α->β} {as:List α} {bs:List β} (h:as.map f=bs):as.length=bs.length:=by exact sF h (sE (List.length_map ..) rfl)
@[elab_as_elim] theorem lt1 {p:Nat->Prop} (i:Nat) (h:i<1) (a:p 0):p i:=Nat.lt_one_iff.mp h▸a
@[elab_as_elim] theorem ltS {p:Nat->Prop} {n:Nat} (i:Nat) (h:i<n+1) (a:i<n->p i) (b:p n):p i:=(Nat.lt_succ_iff_lt_or_eq.mp h).elim a fun e=>e▸b
@[elab_as_elim] theorem lt2 {p:Nat->Prop} (i:Nat) (h:i<2) (a:p 0) (b:p 1):p i:=ltS i h (fun h=>lt1 i h a) b
@[elab_as_elim] theorem lt3 {p:Nat->Prop} (i:Nat) (h:i<3) (a:p 0) (b:p 1) (c:p 2):p i:=ltS i h (fun h=>lt2 i h a b) c
@[elab_as_elim] theorem lt4 {p:Nat->Prop} (i:Nat) (h:i<4) (a:p 0) (b:p 1) (c:p 2) (d:p 3):p i:=ltS i h (fun h=>lt3 i h a b c) d
@[elab_as_elim] theorem lt5 {p:Nat->Prop} (i:Nat) (h:i<5) (a:p 0) (b:p 1) (c:p 2) (d:p 3) (e:p 4):p i:=ltS i h (fun h=>lt4 i h a b c d) e
@[elab_as_elim] theorem lt6 {p:Nat->Prop} (i:Nat) (h:i<6) (a:p 0) (b:p 1) (c:p 2) (d:p 3) (e:p 4) (f:p 5):p i:=ltS i h (fun h=>lt5 i h a b c d e) f
noncomputable def tk0:Value->Value
 | .int i _=>.int i 0
 | .float b _=>.float b 0
 | .str x _=>.str x 0
 | .bytes b _=>.bytes b 0
 | .none=>.none
 | .ellipsis=>.ellipsis
 | .notImplemented=>.notImplemented
 | .bool b=>.bool b
 | .type n=>.type n
 | .builtin n=>.builtin n
 | .ref a=>.ref a
noncomputable abbrev I (i:Int):Value:=.int i 0
noncomputable abbrev Sx (x:Str):Value:=.str x 0
noncomputable def bA (ks:List Int):Array UInt8:=(ks.map fun n=>n.toNat.toUInt8).toArray
noncomputable abbrev By (ks:List Int):Value:=.bytes (bA ks) 0
theorem HZb {v:Value} {i:Int} (h:tk0 v=I i):∃ t,v=.int i t:=by
 cases v <;> simp [tk0] at h;subst h;exact ⟨_,rfl⟩
theorem NZd {v:Value} {x:Str} (h:tk0 v=Sx x):∃ t,v=.str x t:=by
 cases v <;> simp [tk0] at h;subst h;exact ⟨_,rfl⟩
theorem GZt {v:Value} {b:Array UInt8} (h:tk0 v=.bytes b 0):∃ t,v=.bytes b t:=by
 cases v <;> simp [tk0] at h;subst h;exact ⟨_,rfl⟩
@[elab_as_elim] theorem tkI {v:Value} {i:Int} {G:Value->Prop} (h:tk0 v=I i) (k:∀ t,G (.int i t)):G v:=by obtain ⟨t,rfl⟩:=HZb h;exact k t
@[elab_as_elim] theorem tkS {v:Value} {x:Str} {G:Value->Prop} (h:tk0 v=Sx x) (k:∀ t,G (.str x t)):G v:=by obtain ⟨t,rfl⟩:=NZd h;exact k t
@[elab_as_elim] theorem tkB {v:Value} {b:Array UInt8} {G:Value->Prop} (h:tk0 v=.bytes b 0) (k:∀ t,G (.bytes b t)):G v:=by obtain ⟨t,rfl⟩:=GZt h;exact k t
theorem YZh {v:Value} {a:Addr} (h:tk0 v=.ref a):v=.ref a:=by
 cases v <;> simp [tk0] at h;subst h;rfl
theorem UZj {v:Value} (h:tk0 v=.none):v=.none:=by cases v <;> simp [tk0] at h;rfl
theorem VZp {v:Value} {b:Bool} (h:tk0 v=.bool b):v=.bool b:=by cases v <;> simp [tk0] at h;subst h;rfl
theorem DZg {v:Value} {n:String} (h:tk0 v=.type n):v=.type n:=by cases v <;> simp [tk0] at h;subst h;rfl
theorem KZx {v:Value} {n:String} (h:tk0 v=.builtin n):v=.builtin n:=by cases v <;> simp [tk0] at h;subst h;rfl
noncomputable abbrev HP:=Heap->Prop
noncomputable def Grows (h h':Heap):Prop:=∀ b o,h.get? b=some o->h'.get? b=some o
theorem Grows.refl (h:Heap):Grows h h:=fun _ _ e=>e
theorem Grows.trans {a b c:Heap} (x:Grows a b) (y:Grows b c):Grows a c:=fun d o e=>y d o (x d o e)
theorem Grows.push (h:Heap) (o:Obj):Grows h (h.push o):=fun _ _ e=>Heap.get?_push_of_some _ e
noncomputable def Tr {α:Type} (M:Model) (A:Around) (P:HP) (t:Sem α) (V:α->HP):Prop :=
 ∀ s Q E,P s.heap->(∀ v h' tk,V v h'->Q v { s with heap:=h',toks:=tk })->wpC M A t Q E s
section
variable {α β:Type} {M:Model} {A:Around} {P P':HP} {t:Sem α} {V V':α->HP}
theorem Tr.pre (h:Tr M A P t V) (hp:∀ h,P' h->P h):Tr M A P' t V:=fun s Q E p k=>h s Q E (hp _ p) k
theorem Tr.post (h:Tr M A P t V) (hv:∀ v h,V v h->V' v h):Tr M A P t V':=fun s Q E p k=>h s Q E p fun v h' tk x=>k v h' tk (hv v h' x)
end
noncomputable def Ev (M:Model) (A:Around) (env:Env) (P:HP) (e:PySem.Expr) (c:Value):Prop:=Tr M A P (eval e env) (fun v h=>tk0 v=c/\P h)
noncomputable def EvP (M:Model) (A:Around) (env:Env) (P:HP) (e:PySem.Expr) (V:Value->HP):Prop:=Tr M A P (eval e env) (fun v h=>V (tk0 v) h/\P h)
noncomputable def Ist (M:Model) (A:Around) (env:Env) (P:HP) (e:PySem.Expr) (b:Bool):Prop:=Tr M A P (isTrue e env (eval e env)) (fun v h=>v=b/\P h)
noncomputable def All (M:Model) (A:Around) (env:Env) (P:HP) (op:BoolOp) (es:List PySem.Expr) (b:Bool):Prop:=Tr M A P (allTrue op es env) (fun v h=>v=b/\P h)
section
variable {prog:Program} {w:World} {A:Around} {env:Env} {P:HP} {e l r:PySem.Expr} {c:Value} {pos:Pos}
theorem Ev.ci {i:Int} {k:Nat}:Ev (model prog w) A env P (.Constant (.int i) k pos) (I i):=fun s _ _ p h=>YZb (wpAny_Constant_int (h _ s.heap _ ⟨rfl,p⟩))
theorem Ev.cs {x:Str} {k:Nat}:Ev (model prog w) A env P (.Constant (.str x) k pos) (Sx x):=fun s _ _ p h=>YZb (wpAny_Constant_str (h _ s.heap _ ⟨rfl,p⟩))
theorem Ev.cn {k:Nat}:Ev (model prog w) A env P (.Constant .none k pos) .none:=fun s _ _ p h=>YZb (wpAny_Constant_none (h _ s.heap _ ⟨rfl,p⟩))
theorem Ev.cb {b:Bool} {k:Nat}:Ev (model prog w) A env P (.Constant (.bool b) k pos) (.bool b):=fun s _ _ p h=>YZb (wpAny_Constant_bool (h _ s.heap _ ⟨rfl,p⟩))
theorem Ev.toP (h:Ev (model prog w) A env P e c):EvP (model prog w) A env P e (fun v _=>v=c):=h
section
variable {Q:Value->Shared->Prop} {E:Value->Shared->Prop} {s:Shared} {M:Model}
theorem KZq {op:Operator} (h:wpC M A (eval l env) (fun a s₁=>wpC M A (eval r env) (fun b s₂=>wpC M A (binaryOp op a b) Q E s₂) E s₁) E s):wpC M A (eval (.BinOp l op r pos) env) Q E s:=by
 refine sE (eval_BinOp ..) ?_
 exact YZa (YZf h (fun a s₁ h₁=>YZa (YZe (YZf h₁ (fun b s₂ h₂=>YZa (YZd (VZo h₂))) fun _ _ x=>x))) fun _ _ x=>x)
theorem DZc {op:CmpOp} (h:wpC M A (eval l env) (fun a s₁=>wpC M A (eval r env) (fun b s₂=>wpC M A (compareOp op a b) Q E s₂) E s₁) E s)
  (hm:autoParam (behindInMarks op r=false) tW):wpC M A (eval (.Compare l [op] [r] pos) env) Q E s:=by
 refine sE (eval_Compare1 ..) (sE (markedBehindIn_of_false hm) ?_)
 exact YZa (YZf h (fun a s₁ h₁=>YZa (YZe (YZf h₁ (fun b s₂ h₂=>YZa (YZd (VZo h₂))) fun _ _ x=>x))) fun _ _ x=>x)
end
section
variable {E:Value->Shared->Prop} {s:Shared} {M:Model}
theorem XZf {op:CmpOp} {whole:Sem Value} {Q:Bool->Shared->Prop} (h:wpC M A (eval l env) (fun a s₁=>wpC M A (eval r env) (fun b s₂=>wpC M A (compareOp op a b) (fun c s₃=>wpC M A (truthy c) Q E s₃) E s₂) E s₁) E s)
  (hm:autoParam (behindInMarks op r=false) tW):wpC M A (isTrue (.Compare l [op] [r] pos) env whole) Q E s:=by
 refine sE (isTrue_Compare1 ..) (sE (markedBehindIn_of_false hm) ?_)
 refine YZa (YZf h (fun a s₁ h₁=>YZa (YZe (YZf h₁ (fun b s₂ h₂=>YZa (YZd (YZa ?_))) fun _ _ x=>x))) fun _ _ x=>x)
 exact VZo (YZf h₂ (fun c s₃ h₃=>YZe h₃) fun _ _ x=>x)
end
theorem Ev.bin {op:Operator} {a b c:Value} (hl:Ev (model prog w) A env P l a) (hr:Ev (model prog w) A env P r b)
  (ho:∀ (s:Shared) (Q:Value->Shared->Prop) E v u,tk0 v=a->tk0 u=b->(∀ x tk,tk0 x=c->Q x { s with toks:=tk })->wpC (model prog w) A (binaryOp op v u) Q E s) :
  Ev (model prog w) A env P (.BinOp l op r pos) c:=fun s Q E p k =>
 KZq (hl s _ E p fun v h1 tk1 x=>hr _ _ E x.2 fun u h2 tk2 y=>ho _ _ _ _ _ x.1 y.1 fun z tk e=>k z _ tk ⟨e,y.2⟩)
theorem Ev.add {i j:Int} (hl:Ev (model prog w) A env P l (I i)) (hr:Ev (model prog w) A env P r (I j)):Ev (model prog w) A env P (.BinOp l .Add r pos) (I (i+j)) :=
 hl.bin hr fun s Q E v u ha hb h=>by refine tkI ha fun _=>?_;refine tkI hb fun _=>?_;exact YZb (add_int (h _ _ rfl))
theorem Ev.sub {i j:Int} (hl:Ev (model prog w) A env P l (I i)) (hr:Ev (model prog w) A env P r (I j)):Ev (model prog w) A env P (.BinOp l .Sub r pos) (I (i-j)) :=
 hl.bin hr fun s Q E v u ha hb h=>by refine tkI ha fun _=>?_;refine tkI hb fun _=>?_;exact YZb (sub_int (h _ _ rfl))
theorem Ev.mul {i j:Int} (hm:IntMulOk i j) (hl:Ev (model prog w) A env P l (I i)) (hr:Ev (model prog w) A env P r (I j)):Ev (model prog w) A env P (.BinOp l .Mult r pos) (I (i*j)) :=
 hl.bin hr fun s Q E v u ha hb h=>by refine tkI ha fun _=>?_;refine tkI hb fun _=>?_;exact YZb (mul_int (h _ _ rfl) hm)
theorem Ev.mod {i j:Int} (hj:j≠0) (hl:Ev (model prog w) A env P l (I i)) (hr:Ev (model prog w) A env P r (I j)):Ev (model prog w) A env P (.BinOp l .Mod r pos) (I (i.fmod j)) :=
 hl.bin hr fun s Q E v u ha hb h=>by refine tkI ha fun _=>?_;refine tkI hb fun _=>?_;exact YZb (mod_int' hj (h _ _ rfl))
theorem Ev.fdiv {i j:Int} (hj:j≠0) (hs:j.natAbs<1073741824) (hl:Ev (model prog w) A env P l (I i)) (hr:Ev (model prog w) A env P r (I j)):Ev (model prog w) A env P (.BinOp l .FloorDiv r pos) (I (i.fdiv j)) :=
 hl.bin hr fun s Q E v u ha hb h=>by refine tkI ha fun _=>?_;refine tkI hb fun _=>?_;exact YZb (floordiv_int hj (h _ _ rfl) (Or.inl (PyProof.noPylong_small hs)))
theorem Ev.band {i j:Int} (hl:Ev (model prog w) A env P l (I i)) (hr:Ev (model prog w) A env P r (I j)):Ev (model prog w) A env P (.BinOp l .BitAnd r pos) (I (Builtin.bitAnd i j)) :=
 hl.bin hr fun s Q E v u ha hb h=>by refine tkI ha fun _=>?_;refine tkI hb fun _=>?_;exact YZb (and_int (h _ _ rfl))
theorem Ev.bor {i j:Int} (hl:Ev (model prog w) A env P l (I i)) (hr:Ev (model prog w) A env P r (I j)):Ev (model prog w) A env P (.BinOp l .BitOr r pos) (I (Builtin.bitOr i j)) :=
 hl.bin hr fun s Q E v u ha hb h=>by refine tkI ha fun _=>?_;refine tkI hb fun _=>?_;exact YZb (or_int (h _ _ rfl))
theorem Ev.bxor {i j:Int} (hl:Ev (model prog w) A env P l (I i)) (hr:Ev (model prog w) A env P r (I j)):Ev (model prog w) A env P (.BinOp l .BitXor r pos) (I (Builtin.bitXor i j)) :=
 hl.bin hr fun s Q E v u ha hb h=>by refine tkI ha fun _=>?_;refine tkI hb fun _=>?_;exact YZb (xor_int (h _ _ rfl))
theorem Ev.shr {i j:Int} (hj:0<=j) (hl:Ev (model prog w) A env P l (I i)) (hr:Ev (model prog w) A env P r (I j)):Ev (model prog w) A env P (.BinOp l .RShift r pos) (I (i.fdiv (2 ^ j.toNat))) :=
 hl.bin hr fun s Q E v u ha hb h=>by refine tkI ha fun _=>?_;refine tkI hb fun _=>?_;exact YZb (rshift_int hj (h _ _ rfl))
theorem Ev.shl {i j:Int} (hj:0<=j) (hj2:j<=1000000) (hi:i.natAbs<2 ^ 64) (hl:Ev (model prog w) A env P l (I i)) (hr:Ev (model prog w) A env P r (I j)):Ev (model prog w) A env P (.BinOp l .LShift r pos) (I (i*2 ^ j.toNat)) :=
 hl.bin hr fun s Q E v u ha hb h=>by refine tkI ha fun _=>?_;refine tkI hb fun _=>?_;exact YZb (lshift_int_small hj hj2 hi (h _ _ rfl))
theorem Ev.pow {i j:Int} (hj:0<=j) (hj2:j<=1000000) (hi:i.natAbs<2 ^ 64) (hs:(Builtin.Int.intBits i:Int)*j<=2 ^ 27) (hl:Ev (model prog w) A env P l (I i)) (hr:Ev (model prog w) A env P r (I j)):Ev (model prog w) A env P (.BinOp l .Pow r pos) (I (i ^ j.toNat)) :=
 hl.bin hr fun s Q E v u ha hb h=>by refine tkI ha fun _=>?_;refine tkI hb fun _=>?_;exact YZb (pow_int hj hs (h _ _ rfl))
theorem Ev.cmp {op:CmpOp} {a b c:Value} (hl:Ev (model prog w) A env P l a) (hr:Ev (model prog w) A env P r b)
  (ho:∀ (s:Shared) (Q:Value->Shared->Prop) E v u,tk0 v=a->tk0 u=b->(∀ x tk,tk0 x=c->Q x { s with toks:=tk })->wpC (model prog w) A (compareOp op v u) Q E s)
  (hm:autoParam (behindInMarks op r=false) tW):Ev (model prog w) A env P (.Compare l [op] [r] pos) c:=fun s Q E p k =>
 DZc (hl s _ E p fun v h1 tk1 x=>hr _ _ E x.2 fun u h2 tk2 y=>ho _ _ _ _ _ x.1 y.1 fun z tk e=>k z _ tk ⟨e,y.2⟩) hm
theorem Ist.cmp {op:CmpOp} {a b:Value} {d:Bool} (hl:Ev (model prog w) A env P l a) (hr:Ev (model prog w) A env P r b)
  (ho:∀ (s:Shared) (Q:Value->Shared->Prop) E v u,tk0 v=a->tk0 u=b->(∀ x tk,tk0 x=.bool d->Q x { s with toks:=tk })->wpC (model prog w) A (compareOp op v u) Q E s)
  (hm:autoParam (behindInMarks op r=false) tW):Ist (model prog w) A env P (.Compare l [op] [r] pos) d:=fun s Q E p k =>
 XZf (hl s _ E p fun v h1 tk1 x=>hr _ _ E x.2 fun u h2 tk2 y=>ho _ _ _ _ _ x.1 y.1 fun z tk e=>by
  refine sE (VZp e) ?_;exact YZb (wpAny_truthy_bool (k d _ tk ⟨rfl,y.2⟩))) hm
end
noncomputable def Cm (prog:Program) (w:World) (A:Around) (op:CmpOp) (a b:Value) (d:Bool):Prop :=
 ∀ (s:Shared) (Q:Value->Shared->Prop) E v u,tk0 v=a->tk0 u=b->(∀ x tk,tk0 x=.bool d->Q x { s with toks:=tk })->wpC (model prog w) A (compareOp op v u) Q E s
section
variable {prog:Program} {w:World} {A:Around} {i j:Int}
theorem Cm.lt:Cm prog w A .Lt (I i) (I j) (decide (i<j)):=fun s Q E v u ha hb h=>by refine tkI ha fun _=>?_;refine tkI hb fun _=>?_;exact YZb (lt_int (h _ _ rfl))
theorem Cm.gt:Cm prog w A .Gt (I i) (I j) (decide (j<i)):=fun s Q E v u ha hb h=>by refine tkI ha fun _=>?_;refine tkI hb fun _=>?_;exact YZb (gt_int (h _ _ rfl))
theorem Cm.eq:Cm prog w A .Eq (I i) (I j) (i==j):=fun s Q E v u ha hb h=>by refine tkI ha fun _=>?_;refine tkI hb fun _=>?_;exact YZb (eq_int (h _ _ rfl))
theorem Cm.le:Cm prog w A .LtE (I i) (I j) (decide (i<=j)):=fun s Q E v u ha hb h=>by refine tkI ha fun _=>?_;refine tkI hb fun _=>?_;exact YZb (PyProof.Rows.le_int (h _ _ rfl))
theorem Cm.ge:Cm prog w A .GtE (I i) (I j) (decide (j<=i)):=fun s Q E v u ha hb h=>by refine tkI ha fun _=>?_;refine tkI hb fun _=>?_;exact YZb (PyProof.Rows.ge_int (h _ _ rfl))
theorem Cm.ne:Cm prog w A .NotEq (I i) (I j) (i != j):=fun s Q E v u ha hb h=>by refine tkI ha fun _=>?_;refine tkI hb fun _=>?_;exact YZb (ne_int (h _ _ rfl))
end
theorem seq_i {k:Int} {n:Nat} (h0:0<=k) (h1:k<n):seqIndex? k n=some k.toNat:=by
 unfold seqIndex?;simp;lia
end
section
noncomputable def Sf (W:List Addr) (R:HP):Prop:=∀ h h',(∀ b o,b∉W->h.get? b=some o->h'.get? b=some o)->R h->R h'
theorem Sf.grow {W:List Addr} {R:HP} (x:Sf W R) {h h':Heap} (g:Grows h h') (r:R h):R h':=x h h' (fun b o _ e=>g b o e) r
theorem Sf.and {W:List Addr} {R S:HP} (x:Sf W R) (y:Sf W S):Sf W (fun h=>R h/\S h):=fun h h' k r=>⟨x h h' k r.1,y h h' k r.2⟩
theorem Sf.const {W:List Addr} {p:Prop}:Sf W (fun _=>p):=fun _ _ _ r=>r
theorem Sf.at {W:List Addr} {a:Addr} {o:Obj} (ha:a∉W):Sf W (fun h=>h.get? a=some o):=fun h h' k r=>k a o ha r
noncomputable def upo (μ:Str->Option Value) (x:Str) (u:Option Value):Str->Option Value:=fun y=>if y=x then u else μ y
noncomputable abbrev up (μ:Str->Option Value) (x:Str) (c:Value):Str->Option Value:=upo μ x (some c)
theorem VZa {μ:Str->Option Value} {x:Str} {u:Option Value}:upo μ x u x=u:=if_pos rfl
theorem GZg {μ:Str->Option Value} {x y:Str} {u:Option Value} (h:y≠x):upo μ x u y=μ y:=if_neg h
noncomputable def Lo (env:Env) (h₀:Heap) (μ:Str->Option Value) (h:Heap):Prop :=
 ∃ m,Fr h₀ env.locals h m/\(∀ x,env.kindOf x=some .local->(m x).map tk0=μ x) /\
  (∀ x c,env.cells.lookup x=some c->∃ v,h.IsCell c v/\v.map tk0=μ x)
theorem Lo.keep {env:Env} {h₀ h:Heap} {μ:Str->Option Value} (l:Lo env h₀ μ h):Grows h₀ h:=J0 l fun _ F _=>F.keep
theorem Lo.grow {env:Env} {h₀ h h':Heap} {μ:Str->Option Value} (g:Grows h h') (l:Lo env h₀ μ h):Lo env h₀ μ h' :=
 let ⟨m,F,a,b⟩:=l
 ⟨m,⟨F.ns.keeps g,Grows.trans F.keep g,F.above⟩,a,fun x c e=>J0 (b x c e) fun v hv e'=>⟨v,hv.keeps g,e'⟩⟩
theorem Lo.lt {env:Env} {h₀ h:Heap} {μ:Str->Option Value} (l:Lo env h₀ μ h):env.locals<h.objs.size:=J0 l fun _ F _=>F.ns.lt
noncomputable abbrev Pc (env:Env) (h₀:Heap) (μ:Str->Option Value) (R:HP):HP:=fun h=>Lo env h₀ μ h/\R h
structure Gd (K:Frag) (h:Heap):Prop where
 inK:K.In h
 top:∃ p loose mg mb,TopRead p loose mg mb h
 dig:∃ mc,h.Ns cStatics mc/\mc "sys.int_max_str_digits" = none
theorem Gd.keeps {K:Frag} {h h':Heap} (g:Gd K h) (k:Grows h h'):Gd K h' :=
 ⟨g.inK.keeps k,Jd g.top fun p l mg mb T=>⟨p,l,mg,mb,T.keeps k⟩,J0 g.dig fun mc a b=>⟨mc,a.keeps k,b⟩⟩
theorem Gd.nolimit {K:Frag} {h:Heap} (g:Gd K h):h.NoLimit:=Jd g.top fun _ _ _ _ T=>T.nolimit
structure Fx (K:Frag) (env:Env) (h₀:Heap):Prop where
 fn:env.scope.kind=.function
 gl:env.globals=mainGlobals
 bu:env.builtins=builtinsNs
 gd:Gd K h₀
structure Cx (K:Frag) (env:Env) (h₀:Heap) (μ:Str->Option Value) (P:HP):Prop extends Fx K env h₀ where
 lo:∀ h,P h->Lo env h₀ μ h
 grow:∀ h h',Grows h h'->P h->P h'
theorem Fx.cx {K:Frag} {env:Env} {h₀:Heap} {μ:Str->Option Value} {W:List Addr} {R:HP} (F:Fx K env h₀) (hR:Sf W R):Cx K env h₀ μ (Pc env h₀ μ R) :=
 { F with lo:=fun _ p=>p.1,grow:=fun _ _ g p=>⟨p.1.grow g,hR.grow g p.2⟩ }
theorem Cx.and {K:Frag} {env:Env} {h₀:Heap} {μ:Str->Option Value} {P V:HP} (C:Cx K env h₀ μ P) (hV:∀ h h',Grows h h'->V h->V h'):Cx K env h₀ μ (fun h=>V h/\P h) :=
 { C.toFx with lo:=fun _ p=>C.lo _ p.2,grow:=fun _ _ g p=>⟨hV _ _ g p.1,C.grow _ _ g p.2⟩ }
theorem Cx.gdh {K:Frag} {env:Env} {h₀ h:Heap} {μ:Str->Option Value} {P:HP} (C:Cx K env h₀ μ P) (p:P h):Gd K h:=C.gd.keeps (C.lo _ p).keep
section
variable {prog:Program} {w:World} {A:Around} {env:Env} {K:Frag} {h₀:Heap} {μ:Str->Option Value} {P:HP} {pos:Pos} {x:Str} {c:Value}
theorem Ev.loc (C:Cx K env h₀ μ P) (hx:autoParam (env.kindOf x=some .local) tR) (hv:autoParam (μ x=some c) tR) (hd:autoParam ((x==("__debug__" : Str))=false) tD):Ev (model prog w) A env P (.Name x pos) c:=fun s Q E p k=>by
 refine J1 (C.lo _ p) fun m F a b=>?_
 have:=a x hx
 rw [hv] at this
 refine J0 (Option.map_eq_some_iff.mp this) fun v e1 e2=>?_
 exact YZb (wpAny_Name (wpAny_loadName_local C.fn hx F.ns e1 (k v s.heap s.toks ⟨e2,p⟩)) hd)
theorem Ev.cel (C:Cx K env h₀ μ P) (d:Addr) (hd':env.cells.lookup x=some d) (hx:autoParam (env.kindOf x=some .cell) tR) (hv:autoParam (μ x=some c) tR) (hd:autoParam ((x==("__debug__" : Str))=false) tD):Ev (model prog w) A env P (.Name x pos) c:=fun s Q E p k=>by
 refine J1 (C.lo _ p) fun m F a b=>?_
 refine J0 (b x d hd') fun u hu e=>?_
 rw [hv] at e
 refine J0 (Option.map_eq_some_iff.mp e) ?_;rintro v rfl e2
 exact YZb (wpAny_Name (wpAny_loadName_cell C.fn hx hd' hu (k v s.heap s.toks ⟨e2,p⟩)) hd)
theorem Ev.glo {v:Value} (C:Cx K env h₀ μ P) (hg:nsIn K mainGlobals x=some (some v)) (hc:autoParam (tk0 v=c) tR) (hx:autoParam (env.kindOf x=some .globalImplicit) tR) (hd:autoParam ((x==("__debug__" : Str))=false) tD):Ev (model prog w) A env P (.Name x pos) c:=fun s Q E p k=>by
 refine Jd ((C.gdh p).top) fun pr l mg mb T=>?_
 exact YZb (Name_function_global C.fn hx (loadGlobal_global (by refine sE C.gl ?_;exact T.g) (mg_of (C.gdh p).inK T.g hg) (k v s.heap s.toks ⟨hc,p⟩)) hd)
theorem Ev.bui {v:Value} (C:Cx K env h₀ μ P) (hg:nsIn K mainGlobals x=some none) (hb:bootBuiltins x=some v) (hc:autoParam (tk0 v=c) tR) (hx:autoParam (env.kindOf x=some .globalImplicit) tR) (hn:autoParam (x ≠ "__name__") tD) (hd:autoParam ((x==("__debug__" : Str))=false) tD):Ev (model prog w) A env P (.Name x pos) c:=fun s Q E p k=>by
 refine Jd ((C.gdh p).top) fun pr l mg mb T=>?_
 exact YZb (Name_function_global C.fn hx (loadGlobal_builtin (by refine sE C.gl ?_;exact T.g) (mg_none_of (C.gdh p).inK T.g hg) (by refine sE C.bu ?_;exact T.b) ((T.builtins x hn).trans hb) (k v s.heap s.toks ⟨hc,p⟩)) hd)
end
section
variable {M:Model} {A:Around} {env:Env} {E:Value->Shared->Prop} {s:Shared} {pos:Pos} {e l r:PySem.Expr}
theorem BZb {whole:Sem Value} {Q:Bool->Shared->Prop} (h:wpC M A (isTrue e env (eval e env)) (fun b s₁=>Q (!b) s₁) E s):wpC M A (isTrue (.UnaryOp .Not e pos) env whole) Q E s:=by
 refine sE (arm_isTrue_UnaryOp ..) ?_
 exact YZa (YZf h (fun b s₁ h₁=>YZc h₁) fun _ _ x=>x)
theorem KZm {op:BoolOp} {values:List PySem.Expr} {whole:Sem Value} {Q:Bool->Shared->Prop} (h:wpC M A (allTrue op values env) Q E s):wpC M A (isTrue (.BoolOp op values pos) env whole) Q E s:=by
 refine sE (arm_isTrue_BoolOp ..) ?_;exact h
theorem c_or_cons {rest:List PySem.Expr} {Q:Bool->Shared->Prop} (h:wpC M A (isTrue e env (eval e env)) (fun b s₁=>if b then Q true s₁ else wpC M A (allTrue .Or rest env) Q E s₁) E s):wpC M A (allTrue .Or (e::rest) env) Q E s:=by
 show wpC M A (do match BoolOp.Or,<- isTrue e env (eval e env) with | .And,false=>pure false | .Or,true=>pure true | _,_=>allTrue .Or rest env) Q E s
 refine YZa (YZf h (fun b s₁ h₁=>?_) fun _ _ x=>x)
 cases b <;> first | exact YZc h₁ | exact h₁
theorem KZv {whole:Sem Value} {Q:Bool->Shared->Prop} (h:wpC M A whole (fun v s₁=>wpC M A (truthy v) Q E s₁) E s)
  (he:isTrue e env whole=(do let v <- whole;standAt e.pos;holding [v] (truthy v))):wpC M A (isTrue e env whole) Q E s:=by
 refine sE he ?_
 exact YZa (YZf h (fun v s₁ h₁=>YZa (YZd (YZe h₁))) fun _ _ x=>x)
theorem c_IfExp {test:PySem.Expr} {Q:Value->Shared->Prop} (h:wpC M A (isTrue test env (eval test env)) (fun b s₁=>if b then wpC M A (eval l env) Q E s₁ else wpC M A (eval r env) Q E s₁) E s):wpC M A (eval (.IfExp test l r pos) env) Q E s:=by
 refine sE (arm_eval_IfExp ..) ?_
 refine YZa (YZf h (fun b s₁ h₁=>?_) fun _ _ x=>x)
 cases b <;> exact h₁
theorem YZk {st:Stmt} {rest:List Stmt} {Q:Flow->Shared->Prop} (h:wpC M A (exec st env) (fun f s'=>match f with | .next=>wpC M A (execs rest env) Q E s' | f=>Q f s') E s):wpC M A (execs (st::rest) env) Q E s:=by
 refine sE (execs_cons ..) ?_
 refine YZa (YZf h (fun f s' h'=>?_) fun _ _ x=>x)
 cases f <;> first | exact h' | exact YZc h'
theorem UZ0 {Q:Flow->Shared->Prop} (h:wpC M A (eval e env) (fun v=>Q (.ret v)) E s):wpC M A (exec (.Return (some e) pos) env) Q E s:=by
 refine sE (exec_Return_some ..) ?_
 exact YZa (YZd (YZa (YZf h (fun v s' h'=>YZc h') fun _ _ x=>x)))
theorem c_If {b1 b2:List Stmt} {Q:Flow->Shared->Prop} (h:wpC M A (isTrue e env (eval e env)) (fun b s₂=>if b then wpC M A (execs b1 env) Q E s₂ else wpC M A (execs b2 env) Q E s₂) E s):wpC M A (exec (.If e b1 b2 pos) env) Q E s:=by
 refine sE (exec_If ..) ?_
 refine YZa (YZd (YZa (YZf h (fun b s₂ h₂=>?_) fun _ _ x=>x)))
 cases b <;> exact h₂
theorem UZ1 {x:Str} {p1:Pos} {Q:Flow->Shared->Prop} (h:wpC M A (eval e env) (fun v s₁=>wpC M A (storeName env x v) (fun _=>Q .next) E s₁) E s)
  (hs:swapsWith e (some (.Name x p1)) pos.line env=pure false):wpC M A (exec (.Assign [.Name x p1] e pos) env) Q E s:=by
 refine sE (exec_Assign_Name env x p1 e pos hs) ?_
 exact YZa (YZd (YZa (YZf h (fun v s₁ h₁=>YZa (YZd (YZa (XZm (YZf h₁ (fun _ _ z=>YZc z) fun _ _ x=>x))))) fun _ _ x=>x)))
end
section
variable {prog:Program} {w:World} {A:Around} {env:Env} {P:HP} {pos:Pos} {e l r:PySem.Expr} {a b:Value} {d:Bool}
theorem Ist.cm {op:CmpOp} (h:Cm prog w A op a b d) (hl:Ev (model prog w) A env P l a) (hr:Ev (model prog w) A env P r b) (hm:autoParam (behindInMarks op r=false) tW):Ist (model prog w) A env P (.Compare l [op] [r] pos) d:=Ist.cmp hl hr h hm
theorem Ev.cm {op:CmpOp} (h:Cm prog w A op a b d) (hl:Ev (model prog w) A env P l a) (hr:Ev (model prog w) A env P r b) (hm:autoParam (behindInMarks op r=false) tW):Ev (model prog w) A env P (.Compare l [op] [r] pos) (.bool d):=Ev.cmp hl hr h hm
theorem Ist.neg (h:Ist (model prog w) A env P e d):Ist (model prog w) A env P (.UnaryOp .Not e pos) (!d):=fun s Q E p k=>BZb (h s _ E p fun v h' tk x=>k _ h' tk ⟨congrArg _ x.1,x.2⟩)
theorem Ist.bop {op:BoolOp} {es:List PySem.Expr} (h:All (model prog w) A env P op es d):Ist (model prog w) A env P (.BoolOp op es pos) d:=fun s Q E p k=>KZm (h s Q E p k)
theorem All.orN:All (model prog w) A env P .Or [] false:=fun s Q E p k=>YZb (wpAny_allTrue_Or_nil (k false s.heap s.toks ⟨rfl,p⟩))
theorem All.orC {es:List PySem.Expr} {c:Bool} (h:Ist (model prog w) A env P e d) (hr:d=false->All (model prog w) A env P .Or es c):All (model prog w) A env P .Or (e::es) (d || c):=fun s Q E p k =>
 c_or_cons (h s _ E p fun v h' tk x=>by
  obtain ⟨rfl,y⟩:=x
  cases v with
  | true=>exact k true h' tk ⟨rfl,y⟩
  | false=>exact hr rfl _ Q E y fun v2 h2 tk2 z=>k v2 h2 tk2 ⟨by simp [z.1],z.2⟩)
theorem Ist.val {c:Value} (h:Ev (model prog w) A env P e c) (ht:∀ (s:Shared) (Q:Bool->Shared->Prop) E v,tk0 v=c->(∀ tk,Q d { s with toks:=tk })->wpC (model prog w) A (truthy v) Q E s)
  (he:autoParam (∀ whole,isTrue e env whole=(do let v <- whole;standAt e.pos;holding [v] (truthy v))) tI):Ist (model prog w) A env P e d:=fun s Q E p k =>
 KZv (h s _ E p fun v h' tk x=>ht _ _ _ _ x.1 fun tk'=>k d h' tk' ⟨rfl,x.2⟩) (he _)
theorem Ev.ite {t:PySem.Expr} {c1 c2:Value} (ht:Ist (model prog w) A env P t d) (h1:d=true->Ev (model prog w) A env P l c1) (h2:d=false->Ev (model prog w) A env P r c2):Ev (model prog w) A env P (.IfExp t l r pos) (if d=true then c1 else c2):=fun s Q E p k =>
 c_IfExp (ht s _ E p fun v h' tk x=>by
  obtain ⟨rfl,y⟩:=x
  cases v with
  | true=>exact h1 rfl _ Q E y k
  | false=>exact h2 rfl _ Q E y k)
end
noncomputable def Xs (M:Model) (A:Around) (env:Env) (P:HP) (b:List Stmt) (N:HP) (Rt X:Value->HP):Prop :=
 ∀ s (Q:Flow->Shared->Prop) E,P s.heap->(∀ h' tk,N h'->Q .next { s with heap:=h',toks:=tk })->(∀ v h' tk,Rt (tk0 v) h'->Q (.ret v) { s with heap:=h',toks:=tk }) ->
  (∀ e h' tk,X e h'->E e { s with heap:=h',toks:=tk })->wpC M A (execs b env) Q E s
noncomputable def no:Value->HP:=fun _ _=>False
section
variable {prog:Program} {w:World} {A:Around} {env:Env} {P P':HP} {pos:Pos} {e:PySem.Expr} {b rest:List Stmt} {N:HP} {Rt X:Value->HP} {c:Value} {d:Bool} {K:Frag} {h₀:Heap} {μ:Str->Option Value} {W:List Addr} {R:HP} {x:Str} {V:Value->HP} {p1:Pos}
theorem Xs.pre (h:Xs (model prog w) A env P b N Rt X) (hp:∀ h,P' h->P h):Xs (model prog w) A env P' b N Rt X:=fun s Q E p k1 k2 k3=>h s Q E (hp _ p) k1 k2 k3
theorem Xs.post {N':HP} {Rt' X':Value->HP} (h:Xs (model prog w) A env P b N Rt X) (hn:∀ h,N h->N' h) (hr:∀ v h,Rt v h->Rt' v h) (hx:∀ v h,X v h->X' v h):Xs (model prog w) A env P b N' Rt' X':=fun s Q E p k1 k2 k3=>h s Q E p (fun h' tk n=>k1 h' tk (hn _ n)) (fun v h' tk r=>k2 v h' tk (hr _ _ r)) (fun v h' tk r=>k3 v h' tk (hx _ _ r))
theorem Xs.ex {α:Type} {P:α->HP} (h:∀ a,Xs (model prog w) A env (P a) b N Rt X):Xs (model prog w) A env (fun h=>∃ a,P a h) b N Rt X:=fun s Q E ⟨a,p⟩ k1 k2 k3=>h a s Q E p k1 k2 k3
theorem Xs.fact {q:Prop} (h:q->Xs (model prog w) A env P b N Rt X):Xs (model prog w) A env (fun h=>q/\P h) b N Rt X:=fun s Q E ⟨a,p⟩ k1 k2 k3=>h a s Q E p k1 k2 k3
theorem Xs.nil (h:∀ h,P h->N h):Xs (model prog w) A env P [] N Rt X:=fun s Q E p k1 k2 k3=>YZb (wpAny_execs_nil (k1 s.heap s.toks (h _ p)))
theorem Xs.seq {st:Stmt} {N1:HP} (h:Xs (model prog w) A env P [st] N1 Rt X) (hr:Xs (model prog w) A env N1 rest N Rt X):Xs (model prog w) A env P (st::rest) N Rt X:=fun s Q E p k1 k2 k3=>by
 have:=h s (fun f s'=>match f with | .next=>wpC (model prog w) A (execs rest env) Q E s' | f=>Q f s') E p (fun h' tk n=>hr _ Q E n k1 k2 k3) (fun v h' tk r=>k2 v h' tk r) k3
 intro Γ q hΓ hf
 have t:=this Γ q hΓ hf
 rw [execs_cons,Sem.wp_bind'] at t ⊢
 refine Sem.wp_mono _ Γ _ (fun f p' s' h'=>?_) (fun _ _ _ h'=>h') _ _ t
 cases f <;> first | exact h' Γ p' hΓ hf.pos | exact h'
theorem Xs.one {st:Stmt} (h:∀ s (Q:Flow->Shared->Prop) E,P s.heap->(∀ h' tk,N h'->Q .next { s with heap:=h',toks:=tk })->(∀ v h' tk,Rt (tk0 v) h'->Q (.ret v) { s with heap:=h',toks:=tk }) ->
  (∀ e h' tk,X e h'->E e { s with heap:=h',toks:=tk })->wpC (model prog w) A (exec st env) Q E s):Xs (model prog w) A env P [st] N Rt X:=fun s Q E p k1 k2 k3=>by
 refine YZk (YZf (h s Q E p k1 k2 k3) (fun f s' q=>?_) fun _ _ q=>q)
 cases f <;> first | exact YZb (wpAny_execs_nil q) | exact q
theorem Xs.ret (h:EvP (model prog w) A env P e V) (hv:∀ v h,V v h->P h->Rt v h):Xs (model prog w) A env P (.Return (some e) pos::rest) N Rt X:=fun s Q E p k1 k2 k3 =>
 YZk (UZ0 (h s _ E p fun v h' tk y=>k2 v h' tk (hv _ _ y.1 y.2)))
theorem Xs.retV (h:Ev (model prog w) A env P e c) (hv:∀ h,P h->Rt c h):Xs (model prog w) A env P (.Return (some e) pos::rest) N Rt X:=Xs.ret (V:=fun v _=>v=c) h fun v h e p=>e▸hv h p
theorem Xs.ite {b1 b2:List Stmt} {N1:HP} (ht:Ist (model prog w) A env P e d) (h1:d=true->Xs (model prog w) A env P b1 N1 Rt X) (h2:d=false->Xs (model prog w) A env P b2 N1 Rt X)
  (hr:Xs (model prog w) A env N1 rest N Rt X):Xs (model prog w) A env P (.If e b1 b2 pos::rest) N Rt X :=
 Xs.seq (Xs.one fun s Q E p k1 k2 k3=>c_If (ht s _ E p fun v h' tk y=>by
  obtain ⟨rfl,z⟩:=y
  cases v with
  | true=>exact h1 rfl _ Q E z k1 k2 k3
  | false=>exact h2 rfl _ Q E z k1 k2 k3)) hr
theorem Xs.iteR {b1:List Stmt} (ht:Ist (model prog w) A env P e d) (h1:d=true->Xs (model prog w) A env P b1 (fun _=>False) Rt X)
  (hr:d=false->Xs (model prog w) A env P rest N Rt X):Xs (model prog w) A env P (.If e b1 [] pos::rest) N Rt X:=fun s Q E p k1 k2 k3=>by
 refine YZk (c_If (ht s _ E p fun v h' tk y=>?_))
 obtain ⟨rfl,z⟩:=y
 cases v with
 | true=>exact h1 rfl _ _ E z (fun _ _ n=>n.elim) k2 k3
 | false=>exact YZb (wpAny_execs_nil (hr rfl _ Q E z k1 k2 k3))
theorem DZe {u:Option Value} (h:μ x=u):μ=upo μ x u:=by
 funext y
 by_cases e:y=x
 ·subst e;refine sE VZa ?_;exact h
 ·exact sE (GZg e) rfl
theorem Xs.iteF {b1:List Stmt} (ht:Ist (model prog w) A env P e false) (hr:Xs (model prog w) A env P rest N Rt X):Xs (model prog w) A env P (.If e b1 [] pos::rest) N Rt X :=
 Xs.iteR ht (fun h=>by cases h) fun _=>hr
theorem Lo.store {h h':Heap} {m:Str->Option Value} {v:Value} (F:Fr h₀ env.locals h m) (hm:∀ y,env.kindOf y=some .local->(m y).map tk0=μ y)
  (hb:∀ y c,env.cells.lookup y=some c->∃ v,h.IsCell c v/\v.map tk0=μ y) (hx:env.kindOf x=some .local) (hcl:∀ y c,env.cells.lookup y=some c->c≠env.locals/\env.kindOf y≠some .local)
  (hn:h'.Ns env.locals (fun y=>if y=x then some v else m y)) (hs:Heap.SameBut env.locals h h'):Lo env h₀ (up μ x (tk0 v)) h':=by
 refine ⟨_,F.set hn hs,fun y hy=>?_,fun y c hc=>?_⟩
 ·by_cases e:y=x
  ·subst e;refine sE (if_pos rfl) ?_;exact VZa.symm
  ·refine sE (if_neg e) ?_;exact (hm y hy).trans (GZg e).symm
 ·refine J0 (hb y c hc) fun u hu e'=>?_
  have:=hcl y c hc
  have ne:y≠x:=fun e=>this.2 (e▸hx)
  exact ⟨u,hu.sameBut hs this.1,by refine sE e' ?_;exact (GZg ne).symm⟩
noncomputable def Cl (env:Env):Prop:=∀ y c,env.cells.lookup y=some c->c≠env.locals/\env.kindOf y≠some .local
theorem Cl.nil (h:env.cells=[]):Cl env:=fun y c e=>by rw [h] at e;cases e
theorem Xs.assign (F:Fx K env h₀) (hcl:Cl env) (hW:env.locals∈W) (hR:Sf W R) (hV:∀ c,Sf W (V c)) (he:EvP (model prog w) A env (Pc env h₀ μ R) e V)
  (hr:∀ c,Xs (model prog w) A env (Pc env h₀ (up μ x c) (fun h=>V c h/\R h)) rest N Rt X)
  (hx:autoParam (env.kindOf x=some .local) tR) (hs:autoParam (swapsWith e (some (.Name x p1)) pos.line env=pure false) tR):Xs (model prog w) A env (Pc env h₀ μ R) (.Assign [.Name x p1] e pos::rest) N Rt X:=fun s Q E p k1 k2 k3 =>
 YZk (UZ1 (he s _ E p fun v h' tk y=>by
  obtain ⟨⟨m,Fm,a,b⟩,r⟩:=y.2
  refine YZb (wpAny_storeName_local hx Fm.ns (fun h'' hn hs'=>?_) (by refine sE F.fn ?_;rfl))
  refine hr (tk0 v) _ Q E ⟨Lo.store Fm a b hx hcl hn hs',?_,?_⟩ k1 k2 k3
  ·exact hV _ _ _ (fun b o hb e=>(hs'.2 b fun q=>hb (q▸hW)).trans e) y.1
  ·exact hR _ _ (fun b o hb e=>(hs'.2 b fun q=>hb (q▸hW)).trans e) r) hs)
theorem Xs.assignV (F:Fx K env h₀) (hcl:Cl env) (hW:env.locals∈W) (hR:Sf W R) (he:Ev (model prog w) A env (Pc env h₀ μ R) e c)
  (hr:Xs (model prog w) A env (Pc env h₀ (up μ x c) R) rest N Rt X)
  (hx:autoParam (env.kindOf x=some .local) tR) (hs:autoParam (swapsWith e (some (.Name x p1)) pos.line env=pure false) tR):Xs (model prog w) A env (Pc env h₀ μ R) (.Assign [.Name x p1] e pos::rest) N Rt X :=
 Xs.assign F hcl hW hR (V:=fun v _=>v=c) (fun _=>Sf.const) he (fun c'=>fun s Q E p k1 k2 k3=>by
  refine J3 p ?_;clear p;rintro q1 rfl q3
  exact hr s Q E ⟨q1,q3⟩ k1 k2 k3) hx hs
end
section
variable {prog:Program} {w:World} {A:Around} {env:Env} {K:Frag} {h₀:Heap} {μ:Str->Option Value} {P:HP} {pos p1 p2:Pos} {e t:PySem.Expr} {rest:List Stmt} {N:HP} {Rt X:Value->HP} {c c0:Value} {d:Bool} {W:List Addr} {R:HP} {x:Str}
theorem Xs.ifset (F:Fx K env h₀) (hcl:Cl env) (hW:env.locals∈W) (hR:Sf W R) (ht:Ist (model prog w) A env (Pc env h₀ μ R) t d) (he:d=true->Ev (model prog w) A env (Pc env h₀ μ R) e c)
  (hr:Xs (model prog w) A env (Pc env h₀ (up μ x (if d=true then c else c0)) R) rest N Rt X) (h0:autoParam (μ x=some c0) tR)
  (hx:autoParam (env.kindOf x=some .local) tR) (hs:autoParam (swapsWith e (some (.Name x p1)) p2.line env=pure false) tR):Xs (model prog w) A env (Pc env h₀ μ R) (.If t [.Assign [.Name x p1] e p2] [] pos::rest) N Rt X :=
 Xs.ite (N1:=Pc env h₀ (up μ x (if d=true then c else c0)) R) ht (fun hd=>Xs.assignV F hcl hW hR (he hd) (Xs.nil fun h p=>by refine sE (if_pos hd) ?_;exact p) hx hs)
  (fun hd=>Xs.nil fun h p=>by refine sE (if_neg (by rw [hd];decide)) ?_;exact (congrArg (fun m=>Lo env h₀ m h) (DZe h0)).mp p.1 |> fun q=>⟨q,p.2⟩) hr
end
structure Room (n:Nat) (A:Around):Prop where
 depth:A.depth+n<recursionLimit
 units:A.units+4*n+16<cLine
 handled:A.handled=none
theorem Room.mono {n k:Nat} {A:Around} (h:Room n A) (hk:k<=n):Room k A:=⟨by have:=h.depth;lia,by have:=h.units;lia,h.handled⟩
theorem Room.deeper {n:Nat} {A:Around} {env:Env} (h:Room (n+1) A):Room n (A.deeper env):=by
 refine ⟨?_,?_,h.handled⟩
 ·have:=h.depth;show A.depth+1+n<recursionLimit;lia
 ·have:=h.units;show A.units+3+4*n+16<cLine;lia
noncomputable def Fn (prog:Program) (w:World) (K:Frag) (f:Addr) (n:Nat) (vs:List Value) (Pre:HP) (Post:Value->Heap->Heap->Prop):Prop :=
 ∀ A s (R:Result->Shared->Prop) (args:List Value),Room n A->Gd K s.heap->Pre s.heap->args.map tk0=vs ->
  (∀ v h' tk,Grows s.heap h'->Post (tk0 v) s.heap h'->R (.ok (.ret v)) { s with heap:=h',toks:=tk })->YZ7 (model prog w) A (.call (.ref f) ⟨args,[]⟩) R s
section
variable {prog:Program} {w:World} {A:Around} {K:Frag} {f:Addr} {n:Nat} {vs:List Value} {Pre:HP} {Post:Value->Heap->Heap->Prop}
 {name qual:Str} {params:Arguments} {body:List Stmt} {scope:Scope} {dV kV doc pm cdv ct oc:Value} {an od:Option Addr} {osl:Array (Option Value)}
theorem c_func {A:Around} {R:Result->Shared->Prop} {s:Shared} {body:List Stmt} {env:Env}
  (h:wpC (model prog w) (A.deeper env) (execs body env) (fun f s'=>R (.ok (.ret (match f with | .ret v=>v | _=>.none))) s')
   (fun e s'=>wpC (model prog w) (A.deeper env) (leaving env e) (fun _ s''=>R (.error e) s'') (fun e' s''=>R (.error e') s'') s') s):YZ7 (model prog w) A (.func body env) R s:=by
 refine YZm ?_
 show wpC _ (A.deeper env) (do point;match <- (execs body env).onRaise (leaving env) with | .ret v=>ret v | _=>ret .none) _ _ s
 refine YZa (UZr (YZa (YZ1 (YZf h (fun f s' h'=>?_) fun _ _ h'=>h'))))
 cases f <;> exact YZc h'
theorem KZ9 {A:Around} {s:Shared} {R:Result->Shared->Prop} {a:Addr} {o:Obj} {fd:FuncData} {body:List Stmt} {args:Args} {binds:List (Str×Value)}
  (hroom:A.depth<recursionLimit) (ho:s.heap.get? a=some o) (hdata:o.data=.func fd) (hlim:s.heap.NoLimit) (hcd:s.heap.CodeRec fd.code fd.qualname)
  (hbody:fd.body=.stmts body) (hbind:BindsTo s fd args binds) (hcell:∀ x∈fd.scope.names,x.2≠.cell) (hloc:∀ x∈binds,fd.scope.names.lookup x.1=some .local)
  (h:∀ h₀,h₀.Ns s.heap.objs.size (fun x=>binds.reverse.lookup x)->(∀ b o,s.heap.get? b=some o->h₀.get? b=some o) ->
   wpC (model prog w) (A.deeper (callEnv fd s.heap.objs.size a)) (execs body (callEnv fd s.heap.objs.size a)) (fun f s'=>R (.ok (.ret (match f with | .ret v=>v | _=>.none))) s')
    (fun e s'=>wpC (model prog w) (A.deeper (callEnv fd s.heap.objs.size a)) (leaving (callEnv fd s.heap.objs.size a) e) (fun _ s''=>R (.error e) s'') (fun e' s''=>R (.error e') s'') s')
    { s with heap:=h₀,toks:=s.toks+binds.length })
  (hco:autoParam (fd.scope.isCoroutine=false) tR) (hgen:autoParam (fd.scope.isGenerator=false) tR) (hk:autoParam (fd.scope.kind=.function) tR) :
  YZ7 (model prog w) A (.call (.ref a) args) R s:=by
 refine YZm ?_
 show wpC _ A.in1 (callAny (.ref a) args) _ _ s
 simp only [callAny]
 refine YZa (YZb (wpAny_load ho ?_))
 refine Jo hcd fun c oc vs tq hc hoc hdc hq=>?_;clear hcd
 simp only [hdata,callFunction,hco,hgen,hbody,hc]
 refine YZa (m:=field (.ref c) 1) (YZb (wpAny_field hoc hdc hq ?_))
 refine YZa (YZc (YZa (YZb (hbind _ _ _ _ ?_))))
 refine YZa (YZb (wpAny_newFunctionEnv hcell hloc (fun h₀ hns₀ hsb₀=>?_) hk))
 refine YZa (YZb (wpAny_enterFrame (hlim.fresh _ hsb₀) hroom ?_))
 refine YZc (And.intro rfl ?_)
 have e:callEnv fd s.heap.objs.size a=newEnv fd.scope s.heap.objs.size fd.globals fd.closure (fd.qualname ++ ".<locals>.") (some a) (.ref c) none fd.builtins:=by unfold callEnv;exact sE hc rfl
 refine sF e ?_
 exact c_func (h h₀ hns₀ fun b o e=>hsb₀.extBut b o (Nat.ne_of_lt (Heap.lt_size e)) (Heap.get?_push_of_some _ e))
theorem XZp (x:Str):∀ l:List (Str×Value),(l.lookup x).map tk0=(l.map fun p=>(p.1,tk0 p.2)).lookup x
 | []=>rfl
 | p::r=>by
  obtain ⟨a,b⟩:=p
  refine sE List.map_cons (sE List.lookup_cons (sE List.lookup_cons ?_))
  cases x==a with
  | true=>rfl
  | false=>exact XZp x r
theorem DZ6:∀ (ns:List Str) (l:List Value),(ns.zip l).map (fun p=>(p.1,tk0 p.2))=ns.zip (l.map tk0)
 | [],_=>rfl
 | _::_,[]=>rfl
 | _::ns,_::l=>by simp only [List.zip_cons_cons,List.map_cons];exact sE (DZ6 ns l) rfl
noncomputable def YZ9 (ns:List Str) (vs:List Value):Str->Option Value:=fun x=>(ns.zip vs).reverse.lookup x
theorem Fn.mk (ns:List Str) (ds:List Value) (ho:K.lookup f=some ⟨oc,od,.func (fnOf name qual params body scope dV kV doc pm an cdv ct),osl⟩) (hcd:codeIn K cdv qual=true)
  (hbind:∀ s args,Gd K s.heap->args.length=vs.length->BindsTo s (fnOf name qual params body scope dV kV doc pm an cdv ct) ⟨args,[]⟩ (ns.zip (args++ds)))
  (hb:∀ h L A,Gd K h->Pre h->h.get? L=none->Room n A->Fx K (envOf qual scope L f cdv) h->Cl (envOf qual scope L f cdv)->Xs (model prog w) A (envOf qual scope L f cdv) (Pc (envOf qual scope L f cdv) h (YZ9 ns (vs++ds.map tk0)) (fun _=>True)) body (fun h'=>Grows h h'/\Post .none h h') (fun v h'=>Grows h h'/\Post v h h') no)
  (hloc:autoParam ((ns.all fun y=>scope.names.lookup y==some .local)=true) tD) (hcell:autoParam (∀ x∈scope.names,x.2≠.cell) tD) (hco:autoParam (scope.isCoroutine=false) tR) (hgen:autoParam (scope.isGenerator=false) tR) (hk:autoParam (scope.kind=.function) tR) :
  Fn prog w K f (n+1) vs Pre Post:=fun A s R args room G pre hargs k=>by
 have hL:s.heap.get? s.heap.objs.size=none:=by
  cases e:s.heap.get? s.heap.objs.size with
  | none=>rfl
  | some o=>exact absurd (Heap.lt_size e) (Nat.lt_irrefl _)
 have hl:∀ y∈ns.zip (args++ds),scope.names.lookup y.1=some .local:=fun y hy=>by
  have:=List.all_eq_true.mp hloc y.1 (List.of_mem_zip hy).1
  simpa using this
 refine KZ9 (fd:=fnOf name qual params body scope dV kV doc pm an cdv ct) (body:=body) (binds:=ns.zip (args++ds)) (by have:=room.depth;lia) (G.inK _ _ ho) rfl G.nolimit (codeRec_of G.inK hcd) rfl
  (hbind s args G (by exact sF hargs (sE (List.length_map ..) rfl))) hcell hl (fun h₁ hns hk₁=>?_) hco hgen hk
 have P1:Pc (envOf qual scope s.heap.objs.size f cdv) s.heap (YZ9 ns (vs++ds.map tk0)) (fun _=>True) h₁:=by
  refine ⟨⟨_,⟨hns,hk₁,Nat.le_refl _⟩,fun x _=>?_,fun x c e=>?_⟩,trivial⟩
  ·refine sE (XZp ..) (sE List.map_reverse (sE (DZ6 ..) (sE List.map_append (sE hargs ?_))));rfl
  ·cases e
 refine YZf (hb s.heap s.heap.objs.size (A.deeper (envOf qual scope s.heap.objs.size f cdv)) G pre hL room.deeper ⟨hk,rfl,rfl,G⟩ (Cl.nil rfl) _ (fun fl s'=>R (.ok (.ret (match fl with | .ret v=>v | _=>.none))) s') (fun _ _=>False) P1 (fun h' tk q=>?_) (fun v h' tk q=>?_) (fun e h' tk q=>q.elim)) (fun _ _ q=>q) (fun _ _ q=>q.elim)
 ·exact k .none h' tk q.1 q.2
 ·exact k v h' tk q.1 q.2
end
noncomputable def Evs (M:Model) (A:Around) (env:Env) (P:HP) (pos:Pos) (es:List PySem.Expr) (cs:List Value):Prop:=Tr M A P (spliced (backTo pos (starEach es env))) (fun vs h=>vs.map tk0=cs/\P h)
noncomputable def EvsP (M:Model) (A:Around) (env:Env) (P:HP) (pos:Pos) (es:List PySem.Expr) (V:List Value->HP):Prop:=Tr M A P (spliced (backTo pos (starEach es env))) (fun vs h=>V (vs.map tk0) h/\P h)
section
variable {prog:Program} {w:World} {A:Around} {env:Env} {P:HP} {pos:Pos} {e:PySem.Expr} {es:List PySem.Expr} {c:Value} {cs:List Value} {K:Frag} {h₀:Heap} {μ:Str->Option Value} {f:Addr} {n:Nat} {Pre:HP} {Post:Value->Heap->Heap->Prop}
theorem YZ0 {M:Model} {Q:List Value->Shared->Prop} {E:Value->Shared->Prop} {s:Shared} (h:wpC M A (eval e env) (fun v s₁=>wpC M A (spliced (backTo pos (starEach es env))) (fun vs s₂=>Q (v::vs) s₂) E s₁) E s)
  (he:starEach (e::es) env=(false,eval e env)::starEach es env):wpC M A (spliced (backTo pos (starEach (e::es) env))) Q E s:=by
 refine sE he ?_
 show wpC M A (do
  let v <- eval e env
  let here <- (pure [v]:Sem (List Value))
  return here++(<- holding here (spliced (backTo pos (starEach es env))))) Q E s
 exact YZa (YZf h (fun v s₁ h₁=>YZa (YZc (YZa (YZe (YZf h₁ (fun vs s₂ h₂=>YZc h₂) fun _ _ x=>x))))) fun _ _ x=>x)
theorem YZ6 {M:Model} {Q:Args->Shared->Prop} {E:Value->Shared->Prop} {s:Shared} {fv:Value} {x:Sem Value} {r:List (Bool×Sem Value)}
  (h:wpC M A (spliced ((false,x)::r)) (fun vs s'=>Q ⟨vs,[]⟩ s') E s):wpC M A (evalArgs fv true ((false,x)::r) []) Q E s:=by
 unfold evalArgs
 show wpC M A (spliced ((false,x)::r) >>= _) Q E s
 refine YZa (YZf h (fun vs s' h'=>?_) fun _ _ x=>x)
 exact YZe (YZa (YZc (YZa (YZc (YZc h')))))
theorem VZm {M:Model} {Q:Value->Shared->Prop} {E:Value->Shared->Prop} {s:Shared} {t:Sem Value} (h:wpC M A t Q E s):wpC M A (t >>= fun r=>holding [r] point >>= fun _=>pure r) Q E s :=
 YZa (YZf h (fun r s₂ hr=>YZa (YZe (UZr (YZc hr)))) fun _ _ x=>x)
theorem XZa {M:Model} {Q:Value->Shared->Prop} {E:Value->Shared->Prop} {s:Shared} {id:String} {first:List Value} {args:List (Bool×Sem Value)} (hplain:args.any (·.1)=false)
  (h:wpC M A (evalArgs (.builtin id) true args []) (fun a s₁=>wpC M A (PySem.call (.builtin id) (first++a.pos) a.kw) Q E s₁) E s):wpC M A (callWith pos (.builtin id) first args []) Q E s:=by
 unfold callWith
 refine YZa (YZe (YZf h (fun a s₁ h₁=>YZa (YZd ?_)) fun _ _ x=>x))
 simp only [hplain,List.any_nil,Bool.or_false]
 exact YZa (YZc (VZm h₁))
theorem YZn {M:Model} {Q:Value->Shared->Prop} {E:Value->Shared->Prop} {s:Shared} {a:Addr} {o:Obj} {fd:FuncData} {first:List Value} {args:List (Bool×Sem Value)} (hplain:args.any (·.1)=false)
  (h:wpC M A (evalArgs (.ref a) true args []) (fun x s₁=>(s₁.heap.get? a=some o/\o.data=.func fd)/\wpC M A (PySem.call (.ref a) (first++x.pos) x.kw) Q E s₁) E s):wpC M A (callWith pos (.ref a) first args []) Q E s:=by
 unfold callWith
 refine YZa (YZe (YZf h (fun x s₁ h₁=>YZa (YZd ?_)) fun _ _ x=>x))
 simp only [hplain,List.any_nil,Bool.or_false]
 refine YZa (m:=keeperOf (.ref a)) ?_
 unfold keeperOf
 refine YZa (YZb (wpAny_load h₁.1.1 ?_))
 refine sE h₁.1.2 ?_
 refine YZc ?_
 dsimp only
 split
 ·exact VZm h₁.2
 ·exact VZm (wpC_keep h₁.2)
theorem Evs.nil:Evs (model prog w) A env P pos [] []:=fun s Q E p k=>YZb (wpAny_items_nil (k [] s.heap s.toks ⟨rfl,p⟩))
theorem Evs.cons (h:Ev (model prog w) A env P e c) (hs:Evs (model prog w) A env P pos es cs) (he:autoParam (starEach (e::es) env=(false,eval e env)::starEach es env) tR):Evs (model prog w) A env P pos (e::es) (c::cs):=fun s Q E p k =>
 YZ0 (h s _ E p fun v h' tk x=>hs _ _ E x.2 fun vs h'' tk' y=>k _ h'' tk' ⟨by exact sE List.map_cons (sE x.1 (sE y.1 rfl)),y.2⟩) he
theorem YZx {s:Shared} {Q:Value->Shared->Prop} {E:Value->Shared->Prop} {fe:PySem.Expr} {args:List PySem.Expr}
  (h:wpC (model prog w) A (eval fe env) (fun fv s₁=>wpC (model prog w) A (callWith pos fv [] (backTo pos (starEach args env)) []) Q E s₁) E s)
  (he:eval (.Call fe args [] pos) env=(do let f <- eval fe env;callWith pos f [] (backTo pos (starEach args env)) [])):wpC (model prog w) A (eval (.Call fe args [] pos) env) Q E s:=by
 refine sE he ?_
 exact YZa h
theorem EvP.call {fx:Str} {fp:Pos} (C:Cx K env h₀ μ P) (hF:Fn prog w K f n cs Pre Post) (hr:Room n A) (hf:Ev (model prog w) A env P (.Name fx fp) (.ref f)) (ha:Evs (model prog w) A env P pos (e::es) cs) (hp:∀ h,P h->Pre h)
  (hd:(match K.lookup f with | some ⟨_,_,.func _,_⟩=>true | _=>false)=true) (he:autoParam (eval (.Call (.Name fx fp) (e::es) [] pos) env=(do let f <- eval (.Name fx fp) env;callWith pos f [] (backTo pos (starEach (e::es) env)) [])) tR)
  (he2:autoParam (starEach (e::es) env=(false,eval e env)::starEach es env) tR) (hpl:autoParam ((backTo pos (starEach (e::es) env)).any (·.1)=false) tR) :
  EvP (model prog w) A env P (.Call (.Name fx fp) (e::es) [] pos) (fun v h'=>∃ h,P h/\Grows h h'/\Post v h h'):=fun s Q E p k=>by
 obtain ⟨o,fd,ho,hd'⟩:∃ o fd,K.lookup f=some o/\o.data=.func fd:=by
  revert hd
  cases hk:K.lookup f with
  | none=>intro hd;cases hd
  | some o =>
   obtain ⟨_,_,dt,_⟩:=o
   cases dt <;> intro hd <;> first | exact ⟨_,_,rfl,rfl⟩ | cases hd
 refine YZx (hf s _ E p fun v h1 tk1 x=>?_) he
 refine sE (YZh x.1) ?_
 refine YZn (o:=o) (fd:=fd) hpl ?_
 have ha':=ha { s with heap:=h1,toks:=tk1 } (fun vs s₂=>(s₂.heap.get? f=some o/\o.data=.func fd)/\wpC (model prog w) A (PySem.call (.ref f) ([]++vs) []) Q E s₂) E x.2 ?_
 ·rw [he2] at ha' ⊢
  exact YZ6 ha'
 ·intro vs h2 tk2 y
  refine ⟨⟨(C.gdh y.2).inK _ _ ho,hd'⟩,YZy (hF _ _ _ vs hr (C.gdh y.2) (hp _ y.2) y.1 fun v h3 tk3 g q=>?_)⟩
  exact k v h3 tk3 ⟨⟨h2,y.2,g,q⟩,C.grow _ _ g y.2⟩
theorem EvP.call0 {fx:Str} {fp:Pos} (C:Cx K env h₀ μ P) (hF:Fn prog w K f n [] Pre Post) (hr:Room n A) (hf:Ev (model prog w) A env P (.Name fx fp) (.ref f)) (hp:∀ h,P h->Pre h)
  (hd:(match K.lookup f with | some ⟨_,_,.func _,_⟩=>true | _=>false)=true) (he:autoParam (eval (.Call (.Name fx fp) [] [] pos) env=(do let f <- eval (.Name fx fp) env;callWith pos f [] (backTo pos (starEach [] env)) [])) tR) :
  EvP (model prog w) A env P (.Call (.Name fx fp) [] [] pos) (fun v h'=>∃ h,P h/\Grows h h'/\Post v h h'):=fun s Q E p k=>by
 obtain ⟨o,fd,ho,hd'⟩:∃ o fd,K.lookup f=some o/\o.data=.func fd:=by
  revert hd
  cases hk:K.lookup f with
  | none=>intro hd;cases hd
  | some o =>
   obtain ⟨_,_,dt,_⟩:=o
   cases dt <;> intro hd <;> first | exact ⟨_,_,rfl,rfl⟩ | cases hd
 refine YZx (hf s _ E p fun v h1 tk1 x=>?_) he
 refine sE (YZh x.1) ?_
 refine YZn (o:=o) (fd:=fd) rfl (YZb (evalArgs_nil3 ?_))
 refine ⟨⟨(C.gdh x.2).inK _ _ ho,hd'⟩,YZy (hF _ _ _ [] hr (C.gdh x.2) (hp _ x.2) rfl fun v h3 tk3 g q=>?_)⟩
 exact k v h3 tk3 ⟨⟨h1,x.2,g,q⟩,C.grow _ _ g x.2⟩
theorem Ev.call {fx:Str} {fp:Pos} (C:Cx K env h₀ μ P) (hF:Fn prog w K f n cs Pre (fun v _ _=>v=c)) (hr:Room n A) (hf:Ev (model prog w) A env P (.Name fx fp) (.ref f)) (ha:Evs (model prog w) A env P pos (e::es) cs) (hp:∀ h,P h->Pre h)
  (hd:(match K.lookup f with | some ⟨_,_,.func _,_⟩=>true | _=>false)=true) (he:autoParam (eval (.Call (.Name fx fp) (e::es) [] pos) env=(do let f <- eval (.Name fx fp) env;callWith pos f [] (backTo pos (starEach (e::es) env)) [])) tR)
  (he2:autoParam (starEach (e::es) env=(false,eval e env)::starEach es env) tR) (hpl:autoParam ((backTo pos (starEach (e::es) env)).any (·.1)=false) tR):Ev (model prog w) A env P (.Call (.Name fx fp) (e::es) [] pos) c :=
 Tr.post (EvP.call C hF hr hf ha hp hd he he2 hpl) fun v h q=>⟨J1 q.1 fun _ _ _ e=>e,q.2⟩
theorem Ev.callB {fx:Str} {fp:Pos} {id:String} (hf:Ev (model prog w) A env P (.Name fx fp) (.builtin id)) (ha:Evs (model prog w) A env P pos (e::es) cs)
  (ho:∀ (s:Shared) (Q:Value->Shared->Prop) E vs,P s.heap->vs.map tk0=cs->(∀ x h' tk,tk0 x=c->Grows s.heap h'->Q x { s with heap:=h',toks:=tk })->wpC (model prog w) A (PySem.call (.builtin id) vs) Q E s)
  (hP:∀ h h',Grows h h'->P h->P h')
  (he:autoParam (eval (.Call (.Name fx fp) (e::es) [] pos) env=(do let f <- eval (.Name fx fp) env;callWith pos f [] (backTo pos (starEach (e::es) env)) [])) tR)
  (he2:autoParam (starEach (e::es) env=(false,eval e env)::starEach es env) tR) (hpl:autoParam ((backTo pos (starEach (e::es) env)).any (·.1)=false) tR):Ev (model prog w) A env P (.Call (.Name fx fp) (e::es) [] pos) c:=fun s Q E p k=>by
 refine YZx (hf s _ E p fun v h1 tk1 x=>?_) he
 refine sE (KZx x.1) ?_
 refine XZa hpl ?_
 have ha':=ha { s with heap:=h1,toks:=tk1 } (fun vs s₂=>wpC (model prog w) A (PySem.call (.builtin id) ([]++vs) []) Q E s₂) E x.2 ?_
 ·rw [he2] at ha' ⊢
  exact YZ6 ha'
 ·intro vs h2 tk2 y
  exact ho _ _ _ vs y.2 y.1 fun v h3 tk3 e g=>k v h3 tk3 ⟨e,hP _ _ g y.2⟩
end
section
variable {prog:Program} {w:World} {A:Around} {env:Env} {K:Frag} {h₀:Heap} {μ:Str->Option Value} {P:HP} {pos p1 p2:Pos} {e:PySem.Expr}
theorem tk1 {vs:List Value} {c:Value} (h:vs.map tk0=[c]):∃ v,vs=[v]/\tk0 v=c:=by
 have hl:=mlen h
 revert h
 exact ar1 vs hl fun v h=>⟨v,rfl,(List.cons.inj h).1⟩
theorem tk2 {vs:List Value} {c d:Value} (h:vs.map tk0=[c,d]):∃ v u,vs=[v,u]/\tk0 v=c/\tk0 u=d:=by
 have hl:=mlen h
 revert h
 exact ar2 vs hl fun v u h=>⟨v,u,rfl,(List.cons.inj h).1,(List.cons.inj (List.cons.inj h).2).1⟩
noncomputable def absZ (i:Int):Int:=if i<0 then -i else i
theorem Ev.abs {i:Int} (C:Cx K env h₀ μ P) (hf:Ev (model prog w) A env P (.Name "abs" p1) (.builtin "abs")) (h:Ev (model prog w) A env P e (I i))
  (he2:autoParam (starEach [e] env=(false,eval e env)::starEach [] env) tR) (hpl:autoParam ((backTo pos (starEach [e] env)).any (·.1)=false) tR):Ev (model prog w) A env P (.Call (.Name "abs" p1) [e] [] pos) (I (absZ i)) :=
 Ev.callB hf (Evs.cons h Evs.nil he2) (fun s Q E vs p hv k=>by
  refine J0 (tk1 hv) ?_;rintro v rfl e1
  refine tkI e1 fun t=>?_
  exact YZb <| PyProof.Rows.call_abs_int fun u tk=>k _ s.heap tk rfl (Grows.refl _)) C.grow rfl he2 hpl
end
end
section
noncomputable def InB (ks:List Int):Prop:=∀ k∈ks,0<=k/\k<256
theorem XZx (ks:List Int):(bA ks).size=ks.length:=by simp [bA]
theorem bA_push (ks:List Int) (k:Int):(bA ks).push k.toNat.toUInt8=bA (ks++[k]):=by simp [bA]
theorem bA_app (ks ls:List Int):bA ks++bA ls=bA (ks++ls):=by simp [bA]
theorem XZ4 {k:Int} (h:0<=k/\k<256):((k.toNat.toUInt8.toNat:Nat):Int)=k:=by
 have:(k.toNat.toUInt8).toNat=k.toNat:=by
  show (UInt8.ofNat k.toNat).toNat=k.toNat
  refine sE UInt8.toNat_ofNat' ?_;lia
 refine sE this ?_;lia
theorem NZx {ks:List Int} {i:Nat} (hi:i<ks.length):(bA ks)[i]?=some (ks.getD i 0).toNat.toUInt8:=by
 simp [bA,hi,List.getD_eq_getElem?_getD]
theorem InB.getD {ks:List Int} (h:InB ks) (i:Nat):0<=ks.getD i 0/\ks.getD i 0<256:=by
 refine sE List.getD_eq_getElem?_getD ?_
 cases e:ks[i]? with
 | none=>decide
 | some k=>exact h k (List.mem_of_getElem? e)
theorem InB.app {ks ls:List Int} (h:InB ks) (g:InB ls):InB (ks++ls):=fun k hk=>(mA hk).elim (h k) (g k)
theorem InB.nil:InB []:=fun _ h=>nomatch h
theorem bA_inj {ks ls:List Int} (h:InB ks) (g:InB ls) (e:bA ks=bA ls):ks=ls:=by
 have e':ks.map (fun n=>n.toNat.toUInt8)=ls.map (fun n=>n.toNat.toUInt8):=by simpa [bA] using e
 have e2:=congrArg (List.map fun c:UInt8=>((c.toNat:Nat):Int)) e'
 rw [List.map_map,List.map_map] at e2
 have f:∀ l:List Int,InB l->l.map ((fun c:UInt8=>((c.toNat:Nat):Int)) ∘ fun n=>n.toNat.toUInt8)=l:=fun l hl=>by
  refine (List.map_congr_left (g:=_root_.id) fun k hk=>?_).trans (List.map_id _)
  exact XZ4 (hl k hk)
 rwa [f ks h,f ls g] at e2
noncomputable def baO (ks:List Int):Obj:={ cls:=.type "bytearray", data:=.bytearray (bA ks) }
section
variable {M:Model} {prog:Program} {w:World} {A:Around} {E:Value->Shared->Prop} {s:Shared} {a:Addr} {ks:List Int}
theorem dn {c:Prop} [Decidable c] {α:Type} {t:c->α} {e:¬c->α} {x:α} (hc:¬c) (h:e hc=x):dite c t e=x:=(dif_neg hc).trans h
theorem m5 : "bytearray.__contains__" ∈ YZ5 /\ "bytearray.__mod__" ∈ YZ5 /\ "bytearray.__rmod__" ∈ YZ5 /\ "_struct.pack_into.held" ∈ YZ5 /\ "bytearray.find.held" ∈ YZ5:=by decide +kernel
theorem exp_false (self:Value):∀ c p,Code.holds c=false->(fun x:Code×Pos=>match x with
  | (.builtin "bytearray.__contains__" ⟨v::_,_⟩,_) | (.builtin "bytearray.__mod__" ⟨v::_,_⟩,_)
  | (.builtin "bytearray.__rmod__" ⟨_::v::_,_⟩,_) | (.builtin "_struct.pack_into.held" ⟨v::_,_⟩,_)=>Builtin.Bytes.sameRef v self
  | (.builtin "bytearray.find.held" ⟨_::_::held,_⟩,_)=>held.any (Builtin.Bytes.sameRef self)
  | (.builtin id ⟨v::_,_⟩,_)=>Builtin.Bytes.sameRef v self&&Builtin.Bytes.decodersThatHold.contains id
  | _=>false) (c,p)=false:=by
 intro c p h
 cases c with
 | builtin id args =>
  have hn:∀ x∈YZ5,id≠x:=fun x hx e=>by
   have h1:YZ5.contains id=false:=h
   rw [e,List.contains_iff_mem.mpr hx] at h1;cases h1
  have hd:Builtin.Bytes.decodersThatHold.contains id=false:=by
   cases q:Builtin.Bytes.decodersThatHold.contains id with
   | false=>rfl
   | true=>exact absurd rfl (hn id (List.mem_append_left _ (List.contains_iff_mem.mp q)))
  obtain ⟨pos,kw⟩:=args
  cases pos with
  | nil =>
   delta Mine.exp_false.match_1
   refine dn (hn _ m5.1) ?_
   refine dn (hn _ m5.2.1) ?_
   refine dn (hn _ m5.2.2.1) ?_
   refine dn (hn _ m5.2.2.2.1) ?_
   refine dn (hn _ m5.2.2.2.2) ?_
   rfl
  | cons v tl =>
   delta Mine.exp_false.match_1
   refine dn (hn _ m5.1) ?_
   refine dn (hn _ m5.2.1) ?_
   refine dn (hn _ m5.2.2.1) ?_
   refine dn (hn _ m5.2.2.2.1) ?_
   refine dn (hn _ m5.2.2.2.2) ?_
   exact (congrArg (Builtin.Bytes.sameRef v self&&·) hd).trans (Bool.and_false _)
 | _=>rfl
theorem KZ8 {self:Value} {Q:Bool->Shared->Prop} (h:Q false s):wpC M A (Builtin.Bytes.exported self) Q E s:=wpC_stack (exp_false self) h
theorem UZz {Q:Unit->Shared->Prop} (ho:s.heap.get? a=some (baO ks)) (h:Q () s):wpC M A (Builtin.Bytes.checkResize (.ref a)) Q E s:=by
 unfold Builtin.Bytes.checkResize
 refine YZa ?_
 refine YZa (m:=Builtin.Bytes.exported (.ref a)) (KZ8 ?_)
 refine YZa (m:=Builtin.Bytes.exportsOf (.ref a)) (YZb (wpAny_bind (wpAny_load ho (wpAny_pure ?_))))
 exact YZc (YZc h)
theorem GZc {Q:Unit->Shared->Prop} {f:Array UInt8->Array UInt8} {ls:List Int} (ho:s.heap.get? a=some (baO ks)) (hf:f (bA ks)=bA ls) (hz:ls.length<=sizeLine)
  (h:∀ h',h'.get? a=some (baO ls)->Heap.SameBut a s.heap h'->Q () { s with heap:=h' }):wpC M A (Builtin.Bytes.write (.ref a) f) Q E s:=by
 refine YZb ?_
 show wpAny _ _ (updateBytearray a f) _ _ _
 unfold updateBytearray
 refine wpAny_bind (wpAny_load ho ?_)
 show wpAny _ _ (update a (Obj.mapBytearray f) >>= fun _=>lookBehind a) _ _ _
 refine wpAny_bind (wpAny_update ho ?_)
 have h2:(s.heap.update a (Obj.mapBytearray f)).get? a=some (baO ls):=by
  have:=Heap.get?_update_self (Obj.mapBytearray f) ho rfl
  refine sE this ?_
  show some (Obj.mapBytearray f (baO ks))=_
  unfold baO Obj.mapBytearray
  dsimp only
  exact sE hf rfl
 refine wpAny_lookBehind h2 ?_ (h _ h2 (Heap.SameBut.update ..))
 show (if (bA ls).size > sizeLine then some "bytearray:memory" else none)=none
 rw [if_neg]
 refine sE (XZx ..) ?_;lia
theorem XZ0 {T:String} {name:Str} {id:String} {b:Builtin} {self:Value} {rest:List Value} {Q:Value->Shared->Prop} (h:Slot T name id) (hT:s.TypeIs self T) (hb:entryFor table id=some b)
  (hc:wpC (model prog w) A.in1 (b ⟨self::rest,[]⟩) (fun fin s'=>match fin with | .done (.ret v)=>Q v s' | .done _=>False | .again c'=>c'.quiet=true/\YZ7 (model prog w) A c' (fun r s'=>match r with | .ok (.ret v)=>Q v s' | .ok _=>False | .error e=>E e s') s') E s)
  (ha:argsOk id ⟨self::rest,[]⟩) (hh:Code.holds (.builtin id ⟨self::rest,[]⟩)=false) :
  wpC (model prog w) A (PySem.call (.builtin id) (self::rest)) Q E s:=by
 refine YZy (YZm ?_)
 show wpC _ A.in1 (do checkBuiltinCall id ⟨self::rest,[]⟩;again (.builtin id ⟨self::rest,[]⟩)) _ _ s
 refine YZa (YZb (h.check _ _ _ _ _ _ _ _ hT ha ?_))
 refine YZc (And.intro (plainId_quiet h.plain _) (YZm ?_ hh))
 rw [Around.under_plainId h.plain]
 show wpC _ _ (match entryFor table id with | some b=>b ⟨self::rest,[]⟩ | none=>unsupported ((withoutEnding? id "#data").getD id)) _ _ s
 refine sE hb ?_
 refine YZf hc (fun fin s' q=>?_) fun _ _ q=>q
 rcases fin with (_ | _ | _ | _) | _ <;> first | exact q | exact q.elim
end
namespace BF
theorem slot_append:Slot "bytearray" "append" "bytearray.append" :=
 .of (owner := "bytearray") (n := "append") (by refine sE (typeLookup_type ..) (sE builtinLookup_eq_fast ?_);kernel_rfl) (by decide +kernel) (by decide +kernel) (by decide +kernel)
  (by first | exact .inl (by decide +kernel) | exact .inr (by decide +kernel)) (by refine sE (isSubtype_type ..) ?_;kernel_rfl)
theorem slot_extend:Slot "bytearray" "extend" "bytearray.extend" :=
 .of (owner := "bytearray") (n := "extend") (by refine sE (typeLookup_type ..) (sE builtinLookup_eq_fast ?_);kernel_rfl) (by decide +kernel) (by decide +kernel) (by decide +kernel)
  (by first | exact .inl (by decide +kernel) | exact .inr (by decide +kernel)) (by refine sE (isSubtype_type ..) ?_;kernel_rfl)
theorem slot_iter:Slot "bytearray" "__iter__" "bytearray.__iter__" :=
 .of (owner := "bytearray") (n := "__iter__") (by refine sE (typeLookup_type ..) (sE builtinLookup_eq_fast ?_);kernel_rfl) (by decide +kernel) (by decide +kernel) (by decide +kernel)
  (by first | exact .inl (by decide +kernel) | exact .inr (by decide +kernel)) (by refine sE (isSubtype_type ..) ?_;kernel_rfl)
theorem slot_init:Slot "bytearray" "__init__" "bytearray.__init__" :=
 .of (owner := "bytearray") (n := "__init__") (by refine sE (typeLookup_type ..) (sE builtinLookup_eq_fast ?_);kernel_rfl) (by decide +kernel) (by decide +kernel) (by decide +kernel)
  (by first | exact .inl (by decide +kernel) | exact .inr (by decide +kernel)) (by refine sE (isSubtype_type ..) ?_;kernel_rfl)
theorem slot_next:Slot "bytearray_iterator" "__next__" "bytearray_iterator.__next__" :=
 .of (owner := "bytearray_iterator") (n := "__next__") (by refine sE (typeLookup_type ..) (sE builtinLookup_eq_fast ?_);kernel_rfl) (by decide +kernel) (by decide +kernel) (by decide +kernel)
  (by first | exact .inl (by decide +kernel) | exact .inr (by decide +kernel)) (by refine sE (isSubtype_type ..) ?_;kernel_rfl)
theorem entry_append:entryFor table "bytearray.append" = some Builtin.«bytearray.append»:=entryFor_of_tree (by kernel_rfl)
theorem entry_extend:entryFor table "bytearray.extend" = some Builtin.«bytearray.extend»:=entryFor_of_tree (by kernel_rfl)
theorem entry_extend_loop:entryFor table "bytearray.extend.loop" = some Builtin.«bytearray.extend.loop»:=entryFor_of_tree (by kernel_rfl)
theorem entry_extend_end:entryFor table "bytearray.extend.end" = some Builtin.«bytearray.extend.end»:=entryFor_of_tree (by kernel_rfl)
theorem entry_iter:entryFor table "bytearray.__iter__" = some Builtin.«bytearray.__iter__»:=entryFor_of_tree (by kernel_rfl)
theorem entry_init:entryFor table "bytearray.__init__" = some Builtin.«bytearray.__init__»:=entryFor_of_tree (by kernel_rfl)
theorem entry_next:entryFor table "bytearray_iterator.__next__" = some Builtin.«bytearray_iterator.__next__»:=entryFor_of_tree (by kernel_rfl)
theorem args_append (a b:Value):argsOk "bytearray.append" ⟨[a,b],[]⟩:=by unfold argsOk;kernel_rfl
theorem args_extend (a b:Value):argsOk "bytearray.extend" ⟨[a,b],[]⟩:=by unfold argsOk;kernel_rfl
theorem args_iter (a:Value):argsOk "bytearray.__iter__" ⟨[a],[]⟩:=by unfold argsOk;kernel_rfl
theorem args_next (a:Value):argsOk "bytearray_iterator.__next__" ⟨[a],[]⟩:=by unfold argsOk;kernel_rfl
theorem args_init (a:Value) (l:List Value) (h:l=[]∨∃ b,l=[b]):argsOk "bytearray.__init__" ⟨a::l,[]⟩:=by
 rcases h with rfl | ⟨b,rfl⟩ <;> (unfold argsOk;kernel_rfl)
theorem type_append:typeOf (.builtin "bytearray.append")=pure (.type "method_descriptor"):=by show builtinType _=_;refine sE builtinType_eq_fast ?_;kernel_rfl
theorem type_extend:typeOf (.builtin "bytearray.extend")=pure (.type "method_descriptor"):=by show builtinType _=_;refine sE builtinType_eq_fast ?_;kernel_rfl
theorem getattribute:typeLookup (.type "bytearray") "__getattribute__" = pure (some (.builtin "bytearray.__getattribute__")):=by refine sE (typeLookup_type ..) (sE builtinLookup_eq_fast ?_);kernel_rfl
theorem getattr_none:typeLookup (.type "bytearray") "__getattr__" = pure none:=by refine sE (typeLookup_type ..) (sE builtinLookup_eq_fast ?_);kernel_rfl
theorem canon:(Manifest.canonical "bytearray.__getattribute__" != "object.__getattribute__")=false:=by decide +kernel
end BF
section
variable {prog:Program} {w:World} {M:Model} {A:Around} {E:Value->Shared->Prop} {s:Shared} {a:Addr} {ks:List Int}
theorem YZu (ho:s.heap.get? a=some (baO ks)):s.TypeIs (.ref a) "bytearray" := ⟨_,ho,rfl⟩
theorem VZ4 {name:Str} {id:String} {pl:Sem Bool} {Q:Value×List Value->Shared->Prop} (ho:s.heap.get? a=some (baO ks)) (hs:typeLookup (.type "bytearray") name=pure (some (.builtin id)))
  (ht:typeOf (.builtin id)=pure (.type "method_descriptor")) (h:Q (.builtin id,[.ref a]) s):wpAny M A (getMethod (.ref a) name pl) Q E s:=by
 have hT:=YZu ho
 unfold getMethod
 refine wpAny_bind (wpAny_specialOf hT BF.getattribute ?_)
 show wpAny M A (if (Manifest.canonical "bytearray.__getattribute__" != "object.__getattribute__")=true then _ else _) Q E s
 refine sE BF.canon (sE (if_neg Bool.false_ne_true) ?_)
 refine wpAny_bind (wpAny_specialOf hT BF.getattr_none ?_)
 refine wpAny_bind (wpAny_specialOf hT hs ?_)
 refine wpAny_bind (wpAny_of_eq ht ?_)
 refine wpAny_bind (wpAny_load ho ?_)
 exact wpAny_bind (wpAny_rule (wpAny_pure h))
theorem ba_append {k:Int} {t:Tok} {Q:Value->Shared->Prop} (ho:s.heap.get? a=some (baO ks)) (hk:0<=k/\k<256) (hz:ks.length<sizeLine)
  (h:∀ h',h'.get? a=some (baO (ks++[k]))->Heap.SameBut a s.heap h'->Q .none { s with heap:=h' }):wpC (model prog w) A (PySem.call (.builtin "bytearray.append") [.ref a,.int k t]) Q E s:=by
 refine XZ0 BF.slot_append (YZu ho) BF.entry_append ?_ (BF.args_append _ _) (by show YZ5.contains "bytearray.append" = false;decide +kernel)
 unfold Builtin.«bytearray.append»
 refine YZa (m:=selfAndOne _ _) (YZc ?_)
 dsimp only
 refine YZa (YZb (wpAny_of_eq (a:=k.toNat.toUInt8) ?_ ?_))
 ·show (pure k >>= fun i=>if (decide (i<0) || decide (i ≥ 256))=true then _ else pure i.toNat.toUInt8)=_
  show (if (decide (k<0) || decide (k ≥ 256))=true then _ else pure k.toNat.toUInt8)=_
  rw [if_neg]
  simp only [Bool.or_eq_true,decide_eq_true_eq];lia
 refine YZa (UZz ho ?_)
 refine YZa (GZc ho (ls:=ks++[k]) (bA_push ks k) (by refine sE List.length_append ?_;simp;assumption) fun h' g sb=>?_)
 exact YZc (h h' g sb)
end
end
section
namespace BF
theorem mro_ba:mroOf (.type "bytearray")=pure [.type "bytearray", .type "object"]:=by refine sE (mroOf_type ..) ?_;kernel_rfl
theorem NZ3:typeLookup (.type "bytearray") "__new__" = pure (some (.builtin "bytearray.__new__")):=by refine sE (typeLookup_type ..) (sE builtinLookup_eq_fast ?_);kernel_rfl
theorem called:TypeCalled "bytearray" "bytearray.__new__" "bytearray.__init__" :=
 ⟨by decide +kernel,by decide +kernel,⟨_,_,mro_ba⟩,madeBy_type mro_ba NZ3 (by decide +kernel),by decide +kernel,by refine sE (isSubtype_type ..) ?_;kernel_rfl,slot_init⟩
theorem entry_new:entryFor table "bytearray.__new__" = some Builtin.«list.__new__»:=entryFor_alias (id' := "list.__new__") (by kernel_rfl) rfl (by decide +kernel) (by kernel_rfl)
theorem plain_new:plainId "bytearray.__new__" = true:=by decide +kernel
theorem typeCall0:checkTypeCall "bytearray" ⟨[],[]⟩=pure ():=by kernel_rfl
theorem typeCall1 (a:Value):checkTypeCall "bytearray" ⟨[a],[]⟩=pure ():=by kernel_rfl
theorem newCall0:checkBuiltinCall "bytearray.__new__" ⟨[.type "bytearray"],[]⟩=pure ():=by kernel_rfl
theorem newCall1 (a:Value):checkBuiltinCall "bytearray.__new__" ⟨[.type "bytearray", a],[]⟩=pure ():=by kernel_rfl
set_option maxRecDepth 1000000 in
set_option maxHeartbeats 4000000 in
theorem owner_new:("bytearray.__new__".splitOn ".__new__").headD "" = "bytearray" := by simp +decide [String.splitOn,String.splitOnAux]
theorem look_release:typeLookup (.type "bytearray") "__release_buffer__" = pure (some (.builtin "bytearray.__release_buffer__")):=by refine sE (typeLookup_type ..) (sE builtinLookup_eq_fast ?_);kernel_rfl
theorem look_buffer:typeLookup (.type "bytearray") "__buffer__" = pure (some (.builtin "bytearray.__buffer__")):=by refine sE (typeLookup_type ..) (sE builtinLookup_eq_fast ?_);kernel_rfl
theorem sub_self:isSubtype (.type "bytearray") (.type "bytearray")=pure true:=by refine sE (isSubtype_type ..) ?_;kernel_rfl
end BF
section
variable {prog:Program} {w:World} {A:Around} {E:Value->Shared->Prop} {s:Shared}
theorem KZj (l:List Value) {Q₁:Value->Shared->Prop} (hc:checkBuiltinCall "bytearray.__new__" ⟨.type "bytearray" :: l,[]⟩=pure ())
  (h:Q₁ (.ref s.heap.objs.size) { s with heap:=s.heap.push (baO []) }) :
  codeAny (model prog w) A (.call (.builtin "bytearray.__new__") ⟨.type "bytearray" :: l,[]⟩) (wants Q₁ E) s:=by
 refine codeAny_of_tree ?_
 show wpAny _ A.in1 (do checkBuiltinCall "bytearray.__new__" ⟨.type "bytearray" :: l,[]⟩;again (.builtin "bytearray.__new__" ⟨.type "bytearray" :: l,[]⟩)) _ _ s
 refine wpAny_bind (wpAny_of_eq hc (wpAny_pure ⟨plainId_quiet BF.plain_new _,codeAny_builtin_stack BF.entry_new rfl fun p st=>?_⟩))
 refine sE (Around.under_plainId BF.plain_new _) ?_
 have hsub:=BF.sub_self
 have hown:=BF.owner_new
 obtain ⟨hp,g,d,tk,os⟩:=s
 simp only [hown]
 wp_walk
 exact h
theorem XZe {id:String} {args:Args} {b:Builtin} {R:Result->Shared->Prop} (hb:entryFor table id=some b)
  (h:wpC (model prog w) (A.under (.builtin id args)) (b args)
   (fun fin s'=>match fin with | .done f=>R (.ok f) s' | .again c'=>c'.quiet=true/\YZ7 (model prog w) A c' R s') (fun e s'=>R (.error e) s') s)
  (hh:Code.holds (.builtin id args)=false):YZ7 (model prog w) A (.builtin id args) R s:=by
 refine YZm ?_ hh
 show wpC _ _ (match entryFor table id with | some b=>b args | none=>unsupported ((withoutEnding? id "#data").getD id)) _ _ s
 refine sE hb ?_;exact h
theorem DZa {T newId initId:String} {args:List Value} {Q Q₁:Value->Shared->Prop} (ft:TypeCalled T newId initId)
  (hct:checkTypeCall T ⟨args,[]⟩=pure ())
  (hnew:codeAny (model prog w) A.in1 (.call (.builtin newId) ⟨.type T::args,[]⟩) (wants Q₁ E) s)
  (hnext:∀ obj s₁,Q₁ obj s₁->s₁.TypeIs obj T/\wpC (model prog w) A.in1 (PySem.call (.builtin initId) (obj::args)) (fun r s₂=>r=.none/\Q obj s₂) E s₁)
  (hh:Code.holds (.builtin "type.__call__" ⟨.type T::args,[]⟩)=false) :
  wpC (model prog w) A (PySem.call (.type T) args) Q E s:=by
 refine J5 ft.mro fun c tl hmro=>?_
 refine YZy (YZm ?_)
 show wpC _ _ (callAny (.type T) _) _ _ _
 refine YZc ⟨Code.quiet_builtin _ (by decide +kernel),XZe F.entry_type_call ?_ hh⟩
 refine sE (Around.under_plain (weight_type_call_type T args []) (units_type_call_type T args [])) ?_
 unfold Builtin.«type.__call__»
 dsimp only
 refine VZf ft.notType ?_
 refine VZf ft.canCreate ?_
 refine YZa (YZb (wpAny_of_eq hct ?_))
 refine YZa (YZb (wpAny_of_eq hmro ?_))
 refine VZf rfl ?_
 refine YZa (YZb (wpAny_of_eq ft.made ?_))
 dsimp only
 refine YZa (YZc ?_)
 refine YZa (YZe (YZb (wpAny_call (codeAny_mono hnew fun r s₁ hr=>?_))))
 cases r with
 | error e=>exact hr
 | ok fl =>
  cases fl with
  | ret obj =>
   obtain ⟨hT,hi⟩:=hnext _ _ hr
   show wpC _ _ _ _ _ _
   refine YZa (YZb (wpAny_isInstance hT ft.sub ?_))
   refine VZf rfl ?_
   refine YZa (YZe ?_)
   simp only [callSpecial?]
   refine YZa (YZb (wpAny_specialOf hT ft.init.lookup ?_))
   simp only [ft.init.bind]
   refine YZe (YZa (YZc (YZa (YZf hi (fun r s₂ q=>?_) fun _ _ q=>q))))
   obtain ⟨rfl,q⟩:=q
   refine YZc ?_
   dsimp only
   refine VZf rfl ?_
   exact YZc q
  | _=>exact hr.elim
theorem BF.ends_release:(!"bytearray.__release_buffer__".endsWith ("." ++ "__release_buffer__"))=false:=by decide +kernel
theorem BF.drop_release : "bytearray.__release_buffer__".dropRight ("__release_buffer__".length+1) = "bytearray" := by decide +kernel
theorem BF.ends_buffer:(!"bytearray.__buffer__".endsWith ("." ++ "__buffer__"))=false:=by decide +kernel
theorem BF.drop_buffer : "bytearray.__buffer__".dropRight ("__buffer__".length+1) = "bytearray" := by decide +kernel
theorem VZv {a:Addr} {ks:List Int} {Q:Bool->Shared->Prop} (ho:s.heap.get? a=some (baO ks)) (h:Q false s):wpAny (model prog w) A (Builtin.Bytes.ownRelease (.ref a)) Q E s:=by
 have hT:=YZu ho
 unfold Builtin.Bytes.ownRelease Builtin.Bytes.slotIsOwn
 refine wpAny_bind (wpAny_bind (wpAny_specialOf hT BF.look_release ?_))
 dsimp only
 refine bm_if_false BF.ends_release ?_
 refine sE BF.drop_release ?_
 exact wpAny_isInstance hT BF.sub_self (wpAny_pure h)
theorem DZ5 {a:Addr} {ks:List Int} {Q:Bool->Shared->Prop} (ho:s.heap.get? a=some (baO ks)) (h:Q true s):wpAny (model prog w) A (Builtin.Bytes.slotIsOwn (.ref a) "__buffer__") Q E s:=by
 have hT:=YZu ho
 unfold Builtin.Bytes.slotIsOwn
 refine wpAny_bind (wpAny_specialOf hT BF.look_buffer ?_)
 try dsimp only
 refine bm_if_false BF.ends_buffer ?_
 refine sE BF.drop_buffer ?_
 exact wpAny_isInstance hT BF.sub_self h
theorem UZf {a:Addr} {ks:List Int} {Q:Array UInt8->Shared->Prop} (ho:s.heap.get? a=some (baO ks)) (h:Q (bA ks) s):wpAny (model prog w) A (Builtin.Bytes.payload (.ref a)) Q E s:=by
 unfold Builtin.Bytes.payload Builtin.Bytes.payload?
 exact wpAny_bind (wpAny_bind (wpAny_load ho (wpAny_pure (wpAny_pure h))))
theorem ba_buffer {a:Addr} {ks:List Int} {id:String} {full:Bool} {Q:Option (Array UInt8)->Shared->Prop} (ho:s.heap.get? a=some (baO ks)) (h:Q (some (bA ks)) s):wpAny (model prog w) A (Builtin.Bytes.buffer? id (.ref a) full) Q E s:=by
 have hT:=YZu ho
 unfold Builtin.Bytes.buffer?
 refine wpAny_bind (wpAny_specialOf hT BF.look_buffer ?_)
 try dsimp only
 refine wpAny_bind (DZ5 ho ?_)
 refine bm_if_false rfl ?_
 refine wpAny_bind (wpAny_specialOf hT BF.look_buffer ?_)
 try dsimp only
 refine wpAny_bind (VZv ho ?_)
 refine bm_if_false rfl ?_
 exact wpAny_bind (UZf ho (wpAny_pure h))
theorem KZn {a:Addr} {Q:Bool->Shared->Prop} (ho:s.heap.get? a=some (baO [])) (h:Q false s):wpC (model prog w) A (Builtin.Bytes.exported (.ref a) <||> (do return (<- Builtin.Bytes.exportsOf (.ref a)) > 0)) Q E s:=by
 refine YZa (m:=Builtin.Bytes.exported (.ref a)) (KZ8 ?_)
 refine YZa (m:=Builtin.Bytes.exportsOf (.ref a)) (YZb (wpAny_bind (wpAny_load ho (wpAny_pure ?_))))
 exact YZc h
theorem ba_new0 {Q:Value->Shared->Prop} (h:∀ h' a,s.heap.get? a=none->h'.get? a=some (baO [])->Grows s.heap h'->Q (.ref a) { s with heap:=h' }):wpC (model prog w) A (PySem.call (.type "bytearray") []) Q E s:=by
 refine DZa (Q₁:=fun obj s₁=>obj=.ref s.heap.objs.size/\s₁={ s with heap:=s.heap.push (baO []) }) BF.called BF.typeCall0 (KZj [] BF.newCall0 ⟨rfl,rfl⟩) ?_ (by show YZ5.contains "type.__call__" = false;decide +kernel)
 rintro obj s₁ ⟨rfl,rfl⟩
 have hn:s.heap.get? s.heap.objs.size=none:=by
  cases e:s.heap.get? s.heap.objs.size with
  | none=>rfl
  | some o=>exact absurd (Heap.lt_size e) (Nat.lt_irrefl _)
 have ho:(s.heap.push (baO [])).get? s.heap.objs.size=some (baO []):=Heap.get?_push_size _ rfl
 refine ⟨YZu ho,XZ0 BF.slot_init (YZu ho) BF.entry_init ?_ (BF.args_init _ _ (.inl rfl)) (by show YZ5.contains "bytearray.__init__" = false;decide +kernel)⟩
 unfold Builtin.«bytearray.__init__»
 refine YZa (YZb (VZv ho ?_))
 refine VZf rfl ?_
 refine YZa (YZb (wpAny_of_eq (a:=[none,none,none]) (by kernel_rfl) ?_))
 dsimp only
 refine YZa (m:=Builtin.Bytes.checkCodecArg _ _ _ none) (YZc ?_)
 refine YZa (m:=Builtin.Bytes.checkCodecArg _ _ _ none) (YZc ?_)
 refine YZa (KZn ho ?_)
 refine VZf rfl ?_
 refine YZa (GZc ho (ls:=[]) rfl (Nat.zero_le _) fun h' g sb=>?_)
 dsimp only
 refine YZc ⟨rfl,h h' _ hn g fun b o e=>?_⟩
 exact (sb.2 b (Nat.ne_of_lt (Heap.lt_size e))).trans (Heap.get?_push_of_some _ e)
end
end
section
section
variable {prog:Program} {w:World} {A:Around} {E:Value->Shared->Prop} {s:Shared} {a:Addr} {ks:List Int}
theorem NZa {id:String} {b:Array UInt8} {t:Tok} {full:Bool}:Builtin.Bytes.buffer? id (.bytes b t) full=pure (some b):=by
 unfold Builtin.Bytes.buffer?
 refine sE (KBy.special_eq KBy.look_buffer) (sE KBy.own_buffer (sE KBy.own_release ?_))
 kernel_rfl
theorem NZy {id:String} {b:Array UInt8} {t:Tok}:Builtin.Bytes.takeBufferQuiet? id (.bytes b t) 0=pure (some (b,none)):=by
 unfold Builtin.Bytes.takeBufferQuiet? Builtin.Bytes.takeBuffer?
 refine sE (KBy.special_eq KBy.look_buffer) (sE KBy.own_buffer (sE NZa ?_))
 kernel_rfl
noncomputable def addEnd (a:Addr) (more:Array UInt8):Sem Fin:=do
 if !more.isEmpty then Builtin.Bytes.checkResize (.ref a)
 Builtin.Bytes.write (.ref a) (·++more)
 ret .none
theorem c_addAtEnd {ls:List Int} {Q:Value->Shared->Prop} {E:Value->Shared->Prop} (ho:s.heap.get? a=some (baO ks)) (hz:ks.length+ls.length<=sizeLine)
  (h:∀ h',h'.get? a=some (baO (ks++ls))->Heap.SameBut a s.heap h'->Q .none { s with heap:=h' }) :
  wpC (model prog w) A (addEnd a (bA ls)) (fun fin s'=>∃ v,fin=.done (.ret v)/\Q v s') E s:=by
 have tail:wpC (model prog w) A (do Builtin.Bytes.write (.ref a) (·++bA ls);ret .none) (fun fin s'=>∃ v,fin=.done (.ret v)/\Q v s') E s:=by
  refine YZa (GZc ho (ls:=ks++ls) (bA_app ks ls) (by refine sE List.length_append ?_;exact hz) fun h' g sb=>?_)
  exact YZc ⟨_,rfl,h h' g sb⟩
 by_cases hb:(!(bA ls).isEmpty)=true
 ·refine c_ifT hb ?_
  exact YZa (UZz ho tail)
 ·exact VZf (Bool.eq_false_iff.mpr hb) tail
theorem ba_extendB {ls:List Int} {t:Tok} {Q:Value->Shared->Prop} (ho:s.heap.get? a=some (baO ks)) (hz:ks.length+ls.length<=sizeLine)
  (h:∀ h',h'.get? a=some (baO (ks++ls))->Heap.SameBut a s.heap h'->Q .none { s with heap:=h' }):wpC (model prog w) A (PySem.call (.builtin "bytearray.extend") [.ref a,.bytes (bA ls) t]) Q E s:=by
 refine XZ0 BF.slot_extend (YZu ho) BF.entry_extend ?_ (BF.args_extend _ _) (by show YZ5.contains "bytearray.extend" = false;decide +kernel)
 unfold Builtin.«bytearray.extend»
 refine YZa (m:=selfAndOne _ _) (YZc ?_)
 dsimp only
 refine YZa (YZb (wpAny_of_eq (KBy.special_eq KBy.look_buffer) ?_))
 refine c_ifT rfl ?_
 refine YZa (YZb (wpAny_rule ?_))
 refine YZa (YZb (UZf ho ?_))
 refine YZa (YZb (wpAny_of_eq NZy ?_))
 dsimp only
 refine c_ifT rfl ?_
 exact YZf (c_addAtEnd ho hz h:wpC _ _ (addEnd a (bA ls)) _ E s) (fun fin s' q=>by refine J0 q ?_;clear q;rintro v rfl q;exact q) (fun _ _ q=>q)
theorem DZ1 {I S:Addr} {fp wr:List Addr} {n:Nat} {P:Nat->Value->Prop} {St:Nat->Heap->Prop} {it:Value} {ls:List Int} (W:Walks prog w A.in1 I fp wr n P St) (hP:∀ i v,P i v->∃ t,v=.int (ls.getD i 0) t) (hn:n=ls.length)
  (hls:InB ls) (hzl:ks.length+ls.length<=sizeLine) (haS:a≠S) (haw:a∉wr) (hSw:S∉wr) (hSf:S∉fp) {R:Result->Shared->Prop} :
  ∀ (k i:Nat) (s:Shared),n-i=k->i<=n->St i s.heap->s.heap.get? S=some (baO (ls.take i))->s.heap.get? a=some (baO ks) ->
   (∀ h' tk,h'.get? a=some (baO (ks++ls))->(∀ b o,b∉wr->b≠S->b≠a->s.heap.get? b=some o->h'.get? b=some o)->R (.ok (.ret .none)) { s with heap:=h',toks:=tk }) ->
   YZ7 (model prog w) A (.builtin "bytearray.extend.loop" ⟨[.ref a,it,.ref I,.ref S],[]⟩) R s:=by
 have plain1:plainId "bytearray.extend.loop" = true:=by decide +kernel
 have plain2:plainId "bytearray.extend.end" = true:=by decide +kernel
 intro k
 induction k with
 | zero =>
  intro i s hk hle st hS ho hR
  have hin:i=n:=by lia
  subst hin
  refine XZe BF.entry_extend_loop ?_ (by show YZ5.contains "bytearray.extend.loop" = false;decide +kernel)
  refine sE (Around.under_plainId plain1 _) ?_
  show wpC _ A.in1 (pyNext (.ref I) >>= _) _ _ s
  refine YZa (YZb (W.done _ _ _ st fun h' tk hk'=>?_))
  dsimp only
  refine YZc ⟨plainId_quiet plain2 _,XZe BF.entry_extend_end ?_ (by show YZ5.contains "bytearray.extend.end" = false;decide +kernel)⟩
  refine sE (Around.under_plainId plain2 _) ?_
  have hS':=hk' S _ hSw hS
  have ho':=hk' a _ haw ho
  rw [hn,List.take_length] at hS'
  unfold Builtin.«bytearray.extend.end»
  refine YZa (UZr ?_)
  refine YZa (YZb (UZf hS' ?_))
  refine YZf (c_addAtEnd (Q:=fun v s'=>R (.ok (.ret v)) s') (ls:=ls) ho' hzl (fun h2 g sb=>?_):wpC _ _ (addEnd a (bA ls)) _ _ _) (fun fin s' q=>by refine J0 q ?_;clear q;rintro v rfl q;exact q) (fun _ _ q=>q)
  exact hR h2 tk g fun b o hb hbS hba e=>(sb.2 b hba).trans (hk' b o hb e)
 | succ k ih =>
  intro i s hk hle st hS ho hR
  have hlt:i<n:=by lia
  refine XZe BF.entry_extend_loop ?_ (by show YZ5.contains "bytearray.extend.loop" = false;decide +kernel)
  refine sE (Around.under_plainId plain1 _) ?_
  show wpC _ A.in1 (pyNext (.ref I) >>= _) _ _ s
  refine YZa (YZb (W.item i _ _ _ hlt st fun v h1 tk1 hp st1 hk1=>?_))
  obtain ⟨t,rfl⟩:=hP i v hp
  have hb:=hls.getD i
  have hS1:=hk1 S _ hSw hS
  have ho1:=hk1 a _ haw ho
  dsimp only
  refine YZa (m:=tryCatch _ _) (DZ8 (YZe (YZb (wpAny_of_eq (a:=(ls.getD i 0).toNat.toUInt8) ?_ ?_))))
  ·show (if (decide (ls.getD i 0<0) || decide (ls.getD i 0 ≥ 256))=true then _ else pure (ls.getD i 0).toNat.toUInt8)=_
   rw [if_neg]
   simp only [Bool.or_eq_true,decide_eq_true_eq];lia
  refine YZa (YZb (wpAny_letGo ?_))
  have e:ls.take (i+1)=ls.take i++[ls.getD i 0]:=by
   have hi:i<ls.length:=by lia
   refine sE List.take_add_one (sE (List.getElem?_eq_getElem hi) (sE List.getD_eq_getElem?_getD (sE (List.getElem?_eq_getElem hi) ?_)));rfl
  refine YZa (GZc hS1 (ls:=ls.take (i+1)) (by refine sE e ?_;exact bA_push _ _) (by refine sE List.length_take ?_;lia) fun h2 g2 sb2=>?_)
  refine YZc ⟨plainId_quiet plain1 _,ih (i+1) _ (by lia) hlt (W.frame _ _ _ st1 fun b hbf o e=>(sb2.2 b fun q=>hSf (q▸hbf)).trans e) g2 ((sb2.2 a haS).trans ho1) fun h3 tk3 g3 hk3=>?_⟩
  exact hR h3 tk3 g3 fun b o hb hbS hba e=>hk3 b o hb hbS hba ((sb2.2 b hbS).trans (hk1 b o hb e))
theorem BZe {T:String} {it:Addr} {ls:List Int} {mid:String} {Q:Value->Shared->Prop} (ho:s.heap.get? a=some (baO ks)) (hz:ks.length+ls.length<=sizeLine) (hls:InB ls) (hT:s.TypeIs (.ref it) T)
  (hnb:typeLookup (.type T) "__buffer__" = pure none) (hlen:typeLookup (.type T) "__len__" = pure (some (.builtin mid))) (hhint:∀ {A:Around} {s:Shared} {E:Value->Shared->Prop} {Q:Unit->Shared->Prop},s.TypeIs (.ref it) T->Q () s->wpAny (model prog w) A (Builtin.Bytes.lengthHint "bytearray.extend" (.ref it)) Q E s)
  (hait:a≠it) {fp wr:Addr->List Addr} {St:Addr->Nat->Heap->Prop} {P:Nat->Value->Prop}
  (hfp:∀ I b,b∈fp I->b=I∨b=it) (hwr:∀ I b,b∈wr I->b=I)
  (hiter:∀ (Q:Value->Shared->Prop) (E:Value->Shared->Prop),(∀ h' I,s.heap.get? I=none->Grows s.heap h'->St I 0 h'->Walks prog w A.in1 I (fp I) (wr I) ls.length P (St I)->I<h'.objs.size->Q (.ref I) { s with heap:=h' })->wpAny (model prog w) A.in1 (pyIter (.ref it)) Q E s)
  (hP:∀ i v,P i v->∃ t,v=.int (ls.getD i 0) t)
  (h:∀ h' tk,h'.get? a=some (baO (ks++ls))->(∀ b o,b≠a->s.heap.get? b=some o->h'.get? b=some o)->Q .none { s with heap:=h',toks:=tk }):wpC (model prog w) A (PySem.call (.builtin "bytearray.extend") [.ref a,.ref it]) Q E s:=by
 refine XZ0 BF.slot_extend (YZu ho) BF.entry_extend ?_ (BF.args_extend _ _) (by show YZ5.contains "bytearray.extend" = false;decide +kernel)
 unfold Builtin.«bytearray.extend»
 refine YZa (m:=selfAndOne _ _) (YZc ?_)
 dsimp only
 refine YZa (YZb (wpAny_specialOf hT hnb ?_))
 refine VZf rfl ?_
 refine YZa (YZb (wpAny_tryCatch (hiter _ _ fun h1 I hI g1 st W hIlt=>?_)))
 have ne_of:∀ b o,s.heap.get? b=some o->b≠I:=fun b o e q=>by rw [q,hI] at e;cases e
 refine J0 hT fun oT hoT hcT=>?_;clear hT
 have ho1:=g1 _ _ ho
 refine YZa (YZe (YZb (hhint (s:={ s with heap:=h1 }) ⟨oT,g1 _ _ hoT,hcT⟩ ?_)))
 refine YZa (m:=Builtin.Bytes.newBytearray #[]) (YZb (wpAny_newObj_type ?_ (Nat.zero_le _)))
 have hS:(h1.push (baO [])).get? h1.objs.size=some (baO []):=Heap.get?_push_size _ rfl
 have old:∀ b o,h1.get? b=some o->(h1.push (baO [])).get? b=some o:=fun b o e=>Heap.get?_push_of_some _ e
 have aI:a≠I:=ne_of a _ ho
 have aS:a≠h1.objs.size:=Nat.ne_of_lt (Heap.lt_size ho1)
 have itS:it≠h1.objs.size:=Nat.ne_of_lt (Heap.lt_size (g1 _ _ hoT))
 refine YZc ⟨plainId_quiet (by decide +kernel) _,?_⟩
 refine DZ1 W hP rfl hls hz aS (fun q=>aI (hwr I _ q)) (fun q=>Nat.ne_of_lt hIlt (hwr I _ q).symm) (fun q=>(hfp I _ q).elim (fun e=>Nat.ne_of_lt hIlt e.symm) (fun e=>itS e.symm)) ls.length 0 { s with heap:=h1.push (baO []) } rfl (Nat.zero_le _) (W.frame _ _ _ st fun b _ o e=>old b o e) hS (old _ _ ho1) fun h2 tk2 g2 hk2=>?_
 exact h h2 tk2 g2 fun b o hba e=>hk2 b o (fun q=>ne_of b o e (hwr I _ q)) (fun q=>absurd (Heap.lt_size (g1 _ _ e)) (by refine sE q ?_;exact Nat.lt_irrefl _)) hba (old _ _ (g1 _ _ e))
end
end
section
noncomputable def Src (prog:Program) (w:World) (A:Around) (v:Value) (h:Heap) (xs:List Value):Prop :=
 ∀ (s:Shared) (Q:Value->Shared->Prop) (E:Value->Shared->Prop),s.heap=h ->
  (∀ h' I tk (fp wr:List Addr) (St:Nat->Heap->Prop),h.get? I=none->Grows h h'->I<h'.objs.size->Walks prog w A I fp wr xs.length (fun i u=>tk0 u=xs.getD i .none) St->St 0 h'->(∀ i h,St i h->∀ b∈fp,∃ o,h.get? b=some o) ->
   (∀ b∈fp,b=I∨v=.ref b)->(∀ b∈wr,b=I)->Q (.ref I) { s with heap:=h',toks:=tk })->wpAny (model prog w) A (pyIter v) Q E s
section
variable {prog:Program} {w:World} {A:Around} {h:Heap}
theorem YZg (h:Heap):h.get? h.objs.size=none:=by
 cases e:h.get? h.objs.size with
 | none=>rfl
 | some o=>exact absurd (Heap.lt_size e) (Nat.lt_irrefl _)
theorem Walks.weak {I:Addr} {fp wr:List Addr} {n n':Nat} {P P':Nat->Value->Prop} {St:Nat->Heap->Prop} (W:Walks prog w A I fp wr n P St) (hn:n=n') (hP:∀ i v,i<n->P i v->P' i v):Walks prog w A I fp wr n' P' St where
 sub:=W.sub
 frame:=W.frame
 item:=fun i s Q E hi st k=>W.item i s Q E (hn▸hi) st fun v h' tk p st' hk=>k v h' tk (hP i v (hn▸hi) p) st' hk
 done:=fun s Q E st k=>W.done s Q E (hn▸st) k
 self:=W.self
noncomputable def LsAt (h:Heap) (a:Addr) (cs:List Value):Prop:=∃ vs:List Value,h.PlainList a vs.toArray/\vs.map tk0=cs
noncomputable def TpAt (h:Heap) (a:Addr) (cs:List Value):Prop:=∃ vs:List Value,h.IsTuple a vs.toArray/\vs.map tk0=cs
theorem LsAt.grow {h h':Heap} {a:Addr} {cs:List Value} (g:Grows h h') (x:LsAt h a cs):LsAt h' a cs:=J0 x fun vs z01 e=>Jb z01 fun n ho=>⟨vs,⟨n,g _ _ ho⟩,e⟩
theorem TpAt.grow {h h':Heap} {a:Addr} {cs:List Value} (g:Grows h h') (x:TpAt h a cs):TpAt h' a cs:=J0 x fun vs z01 e=>J0 z01 fun o ho r=>⟨vs,⟨o,g _ _ ho,r⟩,e⟩
theorem LsAt.sf {W:List Addr} {a:Addr} {cs:List Value} (ha:a∉W):Sf W (fun h=>LsAt h a cs):=fun h h' k x=>J0 x fun vs z01 e=>Jb z01 fun n ho=>⟨vs,⟨n,k _ _ ha ho⟩,e⟩
theorem TpAt.sf {W:List Addr} {a:Addr} {cs:List Value} (ha:a∉W):Sf W (fun h=>TpAt h a cs):=fun h h' k x=>J0 x fun vs z01 e=>J0 z01 fun o ho r=>⟨vs,⟨o,k _ _ ha ho,r⟩,e⟩
theorem VZ8 (vs:List Value) {i:Nat} {v:Value} (h:vs.toArray[i]?=some v):tk0 v=(vs.map tk0).getD i .none:=by
 have h':vs[i]?=some v:=by simpa using h
 refine sE List.getD_eq_getElem?_getD (sE List.getElem?_map (sE h' ?_));rfl
theorem Src.list (hh:A.handled=none) {a:Addr} {cs:List Value} (x:LsAt h a cs):Src prog w A (.ref a) h cs:=by
 refine J0 x ?_;clear x;rintro vs hlp rfl
 have hl:=hlp.isList
 intro s Q E e k
 subst e
 have ha:=hl
 refine J0 ha fun o ho _=>?_;clear ha
 have lt:=Heap.lt_size ho
 refine wpAny_pyIter_list hl ?_
 refine k _ _ s.toks _ _ _ (YZg _) (Grows.push _ _) (by refine sE (Heap.size_push ..) ?_;exact Nat.lt_succ_self _)
  (Walks.weak (Walks.list hh s.heap.objs.size a (Nat.ne_of_lt lt) vs.toArray) (by simp) (fun i v _ p=>VZ8 vs p)) ⟨⟨_,Heap.get?_push_size _ rfl,rfl,rfl⟩,hl.push _⟩ (fun i h st b hb=>by
   rcases mC hb with rfl | hb
   ·obtain ⟨⟨o,ho,_⟩,_⟩:=st;exact ⟨o,ho⟩
   ·refine sE (mS hb) ?_;obtain ⟨_,⟨o,ho,_⟩⟩:=st;exact ⟨o,ho⟩) ?_ ?_
 ·intro b hb
  rcases mC hb with rfl | hb
  ·exact .inl rfl
  ·exact .inr (by exact sE (mS hb) rfl)
 ·intro b hb;exact mS hb
theorem Src.tuple (hh:A.handled=none) {a:Addr} {cs:List Value} (x:TpAt h a cs):Src prog w A (.ref a) h cs:=by
 refine J0 x ?_;clear x;rintro vs hl rfl
 intro s Q E e k
 subst e
 have ha:=hl
 refine J0 ha fun o ho _=>?_;clear ha
 have lt:=Heap.lt_size ho
 refine wpAny_pyIter_tuple hl ?_
 refine k _ _ s.toks _ _ _ (YZg _) (Grows.push _ _) (by refine sE (Heap.size_push ..) ?_;exact Nat.lt_succ_self _)
  (Walks.weak (Walks.tuple hh s.heap.objs.size a (Nat.ne_of_lt lt) vs.toArray) (by simp) (fun i v _ p=>VZ8 vs p)) ⟨⟨_,Heap.get?_push_size _ rfl,rfl,rfl⟩,hl.push _⟩ (fun i h st b hb=>by
   rcases mC hb with rfl | hb
   ·obtain ⟨⟨o,ho,_⟩,_⟩:=st;exact ⟨o,ho⟩
   ·refine sE (mS hb) ?_;obtain ⟨_,⟨o,ho,_⟩⟩:=st;exact ⟨o,ho⟩) ?_ ?_
 ·intro b hb
  rcases mC hb with rfl | hb
  ·exact .inl rfl
  ·exact .inr (by exact sE (mS hb) rfl)
 ·intro b hb;exact mS hb
theorem Src.bytes (hh:A.handled=none) {ks:List Int} {t:Tok} (hk:InB ks):Src prog w A (.bytes (bA ks) t) h (ks.map I):=by
 intro s Q E e k
 subst e
 refine KBw.pyIter_bytes ?_
 refine k _ _ s.toks _ _ _ (YZg _) (Grows.push _ _) (by refine sE (Heap.size_push ..) ?_;exact Nat.lt_succ_self _)
  (Walks.weak (KBw.walks hh s.heap.objs.size (bA ks) t) (by simp [XZx]) (fun i v hi p=>?_)) ⟨_,Heap.get?_push_size _ rfl,rfl,rfl⟩ (fun i h st b hb=>by refine sE (mS hb) ?_;refine J0 st fun o ho _=>?_;clear st;exact ⟨o,ho⟩) (fun b hb=>.inl (mS hb)) (fun b hb=>mS hb)
 refine J2 p ?_;clear p;rintro c u hc rfl
 rw [XZx] at hi
 rw [NZx hi] at hc
 cases hc
 have:=XZ4 (hk.getD i)
 show Value.int _ 0=_
 refine sE this (sE List.getD_eq_getElem?_getD (sE List.getD_eq_getElem?_getD (sE List.getElem?_map (sE (List.getElem?_eq_getElem hi) ?_))))
 rfl
end
section
variable {prog:Program} {w:World} {A:Around} {env:Env}
theorem HZ8 {R:Result->Shared->Prop} {s:Shared} (h:R (.ok .next) s):YZ7 (model prog w) A (.block [] env) R s:=by
 refine YZm ?_
 show wpC _ _ (do return Fin.done (<- (execs [] env).onRaise _)) _ _ s
 exact YZa (YZ1 (YZb (wpAny_execs_nil (YZc h))))
end
end
section
section
variable {prog:Program} {w:World} {A:Around} {env:Env} {K:Frag} {h₀:Heap} {μ:Str->Option Value} {P:HP} {rest body:List Stmt} {N:HP} {Rt X:Value->HP} {x:Str} {pos p1:Pos} {iter:PySem.Expr} {V:Value->HP} {xs:List Value} {W:List Addr}
theorem NZv {M:Model} {c:Code} {Q:Flow->Shared->Prop} {E:Value->Shared->Prop} {s:Shared} (h:YZ7 M A c (fun r s'=>match r with | .ok f=>Q f s' | .error e=>False) s):wpC M A (runOwn c env) Q E s:=by
 unfold runOwn
 refine YZ1 (YZf (E:=fun _ _=>False) (BZg ?_) (fun _ _ q=>q) fun _ _ q=>q.elim)
 refine GZa h fun r s' q=>?_
 cases r <;> exact q
theorem c_For {target:PySem.Expr} {Q:Flow->Shared->Prop} {E:Value->Shared->Prop} {s:Shared}
  (h:wpC (model prog w) A (eval iter env) (fun v s₁=>wpC (model prog w) A (pyIter v) (fun it s₂=>YZ7 (model prog w) A (.forLoop target it body [] env) (fun r s'=>match r with | .ok f=>Q f s' | .error e=>False) s₂) E s₁) E s)
  (hs:∀ v,foldedSetIterable iter env v=pure v):wpC (model prog w) A (exec (.For target iter body [] pos) env) Q E s:=by
 show wpC _ _ (do
  standAt pos
  let x <- foldedSetIterable iter env (<- eval iter env)
  standAt iter.pos
  runOwn (.forLoop target (<- holding [x] (pyIter x)) body [] env) env) _ _ _
 refine YZa (YZd (YZa (YZf h (fun v s₁ h₁=>?_) fun _ _ q=>q)))
 refine YZa ?_
 refine sE (hs v) ?_
 refine YZc (YZa (YZd (YZa (YZe (YZf h₁ (fun it s₂ h₂=>NZv h₂) fun _ _ q=>q)))))
theorem Sf.mono {W W':List Addr} {R:HP} (x:Sf W R) (h:∀ b∈W',b∈W):Sf W' R:=fun h1 h2 k r=>x h1 h2 (fun b o hb e=>k b o (fun q=>hb (h b q)) e) r
theorem Lo.sf {W:List Addr} (hl:env.locals∉W) (hc:∀ y c,env.cells.lookup y=some c->c∉W) (h0:∀ b∈W,h₀.get? b=none):Sf W (Lo env h₀ μ):=fun h h' k l=>by
 refine J1 l fun m F a b=>?_;clear l
 refine ⟨m,⟨F.ns.at' fun o e=>k _ _ hl e,fun d o e=>k d o (fun q=>by rw [h0 d q] at e;cases e) (F.keep d o e),F.above⟩,a,fun y c e=>?_⟩
 refine J0 (b y c e) fun v z01 hv=>?_;refine J0 z01 fun o ho hd=>?_;clear z01
 exact ⟨v,⟨o,k _ _ (hc y c e) ho,hd⟩,hv⟩
theorem Lo.cell_in {h:Heap} (l:Lo env h₀ μ h) {y:Str} {c:Addr} (e:env.cells.lookup y=some c):∃ o,h.get? c=some o:=by
 refine J1 l fun m F a b=>?_;clear l
 refine J0 (b y c e) fun v z01 _=>?_;refine J0 z01 fun o ho _=>?_;clear z01
 exact ⟨o,ho⟩
theorem Lo.loc_in {h:Heap} (l:Lo env h₀ μ h):∃ o,h.get? env.locals=some o:=by
 refine J1 l fun m F a b=>?_;clear l
 refine Jp F.ns fun o es ep ho _=>?_
 exact ⟨o,ho⟩
theorem BZj {u u':Option Value}:upo (upo μ x u) x u'=upo μ x u':=by
 funext y
 by_cases e:y=x
 ·subst e;exact sE VZa (sE VZa rfl)
 ·exact sE (GZg e) (sE (GZg e) (sE (GZg e) rfl))
theorem Tr.bindName {R:HP} {v:Value} {u:Option Value} (F:Fx K env h₀) (hcl:Cl env) (hR:Sf [env.locals] R) (hx:env.kindOf x=some .local) :
  Tr (model prog w) A (Pc env h₀ (upo μ x u) R) (assign (.Name x p1) env v) (fun _ h=>Pc env h₀ (up μ x (tk0 v)) R h):=fun s Q E p k=>by
 obtain ⟨⟨m,Fm,a,b⟩,r⟩:=p
 show wpC _ _ (do standAt p1;PySem.bindName env x v) _ _ _
 refine YZa (YZd (XZm (YZb (wpAny_storeName_local hx Fm.ns (fun h'' hn hs'=>?_) (by refine sE F.fn ?_;rfl)))))
 have l:=Lo.store Fm a b hx hcl hn hs'
 rw [up,BZj] at l
 exact k () h'' _ ⟨l,hR _ _ (fun b o hb e=>(hs'.2 b fun q=>hb (q▸List.mem_singleton_self _)).trans e) r⟩
noncomputable def New (P:HP) (a:Addr):Prop:=∃ h,P h/\h.get? a=none
theorem New.ne_loc {R:HP} {a:Addr} (n:New (Pc env h₀ μ R) a):env.locals≠a:=fun q=>by
 refine J0 n fun h p e=>?_;clear n
 obtain ⟨o,ho⟩:=p.1.loc_in
 rw [q,e] at ho;cases ho
theorem New.ne_cell {R:HP} {a:Addr} (n:New (Pc env h₀ μ R) a) {y:Str} {c:Addr} (hc:env.cells.lookup y=some c):c≠a:=fun q=>by
 refine J0 n fun h p e=>?_;clear n
 obtain ⟨o,ho⟩:=p.1.cell_in hc
 rw [q,e] at ho;cases ho
theorem New.old {R:HP} {a:Addr} (n:New (Pc env h₀ μ R) a):h₀.get? a=none:=by
 refine J0 n fun h p e=>?_;clear n
 cases q:h₀.get? a with
 | none=>rfl
 | some o=>rw [p.1.keep _ _ q] at e;cases e
theorem New.sf {μ':Str->Option Value} {R:HP} {a:Addr} (n:New (Pc env h₀ μ R) a):Sf [a] (Lo env h₀ μ') :=
 Lo.sf (fun q=>n.ne_loc (mS q)) (fun y c e q=>n.ne_cell e (mS q)) (fun b hb=>by refine sE (mS hb) ?_;exact n.old)
end
end
section
theorem NZw {ks:List Int} (h:InB ks):KBw.bInts (bA ks)=ks:=by
 show ((ks.map fun n=>n.toNat.toUInt8).map fun c=>((c.toNat:Nat):Int))=ks
 refine sE List.map_map ?_
 exact (List.map_congr_left (g:=_root_.id) fun k hk=>XZ4 (h k hk)).trans (List.map_id _)
theorem bA_of {b:Array UInt8} {ks:List Int} (h:KBw.bInts b=ks):b=bA ks:=by
 subst h
 apply Array.ext'
 show b.toList=((b.toList.map fun c=>((c.toNat:Nat):Int)).map fun n=>n.toNat.toUInt8)
 refine sE List.map_map ?_
 refine ((List.map_congr_left (g:=_root_.id) fun c _=>?_).trans (List.map_id _)).symm
 show ((c.toNat:Int).toNat.toUInt8)=c
 refine sE (Int.toNat_natCast ..) ?_
 exact UInt8.ofNat_toNat
noncomputable def slb (ks:List Int) (a:Int) (b:Option Int):List Int:=match b with
 | none=>ks.drop a.toNat
 | some b=>(ks.drop a.toNat).take (b.toNat-a.toNat)
section
variable {prog:Program} {w:World} {A:Around} {env:Env} {P:HP} {pos p1:Pos} {e l r value slice:PySem.Expr} {es:List PySem.Expr} {cs:List Value} {ks ls:List Int} {k:Int} {E:Value->Shared->Prop} {s:Shared} {M:Model} {K:Frag} {h₀:Heap} {μ:Str->Option Value}
theorem YZ2 {Q:Value->Shared->Prop} (h:wpC M A (eval value env) (fun o s₁=>wpC M A (eval slice env) (fun i s₂=>wpC M A (subscriptTail value slice o i) Q E s₂) E s₁) E s):wpC M A (eval (.Subscript value slice pos) env) Q E s:=by
 refine sE (eval_Subscript ..) ?_
 exact YZa (YZf h (fun o s₁ h₁=>YZa (YZe (YZf h₁ (fun i s₂ h₂=>YZa (YZd h₂)) fun _ _ x=>x))) fun _ _ x=>x)
theorem Ev.itemB (hb:InB ks) (hz:ks.length<=16777216) (hk0:0<=k) (hk1:k<ks.length) (hv:Ev (model prog w) A env P value (By ks)) (hi:Ev (model prog w) A env P slice (I k))
  (hs:autoParam (∀ b t u,subscripted slice false (.bytes b t) (.int k u)=operate [.bytes b t,.int k u] (getItem (.bytes b t) (.int k u))) tX)
  (ht:autoParam (∀ b t r,letTemporaryGo value (.bytes b t) r=pure ()) tX):Ev (model prog w) A env P (.Subscript value slice pos) (I (ks.getD k.toNat 0)):=fun s Q E p kk=>by
 refine YZ2 (hv s _ E p fun v h1 tk1 x=>hi _ _ E x.2 fun u h2 tk2 y=>?_)
 refine tkB x.1 fun t=>?_
 refine tkI y.1 fun t2=>?_
 exact YZb (KBw.item_K (NZw hb) (by exact tdN) hk0 hk1 (fun t' k' _ _=>kk _ _ _ ⟨rfl,y.2⟩) (hs _ _ _) (ht _ _))
theorem Ev.lenB (C:Cx K env h₀ μ P) (hz:ks.length<=16777216) (hf:Ev (model prog w) A env P (.Name "len" p1) (.builtin "len")) (h:Ev (model prog w) A env P e (By ks))
  (he2:autoParam (starEach [e] env=(false,eval e env)::starEach [] env) tR) (hpl:autoParam ((backTo pos (starEach [e] env)).any (·.1)=false) tR):Ev (model prog w) A env P (.Call (.Name "len" p1) [e] [] pos) (I (ks.length:Int)) :=
 Ev.callB hf (Evs.cons h Evs.nil he2) (fun s Q E vs p hv kk=>by
  refine J0 (tk1 hv) ?_;rintro v rfl e1
  refine tkB e1 fun t=>?_
  exact YZb (len_bytes (by refine sE (XZx ..) ?_;exact tdN) (by refine sE (XZx ..) ?_;exact kk _ s.heap _ rfl (Grows.refl _)))) C.grow rfl he2 hpl
theorem Ev.addB (hz:ks.length+ls.length<=16777216) (hl:Ev (model prog w) A env P l (By ks)) (hr:Ev (model prog w) A env P r (By ls)):Ev (model prog w) A env P (.BinOp l .Add r pos) (By (ks++ls)) :=
 hl.bin hr fun s Q E v u ha hb h=>by
  refine tkB ha fun _=>?_;refine tkB hb fun _=>?_
  exact YZb (KBy.add_bytes (by refine sE (XZx ..) (sE (XZx ..) ?_);exact hz) fun t' k=>by refine sE (bA_app ..) ?_;exact h _ _ rfl)
theorem Cm.neB (hk:InB ks) (hl:InB ls):Cm prog w A .NotEq (By ks) (By ls) (decide (ks≠ls)):=fun s Q E v u ha hb h=>by
 refine tkB ha fun _=>?_;refine tkB hb fun _=>?_
 refine YZb (ne_bytes ?_)
 have e:((bA ks).toList != (bA ls).toList)=decide (ks≠ls):=by
  by_cases q:ks=ls
  ·subst q;simp
  ·have:(bA ks)≠(bA ls):=fun e=>q (bA_inj hk hl e)
   simp [q,this]
 refine sE e ?_;exact h _ _ rfl
theorem Ev.cbytes {b:List UInt8} {n:Nat} (hb:b=ks.map fun n=>n.toNat.toUInt8):Ev (model prog w) A env P (.Constant (.bytes b) n pos) (By ks):=fun s _ _ p h=>by
 subst hb
 exact YZb (Constant_bytes (h _ s.heap _ ⟨rfl,p⟩))
noncomputable def EvO (M:Model) (A:Around) (env:Env) (P:HP) (e:Option PySem.Expr) (c:Option Int):Prop:=Tr M A P (valueOrNone (evalOpt e env)) (fun v h=>tk0 v=c.elim .none I/\P h)
theorem EvO.no:EvO (model prog w) A env P none none:=fun s Q E p k=>YZc (k .none s.heap s.toks ⟨rfl,p⟩)
theorem EvO.yes (h:Ev (model prog w) A env P e (I k)):EvO (model prog w) A env P (some e) (some k):=h
theorem IsPart.of {v:Value} {c:Option Int} (h:tk0 v=c.elim .none I):IsPart v c:=by
 cases c with
 | none=>refine sE (UZj h) ?_;exact IsPart.none
 | some i=>refine tkI h fun t=>?_;exact IsPart.int i t
end
end
section
noncomputable def slZ (ks:List Int) (lo hi:Option Int):List Int:=(ks.drop (lo.elim 0 (clipAt ks.length))).take (hi.elim ks.length (clipAt ks.length)-lo.elim 0 (clipAt ks.length))
theorem slZ_le (ks:List Int) (lo hi:Option Int):(slZ ks lo hi).length<=ks.length:=by
 unfold slZ;refine sE List.length_take (sE List.length_drop ?_);exact Nat.le_trans (Nat.min_le_right ..) (Nat.sub_le ..)
theorem GZx {n:Nat} {a:Int} (h:0<=a):clipAt n a=min a.toNat n:=by
 obtain ⟨k,rfl⟩:=Int.eq_ofNat_of_zero_le h
 exact KBc.clip_lit n k
theorem VZ5 {ks:List Int} {a b:Int} (h0:0<=a) (h1:0<=b):slZ ks (some a) (some b)=(ks.drop a.toNat).take (b.toNat-a.toNat):=by
 unfold slZ
 simp only [Option.elim,GZx h0,GZx h1]
 by_cases h:a.toNat<=ks.length
 ·refine sE (Nat.min_eq_left h) ?_
  by_cases h2:b.toNat<=ks.length
  ·exact sE (Nat.min_eq_left h2) rfl
  ·refine sE (Nat.min_eq_right (by lia)) ?_
   exact sE (List.take_of_length_le (by simp)) (sE (List.take_of_length_le (by simp;lia)) rfl)
 ·have e1:ks.drop (min a.toNat ks.length)=[]:=List.drop_eq_nil_of_le (by omega)
  have e2:ks.drop a.toNat=[]:=List.drop_eq_nil_of_le (by lia)
  refine sE e1 (sE e2 ?_);simp
theorem DZi {ks:List Int} {a:Int} (h0:0<=a):slZ ks (some a) none=ks.drop a.toNat:=by
 unfold slZ
 simp only [Option.elim,GZx h0]
 by_cases h:a.toNat<=ks.length
 ·refine sE (Nat.min_eq_left h) ?_;exact List.take_of_length_le (by simp)
 ·have e1:ks.drop (min a.toNat ks.length)=[]:=List.drop_eq_nil_of_le (by omega)
  have e2:ks.drop a.toNat=[]:=List.drop_eq_nil_of_le (by lia)
  refine sE e1 (sE e2 ?_);simp
theorem NZf {ks:List Int} {b:Int} (h1:0<=b):slZ ks none (some b)=ks.take b.toNat:=by
 unfold slZ
 simp only [Option.elim,GZx h1,List.drop_zero,Nat.sub_zero]
 by_cases h:b.toNat<=ks.length
 ·exact sE (Nat.min_eq_left h) rfl
 ·exact sE (Nat.min_eq_right (by lia)) (sE (List.take_of_length_le (Nat.le_refl _)) (sE (List.take_of_length_le (by lia)) rfl))
theorem InB.drop {ks:List Int} (h:InB ks) (n:Nat):InB (ks.drop n):=fun k hk=>h k (List.mem_of_mem_drop hk)
theorem InB.take {ks:List Int} (h:InB ks) (n:Nat):InB (ks.take n):=fun k hk=>h k (List.mem_of_mem_take hk)
theorem InB.sl {ks:List Int} (h:InB ks) (lo hi:Option Int):InB (slZ ks lo hi):=(h.drop _).take _
section
variable {prog:Program} {w:World} {A:Around} {env:Env} {P:HP} {pos p1 p2:Pos} {e l r value slice:PySem.Expr} {es:List PySem.Expr} {c:Value} {cs:List Value} {ks ls:List Int} {k:Int} {E:Value->Shared->Prop} {s:Shared} {M:Model} {K:Frag} {h₀:Heap} {μ:Str->Option Value} {lo hi:Option Int} {lower upper:Option PySem.Expr}
theorem Ev.sliceB (C:Cx K env h₀ μ P) (hb:InB ks) (hz:ks.length<=16777216) (hv:Ev (model prog w) A env P value (By ks)) (hl:EvO (model prog w) A env P lower lo) (hu:EvO (model prog w) A env P upper hi)
  (hs:autoParam (∀ b t a,subscripted (.Slice lower upper none p1) false (.bytes b t) (.ref a)=operate [.ref a,.bytes b t] (getItem (.bytes b t) (.ref a))) tX)
  (ht:autoParam (∀ b t r,letTemporaryGo value (.bytes b t) r=pure ()) tX):Ev (model prog w) A env P (.Subscript value (.Slice lower upper none p1) pos) (By (slZ ks lo hi)):=fun s Q E p kk=>by
 refine YZ2 (hv s _ E p fun v h1 tk1 x=>?_)
 refine sE (arm_eval_Slice ..) ?_
 refine YZa (hl _ _ E x.2 fun u h2 tk2 y=>YZa (YZe (hu _ _ E y.2 fun u2 h3 tk3 z=>?_)))
 refine YZa (YZe (YZc (YZb (wpAny_newObj_type ?_ (by size_fits)))))
 refine tkB x.1 fun t=>?_
 refine YZb (tail_of_ItemOn ⟨"bytes", _,FB.slot_bytes_getitem.lookup,typeIs_bytes _ _ _,getItem_meets (typeIs_bytes _ _ _) (by decide) FB.slot_bytes_getitem FB.entry_bytes_getitem (FB.args_bytes_getitem_2 _ _) (KBc.meets_slice2 (bA ks) t _ (IsPart.of y.1) (IsPart.of z.1))
  ⟨Heap.IsSliceOf.new _ _ _ _,Nat.le_trans (KBc.size_picked_le _ lo hi) (by refine sE (XZx ..) (sE sizeLine_eq ?_);exact hz),fun t' k=>?_⟩⟩ (hs _ _ _) (ht _ _))
 refine kk _ _ _ ⟨?_,C.grow _ _ (Grows.push _ _) z.2⟩
 have e:=KBc.ints_picked (NZw hb) lo hi
 refine sE (bA_of e) ?_;rfl
theorem Ev.list0 (he:∀ h h',Grows h h'->P h->P h') (hs:Evs (model prog w) A env P pos es cs) (hn:autoParam (cs.length<=sizeLine) tD) :
  EvP (model prog w) A env P (.List es pos) (fun v h=>∃ a,v=.ref a/\New P a/\LsAt h a cs):=fun s Q E p kk=>by
 refine sE (arm_eval_List ..) ?_
 refine YZa (YZd (YZa (hs _ _ E p fun vs h1 tk1 x=>YZb (wpAny_newList ?_ ?_))))
 ·exact kk _ _ _ ⟨⟨_,rfl,⟨h1,x.2,YZg _⟩,vs,⟨_,Heap.get?_push_size _ rfl⟩,x.1⟩,he _ _ (Grows.push _ _) x.2⟩
 ·rw [<- x.1,List.length_map] at hn;exact hn
theorem Ev.tup0 {kx:_} (he:∀ h h',Grows h h'->P h->P h') (hs:Evs (model prog w) A env P pos es cs) (hn:autoParam (cs.length<=sizeLine) tD) :
  EvP (model prog w) A env P (.Tuple es kx pos) (fun v h=>∃ a,v=.ref a/\New P a/\TpAt h a cs):=fun s Q E p kk=>by
 refine sE (arm_eval_Tuple ..) ?_
 refine YZa (YZd (YZa (hs _ _ E p fun vs h1 tk1 x=>YZb (wpAny_newTuple ?_ ?_))))
 ·exact kk _ _ _ ⟨⟨_,rfl,⟨h1,x.2,YZg _⟩,vs,⟨_,Heap.get?_push_size _ rfl,rfl,_,rfl⟩,x.1⟩,he _ _ (Grows.push _ _) x.2⟩
 ·rw [<- x.1,List.length_map] at hn;exact hn
theorem XZr {Q:Value->Shared->Prop} {id:String} {first:List Value} {args:List (Bool×Sem Value)} (hplain:args.any (·.1)=false)
  (h:wpC M A (evalArgs (.type id) true args []) (fun a s₁=>wpC M A (PySem.call (.type id) (first++a.pos) a.kw) Q E s₁) E s):wpC M A (callWith pos (.type id) first args []) Q E s:=by
 unfold callWith
 refine YZa (YZe (YZf h (fun a s₁ h₁=>YZa (YZd ?_)) fun _ _ x=>x))
 simp only [hplain,List.any_nil,Bool.or_false]
 exact YZa (YZc (VZm h₁))
theorem EvP.callT {fx:Str} {fp:Pos} {id:String} {V:Value->HP} (hf:Ev (model prog w) A env P (.Name fx fp) (.type id)) (ha:Evs (model prog w) A env P pos (e::es) cs)
  (ho:∀ (s:Shared) (Q:Value->Shared->Prop) E vs,P s.heap->vs.map tk0=cs->(∀ x h' tk,V (tk0 x) h'->P h'->Q x { s with heap:=h',toks:=tk })->wpC (model prog w) A (PySem.call (.type id) vs) Q E s)
  (he:autoParam (eval (.Call (.Name fx fp) (e::es) [] pos) env=(do let f <- eval (.Name fx fp) env;callWith pos f [] (backTo pos (starEach (e::es) env)) [])) tR)
  (he2:autoParam (starEach (e::es) env=(false,eval e env)::starEach es env) tR) (hpl:autoParam ((backTo pos (starEach (e::es) env)).any (·.1)=false) tR):EvP (model prog w) A env P (.Call (.Name fx fp) (e::es) [] pos) V:=fun s Q E p k=>by
 refine YZx (hf s _ E p fun v h1 tk1 x=>?_) he
 refine sE (DZg x.1) ?_
 refine XZr hpl ?_
 have ha':=ha { s with heap:=h1,toks:=tk1 } (fun vs s₂=>wpC (model prog w) A (PySem.call (.type id) ([]++vs) []) Q E s₂) E x.2 ?_
 ·rw [he2] at ha' ⊢
  exact YZ6 ha'
 ·intro vs h2 tk2 y
  exact ho _ _ _ vs y.2 y.1 fun v h3 tk3 e g=>k v h3 tk3 ⟨e,g⟩
theorem EvP.callT0 {fx:Str} {fp:Pos} {id:String} {V:Value->HP} (hf:Ev (model prog w) A env P (.Name fx fp) (.type id))
  (ho:∀ (s:Shared) (Q:Value->Shared->Prop) E,P s.heap->(∀ x h' tk,V (tk0 x) h'->P h'->Q x { s with heap:=h',toks:=tk })->wpC (model prog w) A (PySem.call (.type id) []) Q E s)
  (he:autoParam (eval (.Call (.Name fx fp) [] [] pos) env=(do let f <- eval (.Name fx fp) env;callWith pos f [] (backTo pos (starEach [] env)) [])) tR):EvP (model prog w) A env P (.Call (.Name fx fp) [] [] pos) V:=fun s Q E p k=>by
 refine YZx (hf s _ E p fun v h1 tk1 x=>?_) he
 refine sE (DZg x.1) ?_
 refine XZr rfl (YZb (evalArgs_nil3 ?_))
 exact ho _ _ _ x.2 fun v h3 tk3 e g=>k v h3 tk3 ⟨e,g⟩
theorem Tr.method {o:PySem.Expr} {name:Str} {apos:Pos} {id:String} {V:Value->HP} (hb:Ev (model prog w) A env P o c) (ha:Evs (model prog w) A env P pos (e::es) cs)
  (hm:∀ (s:Shared) (pl:Sem Bool) (Q:Value×List Value->Shared->Prop) E ov,P s.heap->tk0 ov=c->Q (.builtin id,[ov]) s->wpAny (model prog w) A (getMethod ov name pl) Q E s)
  (hc:∀ (s:Shared) (Q:Value->Shared->Prop) E ov vs,P s.heap->tk0 ov=c->vs.map tk0=cs->(∀ x h' tk,V x h'->Q x { s with heap:=h',toks:=tk })->wpC (model prog w) A (PySem.call (.builtin id) (ov::vs)) Q E s)
  (hbase:autoParam (attributeBase o name env (eval o env)=eval o env) tR) (hline:autoParam ((apos.endLine==pos.line)=true) tR) (hfew:autoParam (methodCallForm ((e::es).length+([]:List Keyword).length) (backTo pos (starEach (e::es) env)) (backToKw pos (keywordEach [] env))=true) tR)
  (he2:autoParam (starEach (e::es) env=(false,eval e env)::starEach es env) tR) (hpl:autoParam ((backTo pos (starEach (e::es) env)).any (·.1)=false) tR) :
  Tr (model prog w) A P (eval (.Call (.Attribute o name apos) (e::es) [] pos) env) V:=fun s Q E p k=>by
 refine sE (arm_eval_Call ..) (sE hbase ?_)
 refine YZa (hb s _ E p fun ov h1 tk1 x=>?_)
 refine YZa (YZd ?_)
 unfold methodCall
 refine sE hfew ?_
 refine YZa (YZe (YZb (hm { s with heap:=h1,toks:=tk1 } _ _ _ ov x.2 x.1 ?_)))
 have hpos:methodCallPos true o env apos pos=Pure.pure pos:=by unfold methodCallPos;simp [hline]
 refine YZa (YZb (wpAny_of_eq hpos ?_))
 refine XZa hpl ?_
 have ha':=ha { s with heap:=h1,toks:=tk1 } (fun vs s₂=>wpC (model prog w) A (PySem.call (.builtin id) ([ov]++vs) []) Q E s₂) E x.2 ?_
 ·rw [he2] at ha' ⊢
  exact YZ6 ha'
 ·intro vs h2 tk2 y
  exact hc _ _ _ ov vs y.2 x.1 y.1 fun v h3 tk3 e=>k v h3 tk3 e
end
section
variable {prog:Program} {w:World} {A:Around} {env:Env} {P:HP} {pos p1 p2:Pos} {e t:PySem.Expr} {es:List PySem.Expr} {c:Value} {cs:List Value} {ks ls:List Int} {k:Int} {K:Frag} {h₀:Heap} {μ:Str->Option Value} {rest:List Stmt} {N:HP} {Rt X:Value->HP} {R:HP} {x:Str} {W:List Addr} {a:Addr}
theorem Xs.expr {N1:HP} (he:Tr (model prog w) A P (eval e env) (fun v h=>(∀ a,v≠.ref a)/\N1 h)) (hr:Xs (model prog w) A env N1 rest N Rt X)
  (hi:autoParam (interactive env=false) tR) (hs:autoParam (swapsWith e none pos.line env=pure false) tR):Xs (model prog w) A env P (.Expr e pos::rest) N Rt X:=fun s Q E p k1 k2 k3=>by
 refine YZk ?_
 refine sE (arm_exec_Expr ..) (sE hi (sE hs ?_))
 refine YZa (YZd ?_)
 show wpC _ _ (eval e env >>= fun v=>dropValue e pos v) _ _ _
 refine YZa (he s _ E p fun v h' tk y=>?_)
 refine sE (dropValue_plain y.1) ?_
 exact YZc (hr _ Q E y.2 k1 k2 k3)
theorem Xs.expr' {N1:HP} (he:Tr (model prog w) A P (eval e env) (fun v h=>N1 h)) (hr:Xs (model prog w) A env N1 rest N Rt X)
  (hi:autoParam (interactive env=false) tR) (hs:autoParam (swapsWith e none pos.line env=pure false) tR):Xs (model prog w) A env P (.Expr e pos::rest) N Rt X:=fun s Q E p k1 k2 k3=>by
 refine YZk ?_
 refine sE (arm_exec_Expr ..) (sE hi (sE hs ?_))
 refine YZa (YZd ?_)
 show wpC _ _ (eval e env >>= fun v=>dropValue e pos v) _ _ _
 refine YZa (he s _ E p fun v h' tk y=>?_)
 exact YZb (wpAny_dropValue (hr _ Q E y k1 k2 k3))
theorem Xs.assignN {G:Addr->HP} (F:Fx K env h₀) (hcl:Cl env) (hR:Sf [env.locals] R) (he:EvP (model prog w) A env (Pc env h₀ μ R) e (fun v h=>∃ a,v=.ref a/\New (Pc env h₀ μ R) a/\G a h)) (hG:∀ a,New (Pc env h₀ μ R) a->Sf [env.locals] (G a))
  (hr:∀ a,New (Pc env h₀ μ R) a->Xs (model prog w) A env (Pc env h₀ (up μ x (.ref a)) (fun h=>G a h/\R h)) rest N Rt X)
  (hx:autoParam (env.kindOf x=some .local) tR) (hs:autoParam (swapsWith e (some (.Name x p1)) pos.line env=pure false) tR):Xs (model prog w) A env (Pc env h₀ μ R) (.Assign [.Name x p1] e pos::rest) N Rt X:=by
 refine Xs.assign F hcl (W:=[env.locals]) (List.mem_singleton_self _) hR (fun c=>?_) he (fun c=>?_) hx hs
 ·intro h h' kk q
  refine J1 q fun a e n g=>?_;clear q
  exact ⟨a,e,n,hG a n _ _ kk g⟩
 ·intro s Q E p k1 k2 k3
  refine J3 p fun p1 z01 r=>?_;clear p;refine J1 z01 ?_;clear z01;rintro a rfl n g
  exact hr a n s Q E ⟨p1,g,r⟩ k1 k2 k3
noncomputable def Off (env:Env) (h₀:Heap) (a:Addr):Prop:=∀ μ,Sf [a] (Lo env h₀ μ)
theorem New.off {R:HP} (n:New (Pc env h₀ μ R) a):Off env h₀ a:=fun _=>n.sf
theorem Xs.baApp {R':HP} {fp ap:Pos} (F:Fx K env h₀) (hcl:Cl env) (hR:Sf [env.locals] R) (ha:Off env h₀ a) (hv:μ x=some (.ref a)) (hbR:∀ h,R h->h.get? a=some (baO ks)) (hk:0<=k/\k<256) (hz:ks.length<sizeLine)
  (he:Ev (model prog w) A env (Pc env h₀ μ R) e (I k)) (hR':∀ h h',Heap.SameBut a h h'->h'.get? a=some (baO (ks++[k]))->R h->R' h') (hr:Xs (model prog w) A env (Pc env h₀ μ R') rest N Rt X)
  (hx:autoParam (env.kindOf x=some .local) tR) (hd:autoParam ((x==("__debug__" : Str))=false) tD) (hi:autoParam (interactive env=false) tR) (hs:autoParam (swapsWith (.Call (.Attribute (.Name x fp) "append" ap) [e] [] p1) none pos.line env=pure false) tR)
  (hbase:autoParam (attributeBase (.Name x fp) "append" env (eval (.Name x fp) env)=eval (.Name x fp) env) tR) (hline:autoParam ((ap.endLine==p1.line)=true) tR) (hfew:autoParam (methodCallForm ([e].length+([]:List Keyword).length) (backTo p1 (starEach [e] env)) (backToKw p1 (keywordEach [] env))=true) tR)
  (he2:autoParam (starEach [e] env=(false,eval e env)::starEach [] env) tR) (hpl:autoParam ((backTo p1 (starEach [e] env)).any (·.1)=false) tR):Xs (model prog w) A env (Pc env h₀ μ R) (.Expr (.Call (.Attribute (.Name x fp) "append" ap) [e] [] p1) pos::rest) N Rt X:=by
 refine Xs.expr (N1:=Pc env h₀ μ R') (Tr.method (Ev.loc (F.cx hR) hx hv hd) (Evs.cons he Evs.nil he2) (id := "bytearray.append") (fun s pl Q E ov p hov q=>?_) (fun s Q E ov vs p hov hvs kk=>?_) hbase hline hfew he2 hpl) hr hi hs
 ·rw [YZh hov] at q ⊢
  exact VZ4 (hbR _ p.2) BF.slot_append.lookup BF.type_append q
 ·refine sE (YZh hov) ?_
  refine J0 (tk1 hvs) ?_;rintro v rfl e1
  refine tkI e1 fun t=>?_
  refine ba_append (hbR _ p.2) hk hz fun h' g sb=>kk _ h' s.toks ⟨fun _ q=>(by cases q),ha μ _ _ (fun b o hb e=>(sb.2 b fun q=>hb (q▸List.mem_singleton_self _)).trans e) p.1,hR' _ _ sb g p.2⟩
theorem Xs.baExtB {R':HP} {fp ap:Pos} (F:Fx K env h₀) (hcl:Cl env) (hR:Sf [env.locals] R) (ha:Off env h₀ a) (hv:μ x=some (.ref a)) (hbR:∀ h,R h->h.get? a=some (baO ks)) (hz:ks.length+ls.length<=sizeLine)
  (he:Ev (model prog w) A env (Pc env h₀ μ R) e (By ls)) (hR':∀ h h',Heap.SameBut a h h'->h'.get? a=some (baO (ks++ls))->R h->R' h') (hr:Xs (model prog w) A env (Pc env h₀ μ R') rest N Rt X)
  (hx:autoParam (env.kindOf x=some .local) tR) (hd:autoParam ((x==("__debug__" : Str))=false) tD) (hi:autoParam (interactive env=false) tR) (hs:autoParam (swapsWith (.Call (.Attribute (.Name x fp) "extend" ap) [e] [] p1) none pos.line env=pure false) tR)
  (hbase:autoParam (attributeBase (.Name x fp) "extend" env (eval (.Name x fp) env)=eval (.Name x fp) env) tR) (hline:autoParam ((ap.endLine==p1.line)=true) tR) (hfew:autoParam (methodCallForm ([e].length+([]:List Keyword).length) (backTo p1 (starEach [e] env)) (backToKw p1 (keywordEach [] env))=true) tR)
  (he2:autoParam (starEach [e] env=(false,eval e env)::starEach [] env) tR) (hpl:autoParam ((backTo p1 (starEach [e] env)).any (·.1)=false) tR):Xs (model prog w) A env (Pc env h₀ μ R) (.Expr (.Call (.Attribute (.Name x fp) "extend" ap) [e] [] p1) pos::rest) N Rt X:=by
 refine Xs.expr (N1:=Pc env h₀ μ R') (Tr.method (Ev.loc (F.cx hR) hx hv hd) (Evs.cons he Evs.nil he2) (id := "bytearray.extend") (fun s pl Q E ov p hov q=>?_) (fun s Q E ov vs p hov hvs kk=>?_) hbase hline hfew he2 hpl) hr hi hs
 ·rw [YZh hov] at q ⊢
  exact VZ4 (hbR _ p.2) BF.slot_extend.lookup BF.type_extend q
 ·refine sE (YZh hov) ?_
  refine J0 (tk1 hvs) ?_;rintro v rfl e1
  refine tkB e1 fun t=>?_
  refine ba_extendB (hbR _ p.2) hz fun h' g sb=>kk _ h' s.toks ⟨fun _ q=>(by cases q),ha μ _ _ (fun b o hb e=>(sb.2 b fun q=>hb (q▸List.mem_singleton_self _)).trans e) p.1,hR' _ _ sb g p.2⟩
end
end
section
noncomputable def ovr (μ:Str->Option Value):List Str->(Str->Option Value)->Str->Option Value
 | [],_=>μ
 | n::ns,u=>upo (ovr μ ns u) n (u n)
theorem ovr_app (μ u:Str->Option Value) (ex:List Str):∀ ns,ovr μ (ns++ex) u=ovr (ovr μ ex u) ns u
 | []=>rfl
 | n::ns=>by
  show upo (ovr μ (ns++ex) u) n (u n)=upo (ovr (ovr μ ex u) ns u) n (u n)
  exact sE (ovr_app μ u ex ns) rfl
structure Wk (prog:Program) (w:World) (A:Around) (target:PySem.Expr) (It:Addr) (fp wr:List Addr) (n:Nat) (ok:Env->Prop) (ns:List Str) (bd:Nat->(Str->Option Value)->Str->Option Value) (St:Nat->HP):Prop where
 sub:∀ b∈wr,b∈fp
 live:∀ i h,St i h->∀ b∈fp,∃ o,h.get? b=some o
 frame:∀ i h h',St i h->(∀ b∈fp,∀ o,h.get? b=some o->h'.get? b=some o)->St i h'
 over:∀ i μ u,bd i (ovr μ ns u)=bd i μ
 back:∀ i μ,ovr μ ns (bd i μ)=bd i μ
 next:∀ i (s:Shared) E (env:Env) (h₀:Heap) μ (S:HP),i<n->ok env->Cl env->env.scope.kind=.function->env.locals∉fp->St i s.heap->Lo env h₀ μ s.heap->(∀ μ,Sf wr (Lo env h₀ μ))->S s.heap->Sf wr S->Sf [env.locals] S ->
  wpC (model prog w) A (pyNext (.ref It)) (fun r s₁=>∃ v,r=some v/\wpC (model prog w) A (letOwnedTupleGo target (.ref It) v >>= fun _=>assign target env v) (fun _ s₂=>∃ h' tk,s₂={ s with heap:=h',toks:=tk }/\Lo env h₀ (bd i μ) h'/\St (i+1) h'/\S h') E s₁) E s
 done:∀ (s:Shared) E (S:HP),St n s.heap->S s.heap->Sf wr S->wpC (model prog w) A (pyNext (.ref It)) (fun r s₁=>r=none/\∃ h' tk,s₁={ s with heap:=h',toks:=tk }/\S h') E s
theorem Wk.stab {prog:Program} {w:World} {A:Around} {target:PySem.Expr} {It:Addr} {fp wr Wd:List Addr} {n:Nat} {ok:Env->Prop} {ns:List Str} {bd:Nat->(Str->Option Value)->Str->Option Value} {St:Nat->HP}
  (W:Wk prog w A target It fp wr n ok ns bd St) (hfw:∀ b∈fp,b∉Wd) (i:Nat):∀ Wx,(∀ b∈Wx,b∈Wd∨New (St i) b)->Sf Wx (St i):=fun Wx hW h h' k st =>
 W.frame i h h' st fun b hb o e=>k b o (fun q=>(hW b q).elim (hfw b hb) fun n=>by
  refine J0 n fun h1 s1 e1=>?_;clear n
  obtain ⟨o1,ho1⟩:=W.live i h1 s1 b hb
  rw [e1] at ho1;cases ho1) e
section
variable {prog:Program} {w:World} {A:Around} {It:Addr} {fp wr:List Addr} {n:Nat}
theorem Wk.name {x:Str} {p1:Pos} {Pi:Nat->Value->Prop} {St:Nat->HP} {xs:List Value} (W:Walks prog w A It fp wr n Pi St) (hP:∀ i v,i<n->Pi i v->tk0 v=xs.getD i .none) (hlv:∀ i h,St i h->∀ b∈fp,∃ o,h.get? b=some o) :
  Wk prog w A (.Name x p1) It fp wr n (fun env=>env.kindOf x=some .local) [x] (fun i μ=>up μ x (xs.getD i .none)) St where
 sub:=W.sub
 live:=hlv
 frame:=W.frame
 over:=fun i μ u=>BZj
 back:=fun i μ=>by show upo μ x (up μ x _ x)=_;rewrite [up];exact sE VZa rfl
 next:=fun i s E env h₀ μ S hi hok hcl hk hL st lo hlo hS hSw hSl=>by
  refine YZb (W.item i _ _ _ hi st fun v h1 tk1 hp st1 hk1=>?_)
  refine ⟨v,rfl,?_⟩
  show wpC _ _ (assign (.Name x p1) env v) _ _ _
  refine J1 (hlo μ _ _ hk1 lo) fun m Fm a b=>?_
  show wpC _ _ (do standAt p1;PySem.bindName env x v) _ _ _
  refine YZa (YZd (XZm (YZb (wpAny_storeName_local hok Fm.ns (fun h'' hn hs'=>?_) (by refine sE hk ?_;rfl)))))
  have keep:∀ b o,b∉[env.locals]->h1.get? b=some o->h''.get? b=some o:=fun b o hb e=>(hs'.2 b fun q=>hb (q▸List.mem_singleton_self _)).trans e
  refine ⟨h'',_,rfl,?_,W.frame _ _ _ st1 fun b hb o e=>keep b o (fun q=>hL (by refine sF (mS q) ?_;exact hb)) e,hSl _ _ keep (hSw _ _ hk1 hS)⟩
  refine sF (hP i v hi hp) ?_
  exact Lo.store Fm a b hok hcl hn hs'
 done:=fun s E S st hS hSw=>YZb (W.done _ _ _ st fun h1 tk1 hk1=>⟨rfl,h1,tk1,rfl,hSw _ _ hk1 hS⟩)
theorem GZr {a b:Str} (c d:Value) (μ u:Str->Option Value):up (up (ovr μ [a,b] u) a c) b d=up (up μ a c) b d:=by
 funext x
 show (if x=b then some d else if x=a then some c else if x=a then u a else if x=b then u b else μ x)=(if x=b then some d else if x=a then some c else μ x)
 by_cases hb:x=b
 ·exact sE (if_pos hb) (sE (if_pos hb) rfl)
 ·by_cases ha:x=a
  ·simp only [if_neg hb,if_pos ha]
  ·simp only [if_neg hb,if_neg ha]
theorem GZs {a b:Str} (c d:Value) (μ:Str->Option Value):ovr μ [a,b] (up (up μ a c) b d)=up (up μ a c) b d:=by
 funext x
 show (if x=a then (if a=b then some d else if a=a then some c else μ a) else if x=b then (if b=b then some d else if b=a then some c else μ b) else μ x)=(if x=b then some d else if x=a then some c else μ x)
 by_cases hb:x=b
 ·subst hb
  by_cases ha:x=a
  ·subst ha;simp
  ·simp [ha]
 ·by_cases ha:x=a
  ·subst ha;simp [hb]
  ·simp [ha,hb]
theorem HZ9 {a b:Str} {pa pb p1:Pos} {k:Nat} {T:Addr} {v0 v1:Value} {env:Env} {h₀:Heap} {μ:Str->Option Value} {s:Shared} {E:Value->Shared->Prop} {Q:Unit->Shared->Prop} (hh:A.handled=none) (hT:s.heap.IsTuple T #[v0,v1])
  (ha:env.kindOf a=some .local) (hb:env.kindOf b=some .local) (hcl:Cl env) (hk:env.scope.kind=.function) (lo:Lo env h₀ μ s.heap)
  (h:∀ h',(∀ b o,b≠env.locals->s.heap.get? b=some o->h'.get? b=some o)->Lo env h₀ (up (up μ a (tk0 v0)) b (tk0 v1)) h'->∀ tk,Q () { s with heap:=h',toks:=tk }) :
  wpC (model prog w) A (assign (.Tuple [.Name a pa,.Name b pb] k p1) env (.ref T)) Q E s:=by
 refine YZb (wpAny_assign_Tuple hh hT rfl rfl fun h1 e1=>?_)
 have g1:Grows s.heap h1:=fun b o e=>e1 b o (Nat.ne_of_lt (Heap.lt_size e)) e
 refine J1 (lo.grow g1) fun m Fm ma mb=>?_
 show wpAny _ _ (do holding [v1] (do standAt pa;bindName env a v0);(do holding [] (do standAt pb;bindName env b v1);pure ())) _ _ _
 refine wpAny_bind (wpAny_holding (wpAny_bind (wpAny_standAt ?_)))
 refine wpAny_bindName (wpAny_storeName_local ha Fm.ns (fun h2 hn hs'=>?_) (by refine sE hk ?_;rfl))
 have l2:=Lo.store Fm ma mb ha hcl hn hs'
 refine J1 l2 fun m2 Fm2 ma2 mb2=>?_;clear l2
 refine wpAny_bind (wpAny_holding (wpAny_bind (wpAny_standAt ?_)))
 refine wpAny_bindName (wpAny_storeName_local hb Fm2.ns (fun h3 hn3 hs3=>?_) (by refine sE hk ?_;rfl))
 have l3:=Lo.store Fm2 ma2 mb2 hb hcl hn3 hs3
 exact wpAny_pure (h h3 (fun b o hb e=>(hs3.2 b hb).trans ((hs'.2 b hb).trans (g1 b o e))) l3 _)
theorem Wk.pairT {a b:Str} {pa pb p1:Pos} {k:Nat} {Pt:Nat->Array Value->Prop} {St:Nat->HP} {Mid:Nat->Addr->HP} {xs:List (Value×Value)} (hh:A.handled=none) (W:WalksT prog w A It fp wr n Pt St Mid) (hlv:∀ i h,St i h->∀ b∈fp,∃ o,h.get? b=some o)
  (hP:∀ i vals,i<n->Pt i vals->∃ v0 v1,vals=#[v0,v1]/\(tk0 v0,tk0 v1)=xs.getD i (.none,.none)) :
  Wk prog w A (.Tuple [.Name a pa,.Name b pb] k p1) It fp wr n (fun env=>env.kindOf a=some .local/\env.kindOf b=some .local) [a,b] (fun i μ=>up (up μ a (xs.getD i (.none,.none)).1) b (xs.getD i (.none,.none)).2) St where
 sub:=W.sub
 live:=hlv
 frame:=W.frame
 over:=fun i μ u=>GZr _ _ μ u
 back:=fun i μ=>GZs _ _ μ
 next:=fun i s E env h₀ μ S hi hok hcl hk hL st lo hlo hS hSw hSl=>by
  refine YZb (W.item i _ _ _ hi st fun T vals h1 tk1 hp hTs hT hm hk1=>?_)
  refine J2 (hP i vals hi hp) ?_;rintro v0 v1 rfl e
  refine ⟨.ref T,rfl,?_⟩
  refine YZa (YZb (W.go _ _ _ i T _ _ _ hm fun h2 st2 hk2=>?_))
  have hTw:=W.apart _ _ _ hm
  have hT2:h2.IsTuple T #[v0,v1]:=by refine J0 hT fun o ho r=>?_;clear hT;exact ⟨o,hk2 _ _ hTw ho,r⟩
  refine HZ9 hh hT2 hok.1 hok.2 hcl hk (hlo μ _ _ hk2 (hlo μ _ _ hk1 lo)) fun h3 keep l3 tk3=>?_
  refine sF e ?_
  refine ⟨h3,tk3,rfl,l3,W.frame _ _ _ st2 fun b hb o e=>keep b o (fun q=>hL (q▸hb)) e,?_⟩
  exact hSl _ _ (fun b o hb e=>keep b o (fun q=>hb (q▸List.mem_singleton_self _)) e) (hSw _ _ hk2 (hSw _ _ hk1 hS))
 done:=fun s E S st hS hSw=>YZb (W.done _ _ _ st fun h1 tk1 hk1=>⟨rfl,h1,tk1,rfl,hSw _ _ hk1 hS⟩)
theorem Wk.pairL {a b:Str} {pa pb p1:Pos} {k:Nat} {Pi:Nat->Value->Prop} {St:Nat->HP} {xs:List (Value×Value)} (hh:A.handled=none) (W:Walks prog w A It fp wr n Pi St) (hlv:∀ i h,St i h->∀ b∈fp,∃ o,h.get? b=some o)
  (hP:∀ i v h,i<n->Pi i v->St (i+1) h->∃ T v0 v1,v=.ref T/\h.IsTuple T #[v0,v1]/\(tk0 v0,tk0 v1)=xs.getD i (.none,.none))
  (hgo:∀ i v h,i<n->Pi i v->St (i+1) h->∀ (s:Shared) Q E,s.heap=h->Q () s->wpAny (model prog w) A (letOwnedTupleGo (.Tuple [.Name a pa,.Name b pb] k p1) (.ref It) v) Q E s) :
  Wk prog w A (.Tuple [.Name a pa,.Name b pb] k p1) It fp wr n (fun env=>env.kindOf a=some .local/\env.kindOf b=some .local) [a,b] (fun i μ=>up (up μ a (xs.getD i (.none,.none)).1) b (xs.getD i (.none,.none)).2) St where
 sub:=W.sub
 live:=hlv
 frame:=W.frame
 over:=fun i μ u=>GZr _ _ μ u
 back:=fun i μ=>GZs _ _ μ
 next:=fun i s E env h₀ μ S hi hok hcl hk hL st lo hlo hS hSw hSl=>by
  refine YZb (W.item i _ _ _ hi st fun v h1 tk1 hp st1 hk1=>?_)
  refine Jc (hP i v h1 hi hp st1) ?_;rintro T v0 v1 rfl hT e
  refine ⟨.ref T,rfl,?_⟩
  refine YZa (YZb (hgo i _ h1 hi hp st1 _ _ _ rfl ?_))
  refine HZ9 hh hT hok.1 hok.2 hcl hk (hlo μ _ _ hk1 lo) fun h3 keep l3 tk3=>?_
  refine sF e ?_
  refine ⟨h3,tk3,rfl,l3,W.frame _ _ _ st1 fun b hb o e=>keep b o (fun q=>hL (q▸hb)) e,?_⟩
  exact hSl _ _ (fun b o hb e=>keep b o (fun q=>hb (q▸List.mem_singleton_self _)) e) (hSw _ _ hk1 hS)
 done:=fun s E S st hS hSw=>YZb (W.done _ _ _ st fun h1 tk1 hk1=>⟨rfl,h1,tk1,rfl,hSw _ _ hk1 hS⟩)
end
section
variable {prog:Program} {w:World} {A:Around} {env:Env}
set_option tactic.hygienic true in
theorem KZ1 {σ:Type} {target:PySem.Expr} {body:List Stmt} {It:Addr} {fp wr Wd:List Addr} {n:Nat} {ok:Env->Prop} {ns:List Str} (ex:List Str) {bd:Nat->(Str->Option Value)->Str->Option Value} {St:Nat->HP} {h₀:Heap}
  (W:Wk prog w A target It fp wr n ok ns bd St) (hok:ok env) (hcl:Cl env) (hk:env.scope.kind=.function) (hL:env.locals∉fp) (hlo:∀ μ,Sf wr (Lo env h₀ μ))
  (μi:Nat->σ->Str->Option Value) (Rr:Nat->σ->HP) (Rt X:Value->HP) (hRw:∀ i z,Sf wr (Rr i z)) (hRl:∀ i z,Sf [env.locals] (Rr i z)) (hfw:∀ b∈fp,b∉Wd)
  (hbody:∀ i z (S:HP) u,i<n->Sf Wd S->(∀ h,S h->∀ b∈wr,∃ o,h.get? b=some o)->(∀ W,(∀ b∈W,b∈Wd∨New S b)->Sf W S)->Xs (model prog w) A env (Pc env h₀ (bd i (ovr (μi i z) ex u)) (fun h=>Rr i z h/\S h)) body (fun h=>∃ z u,Pc env h₀ (ovr (μi (i+1) z) (ns++ex) u) (fun h=>Rr (i+1) z h/\S h) h) Rt no)
  {R:Result->Shared->Prop} {s:Shared} {u:Str->Option Value} {z:σ} (h0:Pc env h₀ (ovr (μi 0 z) (ns++ex) u) (Rr 0 z) s.heap) (hs:St 0 s.heap) (hR:∀ h' tk u z,Pc env h₀ (ovr (μi n z) (ns++ex) u) (Rr n z) h'->R (.ok .next) { s with heap:=h',toks:=tk })
  (hR2:∀ v h' tk,Rt (tk0 v) h'->R (.ok (.ret v)) { s with heap:=h',toks:=tk }) :
  YZ7 (model prog w) A (.forLoop target (.ref It) body [] env) R s:=by
 refine UZc rfl rfl (fun k s'=>∃ h' tk i u z,s'={ s with heap:=h',toks:=tk }/\i<=n/\k=n-i/\Pc env h₀ (ovr (μi i z) (ns++ex) u) (Rr i z) h'/\St i h') ?_ n ⟨s.heap,s.toks,0,u,z,rfl,Nat.zero_le _,rfl,h0,hs⟩
 rintro k s' ⟨h',tk,i,u,z,rfl,hi,rfl,inv,st⟩
 show wpC _ A ((forTurn target (.ref It) body [] env).onRaise (fun x=>do noteFrame x env;theTreesLotGoes x)) _ _ _
 refine YZ1 (YZf (E:=fun _ _=>False) (?_:wpC _ _ _ (fun fin s''=>match fin with
    | .done f=>R (.ok f) s''
    | .again c'=>(c'=.forLoop target (.ref It) body [] env/\∃ m,m<n-i/\∃ h' tk i u z,s''={ s with heap:=h',toks:=tk }/\i<=n/\m=n-i/\Pc env h₀ (ovr (μi i z) (ns++ex) u) (Rr i z) h'/\St i h')∨(c'.quiet=true/\YZ7 (model prog w) A c' R s'')) _ _) (fun _ _ q=>q) fun _ _ q=>q.elim)
 simp only [forTurn]
 refine YZa (YZd (YZa (YZ1 (YZf (E:=fun _ _=>False) (?_:wpC _ _ (pyNext (.ref It)) _ _ _) (fun _ _ q=>q) fun _ _ q=>q.elim))))
 by_cases hlt:i<n
 ·refine YZf (W.next i { s with heap:=h',toks:=tk } (fun _ _=>False) env h₀ _ (Rr i z) hlt hok hcl hk hL st inv.1 hlo inv.2 (hRw i z) (hRl i z)) (fun r s₁ q=>?_) fun _ _ q=>q
  refine J0 q ?_;clear q;rintro v rfl q
  have e:(do letOwnedTupleGo target (.ref It) v;assign target env v;(do match <- execs body env with
    | .next | .cont=>again (.forLoop target (.ref It) body [] env)
    | .brk=>pure (.done .next)
    | .ret v=>pure (.done (.ret v))))=((letOwnedTupleGo target (.ref It) v >>= fun _=>assign target env v) >>= fun _=>(do match <- execs body env with
    | .next | .cont=>again (.forLoop target (.ref It) body [] env)
    | .brk=>pure (.done .next)
    | .ret v=>pure (.done (.ret v)):Sem Fin)):=(bind_assoc ..).symm
  show wpC _ _ (do letOwnedTupleGo target (.ref It) v;assign target env v;(do match <- execs body env with
    | .next | .cont=>again (.forLoop target (.ref It) body [] env)
    | .brk=>pure (.done .next)
    | .ret v=>pure (.done (.ret v)))) _ _ _
  refine sE e ?_
  refine YZa (YZf q (fun _ s₂ q=>?_) fun _ _ q=>q)
  refine J9 q ?_;clear q;rintro h2 tk2 rfl l2 st2 r2
  rw [ovr_app,W.over] at l2
  have hfr:Sf Wd (St (i+1)):=fun h h' k st=>W.frame (i+1) h h' st fun b hb o e=>k b o (hfw b hb) e
  refine YZa (hbody i z (St (i+1)) u hlt hfr (fun h st b hb=>W.live (i+1) h st b (W.sub b hb)) (W.stab hfw (i+1)) _ _ _ ⟨l2,r2,st2⟩ (fun h3 tk3 q3=>?_) (fun v3 h3 tk3 q3=>?_) fun _ _ _ q3=>q3.elim)
  ·refine J4 q3 ?_;clear q3;rintro z' u' q1 q2 q3
   exact YZc (.inl ⟨rfl,n-(i+1),by exact sb1,h3,tk3,i+1,u',z',rfl,hlt,rfl,⟨q1,q2⟩,q3⟩)
  ·exact YZc (hR2 v3 h3 tk3 q3)
 ·have hin:i=n:=by lia
  subst hin
  refine YZf (W.done { s with heap:=h',toks:=tk } (fun _ _=>False) (Pc env h₀ (ovr (μi i z) (ns++ex) u) (Rr i z)) st inv (Sf.and (hlo _) (hRw i z))) (fun r s₁ q=>?_) fun _ _ q=>q
  obtain ⟨rfl,h1,tk1,rfl,q⟩:=q
  exact YZc (.inr ⟨rfl,HZ8 (hR h1 tk1 u z q)⟩)
end
end
section
theorem YZv (μ:Str->Option Value):∀ ns,ovr μ ns μ=μ
 | []=>rfl
 | n::ns=>by
  show upo (ovr μ ns μ) n (μ n)=μ
  refine sE (YZv μ ns) ?_;exact (DZe rfl).symm
noncomputable def Mq (env:Env) (μ μ':Str->Option Value):Prop:=(∀ p∈env.scope.names,μ p.1=μ' p.1)/\(∀ p∈env.cells,μ p.1=μ' p.1)
theorem YZs {α β:Type} [BEq α] [LawfulBEq α] {x:α} {c:β}:∀ {l:List (α×β)},l.lookup x=some c->(x,c)∈l
 | [],h=>by cases h
 | (a,b)::r,h=>by
  rw [List.lookup_cons] at h
  cases e:x==a with
  | true=>rw [e] at h;cases h;refine sE (eq_of_beq e) ?_;exact List.mem_cons_self ..
  | false=>rw [e] at h;exact List.mem_cons_of_mem _ (YZs h)
theorem Lo.cong {env:Env} {h₀ h:Heap} {μ μ':Str->Option Value} (q:Mq env μ μ') (l:Lo env h₀ μ h):Lo env h₀ μ' h:=by
 refine J1 l fun m F a b=>?_;clear l
 refine ⟨m,F,fun x hx=>(a x hx).trans (q.1 _ (YZs hx)),fun x c e=>?_⟩
 refine J0 (b x c e) fun v hv e'=>?_
 exact ⟨v,hv,e'.trans (q.2 _ (YZs e))⟩
noncomputable def SrcW (prog:Program) (w:World) (A:Around) (target:PySem.Expr) (ok:Env->Prop) (ns:List Str) (P0:HP) (v:Value) (h:Heap) (n:Nat) (bd:Nat->(Str->Option Value)->Str->Option Value) (RO:List Addr):Prop :=
 ∀ (s:Shared) (Q:Value->Shared->Prop) (E:Value->Shared->Prop),s.heap=h ->
  (∀ h' It tk fp wr St,Grows h h'->(∀ b∈wr,New P0 b)->(∀ b∈fp,New P0 b∨b∈RO)->Wk prog w A target It fp wr n ok ns bd St->St 0 h'->(∀ b∈fp,b<h'.objs.size)->(∀ (s:Shared) (Q:Value->Shared->Prop) (E:Value->Shared->Prop),St 0 s.heap->Q (.ref It) s->wpAny (model prog w) A (pyIter (.ref It)) Q E s)->Q (.ref It) { s with heap:=h',toks:=tk })->wpAny (model prog w) A (pyIter v) Q E s
theorem SrcW.name {prog:Program} {w:World} {A:Around} {x:Str} {p1:Pos} {P0:HP} {v:Value} {h:Heap} {xs:List Value} {RO:List Addr} (S:Src prog w A v h xs) (hp:P0 h) (hro:∀ b,v=.ref b->b∈RO/\∃ o,h.get? b=some o) :
  SrcW prog w A (.Name x p1) (fun env=>env.kindOf x=some .local) [x] P0 v h xs.length (fun i μ=>up μ x (xs.getD i .none)) RO:=fun s Q E e k =>
 S s Q E e fun h' It tk fp wr St hI g hlt W st hlv hfp hwr =>
  k h' It tk fp wr St g (fun b hb=>by refine sE (hwr b hb) ?_;exact ⟨h,hp,hI⟩) (fun b hb=>(hfp b hb).elim (fun q=>.inl (by refine sE q ?_;exact ⟨h,hp,hI⟩)) fun q=>.inr (hro b q).1) (Wk.name W (fun i v _ p=>p) hlv) st (fun b hb=>(hfp b hb).elim (fun q=>q▸hlt) fun q=>Jb ((hro b q).2) fun o ho=>Heap.lt_size (g _ _ ho)) (W.self 0)
section
variable {prog:Program} {w:World} {A:Around} {env:Env} {K:Frag} {h₀:Heap} {μ:Str->Option Value} {P:HP} {rest body:List Stmt} {N:HP} {Rt X:Value->HP} {pos:Pos} {iter target:PySem.Expr}
theorem Xs.forZ {Y σ:Type} {V:Y->Value->HP} (F:Fx K env h₀) (hcl:Cl env) (Wd:List Addr) (hWd:∀ h,Pc env h₀ μ P h->∀ b∈Wd,∃ o,h.get? b=some o)
  (he:EvP (model prog w) A env (Pc env h₀ μ P) iter (fun c h=>∃ y,V y c h)) (n:Y->Nat) (ok:Env->Prop) (ns ex:List Str) (bd:Y->Nat->(Str->Option Value)->Str->Option Value) (RO:Y->List Addr)
  (hsrc:∀ y v h,V y (tk0 v) h->Pc env h₀ μ P h->SrcW prog w A target ok ns (Pc env h₀ μ P) v h (n y) (bd y) (RO y)) (hro:∀ y c h,V y c h->Pc env h₀ μ P h->∀ b∈RO y,b∉Wd/\b≠env.locals) (hok:ok env)
  (μi:Y->Nat->σ->Str->Option Value) (R:Y->List Addr->Nat->σ->HP) (hRw:∀ y W,(∀ b∈W,New (Pc env h₀ μ P) b)->∀ i z,Sf W (R y W i z)) (hRl:∀ y W i z,Sf [env.locals] (R y W i z)) (hg:∀ h h',Grows h h'->P h->P h')
  (z0:Y->σ) (h0:∀ y c h h',V y c h->Grows h h'->P h'->∀ W,(∀ b∈W,New (Pc env h₀ μ P) b)->R y W 0 (z0 y) h') (hμ:∀ y,∃ u,Mq env μ (ovr (μi y 0 (z0 y)) (ns++ex) u))
  (hbody:∀ y wr,(∀ b∈wr,New (Pc env h₀ μ P) b)->∀ i z (S:HP) u,i<n y->Sf Wd S->(∀ h,S h->∀ b∈wr,∃ o,h.get? b=some o)->(∀ W,(∀ b∈W,b∈Wd∨New S b)->Sf W S)->Xs (model prog w) A env (Pc env h₀ (bd y i (ovr (μi y i z) ex u)) (fun h=>R y wr i z h/\S h)) body (fun h=>∃ z u,Pc env h₀ (ovr (μi y (i+1) z) (ns++ex) u) (fun h=>R y wr (i+1) z h/\S h) h) Rt no)
  (hr:∀ y wr,(∀ b∈wr,New (Pc env h₀ μ P) b)->∀ u z,Xs (model prog w) A env (Pc env h₀ (ovr (μi y (n y) z) (ns++ex) u) (R y wr (n y) z)) rest N Rt X)
  (hs:autoParam (∀ v,foldedSetIterable iter env v=pure v) tI):Xs (model prog w) A env (Pc env h₀ μ P) (.For target iter body [] pos::rest) N Rt X:=fun s Q E p k1 k2 k3=>by
 refine YZk (c_For (he s _ E p fun v h1 tk1 q=>?_) hs)
 obtain ⟨⟨y,hv⟩,p1'⟩:=q
 refine YZb (hsrc y v h1 hv p1' _ _ _ rfl fun h2 It tk2 fp wr St g2 hwr hfp Wk st _ _=>?_)
 have p2:Pc env h₀ μ P h2:=⟨p1'.1.grow g2,hg _ _ g2 p1'.2⟩
 obtain ⟨u0,hu0⟩:=hμ y
 have hlo:∀ μ,Sf wr (Lo env h₀ μ):=fun μ=>Lo.sf (fun q=>(hwr _ q).ne_loc rfl) (fun y c e q=>(hwr _ q).ne_cell e rfl) (fun b hb=>(hwr b hb).old)
 refine KZ1 (Wd:=Wd) ex Wk hok hcl F.fn ?_ hlo (μi y) (R y wr) Rt X (fun i z=>hRw y wr hwr i z) (hRl y wr) ?_ (fun i z S u hi hS hl hn=>hbody y wr hwr i z S u hi hS hl hn) (s:={ s with heap:=h2,toks:=tk2 }) (u:=u0) (z:=z0 y) ⟨p2.1.cong hu0,h0 y _ h1 h2 hv g2 p2.2 wr hwr⟩ st ?_ ?_
 ·intro q
  rcases hfp _ q with q | q
  ·exact q.ne_loc rfl
  ·exact (hro y _ h1 hv p1' _ q).2 rfl
 ·intro b hb q
  rcases hfp b hb with n | n
  ·refine J0 n fun h p e=>?_;clear n
   obtain ⟨o,ho⟩:=hWd h p b q
   rw [e] at ho;cases ho
  ·exact (hro y _ h1 hv p1' _ n).1 q
 ·intro h' tk u z q
  exact hr y wr hwr u z { s with heap:=h',toks:=tk } Q E q k1 k2 k3
 ·intro v' h' tk q
  exact k2 v' h' tk q
theorem Xs.forW {Y:Type} {V:Y->Value->HP} (F:Fx K env h₀) (hcl:Cl env) (Wd:List Addr) (hWd:∀ h,Pc env h₀ μ P h->∀ b∈Wd,∃ o,h.get? b=some o)
  (he:EvP (model prog w) A env (Pc env h₀ μ P) iter (fun c h=>∃ y,V y c h)) (n:Y->Nat) (ok:Env->Prop) (ns ex:List Str) (bd:Y->Nat->(Str->Option Value)->Str->Option Value) (RO:Y->List Addr)
  (hsrc:∀ y v h,V y (tk0 v) h->Pc env h₀ μ P h->SrcW prog w A target ok ns (Pc env h₀ μ P) v h (n y) (bd y) (RO y)) (hro:∀ y c h,V y c h->Pc env h₀ μ P h->∀ b∈RO y,b∉Wd/\b≠env.locals) (hok:ok env)
  (μi:Y->Nat->Str->Option Value) (R:Y->Nat->HP) (hRw:∀ y W,(∀ b∈W,New (Pc env h₀ μ P) b)->∀ i,Sf W (R y i)) (hRl:∀ y i,Sf [env.locals] (R y i)) (hg:∀ h h',Grows h h'->P h->P h')
  (h0:∀ y c h h',V y c h->Grows h h'->P h'->R y 0 h') (hμ:∀ y,∃ u,Mq env μ (ovr (μi y 0) (ns++ex) u))
  (hbody:∀ y i (S:HP) u,i<n y->Sf Wd S->Xs (model prog w) A env (Pc env h₀ (bd y i (ovr (μi y i) ex u)) (fun h=>R y i h/\S h)) body (fun h=>∃ u,Pc env h₀ (ovr (μi y (i+1)) (ns++ex) u) (fun h=>R y (i+1) h/\S h) h) Rt no)
  (hr:∀ y u,Xs (model prog w) A env (Pc env h₀ (ovr (μi y (n y)) (ns++ex) u) (R y (n y))) rest N Rt X)
  (hs:autoParam (∀ v,foldedSetIterable iter env v=pure v) tI):Xs (model prog w) A env (Pc env h₀ μ P) (.For target iter body [] pos::rest) N Rt X :=
 Xs.forZ (σ:=Unit) F hcl Wd hWd he n ok ns ex bd RO hsrc hro hok (fun y i _=>μi y i) (fun y _ i _=>R y i) (fun y W hW i _=>hRw y W hW i) (fun y _ i _=>hRl y i) hg (fun _=>()) (fun y c h h' a b c' _ _=>h0 y c h h' a b c') hμ (fun y _ _ i _ S u hi hS _ _=>Xs.post (hbody y i S u hi hS) (fun h q=>⟨(),q⟩) (fun _ _ q=>q) fun _ _ q=>q) (fun y _ _ u _=>hr y u) hs
theorem Xs.turnZ {σ:Type} {R:HP} {R':σ->HP} {μ':σ->Str->Option Value} {ns:List Str} (z:σ) (q:Mq env μ (ovr (μ' z) ns μ)) (hR:∀ h,R h->R' z h):Xs (model prog w) A env (Pc env h₀ μ R) [] (fun h=>∃ z u,Pc env h₀ (ovr (μ' z) ns u) (R' z) h) Rt X :=
 Xs.nil fun h p=>⟨z,μ,p.1.cong q,hR h p.2⟩
theorem Xs.turn {R R':HP} {μ':Str->Option Value} {ns:List Str} (q:Mq env μ (ovr μ' ns μ)) (hR:∀ h,R h->R' h):Xs (model prog w) A env (Pc env h₀ μ R) [] (fun h=>∃ u,Pc env h₀ (ovr μ' ns u) R' h) Rt X :=
 Xs.nil fun h p=>⟨μ,p.1.cong q,hR h p.2⟩
end
end
section
section
variable {prog:Program} {w:World} {A:Around} {E:Value->Shared->Prop} {R:Result->Shared->Prop} {s:Shared}
theorem XZd {env:Env} {Q:Bool->Shared->Prop} (h:Q true s) :
  wpC (model prog w) A (forIn ([]:List PySem.Expr) true fun c r=>if r=true then do let ok <- isTrue c env (eval c env);pure (ForInStep.yield ok) else pure (ForInStep.yield r)) Q E s :=
 YZc h
theorem BZ7 {env:Env} {c:PySem.Expr} {Q:Bool->Shared->Prop} (h:wpC (model prog w) A (isTrue c env (eval c env)) Q E s) :
  wpC (model prog w) A (forIn [c] true fun c r=>if r=true then do let ok <- isTrue c env (eval c env);pure (ForInStep.yield ok) else pure (ForInStep.yield r)) Q E s:=by
 simp only [List.forIn_cons,List.forIn_nil,if_true]
 exact YZa (YZa (YZf h (fun b s' hb=>YZc (YZc hb)) fun _ _ x=>x))
noncomputable abbrev tests (ifs:List PySem.Expr) (env:Env):Sem Bool:=forIn ifs true fun c r=>if r=true then do let ok <- isTrue c env (eval c env);pure (ForInStep.yield ok) else pure (ForInStep.yield r)
theorem LsAt.app {h':Heap} {D:Addr} {vs:List Value} {v:Value} (hl:h'.PlainList D (vs.toArray.push v)):LsAt h' D (vs.map tk0++[tk0 v]) :=
 ⟨vs++[v],by refine sF (List.push_toArray ..) ?_;exact hl,by refine sE List.map_append ?_;rfl⟩
set_option tactic.hygienic true in
theorem BZ4 {elt target iter:PySem.Expr} {ifs:List PySem.Expr} {scope:Scope} {pos:Pos} {It D:Addr} {fp wr Wd:List Addr} {n:Nat} {ok:Env->Prop} {ns:List Str} {bd:Nat->(Str->Option Value)->Str->Option Value} {St:Nat->HP} {h₀:Heap} {cenv:Env} {μc:Str->Option Value}
  (W:Wk prog w A target It fp wr n ok ns bd St) (hok:ok cenv) (hcl:Cl cenv) (hk:cenv.scope.kind=.function) (hL:cenv.locals∉fp) (hlo:∀ μ,Sf wr (Lo cenv h₀ μ)) (hloD:∀ μ,Sf [D] (Lo cenv h₀ μ)) (hDf:D∉fp) (hDC:D≠cenv.locals) (hn:n<=sizeLine)
  (G:Nat->List Value->HP) (hGw:∀ i xs,Sf wr (G i xs)) (hGl:∀ i xs,Sf [cenv.locals] (G i xs)) (hGD:∀ i xs,Sf [D] (G i xs)) (hfw:∀ b∈fp,b∉Wd) (tb:Nat->Bool)
  (htest:∀ i xs (S:HP),i<n->Sf Wd S->(∀ h,S h->∀ b∈wr,∃ o,h.get? b=some o)->(∀ W,(∀ b∈W,b∈Wd∨New S b)->Sf W S)->Tr (model prog w) A (Pc cenv h₀ (bd i μc) (fun h=>(LsAt h D xs/\S h)/\G i xs h)) (tests ifs cenv) (fun b h=>b=tb i/\Pc cenv h₀ (bd i μc) (fun h=>(LsAt h D xs/\S h)/\G i xs h) h))
  (helt:∀ i xs (S:HP),i<n->tb i=true->Sf Wd S->(∀ h,S h->∀ b∈wr,∃ o,h.get? b=some o)->(∀ W,(∀ b∈W,b∈Wd∨New S b)->Sf W S)->Tr (model prog w) A (Pc cenv h₀ (bd i μc) (fun h=>(LsAt h D xs/\S h)/\G i xs h)) (eval elt cenv) (fun v h=>Pc cenv h₀ (bd i μc) (fun h=>(LsAt h D xs/\S h)/\G (i+1) (xs++[tk0 v]) h) h))
  (hskip:∀ i xs h,i<n->tb i=false->G i xs h->G (i+1) xs h)
  {u:Str->Option Value} (h0:Lo cenv h₀ (ovr μc ns u) s.heap) (hD0:LsAt s.heap D []) (hG0:G 0 [] s.heap) (hs:St 0 s.heap)
  (hR:∀ h' tk xs u,Lo cenv h₀ (ovr μc ns u) h'->LsAt h' D xs->G n xs h'->R (.ok .next) { s with heap:=h',toks:=tk }) :
  YZ7 (model prog w) A (.compLoop (.ListComp elt [⟨target,iter,ifs,0⟩] scope pos) 0 (.ref It) (.ref D) cenv) R s:=by
 refine UZc rfl rfl (fun k s'=>∃ h' tk i u xs,s'={ s with heap:=h',toks:=tk }/\i<=n/\k=n-i/\xs.length<=i/\Lo cenv h₀ (ovr μc ns u) h'/\LsAt h' D xs/\G i xs h'/\St i h') ?_ n ⟨s.heap,s.toks,0,u,[],rfl,Nat.zero_le _,rfl,Nat.le_refl _,h0,hD0,hG0,hs⟩
 rintro k s' ⟨h',tk,i,u,xs,rfl,hi,rfl,hxs,lo,ls,g,st⟩
 show wpC _ _ ((compTurn (.ListComp elt [⟨target,iter,ifs,0⟩] scope pos) 0 (.ref It) (.ref D) cenv).onRaise (fun x=>do noteFrame x cenv;theTreesLotGoes x)) _ _ _
 refine YZ1 (YZf (E:=fun _ _=>False) (?_:wpC _ _ _ (fun fin s''=>match fin with
    | .done f=>R (.ok f) s''
    | .again c'=>(c'=.compLoop (.ListComp elt [⟨target,iter,ifs,0⟩] scope pos) 0 (.ref It) (.ref D) cenv/\∃ m,m<n-i/\∃ h' tk i u xs,s''={ s with heap:=h',toks:=tk }/\i<=n/\m=n-i/\xs.length<=i/\Lo cenv h₀ (ovr μc ns u) h'/\LsAt h' D xs/\G i xs h'/\St i h')∨(c'.quiet=true/\YZ7 (model prog w) A c' R s'')) _ _) (fun _ _ q=>q) fun _ _ q=>q.elim)
 refine sE (compTurn_list ..) ?_
 refine YZa (YZd (YZa ?_))
 by_cases hlt:i<n
 ·refine YZf (W.next i { s with heap:=h',toks:=tk } (fun _ _=>False) cenv h₀ _ (fun h=>LsAt h D xs/\G i xs h) hlt hok hcl hk hL st lo hlo ⟨ls,g⟩ (Sf.and (LsAt.sf fun q=>hDf (W.sub _ q)) (hGw i xs)) (Sf.and (LsAt.sf (by simp;exact hDC)) (hGl i xs))) (fun r s₁ q=>?_) fun _ _ q=>q
  refine J0 q ?_;clear q;rintro v rfl q
  dsimp only
  refine sF (bind_assoc ..) ?_
  refine YZa (YZf q (fun _ s₂ q=>?_) fun _ _ q=>q)
  obtain ⟨h2,tk2,rfl,l2,st2,ls2,g2⟩:=q
  rw [W.over] at l2
  have hfr:Sf Wd (St (i+1)):=fun h h' k st=>W.frame (i+1) h h' st fun b hb o e=>k b o (hfw b hb) e
  refine YZa (htest i xs (St (i+1)) hlt hfr (fun h st b hb=>W.live (i+1) h st b (W.sub b hb)) (W.stab hfw (i+1)) _ _ _ ⟨l2,⟨ls2,st2⟩,g2⟩ fun b h3 tk3 q3=>?_)
  obtain ⟨rfl,q3⟩:=q3
  cases hb:tb i with
  | false =>
   simp only [Bool.false_eq_true,if_false]
   exact YZc (.inl ⟨rfl,n-(i+1),by exact sb1,h3,tk3,i+1,bd i μc,xs,rfl,hlt,rfl,by lia,(W.back i μc).symm▸q3.1,q3.2.1.1,hskip i xs _ hlt hb q3.2.2,q3.2.1.2⟩)
  | true =>
   simp only [if_true]
   refine YZa (YZa (helt i xs (St (i+1)) hlt hb hfr (fun h st b hb=>W.live (i+1) h st b (W.sub b hb)) (W.stab hfw (i+1)) _ _ _ q3 fun x h4 tk4 q4=>?_))
   refine J3 q4 ?_;clear q4;rintro l4 ⟨⟨vs,hl,rfl⟩,st4⟩ g4
   refine YZa (YZb (wpAny_list_append_plain hl (fun h5 hl5 sb5=>?_) (by refine sE List.size_toArray ?_;rw [List.length_map] at hxs;lia)))
   have keep:∀ b o,b∉[D]->h4.get? b=some o->h5.get? b=some o:=fun b o hb e=>(sb5.2 b fun q=>hb (q▸List.mem_singleton_self _)).trans e
   refine YZc (YZc (.inl ⟨rfl,n-(i+1),by exact sb1,h5,tk4,i+1,bd i μc,_,rfl,hlt,rfl,?_,?_,LsAt.app hl5,hGD _ _ _ _ keep g4,?_⟩))
   ·refine sE List.length_append (sE (List.length_map ..) ?_);rw [List.length_map] at hxs;simp;omega
   ·exact hloD _ _ _ keep ((W.back i μc).symm▸l4)
   ·exact W.frame (i+1) _ _ st4 fun b hb o e=>keep b o (fun q=>hDf (by refine sF (mS q) ?_;exact hb)) e
 ·have hin:i=n:=by lia
  subst hin
  refine YZf (W.done { s with heap:=h',toks:=tk } (fun _ _=>False) (fun h=>Lo cenv h₀ (ovr μc ns u) h/\LsAt h D xs/\G i xs h) st ⟨lo,ls,g⟩ (Sf.and (hlo _) (Sf.and (LsAt.sf fun q=>hDf (W.sub _ q)) (hGw i xs)))) (fun r s₁ q=>?_) fun _ _ q=>q
  obtain ⟨rfl,h1,tk1,rfl,q⟩:=q
  exact YZc (hR h1 tk1 xs u q.1 q.2.1 q.2.2)
theorem BZ8 {elt target iter:PySem.Expr} {ifs:List PySem.Expr} {scope:Scope} {pos:Pos} {It:Addr} {acc:Value} {cenv:Env}
  (hself:∀ (Q:Value->Shared->Prop) (E:Value->Shared->Prop),Q (.ref It) s->wpAny (model prog w) A (pyIter (.ref It)) Q E s)
  (h:YZ7 (model prog w) A (.compLoop (.ListComp elt [⟨target,iter,ifs,0⟩] scope pos) 0 (.ref It) acc cenv) R s) :
  YZ7 (model prog w) A (.compStart (.ListComp elt [⟨target,iter,ifs,0⟩] scope pos) 0 (.ref It) acc cenv) R s:=by
 refine YZm ?_
 show wpC _ _ ((compStart (.ListComp elt [⟨target,iter,ifs,0⟩] scope pos) 0 (.ref It) acc cenv).onRaise (fun x=>do noteFrame x cenv;standAt theWindowsPlace)) _ _ s
 refine YZ1 (YZf (E:=fun _ _=>False) (?_:wpC _ _ _ (fun fin s''=>match fin with
    | .done f=>R (.ok f) s''
    | .again c'=>c'.quiet=true/\YZ7 (model prog w) A c' R s'') _ _) (fun _ _ q=>q) fun _ _ q=>q.elim)
 unfold compStart
 show wpC _ _ (ask >>= _) _ _ s
 refine YZa (YZb (wpAny_askSetting ?_))
 intro Γ p hΓ hf
 split
 ·exact (YZa (YZc (YZc (And.intro rfl h))):wpC (model prog w) A (again (.compLoop (.ListComp elt [⟨target,iter,ifs,0⟩] scope pos) 0 (.ref It) acc cenv) >>= fun x=>pure x) _ _ s) Γ p hΓ hf
 ·refine (?_:wpC (model prog w) A (rule "comprehension.iter-twice" >>= _) _ _ s) Γ p hΓ hf
  refine YZa (YZb (wpAny_rule ?_))
  show wpC _ _ (standAt iter.pos >>= _) _ _ s
  refine YZa (YZd (YZa (YZb (hself _ _ ?_))))
  exact YZc (And.intro rfl h)
noncomputable def HZ7 (M:Model) (A:Around) (E:Value->Shared->Prop) (use:Option (Value->Sem Unit)) (Q:Value->Shared->Prop) (acc:Value) (C:Addr) (r:Result) (s':Shared):Prop :=
 match r,use with
 | .ok _,none=>∃ m,s'.heap.Ns C m/\∀ h',Heap.SameBut C s'.heap h'->Q acc { s' with heap:=h' }
 | .ok _,some u=>wpC M A (u acc) (fun _ s''=>∃ m,s''.heap.Ns C m/\∀ h',Heap.SameBut C s''.heap h'->Q .none { s'' with heap:=h' }) E s'
 | .error x,_=>False
theorem c_standIf {α:Type} {c:Prop} [Decidable c] {pos:Pos} {k:PUnit->Sem α} {Q:α->Shared->Prop} (h:wpC (model prog w) A (k ()) Q E s) :
  wpC (model prog w) A (if c then (standAt pos >>= k) else k ()) Q E s:=by
 split
 ·exact YZa (YZd h)
 ·exact h
theorem KZo {env:Env} {e:PySem.Expr} {scope:Scope} {pos:Pos} {newAcc first:Sem Value} {g:Comprehension} {gs:List Comprehension} {cl:List (Str×Addr)} {use:Option (Value->Sem Unit)}
  {Q:Value->Shared->Prop}
  (hcl:clausesOf e=g::gs) (hs:∀ x,foldedSetIterable g.iter env x=pure x) (hclos:closureFor scope env=pure cl)
  (hkind:scope.kind=.function) (hnames:∀ x∈scope.names,x.2=.local->scope.names.lookup x.1=some .local)
  (h:wpC (model prog w) A first (fun x s₁=>wpC (model prog w) A (pyIter x) (fun it s₂=>wpC (model prog w) A newAcc (fun acc s₃ =>
   wpC (model prog w) A (newFunctionEnv scope env.globals cl [] env.qual none .none (some env)) (fun cenv s₄ =>
    YZ7 (model prog w) A (.compStart e 0 it acc { cenv with scope:=relabel scope env }) (HZ7 (model prog w) A E use Q acc cenv.locals) s₄) E s₃) E s₂) E s₁) E s) :
  wpC (model prog w) A (comprehension e scope env pos newAcc false first use) Q E s:=by
 unfold comprehension
 refine sE hclos (sE hcl ?_)
 refine YZa (YZf h (fun x s₁ h₁=>YZa (YZd (YZa (YZb (wpAny_of_eq (hs x) ?_))))) fun _ _ h'=>h')
 refine YZa (YZe (YZf h₁ (fun it s₂ h₂=>c_standIf (YZa (YZf h₂ (fun acc s₃ h₃=>YZa (YZc (YZa (YZf h₃ (fun cenv s₄ h₄=>?_) fun _ _ h'=>h')))) fun _ _ h'=>h'))) fun _ _ h'=>h'))
 dsimp only
 have hv:∀ x∈(scope.names.filter fun x=>(x.2==.local || x.2==.cell)&&x.1 != (".0" : Str)).reverse,x.2=.local ->
   Env.kindOf { cenv with scope:=relabel scope env } x.1=some .local:=fun x hx hl=>lookup_relabel_local (hnames x (List.mem_filter.mp (List.mem_reverse.mp hx)).1 hl)
 have hv':∀ x∈(scope.names.filter fun x=>(x.2==.local || x.2==.cell)&&x.1 != (".0" : Str)).reverse.drop 1++(scope.names.filter fun x=>(x.2==.local || x.2==.cell)&&x.1 != (".0" : Str)).reverse.take 1,
   x.2=.local->Env.kindOf { cenv with scope:=relabel scope env } x.1=some .local:=fun x hx hl=>by
  rcases mA hx with h1 | h1
  ·exact hv x (List.mem_of_mem_drop h1) hl
  ·exact hv x (List.mem_of_mem_take h1) hl
 refine YZe (YZa (GZ0 (YZe (BZg (GZa h₄ fun r s' hr=>?_)))))
 cases r with
 | ok f =>
  cases use with
  | none =>
   refine J0 hr ?_;clear hr;rintro m hn hr
   exact YZa (YZe (YZb (wpAny_comp_letGo (cenv:={ cenv with scope:=relabel scope env }) hkind _ s' m hv hn fun h' m' _ hs'=>YZc (hr h' hs'))))
  | some u =>
   refine YZa (YZb (wpAny_rule ?_))
   refine YZa (YZe (YZf hr (fun _ s'' hr'=>?_) fun _ _ h'=>h'))
   refine J0 hr' ?_;clear hr';rintro m hn hr'
   exact YZa (YZb (wpAny_comp_letGo (cenv:={ cenv with scope:=relabel scope env }) hkind _ s'' m hv' hn fun h' m' _ hs'=>YZc (hr' h' hs')))
 | error x=>cases use <;> exact hr.elim
end
end
section
noncomputable def cmu (cl:List (Str×Addr)) (μ:Str->Option Value):Str->Option Value:=fun x=>if (cl.lookup x).isSome then μ x else none
structure CompOk (env:Env) (scope:Scope) (cl:List (Str×Addr)) (ok:Env->Prop):Prop where
 clos:closureFor scope env=pure cl
 ok:∀ C,ok (compEnvC scope cl C env)
 cells:∀ p∈scope.names,p.2≠.cell
 kind:scope.kind=.function
 names:∀ p∈scope.names,p.2=.local->scope.names.lookup p.1=some .local
 sub:∀ x c,cl.lookup x=some c->env.cells.lookup x=some c
 notl:∀ x c,cl.lookup x=some c->(relabel scope env).names.lookup x≠some .local
structure OffL (env:Env) (h₀:Heap) (W:List Addr):Prop where
 loc:env.locals∉W
 cel:∀ y c,env.cells.lookup y=some c->c∉W
 old:∀ b∈W,h₀.get? b=none
theorem OffL.sf {env:Env} {h₀:Heap} {W:List Addr} (o:OffL env h₀ W) (μ:Str->Option Value):Sf W (Lo env h₀ μ):=Lo.sf o.loc o.cel o.old
theorem OffL.nil {env:Env} {h₀:Heap}:OffL env h₀ []:=⟨List.not_mem_nil,fun _ _ _=>List.not_mem_nil,fun _ h=>nomatch h⟩
theorem Lo.split {env:Env} {h₀:Heap} {μ:Str->Option Value} {Wd Wx:List Addr} (hd:OffL env h₀ Wd) (hx:∀ b∈Wx,b∈Wd∨New (Lo env h₀ μ) b):Sf Wx (Lo env h₀ μ):=by
 refine Lo.sf (fun q=>?_) (fun y c hc q=>?_) (fun b hb=>?_)
 ·rcases hx _ q with q | ⟨h,l,e⟩
  ·exact hd.loc q
  ·obtain ⟨o,ho⟩:=l.loc_in;rw [e] at ho;cases ho
 ·rcases hx _ q with q | ⟨h,l,e⟩
  ·exact hd.cel y c hc q
  ·obtain ⟨o,ho⟩:=l.cell_in hc;rw [e] at ho;cases ho
 ·rcases hx _ hb with q | ⟨h,l,e⟩
  ·exact hd.old b q
  ·cases q:h₀.get? b with
   | none=>rfl
   | some o=>rw [l.keep _ _ q] at e;cases e
section
variable {prog:Program} {w:World} {A:Around} {env:Env} {K:Frag} {h₀:Heap} {μ:Str->Option Value} {P:HP} {pos:Pos} {elt iter target:PySem.Expr} {ifs:List PySem.Expr} {scope:Scope} {cl:List (Str×Addr)}
theorem CompOk.fx {ok:Env->Prop} (O:CompOk env scope cl ok) (F:Fx K env h₀) (C:Addr):Fx K (compEnvC scope cl C env) h₀:=⟨O.kind,F.gl,F.bu,F.gd⟩
theorem HZ6 {Y:Type} {V:Y->Value->HP} {ok:Env->Prop} {ns:List Str} (F:Fx K env h₀) (O:CompOk env scope cl ok) (hcl:Cl env) (Wd:List Addr) (hWd:∀ h,Pc env h₀ μ P h->∀ b∈Wd,∃ o,h.get? b=some o) (hWlo:OffL env h₀ Wd)
  (he:EvP (model prog w) A env (Pc env h₀ μ P) iter (fun c h=>∃ y,V y c h)) (n:Y->Nat) (bd:Y->Nat->(Str->Option Value)->Str->Option Value) (RO:Y->List Addr)
  (hsrc:∀ y v h,V y (tk0 v) h->Pc env h₀ μ P h->SrcW prog w A target ok ns (Pc env h₀ μ P) v h (n y) (bd y) (RO y)) (hro:∀ y c h,V y c h->Pc env h₀ μ P h->∀ b∈RO y,b∉Wd) (hn:∀ y c h,V y c h->Pc env h₀ μ P h->n y<=sizeLine)
  (G:Y->List Addr->Nat->List Value->HP) (hG:∀ y i xs W,(∀ b∈W,New (Pc env h₀ μ P) b)->Sf W (G y W i xs)) (hg:∀ h h',Grows h h'->P h->P h') (tb:Y->Nat->Bool)
  (hG0:∀ y c h h',V y c h->Grows h h'->P h'->∀ W,(∀ b∈W,New (Pc env h₀ μ P) b)->G y W 0 [] h')
  (htest:∀ y W,(∀ b∈W,New (Pc env h₀ μ P) b)->∀ i xs (B:HP) C,New (Pc env h₀ μ P) C->Fx K (compEnvC scope cl C env) h₀->i<n y->Sf Wd B->(∀ h,B h->Lo env h₀ μ h)->(∀ h μ',Lo (compEnvC scope cl C env) h₀ μ' h->B h->∀ b∈W,∃ o,h.get? b=some o)->(∀ Wx,(∀ b∈Wx,b∈Wd∨New B b)->Sf Wx B)->Tr (model prog w) A (Pc (compEnvC scope cl C env) h₀ (bd y i (cmu cl μ)) (fun h=>B h/\G y W i xs h)) (tests ifs (compEnvC scope cl C env)) (fun b h=>b=tb y i/\Pc (compEnvC scope cl C env) h₀ (bd y i (cmu cl μ)) (fun h=>B h/\G y W i xs h) h))
  (helt:∀ y W,(∀ b∈W,New (Pc env h₀ μ P) b)->∀ i xs (B:HP) C,New (Pc env h₀ μ P) C->Fx K (compEnvC scope cl C env) h₀->i<n y->tb y i=true->Sf Wd B->(∀ h,B h->Lo env h₀ μ h)->(∀ h μ',Lo (compEnvC scope cl C env) h₀ μ' h->B h->∀ b∈W,∃ o,h.get? b=some o)->(∀ Wx,(∀ b∈Wx,b∈Wd∨New B b)->Sf Wx B)->Tr (model prog w) A (Pc (compEnvC scope cl C env) h₀ (bd y i (cmu cl μ)) (fun h=>B h/\G y W i xs h)) (eval elt (compEnvC scope cl C env)) (fun v h=>Pc (compEnvC scope cl C env) h₀ (bd y i (cmu cl μ)) (fun h=>B h/\G y W (i+1) (xs++[tk0 v]) h) h))
  (hskip:∀ y W i xs h,i<n y->tb y i=false->G y W i xs h->G y W (i+1) xs h)
  {s:Shared} {Q:Value->Shared->Prop} {E:Value->Shared->Prop} {use:Option (Value->Sem Unit)} (p:Pc env h₀ μ P s.heap)
  (hfin:∀ y W D C h' tk xs,(∀ b∈W,New (Pc env h₀ μ P) b)->C∈W->New (Pc env h₀ μ P) D->New (Pc env h₀ μ P) C->D≠C->Lo env h₀ μ h'->LsAt h' D xs->G y W (n y) xs h'->(∃ m,h'.Ns C m)->HZ7 (model prog w) A E use Q (.ref D) C (.ok .next) { s with heap:=h',toks:=tk })
  (hs:autoParam (∀ v,foldedSetIterable iter env v=pure v) tI) :
  wpC (model prog w) A (comprehension (.ListComp elt [⟨target,iter,ifs,0⟩] scope pos) scope env iter.pos (newList []) false (eval iter env) use) Q E s:=by
 refine KZo rfl hs O.clos O.kind O.names (he s _ E p fun v h1 tk1 q=>?_)
 obtain ⟨⟨y,hv⟩,p1⟩:=q
 refine YZb (hsrc y v h1 hv p1 _ _ _ rfl fun h2 It tk2 fp wr St g2 hwr hfp Wk st hflt hself=>?_)
 have p2:Pc env h₀ μ P h2:=⟨p1.1.grow g2,hg _ _ g2 p1.2⟩
 refine YZb (wpAny_newList ?_ (Nat.zero_le _))
 refine YZb (wpAny_newFunctionEnv O.cells (by intro z hz;cases hz) (fun h4 hns4 hsb4=>?_) O.kind)
 dsimp only at hns4 hsb4 ⊢
 have hDn:New (Pc env h₀ μ P) h2.objs.size:=⟨h2,p2,YZg _⟩
 generalize hD:h2.objs.size=D at hns4 hsb4 hDn ⊢
 generalize hh3:h2.push { cls:=.type "list", data:=.seq ([]:List Value).toArray }=h3 at hns4 hsb4 ⊢
 have g3:Grows h2 h3:=hh3▸Grows.push _ _
 have p3:Pc env h₀ μ P h3:=⟨p2.1.grow g3,hg _ _ g3 p2.2⟩
 have hD3:h3.get? D=some { cls:=.type "list", data:=.seq ([]:List Value).toArray }:=by refine sF hh3 (sF hD ?_);exact Heap.get?_push_size _ rfl
 have hCn:New (Pc env h₀ μ P) h3.objs.size:=⟨h3,p3,YZg _⟩
 have hDC:D≠h3.objs.size:=Nat.ne_of_lt (Heap.lt_size hD3)
 have hz3:h3.objs.size=h2.objs.size+1:=by exact sF hh3 (sE (Heap.size_push ..) rfl)
 have hlocC:env.locals<h3.objs.size:=p3.1.lt
 have habove:h₀.objs.size<=h3.objs.size:=by refine J0 p3.1 fun m Fm _=>?_;exact Nat.le_trans Fm.above (Nat.le_of_lt hlocC)
 obtain ⟨C,hC⟩:∃ C,C=h3.objs.size:=⟨_,rfl⟩
 rw [<- hC] at hns4 hsb4 hCn hDC hlocC habove hz3
 refine sF hC ?_
 have g4:Grows h3 h4:=fun b o e=>hsb4.extBut b o (hC▸Nat.ne_of_lt (Heap.lt_size e)) (Heap.get?_push_of_some _ e)
 have p4:Pc env h₀ μ P h4:=⟨p3.1.grow g4,hg _ _ g4 p3.2⟩
 have hcl':Cl (compEnvC scope cl C env):=fun x c e=>⟨fun q=>hCn.ne_cell (O.sub x c e) q,O.notl x c e⟩
 have hcell:∀ μ' h x c,Lo env h₀ μ' h->cl.lookup x=some c->∃ v,h.IsCell c v/\v.map tk0=μ' x:=fun μ' h x c l e=>J1 l fun _ _ _ b=>b x c (O.sub x c e)
 have loC:Lo (compEnvC scope cl C env) h₀ (ovr (cmu cl μ) ns (cmu cl μ)) h4:=by
  refine sE (YZv ..) ?_
  refine ⟨_,⟨hns4,p4.1.keep,habove⟩,fun x hx=>?_,fun x c e=>?_⟩
  ·show none=cmu cl μ x
   unfold cmu
   cases e:cl.lookup x with
   | none=>rfl
   | some c=>exact absurd hx (O.notl x c e)
  ·refine J0 (hcell μ h4 x c p4.1 e) fun v hv e'=>?_
   refine ⟨v,hv,e'.trans ?_⟩
   unfold cmu
   refine sE (show cl.lookup x=some c from e) ?_;rfl
 have offC:∀ W,(∀ b∈W,New (Pc env h₀ μ P) b/\b≠C)->∀ μ',Sf W (Lo (compEnvC scope cl C env) h₀ μ'):=fun W hW μ' =>
  Lo.sf (fun q=>(hW _ q).2 rfl) (fun x c e q=>(hW _ q).1.ne_cell (O.sub x c e) rfl) (fun b hb=>(hW b hb).1.old)
 have hfpC:∀ b∈fp,b≠C/\b≠D:=fun b hb=>by
  have:=hflt b hb
  exact ⟨fun q=>absurd this (by refine sE q (sE hz3 ?_);exact Nat.not_lt.mpr (Nat.le_succ _)),fun q=>absurd this (by refine sE q (sF hD ?_);exact Nat.lt_irrefl _)⟩
 have hWnn:∀ b∈Wd,¬ New (Pc env h₀ μ P) b:=fun b hb q=>by
  refine J0 q fun h pp e=>?_;clear q
  obtain ⟨o,ho⟩:=hWd h pp b hb
  rw [e] at ho;cases ho
 have st4:St 0 h4:=Wk.frame 0 h2 h4 st fun b _ o e=>g4 b o (g3 b o e)
 have env0:({ newEnv scope C env.globals cl env.qual none .none (some env) builtinsNs with scope:=relabel scope env }:Env)=compEnvC scope cl C env:=rfl
 refine sE env0 ?_
 refine BZ8 (fun Q E q=>hself _ Q E st4 q) ?_
 have hB:∀ xs (S:HP),Sf Wd S->Sf Wd (fun h=>(LsAt h D xs/\S h)/\Lo env h₀ μ h):=fun xs S hS=>Sf.and (Sf.and (LsAt.sf fun q=>hWnn D q hDn) hS) (hWlo.sf μ)
 have lop:∀ W,(∀ b∈W,New (Pc env h₀ μ P) b)->Sf W (Lo env h₀ μ):=fun W hW=>Lo.sf (fun q=>(hW _ q).ne_loc rfl) (fun x c e q=>(hW _ q).ne_cell e rfl) (fun b hb=>(hW b hb).old)
 have hWn:∀ b∈C::D::wr,New (Pc env h₀ μ P) b:=fun b hb=>by
  rcases mC hb with rfl | hb
  ·exact hCn
  ·rcases mC hb with rfl | hb
   ·exact hDn
   ·exact hwr b hb
 have hlive:∀ (S:HP) xs,(∀ h,S h->∀ b∈wr,∃ o,h.get? b=some o)->∀ h μ',Lo (compEnvC scope cl C env) h₀ μ' h->((LsAt h D xs/\S h)/\Lo env h₀ μ h)->∀ b∈C::D::wr,∃ o,h.get? b=some o:=fun S xs hS h μ' lc q b hb=>by
  rcases mC hb with rfl | hb
  ·exact lc.loc_in
  ·rcases mC hb with rfl | hb
   ·refine J0 q.1.1 fun vs z01 _=>?_;obtain ⟨o,ho⟩:=z01;exact ⟨_,ho⟩
   ·exact hS h q.1.2 b hb
 have hBn:∀ (S:HP) xs,(∀ W,(∀ b∈W,b∈Wd∨New S b)->Sf W S)->∀ Wx,(∀ b∈Wx,b∈Wd∨New (fun h=>(LsAt h D xs/\S h)/\Lo env h₀ μ h) b)->Sf Wx (fun h=>(LsAt h D xs/\S h)/\Lo env h₀ μ h):=fun S xs hS Wx hx=>by
  refine Sf.and (Sf.and (LsAt.sf fun q=>?_) (hS Wx fun b hb=>(hx b hb).imp id fun ⟨h,q,e⟩=>⟨h,q.1.2,e⟩)) ?_
  ·rcases hx D q with q | ⟨h,q,e⟩
   ·exact hWnn D q hDn
   ·refine J0 q.1.1 fun vs z01 _=>?_;obtain ⟨o,ho⟩:=z01;rw [e] at ho;cases ho
  ·refine Lo.split (Wd:=Wd) hWlo fun b hb=>(hx b hb).imp id fun ⟨h,q,e⟩=>⟨h,q.2,e⟩
 have hGm:∀ i xs W,(∀ b∈W,b∈C::D::wr)->Sf W (G y (C::D::wr) i xs):=fun i xs W hW=>(hG y i xs _ hWn).mono hW
 refine BZ4 (Wd:=Wd) (h₀:=h₀) (μc:=cmu cl μ) (u:=cmu cl μ) Wk (O.ok C) hcl' O.kind (fun q=>(hfpC _ q).1 rfl) (offC wr fun b hb=>⟨hwr b hb,(hfpC b (Wk.sub b hb)).1⟩) (offC [D] fun b hb=>by refine sE (mS hb) ?_;exact ⟨hDn,hDC⟩) (fun q=>(hfpC _ q).2 rfl) hDC (hn y _ h1 hv p1)
  (fun i xs h=>Lo env h₀ μ h/\G y (C::D::wr) i xs h) (fun i xs=>Sf.and (lop wr hwr) (hGm i xs wr fun b hb=>List.mem_cons_of_mem _ (List.mem_cons_of_mem _ hb))) (fun i xs=>Sf.and (lop _ fun b hb=>by refine sE (mS hb) ?_;exact hCn) (hGm i xs _ fun b hb=>by refine sE (mS hb) ?_;exact List.mem_cons_self ..))
  (fun i xs=>Sf.and (lop _ fun b hb=>by refine sE (mS hb) ?_;exact hDn) (hGm i xs _ fun b hb=>by refine sE (mS hb) ?_;exact List.mem_cons_of_mem _ (List.mem_cons_self ..))) ?_ (tb y) ?_ ?_ ?_ loC ⟨[],⟨_,g4 _ _ hD3⟩,rfl⟩ ⟨p4.1,hG0 y _ h1 h4 hv (g2.trans (g3.trans g4)) p4.2 _ hWn⟩ st4 ?_
 ·intro b hb q
  rcases hfp b hb with n | n
  ·exact hWnn b q n
  ·exact hro y _ h1 hv p1 _ n q
 ·intro i xs S hi hS hl hn
  refine Tr.post (Tr.pre (htest y _ hWn i xs _ C hCn (O.fx F C) hi (hB xs S hS) (fun h q=>q.2) (hlive S xs hl) (hBn S xs hn)) fun h q=>⟨q.1,⟨q.2.1,q.2.2.1⟩,q.2.2.2⟩) fun b h q=>⟨q.1,q.2.1,q.2.2.1.1,q.2.2.1.2,q.2.2.2⟩
 ·intro i xs S hi hb hS hl hn
  refine Tr.post (Tr.pre (helt y _ hWn i xs _ C hCn (O.fx F C) hi hb (hB xs S hS) (fun h q=>q.2) (hlive S xs hl) (hBn S xs hn)) fun h q=>⟨q.1,⟨q.2.1,q.2.2.1⟩,q.2.2.2⟩) fun v h q=>⟨q.1,q.2.1.1,q.2.1.2,q.2.2⟩
 ·intro i xs h hi hb q
  exact ⟨q.1,hskip y _ i xs h hi hb q.2⟩
 ·intro h' tk xs u l ls q
  refine J0 l fun m Fm _=>?_;clear l
  exact hfin y _ D C h' tk xs hWn (List.mem_cons_self ..) hDn hCn hDC q.1 ls q.2 ⟨m,Fm.ns⟩
end
end
section
section
variable {prog:Program} {w:World} {A:Around} {env:Env} {K:Frag} {h₀:Heap} {μ:Str->Option Value} {P:HP} {pos p1 spos:Pos} {elt iter target:PySem.Expr} {ifs:List PySem.Expr} {scope:Scope} {cl:List (Str×Addr)} {x:Str} {rest:List Stmt} {N:HP} {Rt X:Value->HP}
theorem Tr.comp {Y:Type} {V:Y->Value->HP} {ok:Env->Prop} {ns:List Str} (F:Fx K env h₀) (O:CompOk env scope cl ok) (hcl:Cl env) (Wd:List Addr) (hWd:∀ h,Pc env h₀ μ P h->∀ b∈Wd,∃ o,h.get? b=some o) (hWlo:OffL env h₀ Wd)
  (he:EvP (model prog w) A env (Pc env h₀ μ P) iter (fun c h=>∃ y,V y c h)) (n:Y->Nat) (bd:Y->Nat->(Str->Option Value)->Str->Option Value) (RO:Y->List Addr)
  (hsrc:∀ y v h,V y (tk0 v) h->Pc env h₀ μ P h->SrcW prog w A target ok ns (Pc env h₀ μ P) v h (n y) (bd y) (RO y)) (hro:∀ y c h,V y c h->Pc env h₀ μ P h->∀ b∈RO y,b∉Wd) (hn:∀ y c h,V y c h->Pc env h₀ μ P h->n y<=sizeLine)
  (G:Y->List Addr->Nat->List Value->HP) (hG:∀ y i xs W,(∀ b∈W,New (Pc env h₀ μ P) b)->Sf W (G y W i xs)) (hg:∀ h h',Grows h h'->P h->P h') (tb:Y->Nat->Bool)
  (hG0:∀ y c h h',V y c h->Grows h h'->P h'->∀ W,(∀ b∈W,New (Pc env h₀ μ P) b)->G y W 0 [] h')
  (htest:∀ y W,(∀ b∈W,New (Pc env h₀ μ P) b)->∀ i xs (B:HP) C,New (Pc env h₀ μ P) C->Fx K (compEnvC scope cl C env) h₀->i<n y->Sf Wd B->(∀ h,B h->Lo env h₀ μ h)->(∀ h μ',Lo (compEnvC scope cl C env) h₀ μ' h->B h->∀ b∈W,∃ o,h.get? b=some o)->(∀ Wx,(∀ b∈Wx,b∈Wd∨New B b)->Sf Wx B)->Tr (model prog w) A (Pc (compEnvC scope cl C env) h₀ (bd y i (cmu cl μ)) (fun h=>B h/\G y W i xs h)) (tests ifs (compEnvC scope cl C env)) (fun b h=>b=tb y i/\Pc (compEnvC scope cl C env) h₀ (bd y i (cmu cl μ)) (fun h=>B h/\G y W i xs h) h))
  (helt:∀ y W,(∀ b∈W,New (Pc env h₀ μ P) b)->∀ i xs (B:HP) C,New (Pc env h₀ μ P) C->Fx K (compEnvC scope cl C env) h₀->i<n y->tb y i=true->Sf Wd B->(∀ h,B h->Lo env h₀ μ h)->(∀ h μ',Lo (compEnvC scope cl C env) h₀ μ' h->B h->∀ b∈W,∃ o,h.get? b=some o)->(∀ Wx,(∀ b∈Wx,b∈Wd∨New B b)->Sf Wx B)->Tr (model prog w) A (Pc (compEnvC scope cl C env) h₀ (bd y i (cmu cl μ)) (fun h=>B h/\G y W i xs h)) (eval elt (compEnvC scope cl C env)) (fun v h=>Pc (compEnvC scope cl C env) h₀ (bd y i (cmu cl μ)) (fun h=>B h/\G y W (i+1) (xs++[tk0 v]) h) h))
  (hskip:∀ y W i xs h,i<n y->tb y i=false->G y W i xs h->G y W (i+1) xs h)
  (hs:autoParam (∀ v,foldedSetIterable iter env v=Pure.pure v) tI) :
  Tr (model prog w) A (Pc env h₀ μ P) (eval (.ListComp elt [⟨target,iter,ifs,0⟩] scope pos) env) (fun v h=>∃ y W D xs,v=.ref D/\(∀ b∈W,New (Pc env h₀ μ P) b)/\New (Pc env h₀ μ P) D/\Pc env h₀ μ (fun h=>LsAt h D xs/\G y W (n y) xs h) h):=fun s Q E p k=>by
 refine sE (eval_ListComp ..) ?_
 refine HZ6 F O hcl Wd hWd hWlo he n bd RO hsrc hro hn G hG hg tb hG0 htest helt hskip p (fun y W D C h' tk xs hW hCW hD hC hDC lo ls g m=>?_) hs
 obtain ⟨m,hm⟩:=m
 refine ⟨m,hm,fun h'' sb=>k _ h'' tk ⟨y,W,D,xs,rfl,hW,hD,?_⟩⟩
 have keep:∀ b o,b∉[C]->h'.get? b=some o->h''.get? b=some o:=fun b o hb e=>(sb.2 b fun q=>hb (q▸List.mem_singleton_self _)).trans e
 have hCs:Sf [C] (G y W (n y) xs):=(hG y _ xs W hW).mono fun b hb=>by refine sE (mS hb) ?_;exact hCW
 exact ⟨hC.sf _ _ keep lo,LsAt.sf (by simp;exact hDC) _ _ keep ls,hCs _ _ keep g⟩
theorem Xs.comp {Y:Type} {V:Y->Value->HP} {ok:Env->Prop} {ns:List Str} (F:Fx K env h₀) (O:CompOk env scope cl ok) (hcl:Cl env) (Wd:List Addr) (hWd:∀ h,Pc env h₀ μ P h->∀ b∈Wd,∃ o,h.get? b=some o) (hWlo:OffL env h₀ Wd)
  (he:EvP (model prog w) A env (Pc env h₀ μ P) iter (fun c h=>∃ y,V y c h)) (n:Y->Nat) (bd:Y->Nat->(Str->Option Value)->Str->Option Value) (RO:Y->List Addr)
  (hsrc:∀ y v h,V y (tk0 v) h->Pc env h₀ μ P h->SrcW prog w A target ok ns (Pc env h₀ μ P) v h (n y) (bd y) (RO y)) (hro:∀ y c h,V y c h->Pc env h₀ μ P h->∀ b∈RO y,b∉Wd) (hn:∀ y c h,V y c h->Pc env h₀ μ P h->n y<=sizeLine)
  (G:Y->List Addr->Nat->List Value->HP) (hG:∀ y i xs W,(∀ b∈W,New (Pc env h₀ μ P) b)->Sf W (G y W i xs)) (hGl:∀ y W i xs,Sf [env.locals] (G y W i xs)) (hg:∀ h h',Grows h h'->P h->P h') (tb:Y->Nat->Bool)
  (hG0:∀ y c h h',V y c h->Grows h h'->P h'->∀ W,(∀ b∈W,New (Pc env h₀ μ P) b)->G y W 0 [] h')
  (htest:∀ y W,(∀ b∈W,New (Pc env h₀ μ P) b)->∀ i xs (B:HP) C,New (Pc env h₀ μ P) C->Fx K (compEnvC scope cl C env) h₀->i<n y->Sf Wd B->(∀ h,B h->Lo env h₀ μ h)->(∀ h μ',Lo (compEnvC scope cl C env) h₀ μ' h->B h->∀ b∈W,∃ o,h.get? b=some o)->(∀ Wx,(∀ b∈Wx,b∈Wd∨New B b)->Sf Wx B)->Tr (model prog w) A (Pc (compEnvC scope cl C env) h₀ (bd y i (cmu cl μ)) (fun h=>B h/\G y W i xs h)) (tests ifs (compEnvC scope cl C env)) (fun b h=>b=tb y i/\Pc (compEnvC scope cl C env) h₀ (bd y i (cmu cl μ)) (fun h=>B h/\G y W i xs h) h))
  (helt:∀ y W,(∀ b∈W,New (Pc env h₀ μ P) b)->∀ i xs (B:HP) C,New (Pc env h₀ μ P) C->Fx K (compEnvC scope cl C env) h₀->i<n y->tb y i=true->Sf Wd B->(∀ h,B h->Lo env h₀ μ h)->(∀ h μ',Lo (compEnvC scope cl C env) h₀ μ' h->B h->∀ b∈W,∃ o,h.get? b=some o)->(∀ Wx,(∀ b∈Wx,b∈Wd∨New B b)->Sf Wx B)->Tr (model prog w) A (Pc (compEnvC scope cl C env) h₀ (bd y i (cmu cl μ)) (fun h=>B h/\G y W i xs h)) (eval elt (compEnvC scope cl C env)) (fun v h=>Pc (compEnvC scope cl C env) h₀ (bd y i (cmu cl μ)) (fun h=>B h/\G y W (i+1) (xs++[tk0 v]) h) h))
  (hskip:∀ y W i xs h,i<n y->tb y i=false->G y W i xs h->G y W (i+1) xs h)
  (hr:∀ y W D xs,(∀ b∈W,New (Pc env h₀ μ P) b)->New (Pc env h₀ μ P) D->Xs (model prog w) A env (Pc env h₀ (up μ x (.ref D)) (fun h=>LsAt h D xs/\G y W (n y) xs h)) rest N Rt X)
  (hx:autoParam (env.kindOf x=some .local) tR) (hs:autoParam (∀ v,foldedSetIterable iter env v=pure v) tI) (hsw:autoParam (swapsWith (.ListComp elt [⟨target,iter,ifs,0⟩] scope pos) (some (.Name x p1)) spos.line env=pure true) tR) :
  Xs (model prog w) A env (Pc env h₀ μ P) (.Assign [.Name x p1] (.ListComp elt [⟨target,iter,ifs,0⟩] scope pos) spos::rest) N Rt X:=fun s Q E p k1 k2 k3=>by
 refine YZk ?_
 refine sE (exec_Assign_Name_used _ _ _ _ hsw) ?_
 refine YZa (YZd (YZa ?_))
 show wpC _ A (do let _ <- comprehension (.ListComp elt [⟨target,iter,ifs,0⟩] scope pos) scope env iter.pos (newList []) false (eval iter env) (some (PySem.assign (.Name x p1) env))) _ _ s
 refine YZa (HZ6 F O hcl Wd hWd hWlo he n bd RO hsrc hro hn G hG hg tb hG0 htest helt hskip p (fun y W D C h' tk xs hW hCW hD hC hDC lo ls g m=>?_) hs)
 obtain ⟨m,hm⟩:=m
 have hDl:D∉[env.locals]:=fun q=>hD.ne_loc (mS q).symm
 refine Tr.bindName (R:=fun h=>LsAt h D xs/\G y W (n y) xs h/\h.Ns C m) F hcl (Sf.and (LsAt.sf hDl) (Sf.and (hGl y _ _ _) ?_)) hx { s with heap:=h',toks:=tk } _ _ ⟨lo.cong ?_,ls,g,hm⟩ (u:=μ x) (μ:=μ) fun _ h2 tk2 q2=>?_
 ·exact fun h h' k q=>q.at' fun o e=>k _ _ (fun z=>hC.ne_loc (mS z).symm) e
 ·refine sF (DZe rfl) ?_;exact ⟨fun _ _=>rfl,fun _ _=>rfl⟩
 refine Ja q2 fun lo2 ls2 g2 hm2=>?_;clear q2
 refine ⟨m,hm2,fun h'' sb=>YZc (YZc (hr y W D xs hW hD _ Q E ?_ k1 k2 k3))⟩
 have keep:∀ b o,b∉[C]->h2.get? b=some o->h''.get? b=some o:=fun b o hb e=>(sb.2 b fun q=>hb (q▸List.mem_singleton_self _)).trans e
 have hCs:Sf [C] (G y W (n y) xs):=(hG y _ xs W hW).mono fun b hb=>by refine sE (mS hb) ?_;exact hCW
 exact ⟨hC.sf _ _ keep lo2,LsAt.sf (by simp;exact hDC) _ _ keep ls2,hCs _ _ keep g2⟩
theorem EvP.compE {Y:Type} {V:Y->Value->HP} {ok:Env->Prop} {ns:List Str} (F:Fx K env h₀) (O:CompOk env scope cl ok) (hcl:Cl env)
  (he:EvP (model prog w) A env (Pc env h₀ μ P) iter (fun c h=>∃ y,V y c h)) (n:Y->Nat) (bd:Y->Nat->(Str->Option Value)->Str->Option Value) (RO:Y->List Addr)
  (hsrc:∀ y v h,V y (tk0 v) h->Pc env h₀ μ P h->SrcW prog w A target ok ns (Pc env h₀ μ P) v h (n y) (bd y) (RO y)) (hn:∀ y c h,V y c h->Pc env h₀ μ P h->n y<=sizeLine)
  (hP:∀ W,(∀ b∈W,New (Pc env h₀ μ P) b)->Sf W P) (f:Y->Nat->Value)
  (helt:∀ y i (B:HP) C,New (Pc env h₀ μ P) C->Fx K (compEnvC scope cl C env) h₀->i<n y->Sf [] B->(∀ h,B h->Lo env h₀ μ h/\P h)->Ev (model prog w) A (compEnvC scope cl C env) (Pc (compEnvC scope cl C env) h₀ (bd y i (cmu cl μ)) B) elt (f y i))
  (hs:autoParam (∀ v,foldedSetIterable iter env v=pure v) tI) :
  EvP (model prog w) A env (Pc env h₀ μ P) (.ListComp elt [⟨target,iter,[],0⟩] scope pos) (fun v h=>∃ y D,v=.ref D/\New (Pc env h₀ μ P) D/\LsAt h D ((List.range (n y)).map (f y))):=by
 refine Tr.post (Tr.comp F O hcl [] (fun _ _ b hb=>nomatch hb) OffL.nil he n bd RO hsrc (fun _ _ _ _ _ _ _ hb=>nomatch hb) hn (fun y _ i xs h=>xs=(List.range i).map (f y)/\P h)
  (fun y i xs W hW=>Sf.and Sf.const (hP W hW)) (fun h h' g p=>(hP [] (fun b hb=>nomatch hb)).grow g p) (fun _ _=>true) (fun y c h h' _ _ p _ _=>⟨rfl,p⟩) ?_ ?_ (fun _ _ _ _ _ _ h=>by cases h) hs) fun v h q=>?_
 ·intro y W hW i xs B C hC hF hi hB hB2 _ _ s Q E p k
  exact XZd (k true s.heap s.toks ⟨rfl,p⟩)
 ·intro y W hW i xs B C hC hF hi _ hB hB2 _ _
  refine Tr.post (Tr.pre (helt y i (fun h=>B h/\xs=(List.range i).map (f y)/\P h) C hC hF hi (Sf.and hB (Sf.and Sf.const (hP [] fun b hb=>nomatch hb))) fun h q=>⟨hB2 h q.1,q.2.2⟩) fun h q=>q) fun v h q=>⟨q.2.1,q.2.2.1,?_,q.2.2.2.2⟩
  refine sE q.2.2.2.1 (sE q.1 (sE List.range_succ (sE List.map_append ?_)));rfl
 ·obtain ⟨y,W,D,xs,rfl,_,hD,lo,ls,rfl,p⟩:=q
  exact ⟨⟨y,D,rfl,hD,ls⟩,lo,p⟩
end
end
section
section
variable {prog:Program} {w:World} {A:Around} {E:Value->Shared->Prop} {s:Shared} {b:Array UInt8} {t:Tok}
theorem UZ6 {it:Addr} {i:Nat} {c:UInt8} {Q:Value->Shared->Prop} (hit:KBw.IsBytesIter s.heap it b t i) (hx:b[i]?=some c)
  (hQ:∀ h',KBw.IsBytesIter h' it b t (i+1)->Heap.SameBut it s.heap h'->Q (.int (c.toNat:Int) s.toks) { s with heap:=h',toks:=s.toks+1 }):wpAny (model prog w) A (Builtin.SmallTypes.nextOf (.ref it)) Q E s:=by
 refine J1 (id hit) fun o ho hc hd=>?_
 unfold Builtin.SmallTypes.nextOf
 refine wpAny_bind (wpAny_callSpecial?_slot (name:=PySem.Str.ofString "__next__") (KBw.iter_typeIs hit) KBw.slot_next
  (wpAny_call_entry KBw.slot_next (KBw.iter_typeIs hit) KBw.entry_next ?_ (KBw.args_next _)))
 show wpAny _ _ (field (.ref it) 0 >>= _) _ _ s
 refine wpAny_bind (wpAny_field ho hd (x:=.bytes b t) rfl ?_)
 show wpAny _ _ (if (Value.bytes b t==Value.none)=true then _ else _) _ _ s
 refine sE (if_neg (show ¬ ((Value.bytes b t==Value.none)=true) from Bool.false_ne_true)) ?_
 show wpAny _ _ (field (.ref it) 1 >>= _) _ _ s
 refine wpAny_bind (wpAny_field ho hd (x:=.int i 0) rfl ?_)
 refine wpAny_bind (wpAny_of_eq (a:=b) rfl ?_)
 simp only [Int.toNat_natCast,hx]
 refine wpAny_bind (wpAny_setField ho hd (by simp) (wpAny_bind (wpAny_mkInt (wpAny_pure ⟨_,rfl,wpAny_pure (hQ _ ?_ (Heap.SameBut.update ..))⟩))))
 exact ⟨_,Heap.get?_update_self _ ho (Obj.isFreed_of_fields (Obj.data_mapFields hd _)),(Obj.cls_mapFields ..).trans hc,by
  rw [Obj.data_mapFields hd];simp [rawInt]⟩
theorem GZm {it:Addr} {i:Nat} {Q:Value->Shared->Prop} (hh:A.handled=none) (hit:KBw.IsBytesIter s.heap it b t i) (hx:b[i]?=none)
  (hE:∀ h' e,Heap.ExtBut it s.heap h'->(∃ o,h'.get? e=some o/\o.cls=.type "StopIteration")->E (.ref e) { s with heap:=h' }):wpAny (model prog w) A (Builtin.SmallTypes.nextOf (.ref it)) Q E s:=by
 refine J1 (id hit) fun o ho hc hd=>?_
 unfold Builtin.SmallTypes.nextOf
 refine wpAny_bind (wpAny_callSpecial?_slot (name:=PySem.Str.ofString "__next__") (KBw.iter_typeIs hit) KBw.slot_next
  (wpAny_call_entry KBw.slot_next (KBw.iter_typeIs hit) KBw.entry_next ?_ (KBw.args_next _)))
 show wpAny _ _ (field (.ref it) 0 >>= _) _ _ s
 refine wpAny_bind (wpAny_field ho hd (x:=.bytes b t) rfl ?_)
 show wpAny _ _ (if (Value.bytes b t==Value.none)=true then _ else _) _ _ s
 refine sE (if_neg (show ¬ ((Value.bytes b t==Value.none)=true) from Bool.false_ne_true)) ?_
 show wpAny _ _ (field (.ref it) 1 >>= _) _ _ s
 refine wpAny_bind (wpAny_field ho hd (x:=.int i 0) rfl ?_)
 refine wpAny_bind (wpAny_of_eq (a:=b) rfl ?_)
 simp only [Int.toNat_natCast,hx]
 refine wpAny_bind (wpAny_rule (wpAny_bind (wpAny_setField ho hd (by simp) ?_)))
 show wpAny _ _ (newExc (.type "StopIteration") [] >>= _) _ _ _
 refine wpAny_bind ?_
 simp only [newExc,newTuple]
 refine wpAny_bind (wpAny_newObj_type ?_ (by size_fits))
 refine wpAny_bind (m:=firstArgMember _ _) (wpAny_of_eq (a:=Value.none) (by first | rfl | (simp only [firstArgMember];rfl)) ?_)
 refine wpAny_newObj_type ?_ (by size_fits)
 simp only [raiseNew]
 refine wpAny_bind (wpAny_handled ?_)
 first | refine sE (show A.in1.handled=none from hh) ?_ | rw [hh]
 refine wpAny_bind (wpAny_pure (wpAny_throw ?_))
 exact hE _ _ (((Heap.SameBut.update ..).extBut.push _).push _) ⟨_,Heap.get?_push_size _ rfl,rfl⟩
theorem BZ2 (hh:A.handled=none) (it:Addr) (b:Array UInt8) (t:Tok) :
  Draws prog w A it [it] b.size (fun i v=>∃ c u,b[i]?=some c/\v=.int (c.toNat:Int) u) (fun i h=>KBw.IsBytesIter h it b t i) where
 live:=fun _ _ st=>J0 st fun o ho _=>⟨o,ho⟩
 frame:=fun _ _ _ st hk=>J0 st fun o ho r=>⟨o,hk it (by exact mm0) o ho,r⟩
 item:=fun i s Q E hi st hQ=>by
  refine UZ6 st (c:=b[i]) (by simp [hi]) fun h' hit' hs'=>?_
  exact hQ _ h' (s.toks+1) ⟨_,_,by simp [hi],rfl⟩ hit' hs'
 done:=fun s Q E st hE=>GZm hh st (by simp) hE
set_option tactic.hygienic true in
set_option maxHeartbeats 1000000 in
theorem UZg (x:Array UInt8) (t:Tok) :
  Meets (Builtin.«enumerate.__new__» ⟨[.type "enumerate", .bytes x t],[]⟩) (fun _ R s =>
   R (.ok (.ret (.ref (s.heap.push { cls:=.type "bytes_iterator", data:=.fields #[.bytes x t,.int 0 0] }).objs.size)))
    { s with heap:=(s.heap.push { cls:=.type "bytes_iterator", data:=.fields #[.bytes x t,.int 0 0] }).push { cls:=.type "enumerate", data:=.fields #[.none,.bool false,.ref s.heap.objs.size,rawInt 0,.none,.none] } }) :=
 .of_wp fun prog w A R s h=>by
  obtain ⟨hp,g,d,tk,os⟩:=s
  have hsub:=sub_enumerate
  wp_walk
  refine wpAny_stack_any fun st=>wpAny_pure ?_
  split
  ·rename_i c _ _ _ _ _
   cases (c==Value.type "enumerate")
   ·wp_walk using KBw.pyIter_bytes
    exact ⟨_,rfl,h⟩
   ·wp_walk using KBw.pyIter_bytes
    exact ⟨_,rfl,h⟩
  ·wp_walk using KBw.pyIter_bytes
   exact ⟨_,rfl,h⟩
theorem UZh {x:Array UInt8} {t:Tok} {Q:Value->Shared->Prop}
  (h:∀ h',IsEnum h' (s.heap.objs.size+1) s.heap.objs.size 0 .none->KBw.IsBytesIter h' s.heap.objs.size x t 0->h'.objs.size=s.heap.objs.size+2 ->
   (∀ b o,s.heap.get? b=some o->h'.get? b=some o)->Q (.ref (s.heap.objs.size+1)) { s with heap:=h' }) :
  wpAny (model prog w) A (call (.type "enumerate") [.bytes x t]) Q E s:=by
 refine callType_new F.called_enumerate (by decide) (F.typeCall_enumerate_1 _) (F.newCall_enumerate_1 _) (fun obj=>F.args_object_init_2 obj _) F.entry_enumerate_new
  (UZg x t) ?_
 have hz:(s.heap.push { cls:=.type "bytes_iterator", data:=.fields #[.bytes x t,.int 0 0] }).objs.size=s.heap.objs.size+1:=Heap.size_push ..
 show _/\_
 refine sE hz ?_
 have he:IsEnum ((s.heap.push { cls:=.type "bytes_iterator", data:=.fields #[.bytes x t,.int 0 0] }).push
   { cls:=.type "enumerate", data:=.fields #[.none,.bool false,.ref s.heap.objs.size,rawInt 0,.none,.none] }) (s.heap.objs.size+1) s.heap.objs.size 0 .none:=by
  have:=Heap.get?_push_size (s.heap.push { cls:=.type "bytes_iterator", data:=.fields #[.bytes x t,.int 0 0] })
   (o:={ cls:=.type "enumerate", data:=.fields #[.none,.bool false,.ref s.heap.objs.size,rawInt 0,.none,.none] }) rfl
  rw [hz] at this;exact this
 refine ⟨⟨_,he,rfl⟩,h _ he ⟨_,Heap.get?_push_of_some _ (Heap.get?_push_size _ rfl),rfl,rfl⟩ (by exact sE (Heap.size_push ..) (sE hz rfl)) fun b o y=>Heap.get?_push_of_some _ (Heap.get?_push_of_some _ y)⟩
end
end
section
section
variable {prog:Program} {w:World} {A:Around} {E:Value->Shared->Prop} {s:Shared} {b:Array UInt8} {t:Tok}
noncomputable def EnumB (P:HP) (ks:List Int) (v:Value) (h:Heap):Prop:=∃ e it t,v=.ref e/\New P e/\New P it/\e≠it/\IsEnum h e it 0 .none/\KBw.IsBytesIter h it (bA ks) t 0
end
section
variable {prog:Program} {w:World} {A:Around} {env:Env} {K:Frag} {h₀:Heap} {μ:Str->Option Value} {P:HP} {pos p1 pa pb:Pos} {e:PySem.Expr} {ks:List Int} {a b:Str} {k:Nat}
theorem EvP.enumB (C:Cx K env h₀ μ P) (hf:Ev (model prog w) A env P (.Name "enumerate" p1) (.type "enumerate")) (he:Ev (model prog w) A env P e (By ks))
  (he2:autoParam (starEach [e] env=(false,eval e env)::starEach [] env) tR) (hpl:autoParam ((backTo pos (starEach [e] env)).any (·.1)=false) tR) :
  EvP (model prog w) A env P (.Call (.Name "enumerate" p1) [e] [] pos) (fun v h=>EnumB P ks v h) :=
 EvP.callT hf (Evs.cons he Evs.nil he2) (fun s Q E vs p hvs kk=>by
  refine J0 (tk1 hvs) ?_;rintro v rfl e1
  refine tkB e1 fun t=>?_
  refine YZb (UZh fun h' h1 h2 hz g=>kk _ h' s.toks ⟨_,_,t,rfl,⟨s.heap,p,?_⟩,⟨s.heap,p,YZg _⟩,Nat.succ_ne_self _,h1,h2⟩ (C.grow _ _ g p))
  cases q:s.heap.get? (s.heap.objs.size+1) with
  | none=>rfl
  | some o=>exact absurd (Heap.lt_size q) (Nat.not_lt.mpr (Nat.le_succ _))) rfl he2 hpl
set_option tactic.hygienic true in
theorem SrcW.enumB (hh:A.handled=none) {P0:HP} {v:Value} {h:Heap} (hk:InB ks) (x:EnumB P0 ks (tk0 v) h) :
  SrcW prog w A (.Tuple [.Name a pa,.Name b pb] k p1) (fun env=>env.kindOf a=some .local/\env.kindOf b=some .local) [a,b] P0 v h ks.length (fun (i:Nat) μ=>up (up μ a (I (i:Int))) b (I (ks.getD i 0))) []:=fun s Q E e kk=>by
 obtain ⟨en,it,t,hv,ne,ni,hne,h1,h2⟩:=x
 refine sE (YZh hv) ?_
 subst e
 refine wpAny_pyIter_enum h1 ?_
 have D:Draws prog w A.in1 it [it] (bA ks).size (fun i v=>∃ c u,(bA ks)[i]?=some c/\v=.int (c.toNat:Int) u) (fun i h=>KBw.IsBytesIter h it (bA ks) t i):=BZ2 (A:=A.in1) hh it (bA ks) t
 have W:=WalksT.enumerateD (prog:=prog) (w:=w) (A:=A) D en hne (by simp;exact hne) (List.mem_singleton_self _)
 rw [XZx] at W
 have hbd:∀ i<ks.length,((List.range ks.length).map fun (i:Nat)=>(I (i:Int),I (ks.getD i 0))).getD i (.none,.none)=(I (i:Int),I (ks.getD i 0)):=fun i hi=>by
  refine sE List.getD_eq_getElem?_getD (sE List.getElem?_map (sE (List.getElem?_range hi) ?_));rfl
 have WK:=Wk.pairT (a:=a) (b:=b) (pa:=pa) (pb:=pb) (p1:=p1) (k:=k) (xs:=(List.range ks.length).map fun (i:Nat)=>(I (i:Int),I (ks.getD i 0))) hh W (fun i h st b hb=>by
  rcases mC hb with rfl | hb
  ·obtain ⟨⟨old,h⟩,_⟩:=st;exact ⟨_,h⟩
  ·refine sE (mS hb) ?_;obtain ⟨_,o,ho,_⟩:=st;exact ⟨o,ho⟩) (fun i vals hi p=>by
  refine J2 p ?_;clear p;rintro t1 x z02 rfl;refine J2 z02 ?_;clear z02;rintro c u hc rfl
  refine ⟨_,_,rfl,?_⟩
  refine sE (hbd i hi) ?_
  obtain rfl:=Option.some.inj (hc.symm.trans (NZx hi))
  show (I _,Value.int _ 0)=(I _,I _)
  exact sE (XZ4 (hk.getD i)) rfl)
 refine kk s.heap en s.toks _ _ _ (Grows.refl _) ?_ ?_ (?_:Wk prog w A _ en [en,it] [en,it] ks.length _ [a,b] (fun (i:Nat) μ=>up (up μ a (I (i:Int))) b (I (ks.getD i 0))) (fun i h=>(∃ old,IsEnum h en it (i:Nat) old)/\KBw.IsBytesIter h it (bA ks) t i)) ⟨⟨.none,h1⟩,h2⟩ ?_ ?_
 ·intro b hb
  rcases mC hb with rfl | hb
  ·exact ne
  ·refine sE (mS hb) ?_;exact ni
 ·intro b hb
  rcases mC hb with rfl | hb
  ·exact .inl ne
  ·refine sE (mS hb) ?_;exact .inl ni
 ·exact {
      sub:=WK.sub,live:=WK.live,frame:=WK.frame,over:=fun i μ u=>GZr _ _ μ u,back:=fun i μ=>GZs _ _ μ,done:=WK.done,
      next:=fun i s E env h₀ μ S hi hok hcl hk hL st lo hlo hS hSw hSl=>by
       have:=WK.next i s E env h₀ μ S hi hok hcl hk hL st lo hlo hS hSw hSl
       simp only [hbd i hi] at this
       exact this }
 ·intro b hb
  rcases mC hb with rfl | hb
  ·exact Heap.lt_size h1
  ·refine sE (mS hb) ?_;refine J0 h2 fun o ho _=>?_;clear h2;exact Heap.lt_size ho
 ·intro s Q E st q
  obtain ⟨⟨old,h⟩,_⟩:=st
  exact wpAny_pyIter_enum h q
end
end
section
namespace BF
theorem ba_no_bytes:typeLookup (.type "bytearray") "__bytes__" = pure none:=by refine sE (typeLookup_type ..) (sE builtinLookup_eq_fast ?_);kernel_rfl
theorem ba_no_index:typeLookup (.type "bytearray") "__index__" = pure none:=by refine sE (typeLookup_type ..) (sE builtinLookup_eq_fast ?_);kernel_rfl
theorem int_no_bytes:typeLookup (.type "int") "__bytes__" = pure none:=by refine sE (typeLookup_type ..) (sE builtinLookup_eq_fast ?_);kernel_rfl
theorem by_bytes:typeLookup (.type "bytes") "__bytes__" = pure (some (.builtin "bytes.__bytes__")):=by refine sE (typeLookup_type ..) (sE builtinLookup_eq_fast ?_);kernel_rfl
theorem slot_getitem:Slot "bytearray" "__getitem__" "bytearray.__getitem__" :=
 .of (owner := "bytearray") (n := "__getitem__") (by refine sE (typeLookup_type ..) (sE builtinLookup_eq_fast ?_);kernel_rfl) (by decide +kernel) (by decide +kernel) (by decide +kernel)
  (by first | exact .inl (by decide +kernel) | exact .inr (by decide +kernel)) (by refine sE (isSubtype_type ..) ?_;kernel_rfl)
theorem entry_getitem:entryFor table "bytearray.__getitem__" = some Builtin.«bytearray.__getitem__»:=entryFor_of_tree (by kernel_rfl)
theorem args_getitem (a b:Value):argsOk "bytearray.__getitem__" ⟨[a,b],[]⟩:=by unfold argsOk;kernel_rfl
theorem boot_bytearray:bootBuiltins "bytearray" = some (.type "bytearray"):=by kernel_rfl
theorem ba_bind (v:Value):Builtin.Bytes.bindOptional "bytearray.__init__" "bytearray" ["source", "encoding", "errors"] [v] []=pure [some v,none,none]:=by kernel_rfl
end BF
section
variable {prog:Program} {w:World} {A:Around} {E:Value->Shared->Prop} {s:Shared} {a:Addr} {ks:List Int}
theorem GZd {v:Value} {b:Array UInt8} {Q:Value->Shared->Prop}
  (h:∀ Q':Fin->Shared->Prop,(∀ t tk,Q' (.done (.ret (.bytes b t))) { s with toks:=tk })->wpAny (model prog w) A.in1.in1 (Builtin.«bytes.__new__» ⟨[.type "bytes", v],[]⟩) Q' E s)
  (hQ:∀ t tk,Q (.bytes b t) { s with toks:=tk }):wpAny (model prog w) A (call (.type "bytes") [v]) Q E s:=by
 refine callType_codes (Q₁:=fun obj s₁=>s₁.TypeIs obj "bytes" /\ Q obj s₁) F.bm_called (F.bm_typeCall _) F.entry_object_init ?_ fun obj s₁ h₁=>?_
 ·refine codeAny_of_tree ?_
  show wpAny _ A.in1.in1 (do checkBuiltinCall "bytes.__new__" ⟨[.type "bytes", v],[]⟩;again (.builtin "bytes.__new__" ⟨[.type "bytes", v],[]⟩)) _ _ s
  refine wpAny_bind (wpAny_of_eq (F.bm_newCall _) (wpAny_pure ⟨plainId_quiet F.bm_plain _,codeAny_builtin F.bm_entry ?_⟩))
  refine sE (Around.under_plainId F.bm_plain _) ?_
  exact h _ fun t tk=>⟨typeIs_bytes _ _ _,hQ t tk⟩
 ·exact ⟨h₁.1,F.args_object_init_2 obj _,object_init_meets F.bm_called.init.lookup F.bm_called.made (by decide) prog w A.in1 _ s₁ ⟨h₁.1,rfl,h₁.2⟩⟩
theorem bytes_ba {Q:Value->Shared->Prop} (ho:s.heap.get? a=some (baO ks)) (hz:ks.length<=sizeLine) (hQ:∀ t tk,Q (.bytes (bA ks) t) { s with toks:=tk }):wpAny (model prog w) A (call (.type "bytes") [.ref a]) Q E s:=by
 refine GZd (fun Q' k=>?_) hQ
 have hT:=YZu ho
 unfold Builtin.«bytes.__new__»
 refine wpAny_bind (wpAny_of_eq (a:=true) rfl ?_)
 refine bm_if_false rfl ?_
 refine wpAny_bind (wpAny_of_eq F.bm_sub ?_)
 refine bm_if_false rfl ?_
 refine wpAny_bind (wpAny_of_eq (F.bm_bind _) ?_)
 refine wpAny_bind (wpAny_of_eq (a:=()) rfl ?_)
 refine wpAny_bind (wpAny_of_eq (a:=()) rfl ?_)
 refine bm_if_false rfl ?_
 refine wpAny_bind (wpAny_specialOf hT BF.ba_no_bytes ?_)
 refine wpAny_bind (wpAny_bind ?_)
 show wpAny _ _ (load a >>= _) _ _ _
 refine wpAny_bind (wpAny_load ho ?_)
 refine wpAny_pure (wpAny_pure ?_)
 refine bm_if_false rfl ?_
 refine wpAny_bind (wpAny_specialOf hT BF.ba_no_index ?_)
 refine bm_if_true rfl ?_
 refine wpAny_bind (m:=Builtin.Bytes.buffer? "bytes.__new__" (.ref a) true) (ba_buffer ho ?_)
 refine wpAny_bind (wpAny_rule ?_)
 exact wpAny_bind (wpAny_mkBytes (wpAny_pure (k _ _)) (by refine sE (XZx ..) ?_;exact hz))
theorem BZ9 {b:Array UInt8} {t:Tok} {Q:Value->Shared->Prop} (hQ:∀ t tk,Q (.bytes b t) { s with toks:=tk }):wpAny (model prog w) A (call (.type "bytes") [.bytes b t]) Q E s:=by
 refine GZd (fun Q' k=>?_) hQ
 have hT:s.TypeIs (.bytes b t) "bytes" := typeIs_bytes _ _ _
 unfold Builtin.«bytes.__new__»
 refine wpAny_bind (wpAny_of_eq (a:=true) rfl ?_)
 refine bm_if_false rfl ?_
 refine wpAny_bind (wpAny_of_eq F.bm_sub ?_)
 refine bm_if_false rfl ?_
 refine wpAny_bind (wpAny_of_eq (F.bm_bind _) ?_)
 refine wpAny_bind (wpAny_of_eq (a:=()) rfl ?_)
 refine wpAny_bind (wpAny_of_eq (a:=()) rfl ?_)
 refine bm_if_false rfl ?_
 refine wpAny_bind (wpAny_specialOf hT BF.by_bytes ?_)
 refine wpAny_bind (wpAny_rule ?_)
 refine wpAny_bind (wpAny_typeOf hT ?_)
 refine bm_if_true rfl ?_
 exact wpAny_pure (k t s.toks)
theorem bytes_zero {n:Int} {t:Tok} {Q:Value->Shared->Prop} (hn:0<=n) (hz:n<=1000) (hQ:∀ t tk,Q (.bytes (bA (List.replicate n.toNat 0)) t) { s with toks:=tk }):wpAny (model prog w) A (call (.type "bytes") [.int n t]) Q E s:=by
 refine GZd (fun Q' k=>?_) hQ
 have hT:s.TypeIs (.int n t) "int" := typeIs_int _ _ _
 unfold Builtin.«bytes.__new__»
 refine wpAny_bind (wpAny_of_eq (a:=true) rfl ?_)
 refine bm_if_false rfl ?_
 refine wpAny_bind (wpAny_of_eq F.bm_sub ?_)
 refine bm_if_false rfl ?_
 refine wpAny_bind (wpAny_of_eq (F.bm_bind _) ?_)
 refine wpAny_bind (wpAny_of_eq (a:=()) rfl ?_)
 refine wpAny_bind (wpAny_of_eq (a:=()) rfl ?_)
 refine bm_if_false rfl ?_
 refine wpAny_bind (wpAny_specialOf hT BF.int_no_bytes ?_)
 refine wpAny_bind (wpAny_of_eq (a:=false) rfl ?_)
 refine bm_if_false rfl ?_
 refine wpAny_bind (wpAny_specialOf hT (by refine sE (typeLookup_type ..) (sE builtinLookup_eq_fast ?_);kernel_rfl:typeLookup (.type "int") "__index__" = pure (some (.builtin "int.__index__"))) ?_)
 refine bm_if_false rfl ?_
 refine wpAny_bind (wpAny_attempt (wpAny_of_eq (a:=n) rfl ?_))
 dsimp only
 refine bm_if_false (by unfold Builtin.Bytes.fitsIndex;simp;lia) ?_
 refine wpAny_ite ?_
 refine sE (if_neg (by lia)) ?_
 refine wpAny_ite ?_
 refine sE (if_neg (by lia)) ?_
 refine bm_if_false (by simp only [Builtin.Bytes.tooLong,sizeLine_eq,decide_eq_false_iff_not];lia) ?_
 refine wpAny_bind (wpAny_rule ?_)
 have e:Array.replicate n.toNat (0:UInt8)=bA (List.replicate n.toNat 0):=by
  unfold bA;refine sE List.map_replicate ?_;rfl
 refine sE e ?_
 exact wpAny_bind (wpAny_mkBytes (wpAny_pure (k _ _)) (by refine sE (XZx ..) (sE List.length_replicate (sE sizeLine_eq ?_));lia))
end
end
section
theorem GZh:Slot "bytearray_iterator" "__iter__" "bytearray_iterator.__iter__" :=
 .of (owner := "bytearray_iterator") (n := "__iter__") (by refine sE (typeLookup_type ..) (sE builtinLookup_eq_fast ?_);kernel_rfl) (by decide +kernel) (by decide +kernel) (by decide +kernel)
  (by first | exact .inl (by decide +kernel) | exact .inr (by decide +kernel)) (by refine sE (isSubtype_type ..) ?_;kernel_rfl)
theorem DZw:entryFor table "bytearray_iterator.__iter__" = some Builtin.«dict_keyiterator.__iter__»:=by first | exact entryFor_alias (id' := "dict_keyiterator.__iter__") (by kernel_rfl) rfl (by decide +kernel) (by kernel_rfl) | exact entryFor_of_tree (by kernel_rfl)
theorem BZf (a:Value):argsOk "bytearray_iterator.__iter__" ⟨[a],[]⟩:=by unfold argsOk;kernel_rfl
section
variable {prog:Program} {w:World} {A:Around} {E:Value->Shared->Prop} {s:Shared} {a:Addr} {ks ls:List Int} {t:Tok}
theorem ba_getItem {k:Int} {Q:Value->Shared->Prop} (ho:s.heap.get? a=some (baO ks)) (hb:InB ks) (h0:0<=k) (h1:k<ks.length) (hz:ks.length<=16777216)
  (hQ:∀ t tk,Q (.int (ks.getD k.toNat 0) t) { s with toks:=tk }):wpAny (model prog w) A (getItem (.ref a) (.int k t)) Q E s:=by
 refine wpAny_getItem_slot (YZu ho) (by decide) BF.slot_getitem (wpAny_call_entry BF.slot_getitem (YZu ho) BF.entry_getitem ?_ (BF.args_getitem _ _))
 unfold Builtin.«bytearray.__getitem__»
 refine wpAny_bind (m:=slotArgs _ _ _) (wpAny_pure ?_)
 dsimp only
 refine wpAny_bind (m:=Builtin.Bytes.subscript? _) ?_
 unfold Builtin.Bytes.subscript?
 refine wpAny_bind (wpAny_specialOf (typeIs_int _ _ _) (by refine sE (typeLookup_type ..) (sE builtinLookup_eq_fast ?_);kernel_rfl:typeLookup (.type "int") "__index__" = pure (some (.builtin "int.__index__"))) ?_)
 refine bm_if_false rfl ?_
 refine wpAny_bind (wpAny_of_eq (a:=k) rfl ?_)
 refine bm_if_false (by unfold Builtin.Bytes.fitsIndex;simp;lia) ?_
 refine wpAny_pure ?_
 dsimp only
 refine wpAny_bind (UZf ho ?_)
 have e:(seqIndex? k (bA ks).size).bind (fun i=>(bA ks)[i]?)=some (ks.getD k.toNat 0).toNat.toUInt8:=by
  refine sE (XZx ..) ?_
  have:seqIndex? k ks.length=some k.toNat:=seq_i (by lia) (by lia)
  refine sE this ?_
  exact NZx (by lia)
 refine sE e ?_
 refine wpAny_bind (wpAny_mkInt (wpAny_pure ⟨_,rfl,?_⟩))
 refine sE (XZ4 (hb.getD _)) ?_
 exact hQ _ _
noncomputable def UZ2 (h:Heap) (I a:Addr) (i:Nat):Prop:=∃ o,h.get? I=some o/\o.cls=.type "bytearray_iterator" /\ o.data=.fields #[.ref a,.int i 0]
theorem YZ8 {I:Addr} {i:Nat} (y:UZ2 s.heap I a i):s.TypeIs (.ref I) "bytearray_iterator" := J1 y fun o ho hc _=>⟨o,ho,hc⟩
theorem ba_pyIter {Q:Value->Shared->Prop} (ho:s.heap.get? a=some (baO ks)) (hQ:Q (.ref s.heap.objs.size) { s with heap:=s.heap.push { cls:=.type "bytearray_iterator", data:=.fields #[.ref a,.int 0 0] } }):wpAny (model prog w) A (pyIter (.ref a)) Q E s:=by
 refine wpAny_pyIter_slot (YZu ho) BF.slot_iter (wpAny_call_entry BF.slot_iter (YZu ho) BF.entry_iter ?_ (BF.args_iter _))
 show wpAny _ _ (do ret (<- newFields "bytearray_iterator" [.ref a,rawInt 0])) _ _ s
 exact wpAny_bind (wpAny_newObj_type (wpAny_pure ⟨_,rfl, "bytearray_iterator", _,⟨_,Heap.get?_push_size _ rfl,rfl⟩,BF.slot_next.lookup,hQ⟩))
theorem BZd {I:Addr} {i:Nat} {Q:Option Value->Shared->Prop} (hit:UZ2 s.heap I a i) (ho:s.heap.get? a=some (baO ks)) (hb:InB ks) (hi:i<ks.length)
  (hQ:∀ h',UZ2 h' I a (i+1)->Heap.SameBut I s.heap h'->∀ t tk,Q (some (.int (ks.getD i 0) t)) { s with heap:=h',toks:=tk }):wpAny (model prog w) A (pyNext (.ref I)) Q E s:=by
 refine J1 (id hit) fun o hI hc hd=>?_
 unfold pyNext
 refine wpAny_bind (wpAny_attempt (wpAny_callSpecial?_slot (name:=PySem.Str.ofString "__next__") (YZ8 hit) BF.slot_next
  (wpAny_call_entry BF.slot_next (YZ8 hit) BF.entry_next ?_ (BF.args_next _))))
 show wpAny _ _ (field (.ref I) 0 >>= _) _ _ s
 refine wpAny_bind (wpAny_field hI hd (x:=.ref a) rfl ?_)
 show wpAny _ _ (load a >>= _) _ _ s
 refine wpAny_bind (wpAny_load ho ?_)
 show wpAny _ _ (field (.ref I) 1 >>= _) _ _ s
 refine wpAny_bind (wpAny_field hI hd (x:=.int i 0) rfl ?_)
 simp only [Int.toNat_natCast,NZx hi]
 refine wpAny_bind (wpAny_setField hI hd (by simp) (wpAny_bind (wpAny_mkInt (wpAny_pure ⟨_,rfl,wpAny_pure ?_⟩))))
 refine sE (XZ4 (hb.getD _)) ?_
 exact hQ _ ⟨_,Heap.get?_update_self _ hI (Obj.isFreed_of_fields (Obj.data_mapFields hd _)),(Obj.cls_mapFields ..).trans hc,by
  rw [Obj.data_mapFields hd];simp [rawInt]⟩ (Heap.SameBut.update ..) _ _
theorem NZb {I:Addr} {i:Nat} {Q:Option Value->Shared->Prop} (hh:A.handled=none) (hit:UZ2 s.heap I a i) (ho:s.heap.get? a=some (baO ks)) (hi:i=ks.length)
  (hQ:∀ h',Heap.ExtBut I s.heap h'->Q none { s with heap:=h' }):wpAny (model prog w) A (pyNext (.ref I)) Q E s:=by
 refine J1 (id hit) fun o hI hc hd=>?_
 unfold pyNext
 refine wpAny_bind (wpAny_attempt (wpAny_callSpecial?_slot (name:=PySem.Str.ofString "__next__") (YZ8 hit) BF.slot_next
  (wpAny_call_entry BF.slot_next (YZ8 hit) BF.entry_next ?_ (BF.args_next _))))
 show wpAny _ _ (field (.ref I) 0 >>= _) _ _ s
 refine wpAny_bind (wpAny_field hI hd (x:=.ref a) rfl ?_)
 show wpAny _ _ (load a >>= _) _ _ s
 refine wpAny_bind (wpAny_load ho ?_)
 show wpAny _ _ (field (.ref I) 1 >>= _) _ _ s
 refine wpAny_bind (wpAny_field hI hd (x:=.int i 0) rfl ?_)
 have e:(bA ks)[i]?=none:=by rw [Array.getElem?_eq_none];refine sE (XZx ..) (sE hi ?_);exact Nat.le_refl _
 simp only [Int.toNat_natCast,e]
 refine wpAny_bind (wpAny_rule (wpAny_bind (wpAny_setField hI hd (by simp) (wpAny_bind (wpAny_letGo ?_)))))
 show wpAny _ _ (newExc (.type "StopIteration") [] >>= _) _ _ _
 refine wpAny_bind ?_
 simp only [newExc,newTuple]
 refine wpAny_bind (wpAny_newObj_type ?_ (by size_fits))
 refine wpAny_bind (m:=firstArgMember _ _) (wpAny_of_eq (a:=Value.none) (by first | rfl | (simp only [firstArgMember];rfl)) ?_)
 refine wpAny_newObj_type ?_ (by size_fits)
 simp only [raiseNew]
 refine wpAny_bind (wpAny_handled ?_)
 refine sE (show A.in1.handled=none from hh) ?_
 refine wpAny_bind (wpAny_pure (wpAny_throw ?_))
 refine wpAny_bind (wpAny_isInstance (T := "StopIteration") (b:=true) ⟨_,Heap.get?_push_size _ rfl,rfl⟩ isSubtype_stop ?_)
 exact wpAny_pure (hQ _ (((Heap.SameBut.update ..).extBut.push _).push _))
theorem walks_ba (hh:A.handled=none) (I:Addr) (hne:a≠I) (hb:InB ks) :
  Walks prog w A I [I,a] [I] ks.length (fun i v=>∃ u,v=.int (ks.getD i 0) u) (fun i h=>UZ2 h I a i/\h.get? a=some (baO ks)) where
 sub:=fun b hb=>by refine sE (mS hb) ?_;exact List.mem_cons_self ..
 frame:=fun _ _ _ st hk=>⟨J0 st.1 fun o ho r=>⟨o,hk I (by exact mm0) o ho,r⟩,hk a (by exact mm1) _ st.2⟩
 item:=fun i s Q E hi st hQ=>by
  refine BZd st.1 st.2 hb hi fun h' hit' hs' t tk=>?_
  exact hQ _ h' tk ⟨_,rfl⟩ ⟨hit',(hs'.2 a hne).trans st.2⟩ fun b o hb e=>hs'.extBut b o (fun h=>hb (by simp [h])) e
 done:=fun s Q E st hQ=>NZb hh st.1 st.2 rfl fun h' he'=>hQ h' s.toks fun b o hb e=>he' b o (fun h=>hb (by simp [h])) e
 self:=fun i s Q E st hQ=>by
  refine wpAny_pyIter_slot (YZ8 st.1) GZh (wpAny_call_entry GZh (YZ8 st.1) DZw ?_ (BZf _))
  show wpAny _ _ (ret (.ref I)) _ _ s
  exact wpAny_pure ⟨_,rfl, "bytearray_iterator", _,YZ8 st.1,BF.slot_next.lookup,hQ⟩
theorem Src.ba (hh:A.handled=none) {h:Heap} (hb:InB ks) (ho:h.get? a=some (baO ks)):Src prog w A (.ref a) h (ks.map I):=by
 intro s Q E e k
 subst e
 have lt:=Heap.lt_size ho
 refine ba_pyIter ho ?_
 refine k _ _ s.toks _ _ _ (YZg _) (Grows.push _ _) (by refine sE (Heap.size_push ..) ?_;exact Nat.lt_succ_self _)
  (Walks.weak (walks_ba hh s.heap.objs.size (Nat.ne_of_lt lt) hb) (by simp) (fun i v hi p=>?_)) ⟨⟨_,Heap.get?_push_size _ rfl,rfl,rfl⟩,Heap.get?_push_of_some _ ho⟩ (fun i h st b hb=>by
   rcases mC hb with rfl | hb
   ·obtain ⟨⟨o,ho,_⟩,_⟩:=st;exact ⟨o,ho⟩
   ·refine sE (mS hb) ?_;exact ⟨_,st.2⟩) ?_ ?_
 ·obtain ⟨u,rfl⟩:=p
  show I _=_
  refine sE List.getD_eq_getElem?_getD (sE List.getD_eq_getElem?_getD (sE List.getElem?_map (sE (List.getElem?_eq_getElem hi) ?_)));rfl
 ·intro b hb
  rcases mC hb with rfl | hb
  ·exact .inl rfl
  ·exact .inr (by exact sE (mS hb) rfl)
 ·intro b hb;exact mS hb
end
end
section
namespace BF
theorem tup_no_buffer:typeLookup (.type "tuple") "__buffer__" = pure none:=by refine sE (typeLookup_type ..) (sE builtinLookup_eq_fast ?_);kernel_rfl
theorem tup_len:typeLookup (.type "tuple") "__len__" = pure (some (.builtin "tuple.__len__")):=by refine sE (typeLookup_type ..) (sE builtinLookup_eq_fast ?_);kernel_rfl
theorem list_len:typeLookup (.type "list") "__len__" = pure (some (.builtin "list.__len__")):=by refine sE (typeLookup_type ..) (sE builtinLookup_eq_fast ?_);kernel_rfl
theorem tup_split:splitId "tuple.__len__" = some ("tuple", "__len__"):=by decide +kernel
theorem sub_tuple:isSubtype (.type "tuple") (.type "tuple")=pure true:=by refine sE (isSubtype_type ..) ?_;kernel_rfl
end BF
section
variable {prog:Program} {w:World} {A:Around} {E:Value->Shared->Prop} {s:Shared} {a:Addr} {ks ls:List Int} {t:Tok}
theorem hint_list {it:Addr} {Q:Unit->Shared->Prop} (hT:s.TypeIs (.ref it) "list") (h:Q () s):wpAny (model prog w) A (Builtin.Bytes.lengthHint "bytearray.extend" (.ref it)) Q E s:=by
 unfold Builtin.Bytes.lengthHint
 refine wpAny_bind (wpAny_specialOf hT BF.list_len ?_)
 dsimp only
 refine sE F.bm_split ?_
 dsimp only
 refine wpAny_bind (wpAny_isInstance hT F.bm_sub_list ?_)
 refine bm_if_false rfl ?_
 refine bm_if_true (by decide +kernel) ?_
 exact wpAny_pure h
theorem NZ4 {it:Addr} {Q:Unit->Shared->Prop} (hT:s.TypeIs (.ref it) "tuple") (h:Q () s):wpAny (model prog w) A (Builtin.Bytes.lengthHint "bytearray.extend" (.ref it)) Q E s:=by
 unfold Builtin.Bytes.lengthHint
 refine wpAny_bind (wpAny_specialOf hT BF.tup_len ?_)
 dsimp only
 refine sE BF.tup_split ?_
 dsimp only
 refine wpAny_bind (wpAny_isInstance hT BF.sub_tuple ?_)
 refine bm_if_false rfl ?_
 refine bm_if_true (by decide +kernel) ?_
 exact wpAny_pure h
theorem LsAt.int {h:Heap} {it:Addr} (x:LsAt h it (ls.map I)):∃ vs:List Value,h.IsList it vs.toArray/\vs.length=ls.length/\∀ i v,vs.toArray[i]?=some v->∃ t,v=Value.int (ls.getD i 0) t:=by
 refine J0 x fun vs hlp e=>?_;clear x
 have hl:=hlp.isList
 have hlen:vs.length=ls.length:=by have:=congrArg List.length e;simpa using this
 refine ⟨vs,hl,hlen,fun i v hv=>?_⟩
 have:=VZ8 vs hv
 rw [e] at this
 have hi:i<ls.length:=by
  refine sF hlen ?_
  have:i<vs.toArray.size:=by
   rcases Nat.lt_or_ge i vs.toArray.size with h | h
   ·exact h
   ·rw [Array.getElem?_eq_none h] at hv;cases hv
  simpa using this
 rw [List.getD_eq_getElem?_getD,List.getElem?_map,List.getElem?_eq_getElem hi] at this
 refine tkI this fun t=>?_
 exact ⟨t,by refine sE List.getD_eq_getElem?_getD (sE (List.getElem?_eq_getElem hi) ?_);rfl⟩
theorem TpAt.int {h:Heap} {it:Addr} (x:TpAt h it (ls.map I)):∃ vs:List Value,h.IsTuple it vs.toArray/\vs.length=ls.length/\∀ i v,vs.toArray[i]?=some v->∃ t,v=Value.int (ls.getD i 0) t:=by
 refine J0 x fun vs hl e=>?_;clear x
 have hlen:vs.length=ls.length:=by have:=congrArg List.length e;simpa using this
 refine ⟨vs,hl,hlen,fun i v hv=>?_⟩
 have:=VZ8 vs hv
 rw [e] at this
 have hi:i<ls.length:=by
  refine sF hlen ?_
  have:i<vs.toArray.size:=by
   rcases Nat.lt_or_ge i vs.toArray.size with h | h
   ·exact h
   ·rw [Array.getElem?_eq_none h] at hv;cases hv
  simpa using this
 rw [List.getD_eq_getElem?_getD,List.getElem?_map,List.getElem?_eq_getElem hi] at this
 refine tkI this fun t=>?_
 exact ⟨t,by refine sE List.getD_eq_getElem?_getD (sE (List.getElem?_eq_getElem hi) ?_);rfl⟩
theorem ba_extL {it:Addr} {Q:Value->Shared->Prop} (hh:A.handled=none) (ho:s.heap.get? a=some (baO ks)) (hz:ks.length+ls.length<=sizeLine) (hls:InB ls) (hl:LsAt s.heap it (ls.map I)) (hait:a≠it)
  (h:∀ h' tk,h'.get? a=some (baO (ks++ls))->(∀ b o,b≠a->s.heap.get? b=some o->h'.get? b=some o)->Q .none { s with heap:=h',toks:=tk }):wpC (model prog w) A (PySem.call (.builtin "bytearray.extend") [.ref a,.ref it]) Q E s:=by
 refine J1 hl.int fun vs hl hlen hv=>?_
 have hne:it<s.heap.objs.size:=by refine J0 hl fun o ho _=>?_;clear hl;exact Heap.lt_size ho
 refine BZe (T := "list") (P:=fun i v=>vs.toArray[i]?=some v) (fp:=fun I=>[I,it]) (wr:=fun I=>[I]) (St:=fun I i h=>h.IsListIter I it i/\h.IsList it vs.toArray) ho hz hls hl.typeIs F.bm_no_buffer BF.list_len (fun hT q=>hint_list hT q) hait ?_ (fun I b hb=>mS hb) (fun Q E k=>?_) hv h
 ·intro I b hb
  rcases mC hb with rfl | hb
  ·exact .inl rfl
  ·exact .inr (mS hb)
 ·refine wpAny_pyIter_list hl (k _ _ (YZg _) (Grows.push _ _) ⟨⟨_,Heap.get?_push_size _ rfl,rfl,rfl⟩,hl.push _⟩ ?_ (by refine sE (Heap.size_push ..) ?_;exact Nat.lt_succ_self _))
  have:=Walks.list (prog:=prog) (w:=w) (A:=A.in1) hh s.heap.objs.size it (Nat.ne_of_lt hne) vs.toArray
  rwa [show vs.toArray.size=ls.length by exact sE List.size_toArray (sE hlen rfl)] at this
theorem ba_extT {it:Addr} {Q:Value->Shared->Prop} (hh:A.handled=none) (ho:s.heap.get? a=some (baO ks)) (hz:ks.length+ls.length<=sizeLine) (hls:InB ls) (hl:TpAt s.heap it (ls.map I)) (hait:a≠it)
  (h:∀ h' tk,h'.get? a=some (baO (ks++ls))->(∀ b o,b≠a->s.heap.get? b=some o->h'.get? b=some o)->Q .none { s with heap:=h',toks:=tk }):wpC (model prog w) A (PySem.call (.builtin "bytearray.extend") [.ref a,.ref it]) Q E s:=by
 refine J1 hl.int fun vs hl hlen hv=>?_
 have hne:it<s.heap.objs.size:=by refine J0 hl fun o ho _=>?_;clear hl;exact Heap.lt_size ho
 refine BZe (T := "tuple") (P:=fun i v=>vs.toArray[i]?=some v) (fp:=fun I=>[I,it]) (wr:=fun I=>[I]) (St:=fun I i h=>h.IsTupleIter I it i/\h.IsTuple it vs.toArray) ho hz hls hl.typeIs BF.tup_no_buffer BF.tup_len (fun hT q=>NZ4 hT q) hait ?_ (fun I b hb=>mS hb) (fun Q E k=>?_) hv h
 ·intro I b hb
  rcases mC hb with rfl | hb
  ·exact .inl rfl
  ·exact .inr (mS hb)
 ·refine wpAny_pyIter_tuple hl (k _ _ (YZg _) (Grows.push _ _) ⟨⟨_,Heap.get?_push_size _ rfl,rfl,rfl⟩,hl.push _⟩ ?_ (by refine sE (Heap.size_push ..) ?_;exact Nat.lt_succ_self _))
  have:=Walks.tuple (prog:=prog) (w:=w) (A:=A.in1) hh s.heap.objs.size it (Nat.ne_of_lt hne) vs.toArray
  rwa [show vs.toArray.size=ls.length by exact sE List.size_toArray (sE hlen rfl)] at this
theorem HZi {p:Value->Bool}:∀ {vs:List Value} {ls:List Int},InB ls->vs.map tk0=ls.map I->(∀ i t,p (.int i t)=(decide (0<=i)&&decide (i<256)))->vs.takeWhile p=vs
 | [],[],_,_,_=>rfl
 | [],_::_,_,e,_=>by cases e
 | _::_,[],_,e,_=>by cases e
 | v::vs,k::ls,hk,e,hp=>by
  obtain ⟨e1,e2⟩:=List.cons.inj e
  refine tkI e1 fun t=>?_
  have hkk:=hk k (List.mem_cons_self ..)
  refine sE List.takeWhile_cons (sE (hp ..) ?_)
  simp only [hkk.1,hkk.2,decide_true,Bool.and_self,if_true]
  exact sE (HZi (fun x hx=>hk x (List.mem_cons_of_mem _ hx)) e2 hp) rfl
theorem GZ5 {f:Value->Option UInt8}:∀ {vs:List Value} {ls:List Int},vs.map tk0=ls.map I->(∀ i t,f (.int i t)=some i.toNat.toUInt8)->(vs.filterMap f).toArray=bA ls
 | [],[],_,_=>rfl
 | [],_::_,e,_=>by cases e
 | _::_,[],e,_=>by cases e
 | v::vs,k::ls,e,hf=>by
  obtain ⟨e1,e2⟩:=List.cons.inj e
  refine tkI e1 fun t=>?_
  have ih:=congrArg Array.toList (GZ5 e2 hf)
  simp only [bA] at ih ⊢
  refine sE List.filterMap_cons (sE (hf ..) (sE List.map_cons ?_))
  simp only
  exact sE ih rfl
theorem ba_newL {it:Addr} {Q:Value->Shared->Prop} (hls:InB ls) (hz:ls.length<=sizeLine) (hl:LsAt s.heap it (ls.map I))
  (h:∀ h' a,s.heap.get? a=none->h'.get? a=some (baO ls)->Grows s.heap h'->Q (.ref a) { s with heap:=h' }):wpC (model prog w) A (PySem.call (.type "bytearray") [.ref it]) Q E s:=by
 refine DZa (Q₁:=fun obj s₁=>obj=.ref s.heap.objs.size/\s₁={ s with heap:=s.heap.push (baO []) }) BF.called (BF.typeCall1 _) (KZj [.ref it] (BF.newCall1 _) ⟨rfl,rfl⟩) ?_ (by show YZ5.contains "type.__call__" = false;decide +kernel)
 rintro obj s₁ ⟨rfl,rfl⟩
 have hn:=YZg s.heap
 have ho:(s.heap.push (baO [])).get? s.heap.objs.size=some (baO []):=Heap.get?_push_size _ rfl
 refine J0 hl fun vs hlp e=>?_;clear hl
 refine J7 hlp.isList fun o hol hc n hd=>?_
 have hit:it≠s.heap.objs.size:=Nat.ne_of_lt (Heap.lt_size hol)
 refine ⟨YZu ho,XZ0 BF.slot_init (YZu ho) BF.entry_init ?_ (BF.args_init _ _ (.inr ⟨_,rfl⟩)) (by show YZ5.contains "bytearray.__init__" = false;decide +kernel)⟩
 unfold Builtin.«bytearray.__init__»
 refine YZa (YZb (VZv ho ?_))
 refine VZf rfl ?_
 refine YZa (YZb (wpAny_of_eq (BF.ba_bind _) ?_))
 dsimp only
 refine YZa (m:=Builtin.Bytes.checkCodecArg _ _ _ none) (YZc ?_)
 refine YZa (m:=Builtin.Bytes.checkCodecArg _ _ _ none) (YZc ?_)
 refine YZa (KZn ho ?_)
 refine VZf rfl ?_
 refine YZa (GZc ho (ls:=[]) rfl (Nat.zero_le _) fun h' g sb=>?_)
 have old:∀ b o,s.heap.get? b=some o->h'.get? b=some o:=fun b o e=>(sb.2 b (Nat.ne_of_lt (Heap.lt_size e))).trans (Heap.get?_push_of_some _ e)
 have hT:({ s with heap:=h' }:Shared).TypeIs (.ref it) "list" := ⟨_,old _ _ hol,hc⟩
 dsimp only
 refine YZa (YZb ?_)
 refine wpAny_bind ?_
 show wpAny _ _ (load it >>= _) _ _ _
 refine wpAny_bind (wpAny_load (old _ _ hol) ?_)
 refine wpAny_pure ?_
 refine sE hd ?_
 refine wpAny_pure ?_
 refine VZf rfl ?_
 refine YZa (m:=(Pure.pure ():Sem Unit)) (YZc ?_)
 refine YZa (YZb (wpAny_specialOf hT F.bm_no_index ?_))
 refine VZf rfl ?_
 refine YZa (m:=Builtin.Bytes.buffer? _ _ _) (YZb ?_)
 unfold Builtin.Bytes.buffer?
 refine wpAny_bind (wpAny_specialOf hT F.bm_no_buffer ?_)
 refine wpAny_bind (wpAny_specialOf hT F.bm_no_buffer ?_)
 refine wpAny_pure ?_
 dsimp only
 refine YZa (YZb (wpAny_typeOf hT ?_))
 refine c_ifT rfl ?_
 refine YZa (m:=seqItems? (.ref it)) (YZb ?_)
 refine wpAny_bind (wpAny_load (old _ _ hol) ?_)
 refine sE hd ?_
 refine wpAny_pure ?_
 dsimp only
 refine sE (HZi hls e (fun _ _=>rfl)) (sE (GZ5 e (fun _ _=>rfl)) ?_)
 have e3:vs.toArray[vs.length]?=none:=by simp
 refine sE e3 ?_
 dsimp only
 refine YZa (YZb (wpAny_rule ?_))
 refine YZa (GZc g (ls:=ls) rfl hz fun h2 g2 sb2=>?_)
 refine YZa (YZc ?_)
 refine YZc ⟨rfl,h h2 _ hn g2 fun b o e=>?_⟩
 exact (sb2.2 b (Nat.ne_of_lt (Heap.lt_size e))).trans (old b o e)
end
end
section
section
variable {prog:Program} {w:World} {A:Around} {env:Env} {P:HP} {pos p1 p2 fp:Pos} {e t:PySem.Expr} {es:List PySem.Expr} {c:Value} {cs:List Value} {ks ls:List Int} {k:Int} {K:Frag} {h₀:Heap} {μ:Str->Option Value} {rest:List Stmt} {N:HP} {Rt X:Value->HP} {R:HP} {x fx:Str} {W:List Addr} {a:Addr} {id:String} {V V':Value->HP}
theorem EvP.callT1 (hf:Ev (model prog w) A env P (.Name fx fp) (.type id)) (ha:EvP (model prog w) A env P e V)
  (ho:∀ (s:Shared) (Q:Value->Shared->Prop) E v,P s.heap->V (tk0 v) s.heap->(∀ x h' tk,V' (tk0 x) h'->P h'->Q x { s with heap:=h',toks:=tk })->wpC (model prog w) A (PySem.call (.type id) [v]) Q E s)
  (he:autoParam (eval (.Call (.Name fx fp) [e] [] pos) env=(do let f <- eval (.Name fx fp) env;callWith pos f [] (backTo pos (starEach [e] env)) [])) tR)
  (he2:autoParam (starEach [e] env=(false,eval e env)::starEach [] env) tR) (hpl:autoParam ((backTo pos (starEach [e] env)).any (·.1)=false) tR):EvP (model prog w) A env P (.Call (.Name fx fp) [e] [] pos) V':=fun s Q E p kk=>by
 refine YZx (hf s _ E p fun v h1 tk1 x=>?_) he
 refine sE (DZg x.1) ?_
 refine XZr hpl ?_
 have ha':=YZ0 (pos:=pos) (es:=[]) (e:=e) (env:=env) (E:=E) (Q:=fun vs s₂=>wpC (model prog w) A (PySem.call (.type id) ([]++vs) []) Q E s₂) (ha { s with heap:=h1,toks:=tk1 } _ E x.2 fun v h2 tk2 y=>YZb (wpAny_items_nil ?_)) he2
 ·rw [he2] at ha' ⊢
  exact YZ6 ha'
 ·exact ho _ _ _ v y.2 y.1 fun v h3 tk3 e g=>kk v h3 tk3 ⟨e,g⟩
theorem EvP.callB1 (hf:Ev (model prog w) A env P (.Name fx fp) (.builtin id)) (ha:EvP (model prog w) A env P e V)
  (ho:∀ (s:Shared) (Q:Value->Shared->Prop) E v,P s.heap->V (tk0 v) s.heap->(∀ x h' tk,V' (tk0 x) h'->P h'->Q x { s with heap:=h',toks:=tk })->wpC (model prog w) A (PySem.call (.builtin id) [v]) Q E s)
  (he:autoParam (eval (.Call (.Name fx fp) [e] [] pos) env=(do let f <- eval (.Name fx fp) env;callWith pos f [] (backTo pos (starEach [e] env)) [])) tR)
  (he2:autoParam (starEach [e] env=(false,eval e env)::starEach [] env) tR) (hpl:autoParam ((backTo pos (starEach [e] env)).any (·.1)=false) tR):EvP (model prog w) A env P (.Call (.Name fx fp) [e] [] pos) V':=fun s Q E p kk=>by
 refine YZx (hf s _ E p fun v h1 tk1 x=>?_) he
 refine sE (KZx x.1) ?_
 refine XZa hpl ?_
 have ha':=YZ0 (pos:=pos) (es:=[]) (e:=e) (env:=env) (E:=E) (Q:=fun vs s₂=>wpC (model prog w) A (PySem.call (.builtin id) ([]++vs) []) Q E s₂) (ha { s with heap:=h1,toks:=tk1 } _ E x.2 fun v h2 tk2 y=>YZb (wpAny_items_nil ?_)) he2
 ·rw [he2] at ha' ⊢
  exact YZ6 ha'
 ·exact ho _ _ _ v y.2 y.1 fun v h3 tk3 e g=>kk v h3 tk3 ⟨e,g⟩
theorem Tr.method1 {o:PySem.Expr} {name:Str} {apos:Pos} {id:String} {V':Value->HP} (hb:Ev (model prog w) A env P o c) (ha:EvP (model prog w) A env P e V)
  (hm:∀ (s:Shared) (pl:Sem Bool) (Q:Value×List Value->Shared->Prop) E ov,P s.heap->tk0 ov=c->Q (.builtin id,[ov]) s->wpAny (model prog w) A (getMethod ov name pl) Q E s)
  (hc:∀ (s:Shared) (Q:Value->Shared->Prop) E ov v,P s.heap->tk0 ov=c->V (tk0 v) s.heap->(∀ x h' tk,V' x h'->Q x { s with heap:=h',toks:=tk })->wpC (model prog w) A (PySem.call (.builtin id) [ov,v]) Q E s)
  (hbase:autoParam (attributeBase o name env (eval o env)=eval o env) tR) (hline:autoParam ((apos.endLine==pos.line)=true) tR) (hfew:autoParam (methodCallForm ([e].length+([]:List Keyword).length) (backTo pos (starEach [e] env)) (backToKw pos (keywordEach [] env))=true) tR)
  (he2:autoParam (starEach [e] env=(false,eval e env)::starEach [] env) tR) (hpl:autoParam ((backTo pos (starEach [e] env)).any (·.1)=false) tR) :
  Tr (model prog w) A P (eval (.Call (.Attribute o name apos) [e] [] pos) env) V':=fun s Q E p k=>by
 refine sE (arm_eval_Call ..) (sE hbase ?_)
 refine YZa (hb s _ E p fun ov h1 tk1 x=>?_)
 refine YZa (YZd ?_)
 unfold methodCall
 refine sE hfew ?_
 refine YZa (YZe (YZb (hm { s with heap:=h1,toks:=tk1 } _ _ _ ov x.2 x.1 ?_)))
 have hpos:methodCallPos true o env apos pos=Pure.pure pos:=by unfold methodCallPos;simp [hline]
 refine YZa (YZb (wpAny_of_eq hpos ?_))
 refine XZa hpl ?_
 have ha':=YZ0 (pos:=pos) (es:=[]) (e:=e) (env:=env) (E:=E) (Q:=fun vs s₂=>wpC (model prog w) A (PySem.call (.builtin id) ([ov]++vs) []) Q E s₂) (ha { s with heap:=h1,toks:=tk1 } _ E x.2 fun v h2 tk2 y=>YZb (wpAny_items_nil ?_)) he2
 ·rw [he2] at ha' ⊢
  exact YZ6 ha'
 ·exact hc _ _ _ ov v y.2 x.1 y.1 fun v h3 tk3 e=>k v h3 tk3 e
theorem IntsAre.of:∀ {vs:List Value} {ls:List Int},vs.map tk0=ls.map I->IntsAre vs ls
 | [],[],_=>by constructor
 | [],_::_,e=>by cases e
 | _::_,[],e=>by cases e
 | v::vs,k::ls,e=>by
  obtain ⟨e1,e2⟩:=List.cons.inj e
  refine tkI e1 fun t=>?_
  exact PyProof.Rows.IntsAre.cons _ _ (IntsAre.of e2)
theorem Ev.bytesL (C:Cx K env h₀ μ P) (hh:A.handled=none) (hls:InB ls) (hz:ls.length<=sizeLine) (hf:Ev (model prog w) A env P (.Name "bytes" fp) (.type "bytes")) (ha:EvP (model prog w) A env P e (fun v h=>∃ a,v=.ref a/\LsAt h a (ls.map I)))
  (he:autoParam (eval (.Call (.Name "bytes" fp) [e] [] pos) env=(do let f <- eval (.Name "bytes" fp) env;callWith pos f [] (backTo pos (starEach [e] env)) [])) tR)
  (he2:autoParam (starEach [e] env=(false,eval e env)::starEach [] env) tR) (hpl:autoParam ((backTo pos (starEach [e] env)).any (·.1)=false) tR):Ev (model prog w) A env P (.Call (.Name "bytes" fp) [e] [] pos) (By ls) :=
 EvP.callT1 (V':=fun v _=>v=By ls) hf ha (fun s Q E v p q kk=>by
  refine J8 q fun a e1 vs hlp e2=>?_;clear q
  have hl:=hlp.isList
  refine sE (YZh e1) ?_
  have hlen:vs.length=ls.length:=by have:=congrArg List.length e2;simpa using this
  exact YZb (call_bytes_ints hl (IntsAre.of e2) hls (by refine sE hlen ?_;exact hz) hh fun h' t k hk=>kk _ h' k rfl (C.grow _ _ hk p))) he he2 hpl
theorem Ev.bytesA (hz:ks.length<=sizeLine) (hf:Ev (model prog w) A env P (.Name "bytes" fp) (.type "bytes")) (ha:Ev (model prog w) A env P e (.ref a)) (hb:∀ h,P h->h.get? a=some (baO ks))
  (he:autoParam (eval (.Call (.Name "bytes" fp) [e] [] pos) env=(do let f <- eval (.Name "bytes" fp) env;callWith pos f [] (backTo pos (starEach [e] env)) [])) tR)
  (he2:autoParam (starEach [e] env=(false,eval e env)::starEach [] env) tR) (hpl:autoParam ((backTo pos (starEach [e] env)).any (·.1)=false) tR):Ev (model prog w) A env P (.Call (.Name "bytes" fp) [e] [] pos) (By ks) :=
 EvP.callT1 (V':=fun v _=>v=By ks) hf ha.toP (fun s Q E v p q kk=>by
  refine sE (YZh q) ?_
  exact YZb (bytes_ba (hb _ p) hz fun t tk=>kk _ s.heap tk rfl p)) he he2 hpl
theorem Ev.bytesB {b:Array UInt8} (hf:Ev (model prog w) A env P (.Name "bytes" fp) (.type "bytes")) (ha:Ev (model prog w) A env P e (.bytes b 0))
  (he:autoParam (eval (.Call (.Name "bytes" fp) [e] [] pos) env=(do let f <- eval (.Name "bytes" fp) env;callWith pos f [] (backTo pos (starEach [e] env)) [])) tR)
  (he2:autoParam (starEach [e] env=(false,eval e env)::starEach [] env) tR) (hpl:autoParam ((backTo pos (starEach [e] env)).any (·.1)=false) tR):Ev (model prog w) A env P (.Call (.Name "bytes" fp) [e] [] pos) (.bytes b 0) :=
 EvP.callT1 (V':=fun v _=>v=.bytes b 0) hf ha.toP (fun s Q E v p q kk=>by
  refine tkB q fun t=>?_
  exact YZb (BZ9 fun t tk=>kk _ s.heap tk rfl p)) he he2 hpl
theorem Ev.bytesZ (h0:0<=k) (h1:k<=1000) (hf:Ev (model prog w) A env P (.Name "bytes" fp) (.type "bytes")) (ha:Ev (model prog w) A env P e (I k))
  (he:autoParam (eval (.Call (.Name "bytes" fp) [e] [] pos) env=(do let f <- eval (.Name "bytes" fp) env;callWith pos f [] (backTo pos (starEach [e] env)) [])) tR)
  (he2:autoParam (starEach [e] env=(false,eval e env)::starEach [] env) tR) (hpl:autoParam ((backTo pos (starEach [e] env)).any (·.1)=false) tR):Ev (model prog w) A env P (.Call (.Name "bytes" fp) [e] [] pos) (By (List.replicate k.toNat 0)) :=
 EvP.callT1 (V':=fun v _=>v=By (List.replicate k.toNat 0)) hf ha.toP (fun s Q E v p q kk=>by
  refine tkI q fun t=>?_
  exact YZb (bytes_zero h0 h1 fun t tk=>kk _ s.heap tk rfl p)) he he2 hpl
theorem EvP.ba0 (C:Cx K env h₀ μ P) (hf:Ev (model prog w) A env P (.Name "bytearray" fp) (.type "bytearray"))
  (he:autoParam (eval (.Call (.Name "bytearray" fp) [] [] pos) env=(do let f <- eval (.Name "bytearray" fp) env;callWith pos f [] (backTo pos (starEach [] env)) [])) tR) :
  EvP (model prog w) A env P (.Call (.Name "bytearray" fp) [] [] pos) (fun v h=>∃ a,v=.ref a/\New P a/\h.get? a=some (baO [])) :=
 EvP.callT0 hf (fun s Q E p kk=>ba_new0 fun h' a hn g gr=>kk _ h' s.toks ⟨a,rfl,⟨s.heap,p,hn⟩,g⟩ (C.grow _ _ gr p)) he
theorem EvP.baL (C:Cx K env h₀ μ P) (hls:InB ls) (hz:ls.length<=sizeLine) (hf:Ev (model prog w) A env P (.Name "bytearray" fp) (.type "bytearray")) (ha:EvP (model prog w) A env P e (fun v h=>∃ a,v=.ref a/\LsAt h a (ls.map I)))
  (he:autoParam (eval (.Call (.Name "bytearray" fp) [e] [] pos) env=(do let f <- eval (.Name "bytearray" fp) env;callWith pos f [] (backTo pos (starEach [e] env)) [])) tR)
  (he2:autoParam (starEach [e] env=(false,eval e env)::starEach [] env) tR) (hpl:autoParam ((backTo pos (starEach [e] env)).any (·.1)=false) tR) :
  EvP (model prog w) A env P (.Call (.Name "bytearray" fp) [e] [] pos) (fun v h=>∃ a,v=.ref a/\New P a/\h.get? a=some (baO ls)) :=
 EvP.callT1 hf ha (fun s Q E v p q kk=>by
  refine J0 q fun a e1 hl=>?_;clear q
  refine sE (YZh e1) ?_
  exact ba_newL hls hz hl fun h' a hn g gr=>kk _ h' s.toks ⟨a,rfl,⟨s.heap,p,hn⟩,g⟩ (C.grow _ _ gr p)) he he2 hpl
theorem Xs.baExtL {R':HP} {ap:Pos} (F:Fx K env h₀) (hcl:Cl env) (hh:A.handled=none) (hR:Sf [env.locals] R) (ha:Off env h₀ a) (hv:μ x=some (.ref a)) (hbR:∀ h,R h->h.get? a=some (baO ks)) (hls:InB ls) (hz:ks.length+ls.length<=sizeLine)
  (he:EvP (model prog w) A env (Pc env h₀ μ R) e (fun v h=>∃ b,v=.ref b/\b≠a/\(LsAt h b (ls.map I)∨TpAt h b (ls.map I)))) (hR':∀ h h',(∀ b o,b≠a->h.get? b=some o->h'.get? b=some o)->h'.get? a=some (baO (ks++ls))->R h->R' h') (hr:Xs (model prog w) A env (Pc env h₀ μ R') rest N Rt X)
  (hx:autoParam (env.kindOf x=some .local) tR) (hd:autoParam ((x==("__debug__" : Str))=false) tD) (hi:autoParam (interactive env=false) tR) (hs:autoParam (swapsWith (.Call (.Attribute (.Name x fp) "extend" ap) [e] [] p1) none pos.line env=pure false) tR)
  (hbase:autoParam (attributeBase (.Name x fp) "extend" env (eval (.Name x fp) env)=eval (.Name x fp) env) tR) (hline:autoParam ((ap.endLine==p1.line)=true) tR) (hfew:autoParam (methodCallForm ([e].length+([]:List Keyword).length) (backTo p1 (starEach [e] env)) (backToKw p1 (keywordEach [] env))=true) tR)
  (he2:autoParam (starEach [e] env=(false,eval e env)::starEach [] env) tR) (hpl:autoParam ((backTo p1 (starEach [e] env)).any (·.1)=false) tR):Xs (model prog w) A env (Pc env h₀ μ R) (.Expr (.Call (.Attribute (.Name x fp) "extend" ap) [e] [] p1) pos::rest) N Rt X:=by
 refine Xs.expr (N1:=Pc env h₀ μ R') (Tr.method1 (Ev.loc (F.cx hR) hx hv hd) he (id := "bytearray.extend") (fun s pl Q E ov p hov q=>?_) (fun s Q E ov v p hov hvs kk=>?_) hbase hline hfew he2 hpl) hr hi hs
 ·rw [YZh hov] at q ⊢
  exact VZ4 (hbR _ p.2) BF.slot_extend.lookup BF.type_extend q
 ·refine sE (YZh hov) ?_
  refine J1 hvs fun b e1 hne hl=>?_;clear hvs
  refine sE (YZh e1) ?_
  have fin:∀ h' tk,h'.get? a=some (baO (ks++ls))->(∀ b o,b≠a->s.heap.get? b=some o->h'.get? b=some o)->Q .none { s with heap:=h',toks:=tk }:=fun h' tk g sb =>
   kk _ h' tk ⟨fun _ q=>(by cases q),ha μ _ _ (fun b o hb e=>sb b o (fun q=>hb (q▸List.mem_singleton_self _)) e) p.1,hR' _ _ sb g p.2⟩
  rcases hl with hl | hl
  ·exact ba_extL hh (hbR _ p.2) hz hls hl (Ne.symm hne) fin
  ·exact ba_extT hh (hbR _ p.2) hz hls hl (Ne.symm hne) fin
theorem Ev.itemA {slice value:PySem.Expr} (hb:InB ks) (hz:ks.length<=16777216) (hk0:0<=k) (hk1:k<ks.length) (hv:Ev (model prog w) A env P value (.ref a)) (hba:∀ h,P h->h.get? a=some (baO ks)) (hi:Ev (model prog w) A env P slice (I k))
  (hs:autoParam (∀ b k u,subscripted slice false (.ref b) (.int k u)=operate [.ref b,.int k u] (getItem (.ref b) (.int k u))) tX)
  (ht:autoParam (∀ o r,letTemporaryGo value o r=pure ()) tY):Ev (model prog w) A env P (.Subscript value slice pos) (I (ks.getD k.toNat 0)):=fun s Q E p kk=>by
 refine YZ2 (hv s _ E p fun v h1 tk1 x=>hi _ _ E x.2 fun u h2 tk2 y=>?_)
 refine sE (YZh x.1) ?_
 refine tkI y.1 fun t2=>?_
 exact YZb (tail_of_ItemOn ⟨"bytearray", _,BF.slot_getitem.lookup,YZu (hba _ y.2),ba_getItem (hba _ y.2) hb hk0 hk1 hz fun t tk=>kk _ _ tk ⟨rfl,y.2⟩⟩ (hs _ _ _) (ht _))
end
end
section
noncomputable def ups (μ:Str->Option Value):List (Str×Value)->Str->Option Value
 | []=>μ
 | (x,c)::r=>ups (up μ x c) r
noncomputable def St1 (prog:Program) (w:World) (A:Around) (env:Env) (h₀:Heap) (W:List Addr) (x:Str) (t:Value->Sem Unit):Prop :=
 ∀ v μ (s:Shared) (Q:Unit->Shared->Prop) E,Lo env h₀ μ s.heap->(∀ h' tk,Lo env h₀ (up μ x (tk0 v)) h'->(∀ b o,b∉W->s.heap.get? b=some o->h'.get? b=some o)->Q () { s with heap:=h',toks:=tk })->wpC (model prog w) A (t v) Q E s
structure Ce (env:Env) (h₀:Heap):Prop where
 cl:Cl env
 new:∀ x c,env.cells.lookup x=some c->h₀.get? c=none
 inj:∀ x y c,env.cells.lookup x=some c->env.cells.lookup y=some c->x=y
section
variable {prog:Program} {w:World} {A:Around} {env:Env} {K:Frag} {h₀:Heap} {W:List Addr} {x:Str} {p1:Pos} {c:Addr}
theorem St1.loc (F:Fx K env h₀) (hcl:Cl env) (hW:env.locals∈W) (hx:autoParam (env.kindOf x=some .local) tR):St1 prog w A env h₀ W x (assign (.Name x p1) env):=fun v μ s Q E lo k=>by
 refine J1 lo fun m Fm a b=>?_;clear lo
 show wpC _ _ (do standAt p1;PySem.bindName env x v) _ _ _
 refine YZa (YZd (XZm (YZb (wpAny_storeName_local hx Fm.ns (fun h'' hn hs'=>?_) (by refine sE F.fn ?_;rfl)))))
 exact k h'' _ (Lo.store Fm a b hx hcl hn hs') fun b o hb e=>(hs'.2 b fun q=>hb (q▸hW)).trans e
theorem St1.locB (F:Fx K env h₀) (hcl:Cl env) (hW:env.locals∈W) (hx:autoParam (env.kindOf x=some .local) tR):St1 prog w A env h₀ W x (bindName env x):=fun v μ s Q E lo k=>by
 refine J1 lo fun m Fm a b=>?_;clear lo
 refine XZm (YZb (wpAny_storeName_local hx Fm.ns (fun h'' hn hs'=>?_) (by refine sE F.fn ?_;rfl)))
 exact k h'' _ (Lo.store Fm a b hx hcl hn hs') fun b o hb e=>(hs'.2 b fun q=>hb (q▸hW)).trans e
theorem Lo.storeC {μ:Str->Option Value} {h h':Heap} {v:Value} (ce:Ce env h₀) (lo:Lo env h₀ μ h) (hc:env.cells.lookup x=some c) (hx:env.kindOf x=some .cell) (hn:h'.IsCell c (some v)) (hs:Heap.SameBut c h h'):Lo env h₀ (up μ x (tk0 v)) h':=by
 refine J1 lo fun m Fm a b=>?_;clear lo
 have hl:=(ce.cl x c hc).1
 refine ⟨m,⟨Fm.ns.sameBut hs (Ne.symm hl),fun d o e=>(hs.2 d fun q=>by rw [q,ce.new x c hc] at e;cases e).trans (Fm.keep d o e),Fm.above⟩,fun y hy=>?_,fun y d hd=>?_⟩
 ·have ne:y≠x:=fun e=>by rw [e,hx] at hy;cases hy
  rewrite [up];refine sE (GZg ne) ?_;exact a y hy
 ·by_cases e:y=x
  ·subst e
   rw [hc] at hd;cases hd
   exact ⟨some v,hn,by rewrite [up];refine sE VZa ?_;rfl⟩
  ·refine J0 (b y d hd) fun u hu e'=>?_
   refine ⟨u,hu.sameBut hs fun q=>e (ce.inj y x c (q▸hd) hc),?_⟩
   rewrite [up];refine sE (GZg e) ?_;exact e'
theorem St1.cel (F:Fx K env h₀) (ce:Ce env h₀) (hc:env.cells.lookup x=some c) (hW:c∈W) (hx:autoParam (env.kindOf x=some .cell) tR):St1 prog w A env h₀ W x (assign (.Name x p1) env):=fun v μ s Q E lo k=>by
 have lo':=lo
 refine J1 lo' fun m Fm a b=>?_;clear lo'
 refine J0 (b x c hc) fun u hu _=>?_
 show wpC _ _ (do standAt p1;PySem.bindName env x v) _ _ _
 refine YZa (YZd (XZm (YZb (wpAny_storeName_cell F.fn hx hc hu fun h'' hn hs'=>?_))))
 exact k h'' s.toks (Lo.storeC ce lo hc hx hn hs') fun b o hb e=>(hs'.2 b fun q=>hb (q▸hW)).trans e
theorem DZ0:∀ (ts:List (Str×(Value->Sem Unit))) (vs:List Value) (μ:Str->Option Value) (s:Shared) (Q:Unit->Shared->Prop) E,ts.length=vs.length->(∀ t∈ts,St1 prog w A env h₀ W t.1 t.2)->Lo env h₀ μ s.heap ->
  (∀ h' tk,Lo env h₀ (ups μ ((ts.map (·.1)).zip (vs.map tk0))) h'->(∀ b o,b∉W->s.heap.get? b=some o->h'.get? b=some o)->Q () { s with heap:=h',toks:=tk })->wpC (model prog w) A (assignInOrder (ts.map (·.2)) vs) Q E s
 | [],[],μ,s,Q,E,_,_,lo,k=>YZc (k s.heap s.toks lo fun _ _ _ e=>e)
 | [],_::_,_,_,_,_,h,_,_,_=>by cases h
 | _::_,[],_,_,_,_,h,_,_,_=>by cases h
 | t::ts,v::vs,μ,s,Q,E,h,ht,lo,k=>by
  show wpC _ _ (do holding vs (t.2 v);assignInOrder (ts.map (·.2)) vs) _ _ _
  refine YZa (YZe (ht t (List.mem_cons_self ..) v μ s _ E lo fun h1 tk1 l1 k1=>?_))
  refine DZ0 ts vs _ _ Q E (Nat.succ.inj h) (fun u hu=>ht u (List.mem_cons_of_mem _ hu)) l1 fun h2 tk2 l2 k2=>?_
  exact k h2 tk2 l2 fun b o hb e=>k2 b o hb (k1 b o hb e)
end
section
variable {prog:Program} {w:World} {A:Around} {env:Env} {K:Frag} {h₀:Heap} {μ:Str->Option Value} {P:HP} {rest body:List Stmt} {N:HP} {Rt X:Value->HP} {pos p1:Pos} {e:PySem.Expr} {W:List Addr} {R:HP} {cs:List Value} {V:Value->HP} {x:Str} {c:Addr}
theorem Xs.asg {V:Value->HP} (hS:St1 prog w A env h₀ W x (PySem.assign (.Name x p1) env)) (hR:Sf W R) (he:EvP (model prog w) A env (Pc env h₀ μ R) e V) (hV:∀ c,Sf W (V c))
  (hr:∀ c,Xs (model prog w) A env (Pc env h₀ (up μ x c) (fun h=>V c h/\R h)) rest N Rt X)
  (hs:autoParam (swapsWith e (some (.Name x p1)) pos.line env=pure false) tR) (hsw:autoParam (swappedStores [.Name x p1] e env=pure none) tR):Xs (model prog w) A env (Pc env h₀ μ R) (.Assign [.Name x p1] e pos::rest) N Rt X:=fun s Q E p k1 k2 k3=>by
 refine YZk ?_
 refine sE (arm_exec_Assign ..) ?_
 show wpC _ _ (do standAt pos;(do if <- swapsWith e (some (.Name x p1)) pos.line env then _ else _)) _ _ _
 refine sE hs ?_
 refine YZa (YZd ?_)
 show wpC _ _ (eval e env >>= fun v=>_) _ _ _
 refine YZa (he s _ E p fun v h1 tk1 q=>?_)
 refine sE hsw ?_
 show wpC _ _ (do PySem.assign (.Name x p1) env v;Pure.pure Flow.next) _ _ _
 refine YZa (hS v μ { s with heap:=h1,toks:=tk1 } _ E q.2.1 fun h2 tk2 l2 k=>YZc (hr (tk0 v) _ Q E ⟨l2,hV _ _ _ k q.1,hR _ _ k q.2.2⟩ k1 k2 k3))
noncomputable def nmOf:PySem.Expr->Str
 | .Name x _=>x
 | _ => ""
theorem eachOf {env:Env}:∀ {ts:List PySem.Expr},(∀ t∈ts,∃ x p,t=.Name x p)->(assignEach ts env).map (·.2)=((ts.map fun t=>(nmOf t,assign t env)).map (·.2))/\(assignEach ts env).findIdx? (·.1)=none/\(assignEach ts env).length=ts.length
 | [],_=>⟨rfl,rfl,rfl⟩
 | t::ts,h=>by
  refine J5 (h t (List.mem_cons_self ..)) ?_;rintro x p rfl
  refine J3 (eachOf (env:=env) (ts:=ts) fun u hu=>h u (List.mem_cons_of_mem _ hu)) fun a b c=>?_
  have e:assignEach (.Name x p::ts) env=(false,assign (.Name x p) env)::assignEach ts env:=rfl
  refine ⟨?_,?_,?_⟩
  ·refine sE e (sE List.map_cons (sE a ?_));rfl
  ·refine sE e (sE List.findIdx?_cons (sE b ?_));rfl
  ·refine sE e (sE List.length_cons (sE c ?_));rfl
theorem Xs.unp {Y:Type} {ts:List PySem.Expr} {kt:_} {V:Y->HP} {cs:Y->List Value} (hh:A.handled=none) (hS:∀ t∈ts,(∃ x p,t=.Name x p)/\St1 prog w A env h₀ W (nmOf t) (PySem.assign t env)) (hR:Sf W R) (hV:∀ c,Sf W (V c))
  (he:EvP (model prog w) A env (Pc env h₀ μ R) e (fun v h=>∃ y,V y h/\∃ a,v=.ref a/\TpAt h a (cs y))) (hn:∀ v,(cs v).length=ts.length)
  (hr:∀ v,Xs (model prog w) A env (Pc env h₀ (ups μ ((ts.map nmOf).zip (cs v))) (fun h=>V v h/\R h)) rest N Rt X)
  (hs:autoParam (swapsWith e (some (.Tuple ts kt p1)) pos.line env=pure false) tR) (hsw:autoParam (swappedStores [.Tuple ts kt p1] e env=pure none) tR):Xs (model prog w) A env (Pc env h₀ μ R) (.Assign [.Tuple ts kt p1] e pos::rest) N Rt X:=fun s Q E p k1 k2 k3=>by
 refine YZk ?_
 refine sE (arm_exec_Assign ..) ?_
 show wpC _ _ (do standAt pos;(do if <- swapsWith e (some (.Tuple ts kt p1)) pos.line env then _ else _)) _ _ _
 refine sE hs ?_
 refine YZa (YZd ?_)
 show wpC _ _ (eval e env >>= fun v=>_) _ _ _
 refine YZa (he s _ E p fun v h1 tk1 q=>?_)
 refine sE hsw ?_
 show wpC _ _ (do PySem.assign (.Tuple ts kt p1) env v;Pure.pure Flow.next) _ _ _
 refine J3 q fun z00 lo r=>?_;clear q;refine J8 z00 fun y hv a e1 ht=>?_;clear z00
 have e1':=YZh e1
 refine J0 ht fun vs hT e2=>?_;clear ht
 refine J3 (eachOf (env:=env) fun t ht=>(hS t ht).1) fun m1 m2 m3=>?_
 have hlen:vs.length=ts.length:=by exact sF (hn y) (sF e2 (sE (List.length_map ..) rfl))
 refine sE e1' ?_
 refine YZa ?_
 refine YZa (YZd ?_)
 unfold unpack
 refine sE m2 ?_
 show wpC _ _ (do let items <- holding [.ref a] (unpackItems (.ref a) (assignEach ts env).length none);assignInOrder ((assignEach ts env).map (·.2)) items) _ _ _
 refine sE m3 (sF hlen (sE m1 (sE (show vs.length=vs.toArray.size by simp) ?_)))
 refine YZa (YZe (YZb (wpAny_unpackItems_tuple hh hT fun h2 e3=>?_)))
 have g:Grows h1 h2:=fun b o e=>e3 b o (Nat.ne_of_lt (Heap.lt_size e)) e
 refine DZ0 (W:=W) (ts.map fun t=>(nmOf t,PySem.assign t env)) vs.toArray.toList μ { s with heap:=h2,toks:=tk1 } _ E (by simp [hlen]) (fun t ht=>?_) (lo.grow g) fun h3 tk3 l3 k=>YZc (hr y _ Q E ⟨?_,hV _ _ _ k ((hV y).grow g hv),hR _ _ k (hR.grow g r)⟩ k1 k2 k3)
 ·refine J0 (List.mem_map.mp ht) ?_;rintro t' h1 rfl
  exact (hS t' h1).2
 ·rw [List.map_map] at l3
  refine sF e2 ?_;exact l3
theorem Xs.swp {Y:Type} {ts:List PySem.Expr} {kt:_} {ns:List Str} {V:Y->HP} {cs:Y->List Value} (hh:A.handled=none) (hS:∀ n∈ns.reverse,St1 prog w A env h₀ W n (PySem.bindName env n)) (hR:Sf W R) (hV:∀ c,Sf W (V c))
  (he:EvP (model prog w) A env (Pc env h₀ μ R) e (fun v h=>∃ y,V y h/\∃ a,v=.ref a/\TpAt h a (cs y))) (hn:∀ v,(cs v).length=ns.length)
  (hr:∀ v,Xs (model prog w) A env (Pc env h₀ (ups μ (ns.reverse.zip (cs v).reverse)) (fun h=>V v h/\R h)) rest N Rt X)
  (hs:autoParam (swapsWith e (some (.Tuple ts kt p1)) pos.line env=pure false) tR) (hsw:autoParam (swappedStores [.Tuple ts kt p1] e env=pure (some ns)) tR):Xs (model prog w) A env (Pc env h₀ μ R) (.Assign [.Tuple ts kt p1] e pos::rest) N Rt X:=fun s Q E p k1 k2 k3=>by
 refine YZk ?_
 refine sE (arm_exec_Assign ..) ?_
 show wpC _ _ (do standAt pos;(do if <- swapsWith e (some (.Tuple ts kt p1)) pos.line env then _ else _)) _ _ _
 refine sE hs ?_
 refine YZa (YZd ?_)
 show wpC _ _ (eval e env >>= fun v=>_) _ _ _
 refine YZa (he s _ E p fun v h1 tk1 q=>?_)
 refine sE hsw ?_
 refine J3 q fun z00 lo r=>?_;clear q;refine J8 z00 fun y hv a e1 ht=>?_;clear z00
 have e1':=YZh e1
 refine J0 ht fun vs hT e2=>?_;clear ht
 have hlen:vs.length=ns.length:=by exact sF (hn y) (sF e2 (sE (List.length_map ..) rfl))
 refine sE e1' ?_
 show wpC _ _ (do rule "assign.swapped-stores"; let items <- unpackItems (.ref a) ns.length none;assignInOrder (ns.reverse.map fun n=>PySem.bindName env n) items.reverse;Pure.pure Flow.next) _ _ _
 refine YZa (YZb (wpAny_rule ?_))
 refine sF hlen (sE (show vs.length=vs.toArray.size by simp) ?_)
 refine YZa (YZb (wpAny_unpackItems_tuple hh hT fun h2 e3=>?_))
 have g:Grows h1 h2:=fun b o e=>e3 b o (Nat.ne_of_lt (Heap.lt_size e)) e
 refine YZa ?_
 refine sE (show (ns.reverse.map fun n=>PySem.bindName env n)=(ns.reverse.map fun n=>(n,PySem.bindName env n)).map (·.2) by rw [List.map_map];rfl) ?_
 refine DZ0 (W:=W) (ns.reverse.map fun n=>(n,PySem.bindName env n)) vs.toArray.toList.reverse μ { s with heap:=h2,toks:=tk1 } _ E (by simp [hlen]) (fun t ht=>?_) (lo.grow g) fun h3 tk3 l3 k=>YZc (hr y _ Q E ⟨?_,hV _ _ _ k ((hV y).grow g hv),hR _ _ k (hR.grow g r)⟩ k1 k2 k3)
 ·refine J0 (List.mem_map.mp ht) ?_;rintro t' h1 rfl
  exact hS t' h1
 ·rw [List.map_map] at l3
  refine sF e2 (sF List.map_reverse ?_)
  rw [show (List.map ((fun x:Str×(Value->Sem Unit)=>x.1) ∘ fun n=>(n,PySem.bindName env n)) ns.reverse)=ns.reverse from List.map_id _] at l3
  exact l3
end
end
section
section
variable {prog:Program} {w:World} {A:Around} {env:Env} {K:Frag} {h₀:Heap} {μ:Str->Option Value} {P:HP} {rest body:List Stmt} {N:HP} {Rt X:Value->HP} {pos p1:Pos} {e test value slice:PySem.Expr} {es:List PySem.Expr} {W:List Addr} {R:HP} {c:Value} {cs:List Value} {V V1:Value->HP} {V2:List Value->HP} {x:Str} {k:Int} {a:Addr}
theorem Evs.toP (h:Evs (model prog w) A env P pos es cs):EvsP (model prog w) A env P pos es (fun vs _=>vs=cs):=h
theorem EvsP.cons (he:EvP (model prog w) A env (Pc env h₀ μ R) e V1) (hs:∀ c,EvsP (model prog w) A env (Pc env h₀ μ (fun h=>V1 c h/\R h)) pos es (V2 ))
  (he2:autoParam (starEach (e::es) env=(false,eval e env)::starEach es env) tR):EvsP (model prog w) A env (Pc env h₀ μ R) pos (e::es) (fun vs h=>∃ c cs,vs=c::cs/\V1 c h/\V2 cs h):=fun s Q E p k =>
 YZ0 (he s _ E p fun v h' tk x=>hs (tk0 v) _ _ E ⟨x.2.1,x.1,x.2.2⟩ fun vs h'' tk' y=>k _ h'' tk' ⟨⟨tk0 v,vs.map tk0,rfl,y.2.2.1,y.1⟩,y.2.1,y.2.2.2⟩) he2
theorem EvP.list1 (he:∀ h h',Grows h h'->P h->P h') (hs:EvsP (model prog w) A env P pos es V2) (hV:∀ cs h h',Grows h h'->V2 cs h->V2 cs h') (hn:∀ cs h,V2 cs h->cs.length<=sizeLine) :
  EvP (model prog w) A env P (.List es pos) (fun v h=>∃ a cs,v=.ref a/\New P a/\LsAt h a cs/\V2 cs h):=fun s Q E p kk=>by
 refine sE (arm_eval_List ..) ?_
 refine YZa (YZd (YZa (hs _ _ E p fun vs h1 tk1 x=>YZb (wpAny_newList ?_ ?_))))
 ·exact kk _ _ _ ⟨⟨_,_,rfl,⟨h1,x.2,YZg _⟩,⟨vs,⟨_,Heap.get?_push_size _ rfl⟩,rfl⟩,hV _ _ _ (Grows.push _ _) x.1⟩,he _ _ (Grows.push _ _) x.2⟩
 ·have:=hn _ _ x.1;rwa [List.length_map] at this
theorem EvP.tup1 {kx:_} (he:∀ h h',Grows h h'->P h->P h') (hs:EvsP (model prog w) A env P pos es V2) (hV:∀ cs h h',Grows h h'->V2 cs h->V2 cs h') (hn:∀ cs h,V2 cs h->cs.length<=sizeLine) :
  EvP (model prog w) A env P (.Tuple es kx pos) (fun v h=>∃ a cs,v=.ref a/\New P a/\TpAt h a cs/\V2 cs h):=fun s Q E p kk=>by
 refine sE (arm_eval_Tuple ..) ?_
 refine YZa (YZd (YZa (hs _ _ E p fun vs h1 tk1 x=>YZb (wpAny_newTuple ?_ ?_))))
 ·exact kk _ _ _ ⟨⟨_,_,rfl,⟨h1,x.2,YZg _⟩,⟨vs,⟨_,Heap.get?_push_size _ rfl,rfl,_,rfl⟩,rfl⟩,hV _ _ _ (Grows.push _ _) x.1⟩,he _ _ (Grows.push _ _) x.2⟩
 ·have:=hn _ _ x.1;rwa [List.length_map] at this
theorem BZh {σ:Type} (m:σ->Nat) (Iv:σ->Prop) (μi:σ->Str->Option Value) (Rr:σ->HP) (d:σ->Bool) {Rt X:Value->HP} {R:Result->Shared->Prop}
  (ht:∀ z,Iv z->Ist (model prog w) A env (Pc env h₀ (μi z) (Rr z)) test (d z))
  (hb:∀ z,Iv z->d z=true->Xs (model prog w) A env (Pc env h₀ (μi z) (Rr z)) body (fun h=>∃ z',m z' < m z/\Iv z'/\Pc env h₀ (μi z') (Rr z') h) Rt no)
  {s:Shared} (z0:σ) (hI0:Iv z0) (h0:Pc env h₀ (μi z0) (Rr z0) s.heap)
  (hR:∀ z h' tk,Iv z->d z=false->Pc env h₀ (μi z) (Rr z) h'->R (.ok .next) { s with heap:=h',toks:=tk })
  (hR2:∀ v h' tk,Rt (tk0 v) h'->R (.ok (.ret v)) { s with heap:=h',toks:=tk }) :
  YZ7 (model prog w) A (.whileLoop test body [] env) R s:=by
 refine UZc rfl rfl (fun k s'=>∃ h' tk z,s'={ s with heap:=h',toks:=tk }/\k=m z/\Iv z/\Pc env h₀ (μi z) (Rr z) h') ?_ (m z0) ⟨s.heap,s.toks,z0,rfl,rfl,hI0,h0⟩
 rintro k s' ⟨h',tk,z,rfl,rfl,hI,inv⟩
 show wpC _ A ((whileTurn test body [] env).onRaise (fun x=>do noteFrame x env;theTreesLotGoes x)) _ _ _
 refine YZ1 (YZf (E:=fun _ _=>False) (?_:wpC _ _ _ (fun fin s''=>match fin with
    | .done f=>R (.ok f) s''
    | .again c'=>(c'=.whileLoop test body [] env/\∃ k,k<m z/\∃ h' tk z,s''={ s with heap:=h',toks:=tk }/\k=m z/\Iv z/\Pc env h₀ (μi z) (Rr z) h')∨(c'.quiet=true/\YZ7 (model prog w) A c' R s'')) _ _) (fun _ _ q=>q) fun _ _ q=>q.elim)
 unfold whileTurn
 refine YZa (ht z hI _ _ _ inv fun b h1 tk1 q=>?_)
 obtain ⟨rfl,q⟩:=q
 cases hd:d z with
 | true =>
  simp only [if_true]
  refine YZa (hb z hI hd _ _ _ q (fun h2 tk2 q2=>?_) (fun v h2 tk2 q2=>?_) fun _ _ _ q=>q.elim)
  ·refine J1 q2 ?_;clear q2;rintro z' hm hI' q2
   exact YZc (.inl ⟨rfl,_,hm,h2,tk2,z',rfl,rfl,hI',q2⟩)
  ·exact YZc (hR2 v h2 tk2 q2)
 | false =>
  simp only [Bool.false_eq_true,if_false]
  exact YZa (YZb (wpAny_execs_nil (YZc (hR z h1 tk1 hI hd q))))
theorem Xs.while {σ:Type} (m:σ->Nat) (Iv:σ->Prop) (μi:σ->Str->Option Value) (Rr:σ->HP) (d:σ->Bool) (z0:σ) (hI0:Iv z0) (h0:∀ h,P h->Pc env h₀ (μi z0) (Rr z0) h)
  (ht:∀ z,Iv z->Ist (model prog w) A env (Pc env h₀ (μi z) (Rr z)) test (d z))
  (hb:∀ z,Iv z->d z=true->Xs (model prog w) A env (Pc env h₀ (μi z) (Rr z)) body (fun h=>∃ z',m z' < m z/\Iv z'/\Pc env h₀ (μi z') (Rr z') h) Rt no)
  (hr:∀ z,Iv z->d z=false->Xs (model prog w) A env (Pc env h₀ (μi z) (Rr z)) rest N Rt X) :
  Xs (model prog w) A env P (.While test body [] pos::rest) N Rt X:=fun s Q E p k1 k2 k3=>by
 refine YZk ?_
 show wpC _ _ (do standAt pos;runOwn (.whileLoop test body [] env) env) _ _ _
 refine YZa (YZd (NZv ?_))
 refine BZh (Rt:=Rt) (X:=no) m Iv μi Rr d ht hb z0 hI0 (h0 _ p) (fun z h' tk hI hd q=>?_) (fun v h' tk q=>?_)
 ·exact hr z hI hd _ Q E q k1 k2 k3
 ·exact k2 v h' tk q
theorem Ev.itemT (hv:Ev (model prog w) A env P value (.ref a)) (hi:Ev (model prog w) A env P slice (I k)) (hT:∀ h,P h->TpAt h a cs) (h0:0<=k) (h1:k<cs.length) (hz:cs.length<=16777216) (hc:cs.getD k.toNat .none=c)
  (hs:autoParam (∀ b k u,subscripted slice false (.ref b) (.int k u)=operate [.ref b,.int k u] (getItem (.ref b) (.int k u))) tX)
  (ht:autoParam (∀ o r,letTemporaryGo value o r=pure ()) tY):Ev (model prog w) A env P (.Subscript value slice pos) c:=fun s Q E p kk=>by
 refine YZ2 (hv s _ E p fun v h1' tk1 x=>hi _ _ E x.2 fun u h2 tk2 y=>?_)
 refine sE (YZh x.1) ?_
 refine tkI y.1 fun t2=>?_
 refine J0 (hT _ y.2) fun vs hl e=>?_
 have hlen:vs.length=cs.length:=by exact sF e (sE (List.length_map ..) rfl)
 have hj:seqIndex? k vs.toArray.size=some k.toNat:=seq_i (by lia) (by refine sE List.size_toArray ?_;lia)
 have hlt:k.toNat<vs.length:=by lia
 refine YZb (tail_of_ItemOn ⟨"tuple", _,slot_tuple_getitem.lookup,hl.typeIs,PyProof.Rows.getItem_tuple hl (by lia) (by lia) hj (x:=vs[k.toNat]) (by simp [hlt]) (kk _ _ _ ⟨?_,y.2⟩)⟩ (hs _ _ _) (ht _))
 refine sF hc (sF e (sE List.getD_eq_getElem?_getD (sE List.getElem?_map (sE (List.getElem?_eq_getElem hlt) ?_))));rfl
theorem Ev.itemL (hv:Ev (model prog w) A env P value (.ref a)) (hi:Ev (model prog w) A env P slice (I k)) (hT:∀ h,P h->LsAt h a cs) (h0:0<=k) (h1:k<cs.length) (hz:cs.length<=16777216) (hc:cs.getD k.toNat .none=c)
  (hs:autoParam (∀ b k u,subscripted slice false (.ref b) (.int k u)=operate [.ref b,.int k u] (getItem (.ref b) (.int k u))) tX)
  (ht:autoParam (∀ o r,letTemporaryGo value o r=pure ()) tY):Ev (model prog w) A env P (.Subscript value slice pos) c:=fun s Q E p kk=>by
 refine YZ2 (hv s _ E p fun v h1' tk1 x=>hi _ _ E x.2 fun u h2 tk2 y=>?_)
 refine sE (YZh x.1) ?_
 refine tkI y.1 fun t2=>?_
 refine J0 (hT _ y.2) fun vs hlp e=>?_
 have hl:=hlp.isList
 have hlen:vs.length=cs.length:=by exact sF e (sE (List.length_map ..) rfl)
 have hlt:k.toNat<vs.length:=by lia
 refine YZb (tail_of_ItemOn ⟨"list", _,slot_list_getitem.lookup,hl.typeIs,wpAny_getItem_list hl h0 (by lia) (x:=vs[k.toNat]) (by simp [hlt]) (kk _ _ _ ⟨?_,y.2⟩)⟩ (hs _ _ _) (ht _))
 refine sF hc (sF e (sE List.getD_eq_getElem?_getD (sE List.getElem?_map (sE (List.getElem?_eq_getElem hlt) ?_))));rfl
theorem EvP.sumL {fp:Pos} {ls:List Int} (C:Cx K env h₀ μ P) (hh:A.handled=none) (hf:Ev (model prog w) A env P (.Name "sum" fp) (.builtin "sum")) (ha:EvP (model prog w) A env P e (fun v h=>∃ a,v=.ref a/\LsAt h a (ls.map I)))
  (he:autoParam (eval (.Call (.Name "sum" fp) [e] [] pos) env=(do let f <- eval (.Name "sum" fp) env;callWith pos f [] (backTo pos (starEach [e] env)) [])) tR)
  (he2:autoParam (starEach [e] env=(false,eval e env)::starEach [] env) tR) (hpl:autoParam ((backTo pos (starEach [e] env)).any (·.1)=false) tR):EvP (model prog w) A env P (.Call (.Name "sum" fp) [e] [] pos) (fun v _=>v=I (preSum (fun i=>ls.getD i 0) ls.length)) :=
 EvP.callB1 hf ha (fun s Q E v p q kk=>by
  refine J0 q fun a e1 hl=>?_;clear q
  refine sE (YZh e1) ?_
  refine J1 hl.int fun vs hl hlen hv=>?_
  have hne:a<s.heap.objs.size:=by refine J0 hl fun o ho _=>?_;clear hl;exact Heap.lt_size ho
  refine YZb (call_sum_walkG (wpAny_pyIter_list hl ?_))
  refine ⟨s.heap.objs.size,[s.heap.objs.size,a],[s.heap.objs.size],ls.length,fun i v=>vs.toArray[i]?=some v,fun i h=>h.IsListIter s.heap.objs.size a i/\h.IsList a vs.toArray,fun i=>ls.getD i 0,rfl,?_,⟨⟨_,Heap.get?_push_size _ rfl,rfl,rfl⟩,hl.push _⟩,?_,hv,fun h' tk t' hk=>kk _ h' tk rfl (C.grow _ _ (fun b o e=>hk b o (fun q=>?_) (Heap.get?_push_of_some _ e)) p)⟩
  ·have:=Walks.list (prog:=prog) (w:=w) (A:=A.in1) hh s.heap.objs.size a (Nat.ne_of_lt hne) vs.toArray
   rwa [show vs.toArray.size=ls.length by exact sE List.size_toArray (sE hlen rfl)] at this
  ·intro b hb
   refine sE (Heap.size_push ..) ?_
   rcases mC hb with rfl | hb
   ·exact Nat.lt_succ_self _
   ·refine sE (mS hb) ?_;exact Nat.lt_succ_of_lt hne
  ·rw [mS q] at e;exact absurd (Heap.lt_size e) (Nat.lt_irrefl _)) he he2 hpl
end
end
section
noncomputable def roOf:Value->List Addr
 | .ref b=>[b]
 | _=>[]
section
variable {prog:Program} {w:World} {A:Around} {env:Env} {K:Frag} {h₀:Heap} {μ:Str->Option Value} {P:HP} {pos p1 px:Pos} {elt iter:PySem.Expr} {scope:Scope} {cl:List (Str×Addr)} {x:Str} {xs:List Value} {c:Value} {rest body:List Stmt} {N:HP} {Rt X:Value->HP} {W:List Addr}
theorem SrcW.nm {v:Value} {h:Heap} {P0:HP} (S:Src prog w A v h xs) (hp:P0 h) (e:tk0 v=c) (hex:∀ b,c=.ref b->∃ o,h.get? b=some o) :
  SrcW prog w A (.Name x p1) (fun env=>env.kindOf x=some .local) [x] P0 v h xs.length (fun i μ=>up μ x (xs.getD i .none)) (roOf c) :=
 SrcW.name S hp fun b e'=>by
  subst e'
  have:c=.ref b:=e.symm
  subst this
  exact ⟨List.mem_singleton_self _,hex b rfl⟩
theorem EvP.comp1 (F:Fx K env h₀) (O:CompOk env scope cl (fun env=>env.kindOf x=some .local)) (hcl:Cl env) (he:Ev (model prog w) A env (Pc env h₀ μ P) iter c)
  (hsrc:∀ v h,tk0 v=c->Pc env h₀ μ P h->Src prog w A v h xs) (hex:∀ b h,c=.ref b->Pc env h₀ μ P h->∃ o,h.get? b=some o) (hn:xs.length<=sizeLine)
  (hP:∀ W,(∀ b∈W,New (Pc env h₀ μ P) b)->Sf W P) (f:Nat->Value)
  (helt:∀ i (B:HP) C,New (Pc env h₀ μ P) C->Fx K (compEnvC scope cl C env) h₀->i<xs.length->Sf [] B->(∀ h,B h->Lo env h₀ μ h/\P h)->Ev (model prog w) A (compEnvC scope cl C env) (Pc (compEnvC scope cl C env) h₀ (up (cmu cl μ) x (xs.getD i .none)) B) elt (f i))
  (hs:autoParam (∀ v,foldedSetIterable iter env v=pure v) tI) :
  EvP (model prog w) A env (Pc env h₀ μ P) (.ListComp elt [⟨.Name x px,iter,[],0⟩] scope pos) (fun v h=>∃ D,v=.ref D/\New (Pc env h₀ μ P) D/\LsAt h D ((List.range xs.length).map f)) :=
 Tr.post (EvP.compE (Y:=Unit) (V:=fun _ v _=>v=c) F O hcl (Tr.post he fun v h q=>⟨⟨(),q.1⟩,q.2⟩) (fun _=>xs.length) (fun _ i μ=>up μ x (xs.getD i .none)) (fun _=>roOf c)
  (fun _ v h e p=>SrcW.nm (hsrc v h e p) p e fun b e'=>hex b h e' p) (fun _ _ _ _ _=>hn) hP (fun _=>f) (fun _=>helt) hs) fun v h q=>⟨J5 q.1 fun _ D r=>⟨D,r⟩,q.2⟩
theorem Xs.forN {σ:Type} (F:Fx K env h₀) (hcl:Cl env) (Wd:List Addr) (hWd:∀ h,Pc env h₀ μ P h->∀ b∈Wd,∃ o,h.get? b=some o)
  (he:Ev (model prog w) A env (Pc env h₀ μ P) iter c) (hsrc:∀ v h,tk0 v=c->Pc env h₀ μ P h->Src prog w A v h xs) (hex:∀ b h,c=.ref b->Pc env h₀ μ P h->(∃ o,h.get? b=some o)/\b∉Wd/\b≠env.locals)
  (ex:List Str) (μi:Nat->σ->Str->Option Value) (R:List Addr->Nat->σ->HP) (hRw:∀ W,(∀ b∈W,New (Pc env h₀ μ P) b)->∀ i z,Sf W (R W i z)) (hRl:∀ W i z,Sf [env.locals] (R W i z)) (hg:∀ h h',Grows h h'->P h->P h')
  (z0:σ) (h0:∀ h,P h->∀ W,(∀ b∈W,New (Pc env h₀ μ P) b)->R W 0 z0 h) (hμ:∃ u,Mq env μ (ovr (μi 0 z0) ([x]++ex) u))
  (hbody:∀ W,(∀ b∈W,New (Pc env h₀ μ P) b)->∀ i z (S:HP) u,i<xs.length->Sf Wd S->(∀ h,S h->∀ b∈W,∃ o,h.get? b=some o)->(∀ Wx,(∀ b∈Wx,b∈Wd∨New S b)->Sf Wx S)->Xs (model prog w) A env (Pc env h₀ (up (ovr (μi i z) ex u) x (xs.getD i .none)) (fun h=>R W i z h/\S h)) body (fun h=>∃ z u,Pc env h₀ (ovr (μi (i+1) z) ([x]++ex) u) (fun h=>R W (i+1) z h/\S h) h) Rt no)
  (hr:∀ W,(∀ b∈W,New (Pc env h₀ μ P) b)->∀ u z,Xs (model prog w) A env (Pc env h₀ (ovr (μi xs.length z) ([x]++ex) u) (R W xs.length z)) rest N Rt X)
  (hx:autoParam (env.kindOf x=some .local) tR) (hs:autoParam (∀ v,foldedSetIterable iter env v=pure v) tI):Xs (model prog w) A env (Pc env h₀ μ P) (.For (.Name x p1) iter body [] pos::rest) N Rt X :=
 Xs.forZ (Y:=Unit) (V:=fun _ v _=>v=c) F hcl Wd hWd (Tr.post he fun v h q=>⟨⟨(),q.1⟩,q.2⟩) (fun _=>xs.length) (fun env=>env.kindOf x=some .local) [x] ex (fun _ i μ=>up μ x (xs.getD i .none)) (fun _=>roOf c)
  (fun _ v h e p=>SrcW.nm (hsrc v h e p) p e fun b e'=>(hex b h e' p).1) (fun _ c' h e p b hb=>by
   cases c with
   | ref b' =>
    have:b=b':=mS hb
    subst this
    exact (hex b h rfl p).2
   | _=>exact nomatch hb) hx (fun _=>μi) (fun _=>R) (fun _=>hRw) (fun _=>hRl) hg (fun _=>z0) (fun _ _ _ h' _ _ p=>h0 h' p) (fun _=>hμ) (fun _=>hbody) (fun _=>hr) hs
end
end
section
noncomputable abbrev LpAt (h:Heap) (a:Addr) (cs:List Value):Prop:=LsAt h a cs
theorem LpAt.ls {h:Heap} {a:Addr} {cs:List Value} (x:LpAt h a cs):LsAt h a cs:=x
theorem LpAt.grow {h h':Heap} {a:Addr} {cs:List Value} (g:Grows h h') (x:LpAt h a cs):LpAt h' a cs:=J0 x fun vs z01 e=>Jb z01 fun n ho=>⟨vs,⟨n,g _ _ ho⟩,e⟩
theorem LpAt.sf {W:List Addr} {a:Addr} {cs:List Value} (ha:a∉W):Sf W (fun h=>LpAt h a cs):=fun h h' k x=>J0 x fun vs z01 e=>Jb z01 fun n ho=>⟨vs,⟨n,k _ _ ha ho⟩,e⟩
theorem LpAt.live {h:Heap} {a:Addr} {cs:List Value} (x:LpAt h a cs):∃ o,h.get? a=some o:=J0 x fun vs z01 e=>Jb z01 fun n ho=>⟨_,ho⟩
theorem LsAt.live {h:Heap} {a:Addr} {cs:List Value} (x:LsAt h a cs):∃ o,h.get? a=some o:=J0 x fun vs z01 e=>Jb z01 fun n ho=>⟨_,ho⟩
theorem TpAt.live {h:Heap} {a:Addr} {cs:List Value} (x:TpAt h a cs):∃ o,h.get? a=some o:=J0 x fun vs z01 e=>J0 z01 fun o ho _=>⟨_,ho⟩
noncomputable def RgAt (h:Heap) (a:Addr) (n:Int):Prop:=∃ t u v,IsRange h a 0 n 1 t u v
theorem RgAt.live {h:Heap} {a:Addr} {n:Int} (x:RgAt h a n):∃ o,h.get? a=some o:=Jj x fun _ _ _ e=>⟨_,e⟩
section
variable {prog:Program} {w:World} {A:Around} {env:Env} {K:Frag} {h₀:Heap} {μ:Str->Option Value} {P:HP} {rest body:List Stmt} {N:HP} {Rt X:Value->HP} {pos p1 fp:Pos} {e test value slice:PySem.Expr} {es:List PySem.Expr} {W:List Addr} {R:HP} {c:Value} {cs:List Value} {V V1:Value->HP} {V2:List Value->HP} {x:Str} {k:Int} {a:Addr}
theorem EvP.listP (he:∀ h h',Grows h h'->P h->P h') (hs:Evs (model prog w) A env P pos es cs) (hn:autoParam (cs.length<=sizeLine) tD) :
  EvP (model prog w) A env P (.List es pos) (fun v h=>∃ a,v=.ref a/\New P a/\LpAt h a cs):=fun s Q E p kk=>by
 refine sE (arm_eval_List ..) ?_
 refine YZa (YZd (YZa (hs _ _ E p fun vs h1 tk1 x=>YZb (wpAny_newList ?_ ?_))))
 ·exact kk _ _ _ ⟨⟨_,rfl,⟨h1,x.2,YZg _⟩,vs,⟨_,Heap.get?_push_size _ rfl⟩,x.1⟩,he _ _ (Grows.push _ _) x.2⟩
 ·rw [<- x.1,List.length_map] at hn;exact hn
theorem Xs.lsApp {R':HP} {ap:Pos} (F:Fx K env h₀) (hR:Sf [env.locals] R) (ha:Off env h₀ a) (hv:μ x=some (.ref a)) (hbR:∀ h,R h->LpAt h a cs) (hz:cs.length<=sizeLine)
  (he:EvP (model prog w) A env (Pc env h₀ μ R) e V) (hR':∀ h h' c,Heap.SameBut a h h'->LpAt h' a (cs++[c])->V c h->R h->R' h') (hr:Xs (model prog w) A env (Pc env h₀ μ R') rest N Rt X)
  (hx:autoParam (env.kindOf x=some .local) tR) (hd:autoParam ((x==("__debug__" : Str))=false) tD) (hi:autoParam (interactive env=false) tR) (hs:autoParam (swapsWith (.Call (.Attribute (.Name x fp) "append" ap) [e] [] p1) none pos.line env=pure false) tR)
  (hbase:autoParam (attributeBase (.Name x fp) "append" env (eval (.Name x fp) env)=eval (.Name x fp) env) tR) (hline:autoParam ((ap.endLine==p1.line)=true) tR) (hfew:autoParam (methodCallForm ([e].length+([]:List Keyword).length) (backTo p1 (starEach [e] env)) (backToKw p1 (keywordEach [] env))=true) tR)
  (he2:autoParam (starEach [e] env=(false,eval e env)::starEach [] env) tR) (hpl:autoParam ((backTo p1 (starEach [e] env)).any (·.1)=false) tR):Xs (model prog w) A env (Pc env h₀ μ R) (.Expr (.Call (.Attribute (.Name x fp) "append" ap) [e] [] p1) pos::rest) N Rt X:=by
 refine Xs.expr (N1:=Pc env h₀ μ R') (Tr.method1 (Ev.loc (F.cx hR) hx hv hd) he (id := "list.append") (fun s pl Q E ov p hov q=>?_) (fun s Q E ov v p hov hvs kk=>?_) hbase hline hfew he2 hpl) hr hi hs
 ·rw [YZh hov] at q ⊢
  refine J0 (hbR _ p.2) fun vs z01 _=>?_;obtain ⟨n,ho⟩:=z01
  exact getMethod_list_append ho rfl rfl q
 ·refine sE (YZh hov) ?_
  refine J0 (hbR _ p.2) fun vs hl e1=>?_
  refine YZb (wpAny_list_append_plain hl (fun h' hl' sb=>kk _ h' s.toks ⟨fun _ q=>(by cases q),ha μ _ _ (fun b o hb e=>(sb.2 b fun q=>hb (q▸List.mem_singleton_self _)).trans e) p.1,hR' _ _ (tk0 v) sb ⟨vs++[v],by refine sF (List.push_toArray ..) ?_;exact hl',by refine sE List.map_append (sE e1 ?_);rfl⟩ hvs p.2⟩) (by refine sE List.size_toArray ?_;rw [<- e1,List.length_map] at hz;exact hz))
theorem EvP.range (C:Cx K env h₀ μ P) (hf:Ev (model prog w) A env P (.Name "range" fp) (.type "range")) (ha:Ev (model prog w) A env P e (I k))
  (he:autoParam (eval (.Call (.Name "range" fp) [e] [] pos) env=(do let f <- eval (.Name "range" fp) env;callWith pos f [] (backTo pos (starEach [e] env)) [])) tR)
  (he2:autoParam (starEach [e] env=(false,eval e env)::starEach [] env) tR) (hpl:autoParam ((backTo pos (starEach [e] env)).any (·.1)=false) tR) :
  EvP (model prog w) A env P (.Call (.Name "range" fp) [e] [] pos) (fun v h=>∃ a,v=.ref a/\New P a/\RgAt h a k) :=
 EvP.callT1 hf ha.toP (fun s Q E v p q kk=>by
  refine tkI q fun t=>?_
  refine YZb (call_range_1 (kk _ _ _ ⟨_,rfl,⟨s.heap,p,YZg _⟩,_,_,_,IsRange.new ..⟩ (C.grow _ _ (Grows.push _ _) p)))) he he2 hpl
theorem Src.range (hh:A.handled=none) {h:Heap} {n:Nat} (hn:n<1000000) (x:RgAt h a n):Src prog w A (.ref a) h ((List.range n).map fun (i:Nat)=>I (i:Int)):=by
 refine Jj x fun t u v hr=>?_;clear x
 intro s Q E e kk
 subst e
 have hsz:Builtin.Range.rangeSize 0 n 1=n:=by
  unfold Builtin.Range.rangeSize;simp;lia
 have hf:∀ k:Int,0<=k->k<=1000000->Builtin.Range.rangeFitsLong k=true:=fun k h0 h1=>by
  unfold Builtin.Range.rangeFitsLong;simp;lia
 refine wpAny_pyIter_range hr (by unfold Builtin.Range.small;refine sE hsz ?_;rewrite [hf 0 (by decide) (by decide),hf n (by exact Int.natCast_nonneg _) (by lia),hf 1 (by decide) (by decide)];refine sE (if_pos (by decide)) (sE (hf ((n:Int)+(1-1)) (by exact Int.natCast_nonneg _) (by lia)) ?_);simp) ?_
 refine sE hsz ?_
 refine kk _ _ s.toks [s.heap.objs.size] [s.heap.objs.size] (fun i h=>IsRangeIter h s.heap.objs.size (0+(i:Nat)*1) ((n:Int)-(i:Nat)) 1) (YZg _) (Grows.push _ _) (by refine sE (Heap.size_push ..) ?_;exact Nat.lt_succ_self _)
  (Walks.weak (Walks.range hh s.heap.objs.size 0 1 n) (by simp) (fun i v hi p=>?_)) ?_ (fun i h st b hb=>by refine sE (mS hb) ?_;exact ⟨_,st⟩) (fun b hb=>.inl (mS hb)) (fun b hb=>mS hb)
 ·obtain ⟨t,rfl⟩:=p
  refine sE List.getD_eq_getElem?_getD (sE List.getElem?_map (sE (List.getElem?_range hi) ?_))
  show I _=I _
  congr 1;lia
 ·show _=_
  have:=Heap.get?_push_size s.heap (o:={ cls:=.type "range_iterator", data:=.fields #[rawInt 0,rawInt n,rawInt 1] }) rfl
  simpa using this
theorem Ist.int (h:Ev (model prog w) A env P e (I k)) (he:autoParam (∀ whole,isTrue e env whole=(do let v <- whole;standAt e.pos;holding [v] (truthy v))) tI):Ist (model prog w) A env P e (k != 0) :=
 Ist.val h (fun s Q E v hv q=>by
  refine tkI hv fun t=>?_
  exact YZb (PyProof.Rows.truthy_int (q s.toks))) he
end
end
section
section
variable {prog:Program} {w:World} {A:Around} {env:Env} {K:Frag} {h₀:Heap} {μ:Str->Option Value} {P:HP} {rest body:List Stmt} {N:HP} {Rt X:Value->HP} {pos p1 fp cp:Pos} {e:PySem.Expr} {x:Str}
theorem rangeD {n i:Nat} (h:i<n):((List.range n).map fun (i:Nat)=>I (i:Int)).getD i .none=I (i:Int):=by
 refine sE List.getD_eq_getElem?_getD (sE List.getElem?_map (sE (List.getElem?_range h) ?_));rfl
theorem Xs.forR {σ:Type} {n:Nat} (F:Fx K env h₀) (hcl:Cl env) (hh:A.handled=none) (Wd:List Addr) (hWd:∀ h,Pc env h₀ μ P h->∀ b∈Wd,∃ o,h.get? b=some o) (hn:n<1000000)
  (hf:Ev (model prog w) A env (Pc env h₀ μ P) (.Name "range" fp) (.type "range")) (ha:Ev (model prog w) A env (Pc env h₀ μ P) e (I n))
  (ex:List Str) (μi:Nat->σ->Str->Option Value) (R:List Addr->Nat->σ->HP) (hRw:∀ W,(∀ b∈W,New (Pc env h₀ μ P) b)->∀ i z,Sf W (R W i z)) (hRl:∀ W i z,Sf [env.locals] (R W i z)) (hP:Sf [] P)
  (z0:σ) (h0:∀ h,P h->∀ W,(∀ b∈W,New (Pc env h₀ μ P) b)->R W 0 z0 h) (hμ:∃ u,Mq env μ (ovr (μi 0 z0) ([x]++ex) u))
  (hbody:∀ W,(∀ b∈W,New (Pc env h₀ μ P) b)->∀ i z (S:HP) u,i<n->Sf Wd S->(∀ h,S h->∀ b∈W,∃ o,h.get? b=some o)->(∀ Wx,(∀ b∈Wx,b∈Wd∨New S b)->Sf Wx S)->Xs (model prog w) A env (Pc env h₀ (up (ovr (μi i z) ex u) x (I (i:Int))) (fun h=>R W i z h/\S h)) body (fun h=>∃ z u,Pc env h₀ (ovr (μi (i+1) z) ([x]++ex) u) (fun h=>R W (i+1) z h/\S h) h) Rt no)
  (hr:∀ W,(∀ b∈W,New (Pc env h₀ μ P) b)->∀ u z,Xs (model prog w) A env (Pc env h₀ (ovr (μi n z) ([x]++ex) u) (R W n z)) rest N Rt X)
  (hx:autoParam (env.kindOf x=some .local) tR) (hs:autoParam (∀ v,foldedSetIterable (.Call (.Name "range" fp) [e] [] cp) env v=pure v) tI)
  (he:autoParam (eval (.Call (.Name "range" fp) [e] [] cp) env=(do let f <- eval (.Name "range" fp) env;callWith cp f [] (backTo cp (starEach [e] env)) [])) tR)
  (he2:autoParam (starEach [e] env=(false,eval e env)::starEach [] env) tR) (hpl:autoParam ((backTo cp (starEach [e] env)).any (·.1)=false) tR):Xs (model prog w) A env (Pc env h₀ μ P) (.For (.Name x p1) (.Call (.Name "range" fp) [e] [] cp) body [] pos::rest) N Rt X:=by
 have hl:((List.range n).map fun (i:Nat)=>I (i:Int)).length=n:=by simp
 refine Xs.forZ (Y:=Addr) (V:=fun y c h=>c=.ref y/\New (Pc env h₀ μ P) y/\RgAt h y n) F hcl Wd hWd (EvP.range (F.cx hP) hf ha he he2 hpl) (fun _=>n) (fun env=>env.kindOf x=some .local) [x] ex (fun _ i μ=>up μ x (((List.range n).map fun (i:Nat)=>I (i:Int)).getD i .none)) (fun y=>[y])
  ?_ ?_ hx (fun _=>μi) (fun _=>R) (fun _=>hRw) (fun _=>hRl) (fun h h' g p=>hP.grow g p) (fun _=>z0) (fun _ _ _ h' _ _ p=>h0 h' p) (fun _=>hμ) ?_ (fun _=>hr) hs
 ·intro y v h q p
  refine J3 q fun e1 _ hT=>?_;clear q
  have e1:=YZh e1
  subst e1
  have:=SrcW.nm (x:=x) (p1:=p1) (c:=.ref y) (P0:=Pc env h₀ μ P) (Src.range (prog:=prog) (w:=w) hh hn hT) p rfl (fun b e=>by cases e;exact hT.live)
  rw [hl] at this
  exact this
 ·intro y c h q p b hb
  refine sE (mS hb) ?_
  refine ⟨fun z=>?_,fun z=>q.2.1.ne_loc z.symm⟩
  refine J0 q.2.1 fun h1 p1 e1=>?_
  obtain ⟨o,ho⟩:=hWd h1 p1 y z
  rw [e1] at ho;cases ho
 ·intro y W hW i z S u hi hS hlv hst
  refine sE (rangeD hi) ?_
  exact hbody W hW i z S u hi hS hlv hst
end
end
section
theorem DZ3 {kindOf:Str->Option NameKind} {x:Str} (hx:kindOf x=some .local):∀ (binds:List (Str×Value)) (m:Str->Option Value),bindL kindOf binds m x=(binds.reverse.lookup x).or (m x)
 | [],m=>rfl
 | (n,v)::r,m=>by
  unfold bindL
  rewrite [DZ3 hx r];refine sE List.reverse_cons (sE List.lookup_append ?_)
  cases e:r.reverse.lookup x with
  | some u=>rfl
  | none =>
   simp only [Option.none_or]
   by_cases hn:n=x
   ·subst hn
    refine sE (if_pos hx) ?_;simp [List.lookup]
   ·have:(x==n)=false:=by rw [beq_eq_false_iff_ne];exact Ne.symm hn
    by_cases hk:kindOf n=some .local
    ·refine sE (if_pos hk) ?_;simp [List.lookup,this,if_neg (Ne.symm hn)]
    ·refine sE (if_neg hk) ?_;simp [List.lookup,this]
theorem DZ4 {kindOf:Str->Option NameKind} {x:Str} (hx:kindOf x=some .cell):∀ (binds:List (Str×Value)) (m:Str->Option Value),bindC kindOf binds m x=(binds.reverse.lookup x).or (m x)
 | [],m=>rfl
 | (n,v)::r,m=>by
  unfold bindC
  rewrite [DZ4 hx r];refine sE List.reverse_cons (sE List.lookup_append ?_)
  cases e:r.reverse.lookup x with
  | some u=>rfl
  | none =>
   simp only [Option.none_or]
   by_cases hn:n=x
   ·subst hn
    refine sE (if_neg (by rw [hx];decide)) ?_;simp [List.lookup]
   ·have:(x==n)=false:=by rw [beq_eq_false_iff_ne];exact Ne.symm hn
    by_cases hk:kindOf n=some .local
    ·refine sE (if_pos hk) ?_;simp [List.lookup,this]
    ·refine sE (if_neg hk) ?_;simp [List.lookup,this,if_neg (Ne.symm hn)]
noncomputable def envC (qual:Str) (scope:Scope) (L f:Addr) (cd:Value):Env:=newEnv scope L mainGlobals (cellsFrom (L+1) scope.names []) (qual ++ ".<locals>.") (some f) cd none builtinsNs
section
variable {prog:Program} {w:World} {A:Around} {K:Frag} {f:Addr} {n:Nat} {vs:List Value} {Pre:HP} {Post:Value->Heap->Heap->Prop}
 {name qual:Str} {params:Arguments} {body:List Stmt} {scope:Scope} {dV kV doc pm cdv ct oc:Value} {an od:Option Addr} {osl:Array (Option Value)}
theorem KZp {A:Around} {s:Shared} {R:Result->Shared->Prop} {a:Addr} {o:Obj} {fd:FuncData} {body:List Stmt} {args:Args} {binds:List (Str×Value)}
  (hroom:A.depth<recursionLimit) (ho:s.heap.get? a=some o) (hdata:o.data=.func fd) (hlim:s.heap.NoLimit) (hcd:s.heap.CodeRec fd.code fd.qualname)
  (hbody:fd.body=.stmts body) (hbind:BindsTo s fd args binds) (hclo:fd.closure=[])
  (hkind:∀ x∈binds,fd.scope.names.lookup x.1=some .local∨(fd.scope.names.lookup x.1=some .cell/\((cellsFrom (s.heap.objs.size+1) fd.scope.names []).lookup x.1).isSome=true))
  (h:∀ h₀ tk,InCallC s (callEnvC fd s.heap.objs.size a).locals (bindL (callEnvC fd s.heap.objs.size a).kindOf binds fun _=>none) (callEnvC fd s.heap.objs.size a).cells
    (bindC (callEnvC fd s.heap.objs.size a).kindOf binds fun _=>none) { s with heap:=h₀,toks:=tk } ->
   wpC (model prog w) (A.deeper (callEnvC fd s.heap.objs.size a)) (execs body (callEnvC fd s.heap.objs.size a)) (fun f s'=>R (.ok (.ret (match f with | .ret v=>v | _=>.none))) s')
    (fun e s'=>wpC (model prog w) (A.deeper (callEnvC fd s.heap.objs.size a)) (leaving (callEnvC fd s.heap.objs.size a) e) (fun _ s''=>R (.error e) s'') (fun e' s''=>R (.error e') s'') s')
    { s with heap:=h₀,toks:=tk })
  (hco:autoParam (fd.scope.isCoroutine=false) tR) (hgen:autoParam (fd.scope.isGenerator=false) tR) (hk:autoParam (fd.scope.kind=.function) tR) :
  YZ7 (model prog w) A (.call (.ref a) args) R s:=by
 refine YZm ?_
 show wpC _ A.in1 (callAny (.ref a) args) _ _ s
 simp only [callAny]
 refine YZa (YZb (wpAny_load ho ?_))
 refine Jo hcd fun c oc vs tq hc hoc hdc hq=>?_;clear hcd
 simp only [hdata,callFunction,hco,hgen,hbody,hc]
 refine YZa (m:=field (.ref c) 1) (YZb (wpAny_field hoc hdc hq ?_))
 refine YZa (YZc (YZa (YZb (hbind _ _ _ _ ?_))))
 refine sE hclo ?_
 refine YZa (YZb (wpAny_newFunctionEnv_cells hk hkind fun env he s' x=>?_))
 subst he
 refine YZa (YZb (wpAny_enterFrame (hlim.keeps x.toInCall.keep) hroom ?_))
 refine YZc (And.intro rfl ?_)
 have e:callEnvC fd s.heap.objs.size a=newEnv fd.scope s.heap.objs.size fd.globals (cellsFrom (s.heap.objs.size+1) fd.scope.names []) (fd.qualname ++ ".<locals>.") (some a) (.ref c) none fd.builtins:=by unfold callEnvC;exact sE hc rfl
 refine J5 x.toInCall.same ?_;rintro h₀ tk rfl
 rw [<- e] at x ⊢
 exact c_func (h h₀ tk x)
theorem Fn.mkC (ns:List Str) (ds:List Value) (ho:K.lookup f=some ⟨oc,od,.func (fnOf name qual params body scope dV kV doc pm an cdv ct),osl⟩) (hcd:codeIn K cdv qual=true)
  (hbind:∀ s args,Gd K s.heap->args.length=vs.length->BindsTo s (fnOf name qual params body scope dV kV doc pm an cdv ct) ⟨args,[]⟩ (ns.zip (args++ds)))
  (hb:∀ h L A,Gd K h->Pre h->(∀ b,L<=b->h.get? b=none)->Room n A->Fx K (envC qual scope L f cdv) h->Ce (envC qual scope L f cdv) h->Xs (model prog w) A (envC qual scope L f cdv) (Pc (envC qual scope L f cdv) h (YZ9 ns (vs++ds.map tk0)) (fun _=>True)) body (fun h'=>Grows h h'/\Post .none h h') (fun v h'=>Grows h h'/\Post v h h') no)
  (hnk:∀ L,∀ y∈ns,scope.names.lookup y=some .local∨(scope.names.lookup y=some .cell/\((cellsFrom (L+1) scope.names []).lookup y).isSome=true)) (hcn:∀ L x c,(cellsFrom (L+1) scope.names []).lookup x=some c->scope.names.lookup x=some .cell)
  (hci:∀ L x y c,(cellsFrom (L+1) scope.names []).lookup x=some c->(cellsFrom (L+1) scope.names []).lookup y=some c->x=y)
  (hco:autoParam (scope.isCoroutine=false) tR) (hgen:autoParam (scope.isGenerator=false) tR) (hk:autoParam (scope.kind=.function) tR) :
  Fn prog w K f (n+1) vs Pre Post:=fun A s R args room G pre hargs k=>by
 have hL:∀ b,s.heap.objs.size<=b->s.heap.get? b=none:=fun b hb=>by
  cases e:s.heap.get? b with
  | none=>rfl
  | some o=>exact absurd (Heap.lt_size e) (Nat.not_lt.mpr hb)
 refine KZp (fd:=fnOf name qual params body scope dV kV doc pm an cdv ct) (body:=body) (binds:=ns.zip (args++ds)) (by have:=room.depth;lia) (G.inK _ _ ho) rfl G.nolimit (codeRec_of G.inK hcd) rfl
  (hbind s args G (by exact sF hargs (sE (List.length_map ..) rfl))) rfl (fun y hy=>hnk _ y.1 (List.of_mem_zip hy).1) (fun h₁ tk₁ X=>?_) hco hgen hk
 have lk:∀ x,((ns.zip (args++ds)).reverse.lookup x).map tk0=YZ9 ns (vs++ds.map tk0) x:=fun x=>by
  refine sE (XZp ..) (sE List.map_reverse (sE (DZ6 ..) (sE List.map_append (sE hargs ?_))));rfl
 have P1:Pc (envC qual scope s.heap.objs.size f cdv) s.heap (YZ9 ns (vs++ds.map tk0)) (fun _=>True) h₁:=by
  refine ⟨⟨_,⟨X.toInCall.ns,X.toInCall.keep,Nat.le_refl _⟩,fun x hx=>?_,fun x c e=>?_⟩,trivial⟩
  ·have e:=DZ3 (x:=x) (kindOf:=(callEnvC (fnOf name qual params body scope dV kV doc pm an cdv ct) s.heap.objs.size f).kindOf) hx (ns.zip (args++ds)) (fun _=>none)
   refine sE e (sE Option.or_none ?_)
   exact lk x
  ·refine ⟨_,X.cell x c e,?_⟩
   have e2:=DZ4 (x:=x) (kindOf:=(callEnvC (fnOf name qual params body scope dV kV doc pm an cdv ct) s.heap.objs.size f).kindOf) (hcn _ x c e) (ns.zip (args++ds)) (fun _=>none)
   refine sE e2 (sE Option.or_none ?_)
   exact lk x
 have ce:Ce (envC qual scope s.heap.objs.size f cdv) s.heap:=by
  refine ⟨fun x c e=>⟨Nat.ne_of_gt (X.above x c (YZs e)),fun q=>?_⟩,fun x c e=>hL _ (Nat.le_of_lt (X.above x c (YZs e))),hci _⟩
  have h1:=hcn _ x c e
  have h2:scope.names.lookup x=some .local:=q
  rw [h1] at h2;cases h2
 refine YZf (hb s.heap s.heap.objs.size (A.deeper (envC qual scope s.heap.objs.size f cdv)) G pre hL room.deeper ⟨hk,rfl,rfl,G⟩ ce _ (fun fl s'=>R (.ok (.ret (match fl with | .ret v=>v | _=>.none))) s') (fun _ _=>False) P1 (fun h' tk q=>?_) (fun v h' tk q=>?_) (fun e h' tk q=>q.elim)) (fun _ _ q=>q) (fun _ _ q=>q.elim)
 ·exact k .none h' tk q.1 q.2
 ·exact k v h' tk q.1 q.2
end
end
section
section
variable {prog:Program} {w:World} {A:Around} {env:Env} {K:Frag} {h₀:Heap} {μ:Str->Option Value} {P:HP} {pos p1 px:Pos} {elt iter:PySem.Expr} {scope:Scope} {cl:List (Str×Addr)} {x:Str} {xs:List Value} {c:Value} {rest body:List Stmt} {N:HP} {Rt X:Value->HP} {W:List Addr} {G:Addr->HP}
theorem EvP.compY (F:Fx K env h₀) (O:CompOk env scope cl (fun env=>env.kindOf x=some .local)) (hcl:Cl env) (he:EvP (model prog w) A env (Pc env h₀ μ P) iter (fun c h=>∃ y,c=.ref y/\G y h))
  (hsrc:∀ y h,G y h->Pc env h₀ μ P h->Src prog w A (.ref y) h xs) (hex:∀ y h,G y h->Pc env h₀ μ P h->∃ o,h.get? y=some o) (hn:xs.length<=sizeLine)
  (hP:∀ W,(∀ b∈W,New (Pc env h₀ μ P) b)->Sf W P) (f:Nat->Value)
  (helt:∀ i (B:HP) C,New (Pc env h₀ μ P) C->Fx K (compEnvC scope cl C env) h₀->i<xs.length->Sf [] B->(∀ h,B h->Lo env h₀ μ h/\P h)->Ev (model prog w) A (compEnvC scope cl C env) (Pc (compEnvC scope cl C env) h₀ (up (cmu cl μ) x (xs.getD i .none)) B) elt (f i))
  (hs:autoParam (∀ v,foldedSetIterable iter env v=pure v) tI) :
  EvP (model prog w) A env (Pc env h₀ μ P) (.ListComp elt [⟨.Name x px,iter,[],0⟩] scope pos) (fun v h=>∃ D,v=.ref D/\New (Pc env h₀ μ P) D/\LsAt h D ((List.range xs.length).map f)) :=
 Tr.post (EvP.compE (Y:=Addr) (V:=fun y v h=>v=.ref y/\G y h) F O hcl he (fun _=>xs.length) (fun _ i μ=>up μ x (xs.getD i .none)) (fun y=>[y])
  (fun y v h q p=>by
   have e:=YZh q.1
   subst e
   exact SrcW.nm (c:=.ref y) (hsrc y h q.2 p) p rfl fun b e'=>by cases e';exact hex y h q.2 p) (fun _ _ _ _ _=>hn) hP (fun _=>f) (fun _=>helt) hs) fun v h q=>⟨J5 q.1 fun _ D r=>⟨D,r⟩,q.2⟩
theorem Xs.compY {y:Str} {spos:Pos} (F:Fx K env h₀) (O:CompOk env scope cl (fun env=>env.kindOf x=some .local)) (hcl:Cl env) (he:EvP (model prog w) A env (Pc env h₀ μ P) iter (fun c h=>∃ y,c=.ref y/\G y h))
  (hsrc:∀ y h,G y h->Pc env h₀ μ P h->Src prog w A (.ref y) h xs) (hex:∀ y h,G y h->Pc env h₀ μ P h->∃ o,h.get? y=some o) (hn:xs.length<=sizeLine)
  (hP:∀ W,(∀ b∈W,New (Pc env h₀ μ P) b)->Sf W P) (hPl:Sf [env.locals] P) (f:Nat->Value)
  (helt:∀ i (B:HP) C,New (Pc env h₀ μ P) C->Fx K (compEnvC scope cl C env) h₀->i<xs.length->Sf [] B->(∀ h,B h->Lo env h₀ μ h/\P h)->Ev (model prog w) A (compEnvC scope cl C env) (Pc (compEnvC scope cl C env) h₀ (up (cmu cl μ) x (xs.getD i .none)) B) elt (f i))
  (hr:∀ D,New (Pc env h₀ μ P) D->Xs (model prog w) A env (Pc env h₀ (up μ y (.ref D)) (fun h=>LsAt h D ((List.range xs.length).map f)/\P h)) rest N Rt X)
  (hx:autoParam (env.kindOf y=some .local) tR) (hs:autoParam (∀ v,foldedSetIterable iter env v=pure v) tI) (hsw:autoParam (swapsWith (.ListComp elt [⟨.Name x px,iter,[],0⟩] scope pos) (some (.Name y p1)) spos.line env=pure true) tR) :
  Xs (model prog w) A env (Pc env h₀ μ P) (.Assign [.Name y p1] (.ListComp elt [⟨.Name x px,iter,[],0⟩] scope pos) spos::rest) N Rt X:=by
 refine Xs.comp (Y:=Addr) (V:=fun y v h=>v=.ref y/\G y h) F O hcl [] (fun _ _ b hb=>nomatch hb) OffL.nil he (fun _=>xs.length) (fun _ i μ=>up μ x (xs.getD i .none)) (fun y=>[y])
  (fun y v h q p=>by
   have e:=YZh q.1
   subst e
   exact SrcW.nm (c:=.ref y) (hsrc y h q.2 p) p rfl fun b e'=>by cases e';exact hex y h q.2 p) (fun _ _ _ _ _ _ _=>List.not_mem_nil) (fun _ _ _ _ _=>hn) (fun y _ i xs h=>xs=(List.range i).map f/\P h)
  (fun y i xs W hW=>Sf.and Sf.const (hP W hW)) (fun _ _ _ _=>Sf.and Sf.const hPl) (fun h h' g p=>(hP [] (fun b hb=>nomatch hb)).grow g p) (fun _ _=>true) (fun y c h h' _ _ p _ _=>⟨rfl,p⟩) ?_ ?_ (fun _ _ _ _ _ _ h=>by cases h) ?_ hx hs hsw
 ·intro y W hW i xs B C hC hF hi hB hB2 _ _ s Q E p k
  exact XZd (k true s.heap s.toks ⟨rfl,p⟩)
 ·intro y W hW i xs B C hC hF hi _ hB hB2 _ _
  refine Tr.post (Tr.pre (helt i (fun h=>B h/\xs=(List.range i).map f/\P h) C hC hF hi (Sf.and hB (Sf.and Sf.const (hP [] fun b hb=>nomatch hb))) fun h q=>⟨hB2 h q.1,q.2.2⟩) fun h q=>q) fun v h q=>⟨q.2.1,q.2.2.1,?_,q.2.2.2.2⟩
  refine sE q.2.2.2.1 (sE q.1 (sE List.range_succ (sE List.map_append ?_)));rfl
 ·intro _ W D xs _ hD
  exact Xs.pre (hr D hD) fun h q=>⟨q.1,by refine sF q.2.2.1 ?_;exact q.2.1,q.2.2.2⟩
end
end
section
noncomputable def sO (cs:List Nat):PySem.Str:=⟨cs.toArray⟩
noncomputable def Asc (cs:List Nat):Prop:=∀ c∈cs,c<128
section
variable {prog:Program} {w:World} {A:Around} {env:Env} {K:Frag} {h₀:Heap} {μ:Str->Option Value} {P:HP} {pos fp:Pos} {e:PySem.Expr} {c:Nat} {k:Int} {cs:List Nat} {t:Tok}
theorem Src.str (hh:A.handled=none) {h:Heap} (ha:Asc cs):Src prog w A (.str (sO cs) t) h (cs.map fun c=>Sx (sO [c])):=by
 intro s Q E e kk
 subst e
 have hall:(sO cs).cps.all (· < 128)=true:=by
  simp only [sO,List.all_toArray,List.all_eq_true,decide_eq_true_eq];exact ha
 refine wpAny_pyIter_ascii hall ?_
 refine kk _ _ s.toks _ _ _ (YZg _) (Grows.push _ _) (by refine sE (Heap.size_push ..) ?_;exact Nat.lt_succ_self _)
  (Walks.weak (Walks.strAscii hh s.heap.objs.size (sO cs) t) (by simp [sO]) (fun i v hi p=>?_)) ⟨_,Heap.get?_push_size _ rfl,rfl,rfl⟩ (fun i h st b hb=>by refine sE (mS hb) ?_;refine J0 st fun o ho _=>?_;clear st;exact ⟨o,ho⟩) (fun b hb=>.inl (mS hb)) (fun b hb=>mS hb)
 refine J2 p ?_;clear p;rintro c u hc rfl
 have hc':cs[i]?=some c:=by simpa [sO] using hc
 refine sE List.getD_eq_getElem?_getD (sE List.getElem?_map (sE hc' ?_));rfl
theorem Ev.ord (C:Cx K env h₀ μ P) (hf:Ev (model prog w) A env P (.Name "ord" fp) (.builtin "ord")) (h:Ev (model prog w) A env P e (Sx (sO [c])))
  (he2:autoParam (starEach [e] env=(false,eval e env)::starEach [] env) tR) (hpl:autoParam ((backTo pos (starEach [e] env)).any (·.1)=false) tR):Ev (model prog w) A env P (.Call (.Name "ord" fp) [e] [] pos) (I (c:Int)) :=
 Ev.callB hf (Evs.cons h Evs.nil he2) (fun s Q E vs p hv kk=>by
  refine J0 (tk1 hv) ?_;rintro v rfl q1
  refine tkS q1 fun t=>?_
  exact YZb (PySem.P.ord_of_char (kk _ s.heap _ rfl (Grows.refl _)))) C.grow rfl he2 hpl
theorem Ev.chr (C:Cx K env h₀ μ P) (h0:0<=k) (h1:k<256) (hf:Ev (model prog w) A env P (.Name "chr" fp) (.builtin "chr")) (h:Ev (model prog w) A env P e (I k))
  (he2:autoParam (starEach [e] env=(false,eval e env)::starEach [] env) tR) (hpl:autoParam ((backTo pos (starEach [e] env)).any (·.1)=false) tR):Ev (model prog w) A env P (.Call (.Name "chr" fp) [e] [] pos) (Sx (sO [k.toNat])) :=
 Ev.callB hf (Evs.cons h Evs.nil he2) (fun s Q E vs p hv kk=>by
  refine J0 (tk1 hv) ?_;rintro v rfl q1
  refine tkI q1 fun t=>?_
  exact YZb (chr_of_range h0 (by lia) (kk _ s.heap _ rfl (Grows.refl _)))) C.grow rfl he2 hpl
end
end
section
namespace BF
theorem slot_join:Slot "bytes" "join" "bytes.join" :=
 .of (owner := "bytes") (n := "join") (by refine sE (typeLookup_type ..) (sE builtinLookup_eq_fast ?_);kernel_rfl) (by decide +kernel) (by decide +kernel) (by decide +kernel)
  (by first | exact .inl (by decide +kernel) | exact .inr (by decide +kernel)) (by refine sE (isSubtype_type ..) ?_;kernel_rfl)
theorem entry_join:entryFor table "bytes.join" = some Builtin.«bytes.join»:=entryFor_of_tree (by kernel_rfl)
theorem args_join (a b:Value):argsOk "bytes.join" ⟨[a,b],[]⟩:=by unfold argsOk;kernel_rfl
theorem type_join:typeOf (.builtin "bytes.join")=pure (.type "method_descriptor"):=by show builtinType _=_;refine sE builtinType_eq_fast ?_;kernel_rfl
end BF
theorem vals_of:∀ {vs:List Value} {cs:List Nat},(vs.map tk0=cs.map fun c=>Sx (sO [c]))->∃ l:List (PySem.Str×Tok),vs=strValues l/\l.map (·.1)=cs.map fun c=>sO [c]
 | [],[],_=>⟨[],rfl,rfl⟩
 | [],_::_,e=>by cases e
 | _::_,[],e=>by cases e
 | v::vs,c::cs,e=>by
  obtain ⟨e1,e2⟩:=List.cons.inj e
  obtain ⟨t,rfl⟩:=NZd e1
  refine J0 (vals_of e2) ?_;rintro l rfl h
  exact ⟨(sO [c],t)::l,rfl,by exact sE List.map_cons (sE List.map_cons (sE h rfl))⟩
section
variable {prog:Program} {w:World} {A:Around} {env:Env} {K:Frag} {h₀:Heap} {μ:Str->Option Value} {P:HP} {pos ap cp:Pos} {e:PySem.Expr} {cs:List Nat} {ks:List Int} {k:Nat}
theorem joinOk {cs:List Nat} (h:cs.length<=100):JoinOk (sO []) (cs.map fun c=>sO [c])=true:=by
 have h1:=StrLaws.joinFits (sep:=sO []) (texts:=cs.map fun c=>sO [c]) (B:=1) (fun y hy=>by
  refine J0 (List.mem_map.mp hy) ?_;rintro c _ rfl
  exact Nat.le_refl 1) (by refine sE (List.length_map ..) (sE (show (sO []).length=0 from rfl) ?_);lia)
 unfold JoinOk
 refine sE h1 ?_;rfl
theorem joinB_aux {s:Shared} {Q:Value->Shared->Prop} {E:Value->Shared->Prop} {a:Addr} {u:Value} {b0:Array UInt8} {t:Tok} (hl:s.heap.IsList a [u].toArray) (e2:tk0 u=By ks) (kk:∀ t tk,Q (.bytes (bA ks) t) { s with toks:=tk }):wpC (model prog w) A (PySem.call (.builtin "bytes.join") [.bytes b0 t,.ref a]) Q E s:=by
 obtain ⟨t2,rfl⟩:=GZt e2
 have hT:=hl.typeIs
 refine J7 hl fun o ho hc n hd=>?_;clear hl
 refine YZb (wpAny_call_entry BF.slot_join (typeIs_bytes _ _ _) BF.entry_join ?_ (BF.args_join _ _))
 have e:selfAndOne (toString Builtin.Bytes.Kind.bytes.name ++ ".join") ⟨[.bytes b0 t,.ref a],[]⟩=pure (Value.bytes b0 t,Value.ref a):=rfl
 show wpAny _ _ (selfAndOne _ ⟨[.bytes b0 t,.ref a],[]⟩ >>= _) _ _ _
 refine wpAny_bind (wpAny_of_eq (a:=(Value.bytes b0 t,Value.ref a)) rfl ?_)
 dsimp only
 refine wpAny_bind (m:=Builtin.Bytes.joinItems _) ?_
 unfold Builtin.Bytes.joinItems
 refine wpAny_bind (wpAny_typeOf hT ?_)
 refine bm_if_true rfl ?_
 refine wpAny_pure ?_
 refine wpAny_bind (m:=seqItems? (.ref a)) ?_
 refine wpAny_bind (wpAny_load ho ?_)
 refine sE hd ?_
 refine wpAny_pure ?_
 dsimp only
 refine bm_if_true rfl ?_
 refine wpAny_bind (wpAny_typeOf (typeIs_bytes _ _ _) ?_)
 refine bm_if_true rfl ?_
 refine wpAny_bind (wpAny_rule ?_)
 exact wpAny_pure ⟨_,rfl,kk _ _⟩
theorem Ev.joinS (C:Cx K env h₀ μ P) (hz:cs.length<=100) (ha:EvP (model prog w) A env P e (fun v h=>∃ a,v=.ref a/\LsAt h a (cs.map fun c=>Sx (sO [c]))))
  (hbase:autoParam (attributeBase (.Constant (.str (sO [])) k cp) "join" env (eval (.Constant (.str (sO [])) k cp) env)=eval (.Constant (.str (sO [])) k cp) env) tR) (hline:autoParam ((ap.endLine==pos.line)=true) tR) (hfew:autoParam (methodCallForm ([e].length+([]:List Keyword).length) (backTo pos (starEach [e] env)) (backToKw pos (keywordEach [] env))=true) tR)
  (he2:autoParam (starEach [e] env=(false,eval e env)::starEach [] env) tR) (hpl:autoParam ((backTo pos (starEach [e] env)).any (·.1)=false) tR) :
  Ev (model prog w) A env P (.Call (.Attribute (.Constant (.str (sO [])) k cp) "join" ap) [e] [] pos) (Sx (sO cs)):=fun s Q E p kk=>by
 refine Tr.method1 (V':=fun v h=>tk0 v=Sx (sO cs)/\P h) Ev.cs ha (id := "str.join") (fun s pl Q E ov p hov q=>?_) (fun s Q E ov v p hov hv k2=>?_) hbase hline hfew he2 hpl s Q E p kk
 ·obtain ⟨t,rfl⟩:=NZd hov
  exact GM.join q
 ·obtain ⟨t,rfl⟩:=NZd hov
  refine J8 hv fun a e1 vs hlp e2=>?_;clear hv
  have hl:=hlp.isList
  refine sE (YZh e1) ?_
  refine J0 (vals_of e2) ?_;rintro l rfl hl2
  refine YZb (SC.join hl hl2 (joinOk hz) fun t' k'=>k2 _ _ _ ⟨?_,p⟩)
  have j1:=beq_iff_eq.mp (join_plain_closes (sO []) (cs.map fun c=>sO [c]))
  refine sE j1 ?_
  exact congrArg Sx (join_ones cs)
theorem Ev.joinB (C:Cx K env h₀ μ P) {b0:List UInt8} (ha:EvP (model prog w) A env P e (fun v h=>∃ a,v=.ref a/\LsAt h a [By ks]))
  (hbase:autoParam (attributeBase (.Constant (.bytes b0) k cp) "join" env (eval (.Constant (.bytes b0) k cp) env)=eval (.Constant (.bytes b0) k cp) env) tR) (hline:autoParam ((ap.endLine==pos.line)=true) tR) (hfew:autoParam (methodCallForm ([e].length+([]:List Keyword).length) (backTo pos (starEach [e] env)) (backToKw pos (keywordEach [] env))=true) tR)
  (he2:autoParam (starEach [e] env=(false,eval e env)::starEach [] env) tR) (hpl:autoParam ((backTo pos (starEach [e] env)).any (·.1)=false) tR) (hb0:autoParam (b0=[]) tR) :
  Ev (model prog w) A env P (.Call (.Attribute (.Constant (.bytes b0) k cp) "join" ap) [e] [] pos) (By ks):=fun s Q E p kk=>by
 subst hb0
 refine Tr.method1 (V':=fun v h=>tk0 v=By ks/\P h) (Ev.cbytes (ks:=[]) rfl) ha (id := "bytes.join") (fun s pl Q E ov p hov q=>?_) (fun s Q E ov v p hov hv k2=>?_) hbase hline hfew he2 hpl s Q E p kk
 ·obtain ⟨t,rfl⟩:=GZt hov
  exact getMethod_builtin (typeIs_bytes _ _ _) FB.plainAttrs_bytes BF.slot_join BF.type_join (fun a e=>nomatch e) q
 ·obtain ⟨t,rfl⟩:=GZt hov
  refine J8 hv fun a e1 vs hlp e2=>?_;clear hv
  have hl:=hlp.isList
  refine sE (YZh e1) ?_
  refine J0 (tk1 e2) ?_;rintro u rfl hu
  exact joinB_aux hl hu fun t tk=>k2 _ _ _ ⟨rfl,p⟩
end
end
end Mine
namespace MineH
section
open Mine
theorem BZv (p:Pos):Free [((.builtin "claim.caller" {}:Code),p)]:=fun x hx=>by
 rcases mS hx with rfl
 show Code.holds (.builtin "claim.caller" {})=false
 decide +kernel
theorem BZ5 {prog:Program} {w:World} {t:Sem Fin} {s:Shared} {R:Result->Shared->Prop} (hreg:s.asleep)
  (h:wpC (model prog w) callerA t (fun fin s'=>∃ f,fin=.done f/\(R (.ok f) s'/\leftWithCleanup s'.gens=false)) (fun e s'=>R (.error e) s'/\leftWithCleanup s'.gens=false) s) :
  ∃ n r s' s'',runN (denote table) prog w n s ⟨t,.builtin "claim.caller" {},default,[]⟩=.halted (outcomeOf r) s' /\
   schedN (denote table) prog w n (.single s ⟨t,.builtin "claim.caller" {},default,[]⟩)=.halted (outcomeOf r) s'/\s'.forget=s''.forget/\R r s'':=by
 obtain ⟨n,r,s₁,s₂,hs,hn,hfo,hR⟩:=wp_halts_full (M:=model prog w) (R:=R) hreg
  (Sem.wp_mono _ _ t (fun fin p' s' h'=>by refine J0 h' ?_;clear h';rintro f rfl hf;exact hf) (fun _ _ _ h'=>h') default s (h _ default caller_in (BZv _)))
 exact ⟨n,r,s₂,s₁,hn,hs,hfo,hR⟩
noncomputable abbrev WalkC (q:Program) (loose:List Str) (XP:(Str->Option Value)->Heap->Prop) (YP:World->Heap->Prop) (r:RowW) (d:DefRec) (kwd:List (Str×PySem.Expr)):Prop :=
 ∀ (w:World) (s₀ s₁:Shared) (mg mb:Str->Option Value),Ground q loose r.records XP w s₀ mg mb s₁.heap->YP w s₁.heap->∀ (a:Addr) (o:Obj) (pm cd doc dV kV:Value),s₁.heap.get? a=some o ->
  o.data=.func { docDef d.name d.params d.body d.scope pm cd doc with defaults:=dV,kwdefaults:=kV }->s₁.heap.CodeRec cd d.name->Dflts mg s₁.heap d.params kwd dV kV->mg d.name=some (.ref a)->s₁.gens=#[] ->
  ∀ (args:List WData) (vals:List Value) (as:List Addr),r.claim.pre args=true->WData.layableAll args=true->ReadsAllW r.records (classAt s₀.heap) s₁.heap vals args as->WellAll w.params s₁.heap vals args->(∀ a∈as,(a==sysModules)=false) ->
   wpC (model r.prog w) callerA (PySem.call (.ref a) vals) (fun v s'=>GoodWG r.claim (classAt s₀.heap) (ExcName.means s₀.heap) args s₁ (.ok (.ret v)) s')
    (fun e s'=>GoodWG r.claim (classAt s₀.heap) (ExcName.means s₀.heap) args s₁ (.error e) s') s₁
noncomputable def EndP (r:OpenRow) (s s₁:Shared) (args:List WData) (vs:List Value) (rr:Result) (s':Shared):Prop :=
 r.toRowW.claim.Ends s args vs s₁ rr s'/\s'.os=s.os/\(r.writes=true->namesKept r.prog r.keeps s.heap s'.heap/\∀ x∈r.toRowW.claim.records,∀ a,classAt s.heap x.1=some a->recordClass s'.heap a x.1 (x.2.map (·.1))=true)
theorem EndP.congr {r:OpenRow} {s s₁ s' s'':Shared} {args:List WData} {vs:List Value} {rr:Result} (h:EndP r s s₁ args vs rr s'') (e:s'.heap=s''.heap) (eo:s'.os=s''.os):EndP r s s₁ args vs rr s':=by
 refine J3 h fun a b c=>?_;clear h
 exact ⟨a.congr e,eo.trans b,by refine Mine.sE e ?_;exact c⟩
theorem PySem.W.holds_open {r:OpenRow} {q:Program} {loose:List Str} {Xt:Shared->Bool} {XP:(Str->Option Value)->Heap->Prop} {α:Type} {Yf:Shared->α} {Ya:World->α} {YP:World->Heap->Prop} {d:DefRec} {kwd:List (Str×PySem.Expr)} {N:Nat}
  (left:LeftO r.prog q loose Xt Yf Ya N) (hY:∀ w s,Yf s=Ya w->YP w s.heap) (hYk:∀ w h h',YP w h->(∀ b o,h.get? b=some o->h'.get? b=some o)->YP w h')
  (hX:∀ s,Xt s=true->XP (s.heap.nsMap mainGlobals) s.heap) (hXk:∀ mg h h',XP mg h->(∀ b o,h.get? b=some o->h'.get? b=some o)->XP mg h')
  (hdef:defOf q r.name=some (d,kwd)) (hp:r.prog.theDef r.name=some (d.params,d.body,d.scope)) (hk:kwWritten? d.params.kwonlyargs d.params.kw_defaults=some kwd) (hRf:∀ s,Xt s=true->RecFacts r.records s.heap) (hwr:(!r.writes || r.records.isEmpty)=true)
  (k1:r.wellSaid=true) (ok:(chainsOk q&&opensWell r.prog&&(frees r.toRowW&&r.within.isEmpty))=true) (hb:r.prog.bare) (hw:r.toRowW.promised)
  (call:WalkC q loose XP YP r.toRowW d kwd):r.Holds:=by
 refine ⟨k1,hw,?_⟩
 obtain ⟨ok,k5⟩:=Bool.and_eq_true_iff.mp ok
 obtain ⟨hch,o1⟩:=Bool.and_eq_true_iff.mp ok
 obtain ⟨k5,k6⟩:=Bool.and_eq_true_iff.mp k5
 refine Je (frees_parts k5) fun hsame hu ha hap hm=>?_
 refine ⟨⟨hb,o1,by show r.toRowW.makers.map _=[];refine Mine.sE hm ?_;rfl⟩,hw.witness,fun w=>⟨(left.behind hX hch w).1,fun s' hs'=>?_⟩⟩
 obtain ⟨s₀,hf,hg0,s,hT,hz,hgens,hg,G00,y⟩:=(left.behind (XP:=fun mg h=>XP mg h/\RecFacts r.records h) (fun s hs=>⟨hX s hs,hRf s hs⟩) hch w).2 s' hs'
 have G0:Ground q loose [] XP w s (s.heap.nsMap mainGlobals) (s.heap.nsMap builtinsNs) s.heap:=⟨G00.T,G00.B,G00.D,G00.TE,G00.TD,G00.W,G00.X.1,G00.cls,G00.has,G00.apart,G00.once,G00.K⟩
 have RF:=G00.X.2
 refine ⟨s₀,hf,hg0,s,hT,fun n hn=>?_,RF.1,RF.2.1,?_⟩
 ·obtain rfl:n=r.name:=by split at hn <;> simp_all
  exact pinned_of_view hg G0 hdef hp hk
 have hgens:s.gens=#[]:=Array.eq_empty_of_size_eq_zero (beq_iff_eq.mp hgens)
 have G:Ground q loose r.records XP w s _ _ s.heap:=RF.ground G0
 intro args hpre hlay ord hord
 obtain ⟨⟨vs,s₁⟩,hlaid⟩:=Option.isSome_iff_exists.mp (layAllW_isSome (P:=w.params) (ord:=ord) G.has args r.args s (pre_splitW hpre).1)
 have keeps:=layAllW_keeps _ _ _ hlaid
 have hal:=layAllW_rest _ _ _ hlaid
 refine J1 (reads_layAllW hord _ _ _ hlaid hlay s₁.heap (fun _ _ e=>e)) fun as hrd hin hold=>?_
 have L:Laid r.records w s s₁ args vs as:=⟨⟨ord,hord,hlaid⟩,hrd,hin,hold,keeps,hal.1.trans hgens,hal.2.2.1⟩
 have G₁:=G.keeps hXk keeps
 obtain ⟨a,o,pm,cd,doc,dV,kV,h1,h2,h3,h4,h5⟩:=G₁.fn hdef
 have hname:=defOf_name hdef
 have hcall:=call w s s₁ _ _ G₁ (hYk _ _ _ (hY w s y) keeps) a o pm cd doc dV kV h2 h3 h4 h5 (hname▸h1) L.gens args vs as hpre hlay L.reads L.well (L.low G.low)
 have hi:=ident_freeW hu ha hap
 have hwi:r.toRowW.claim.within=[]:=List.isEmpty_iff.mp k6
 have ge:∀ rr s',GoodWG r.toRowW.claim (classAt s.heap) (ExcName.means s.heap) args s₁ rr s'->EndP r s s₁ args vs rr s'/\leftWithCleanup s'.gens=false:=fun rr s' g =>
  have z:=g.laid (c:=r.toRowW.claim) hsame hwi hi L
  ⟨⟨z.1,z.2.1,fun q=>⟨namesKept_of hT hg _ keeps g.2.1.old,noTable hwr q⟩⟩,leftWithCleanup_false_of_bare z.2.2⟩
 have tree:wpC (model r.prog w) callerA (do match <- nsGet mainNs r.name with
   | some f=>do ret (<- PySem.call f vs)
   | none=>unsupported "claim.caller:no-such-global" : Sem Fin)
   (fun fin s'=>∃ f,fin=.done f/\(EndP r s s₁ args vs (.ok f) s'/\leftWithCleanup s'.gens=false))
   (fun e s'=>EndP r s s₁ args vs (.error e) s'/\leftWithCleanup s'.gens=false) s₁:=by
  refine YZa (YZb (wpAny_nsGet G₁.T.g ?_))
  refine Mine.sE h1 ?_
  refine YZa (YZf hcall (fun v s' g=>YZc ?_) fun e s' g=>?_)
  ·exact ⟨_,rfl,ge _ _ g⟩
  ·exact ge _ _ g
 refine Jo (BZ5 (R:=EndP r s s₁ args vs) (Shared.asleep_of_life hal.2.2.2 hz) tree) fun k rr t' t'' hrun hsched hfo hE=>?_
 have hE:=hE.congr (Shared.forget_eq hfo).1 (Shared.forget_eq hfo).2.2.2.1
 have hlife:t'.heap.life=s.heap.life:=(runN_life _ _ _ hrun).trans hal.2.2.2
 refine ⟨vs,s₁,hlaid,k,_,t',hsched,?_,(fun _ i x hx=>by rw [hgens] at hx;simp at hx),hE.2.2,by exact Mine.sE hlife rfl,Shared.rest_eq hE.2.1⟩
 exact hE.1.imp (Exists.imp fun v=>And.imp (fun q=>by refine Mine.sE q ?_;rfl) (And.imp_right (And.imp_right (And.imp_right (And.imp_left fun d4 b o y _=>d4 b o y)))))
  (Exists.imp fun e=>Exists.imp fun ob=>Exists.imp fun cls=>And.imp (fun q=>by refine Mine.sE q ?_;rfl) (And.imp_right (And.imp_right (And.imp_right (And.imp_right fun d5 b o y _=>d5 b o y)))))
end
noncomputable abbrev PWm:Program:=PySem.Challenge.pw_nu0031_01
noncomputable def Hf (i:Nat):Option Stmt:=PWm.main.body[i]?
noncomputable def Hm (i j:Nat):Option Stmt:=match PWm.main.body[i]? with
 | some (.ClassDef _ _ _ b ..)=>b[j]?
 | _=>none
noncomputable abbrev Hs (x:String) (t:Nat):Value:=.str (Str.ofString x) t
noncomputable abbrev Hr (a:Nat):Value:=.ref a
noncomputable abbrev Hi (k:Int) (t:Nat):Value:=.int k t
noncomputable abbrev Hp (t:Nat):Value:=Hs "/claim/cut.py" t
noncomputable abbrev He (P:Params) (x:String) (t:Nat) (v:Value):DictEntry:=⟨PyData.keyHash P (Str.ofString x),.str (Str.ofString x) t,v⟩
noncomputable abbrev Ht (vs:Array Value):Obj:=⟨.type "tuple", none,.seq vs,#[]⟩
noncomputable abbrev Hc (vs:Array Value):Obj:=⟨.type "code", none,.fields vs,#[]⟩
noncomputable abbrev HF (st:Option Stmt) {n:Str} {a:Arguments} {b:List Stmt} {ds:List PySem.Expr} {r:Option PySem.Expr} {ty:List TypeParam} {sc:Scope} {ts:Option Scope} {bi:Str} {p:Pos} (h:st=some (.FunctionDef n a b ds r ty sc ts bi p)) (x q:String) (dV kV doc pm:Value) (an:Option Addr) (cd ct:Value):Obj :=
 ⟨.type "function", none,.func (fnOf (Str.ofString x) (Str.ofString q) a b sc dV kV doc pm an cd ct),#[]⟩
noncomputable def frag (P:Params):Frag :=
 [(2,⟨Value.none,none,.dict #[He P "type.__subclasses__.Exception.0" 221 (Hi 38 0),He P "type.__subclasses__.Exception.n" 222 (Hi 1 0)] 2,#[]⟩),
  (3,⟨(.type "dict"),none,.dict #[He P "__name__" 165 (Hs "law_nu0031_01" 646),He P "__doc__" 166 .none,He P "__package__" 167 .none,He P "__loader__" 168 (.builtin "__main__.__loader__#opaque"),He P "__spec__" 169 .none,He P "__annotations__" 170 (Hr 6),He P "__builtins__" 171 (Hr 4),He P "__file__" 173 (Hp 172),He P "__cached__" 174 .none,He P "_wall" 193 (Hr 21),He P "MillError" 224 (Hr 38),He P "SheetFault" 240 (Hr 51),He P "SizeFault" 256 (Hr 63),He P "NONE" 264 (Hi 0 259),He P "SUB" 265 (Hi 1 260),He P "UP" 266 (Hi 2 261),He P "AVERAGE" 267 (Hi 3 262),He P "PAETH" 268 (Hi 4 263),He P "nearest" 279 (Hr 76),He P "guess" 289 (Hr 83),He P "filtered" 304 (Hr 90),He P "unfiltered" 319 (Hr 97),He P "weight" 325 (Hr 102),He P "best_filter" 337 (Hr 109),He P "MOST_ADLER" 341 (Hi 65521 340),He P "put32" 348 (Hr 116),He P "get32" 356 (Hr 123),He P "crc_steps" 366 (Hr 130),He P "crc32" 377 (Hr 138),He P "adler32" 389 (Hr 146),He P "stored" 402 (Hr 154),He P "block_size" 411 (Hr 161),He P "unstored" 422 (Hr 168),He P "SIGN" 434 (Value.bytes #[137,80,78,71,13,10,26,10] 433),He P "STEP" 436 (Hi 4 435),He P "FULL" 438 (Hi 255 437),He P "straight" 444 (Hr 178),He P "on_ground" 450 (Hr 183),He P "write_ppm" 459 (Hr 190),He P "read_head" 471 (Hr 197),He P "size_of" 477 (Hr 202),He P "read_ppm" 483 (Hr 207),He P "chunk" 489 (Hr 212),He P "straight_row" 498 (Hr 219),He P "filtered_rows" 512 (Hr 227),He P "write_png" 524 (Hr 235),He P "read_chunks" 530 (Hr 240),He P "check_chunks" 536 (Hr 245),He P "read_png" 542 (Hr 250),He P "NOTHING" 549 (Hr 251),He P "Canvas" 645 (Hr 319),He P "_law_pool" 656 (Hr 330),He P "_law_take" 665 (Hr 337),He P "_law_one" 673 (Hr 344),He P "_law_colour" 679 (Hr 349),He P "_law_straight" 690 (Hr 356),He P "_law_laid" 703 (Hr 363),He P "_law_is_refused" 710 (Hr 370),He P "_law_places" 720 (Hr 377),He P "law" 726 (Hr 382)] 60,#[]⟩),
  (20,Hc #[(Hs "_wall" 187),(Hs "_wall" 188),(Hp 189),(Hi 1 0),(Hi 1 0),(Hi 0 0),(Hi 0 0),(Hi 3 0),(Hr 15),(.bool true),(Hi 181 0),(Hr 16),Value.none,(Hr 17),(Hr 18),(Hr 19),(Hi 191 0),(Hi 1 0),(Hp 192)]),
  (21,HF (Hf 0) rfl "_wall" "_wall" .none .none .none (Hs "__main__" 164) none (Hr 20) .none),
  (22,Ht #[(.type "Exception")]),
  (34,Hc #[(Hs "__init__" 208),(Hs "MillError.__init__" 209),(Hp 210),(Hi 7 0),(Hi 2 0),(Hi 0 0),(Hi 0 0),(Hi 3 0),(Hr 29),(.bool true),(Hi 181 0),(Hr 30),Value.none,(Hr 31),(Hr 32),(Hr 33),(Hi 213 0),(Hi 7 0),(Hp 214)]),
  (35,HF (Hm 2 0) rfl "__init__" "MillError.__init__" .none .none .none (Hs "outlinemill.errors" 194) none (Hr 34) .none),
  (36,Ht #[(Hs "message" 216)]),
  (37,⟨(.type "dict"),none,.dict #[He P "__module__" 203 (Hs "outlinemill.errors" 194),He P "__firstlineno__" 207 (Hi 5 206),He P "__init__" 215 (Hr 35),He P "__static_attributes__" 217 (Hr 36),He P "__weakref__" 219 (Hr 39),He P "__doc__" 220 .none] 3,#[]⟩),
  (38,⟨(.type "type"),none,.cls (ClassData.mk "MillError" [(.type "Exception")] [(Hr 38),(.type "Exception"),(.type "BaseException"),(.type "object")] 37 "MillError" true [] [(Hr 51),(Hr 63)] false none false),#[(some (Hr 22)),none,(some (Hs "MillError" 196)),(some (Hs "MillError" 204)),(some (.builtin "Exception.__new__")),(some (.bool true))]⟩),
  (39,⟨(.type "getset_descriptor"),none,.fields #[(Hs "__weakref__" 218),(Hr 38),(.builtin "ExceptionGroup.__weakref__"),Value.none],#[]⟩),
  (42,Ht #[(Hr 38)]),
  (49,Ht #[]),
  (50,⟨(.type "dict"),none,.dict #[He P "__module__" 232 (Hs "outlinemill.errors" 194),He P "__firstlineno__" 236 (Hi 9 235),He P "__static_attributes__" 237 (Hr 49),He P "__doc__" 238 .none] 2,#[]⟩),
  (51,⟨(.type "type"),none,.cls (ClassData.mk "SheetFault" [(Hr 38)] [(Hr 51),(Hr 38),(.type "Exception"),(.type "BaseException"),(.type "object")] 50 "SheetFault" true [] [] false none false),#[(some (Hr 42)),none,(some (Hs "SheetFault" 225)),(some (Hs "SheetFault" 233)),(some (.builtin "Exception.__new__")),(some (.bool true))]⟩),
  (54,Ht #[(Hr 38)]),
  (61,Ht #[]),
  (62,⟨(.type "dict"),none,.dict #[He P "__module__" 248 (Hs "outlinemill.errors" 194),He P "__firstlineno__" 252 (Hi 11 251),He P "__static_attributes__" 253 (Hr 61),He P "__doc__" 254 .none] 2,#[]⟩),
  (63,⟨(.type "type"),none,.cls (ClassData.mk "SizeFault" [(Hr 38)] [(Hr 63),(Hr 38),(.type "Exception"),(.type "BaseException"),(.type "object")] 62 "SizeFault" true [] [] false none false),#[(some (Hr 54)),none,(some (Hs "SizeFault" 241)),(some (Hs "SizeFault" 249)),(some (.builtin "Exception.__new__")),(some (.bool true))]⟩),
  (75,Hc #[(Hs "nearest" 269),(Hs "nearest" 270),(Hp 271),(Hi 15 0),(Hi 3 0),(Hi 0 0),(Hi 0 0),(Hi 3 0),(Hr 70),(.bool true),(Hi 181 0),(Hr 71),Value.none,(Hr 72),(Hr 73),(Hr 74),(Hi 277 0),(Hi 15 0),(Hp 278)]),
  (76,HF (Hf 7) rfl "nearest" "nearest" .none .none .none (Hs "outlinemill.filters" 257) none (Hr 75) .none),
  (82,Hc #[(Hs "guess" 280),(Hs "guess" 281),(Hp 282),(Hi 23 0),(Hi 4 0),(Hi 0 0),(Hi 0 0),(Hi 3 0),(Hr 77),(.bool true),(Hi 181 0),(Hr 78),Value.none,(Hr 79),(Hr 80),(Hr 81),(Hi 287 0),(Hi 23 0),(Hp 288)]),
  (83,HF (Hf 8) rfl "guess" "guess" .none .none .none (Hs "outlinemill.filters" 257) none (Hr 82) .none),
  (89,Hc #[(Hs "filtered" 290),(Hs "filtered" 291),(Hp 292),(Hi 35 0),(Hi 4 0),(Hi 0 0),(Hi 0 0),(Hi 3 0),(Hr 84),(.bool true),(Hi 181 0),(Hr 85),Value.none,(Hr 86),(Hr 87),(Hr 88),(Hi 302 0),(Hi 35 0),(Hp 303)]),
  (90,HF (Hf 9) rfl "filtered" "filtered" .none .none .none (Hs "outlinemill.filters" 257) none (Hr 89) .none),
  (96,Hc #[(Hs "unfiltered" 305),(Hs "unfiltered" 306),(Hp 307),(Hi 42 0),(Hi 4 0),(Hi 0 0),(Hi 0 0),(Hi 3 0),(Hr 91),(.bool true),(Hi 181 0),(Hr 92),Value.none,(Hr 93),(Hr 94),(Hr 95),(Hi 317 0),(Hi 42 0),(Hp 318)]),
  (97,HF (Hf 10) rfl "unfiltered" "unfiltered" .none .none .none (Hs "outlinemill.filters" 257) none (Hr 96) .none),
  (101,Hc #[(Hs "weight" 320),(Hs "weight" 321),(Hp 322),(Hi 49 0),(Hi 1 0),(Hi 0 0),(Hi 0 0),(Hi 3 0),(Hr 98),(.bool true),(Hi 181 0),(Hr 99),Value.none,Value.none,Value.none,(Hr 100),(Hi 323 0),(Hi 49 0),(Hp 324)]),
  (102,HF (Hf 11) rfl "weight" "weight" .none .none .none (Hs "outlinemill.filters" 257) none (Hr 101) .none),
  (108,Hc #[(Hs "best_filter" 326),(Hs "best_filter" 327),(Hp 328),(Hi 51 0),(Hi 3 0),(Hi 0 0),(Hi 0 0),(Hi 3 0),(Hr 103),(.bool true),(Hi 181 0),(Hr 104),Value.none,(Hr 105),(Hr 106),(Hr 107),(Hi 335 0),(Hi 51 0),(Hp 336)]),
  (109,HF (Hf 12) rfl "best_filter" "best_filter" .none .none .none (Hs "outlinemill.filters" 257) none (Hr 108) .none),
  (115,Hc #[(Hs "put32" 342),(Hs "put32" 343),(Hp 344),(Hi 60 0),(Hi 1 0),(Hi 0 0),(Hi 0 0),(Hi 3 0),(Hr 110),(.bool true),(Hi 181 0),(Hr 111),Value.none,(Hr 112),(Hr 113),(Hr 114),(Hi 346 0),(Hi 60 0),(Hp 347)]),
  (116,HF (Hf 15) rfl "put32" "put32" .none .none .none (Hs "outlinemill.octets" 338) none (Hr 115) .none),
  (122,Hc #[(Hs "get32" 349),(Hs "get32" 350),(Hp 351),(Hi 62 0),(Hi 2 0),(Hi 0 0),(Hi 0 0),(Hi 3 0),(Hr 117),(.bool true),(Hi 181 0),(Hr 118),Value.none,(Hr 119),(Hr 120),(Hr 121),(Hi 354 0),(Hi 62 0),(Hp 355)]),
  (123,HF (Hf 16) rfl "get32" "get32" .none .none .none (Hs "outlinemill.octets" 338) none (Hr 122) .none),
  (129,Hc #[(Hs "crc_steps" 357),(Hs "crc_steps" 358),(Hp 359),(Hi 66 0),(Hi 0 0),(Hi 0 0),(Hi 0 0),(Hi 3 0),(Hr 124),(.bool true),(Hi 181 0),(Hr 125),Value.none,(Hr 126),(Hr 127),(Hr 128),(Hi 364 0),(Hi 66 0),(Hp 365)]),
  (130,HF (Hf 17) rfl "crc_steps" "crc_steps" .none .none .none (Hs "outlinemill.octets" 338) none (Hr 129) .none),
  (131,Ht #[(Hi 0 367)]),
  (137,Hc #[(Hs "crc32" 368),(Hs "crc32" 369),(Hp 370),(Hi 74 0),(Hi 2 0),(Hi 0 0),(Hi 0 0),(Hi 3 0),(Hr 132),(.bool true),(Hi 181 0),(Hr 133),Value.none,(Hr 134),(Hr 135),(Hr 136),(Hi 375 0),(Hi 74 0),(Hp 376)]),
  (138,HF (Hf 18) rfl "crc32" "crc32" (Hr 131) .none .none (Hs "outlinemill.octets" 338) none (Hr 137) .none),
  (139,Ht #[(Hi 1 378)]),
  (145,Hc #[(Hs "adler32" 379),(Hs "adler32" 380),(Hp 381),(Hi 82 0),(Hi 2 0),(Hi 0 0),(Hi 0 0),(Hi 3 0),(Hr 140),(.bool true),(Hi 181 0),(Hr 141),Value.none,(Hr 142),(Hr 143),(Hr 144),(Hi 387 0),(Hi 82 0),(Hp 388)]),
  (146,HF (Hf 19) rfl "adler32" "adler32" (Hr 139) .none .none (Hs "outlinemill.octets" 338) none (Hr 145) .none),
  (147,Ht #[(Hi 65535 390)]),
  (153,Hc #[(Hs "stored" 391),(Hs "stored" 392),(Hp 393),(Hi 88 0),(Hi 2 0),(Hi 0 0),(Hi 0 0),(Hi 3 0),(Hr 148),(.bool true),(Hi 181 0),(Hr 149),Value.none,(Hr 150),(Hr 151),(Hr 152),(Hi 400 0),(Hi 88 0),(Hp 401)]),
  (154,HF (Hf 20) rfl "stored" "stored" (Hr 147) .none .none (Hs "outlinemill.octets" 338) none (Hr 153) .none),
  (160,Hc #[(Hs "block_size" 403),(Hs "block_size" 404),(Hp 405),(Hi 99 0),(Hi 2 0),(Hi 0 0),(Hi 0 0),(Hi 3 0),(Hr 155),(.bool true),(Hi 181 0),(Hr 156),Value.none,(Hr 157),(Hr 158),(Hr 159),(Hi 409 0),(Hi 99 0),(Hp 410)]),
  (161,HF (Hf 21) rfl "block_size" "block_size" .none .none .none (Hs "outlinemill.octets" 338) none (Hr 160) .none),
  (167,Hc #[(Hs "unstored" 412),(Hs "unstored" 413),(Hp 414),(Hi 108 0),(Hi 1 0),(Hi 0 0),(Hi 0 0),(Hi 3 0),(Hr 162),(.bool true),(Hi 181 0),(Hr 163),Value.none,(Hr 164),(Hr 165),(Hr 166),(Hi 420 0),(Hi 108 0),(Hp 421)]),
  (168,HF (Hf 22) rfl "unstored" "unstored" .none .none .none (Hs "outlinemill.octets" 338) none (Hr 167) .none),
  (177,Hc #[(Hs "straight" 439),(Hs "straight" 440),(Hp 441),(Hi 124 0),(Hi 1 0),(Hi 0 0),(Hi 0 0),(Hi 3 0),(Hr 174),(.bool true),(Hi 181 0),(Hr 175),Value.none,Value.none,Value.none,(Hr 176),(Hi 442 0),(Hi 124 0),(Hp 443)]),
  (178,HF (Hf 27) rfl "straight" "straight" .none .none .none (Hs "outlinemill.picture" 423) none (Hr 177) .none),
  (182,Hc #[(Hs "on_ground" 445),(Hs "on_ground" 446),(Hp 447),(Hi 130 0),(Hi 2 0),(Hi 0 0),(Hi 0 0),(Hi 3 0),(Hr 179),(.bool true),(Hi 181 0),(Hr 180),Value.none,Value.none,Value.none,(Hr 181),(Hi 448 0),(Hi 130 0),(Hp 449)]),
  (183,HF (Hf 28) rfl "on_ground" "on_ground" .none .none .none (Hs "outlinemill.picture" 423) none (Hr 182) .none),
  (185,Ht #[(Hr 184)]),
  (189,Hc #[(Hs "write_ppm" 454),(Hs "write_ppm" 455),(Hp 456),(Hi 133 0),(Hi 2 0),(Hi 0 0),(Hi 0 0),(Hi 3 0),(Hr 186),(.bool true),(Hi 181 0),(Hr 187),Value.none,Value.none,Value.none,(Hr 188),(Hi 457 0),(Hi 133 0),(Hp 458)]),
  (190,HF (Hf 29) rfl "write_ppm" "write_ppm" (Hr 185) .none .none (Hs "outlinemill.picture" 423) none (Hr 189) .none),
  (196,Hc #[(Hs "read_head" 460),(Hs "read_head" 461),(Hp 462),(Hi 140 0),(Hi 2 0),(Hi 0 0),(Hi 0 0),(Hi 3 0),(Hr 191),(.bool true),(Hi 181 0),(Hr 192),Value.none,(Hr 193),(Hr 194),(Hr 195),(Hi 469 0),(Hi 140 0),(Hp 470)]),
  (197,HF (Hf 30) rfl "read_head" "read_head" .none .none .none (Hs "outlinemill.picture" 423) none (Hr 196) .none),
  (201,Hc #[(Hs "size_of" 472),(Hs "size_of" 473),(Hp 474),(Hi 153 0),(Hi 1 0),(Hi 0 0),(Hi 0 0),(Hi 3 0),(Hr 198),(.bool true),(Hi 181 0),(Hr 199),Value.none,Value.none,Value.none,(Hr 200),(Hi 475 0),(Hi 153 0),(Hp 476)]),
  (202,HF (Hf 31) rfl "size_of" "size_of" .none .none .none (Hs "outlinemill.picture" 423) none (Hr 201) .none),
  (206,Hc #[(Hs "read_ppm" 478),(Hs "read_ppm" 479),(Hp 480),(Hi 157 0),(Hi 1 0),(Hi 0 0),(Hi 0 0),(Hi 3 0),(Hr 203),(.bool true),(Hi 181 0),(Hr 204),Value.none,Value.none,Value.none,(Hr 205),(Hi 481 0),(Hi 157 0),(Hp 482)]),
  (207,HF (Hf 32) rfl "read_ppm" "read_ppm" .none .none .none (Hs "outlinemill.picture" 423) none (Hr 206) .none),
  (211,Hc #[(Hs "chunk" 484),(Hs "chunk" 485),(Hp 486),(Hi 169 0),(Hi 2 0),(Hi 0 0),(Hi 0 0),(Hi 3 0),(Hr 208),(.bool true),(Hi 181 0),(Hr 209),Value.none,Value.none,Value.none,(Hr 210),(Hi 487 0),(Hi 169 0),(Hp 488)]),
  (212,HF (Hf 33) rfl "chunk" "chunk" .none .none .none (Hs "outlinemill.picture" 423) none (Hr 211) .none),
  (218,Hc #[(Hs "straight_row" 490),(Hs "straight_row" 491),(Hp 492),(Hi 172 0),(Hi 1 0),(Hi 0 0),(Hi 0 0),(Hi 3 0),(Hr 213),(.bool true),(Hi 181 0),(Hr 214),Value.none,(Hr 215),(Hr 216),(Hr 217),(Hi 496 0),(Hi 172 0),(Hp 497)]),
  (219,HF (Hf 34) rfl "straight_row" "straight_row" .none .none .none (Hs "outlinemill.picture" 423) none (Hr 218) .none),
  (220,Ht #[Value.none]),
  (226,Hc #[(Hs "filtered_rows" 499),(Hs "filtered_rows" 500),(Hp 501),(Hi 177 0),(Hi 3 0),(Hi 0 0),(Hi 0 0),(Hi 3 0),(Hr 221),(.bool true),(Hi 181 0),(Hr 222),Value.none,(Hr 223),(Hr 224),(Hr 225),(Hi 510 0),(Hi 177 0),(Hp 511)]),
  (227,HF (Hf 35) rfl "filtered_rows" "filtered_rows" (Hr 220) .none .none (Hs "outlinemill.picture" 423) none (Hr 226) .none),
  (228,Ht #[Value.none,(Hi 65535 513)]),
  (234,Hc #[(Hs "write_png" 514),(Hs "write_png" 515),(Hp 516),(Hi 189 0),(Hi 3 0),(Hi 0 0),(Hi 0 0),(Hi 3 0),(Hr 229),(.bool true),(Hi 181 0),(Hr 230),Value.none,(Hr 231),(Hr 232),(Hr 233),(Hi 522 0),(Hi 189 0),(Hp 523)]),
  (235,HF (Hf 36) rfl "write_png" "write_png" (Hr 228) .none .none (Hs "outlinemill.picture" 423) none (Hr 234) .none),
  (239,Hc #[(Hs "read_chunks" 525),(Hs "read_chunks" 526),(Hp 527),(Hi 193 0),(Hi 1 0),(Hi 0 0),(Hi 0 0),(Hi 3 0),(Hr 236),(.bool true),(Hi 181 0),(Hr 237),Value.none,Value.none,Value.none,(Hr 238),(Hi 528 0),(Hi 193 0),(Hp 529)]),
  (240,HF (Hf 37) rfl "read_chunks" "read_chunks" .none .none .none (Hs "outlinemill.picture" 423) none (Hr 239) .none),
  (244,Hc #[(Hs "check_chunks" 531),(Hs "check_chunks" 532),(Hp 533),(Hi 207 0),(Hi 1 0),(Hi 0 0),(Hi 0 0),(Hi 3 0),(Hr 241),(.bool true),(Hi 181 0),(Hr 242),Value.none,Value.none,Value.none,(Hr 243),(Hi 534 0),(Hi 207 0),(Hp 535)]),
  (245,HF (Hf 38) rfl "check_chunks" "check_chunks" .none .none .none (Hs "outlinemill.picture" 423) none (Hr 244) .none),
  (249,Hc #[(Hs "read_png" 537),(Hs "read_png" 538),(Hp 539),(Hi 215 0),(Hi 1 0),(Hi 0 0),(Hi 0 0),(Hi 3 0),(Hr 246),(.bool true),(Hi 181 0),(Hr 247),Value.none,Value.none,Value.none,(Hr 248),(Hi 540 0),(Hi 215 0),(Hp 541)]),
  (250,HF (Hf 39) rfl "read_png" "read_png" .none .none .none (Hs "outlinemill.picture" 423) none (Hr 249) .none),
  (251,Ht #[(Hi 0 545),(Hi 0 546),(Hi 0 547),(Hi 0 548)]),
  (259,Ht #[(Hi 0 562),(Hi 0 563)]),
  (263,Hc #[(Hs "__init__" 564),(Hs "Canvas.__init__" 565),(Hp 566),(Hi 233 0),(Hi 5 0),(Hi 0 0),(Hi 0 0),(Hi 3 0),(Hr 260),(.bool true),(Hi 181 0),(Hr 261),Value.none,Value.none,Value.none,(Hr 262),(Hi 567 0),(Hi 233 0),(Hp 568)]),
  (264,HF (Hm 42 0) rfl "__init__" "Canvas.__init__" (Hr 259) .none .none (Hs "outlinemill.canvas" 543) none (Hr 263) .none),
  (270,Hc #[(Hs "holds" 570),(Hs "Canvas.holds" 571),(Hp 572),(Hi 242 0),(Hi 3 0),(Hi 0 0),(Hi 0 0),(Hi 3 0),(Hr 265),(.bool true),(Hi 181 0),(Hr 266),Value.none,(Hr 267),(Hr 268),(Hr 269),(Hi 576 0),(Hi 242 0),(Hp 577)]),
  (271,HF (Hm 42 1) rfl "holds" "Canvas.holds" .none .none .none (Hs "outlinemill.canvas" 543) none (Hr 270) .none),
  (277,Hc #[(Hs "get" 579),(Hs "Canvas.get" 580),(Hp 581),(Hi 245 0),(Hi 3 0),(Hi 0 0),(Hi 0 0),(Hi 3 0),(Hr 272),(.bool true),(Hi 181 0),(Hr 273),Value.none,(Hr 274),(Hr 275),(Hr 276),(Hi 585 0),(Hi 245 0),(Hp 586)]),
  (278,HF (Hm 42 2) rfl "get" "Canvas.get" .none .none .none (Hs "outlinemill.canvas" 543) none (Hr 277) .none),
  (284,Hc #[(Hs "put" 588),(Hs "Canvas.put" 589),(Hp 590),(Hi 248 0),(Hi 4 0),(Hi 0 0),(Hi 0 0),(Hi 3 0),(Hr 279),(.bool true),(Hi 181 0),(Hr 280),Value.none,(Hr 281),(Hr 282),(Hr 283),(Hi 595 0),(Hi 248 0),(Hp 596)]),
  (285,HF (Hm 42 3) rfl "put" "Canvas.put" .none .none .none (Hs "outlinemill.canvas" 543) none (Hr 284) .none),
  (291,Hc #[(Hs "fill" 598),(Hs "Canvas.fill" 599),(Hp 600),(Hi 253 0),(Hi 2 0),(Hi 0 0),(Hi 0 0),(Hi 3 0),(Hr 286),(.bool true),(Hi 181 0),(Hr 287),Value.none,(Hr 288),(Hr 289),(Hr 290),(Hi 603 0),(Hi 253 0),(Hp 604)]),
  (292,HF (Hm 42 4) rfl "fill" "Canvas.fill" .none .none .none (Hs "outlinemill.canvas" 543) none (Hr 291) .none),
  (296,Hc #[(Hs "rows" 606),(Hs "Canvas.rows" 607),(Hp 608),(Hi 256 0),(Hi 1 0),(Hi 0 0),(Hi 0 0),(Hi 3 0),(Hr 293),(.bool true),(Hi 181 0),(Hr 294),Value.none,Value.none,Value.none,(Hr 295),(Hi 609 0),(Hi 256 0),(Hp 610)]),
  (297,HF (Hm 42 5) rfl "rows" "Canvas.rows" .none .none .none (Hs "outlinemill.canvas" 543) none (Hr 296) .none),
  (301,Hc #[(Hs "places" 612),(Hs "Canvas.places" 613),(Hp 614),(Hi 259 0),(Hi 1 0),(Hi 0 0),(Hi 0 0),(Hi 3 0),(Hr 298),(.bool true),(Hi 181 0),(Hr 299),Value.none,Value.none,Value.none,(Hr 300),(Hi 615 0),(Hi 259 0),(Hp 616)]),
  (302,HF (Hm 42 6) rfl "places" "Canvas.places" .none .none .none (Hs "outlinemill.canvas" 543) none (Hr 301) .none),
  (308,Hc #[(Hs "like" 618),(Hs "Canvas.like" 619),(Hp 620),(Hi 265 0),(Hi 1 0),(Hi 0 0),(Hi 0 0),(Hi 3 0),(Hr 303),(.bool true),(Hi 181 0),(Hr 304),Value.none,(Hr 305),(Hr 306),(Hr 307),(Hi 622 0),(Hi 265 0),(Hp 623)]),
  (309,HF (Hm 42 7) rfl "like" "Canvas.like" .none .none .none (Hs "outlinemill.canvas" 543) none (Hr 308) .none),
  (315,Hc #[(Hs "take" 625),(Hs "Canvas.take" 626),(Hp 627),(Hi 268 0),(Hi 2 0),(Hi 0 0),(Hi 0 0),(Hi 3 0),(Hr 310),(.bool true),(Hi 181 0),(Hr 311),Value.none,(Hr 312),(Hr 313),(Hr 314),(Hi 630 0),(Hi 268 0),(Hp 631)]),
  (316,HF (Hm 42 8) rfl "take" "Canvas.take" .none .none .none (Hs "outlinemill.canvas" 543) none (Hr 315) .none),
  (317,Ht #[(Hs "cells" 633),(Hs "height" 634),(Hs "left" 635),(Hs "top" 636),(Hs "width" 637)]),
  (318,⟨(.type "dict"),none,.dict #[He P "__module__" 557 (Hs "outlinemill.canvas" 543),He P "__firstlineno__" 561 (Hi 231 560),He P "__init__" 569 (Hr 264),He P "holds" 578 (Hr 271),He P "get" 587 (Hr 278),He P "put" 597 (Hr 285),He P "fill" 605 (Hr 292),He P "rows" 611 (Hr 297),He P "places" 617 (Hr 302),He P "like" 624 (Hr 309),He P "take" 632 (Hr 316),He P "__static_attributes__" 638 (Hr 317),He P "__dict__" 640 (Hr 320),He P "__weakref__" 642 (Hr 321),He P "__doc__" 643 .none] 4,#[]⟩),
  (319,⟨(.type "type"),none,.cls (ClassData.mk "Canvas" [(.type "object")] [(Hr 319),(.type "object")] 318 "Canvas" true [] [] false none false),#[none,none,(some (Hs "Canvas" 550)),(some (Hs "Canvas" 558)),(some (.builtin "object.__new__")),(some (.bool true))]⟩),
  (320,⟨(.type "getset_descriptor"),none,.fields #[(Hs "__dict__" 639),(Hr 319),(.builtin "function.__dict__"),(.builtin "function.__dict__#set")],#[]⟩),
  (321,⟨(.type "getset_descriptor"),none,.fields #[(Hs "__weakref__" 641),(Hr 319),(.builtin "ExceptionGroup.__weakref__"),Value.none],#[]⟩),
  (329,Hc #[(Hs "_law_pool" 648),(Hs "_law_pool" 649),(Hp 650),(Hi 271 0),(Hi 1 0),(Hi 0 0),(Hi 0 0),(Hi 3 0),(Hr 324),(.bool true),(Hi 181 0),(Hr 325),Value.none,(Hr 326),(Hr 327),(Hr 328),(Hi 654 0),(Hi 271 0),(Hp 655)]),
  (330,HF (Hf 44) rfl "_law_pool" "_law_pool" .none .none .none (Hs "law_nu0031_01" 646) none (Hr 329) .none),
  (336,Hc #[(Hs "_law_take" 657),(Hs "_law_take" 658),(Hp 659),(Hi 277 0),(Hi 2 0),(Hi 0 0),(Hi 0 0),(Hi 3 0),(Hr 331),(.bool true),(Hi 181 0),(Hr 332),Value.none,(Hr 333),(Hr 334),(Hr 335),(Hi 663 0),(Hi 277 0),(Hp 664)]),
  (337,HF (Hf 45) rfl "_law_take" "_law_take" .none .none .none (Hs "law_nu0031_01" 646) none (Hr 336) .none),
  (343,Hc #[(Hs "_law_one" 666),(Hs "_law_one" 667),(Hp 668),(Hi 284 0),(Hi 2 0),(Hi 0 0),(Hi 0 0),(Hi 3 0),(Hr 338),(.bool true),(Hi 181 0),(Hr 339),Value.none,(Hr 340),(Hr 341),(Hr 342),(Hi 671 0),(Hi 284 0),(Hp 672)]),
  (344,HF (Hf 46) rfl "_law_one" "_law_one" .none .none .none (Hs "law_nu0031_01" 646) none (Hr 343) .none),
  (348,Hc #[(Hs "_law_colour" 674),(Hs "_law_colour" 675),(Hp 676),(Hi 286 0),(Hi 1 0),(Hi 0 0),(Hi 0 0),(Hi 3 0),(Hr 345),(.bool true),(Hi 181 0),(Hr 346),Value.none,Value.none,Value.none,(Hr 347),(Hi 677 0),(Hi 286 0),(Hp 678)]),
  (349,HF (Hf 47) rfl "_law_colour" "_law_colour" .none .none .none (Hs "law_nu0031_01" 646) none (Hr 348) .none),
  (355,Hc #[(Hs "_law_straight" 680),(Hs "_law_straight" 681),(Hp 682),(Hi 289 0),(Hi 1 0),(Hi 0 0),(Hi 0 0),(Hi 3 0),(Hr 350),(.bool true),(Hi 181 0),(Hr 351),Value.none,(Hr 352),(Hr 353),(Hr 354),(Hi 688 0),(Hi 289 0),(Hp 689)]),
  (356,HF (Hf 48) rfl "_law_straight" "_law_straight" .none .none .none (Hs "law_nu0031_01" 646) none (Hr 355) .none),
  (362,Hc #[(Hs "_law_laid" 691),(Hs "_law_laid" 692),(Hp 693),(Hi 297 0),(Hi 2 0),(Hi 0 0),(Hi 0 0),(Hi 3 0),(Hr 357),(.bool true),(Hi 181 0),(Hr 358),Value.none,(Hr 359),(Hr 360),(Hr 361),(Hi 701 0),(Hi 297 0),(Hp 702)]),
  (363,HF (Hf 49) rfl "_law_laid" "_law_laid" .none .none .none (Hs "law_nu0031_01" 646) none (Hr 362) .none),
  (369,Hc #[(Hs "_law_is_refused" 704),(Hs "_law_is_refused" 705),(Hp 706),(Hi 304 0),(Hi 1 0),(Hi 0 0),(Hi 0 0),(Hi 3 0),(Hr 364),(.bool true),(Hi 181 0),(Hr 365),Value.none,(Hr 366),(Hr 367),(Hr 368),(Hi 708 0),(Hi 304 0),(Hp 709)]),
  (370,HF (Hf 50) rfl "_law_is_refused" "_law_is_refused" .none .none .none (Hs "law_nu0031_01" 646) none (Hr 369) .none),
  (376,Hc #[(Hs "_law_places" 711),(Hs "_law_places" 712),(Hp 713),(Hi 310 0),(Hi 1 0),(Hi 0 0),(Hi 0 0),(Hi 3 0),(Hr 371),(.bool true),(Hi 181 0),(Hr 372),Value.none,(Hr 373),(Hr 374),(Hr 375),(Hi 718 0),(Hi 310 0),(Hp 719)]),
  (377,HF (Hf 51) rfl "_law_places" "_law_places" .none .none .none (Hs "law_nu0031_01" 646) none (Hr 376) .none),
  (381,Hc #[(Hs "law" 721),(Hs "law" 722),(Hp 723),(Hi 317 0),(Hi 1 0),(Hi 0 0),(Hi 0 0),(Hi 3 0),(Hr 378),(.bool true),(Hi 181 0),(Hr 379),Value.none,Value.none,Value.none,(Hr 380),(Hi 724 0),(Hi 317 0),(Hp 725)]),
  (382,HF (Hf 52) rfl "law" "law" .none .none .none (Hs "law_nu0031_01" 646) none (Hr 381) .none)]
noncomputable abbrev fas:List Addr:=[2,3,20,21,22,34,35,36,37,38,39,42,49,50,51,54,61,62,63,75,76,82,83,89,90,96,97,101,102,108,109,115,116,122,123,129,130,131,137,138,139,145,146,147,153,154,160,161,167,168,177,178,182,183,185,189,190,196,197,201,202,206,207,211,212,218,219,220,226,227,228,234,235,239,240,244,245,249,250,251,259,263,264,270,271,277,278,284,285,291,292,296,297,301,302,308,309,315,316,317,318,319,320,321,329,330,336,337,343,344,348,349,355,356,362,363,369,370,376,377,381,382]
noncomputable abbrev loose:List Str:=["_wall", "MillError", "SheetFault", "SizeFault", "NONE", "SUB", "UP", "AVERAGE", "PAETH", "nearest", "guess", "filtered", "unfiltered", "weight", "best_filter", "MOST_ADLER", "put32", "get32", "crc_steps", "crc32", "adler32", "stored", "block_size", "unstored", "SIGN", "STEP", "FULL", "straight", "on_ground", "write_ppm", "read_head", "size_of", "read_ppm", "chunk", "straight_row", "filtered_rows", "write_png", "read_chunks", "check_chunks", "read_png", "NOTHING", "Canvas", "_law_pool", "_law_take", "_law_one", "_law_colour", "_law_straight", "_law_laid", "_law_is_refused", "_law_places"].map Str.ofString
noncomputable abbrev hook:Hook:=kHook frag fas (fun _=>rfl)
noncomputable abbrev vw:Program:=view PWm [52]
open PySem.W.Fast in
noncomputable def endsT (w:World) (N:Nat):Option Shared :=
 ((tw10274390034422433532 tw14364793385576792824 (opening PWm) w N (tw1435165496053646825 (opening PWm)).fst (tw1435165496053646825 (opening PWm)).snd).bind (tw14289696077712309145 PWm)).bind fun s₀ =>
  match s₀.heap.isNs mainGlobals&&s₀.gens.size==0 with
  | true=>(tw14082659384304107361 tw14364793385576792824 PWm w s₀.heap.objs.size (tw8920871248978507458 s₀.heap mainGlobals (Str.ofString "__annotations__")) N s₀ (topStub PWm)).bind fun s₁ =>
    match staticsOk (tw5923862056798008813 PWm.main.body) s₀.heap s₁.heap&&namesBound PWm s₁.heap&&gensDone s₁&&laidKept s₀.heap s₁.heap with
    | true=>some s₁
    | false=>none
  | false=>none
open PySem.W.Fast in
theorem ends_tw (w:World) (N:Nat):openEnds treeTable PWm w N=endsT w N:=by
 unfold openEnds fencedOpening
 unfold topFrom
 refine Mine.sE te10274390034422433532 (Mine.sE te1435165496053646825 (Mine.sE te14289696077712309145 (Mine.sE te14082659384304107361 (Mine.sE te14364793385576792824 (Mine.sE te8920871248978507458 (Mine.sE te5923862056798008813 ?_))))))
 rfl
open PySem.W.Fast in
noncomputable abbrev LeftP (w:World):Prop:=((endsT w 5464).map fun s=>(tw4187177175401517315 vw loose (importedModules PWm.main.body) (fun s=>xlAt vw [] s&&recOk [] s) true s,hook.obs s))=some (openGood vw loose,hook.val w)
theorem leftF (w:World):LeftP (w.withFollow "special-get-raises" false):=by kernel_rfl
theorem leftT (w:World):LeftP (w.withFollow "special-get-raises" true):=by kernel_rfl
open PySem.W.Fast in
theorem left:LeftO PWm vw loose (fun s=>xlAt vw [] s&&recOk [] s) hook.obs hook.val 5464:=fun w=>by
 have h:LeftP w:=byRow2 (P:=LeftP) "special-get-raises" leftF leftT w
 refine Mine.sE (ends_tw ..) (Mine.sE te4187177175401517315 ?_)
 exact h
theorem said:PySem.Challenge.rw_nu0031_01.wellSaid=true:=by kernel_rfl
set_option tactic.hygienic true in
theorem hd (call:∀ d kwd,defOf vw (Str.ofString "law")=some (d,kwd)->WalkC vw loose (XL vw []) hook.says PySem.Challenge.rw_nu0031_01.row.toRowW d kwd):PySem.Challenge.rw_nu0031_01.Holds:=by
 refine holds_law said fun sd=>?_
 refine PySem.W.holds_open (q:=vw) (loose:=loose) (Xt:=fun s=>xlAt vw [] s&&recOk [] s) (XP:=XL vw []) (Yf:=hook.obs) (Ya:=hook.val) (YP:=hook.says) (N:=5464) left hook.of hook.keeps (fun s e=>xl_of s (Bool.and_eq_true_iff.mp e).1) XL.keeps (by rfl) (by rfl) (by rfl)
  (fun s e=>recFacts_of (Bool.and_eq_true_iff.mp e).2) (by rfl) sd (by decide +kernel) ⟨rfl,rfl,rfl,rfl,rfl,by decide +kernel⟩ ?hw (call _ _ (by rfl))
 case hw=>w_witness2
end MineH
namespace Mine
section
noncomputable abbrev KK (P:Params):Frag:=MineH.frag P
section
variable {P:Params}
theorem g_abs:nsIn (KK P) mainGlobals "abs" = some none:=by kernel_rfl
theorem VZl:nsIn (KK P) mainGlobals "len" = some none:=by kernel_rfl
theorem XZj:nsIn (KK P) mainGlobals "bytes" = some none:=by kernel_rfl
theorem XZk:nsIn (KK P) mainGlobals "bytearray" = some none:=by kernel_rfl
theorem KZc:nsIn (KK P) mainGlobals "enumerate" = some none:=by kernel_rfl
theorem XZi:nsIn (KK P) mainGlobals "range" = some none:=by kernel_rfl
theorem g_min:nsIn (KK P) mainGlobals "min" = some none:=by kernel_rfl
theorem g_max:nsIn (KK P) mainGlobals "max" = some none:=by kernel_rfl
theorem KZt:nsIn (KK P) mainGlobals "int" = some none:=by kernel_rfl
theorem g_sum:nsIn (KK P) mainGlobals "sum" = some none:=by kernel_rfl
theorem g_ord:nsIn (KK P) mainGlobals "ord" = some none:=by kernel_rfl
theorem g_chr:nsIn (KK P) mainGlobals "chr" = some none:=by kernel_rfl
theorem g_str:nsIn (KK P) mainGlobals "str" = some none:=by kernel_rfl
theorem GZ8:nsIn (KK P) mainGlobals "tuple" = some none:=by kernel_rfl
theorem g_list:nsIn (KK P) mainGlobals "list" = some none:=by kernel_rfl
theorem g_zip:nsIn (KK P) mainGlobals "zip" = some none:=by kernel_rfl
theorem g_nearest:nsIn (KK P) mainGlobals "nearest" = some (some (.ref 76)):=by kernel_rfl
theorem g_guess:nsIn (KK P) mainGlobals "guess" = some (some (.ref 83)):=by kernel_rfl
theorem UZ9:nsIn (KK P) mainGlobals "filtered" = some (some (.ref 90)):=by kernel_rfl
theorem HZk:nsIn (KK P) mainGlobals "unfiltered" = some (some (.ref 97)):=by kernel_rfl
theorem NZk:nsIn (KK P) mainGlobals "weight" = some (some (.ref 102)):=by kernel_rfl
theorem DZo:nsIn (KK P) mainGlobals "best_filter" = some (some (.ref 109)):=by kernel_rfl
theorem GZ9:nsIn (KK P) mainGlobals "put32" = some (some (.ref 116)):=by kernel_rfl
theorem KZa:nsIn (KK P) mainGlobals "get32" = some (some (.ref 123)):=by kernel_rfl
theorem BZs:nsIn (KK P) mainGlobals "crc_steps" = some (some (.ref 130)):=by kernel_rfl
theorem g_crc32:nsIn (KK P) mainGlobals "crc32" = some (some (.ref 138)):=by kernel_rfl
theorem HZp:nsIn (KK P) mainGlobals "adler32" = some (some (.ref 146)):=by kernel_rfl
theorem g_stored:nsIn (KK P) mainGlobals "stored" = some (some (.ref 154)):=by kernel_rfl
theorem HZo:nsIn (KK P) mainGlobals "block_size" = some (some (.ref 161)):=by kernel_rfl
theorem NZ7:nsIn (KK P) mainGlobals "unstored" = some (some (.ref 168)):=by kernel_rfl
theorem NZ8:nsIn (KK P) mainGlobals "straight" = some (some (.ref 178)):=by kernel_rfl
theorem BZr:nsIn (KK P) mainGlobals "on_ground" = some (some (.ref 183)):=by kernel_rfl
theorem BZo:nsIn (KK P) mainGlobals "write_ppm" = some (some (.ref 190)):=by kernel_rfl
theorem BZq:nsIn (KK P) mainGlobals "read_head" = some (some (.ref 197)):=by kernel_rfl
theorem HZl:nsIn (KK P) mainGlobals "size_of" = some (some (.ref 202)):=by kernel_rfl
theorem NZ9:nsIn (KK P) mainGlobals "read_ppm" = some (some (.ref 207)):=by kernel_rfl
theorem BZt:nsIn (KK P) mainGlobals "chunk" = some (some (.ref 212)):=by kernel_rfl
theorem KZr:nsIn (KK P) mainGlobals "straight_row" = some (some (.ref 219)):=by kernel_rfl
theorem KZb:nsIn (KK P) mainGlobals "filtered_rows" = some (some (.ref 227)):=by kernel_rfl
theorem BZp:nsIn (KK P) mainGlobals "write_png" = some (some (.ref 235)):=by kernel_rfl
theorem UZv:nsIn (KK P) mainGlobals "read_chunks" = some (some (.ref 240)):=by kernel_rfl
theorem KZu:nsIn (KK P) mainGlobals "check_chunks" = some (some (.ref 245)):=by kernel_rfl
theorem KZ0:nsIn (KK P) mainGlobals "read_png" = some (some (.ref 250)):=by kernel_rfl
theorem z_NONE:(nsIn (KK P) mainGlobals "NONE").map (Option.map tk0)=some (some (I 0)):=by kernel_rfl
theorem z_SUB:(nsIn (KK P) mainGlobals "SUB").map (Option.map tk0)=some (some (I 1)):=by kernel_rfl
theorem z_UP:(nsIn (KK P) mainGlobals "UP").map (Option.map tk0)=some (some (I 2)):=by kernel_rfl
theorem DZ7:(nsIn (KK P) mainGlobals "AVERAGE").map (Option.map tk0)=some (some (I 3)):=by kernel_rfl
theorem z_PAETH:(nsIn (KK P) mainGlobals "PAETH").map (Option.map tk0)=some (some (I 4)):=by kernel_rfl
theorem GZf:(nsIn (KK P) mainGlobals "MOST_ADLER").map (Option.map tk0)=some (some (I 65521)):=by kernel_rfl
theorem VZz:(nsIn (KK P) mainGlobals "STEP").map (Option.map tk0)=some (some (I 4)):=by kernel_rfl
theorem KZw:(nsIn (KK P) mainGlobals "FULL").map (Option.map tk0)=some (some (I 255)):=by kernel_rfl
theorem z_SIGN:(nsIn (KK P) mainGlobals "SIGN").map (Option.map tk0)=some (some (By [137,80,78,71,13,10,26,10])):=by kernel_rfl
end
section
variable {prog:Program} {w:World} {A:Around} {env:Env} {K:Frag} {h₀:Heap} {μ:Str->Option Value} {P:HP} {pos:Pos} {x:Str} {c:Value} {R:HP} {W:List Addr}
theorem lv (F:autoParam (Fx K env h₀) tA) (hR:autoParam (Sf W R) tA) (hx:autoParam (env.kindOf x=some .local) tR) (hv:autoParam (μ x=some c) tR) (hd:autoParam ((x==("__debug__" : Str))=false) tD):Ev (model prog w) A env (Pc env h₀ μ R) (.Name x pos) c:=Ev.loc (F.cx hR) hx hv hd
theorem bv {v:Value} (hg:nsIn K mainGlobals x=some none) (hb:bootBuiltins x=some v) (F:autoParam (Fx K env h₀) tA) (hR:autoParam (Sf W R) tA) (hc:autoParam (tk0 v=c) tR) (hx:autoParam (env.kindOf x=some .globalImplicit) tR) (hn:autoParam (x ≠ "__name__") tD) (hd:autoParam ((x==("__debug__" : Str))=false) tD):Ev (model prog w) A env (Pc env h₀ μ R) (.Name x pos) c:=Ev.bui (F.cx hR) hg hb hc hx hn hd
theorem gv {v:Value} (hg:nsIn K mainGlobals x=some (some v)) (F:autoParam (Fx K env h₀) tA) (hR:autoParam (Sf W R) tA) (hc:autoParam (tk0 v=c) tR) (hx:autoParam (env.kindOf x=some .globalImplicit) tR) (hd:autoParam ((x==("__debug__" : Str))=false) tD):Ev (model prog w) A env (Pc env h₀ μ R) (.Name x pos) c:=Ev.glo (F.cx hR) hg hc hx hd
theorem zv (hg:(nsIn K mainGlobals x).map (Option.map tk0)=some (some c)) (F:autoParam (Fx K env h₀) tA) (hR:autoParam (Sf W R) tA) (hx:autoParam (env.kindOf x=some .globalImplicit) tR) (hd:autoParam ((x==("__debug__" : Str))=false) tD):Ev (model prog w) A env (Pc env h₀ μ R) (.Name x pos) c:=by
 refine J0 (Option.map_eq_some_iff.mp hg) fun o h1 h2=>?_
 refine J0 (Option.map_eq_some_iff.mp h2) ?_;rintro v rfl h3
 exact Ev.glo (F.cx hR) h1 h3 hx hd
theorem ifI {d:Bool} {a b:Int}:(if d=true then I a else I b)=I (if d=true then a else b):=by cases d <;> rfl
theorem allL {α:Type} {Q:α->Prop} {a:α} {l:List α} (h:Q a) (t:∀ x∈l,Q x):∀ x∈a::l,Q x:=List.forall_mem_cons.2 ⟨h,t⟩
theorem allN {α:Type} {Q:α->Prop}:∀ x∈([]:List α),Q x:=fun _ h=>nomatch h
end
end
section
noncomputable def NZh (l a c:Int):Int :=
 let g:=l+a-c
 let b:=if decide (absZ (g-a)<absZ (g-l))=true then a else l
 if decide (absZ (g-c)<absZ (g-b))=true then c else b
noncomputable def GZi (k l a c:Int):Int:=if k==0 then 0 else if k==1 then l else if k==2 then a else if k==3 then (l+a).fdiv 2 else NZh l a c
section
variable {prog:Program} {w:World}
theorem fn_nearest {l a c:Int}:Fn prog w (KK w.params) 76 2 [I l,I a,I c] (fun _=>True) (fun v _ _=>v=I (NZh l a c)):=by
 refine Fn.mk ["left", "above", "corner"] [] (by exact rfl) (by kernel_rfl) (fun s args _ h=>ar3 args h fun _ _ _=>BindsTo.of_eq rfl) (fun h L A G _ hL hA F hC=>?_)
 have hR:Sf [L] (fun _=>True):=Sf.const
 have hW:L∈[L]:=List.Mem.head _
 have ab:∀ {μ:Str->Option Value} {pos p1:Pos} {e:PySem.Expr} {i:Int},True:=fun {_ _ _ _ _}=>trivial
 refine Xs.assignV F hC hW hR (Ev.sub (Ev.add lv lv) lv) ?_
 refine Xs.assignV F hC hW hR lv ?_
 refine Xs.ifset F hC hW hR (Ist.cm Cm.lt (Ev.abs (F.cx hR) (bv g_abs PyProof.Rows.boot_abs) (Ev.sub lv lv)) (Ev.abs (F.cx hR) (bv g_abs PyProof.Rows.boot_abs) (Ev.sub lv lv))) (fun _=>lv) ?_
 refine sE ifI ?_
 refine Xs.ifset F hC hW hR (Ist.cm Cm.lt (Ev.abs (F.cx hR) (bv g_abs PyProof.Rows.boot_abs) (Ev.sub lv lv)) (Ev.abs (F.cx hR) (bv g_abs PyProof.Rows.boot_abs) (Ev.sub lv lv))) (fun _=>lv) ?_
 refine sE ifI ?_
 exact Xs.retV lv fun h p=>⟨p.1.keep,rfl⟩
theorem NZm {k l a c:Int} (hk0:0<=k) (hk4:k<=4):Fn prog w (KK w.params) 83 3 [I k,I l,I a,I c] (fun _=>True) (fun v _ _=>v=I (GZi k l a c)):=by
 refine Fn.mk ["kind", "left", "above", "corner"] [] (by exact rfl) (by kernel_rfl) (fun s args _ h=>ar4 args h fun _ _ _ _=>BindsTo.of_eq rfl) (fun h L A G _ hL hA F hC=>?_)
 have hR:Sf [L] (fun _=>True):=Sf.const
 have hW:L∈[L]:=List.Mem.head _
 refine Xs.iteR (Ist.cm Cm.eq lv (zv z_NONE)) (fun e=>Xs.retV Ev.ci fun h p=>⟨p.1.keep,?_⟩) fun e0=>?_
 ·unfold GZi;exact sE (if_pos e) rfl
 refine Xs.iteR (Ist.cm Cm.eq lv (zv z_SUB)) (fun e=>Xs.retV lv fun h p=>⟨p.1.keep,?_⟩) fun e1=>?_
 ·unfold GZi;exact sE (if_neg (by rw [e0];decide)) (sE (if_pos e) rfl)
 refine Xs.iteR (Ist.cm Cm.eq lv (zv z_UP)) (fun e=>Xs.retV lv fun h p=>⟨p.1.keep,?_⟩) fun e2=>?_
 ·unfold GZi;exact sE (if_neg (by rw [e0];decide)) (sE (if_neg (by rw [e1];decide)) (sE (if_pos e) rfl))
 refine Xs.iteR (Ist.cm Cm.eq lv (zv DZ7)) (fun e=>Xs.retV (Ev.fdiv (by decide) (by decide) (Ev.add lv lv) Ev.ci) fun h p=>⟨p.1.keep,?_⟩) fun e3=>?_
 ·unfold GZi;exact sE (if_neg (by rw [e0];decide)) (sE (if_neg (by rw [e1];decide)) (sE (if_neg (by rw [e2];decide)) (sE (if_pos e) rfl)))
 refine Xs.iteR (Ist.cm Cm.eq lv (zv z_PAETH)) (fun e=>Xs.retV (Ev.call (F.cx hR) fn_nearest (hA.mono (by decide)) (gv g_nearest) (Evs.cons lv (Evs.cons lv (Evs.cons lv Evs.nil))) (fun _ _=>trivial) (by kernel_rfl)) fun h p=>⟨p.1.keep,?_⟩) fun e4=>?_
 ·unfold GZi;exact sE (if_neg (by rw [e0];decide)) (sE (if_neg (by rw [e1];decide)) (sE (if_neg (by rw [e2];decide)) (sE (if_neg (by rw [e3];decide)) rfl)))
 ·simp only [beq_eq_false_iff_ne] at e0 e1 e2 e3 e4
  lia
end
end
section
noncomputable def filE (k:Int) (row above:List Int) (i:Nat):Int :=
 Builtin.bitAnd (row.getD i 0-GZi k (if decide (4<=(i:Int))=true then row.getD ((i:Int)-4).toNat 0 else 0) (above.getD i 0) (if decide (4<=(i:Int))=true then above.getD ((i:Int)-4).toNat 0 else 0)) 255
noncomputable def YZi (k:Int) (row above:List Int):List Int:=(List.range row.length).map (filE k row above)
noncomputable def unfN (k:Int) (told above:List Int):Nat->List Int
 | 0=>[]
 | i+1=>unfN k told above i++[Builtin.bitAnd (told.getD i 0+GZi k (if decide (4<=(i:Int))=true then (unfN k told above i).getD ((i:Int)-4).toNat 0 else 0) (above.getD i 0) (if decide (4<=(i:Int))=true then above.getD ((i:Int)-4).toNat 0 else 0)) 255]
theorem GZe (x:Int):0<=Builtin.bitAnd x 255/\Builtin.bitAnd x 255<256:=by
 refine sE (bitAnd_m8 ..) ?_;lia
theorem VZd (k:Int) (row above:List Int):InB (YZi k row above):=fun x hx=>by
 refine J0 (List.mem_map.mp hx) ?_;rintro i _ rfl
 exact GZe _
theorem YZt (k:Int) (row above:List Int):(YZi k row above).length=row.length:=by simp [YZi]
theorem DZf (k:Int) (told above:List Int):∀ i,(unfN k told above i).length=i
 | 0=>rfl
 | i+1=>by rewrite [unfN];refine sE List.length_append (sE (DZf k told above i) ?_);rfl
theorem unfN_in (k:Int) (told above:List Int):∀ i,InB (unfN k told above i)
 | 0=>InB.nil
 | i+1=>by
  rw [unfN]
  refine (unfN_in k told above i).app fun x hx=>?_
  refine sE (mS hx) ?_;exact GZe _
section
variable {prog:Program} {w:World}
theorem UZo {k:Int} {row above:List Int} (hk0:0<=k) (hk4:k<=4) (hr:InB row) (ha:InB above) (hl:row.length<=above.length) (hz:above.length<=100000) :
  Fn prog w (KK w.params) 90 4 [I k,By row,By above,I 4] (fun _=>True) (fun v _ _=>v=By (YZi k row above)):=by
 refine Fn.mk ["kind", "row", "above", "step"] [] (by exact rfl) (by kernel_rfl) (fun s args _ h=>ar4 args h fun _ _ _ _=>BindsTo.of_eq rfl) (fun h L A G _ hL hA F hC=>?_)
 have hR:Sf [L] (fun _=>True):=Sf.const
 refine Xs.assignN F hC hR (EvP.ba0 (F.cx hR) (bv XZk BF.boot_bytearray)) (fun a n=>Sf.at (fun q=>n.ne_loc (mS q).symm)) (fun a n=>?_)
 have hR1:Sf [L] (fun h:Heap=>h.get? a=some (baO [])/\True):=Sf.and (Sf.at (fun q=>n.ne_loc (mS q).symm)) Sf.const
 refine Xs.forW (Y:=Unit) (V:=fun _ v h=>EnumB _ row v h) F hC [L,a] (fun h p=>allL p.1.loc_in (allL ⟨_,p.2.1⟩ allN)) (Tr.post (EvP.enumB (F.cx hR1) (bv KZc PyProof.Rows.boot_enumerate) lv) fun v h q=>⟨⟨(),q.1⟩,q.2⟩)
  (fun _=>row.length) _ ["at", "octet"] ["left", "corner"] (fun _ (i:Nat) μ=>up (up μ "at" (I (i:Int))) "octet" (I (row.getD i 0))) (fun _=>[]) (fun _ v h q _=>SrcW.enumB hA.handled hr q) (fun _ _ _ _ _ b hb=>nomatch hb) ⟨by rfl,by rfl⟩
  (fun _ _=>_) (fun _ i h=>h.get? a=some (baO ((YZi k row above).take i))) (fun _ W hW i=>Sf.at fun q=>by
   refine J0 (hW a q) fun h p e=>?_
   rw [p.2.1] at e;cases e) (fun _ i=>Sf.at (fun q=>n.ne_loc (mS q).symm)) (fun h h' g p=>⟨g _ _ p.1,p.2⟩) (fun _ c h h' _ _ p=>p.1) (fun _=>⟨_,by refine sE (YZv ..) ?_;exact ⟨fun _ _=>rfl,fun _ _=>rfl⟩⟩) ?_ ?_
 ·intro _ i S u hi hS
  have hR2:Sf [L] (fun h=>h.get? a=some (baO ((YZi k row above).take i))/\S h):=Sf.and (Sf.at (fun q=>n.ne_loc (mS q).symm)) (hS.mono fun b hb=>by refine sE (mS hb) ?_;exact List.mem_cons_self ..)
  have hW:L∈[L]:=List.Mem.head _
  have hai:i<above.length:=Nat.lt_of_lt_of_le hi hl
  refine Xs.assignV F hC hW hR2 (Ev.ite (c1:=I (row.getD ((i:Int)-4).toNat 0)) (c2:=I 0) (Ist.cm Cm.ge lv lv) (fun e=>?_) (fun _=>Ev.ci)) ?_
  ·simp only [decide_eq_true_eq] at e
   exact Ev.itemB hr (by lia) (by lia) (by lia) lv (Ev.sub lv lv)
  refine Xs.assignV F hC hW hR2 (Ev.ite (c1:=I (above.getD ((i:Int)-4).toNat 0)) (c2:=I 0) (Ist.cm Cm.ge lv lv) (fun e=>?_) (fun _=>Ev.ci)) ?_
  ·simp only [decide_eq_true_eq] at e
   exact Ev.itemB ha (by exact tdN) (by lia) (by lia) lv (Ev.sub lv lv)
  refine sE ifI (sE ifI ?_)
  refine Xs.baApp (ks:=(YZi k row above).take i) (R':=fun h=>h.get? a=some (baO ((YZi k row above).take (i+1)))/\S h) F hC hR2 n.off (by rfl) (fun h r=>r.1) (GZe _) (by refine sE List.length_take (sE (YZt ..) (sE sizeLine_eq ?_));lia)
   (Ev.band (Ev.sub lv (Ev.call (F.cx hR2) (NZm hk0 hk4) (hA.mono (by decide)) (gv g_guess) (Evs.cons lv (Evs.cons lv (Evs.cons (Ev.itemB (k:=(i:Int)) ha (by exact tdN) (Int.natCast_nonneg _) (by exact clN) lv lv) (Evs.cons lv Evs.nil)))) (fun _ _=>trivial) (by kernel_rfl))) Ev.ci) ?_ ?_
  ·intro h h' sb g r
   refine ⟨?_,hS _ _ (fun b o hb e=>(sb.2 b fun q=>hb (by simp [q])).trans e) r.2⟩
   refine sE g (sE List.take_add_one ?_);rewrite [YZi];refine sE List.getElem?_map (sE (List.getElem?_range hi) ?_)
   simp only [Option.map_some,Option.toList_some,Int.toNat_natCast]
   rfl
  ·exact Xs.turn ⟨by repeat (first | exact allN | refine allL rfl ?_),fun _ h=>nomatch h⟩ fun _ r=>r
 ·intro _ u
  have hR3:Sf [L] (fun h:Heap=>h.get? a=some (baO ((YZi k row above).take row.length))):=Sf.at (fun q=>n.ne_loc (mS q).symm)
  refine Xs.retV (Ev.bytesA (ks:=YZi k row above) (by refine sE (YZt ..) (sE sizeLine_eq ?_);lia) (bv XZj PyProof.Rows.boot_bytes) lv fun h p=>?_) fun h p=>⟨p.1.keep,rfl⟩
  exact sE p.2 (sE (List.take_of_length_le (by rw [YZt];exact Nat.le_refl _)) rfl)
end
end
section
section
variable {prog:Program} {w:World}
theorem DZp {k:Int} {told above:List Int} (hk0:0<=k) (hk4:k<=4) (hr:InB told) (ha:InB above) (hl:told.length<=above.length) (hz:above.length<=100000) :
  Fn prog w (KK w.params) 97 4 [I k,By told,By above,I 4] (fun _=>True) (fun v _ _=>v=By (unfN k told above told.length)):=by
 refine Fn.mk ["kind", "told", "above", "step"] [] (by exact rfl) (by kernel_rfl) (fun s args _ h=>ar4 args h fun _ _ _ _=>BindsTo.of_eq rfl) (fun h L A G _ hL hA F hC=>?_)
 have hR:Sf [L] (fun _=>True):=Sf.const
 refine Xs.assignN F hC hR (EvP.ba0 (F.cx hR) (bv XZk BF.boot_bytearray)) (fun a n=>Sf.at (fun q=>n.ne_loc (mS q).symm)) (fun a n=>?_)
 have hR1:Sf [L] (fun h:Heap=>h.get? a=some (baO [])/\True):=Sf.and (Sf.at (fun q=>n.ne_loc (mS q).symm)) Sf.const
 refine Xs.forW (Y:=Unit) (V:=fun _ v h=>EnumB _ told v h) F hC [L,a] (fun h p=>allL p.1.loc_in (allL ⟨_,p.2.1⟩ allN)) (Tr.post (EvP.enumB (F.cx hR1) (bv KZc PyProof.Rows.boot_enumerate) lv) fun v h q=>⟨⟨(),q.1⟩,q.2⟩)
  (fun _=>told.length) _ ["at", "octet"] ["left", "corner"] (fun _ (i:Nat) μ=>up (up μ "at" (I (i:Int))) "octet" (I (told.getD i 0))) (fun _=>[]) (fun _ v h q _=>SrcW.enumB hA.handled hr q) (fun _ _ _ _ _ b hb=>nomatch hb) ⟨by rfl,by rfl⟩
  (fun _ _=>_) (fun _ i h=>h.get? a=some (baO (unfN k told above i))) (fun _ W hW i=>Sf.at fun q=>by
   refine J0 (hW a q) fun h p e=>?_
   rw [p.2.1] at e;cases e) (fun _ i=>Sf.at (fun q=>n.ne_loc (mS q).symm)) (fun h h' g p=>⟨g _ _ p.1,p.2⟩) (fun _ c h h' _ _ p=>p.1) (fun _=>⟨_,by refine sE (YZv ..) ?_;exact ⟨fun _ _=>rfl,fun _ _=>rfl⟩⟩) ?_ ?_
 ·intro _ i S u hi hS
  have hR2:Sf [L] (fun h=>h.get? a=some (baO (unfN k told above i))/\S h):=Sf.and (Sf.at (fun q=>n.ne_loc (mS q).symm)) (hS.mono fun b hb=>by refine sE (mS hb) ?_;exact List.mem_cons_self ..)
  have hW:L∈[L]:=List.Mem.head _
  have hai:i<above.length:=Nat.lt_of_lt_of_le hi hl
  have hul:=DZf k told above i
  refine Xs.assignV F hC hW hR2 (Ev.ite (c1:=I ((unfN k told above i).getD ((i:Int)-4).toNat 0)) (c2:=I 0) (Ist.cm Cm.ge lv lv) (fun e=>?_) (fun _=>Ev.ci)) ?_
  ·simp only [decide_eq_true_eq] at e
   exact Ev.itemA (unfN_in k told above i) (by lia) (by lia) (by lia) lv (fun h p=>p.2.1) (Ev.sub lv lv)
  refine Xs.assignV F hC hW hR2 (Ev.ite (c1:=I (above.getD ((i:Int)-4).toNat 0)) (c2:=I 0) (Ist.cm Cm.ge lv lv) (fun e=>?_) (fun _=>Ev.ci)) ?_
  ·simp only [decide_eq_true_eq] at e
   exact Ev.itemB ha (by exact tdN) (by lia) (by lia) lv (Ev.sub lv lv)
  refine sE ifI (sE ifI ?_)
  refine Xs.baApp (ks:=unfN k told above i) (R':=fun h=>h.get? a=some (baO (unfN k told above (i+1)))/\S h) F hC hR2 n.off (by rfl) (fun h r=>r.1) (GZe _) (by refine sE hul (sE sizeLine_eq ?_);lia)
   (Ev.band (Ev.add lv (Ev.call (F.cx hR2) (NZm hk0 hk4) (hA.mono (by decide)) (gv g_guess) (Evs.cons lv (Evs.cons lv (Evs.cons (Ev.itemB (k:=(i:Int)) ha (by exact tdN) (Int.natCast_nonneg _) (by exact clN) lv lv) (Evs.cons lv Evs.nil)))) (fun _ _=>trivial) (by kernel_rfl))) Ev.ci) ?_ ?_
  ·intro h h' sb g r
   exact ⟨g,hS _ _ (fun b o hb e=>(sb.2 b fun q=>hb (by simp [q])).trans e) r.2⟩
  ·exact Xs.turn ⟨by repeat (first | exact allN | refine allL rfl ?_),fun _ h=>nomatch h⟩ fun _ r=>r
 ·intro _ u
  have hR3:Sf [L] (fun h:Heap=>h.get? a=some (baO (unfN k told above told.length))):=Sf.at (fun q=>n.ne_loc (mS q).symm)
  exact Xs.retV (Ev.bytesA (ks:=unfN k told above told.length) (by refine sE (DZf ..) (sE sizeLine_eq ?_);lia) (bv XZj PyProof.Rows.boot_bytes) lv fun h p=>p.2) fun h p=>⟨p.1.keep,rfl⟩
end
end
section
noncomputable def wtE (told:List Int) (i:Nat):Int:=if decide (told.getD i 0<128)=true then told.getD i 0 else 256-told.getD i 0
noncomputable def weightZ (told:List Int):Int:=preSum (fun i=>((List.range told.length).map (wtE told)).getD i 0) ((List.range told.length).map (wtE told)).length
theorem XZc {ls:List Int} {i:Nat} (h:i<ls.length):(ls.map I).getD i .none=I (ls.getD i 0):=by
 refine sE List.getD_eq_getElem?_getD (sE List.getElem?_map (sE (List.getElem?_eq_getElem h) (sE List.getD_eq_getElem?_getD (sE (List.getElem?_eq_getElem h) ?_))));rfl
theorem mapI (f:Nat->Int) (n:Nat):((List.range n).map fun i=>I (f i))=((List.range n).map f).map I:=by refine sE List.map_map ?_;rfl
section
variable {prog:Program} {w:World}
theorem HZu {told:List Int} (hr:InB told) (hz:told.length<=100000):Fn prog w (KK w.params) 102 4 [By told] (fun _=>True) (fun v _ _=>v=I (weightZ told)):=by
 refine Fn.mk ["told"] [] (by exact rfl) (by kernel_rfl) (fun s args _ h=>ar1 args h fun _=>BindsTo.of_eq rfl) (fun h L A G _ hL hA F hC=>?_)
 have hR:Sf [L] (fun _=>True):=Sf.const
 refine Xs.ret (EvP.sumL (ls:=(List.range told.length).map (wtE told)) (F.cx hR) hA.handled (bv g_sum PyProof.Rows.boot_sum) (Tr.post (EvP.comp1 (xs:=told.map I) (cl:=[]) (c:=By told) F
  ⟨by rfl,fun _=>by rfl,by decide,by rfl,by decide,fun _ _ h=>(nomatch h),fun _ _ h=>(nomatch h)⟩ hC lv ?_ (fun _ _ e=>nomatch e) (by refine sE (List.length_map ..) (sE sizeLine_eq ?_);exact tdN) (fun W hW=>Sf.const) (fun i=>I (wtE told i)) ?_) ?_)) ?_
 ·intro v h q p
  refine tkB q fun t=>?_
  exact Src.bytes hA.handled hr
 ·intro i B C hn hF hi hB hB2
  rw [List.length_map] at hi
  refine sE (XZc hi) ?_
  unfold wtE
  refine sF ifI ?_
  exact Ev.ite (Ist.cm Cm.lt lv Ev.ci) (fun _=>lv) (fun _=>Ev.sub Ev.ci lv)
 ·intro v h q
  obtain ⟨⟨D,e,_,hl⟩,p⟩:=q
  refine ⟨⟨D,e,?_⟩,p⟩
  rw [List.length_map] at hl
  refine sF (mapI ..) ?_;exact hl
 ·intro v h e p
  exact ⟨p.1.keep,e⟩
end
end
section
section
variable {prog:Program} {w:World}
theorem Xs.fact2 {prog:Program} {w:World} {A:Around} {env:Env} {P:HP} {b:List Stmt} {N:HP} {Rt X:Value->HP} {q:Prop} (hq:∀ h,P h->q) (h:q->Xs (model prog w) A env P b N Rt X):Xs (model prog w) A env P b N Rt X:=fun s Q E p k1 k2 k3=>h (hq _ p) s Q E p k1 k2 k3
theorem New.notin {P:HP} {a:Addr} {W:List Addr} (n:New P a) (hl:∀ h,P h->∀ b∈W,∃ o,h.get? b=some o):a∉W:=fun q=>by
 refine J0 n fun h p e=>?_;clear n
 obtain ⟨o,ho⟩:=hl h p a q
 rw [e] at ho;cases ho
theorem fn_best {row above:List Int} (hr:InB row) (ha:InB above) (hl:row.length<=above.length) (hz:above.length<=100000) :
  Fn prog w (KK w.params) 109 5 [By row,By above,I 4] (fun _=>True) (fun v h h'=>∃ a k,v=.ref a/\0<=k/\k<=4/\h.get? a=none/\TpAt h' a [I k,By (YZi k row above)]):=by
 refine Fn.mk ["row", "above", "step"] [] (by exact rfl) (by kernel_rfl) (fun s args _ h=>ar3 args h fun _ _ _=>BindsTo.of_eq rfl) (fun h L A G _ hL hA F hC=>?_)
 have hR:Sf [L] (fun _=>True):=Sf.const
 refine Xs.assignN F hC hR (Ev.tup0 (F.cx hR).grow (Evs.cons (zv z_NONE) (Evs.cons (Ev.call (F.cx hR) (UZo (Int.le_refl 0) (by decide) hr ha hl hz) (hA.mono (by decide)) (gv UZ9) (Evs.cons (zv z_NONE) (Evs.cons lv (Evs.cons lv (Evs.cons lv Evs.nil)))) (fun _ _=>trivial) (by kernel_rfl)) Evs.nil)) (by show 2<=sizeLine;decide)) (fun a n=>TpAt.sf (fun q=>n.ne_loc (mS q).symm)) (fun a n=>?_)
 have hR1:Sf [L] (fun h:Heap=>TpAt h a [I 0,By (YZi 0 row above)]/\True):=Sf.and (TpAt.sf (fun q=>n.ne_loc (mS q).symm)) Sf.const
 refine Xs.forZ (Y:=Addr) (σ:=Addr×Int) (V:=fun y c h=>c=.ref y/\New _ y/\TpAt h y [I 1,I 2,I 3,I 4]) F hC [L] (fun h p=>allL p.1.loc_in allN) (Tr.post (Ev.tup0 (F.cx hR1).grow (Evs.cons (zv z_SUB) (Evs.cons (zv z_UP) (Evs.cons (zv DZ7) (Evs.cons (zv z_PAETH) Evs.nil)))) (by decide)) fun v h q=>q)
  (fun _=>4) (fun env=>env.kindOf "kind" = some .local) ["kind"] ["told"] (fun _ i μ=>up μ "kind" ([I 1,I 2,I 3,I 4].getD i .none)) (fun y=>[y]) ?_ ?_ (by rfl) (fun _ _ z=>up (YZ9 ["row", "above", "step"] ([By row,By above,I 4]++List.map tk0 [])) "best" (.ref z.1))
  (fun y W i z h'=>((0<=z.2/\z.2<=4)/\z.1∉W/\z.1≠L/\h.get? z.1=none)/\TpAt h' z.1 [I z.2,By (YZi z.2 row above)]) ?_ ?_ (fun h h' g p=>⟨p.1.grow g,trivial⟩) (fun _=>(a,0)) ?_ (fun _=>⟨_,by refine sE (YZv ..) ?_;exact ⟨fun _ _=>rfl,fun _ _=>rfl⟩⟩) ?_ ?_
 ·intro y v h q p
  refine J3 q fun e _ hT=>?_;clear q
  have e:=YZh e
  subst e
  exact SrcW.nm (c:=.ref y) (Src.tuple hA.handled hT) p rfl (fun b e=>by cases e;refine J0 hT fun vs z01 _=>?_;clear hT;refine J0 z01 fun o ho _=>?_;clear z01;exact ⟨o,ho⟩)
 ·intro y c h q p b hb
  refine sE (mS hb) ?_
  exact ⟨fun z=>q.2.1.ne_loc (mS z).symm,fun z=>q.2.1.ne_loc z.symm⟩
 ·intro y W hW i z h1 h2 kk q
  exact ⟨q.1,TpAt.sf q.1.2.1 _ _ kk q.2⟩
 ·intro y W i z h1 h2 kk q
  exact ⟨q.1,TpAt.sf (by simp;exact q.1.2.2.1) _ _ kk q.2⟩
 ·intro y c h1 h2 q g p W hW
  have haW:a∉W:=fun q=>by
   refine J0 (hW a q) fun h p e=>?_
   refine J3 p fun _ z01 _=>?_;clear p;refine J0 z01 fun vs z11 _=>?_;clear z01;refine J0 z11 fun o ho _=>?_;clear z11
   rw [e] at ho;cases ho
  exact ⟨⟨⟨Int.le_refl 0,show (0:Int)<=4 by decide⟩,haW,fun q=>n.ne_loc q.symm,n.old⟩,p.1⟩
 ·intro y W hW i z S u hi hS hlv _
  have hR2:Sf [L] (fun h'=>(((0<=z.2/\z.2<=4)/\z.1∉W/\z.1≠L/\h.get? z.1=none)/\TpAt h' z.1 [I z.2,By (YZi z.2 row above)])/\S h'):=Sf.and (fun h1 h2 kk q=>⟨q.1,TpAt.sf (by simp;exact q.1.2.2.1) _ _ kk q.2⟩) hS
  have hWL:L∈[L]:=List.Mem.head _
  have e:[I 1,I 2,I 3,I 4].getD i .none=I ((i:Int)+1):=by
   exact lt4 i hi rfl rfl rfl rfl
  refine sE e ?_
  have hk0:(0:Int)<=(i:Int)+1:=by exact Int.natCast_nonneg _
  have hk4:(i:Int)+1<=4:=by exact clN
  refine Xs.fact2 (q:=(0<=z.2/\z.2<=4)/\z.1∉W/\z.1≠L/\h.get? z.1=none) (fun h p=>p.2.1.1) fun hz2=>?_
  refine Xs.assignV F hC hWL hR2 (Ev.call (F.cx hR2) (UZo hk0 hk4 hr ha hl hz) (hA.mono (by decide)) (gv UZ9) (Evs.cons lv (Evs.cons lv (Evs.cons lv (Evs.cons lv Evs.nil)))) (fun _ _=>trivial) (by kernel_rfl)) ?_
  refine Xs.ite (N1:=_) (Ist.cm Cm.lt (Ev.call (F.cx hR2) (HZu (told:=YZi ((i:Int)+1) row above) (VZd _ _ _) (by refine sE (YZt ..) ?_;exact aaN)) (hA.mono (by decide)) (gv NZk) (Evs.cons lv Evs.nil) (fun _ _=>trivial) (by kernel_rfl)) (Ev.call (F.cx hR2) (HZu (told:=YZi z.2 row above) (VZd _ _ _) (by refine sE (YZt ..) ?_;exact aaN)) (hA.mono (by decide)) (gv NZk) (Evs.cons (Ev.itemT (a:=z.1) (k:=1) (cs:=[I z.2,By (YZi z.2 row above)]) lv Ev.ci (fun h p=>p.2.1.2) (by decide) (by simp) (by simp) rfl) Evs.nil) (fun _ _=>trivial) (by kernel_rfl))) (fun _=>?_) (fun _=>?_) (Xs.nil fun h p=>p)
  ·refine Xs.assignN F hC hR2 (Ev.tup0 (F.cx hR2).grow (Evs.cons lv (Evs.cons lv Evs.nil)) (by show 2<=sizeLine;decide)) (fun a n=>TpAt.sf (fun q=>n.ne_loc (mS q).symm)) (fun a' n'=>?_)
   refine Xs.turnZ (a',(i:Int)+1) ⟨by repeat (first | exact allN | refine allL rfl ?_),fun _ h=>nomatch h⟩ fun h r=>⟨⟨⟨⟨hk0,hk4⟩,n'.notin fun h p=>hlv h p.2.2,fun q=>n'.ne_loc q.symm,n'.old⟩,r.1⟩,r.2.2⟩
  ·exact Xs.turnZ z ⟨by repeat (first | exact allN | refine allL rfl ?_),fun _ h=>nomatch h⟩ fun h r=>r
 ·intro y W hW u z
  have hR2:Sf [L] (fun h'=>((0<=z.2/\z.2<=4)/\z.1∉W/\z.1≠L/\h.get? z.1=none)/\TpAt h' z.1 [I z.2,By (YZi z.2 row above)]):=fun h1 h2 kk q=>⟨q.1,TpAt.sf (by simp;exact q.1.2.2.1) _ _ kk q.2⟩
  exact Xs.retV lv fun h p=>⟨p.1.keep,z.1,z.2,rfl,p.2.1.1.1,p.2.1.1.2,p.2.1.2.2.2,p.2.2⟩
end
end
section
noncomputable def YZp (n:Int):List Int:=[Builtin.bitAnd (n.fdiv (2 ^ (24:Int).toNat)) 255,Builtin.bitAnd (n.fdiv (2 ^ (16:Int).toNat)) 255,Builtin.bitAnd (n.fdiv (2 ^ (8:Int).toNat)) 255,Builtin.bitAnd n 255]
noncomputable def YZz (o:List Int) (at_:Int):Int:=Builtin.bitOr (Builtin.bitOr (Builtin.bitOr (o.getD at_.toNat 0*2 ^ (24:Int).toNat) (o.getD (at_+1).toNat 0*2 ^ (16:Int).toNat)) (o.getD (at_+2).toNat 0*2 ^ (8:Int).toNat)) (o.getD (at_+3).toNat 0)
noncomputable def crcBit (x:Int):Int:=if (Builtin.bitAnd x 1 != 0)=true then Builtin.bitXor (x.fdiv (2 ^ (1:Int).toNat)) 3988292384 else x.fdiv (2 ^ (1:Int).toNat)
noncomputable def XZ1 (x:Int):Nat->Int
 | 0=>x
 | n+1=>crcBit (XZ1 x n)
noncomputable def VZw:List Int:=(List.range 16).map fun (i:Nat)=>XZ1 i 4
noncomputable def crcT (st:List Int) (x:Int):Int:=Builtin.bitXor (st.getD (Builtin.bitAnd x 15).toNat 0) (x.fdiv (2 ^ (4:Int).toNat))
noncomputable def crcN (st o:List Int):Nat->Int
 | 0=>Builtin.bitXor 0 4294967295
 | i+1=>crcT st (crcT st (Builtin.bitXor (crcN st o i) (o.getD i 0)))
noncomputable def crcZ (o:List Int):Int:=Builtin.bitXor (crcN VZw o o.length) 4294967295
theorem VZj (n:Int):InB (YZp n):=by
 intro k hk
 simp only [YZp,List.mem_cons,List.not_mem_nil,or_false] at hk
 rcases hk with rfl | rfl | rfl | rfl <;> exact GZe _
section
variable {prog:Program} {w:World}
theorem UZw {n:Int}:Fn prog w (KK w.params) 116 3 [I n] (fun _=>True) (fun v _ _=>v=By (YZp n)):=by
 refine Fn.mk ["n"] [] (by exact rfl) (by kernel_rfl) (fun s args _ h=>ar1 args h fun _=>BindsTo.of_eq rfl) (fun h L A G _ hL hA F hC=>?_)
 have hR:Sf [L] (fun _=>True):=Sf.const
 refine Xs.retV (Ev.bytesL (F.cx hR) hA.handled (VZj n) (by show 4<=sizeLine;decide) (bv XZj PyProof.Rows.boot_bytes) (Tr.post (Ev.list0 (F.cx hR).grow (Evs.cons (Ev.band (Ev.shr (by decide) lv Ev.ci) Ev.ci) (Evs.cons (Ev.band (Ev.shr (by decide) lv Ev.ci) Ev.ci) (Evs.cons (Ev.band (Ev.shr (by decide) lv Ev.ci) Ev.ci) (Evs.cons (Ev.band lv Ev.ci) Evs.nil)))) (by show 4<=sizeLine;decide)) fun v h q=>⟨dr q.1,q.2⟩)) fun h p=>⟨p.1.keep,rfl⟩
theorem UZx {o:List Int} {k:Int} (ho:InB o) (h0:0<=k) (h1:k+4<=o.length) (hz:o.length<=100000):Fn prog w (KK w.params) 123 3 [By o,I k] (fun _=>True) (fun v _ _=>v=I (YZz o k)):=by
 refine Fn.mk ["octets", "at"] [] (by exact rfl) (by kernel_rfl) (fun s args _ h=>ar2 args h fun _ _=>BindsTo.of_eq rfl) (fun h L A G _ hL hA F hC=>?_)
 have hR:Sf [L] (fun _=>True):=Sf.const
 have hz':o.length<=16777216:=by exact tdN
 refine Xs.iteR (d:=decide (k<0) || (decide ((o.length:Int)<k+4) || false)) (Ist.bop (All.orC (Ist.cm Cm.lt lv Ev.ci) fun _=>All.orC (Ist.cm Cm.gt (Ev.add lv Ev.ci) (Ev.lenB (F.cx hR) hz' (bv VZl PyProof.Rows.bootS_len) lv)) fun _=>All.orN)) (fun e=>?_) (fun e=>?_)
 ·simp at e;lia
 have hb:∀ i:Nat,(o.getD i 0).natAbs<2 ^ 64:=fun i=>by have:=ho.getD i;lia
 exact Xs.retV (Ev.bor (Ev.bor (Ev.bor (Ev.shl (by decide) (by decide) (hb _) (Ev.itemB (k:=k) ho hz' h0 (by lia) lv lv) Ev.ci) (Ev.shl (by decide) (by decide) (hb _) (Ev.itemB (k:=k+1) ho hz' (by lia) (by lia) lv (Ev.add lv Ev.ci)) Ev.ci)) (Ev.shl (by decide) (by decide) (hb _) (Ev.itemB (k:=k+2) ho hz' (by lia) (by lia) lv (Ev.add lv Ev.ci)) Ev.ci)) (Ev.itemB (k:=k+3) ho hz' (by lia) (by omega) lv (Ev.add lv Ev.ci))) fun h p=>⟨p.1.keep,rfl⟩
end
end
section
section
variable {prog:Program} {w:World}
theorem New.of_live {P:HP} {a:Addr} {W:List Addr} (hW:∀ b∈W,New P b) (hl:∀ h,P h->∃ o,h.get? a=some o):a∉W:=fun q=>by
 refine J0 (hW a q) fun h p e=>?_
 obtain ⟨o,ho⟩:=hl h p
 rw [e] at ho;cases ho
theorem HZz:Fn prog w (KK w.params) 130 3 [] (fun _=>True) (fun v h h'=>∃ a,v=.ref a/\h.get? a=none/\LsAt h' a (VZw.map I)):=by
 refine Fn.mk [] [] (by exact rfl) (by kernel_rfl) (fun s args _ h=>ar0 args h (BindsTo.of_eq rfl)) (fun h L A G _ hL hA F hC=>?_)
 have hR:Sf [L] (fun _=>True):=Sf.const
 refine Xs.assignN F hC hR (EvP.listP (F.cx hR).grow Evs.nil (Nat.zero_le _)) (fun a n=>LpAt.sf (fun q=>n.ne_loc (mS q).symm)) (fun a n=>?_)
 have hR1:Sf [L] (fun h:Heap=>LpAt h a []/\True):=Sf.and (LpAt.sf (fun q=>n.ne_loc (mS q).symm)) Sf.const
 refine Xs.forR (n:=16) (σ:=Unit) F hC hA.handled [L,a] (fun h p=>allL p.1.loc_in (allL p.2.1.live allN)) (by decide) (bv XZi PyProof.Rows.boot_range) Ev.ci ["crc", "turn"] (fun _ _=>up (YZ9 [] ([]++List.map tk0 [])) "found" (.ref a)) (fun W i _ h=>LpAt h a ((List.range i).map fun (i:Nat)=>I (XZ1 i 4)))
  (fun W hW i z=>LpAt.sf (New.of_live hW fun h p=>p.2.1.live)) (fun W i z=>LpAt.sf (fun q=>n.ne_loc (mS q).symm)) (hR1.mono fun b hb=>nomatch hb) () (fun h p W hW=>p.1) ⟨_,by refine sE (YZv ..) ?_;exact ⟨fun _ _=>rfl,fun _ _=>rfl⟩⟩ ?_ ?_
 ·intro W hW i _ S u hi hS hlv hst
  have hWL:L∈[L]:=List.Mem.head _
  have hR2:Sf [L] (fun h:Heap=>LpAt h a ((List.range i).map fun (i:Nat)=>I (XZ1 i 4))/\S h):=Sf.and (LpAt.sf (fun q=>n.ne_loc (mS q).symm)) (hS.mono fun b hb=>by refine sE (mS hb) ?_;exact List.mem_cons_self ..)
  refine Xs.assignV F hC hWL hR2 lv ?_
  refine Xs.forR (n:=4) (σ:=Unit) F hC hA.handled [L] (fun h p=>allL p.1.loc_in allN) (by decide) (bv XZi PyProof.Rows.boot_range) Ev.ci [] (fun j _=>up (up (ovr (up (YZ9 [] ([]++List.map tk0 [])) "found" (.ref a)) ["crc", "turn"] u) "bits" (I (i:Int))) "crc" (I (XZ1 i j))) (fun W' j _ h=>LpAt h a ((List.range i).map fun (i:Nat)=>I (XZ1 i 4))/\S h)
   (fun W' hW' j z=>Sf.and (LpAt.sf (New.of_live hW' fun h p=>p.2.1.live)) (hst W' fun b hb=>.inr (J0 (hW' b hb) fun h p e=>⟨h,p.2.2,e⟩))) (fun W' j z=>hR2) (hR2.mono fun b hb=>nomatch hb) () (fun h p W hW=>p) ⟨_,by refine sE (YZv ..) ?_;exact ⟨fun _ _=>rfl,fun _ _=>rfl⟩⟩ ?_ ?_
  ·intro W' hW' j _ S' u' hj hS' hlv' hst'
   have hR3:Sf [L] (fun h:Heap=>(LpAt h a ((List.range i).map fun (i:Nat)=>I (XZ1 i 4))/\S h)/\S' h):=Sf.and hR2 hS'
   refine Xs.assignV F hC hWL hR3 (c:=I (XZ1 i (j+1))) ?_ ?_
   ·show Ev _ _ _ _ _ (I (crcBit (XZ1 i j)))
    unfold crcBit
    refine sF ifI ?_
    exact Ev.ite (Ist.int (Ev.band lv Ev.ci)) (fun _=>Ev.bxor (Ev.shr (by decide) lv Ev.ci) Ev.ci) (fun _=>Ev.shr (by decide) lv Ev.ci)
   ·exact Xs.turnZ () ⟨by repeat (first | exact allN | refine allL rfl ?_),fun _ h=>nomatch h⟩ fun h r=>r
  ·intro W' hW' u' _
   refine Xs.lsApp (V:=fun c _=>c=I (XZ1 i 4)) (R':=fun h=>LpAt h a ((List.range (i+1)).map fun (i:Nat)=>I (XZ1 i 4))/\S h) F hR2 n.off (by rfl) (fun h r=>r.1) (by simp [sizeLine_eq];lia) lv (fun h h' c sb hl e r=>?_) ?_
   ·refine ⟨?_,hS _ _ (fun b o hb e=>(sb.2 b fun q=>hb (by simp [q])).trans e) r.2⟩
    refine sE List.range_succ (sE List.map_append ?_)
    rw [e] at hl;exact hl
   ·exact Xs.turnZ () ⟨by repeat (first | exact allN | refine allL rfl ?_),fun _ h=>nomatch h⟩ fun h r=>r
 ·intro W hW u _
  have hR2:Sf [L] (fun h:Heap=>LpAt h a ((List.range 16).map fun (i:Nat)=>I (XZ1 i 4))):=LpAt.sf (fun q=>n.ne_loc (mS q).symm)
  refine Xs.retV lv fun h p=>⟨p.1.keep,a,rfl,n.old,?_⟩
  have:=p.2.ls
  rw [mapI] at this
  exact this
end
end
section
section
variable {prog:Program} {w:World} {A:Around} {env:Env} {P:HP} {pos:Pos} {e:PySem.Expr} {es:List PySem.Expr} {c:Value} {cs:List Value} {K:Frag} {h₀:Heap} {μ:Str->Option Value} {f:Addr} {n:Nat} {Pre:HP} {G:Addr->HP}
theorem EvP.callN {fx:Str} {fp:Pos} (C:Cx K env h₀ μ P) (hF:Fn prog w K f n cs Pre (fun v h h'=>∃ a,v=.ref a/\h.get? a=none/\G a h')) (hr:Room n A) (hf:Ev (model prog w) A env P (.Name fx fp) (.ref f)) (ha:Evs (model prog w) A env P pos (e::es) cs) (hp:∀ h,P h->Pre h)
  (hd:(match K.lookup f with | some ⟨_,_,.func _,_⟩=>true | _=>false)=true) (he:autoParam (eval (.Call (.Name fx fp) (e::es) [] pos) env=(do let f <- eval (.Name fx fp) env;callWith pos f [] (backTo pos (starEach (e::es) env)) [])) tR)
  (he2:autoParam (starEach (e::es) env=(false,eval e env)::starEach es env) tR) (hpl:autoParam ((backTo pos (starEach (e::es) env)).any (·.1)=false) tR) :
  EvP (model prog w) A env P (.Call (.Name fx fp) (e::es) [] pos) (fun v h=>∃ a,v=.ref a/\New P a/\G a h) :=
 Tr.post (EvP.call C hF hr hf ha hp hd he he2 hpl) fun v h q=>⟨Jg q.1 fun h1 p1 g a e hn l=>⟨a,e,⟨h1,p1,hn⟩,l⟩,q.2⟩
theorem EvP.callN0 {fx:Str} {fp:Pos} (C:Cx K env h₀ μ P) (hF:Fn prog w K f n [] Pre (fun v h h'=>∃ a,v=.ref a/\h.get? a=none/\G a h')) (hr:Room n A) (hf:Ev (model prog w) A env P (.Name fx fp) (.ref f)) (hp:∀ h,P h->Pre h)
  (hd:(match K.lookup f with | some ⟨_,_,.func _,_⟩=>true | _=>false)=true) (he:autoParam (eval (.Call (.Name fx fp) [] [] pos) env=(do let f <- eval (.Name fx fp) env;callWith pos f [] (backTo pos (starEach [] env)) [])) tR) :
  EvP (model prog w) A env P (.Call (.Name fx fp) [] [] pos) (fun v h=>∃ a,v=.ref a/\New P a/\G a h) :=
 Tr.post (EvP.call0 C hF hr hf hp hd he) fun v h q=>⟨Jg q.1 fun h1 p1 g a e hn l=>⟨a,e,⟨h1,p1,hn⟩,l⟩,q.2⟩
end
theorem NZ0:VZw.length=16:=by simp [VZw]
noncomputable def adlN (o:List Int):Nat->Int×Int
 | 0=>(Builtin.bitAnd 1 65535,(1:Int).fdiv (2 ^ (16:Int).toNat))
 | i+1=>(((adlN o i).1+o.getD i 0).fmod 65521,((adlN o i).2+((adlN o i).1+o.getD i 0).fmod 65521).fmod 65521)
noncomputable def XZn (o:List Int):Int:=Builtin.bitOr ((adlN o o.length).2*2 ^ (16:Int).toNat) (adlN o o.length).1
theorem adlN_in (o:List Int) (i:Nat):0<=(adlN o i).2/\(adlN o i).2<65521:=by
 cases i with
 | zero=>show 0<=(1:Int).fdiv (2 ^ (16:Int).toNat)/\(1:Int).fdiv (2 ^ (16:Int).toNat)<65521;decide
 | succ i =>
  show 0<=Int.fmod _ _/\Int.fmod _ _<_
  constructor
  ·exact Int.fmod_nonneg_of_pos _ (by decide)
  ·exact Int.fmod_lt_of_pos _ (by decide)
section
variable {prog:Program} {w:World}
theorem NZn {o:List Int} (ho:InB o) (hz:o.length<=100000):Fn prog w (KK w.params) 138 5 [By o] (fun _=>True) (fun v _ _=>v=I (crcZ o)):=by
 have hF:=@HZz prog w
 have hsl:=NZ0
 unfold crcZ
 revert hF hsl
 generalize VZw=st
 intro hF hsl
 refine Fn.mk ["octets", "crc"] [.int 0 367] (by exact rfl) (by kernel_rfl) (fun s args G h=>ar1 args h fun _=>kp_binds G.inK (fun S=>rfl)) (fun h L A G _ hL hA F hC=>?_)
 have hR:Sf [L] (fun _=>True):=Sf.const
 have hWL:L∈[L]:=List.Mem.head _
 refine Xs.assignN F hC hR (EvP.callN0 (F.cx hR) hF (hA.mono (by decide)) (gv BZs) (fun _ _=>trivial) (by kernel_rfl)) (fun a n=>LsAt.sf (fun q=>n.ne_loc (mS q).symm)) (fun a n=>?_)
 have hR1:Sf [L] (fun h:Heap=>LsAt h a (st.map I)/\True):=Sf.and (LsAt.sf (fun q=>n.ne_loc (mS q).symm)) Sf.const
 refine Xs.assignV F hC hWL hR1 (Ev.bxor lv Ev.ci) ?_
 refine Xs.forN (σ:=Unit) (xs:=o.map I) (c:=By o) F hC [L] (fun h p=>allL p.1.loc_in allN) lv (fun v h q p=>by
  refine tkB q fun t=>?_
  exact Src.bytes hA.handled ho) (fun _ _ e=>nomatch e) [] (fun i _=>up (up (YZ9 ["octets", "crc"] ([By o]++List.map tk0 [.int 0 367])) "steps" (.ref a)) "crc" (I (crcN st o i))) (fun W i _ h=>LsAt h a (st.map I))
  (fun W hW i z=>LsAt.sf (New.of_live hW fun h p=>p.2.1.live)) (fun W i z=>LsAt.sf (fun q=>n.ne_loc (mS q).symm)) (fun h h' g p=>⟨p.1.grow g,trivial⟩) () (fun h p W hW=>p.1) ⟨_,by refine sE (YZv ..) ?_;exact ⟨fun _ _=>rfl,fun _ _=>rfl⟩⟩ ?_ ?_
 ·intro W hW i _ S u hi hS hlv hst
  rw [List.length_map] at hi
  refine sE (XZc hi) ?_
  have hR2:Sf [L] (fun h:Heap=>LsAt h a (st.map I)/\S h):=Sf.and (LsAt.sf (fun q=>n.ne_loc (mS q).symm)) hS
  have hb:∀ x:Int,0<=Builtin.bitAnd x 15/\Builtin.bitAnd x 15<16:=fun x=>by refine sE (bitAnd_m4 ..) ?_;lia
  have hit:∀ x:Int,(st.map I).getD (Builtin.bitAnd x 15).toNat .none=I (st.getD (Builtin.bitAnd x 15).toNat 0):=fun x=>XZc (by have:=hb x;refine sE hsl ?_;lia)
  have hlen:(st.map I).length=16:=by exact sE (List.length_map ..) (sE hsl rfl)
  refine Xs.assignV F hC hWL hR2 (Ev.bxor lv lv) ?_
  refine Xs.assignV F hC hWL hR2 (c:=I (crcT st (Builtin.bitXor (crcN st o i) (o.getD i 0)))) (Ev.bxor (Ev.itemL (a:=a) (cs:=st.map I) lv (Ev.band lv Ev.ci) (fun h p=>p.2.1) (hb _).1 (by refine sE hlen ?_;exact (hb _).2) (by refine sE hlen ?_;decide) (hit _)) (Ev.shr (by decide) lv Ev.ci)) ?_
  refine Xs.assignV F hC hWL hR2 (c:=I (crcN st o (i+1))) (Ev.bxor (Ev.itemL (a:=a) (cs:=st.map I) lv (Ev.band lv Ev.ci) (fun h p=>p.2.1) (hb _).1 (by refine sE hlen ?_;exact (hb _).2) (by refine sE hlen ?_;decide) (hit _)) (Ev.shr (by decide) lv Ev.ci)) ?_
  exact Xs.turnZ () ⟨by repeat (first | exact allN | refine allL rfl ?_),fun _ h=>nomatch h⟩ fun h r=>r
 ·intro W hW u _
  have hR2:Sf [L] (fun h:Heap=>LsAt h a (st.map I)):=LsAt.sf (fun q=>n.ne_loc (mS q).symm)
  refine sE (List.length_map ..) ?_
  exact Xs.retV (Ev.bxor lv Ev.ci) fun h p=>⟨p.1.keep,rfl⟩
end
end
section
noncomputable def BLike (c:Value) (o:List Int) (h:Heap):Prop:=c=By o∨∃ a,c=.ref a/\h.get? a=some (baO o)
section
variable {prog:Program} {w:World}
theorem KZ3 {o:List Int} {c:Value} (ho:InB o) (hz:o.length<=100000):Fn prog w (KK w.params) 146 3 [c] (BLike c o) (fun v _ _=>v=I (XZn o)):=by
 refine Fn.mk ["octets", "begin"] [.int 1 378] (by exact rfl) (by kernel_rfl) (fun s args G h=>ar1 args h fun _=>kp_binds G.inK (fun S=>rfl)) (fun h L A G hpre hL hA F hC=>?_)
 have hR:Sf [L] (fun _=>True):=Sf.const
 have hWL:L∈[L]:=List.Mem.head _
 refine Xs.swp (W:=[L]) (ns:=["low", "high"]) (Y:=Unit) (V:=fun _ _=>True) (cs:=fun _=>[I (adlN o 0).1,I (adlN o 0).2]) hA.handled (fun n hn=>?_) hR (fun _=>Sf.const) (Tr.post (Ev.tup0 (cs:=[I (adlN o 0).1,I (adlN o 0).2]) (F.cx hR).grow (Evs.cons (Ev.band (i:=1) lv Ev.ci) (Evs.cons (Ev.shr (i:=1) (by decide) lv Ev.ci) Evs.nil)) (by show 2<=sizeLine;decide)) fun v h q=>⟨⟨(),trivial,dr q.1⟩,q.2⟩) (fun _=>rfl) (fun v=>?_)
 ·simp only [List.reverse_cons,List.reverse_nil,List.nil_append,List.singleton_append,List.mem_cons,List.not_mem_nil,or_false] at hn
  rcases hn with rfl | rfl
  ·exact St1.locB F hC hWL
  ·exact St1.locB F hC hWL
 have hR1:Sf [L] (fun h:Heap=>True/\True):=Sf.const
 refine Xs.forN (σ:=Unit) (xs:=o.map I) (c:=c) F hC [L] (fun h p=>allL p.1.loc_in allN) lv (fun v h q p=>?_) (fun b h e p=>?_) [] (fun i _=>up (up (YZ9 ["octets", "begin"] ([c]++List.map tk0 [.int 1 378])) "high" (I (adlN o i).2)) "low" (I (adlN o i).1)) (fun W i _ h=>True)
  (fun W hW i z=>Sf.const) (fun W i z=>Sf.const) (fun h h' g p=>p) () (fun h p W hW=>trivial) ⟨_,by refine sE (YZv ..) ?_;exact ⟨fun _ _=>rfl,fun _ _=>rfl⟩⟩ ?_ ?_
 ·rcases hpre with rfl | ⟨a,rfl,ha⟩
  ·refine tkB q fun t=>?_
   exact Src.bytes hA.handled ho
  ·refine sE (YZh q) ?_
   exact Src.ba hA.handled ho (p.1.keep _ _ ha)
 ·subst e
  rcases hpre with e | ⟨a,e,ha⟩
  ·cases e
  ·cases e
   refine ⟨⟨_,p.1.keep _ _ ha⟩,fun q=>?_,fun q=>?_⟩
   ·rw [mS q,hL] at ha;cases ha
   ·rw [q,show (envOf _ _ L _ _).locals=L from rfl,hL] at ha;cases ha
 ·intro W hW i _ S u hi hS hlv hst
  rw [List.length_map] at hi
  refine sE (XZc hi) ?_
  have hR2:Sf [L] (fun h:Heap=>True/\S h):=Sf.and Sf.const hS
  refine Xs.assignV F hC hWL hR2 (Ev.mod (by decide) (Ev.add lv lv) (zv GZf)) ?_
  refine Xs.assignV F hC hWL hR2 (Ev.mod (by decide) (Ev.add lv lv) (zv GZf)) ?_
  exact Xs.turnZ () ⟨by repeat (first | exact allN | refine allL rfl ?_),fun _ h=>nomatch h⟩ fun h r=>r
 ·intro W hW u _
  refine sE (List.length_map ..) ?_
  have hR2:Sf [L] (fun _:Heap=>True):=Sf.const
  have hb:=adlN_in o o.length
  exact Xs.retV (Ev.bor (Ev.shl (by decide) (by decide) (by lia) lv Ev.ci) lv) fun h p=>⟨p.1.keep,rfl⟩
end
end
section
noncomputable def blkH (last:Bool) (n:Nat):List Int:=[if last=true then 1 else 0,Builtin.bitAnd n 255,(n:Int).fdiv (2 ^ (8:Int).toNat),255-Builtin.bitAnd n 255,255-(n:Int).fdiv (2 ^ (8:Int).toNat)]
noncomputable def XZt (most:Nat) (d:List Int):List Int :=
 if h:d.length<=most∨most=0 then blkH true d.length++d else blkH false most++d.take most++XZt most (d.drop most)
termination_by d.length
decreasing_by
 refine sE List.length_drop ?_;lia
theorem XZw {most:Nat} {d:List Int} (h:d.length<=most):XZt most d=blkH true d.length++d:=by
 rewrite [XZt];exact sE (dif_pos (.inl h)) rfl
theorem VZu {most:Nat} {d:List Int} (h:most<d.length) (h0:0<most):XZt most d=blkH false most++d.take most++XZt most (d.drop most):=by
 rewrite [XZt];exact sE (dif_neg (by lia)) rfl
theorem UZe {most:Nat} (h0:0<most):∀ (n:Nat) (d:List Int),d.length<=n->(XZt most d).length<=6*d.length+5
 | 0,d,h=>by
  refine sE (XZw (by lia)) (sE List.length_append ?_);show 5+_<=_;lia
 | n+1,d,h=>by
  by_cases hm:d.length<=most
  ·refine sE (XZw hm) (sE List.length_append ?_);show 5+_<=_;lia
  ·refine sE (VZu (by exact qeN) h0) (sE List.length_append (sE List.length_append (sE List.length_take ?_)))
   have:=UZe h0 n (d.drop most) (by refine sE List.length_drop ?_;lia)
   rw [List.length_drop] at this
   have e:(blkH false most).length=5:=rfl
   refine sE e ?_;lia
theorem DZ2 {last:Bool} {n:Nat} (h:n<=65535):InB (blkH last n):=by
 have h1:=GZe n
 have h2:(n:Int).fdiv (2 ^ (8:Int).toNat)=(n:Int) / 256:=Int.fdiv_eq_ediv_of_nonneg _ (by decide)
 intro k hk
 simp only [blkH,List.mem_cons,List.not_mem_nil,or_false] at hk
 rcases hk with rfl | rfl | rfl | rfl | rfl
 ·cases last <;> decide
 ·exact h1
 ·refine sE h2 ?_;lia
 ·lia
 ·refine sE h2 ?_;lia
noncomputable def YZo (o:List Int) (most:Nat):List Int:=([120,1]++XZt most o)++YZp (XZn o)
section
variable {prog:Program} {w:World} {A:Around} {env:Env} {K:Frag} {h₀:Heap} {μ:Str->Option Value} {P:HP} {Rt X:Value->HP}
theorem Xs.turnW {σ:Type} {m:σ->Nat} {Iv:σ->Prop} {μi:σ->Str->Option Value} {R:HP} {Rr:σ->HP} {z:σ} (z':(Str->Option Value)->σ) (hm:m (z' μ)<m z) (hI:Iv (z' μ)) (q:Mq env μ (μi (z' μ))) (hR:∀ h,R h->Rr (z' μ) h):Xs (model prog w) A env (Pc env h₀ μ R) [] (fun h=>∃ z',m z' < m z/\Iv z'/\Pc env h₀ (μi z') (Rr z') h) Rt X :=
 Xs.nil fun h p=>⟨z' μ,hm,hI,p.1.cong q,hR h p.2⟩
theorem Ist.cb {b:Bool} {n:Nat} {pos:Pos}:Ist (model prog w) A env P (.Constant (.bool b) n pos) b :=
 Ist.val Ev.cb fun s Q E v hv q=>by refine sE (VZp hv) ?_;exact YZb (wpAny_truthy_bool (q s.toks))
end
section
variable {prog:Program} {w:World}
structure StSt (o:List Int) (most:Nat) (z:Nat×List Int×(Str->Option Value)):Prop where
 le:z.1<o.length∨(z.1=0/\o.length=0)
 tot:z.2.1++XZt most (o.drop z.1)=[120,1]++XZt most o
theorem fn_stored {o:List Int} {most:Nat} (ho:InB o) (hz:o.length<=1000) (hm0:0<most) (hm1:most<=65535):Fn prog w (KK w.params) 154 4 [By o,I most] (fun _=>True) (fun v _ _=>v=By (YZo o most)):=by
 refine Fn.mk ["octets", "most"] [] (by exact rfl) (by kernel_rfl) (fun s args G h=>ar2 args h fun _ _=>kp_binds G.inK (fun S=>rfl)) (fun h L A G _ hL hA F hC=>?_)
 have hR:Sf [L] (fun _=>True):=Sf.const
 have hWL:L∈[L]:=List.Mem.head _
 have hz':o.length<=16777216:=by exact tdN
 have htot:([120,1]++XZt most o).length<=6100:=by
  refine sE List.length_append ?_;have:=UZe hm0 _ o (Nat.le_refl _);show 2+_<=_;lia
 refine Xs.assignN F hC hR (EvP.baL (ls:=[120,1]) (F.cx hR) (by intro k hk;simp at hk;rcases hk with rfl | rfl <;> decide) (by show 2<=sizeLine;decide) (bv XZk BF.boot_bytearray) (Tr.post (Ev.list0 (F.cx hR).grow (Evs.cons Ev.ci (Evs.cons Ev.ci Evs.nil)) (by show 2<=sizeLine;decide)) fun v h q=>⟨dr q.1,q.2⟩)) (fun a n=>Sf.at (fun q=>n.ne_loc (mS q).symm)) (fun a n=>?_)
 have hS0:∀ ks,Sf [L] (fun h:Heap=>h.get? a=some (baO ks)):=fun ks=>Sf.at (fun q=>n.ne_loc (mS q).symm)
 have hR1:Sf [L] (fun h:Heap=>h.get? a=some (baO [120,1])/\True):=Sf.and (hS0 _) Sf.const
 refine Xs.assignV F hC hWL hR1 Ev.ci ?_
 refine Xs.while (σ:=Nat×List Int×(Str->Option Value)) (fun z=>o.length-z.1) (StSt o most) (fun z=>ovr (up (up (YZ9 ["octets", "most"] ([By o,I most]++List.map tk0 [])) "found" (.ref a)) "at" (I z.1)) ["part", "size"] z.2.2) (fun z h=>h.get? a=some (baO z.2.1)) (fun _=>true)
  (0,[120,1],fun _=>none) ⟨by show 0<_∨_;lia,by simp⟩ (fun h p=>⟨p.1.cong ⟨by repeat (first | exact allN | refine allL rfl ?_),fun _ h=>nomatch h⟩,p.2.1⟩) (fun z hz=>Ist.cb) ?_ (fun z _ e=>nomatch e)
 rintro ⟨k,fd,u⟩ hI -
 have hR2:Sf [L] (fun h:Heap=>h.get? a=some (baO fd)):=hS0 fd
 obtain ⟨hle,htt⟩:=hI
 dsimp only at hle htt ⊢
 refine Xs.assignV F hC hWL hR2 (Ev.sliceB (F.cx hR2) ho hz' lv (EvO.yes lv) (EvO.yes (Ev.add lv lv))) ?_
 refine sE (VZ5 (by exact Int.natCast_nonneg _) (by exact Int.natCast_nonneg _)) ?_
 have e1:((k:Int)+most).toNat-(k:Int).toNat=most:=by lia
 refine sE e1 (sE (Int.toNat_natCast ..) ?_)
 obtain ⟨part,hpart⟩:∃ part,part=(o.drop k).take most:=⟨_,rfl⟩
 refine sF hpart ?_
 have hpl:part.length=min most (o.length-k):=by exact sE hpart (sE List.length_take (sE List.length_drop rfl))
 have hpb:InB part:=hpart▸(ho.drop k).take most
 refine Xs.assignV F hC hWL hR2 (Ev.add lv (Ev.lenB (ks:=part) (F.cx hR2) (by omega) (bv VZl PyProof.Rows.bootS_len) lv)) ?_
 refine Xs.assignV F hC hWL hR2 (Ev.lenB (ks:=part) (F.cx hR2) (by omega) (bv VZl PyProof.Rows.bootS_len) lv) ?_
 have hpo:part.length<=1000:=hpl▸Nat.le_trans (Nat.min_le_right ..) (Nat.le_trans (Nat.sub_le ..) hz)
 have hps:(part.length:Int)<=65535:=by clear hpl;lia
 have hfdl:fd.length+(5+part.length)<=8000:=by
  have:=congrArg List.length htt
  rw [List.length_append] at this
  clear hpl
  lia
 have hlast:((k:Int)+part.length==o.length)=decide (o.length<=k+most):=by
  by_cases h:o.length<=k+most
  ·refine sE (decide_eq_true h) ?_;rw [beq_iff_eq];lia
  ·refine sE (decide_eq_false h) ?_;rw [beq_eq_false_iff_ne];lia
 have e8:(part.length:Int).fdiv (2 ^ (8:Int).toNat)=(part.length:Int) / 256:=Int.fdiv_eq_ediv_of_nonneg _ (by decide)
 refine Xs.baExtL (a:=a) (ks:=fd) (ls:=blkH (decide (o.length<=k+most)) part.length) (R':=fun h=>h.get? a=some (baO (fd++blkH (decide (o.length<=k+most)) part.length))) F hC hA.handled hR2 n.off (by rfl) (fun h r=>r) (DZ2 (by clear hlast hpl;exact tdN)) (by show fd.length+5<=sizeLine;refine sE sizeLine_eq ?_;clear hlast hpl;lia)
  (Tr.post (Ev.list0 (cs:=(blkH (decide (o.length<=k+most)) part.length).map I) (F.cx hR2).grow (Evs.cons ?_ (Evs.cons (Ev.band lv Ev.ci) (Evs.cons (Ev.shr (by decide) lv Ev.ci) (Evs.cons (Ev.sub Ev.ci (Ev.band lv Ev.ci)) (Evs.cons (Ev.sub Ev.ci (Ev.shr (by decide) lv Ev.ci)) Evs.nil))))) (by show 5<=sizeLine;decide)) fun v h q=>⟨?_,q.2⟩) (fun h h' kk g r=>g) ?_
 ·refine sF ifI (sF hlast ?_)
  exact Ev.ite (Ist.cm Cm.eq lv (Ev.lenB (F.cx hR2) hz' (bv VZl PyProof.Rows.bootS_len) lv)) (fun _=>Ev.ci) (fun _=>Ev.ci)
 ·refine J1 q.1 fun b e nb l=>?_
  refine ⟨b,e,fun q=>?_,.inl l⟩
  refine J0 nb fun h1 p1 e1=>?_;clear nb
  rw [q,p1.2] at e1;cases e1
 have hR3:Sf [L] (fun h:Heap=>h.get? a=some (baO (fd++blkH (decide (o.length<=k+most)) part.length))):=hS0 _
 refine Xs.baExtB (a:=a) (ks:=fd++blkH (decide (o.length<=k+most)) part.length) (ls:=part) (R':=fun h=>h.get? a=some (baO (fd++blkH (decide (o.length<=k+most)) part.length++part))) F hC hR3 n.off (by rfl) (fun h r=>r) (by refine sE List.length_append ?_;show fd.length+5+_<=sizeLine;refine sE sizeLine_eq ?_;clear hlast hpl;lia) lv (fun h h' kk g r=>g) ?_
 have hR4:Sf [L] (fun h:Heap=>h.get? a=some (baO (fd++blkH (decide (o.length<=k+most)) part.length++part))):=hS0 _
 refine Xs.iteR (d:=decide (o.length<=k+most)) (Tr.post (Ist.cm Cm.eq lv (Ev.lenB (F.cx hR4) hz' (bv VZl PyProof.Rows.bootS_len) lv)) fun v h q=>⟨q.1.trans hlast,q.2⟩) (fun e=>?_) (fun e=>?_)
 ·rw [decide_eq_true_eq] at e
  have hfin:fd++blkH (decide (o.length<=k+most)) part.length++part=[120,1]++XZt most o:=by
   exact sF htt (sE (XZw (by rw [List.length_drop];lia)) (sE (decide_eq_true e) (sE hpart (sE (List.take_of_length_le (by rw [List.length_drop];lia)) (sE (List.append_assoc ..) rfl)))))
  rw [hfin] at hR4 ⊢
  refine Xs.retV (Ev.addB (by refine sE (show (YZp (XZn o)).length=4 from rfl) ?_;lia) (Ev.bytesA (ks:=[120,1]++XZt most o) (by refine sE sizeLine_eq ?_;exact tyN) (bv XZj PyProof.Rows.boot_bytes) lv fun h p=>p.2) (Ev.call (F.cx hR4) UZw (hA.mono (by decide)) (gv GZ9) (Evs.cons (Ev.call (F.cx hR4) (KZ3 ho (by lia)) (hA.mono (by decide)) (gv HZp) (Evs.cons lv Evs.nil) (fun _ _=>.inl rfl) (by kernel_rfl)) Evs.nil) (fun _ _=>trivial) (by kernel_rfl))) fun h p=>⟨p.1.keep,rfl⟩
 ·rw [decide_eq_false_iff_not] at e
  have hpm:part.length=most:=by clear hlast;lia
  refine Xs.turnW (z:=(k,fd,u)) (fun μ=>(k+most,fd++blkH (decide (o.length<=k+most)) part.length++part,μ)) (by exact Nat.sub_lt_sub_left (by lia) (by lia)) ⟨.inl (by show k+most<_;exact qeN),?_⟩ ⟨?_,fun _ h=>nomatch h⟩ fun h r=>r
  ·refine sF htt (sE (VZu (d:=o.drop k) (by rw [List.length_drop];lia) hm0) (sE (decide_eq_false e) (sE hpm (sE hpart (sE List.drop_drop (sE (List.append_assoc ..) (sE (List.append_assoc ..) ?_)))))))
   simp only [List.append_assoc]
  ·have e3:I ((k:Int)+part.length)=I ((k+most:Nat):Int):=by refine sE hpm ?_;push_cast;rfl
   refine sE e3 ?_
   repeat (first | exact allN | refine allL rfl ?_)
end
end
section
theorem XZ7 {l:List Int} {k j:Nat}:l.getD (k+j) 0=(l.drop k).getD j 0:=by
 exact sE List.getD_eq_getElem?_getD (sE List.getD_eq_getElem?_getD (sE List.getElem?_drop rfl))
theorem bitOr_zero (x:Int):Builtin.bitOr x 0=x:=by refine sE (bitOr_and ..) (sE (bitAnd_zero ..) ?_);lia
theorem hi_or:∀ n:Nat,n<256->Builtin.bitOr (255-(n:Int)) 65280=65535-n:=by decide +kernel
theorem DZd {last:Bool} {n:Nat} (h:n<256):blkH last n=[if last=true then 1 else 0,(n:Int),0,255-(n:Int),255]:=by
 unfold blkH
 have h1:Builtin.bitAnd n 255=n:=by refine sE (bitAnd_m8 ..) ?_;lia
 have h2:(n:Int).fdiv (2 ^ (8:Int).toNat)=0:=by
  refine sE (Int.fdiv_eq_ediv_of_nonneg _ (by decide)) ?_
  show (n:Int) / 256=0
  lia
 refine sE h1 (sE h2 ?_);rfl
section
variable {prog:Program} {w:World}
theorem DZt {o r:List Int} {k n:Nat} {last:Bool} (ho:InB o) (hz:o.length<=100000) (hn:n<256) (hd:o.drop k=blkH last n++r) (hr:n<=r.length) :
  Fn prog w (KK w.params) 161 3 [By o,I k] (fun _=>True) (fun v _ _=>v=I n):=by
 refine Fn.mk ["octets", "at"] [] (by exact rfl) (by kernel_rfl) (fun s args _ h=>ar2 args h fun _ _=>BindsTo.of_eq rfl) (fun h L A G _ hL hA F hC=>?_)
 have hR:Sf [L] (fun _=>True):=Sf.const
 have hWL:L∈[L]:=List.Mem.head _
 have hz':o.length<=16777216:=by exact tdN
 have hlen:k+5+n<=o.length:=by
  have:=congrArg List.length hd
  rw [List.length_drop,List.length_append,show (blkH last n).length=5 from rfl] at this
  lia
 rw [DZd hn] at hd
 have g:∀ j,o.getD (k+j) 0=([if last=true then 1 else 0,(n:Int),0,255-n,255]++r).getD j 0:=fun j=>by exact sE XZ7 (sE hd rfl)
 have g0:o.getD k 0=if last=true then 1 else 0:=g 0
 have g1:o.getD (k+1) 0=n:=g 1
 have g2:o.getD (k+2) 0=0:=g 2
 have g3:o.getD (k+3) 0=255-n:=g 3
 have g4:o.getD (k+4) 0=255:=g 4
 have it:∀ {i:Int} {j:Nat},i=j->i.toNat=j:=fun h=>by lia
 refine Xs.iteR (Ist.cm Cm.gt (Ev.add lv Ev.ci) (Ev.lenB (F.cx hR) hz' (bv VZl PyProof.Rows.bootS_len) lv)) (fun e=>?_) (fun e=>?_)
 ·rw [decide_eq_true_eq] at e;lia
 refine Xs.iteR (d:=false) (Tr.post (Ist.cm Cm.ne (Ev.shr (by decide) (Ev.itemB (k:=(k:Int)) ho hz' (by exact Int.natCast_nonneg _) (by lia) lv lv) Ev.ci) Ev.ci) fun v h q=>⟨q.1.trans ?_,q.2⟩) (fun e=>nomatch e) (fun _=>?_)
 ·refine sE (Int.toNat_natCast ..) (sE g0 ?_);cases last <;> decide
 have hsz:Builtin.bitOr (o.getD ((k:Int)+1).toNat 0) (o.getD ((k:Int)+2).toNat 0*2 ^ (8:Int).toNat)=n:=by
  exact sE (it (j:=k+1) (by rfl)) (sE (it (j:=k+2) (by rfl)) (sE g1 (sE g2 (sE (Int.zero_mul ..) (sE (bitOr_zero ..) rfl)))))
 have hlt:∀ i:Nat,(o.getD i 0).natAbs<2 ^ 64:=fun i=>by have:=ho.getD i;lia
 refine Xs.assignV F hC hWL hR (Ev.bor (Ev.itemB (k:=(k:Int)+1) ho hz' (by exact Int.natCast_nonneg _) (by lia) lv (Ev.add lv Ev.ci)) (Ev.shl (by decide) (by decide) (hlt _) (Ev.itemB (k:=(k:Int)+2) ho hz' (by exact Int.natCast_nonneg _) (by lia) lv (Ev.add lv Ev.ci)) Ev.ci)) ?_
 refine sE hsz ?_
 have hsm:Builtin.bitOr (o.getD ((k:Int)+3).toNat 0) (o.getD ((k:Int)+4).toNat 0*2 ^ (8:Int).toNat)=65535-n:=by
  refine sE (it (j:=k+3) (by rfl)) (sE (it (j:=k+4) (by rfl)) (sE g3 (sE g4 ?_)))
  exact hi_or n hn
 refine Xs.iteR (d:=(Builtin.bitOr (o.getD ((k:Int)+3).toNat 0) (o.getD ((k:Int)+4).toNat 0*2 ^ (8:Int).toNat) != 65535-(n:Int)) || (decide ((o.length:Int)<k+5+n) || false)) (Ist.bop (All.orC (Ist.cm Cm.ne (Ev.bor (Ev.itemB (k:=(k:Int)+3) ho hz' (by exact Int.natCast_nonneg _) (by lia) lv (Ev.add lv Ev.ci)) (Ev.shl (by decide) (by decide) (hlt _) (Ev.itemB (k:=(k:Int)+4) ho hz' (by exact Int.natCast_nonneg _) (by lia) lv (Ev.add lv Ev.ci)) Ev.ci)) (Ev.sub Ev.ci lv)) fun _=>All.orC (Ist.cm Cm.gt (Ev.add (Ev.add lv Ev.ci) lv) (Ev.lenB (F.cx hR) hz' (bv VZl PyProof.Rows.bootS_len) lv)) fun _=>All.orN)) (fun e=>?_) (fun e=>?_)
 ·rw [hsm] at e
  simp at e
  lia
 ·exact Xs.retV lv fun h p=>⟨p.1.keep,rfl⟩
end
end
section
theorem slice_at {o hd part tl:List Int} {k n:Nat} (h:o.drop k=hd++part++tl) (h5:hd.length=5) (hn:part.length=n):slZ o (some ((k:Int)+5)) (some ((k:Int)+5+n))=part/\o.drop (k+5+n)=tl:=by
 have e1:o.drop (k+5)=part++tl:=by
  have:=congrArg (List.drop 5) h
  rw [List.drop_drop,List.append_assoc] at this
  exact sE this (sF h5 (sE List.drop_left rfl))
 constructor
 ·exact sE (VZ5 (by exact Int.natCast_nonneg _) (by exact Int.natCast_nonneg _)) (sE (show ((k:Int)+5).toNat=k+5 by exact Int.toNat_natCast _) (sE (show ((k:Int)+5+n).toNat-(k+5)=n by lia) (sE e1 (sF hn (sE List.take_left rfl)))))
 ·have:=congrArg (List.drop n) e1
  rw [List.drop_drop,<- hn,List.drop_left] at this
  refine sF hn ?_;exact this
structure UnSt (o data:List Int) (most:Nat) (z:Nat×List Int×Bool×(Str->Option Value)):Prop where
 all:∃ rest,z.2.1++rest=data/\o.drop z.1=(if z.2.2.1=true then [] else XZt most rest)++YZp (XZn data)/\(z.2.2.1=true->rest=[])
 le:z.1<=o.length
theorem Off.plain {env:Env} {h₀:Heap} {a:Addr} (hc:env.cells=[]) (ha:a≠env.locals) (h0:h₀.get? a=none):Off env h₀ a:=fun μ=>Lo.sf (fun q=>ha (mS q).symm) (fun y c e=>by rw [hc] at e;cases e) (fun b hb=>by refine sE (mS hb) ?_;exact h0)
section
variable {prog:Program} {w:World}
theorem BZw {data:List Int} {most:Nat} (hb:InB data) (hz:data.length<=250) (hm0:0<most) (hm1:most<=65535) (hg:YZz (YZp (XZn data)) 0=XZn data) (ho:InB (YZo data most)) :
  Fn prog w (KK w.params) 168 5 [By (YZo data most)] (fun _=>True) (fun v _ _=>v=By data):=by
 refine Fn.mk ["octets"] [] (by exact rfl) (by kernel_rfl) (fun s args _ h=>ar1 args h fun _=>BindsTo.of_eq rfl) (fun h L A G _ hL hA F hC=>?_)
 have hR:Sf [L] (fun _=>True):=Sf.const
 have hWL:L∈[L]:=List.Mem.head _
 have hol:(YZo data most).length<=2000:=by
  unfold YZo
  refine sE List.length_append (sE List.length_append (sE (show (YZp (XZn data)).length=4 from rfl) ?_))
  have:=UZe hm0 _ data (Nat.le_refl _)
  show 2+_+4<=_;lia
 have hol2:6<=(YZo data most).length:=by
  unfold YZo
  refine sE List.length_append (sE List.length_append (sE (show (YZp (XZn data)).length=4 from rfl) ?_))
  show 6<=2+_+4;lia
 have h0:(YZo data most).getD 0 0=120:=rfl
 have h1:(YZo data most).getD 1 0=1:=rfl
 have hd2:(YZo data most).drop 2=XZt most data++YZp (XZn data):=rfl
 generalize hoe:YZo data most=o at *
 have hz':o.length<=16777216:=by exact tdN
 refine Xs.iteR (d:=decide ((o.length:Int)<2) || ((Builtin.bitAnd (o.getD (0:Int).toNat 0) 15 != 8) || (((256*o.getD (0:Int).toNat 0+o.getD (1:Int).toNat 0).fmod 31 != 0) || ((Builtin.bitAnd (o.getD (1:Int).toNat 0) 32 != 0) || false)))) (Ist.bop (All.orC (Ist.cm Cm.lt (Ev.lenB (F.cx hR) hz' (bv VZl PyProof.Rows.bootS_len) lv) Ev.ci) fun _=>All.orC (Ist.cm Cm.ne (Ev.band (Ev.itemB (k:=0) ho hz' (by decide) (by lia) lv Ev.ci) Ev.ci) Ev.ci) fun _=>All.orC (Ist.cm Cm.ne (Ev.mod (by decide) (Ev.add (Ev.mul ?_ Ev.ci (Ev.itemB (k:=0) ho hz' (by decide) (by lia) lv Ev.ci)) (Ev.itemB (k:=1) ho hz' (by decide) (by lia) lv Ev.ci)) Ev.ci) Ev.ci) fun _=>All.orC (Ist.cm Cm.ne (Ev.band (Ev.itemB (k:=1) ho hz' (by decide) (by lia) lv Ev.ci) Ev.ci) Ev.ci) fun _=>All.orN)) (fun e=>?_) (fun _=>?_)
 ·exact IntMulOk.of_left (by decide)
 ·rw [show (0:Int).toNat=0 from rfl,show (1:Int).toNat=1 from rfl,h0,h1] at e
  have:decide ((o.length:Int)<2)=false:=by rw [decide_eq_false_iff_not];lia
  rw [this] at e
  exact absurd e (by decide)
 refine Xs.swp (W:=[L]) (Y:=Addr) (ns:=["found", "at", "is_last"]) (V:=fun y h'=>(y≠L/\h.get? y=none)/\h'.get? y=some (baO [])) (cs:=fun y=>[.ref y,I 2,.bool false]) hA.handled (fun n hn=>?_) hR (fun y=>?_) ?_ (fun _=>rfl) (fun a=>?_)
 ·simp only [List.reverse_cons,List.reverse_nil,List.nil_append,List.singleton_append,List.cons_append,List.mem_cons,List.not_mem_nil,or_false] at hn
  rcases hn with rfl | rfl | rfl
  ·exact St1.locB F hC hWL
  ·exact St1.locB F hC hWL
  ·exact St1.locB F hC hWL
 ·exact fun h1 h2 kk q=>⟨q.1,Sf.at (by simp;exact q.1.1) _ _ kk q.2⟩
 ·refine Tr.post (EvP.tup1 (F.cx hR).grow (EvsP.cons (V2:=fun cs _=>cs=[I 2,.bool false]) (EvP.ba0 (F.cx hR) (bv XZk BF.boot_bytearray)) fun c=>?_) ?_ ?_) ?_
  ·exact (Evs.cons Ev.ci (Evs.cons Ev.cb Evs.nil))
  ·rintro cs h1 h2 g ⟨c,cs',rfl,⟨a,rfl,n,e⟩,rfl⟩
   exact ⟨_,_,rfl,⟨a,rfl,n,g _ _ e⟩,rfl⟩
  ·rintro cs h1 ⟨c,cs',rfl,_,rfl⟩
   show 3<=sizeLine;decide
  ·rintro v h1 ⟨⟨a,cs,e,n,t,c,cs',rfl,⟨b,rfl,nb,eb⟩,rfl⟩,p⟩
   exact ⟨⟨b,⟨⟨fun q=>nb.ne_loc q.symm,nb.old⟩,eb⟩,a,e,t⟩,p⟩
 refine Xs.fact2 (q:=a≠L/\h.get? a=none) (fun h p=>p.2.1.1) fun hab=>?_
 have hS0:∀ ks,Sf [L] (fun h:Heap=>h.get? a=some (baO ks)):=fun ks=>Sf.at (by simp;exact hab.1)
 refine Xs.while (σ:=Nat×List Int×Bool×(Str->Option Value)) (fun z=>o.length-z.1) (UnSt o data most) (fun z=>ovr (up (up (up (YZ9 ["octets"] ([By o]++List.map tk0 [])) "found" (.ref a)) "at" (I z.1)) "is_last" (.bool z.2.2.1)) ["size"] z.2.2.2) (fun z h=>h.get? a=some (baO z.2.1)) (fun z=>!z.2.2.1)
  (2,[],false,fun _=>none) ⟨⟨data,rfl,hd2,fun e=>nomatch e⟩,by lia⟩ (fun h p=>⟨p.1.cong ⟨by repeat (first | exact allN | refine allL rfl ?_),fun _ h=>nomatch h⟩,p.2.1.2⟩) ?_ ?_ ?_
 ·rintro ⟨k,fd,last,u⟩ _
  have hR2:Sf [L] (fun h:Heap=>h.get? a=some (baO fd)):=hS0 fd
  exact Ist.neg (Ist.val lv fun s Q E v hv q=>by refine sE (VZp hv) ?_;exact YZb (wpAny_truthy_bool (q s.toks)))
 ·rintro ⟨k,fd,last,u⟩ hI hlast
  have hR2:Sf [L] (fun h:Heap=>h.get? a=some (baO fd)):=hS0 fd
  obtain ⟨⟨rest,hfr,hod,hlr⟩,hkl⟩:=hI
  have hl:last=false:=by cases last <;> simp_all
  subst hl
  dsimp only at hfr hod hkl ⊢
  rw [if_neg (by decide)] at hod
  have hrl:rest.length<=250:=by have:=congrArg List.length hfr;rw [List.length_append] at this;lia
  have hrb:InB rest:=fun x hx=>hb x (hfr▸List.mem_append_right _ hx)
  obtain ⟨lb,part,rest',hblk,hpr,hpn,hlb,hpd,hlr'⟩:∃ (lb:Bool) (part rest':List Int),o.drop k=blkH lb part.length++part++((if lb=true then [] else XZt most rest')++YZp (XZn data))/\part++rest'=rest/\part.length<256/\InB part/\(lb=true->rest'=[])/\True:=by
   by_cases hm:rest.length<=most
   ·exact ⟨true,rest,[],by exact sE hod (sE (XZw hm) (sE (if_pos rfl) (sE (List.nil_append ..) rfl))),List.append_nil _,by lia,hrb,fun _=>rfl,trivial⟩
   ·refine ⟨false,rest.take most,rest.drop most,?_,List.take_append_drop ..,by refine sE List.length_take ?_;lia,hrb.take most,(fun e=>nomatch e),trivial⟩
    exact sE hod (sE (VZu (by exact qeN) hm0) (sE (if_neg (by decide)) (sE List.length_take (sE (Nat.min_eq_left (by lia)) (sE (List.append_assoc ..) rfl)))))
  obtain ⟨hsl,htl⟩:=slice_at (n:=part.length) hblk rfl rfl
  have hkb:k+5+part.length<=o.length:=by
   have:=congrArg List.length hblk
   rw [List.length_drop,List.length_append,List.length_append,show (blkH lb part.length).length=5 from rfl] at this
   lia
  have hg0:o.getD k 0=if lb=true then 1 else 0:=by
   have:=@XZ7 o k 0
   rw [Nat.add_zero,hblk,DZd hpn] at this
   exact this
  refine Xs.assignV F hC hWL hR2 (Ev.call (F.cx hR2) (DZt (o:=o) (k:=k) (n:=part.length) (last:=lb) (r:=part++((if lb=true then [] else XZt most rest')++YZp (XZn data))) ho (by lia) hpn (by exact sE hblk (sE (List.append_assoc ..) rfl)) (by refine sE List.length_append ?_;exact Nat.le_add_right _ _)) (hA.mono (by decide)) (gv HZo) (Evs.cons lv (Evs.cons lv Evs.nil)) (fun _ _=>trivial) (by kernel_rfl)) ?_
  refine Xs.assignV F hC hWL hR2 (c:=.bool lb) (Tr.post (Ev.cm Cm.eq (Ev.itemB (k:=(k:Int)) ho hz' (by exact Int.natCast_nonneg _) (by lia) lv lv) Ev.ci) fun v h q=>⟨q.1.trans ?_,q.2⟩) ?_
  ·refine sE (Int.toNat_natCast ..) (sE hg0 ?_);cases lb <;> rfl
  have hfdl:fd.length+part.length<=250:=by
   have:=congrArg List.length hfr
   have h2:=congrArg List.length hpr
   rw [List.length_append] at this h2;lia
  refine Xs.baExtB (a:=a) (ks:=fd) (ls:=part) (R':=fun h=>h.get? a=some (baO (fd++part))) F hC hR2 (Off.plain rfl hab.1 hab.2) (by rfl) (fun h r=>r) (by refine sE sizeLine_eq ?_;exact tdN) ?_ (fun h h' kk g r=>g) ?_
  ·exact Tr.post (Ev.sliceB (lo:=some ((k:Int)+5)) (hi:=some ((k:Int)+5+part.length)) (F.cx hR2) ho hz' lv (EvO.yes (Ev.add lv Ev.ci)) (EvO.yes (Ev.add (Ev.add lv Ev.ci) lv))) fun v h q=>⟨q.1.trans (by exact sE hsl rfl),q.2⟩
  have hR3:Sf [L] (fun h:Heap=>h.get? a=some (baO (fd++part))):=hS0 _
  refine Xs.assignV F hC hWL hR3 (Ev.add (Ev.add lv Ev.ci) lv) ?_
  refine Xs.turnW (z:=(k,fd,false,u)) (fun μ=>(k+5+part.length,fd++part,lb,μ)) (by exact Nat.sub_lt_sub_left (by lia) (by lia)) ⟨⟨rest',?_,htl,hpd⟩,hkb⟩ ⟨?_,fun _ h=>nomatch h⟩ fun h r=>r
  ·show fd++part++rest'=data
   exact sE (List.append_assoc ..) (sE hpr (sE hfr rfl))
  ·repeat (first | exact allN | refine allL rfl ?_)
 ·rintro ⟨k,fd,last,u⟩ hI hlast
  obtain ⟨⟨rest,hfr,hod,hlr⟩,hkl⟩:=hI
  have hl:last=true:=by cases last <;> simp_all
  subst hl
  have hre:=hlr rfl
  subst hre
  dsimp only at hfr hod hkl ⊢
  rw [List.append_nil] at hfr
  subst hfr
  rw [if_pos rfl,List.nil_append] at hod
  have hR2:Sf [L] (fun h:Heap=>h.get? a=some (baO fd)):=hS0 fd
  have hk4:k+4=o.length:=by
   have:=congrArg List.length hod
   rw [List.length_drop,show (YZp (XZn fd)).length=4 from rfl] at this
   lia
  have hget:YZz o k=XZn fd:=by
   refine sF hg ?_
   unfold YZz
   have e:∀ j:Nat,o.getD (k+j) 0=(YZp (XZn fd)).getD j 0:=fun j=>by exact sE XZ7 (sE hod rfl)
   have e0:=e 0
   rw [Nat.add_zero] at e0
   refine sE (show ((k:Int)).toNat=k by exact Int.toNat_natCast _) (sE (show ((k:Int)+1).toNat=k+1 by exact Int.toNat_natCast _) (sE (show ((k:Int)+2).toNat=k+2 by exact Int.toNat_natCast _) (sE (show ((k:Int)+3).toNat=k+3 by exact Int.toNat_natCast _) (sE e0 (sE (e 1) (sE (e 2) (sE (e 3) ?_)))))))
   rfl
  refine Xs.iteR (d:=((k:Int)+4 != o.length) || ((YZz o k != XZn fd) || false)) (Ist.bop (All.orC (Ist.cm Cm.ne (Ev.add lv Ev.ci) (Ev.lenB (F.cx hR2) hz' (bv VZl PyProof.Rows.bootS_len) lv)) fun _=>All.orC (Ist.cm Cm.ne (Ev.call (F.cx hR2) (UZx ho (by exact Int.natCast_nonneg _) (by lia) (by lia)) (hA.mono (by decide)) (gv KZa) (Evs.cons lv (Evs.cons lv Evs.nil)) (fun _ _=>trivial) (by kernel_rfl)) (Ev.call (F.cx hR2) (KZ3 (o:=fd) hb (by exact tdN)) (hA.mono (by decide)) (gv HZp) (Evs.cons lv Evs.nil) (fun h p=>.inr ⟨a,rfl,p.2⟩) (by kernel_rfl))) fun _=>All.orN)) (fun e=>?_) (fun _=>?_)
  ·rw [hget] at e
   simp at e
   lia
  ·exact Xs.retV (Ev.bytesA (ks:=fd) (by refine sE sizeLine_eq ?_;exact tdN) (bv XZj PyProof.Rows.boot_bytes) lv fun h p=>p.2) fun h p=>⟨p.1.keep,rfl⟩
end
end
section
noncomputable def minZ (a b:Int):Int:=if b<a then b else a
noncomputable def VZy (alpha p:Int):Int:=minZ 255 ((2*255*p+alpha).fdiv (2*alpha))
noncomputable def YZj (c:List Int):List Int:=if (c.getD 3 0==0)=true then [0,0,0,0] else [VZy (c.getD 3 0) (c.getD 0 0),VZy (c.getD 3 0) (c.getD 1 0),VZy (c.getD 3 0) (c.getD 2 0),c.getD 3 0]
section
variable {prog:Program} {w:World} {A:Around} {env:Env} {K:Frag} {h₀:Heap} {μ:Str->Option Value} {P:HP} {pos fp:Pos} {e1 e2:PySem.Expr} {x:Str} {c:Value} {R:HP} {W:List Addr} {a b:Int}
theorem Ev.min2 (C:Cx K env h₀ μ P) (hh:A.handled=none) (hf:Ev (model prog w) A env P (.Name "min" fp) (.builtin "min")) (h1:Ev (model prog w) A env P e1 (I a)) (h2:Ev (model prog w) A env P e2 (I b))
  (he2:autoParam (starEach [e1,e2] env=(false,eval e1 env)::starEach [e2] env) tR) (he3:autoParam (starEach [e2] env=(false,eval e2 env)::starEach [] env) tR) (hpl:autoParam ((backTo pos (starEach [e1,e2] env)).any (·.1)=false) tR):Ev (model prog w) A env P (.Call (.Name "min" fp) [e1,e2] [] pos) (I (minZ a b)) :=
 Ev.callB hf (Evs.cons h1 (Evs.cons h2 Evs.nil he3) he2) (fun s Q E vs p hv kk=>by
  refine J4 (tk2 hv) ?_;rintro v u rfl q1 q2
  refine tkI q1 fun t=>?_
  refine tkI q2 fun t2=>?_
  refine YZb (min_two_ints hh fun h' tk g=>kk _ h' tk ?_ g)
  unfold minZ
  split <;> rfl) C.grow rfl he2 hpl
theorem cv (d:Addr) (F:autoParam (Fx K env h₀) tA) (hR:autoParam (Sf W R) tA) (hd':autoParam (env.cells.lookup x=some d) tR) (hx:autoParam (env.kindOf x=some .cell) tR) (hv:autoParam (μ x=some c) tR) (hd:autoParam ((x==("__debug__" : Str))=false) tD):Ev (model prog w) A env (Pc env h₀ μ R) (.Name x pos) c:=Ev.cel (F.cx hR) d hd' hx hv hd
end
section
variable {prog:Program} {w:World}
theorem BZx {r g b al:Int} {c:Addr} (ha:0<=al) (ha2:al<=255) (hr:r.natAbs<=255) (hg:g.natAbs<=255) (hb:b.natAbs<=255) :
  Fn prog w (KK w.params) 178 3 [.ref c] (fun h=>TpAt h c ([r,g,b,al].map I)) (fun v h h'=>∃ t,v=.ref t/\h.get? t=none/\TpAt h' t ((YZj [r,g,b,al]).map I)):=by
 refine Fn.mkC ["colour"] [] (by exact rfl) (by kernel_rfl) (fun s args _ h=>ar1 args h fun _=>BindsTo.of_eq rfl) (fun h L A G hpre hL hA F ce=>?_) ?_ ?_ ?_
 ·have hR:Sf [L,L+1] (fun _=>True):=Sf.const
  refine Xs.unp (W:=[L,L+1]) (Y:=Unit) (V:=fun _ _=>True) (cs:=fun _=>[r,g,b,al].map I) hA.handled (allL ⟨⟨_,_,rfl⟩,St1.loc F ce.cl (by simp;exact .inl rfl)⟩ (allL ⟨⟨_,_,rfl⟩,St1.loc F ce.cl (by simp;exact .inl rfl)⟩ (allL ⟨⟨_,_,rfl⟩,St1.loc F ce.cl (by simp;exact .inl rfl)⟩ (allL ⟨⟨_,_,rfl⟩,St1.cel F ce (c:=L+1) rfl (by exact mm1)⟩ allN)))) hR (fun _=>Sf.const)
   (Tr.post lv fun v h' q=>⟨⟨(),trivial,c,q.1,hpre.grow q.2.1.keep⟩,q.2⟩) (fun _=>rfl) (fun _=>?_)
  have hR1:Sf [L,L+1] (fun _:Heap=>True/\True):=Sf.const
  refine Xs.iteR (Ist.cm Cm.eq (cv (L+1)) Ev.ci) (fun e=>?_) (fun e=>?_)
  ·refine Xs.ret (Ev.tup0 (F.cx hR1).grow (Evs.cons Ev.ci (Evs.cons Ev.ci (Evs.cons Ev.ci (Evs.cons Ev.ci Evs.nil)))) (by show 4<=sizeLine;decide)) fun v h' q p=>⟨p.1.keep,?_⟩
   refine J1 q fun t e1 n l=>?_;clear q
   refine ⟨t,e1,n.old,?_⟩
   unfold YZj
   refine sE (if_pos (show ([r,g,b,al].getD 3 0==0)=true from e)) ?_;exact l
  have ha0:al≠0:=by simpa using e
  have hs:YZj [r,g,b,al]=[VZy al r,VZy al g,VZy al b,al]:=by unfold YZj;refine sE (if_neg (by show ¬((al==0)=true);rw [e];decide)) ?_;rfl
  refine sE hs ?_
  refine Xs.compY (cl:=[("alpha", L+1)]) (xs:=[r,g,b].map I) (G:=fun y h=>TpAt h y ([r,g,b].map I)) F ⟨by rfl,fun _=>by rfl,by decide,by rfl,by decide,fun x c h=>?_,fun x c h=>?_⟩ ce.cl (Tr.post (Ev.tup0 (F.cx hR1).grow (Evs.cons lv (Evs.cons lv (Evs.cons lv Evs.nil))) (by show 3<=sizeLine;decide)) fun v h q=>⟨dr q.1,q.2⟩)
   (fun y h q p=>Src.tuple hA.handled q) (fun y h q p=>q.live) (by show 3<=sizeLine;decide) (fun W hW=>Sf.const) Sf.const (fun i=>I (VZy al ([r,g,b].getD i 0))) (fun i B C hn hF hi hB hB2=>?_) (fun D nD=>?_)
  ·have:=YZs h
   simp only [List.mem_cons,List.not_mem_nil,or_false,Prod.mk.injEq] at this
   obtain ⟨rfl,rfl⟩:=this
   rfl
  ·have:=YZs h
   simp only [List.mem_cons,List.not_mem_nil,or_false,Prod.mk.injEq] at this
   obtain ⟨rfl,rfl⟩:=this
   intro q;cases q
  ·rw [List.length_map] at hi
   refine sE (XZc hi) ?_
   refine Ev.min2 (hF.cx hB) hA.handled (bv g_min PyProof.Rows.boot_min) (zv KZw) (Ev.fdiv (i:=2*255*[r,g,b].getD i 0+al) (j:=2*al) (by lia) (by lia) (Ev.add (Ev.mul (IntMulOk.of_left (by decide)) (Ev.mul (IntMulOk.of_left (by decide)) Ev.ci (zv KZw)) lv) (cv (L+1))) (Ev.mul (IntMulOk.of_left (by decide)) Ev.ci (cv (L+1))))
  ·have hR2:Sf [L] (fun h:Heap=>LsAt h D ((List.range ([r,g,b].map I).length).map fun i=>I (VZy al ([r,g,b].getD i 0)))/\True/\True):=Sf.and (LsAt.sf (fun q=>nD.ne_loc (mS q).symm)) Sf.const
   refine Xs.ret (Ev.tup0 (cs:=[VZy al r,VZy al g,VZy al b,al].map I) (F.cx hR2).grow (Evs.cons (Ev.itemL (a:=D) (k:=0) lv Ev.ci (fun h p=>p.2.1) (by decide) (by show (_:Int)<3;decide) (by show 3<=16777216;decide) rfl) (Evs.cons (Ev.itemL (a:=D) (k:=1) lv Ev.ci (fun h p=>p.2.1) (by decide) (by show (_:Int)<3;decide) (by show 3<=16777216;decide) rfl) (Evs.cons (Ev.itemL (a:=D) (k:=2) lv Ev.ci (fun h p=>p.2.1) (by decide) (by show (_:Int)<3;decide) (by show 3<=16777216;decide) rfl) (Evs.cons (cv (L+1)) Evs.nil)))) (by show 4<=sizeLine;decide)) fun v h' q p=>⟨p.1.keep,?_⟩
   refine J1 q fun t e1 n l=>?_;clear q
   exact ⟨t,e1,n.old,l⟩
 ·exact fun L=>allL (.inl (by rfl)) allN
 ·intro L x c h
  have:=YZs (l:=[(("alpha" : Str),L+1)]) h
  simp only [List.mem_cons,List.not_mem_nil,or_false,Prod.mk.injEq] at this
  obtain ⟨rfl,rfl⟩:=this
  rfl
 ·intro L x y c h1 h2
  have h1:=YZs (l:=[(("alpha" : Str),L+1)]) h1
  have h2:=YZs (l:=[(("alpha" : Str),L+1)]) h2
  simp only [List.mem_cons,List.not_mem_nil,or_false,Prod.mk.injEq] at h1 h2
  exact sE h1.1 (sE h2.1 rfl)
end
end
section
noncomputable def XZv (c g:List Int) (i:Nat):Int:=minZ 255 (c.getD i 0+(2*g.getD i 0*(255-c.getD 3 0)+255).fdiv (2*255))
noncomputable def YZl (c g:List Int):List Int:=[XZv c g 0,XZv c g 1,XZv c g 2]
theorem lk1 {x n1:Str} {a1 c:Addr} (h:[(n1,a1)].lookup x=some c):x=n1/\c=a1:=by
 have:=YZs h
 simpa only [List.mem_cons,List.not_mem_nil,or_false,Prod.mk.injEq] using this
theorem lk3 {x n1 n2 n3:Str} {a1 a2 a3 c:Addr} (h:[(n1,a1),(n2,a2),(n3,a3)].lookup x=some c):(x=n1/\c=a1)∨(x=n2/\c=a2)∨(x=n3/\c=a3):=by
 have:=YZs h
 simpa only [List.mem_cons,List.not_mem_nil,or_false,Prod.mk.injEq] using this
theorem bits256':∀ k:Nat,k<256->Builtin.Int.intBits (k:Int)<=64:=by decide +kernel
theorem bits256 {x:Int} (h0:0<=x) (h1:x<256):Builtin.Int.intBits x<=64:=by
 obtain ⟨k,rfl⟩:=Int.eq_ofNat_of_zero_le h0
 exact bits256' k (by lia)
theorem addr_ne {L:Addr} {a b:Nat} {q:Prop} (h:a≠b) (e:(L:Nat)+a=L+b):q:=absurd (Nat.add_left_cancel e) h
section
variable {prog:Program} {w:World}
theorem HZx {c g:List Int} {ca ga:Addr} (hc:c.length=4) (hg:g.length=3) (hcb:InB c) (hgb:InB g) :
  Fn prog w (KK w.params) 183 3 [.ref ca,.ref ga] (fun h=>TpAt h ca (c.map I)/\TpAt h ga (g.map I)) (fun v h h'=>∃ t,v=.ref t/\h.get? t=none/\LsAt h' t ((YZl c g).map I)):=by
 refine Fn.mkC ["colour", "ground"] [] (by exact rfl) (by kernel_rfl) (fun s args _ h=>ar2 args h fun _ _=>BindsTo.of_eq rfl) (fun h L A G hpre hL hA F ce=>?_) ?_ ?_ ?_
 ·have hR:Sf [L+3] (fun _=>True):=Sf.const
  obtain ⟨hpc,hpg⟩:=hpre
  have hcl:(c.map I).length=4:=by exact sE (List.length_map ..) (sE hc rfl)
  have hgl:(g.map I).length=3:=by exact sE (List.length_map ..) (sE hg rfl)
  refine Xs.asg (W:=[L+3]) (V:=fun v _=>v=I (255-c.getD 3 0)) (St1.cel F ce (c:=L+3) rfl (by exact mm0)) hR (Ev.sub (zv KZw) (Ev.itemT (a:=ca) (k:=3) (cs:=c.map I) (cv (L+1)) Ev.ci (fun h p=>hpc.grow p.1.keep) (by decide) (by refine sE hcl ?_;decide) (by refine sE hcl ?_;decide) (XZc (by refine sE hc ?_;decide)))) (fun _=>Sf.const) (fun v=>?_)
  refine Xs.fact2 (q:=v=I (255-c.getD 3 0)) (fun h p=>p.2.1) fun e=>?_
  subst e
  have hR1:Sf [L] (fun _:Heap=>I (255-c.getD 3 0)=I (255-c.getD 3 0)/\True):=Sf.const
  refine Xs.ret (EvP.compY (cl:=_) (xs:=(List.range 3).map fun (i:Nat)=>I (i:Int)) (G:=fun y h=>RgAt h y 3) F ⟨by rfl,fun _=>by rfl,by decide,by rfl,by decide,fun x c h=>?_,fun x c h=>?_⟩ ce.cl (Tr.post (EvP.range (F.cx hR1) (bv XZi PyProof.Rows.boot_range) Ev.ci) fun v h q=>⟨dr q.1,q.2⟩)
   (fun y h q p=>Src.range hA.handled (by decide) q) (fun y h q p=>q.live) (by show 3<=sizeLine;decide) (fun W hW=>Sf.const) (fun i=>I (XZv c g i)) (fun i B C hn hF hi hB hB2=>?_)) (fun v h' q p=>⟨p.1.keep,?_⟩)
  ·rcases lk3 h with ⟨rfl,rfl⟩ | ⟨rfl,rfl⟩ | ⟨rfl,rfl⟩ <;> rfl
  ·rcases lk3 h with ⟨rfl,rfl⟩ | ⟨rfl,rfl⟩ | ⟨rfl,rfl⟩ <;> (intro q;cases q)
  ·simp only [List.length_map,List.length_range] at hi
   refine sE (rangeD hi) ?_
   have hci:(c.map I).getD ((i:Int)).toNat .none=I (c.getD i 0):=by refine sE (Int.toNat_natCast ..) ?_;exact XZc (by refine sE hc ?_;exact tyN)
   have hgi:(g.map I).getD ((i:Int)).toNat .none=I (g.getD i 0):=by refine sE (Int.toNat_natCast ..) ?_;exact XZc (by refine sE hg ?_;omega)
   exact Ev.min2 (hF.cx hB) hA.handled (bv g_min PyProof.Rows.boot_min) (zv KZw) (Ev.add (Ev.itemT (a:=ca) (k:=(i:Int)) (cs:=c.map I) (cv (L+1)) lv (fun h p=>hpc.grow p.1.keep) (by exact Int.natCast_nonneg _) (by refine sE hcl ?_;lia) (by refine sE hcl ?_;decide) hci)
    (Ev.fdiv (j:=2*255) (by decide) (by decide) (Ev.add (Ev.mul (IntMulOk.of_right (bits256 (by have:=hcb.getD 3;lia) (by have:=hcb.getD 3;lia))) (Ev.mul (IntMulOk.of_left (by decide)) Ev.ci (Ev.itemT (a:=ga) (k:=(i:Int)) (cs:=g.map I) (cv (L+2)) lv (fun h p=>hpg.grow p.1.keep) (by exact Int.natCast_nonneg _) (by refine sE hgl ?_;exact clN) (by refine sE hgl ?_;decide) hgi)) (cv (L+3))) (zv KZw)) (Ev.mul (IntMulOk.of_left (by decide)) Ev.ci (zv KZw))))
  ·refine J1 q fun D e n l=>?_;clear q
   exact ⟨D,e,n.old,l⟩
 ·exact fun L=>allL (.inr ⟨by rfl,by rfl⟩) (allL (.inr ⟨by rfl,by rfl⟩) allN)
 ·intro L x c h
  rcases lk3 (n1 := "rest") (n2 := "ground") (n3 := "colour") (a1:=L+3) (a2:=L+2) (a3:=L+1) h with ⟨rfl,rfl⟩ | ⟨rfl,rfl⟩ | ⟨rfl,rfl⟩ <;> rfl
 ·intro L x y c h1 h2
  rcases lk3 (n1 := "rest") (n2 := "ground") (n3 := "colour") (a1:=L+3) (a2:=L+2) (a3:=L+1) h1 with ⟨rfl,e1⟩ | ⟨rfl,e1⟩ | ⟨rfl,e1⟩ <;> rcases lk3 (n1 := "rest") (n2 := "ground") (n3 := "colour") (a1:=L+3) (a2:=L+2) (a3:=L+1) h2 with ⟨rfl,e2⟩ | ⟨rfl,e2⟩ | ⟨rfl,e2⟩ <;> first | rfl | (exfalso;rw [e1] at e2;exact addr_ne (by decide) e2)
end
end
section
noncomputable def nmZ (nm:List Nat):List Int:=nm.map fun (c:Nat)=>(c:Int)
noncomputable def VZ3 (nm:List Nat) (d:List Int):List Int:=(YZp d.length++(nmZ nm++d))++YZp (crcZ (nmZ nm++d))
theorem GZ4 {nm:List Nat} (h:Asc nm):InB (nmZ nm):=fun k hk=>by
 refine J0 (List.mem_map.mp hk) ?_;rintro c hc rfl
 have:=h c hc
 lia
theorem GZb (nm:List Nat) (d:List Int):(VZ3 nm d).length=nm.length+d.length+8:=by
 unfold VZ3 nmZ
 simp only [List.length_append,List.length_map,show ∀ n,(YZp n).length=4 from fun _=>rfl]
 lia
section
variable {prog:Program} {w:World}
theorem DZs {nm:List Nat} {d:List Int} (hn:Asc nm) (hnl:nm.length<=10) (hd:InB d) (hz:d.length<=50000) :
  Fn prog w (KK w.params) 212 6 [Sx (sO nm),By d] (fun _=>True) (fun v _ _=>v=By (VZ3 nm d)):=by
 refine Fn.mk ["name", "octets"] [] (by exact rfl) (by kernel_rfl) (fun s args _ h=>ar2 args h fun _ _=>BindsTo.of_eq rfl) (fun h L A G _ hL hA F hC=>?_)
 have hR:Sf [L] (fun _=>True):=Sf.const
 have hWL:L∈[L]:=List.Mem.head _
 have hml:(nmZ nm).length=nm.length:=by simp [nmZ]
 have htb:InB (nmZ nm++d):=(GZ4 hn).app hd
 refine Xs.assignV F hC hWL hR (Ev.addB (ks:=nmZ nm) (ls:=d) (by refine sE hml ?_;lia) (Ev.bytesL (ls:=nmZ nm) (F.cx hR) hA.handled (GZ4 hn) (by refine sE hml (sE sizeLine_eq ?_);exact tdN) (bv XZj PyProof.Rows.boot_bytes) (Tr.post (EvP.comp1 (xs:=nm.map fun c=>Sx (sO [c])) (cl:=[]) (c:=Sx (sO nm)) F
  ⟨by rfl,fun _=>by rfl,by decide,by rfl,by decide,fun _ _ h=>(nomatch h),fun _ _ h=>(nomatch h)⟩ hC lv (fun v h q p=>by
   refine tkS q fun t=>?_
   exact Src.str hA.handled hn) (fun _ _ e=>nomatch e) (by refine sE (List.length_map ..) (sE sizeLine_eq ?_);exact tdN) (fun W hW=>Sf.const) (fun i=>I ((nm.getD i 0:Nat):Int)) ?_) ?_)) lv) ?_
 ·intro i B C hn' hF hi hB hB2
  rw [List.length_map] at hi
  have e:(nm.map fun c=>Sx (sO [c])).getD i .none=Sx (sO [nm.getD i 0]):=by
   refine sE List.getD_eq_getElem?_getD (sE List.getElem?_map (sE (List.getElem?_eq_getElem hi) (sE List.getD_eq_getElem?_getD (sE (List.getElem?_eq_getElem hi) ?_))));rfl
  refine sE e ?_
  exact Ev.ord (hF.cx hB) (bv g_ord PyProof.Rows.boot_ord) lv
 ·intro v h q
  obtain ⟨⟨D,e,_,l⟩,p⟩:=q
  refine ⟨⟨D,e,?_⟩,p⟩
  rw [List.length_map] at l
  have e2:((List.range nm.length).map fun i=>I ((nm.getD i 0:Nat):Int))=(nmZ nm).map I:=by
   unfold nmZ
   refine sE List.map_map ?_
   apply List.ext_getElem
   ·simp
   ·intro i h1 h2
    simp only [List.length_map,List.length_range] at h1
    simp [h1]
  refine sF e2 ?_;exact l
 refine Xs.retV (Ev.addB ?_ (Ev.addB ?_ (Ev.call (F.cx hR) UZw (hA.mono (by decide)) (gv GZ9) (Evs.cons (Ev.lenB (ks:=d) (F.cx hR) (by exact tdN) (bv VZl PyProof.Rows.bootS_len) lv) Evs.nil) (fun _ _=>trivial) (by kernel_rfl)) lv) (Ev.call (F.cx hR) UZw (hA.mono (by decide)) (gv GZ9) (Evs.cons (Ev.call (F.cx hR) (NZn htb (by refine sE List.length_append (sE hml ?_);lia)) (hA.mono (by decide)) (gv g_crc32) (Evs.cons lv Evs.nil) (fun _ _=>trivial) (by kernel_rfl)) Evs.nil) (fun _ _=>trivial) (by kernel_rfl))) fun h p=>⟨p.1.keep,rfl⟩
 ·simp only [List.length_append,hml,show ∀ n,(YZp n).length=4 from fun _=>rfl];lia
 ·simp only [List.length_append,hml,show ∀ n,(YZp n).length=4 from fun _=>rfl];lia
end
end
section
noncomputable def VZg (c:List Int):Prop:=c.length=4/\InB c
noncomputable def RowAt (h:Heap) (a:Addr) (cols:List (List Int)):Prop:=∃ as:List Addr,LsAt h a (as.map Value.ref)/\as.length=cols.length/\∀ i,i<cols.length->TpAt h (as.getD i 0) ((cols.getD i []).map I)
theorem RowAt.grow {h h':Heap} {a:Addr} {cols:List (List Int)} (g:Grows h h') (x:RowAt h a cols):RowAt h' a cols:=J1 x fun as l e t=>⟨as,l.grow g,e,fun i hi=>(t i hi).grow g⟩
theorem four {c:List Int} (h:c.length=4):∃ r g b al,c=[r,g,b,al]:=ar4 c h fun r g b al=>⟨r,g,b,al,rfl⟩
theorem DZm {al p:Int} (h0:0<al) (hp:0<=p):0<=VZy al p/\VZy al p<256:=by
 unfold VZy minZ
 have h1:0<=(2*255*p+al).fdiv (2*al):=Int.fdiv_nonneg (by lia) (by lia)
 split <;> omega
set_option tactic.hygienic true in
theorem VZ0 {c:List Int} (h:VZg c):InB (YZj c):=by
 refine Jd (four h.1) ?_;rintro r g b al rfl
 have hb:=h.2
 have h1:=hb r (by exact mm0);have h2:=hb g (by exact mm1);have h3:=hb b (by exact mm2);have h4:=hb al (by exact mm3)
 unfold YZj
 split
 ·intro k hk;simp at hk;subst hk;decide
 ·rename_i hne
  have hal:al≠0:=by simpa using hne
  intro k hk
  simp only [List.mem_cons,List.not_mem_nil,or_false] at hk
  rcases hk with rfl | rfl | rfl | rfl
  ·exact DZm (by show 0<al;lia) h1.1
  ·exact DZm (by show 0<al;lia) h2.1
  ·exact DZm (by show 0<al;lia) h3.1
  ·exact h4
theorem XZ2 (c:List Int):(YZj c).length=4:=by unfold YZj;split <;> rfl
noncomputable def YZ3 (cols:List (List Int)):List Int:=(cols.map YZj).flatten
theorem XZ9 (cols:List (List Int)):(YZ3 cols).length=4*cols.length:=by
 induction cols with
 | nil=>rfl
 | cons c cs ih =>
  show (YZj c++YZ3 cs).length=_
  refine sE List.length_append (sE (XZ2 ..) (sE ih (sE List.length_cons ?_)));lia
theorem DZv {cols:List (List Int)} (h:∀ c∈cols,VZg c):InB (YZ3 cols):=fun k hk=>by
 refine J0 (List.mem_flatten.mp hk) fun l hl hk=>?_
 refine J0 (List.mem_map.mp hl) ?_;rintro c hc rfl
 exact VZ0 (h c hc) k hk
theorem flatZ_take {cols:List (List Int)} {i:Nat} (hi:i<cols.length):YZ3 (cols.take (i+1))=YZ3 (cols.take i)++YZj (cols.getD i []):=by
 refine sE List.take_add_one (sE (List.getElem?_eq_getElem hi) (sE List.getD_eq_getElem?_getD (sE (List.getElem?_eq_getElem hi) ?_)))
 unfold YZ3
 refine sE List.map_append (sE List.flatten_append ?_)
 simp
theorem XZh {as:List Addr} {i:Nat} (h:i<as.length):(as.map Value.ref).getD i .none=.ref (as.getD i 0):=by
 refine sE List.getD_eq_getElem?_getD (sE List.getElem?_map (sE (List.getElem?_eq_getElem h) (sE List.getD_eq_getElem?_getD (sE (List.getElem?_eq_getElem h) ?_))));rfl
section
variable {prog:Program} {w:World}
theorem HZv {c:List Int} {ca:Addr} (hc:VZg c):Fn prog w (KK w.params) 178 3 [.ref ca] (fun h=>TpAt h ca (c.map I)) (fun v h h'=>∃ t,v=.ref t/\h.get? t=none/\TpAt h' t ((YZj c).map I)):=by
 refine Jd (four hc.1) ?_;rintro r g b al rfl
 have hb:=hc.2
 have h1:=hb r (by exact mm0);have h2:=hb g (by exact mm1);have h3:=hb b (by exact mm2);have h4:=hb al (by exact mm3)
 exact BZx h4.1 (by lia) (by lia) (by lia) (by lia)
theorem KZd {cols:List (List Int)} {a:Addr} (hc:∀ c∈cols,VZg c) (hz:cols.length<=1000) :
  Fn prog w (KK w.params) 219 5 [.ref a] (fun h=>RowAt h a cols) (fun v _ _=>v=By (YZ3 cols)):=by
 refine Fn.mk ["row"] [] (by exact rfl) (by kernel_rfl) (fun s args _ h=>ar1 args h fun _=>BindsTo.of_eq rfl) (fun h L A G hpre hL hA F hC=>?_)
 have hR:Sf [L] (fun _=>True):=Sf.const
 refine J1 hpre fun as hl hal ht=>?_;clear hpre
 have haL:a≠L:=fun q=>by
  obtain ⟨o,ho⟩:=hl.live
  rw [q,hL] at ho;cases ho
 refine Xs.assignN F hC hR (EvP.ba0 (F.cx hR) (bv XZk BF.boot_bytearray)) (fun a n=>Sf.at (fun q=>n.ne_loc (mS q).symm)) (fun f n=>?_)
 have hfa:f≠a:=fun q=>by
  obtain ⟨o,ho⟩:=hl.live
  rw [<- q,n.old] at ho;cases ho
 have hS0:∀ ks,Sf [L] (fun h:Heap=>h.get? f=some (baO ks)):=fun ks=>Sf.at (fun q=>n.ne_loc (mS q).symm)
 have hR1:Sf [L] (fun h:Heap=>h.get? f=some (baO [])/\True):=Sf.and (hS0 _) Sf.const
 refine Xs.forN (σ:=Unit) (xs:=as.map Value.ref) (c:=.ref a) F hC [L,f] (fun h p=>allL p.1.loc_in (allL ⟨_,p.2.1⟩ allN)) lv (fun v h q p=>by refine sE (YZh q) ?_;exact Src.list hA.handled (hl.grow p.1.keep)) (fun b h e p=>by
   cases e
   exact ⟨(hl.grow p.1.keep).live,by simp;exact ⟨haL,Ne.symm hfa⟩,haL⟩) [] (fun i _=>up (YZ9 ["row"] ([.ref a]++List.map tk0 [])) "found" (.ref f)) (fun W i _ h=>h.get? f=some (baO (YZ3 (cols.take i))))
  (fun W hW i z=>Sf.at (New.of_live hW fun h p=>⟨_,p.2.1⟩)) (fun W i z=>hS0 _) (fun h h' g p=>⟨g _ _ p.1,trivial⟩) () (fun h p W hW=>p.1) ⟨_,by refine sE (YZv ..) ?_;exact ⟨fun _ _=>rfl,fun _ _=>rfl⟩⟩ ?_ ?_
 ·intro W hW i _ S u hi hS hlv hst
  rw [List.length_map] at hi
  refine sE (XZh hi) ?_
  have hR2:Sf [L] (fun h:Heap=>h.get? f=some (baO (YZ3 (cols.take i)))/\S h):=Sf.and (hS0 _) (hS.mono fun b hb=>by refine sE (mS hb) ?_;exact List.mem_cons_self ..)
  have hi':i<cols.length:=by lia
  have hci:VZg (cols.getD i []):=by refine sE List.getD_eq_getElem?_getD (sE (List.getElem?_eq_getElem hi') ?_);exact hc _ (List.getElem_mem hi')
  refine Xs.baExtL (a:=f) (ks:=YZ3 (cols.take i)) (ls:=YZj (cols.getD i [])) (R':=fun h=>h.get? f=some (baO (YZ3 (cols.take (i+1))))/\S h) F hC hA.handled hR2 n.off (by rfl) (fun h r=>r.1) (VZ0 hci) (by refine sE (XZ9 ..) (sE (XZ2 ..) (sE List.length_take (sE sizeLine_eq ?_)));lia)
   (Tr.post (EvP.callN (F.cx hR2) (HZv hci) (hA.mono (by decide)) (gv NZ8) (Evs.cons lv Evs.nil) (fun h p=>(ht i hi').grow p.1.keep) (by kernel_rfl)) fun v h q=>⟨?_,q.2⟩) (fun h h' kk g r=>⟨by refine sE (flatZ_take hi') ?_;exact g,hS _ _ (fun b o hb e=>kk b o (fun q=>hb (by simp [q])) e) r.2⟩) ?_
  ·refine J1 q.1 fun t e nt l=>?_
   refine ⟨t,e,fun z=>?_,.inr l⟩
   refine J0 nt fun h1 p1 e1=>?_;clear nt
   rw [z,p1.2.1] at e1;cases e1
  ·exact Xs.turnZ () ⟨by repeat (first | exact allN | refine allL rfl ?_),fun _ h=>nomatch h⟩ fun h r=>r
 ·intro W hW u _
  refine sE (List.length_map ..) (sE (List.take_of_length_le (by lia)) ?_)
  have hR2:=hS0 (YZ3 cols)
  exact Xs.retV (Ev.bytesA (ks:=YZ3 cols) (by refine sE (XZ9 ..) (sE sizeLine_eq ?_);lia) (bv XZj PyProof.Rows.boot_bytes) lv fun h p=>p.2) fun h p=>⟨p.1.keep,rfl⟩
end
end
section
noncomputable def RowsAt (h:Heap) (a:Addr) (rs:List (List (List Int))):Prop:=∃ as:List Addr,LsAt h a (as.map Value.ref)/\as.length=rs.length/\∀ i,i<rs.length->RowAt h (as.getD i 0) (rs.getD i [])
theorem RowsAt.grow {h h':Heap} {a:Addr} {rs:List (List (List Int))} (g:Grows h h') (x:RowsAt h a rs):RowsAt h' a rs:=J1 x fun as l e t=>⟨as,l.grow g,e,fun i hi=>(t i hi).grow g⟩
noncomputable def kV:Option Int->Value
 | none=>.none
 | some k=>I k
noncomputable def XZu (wd:Nat) (rs:List (List (List Int))):Nat->List Int
 | 0=>List.replicate (4*wd) 0
 | i+1=>YZ3 (rs.getD i [])
noncomputable def frN (wd:Nat) (rs:List (List (List Int))) (kf:Nat->Int):Nat->List Int
 | 0=>[]
 | i+1=>frN wd rs kf i++(kf i::YZi (kf i) (YZ3 (rs.getD i [])) (XZu wd rs i))
theorem HZr {wd:Nat} {rs:List (List (List Int))} {kf kg:Nat->Int}:∀ {n:Nat},(∀ i,i<n->kf i=kg i)->frN wd rs kf n=frN wd rs kg n
 | 0,_=>rfl
 | n+1,h=>by rewrite [frN,frN];exact sE (HZr fun i hi=>h i (by lia)) (sE (h n (by lia)) rfl)
theorem NZg {wd:Nat} {rs:List (List (List Int))} (h:∀ r∈rs,∀ c∈r,VZg c):∀ i,i<=rs.length->InB (XZu wd rs i)
 | 0,_=>fun k hk=>by refine sE (List.eq_of_mem_replicate hk) ?_;decide
 | i+1,hi=>by
  have hi':i<rs.length:=by assumption
  show InB (YZ3 (rs.getD i []))
  refine sE List.getD_eq_getElem?_getD (sE (List.getElem?_eq_getElem hi') ?_)
  exact DZv (h _ (List.getElem_mem hi'))
theorem HZe {wd:Nat} {rs:List (List (List Int))} (h:∀ r∈rs,r.length=wd):∀ i,i<=rs.length->(XZu wd rs i).length=4*wd
 | 0,_=>List.length_replicate ..
 | i+1,hi=>by
  have hi':i<rs.length:=by assumption
  show (YZ3 (rs.getD i [])).length=_
  exact sE (XZ9 ..) (sE List.getD_eq_getElem?_getD (sE (List.getElem?_eq_getElem hi') (sE Option.getD_some (sE (h _ (List.getElem_mem hi')) rfl))))
theorem UZn {wd:Nat} {rs:List (List (List Int))} {kf:Nat->Int} (h:∀ r∈rs,r.length=wd):∀ n,n<=rs.length->(frN wd rs kf n).length=n*(1+4*wd)
 | 0,_=>by simp [frN]
 | n+1,hn=>by
  have hn':n<rs.length:=by assumption
  rewrite [frN];refine sE List.length_append (sE (UZn h n (by exact llN)) (sE List.length_cons (sE (YZt ..) (sE (XZ9 ..) (sE List.getD_eq_getElem?_getD (sE (List.getElem?_eq_getElem hn') (sE Option.getD_some (sE (h _ (List.getElem_mem hn')) ?_))))))));rewrite [Nat.add_mul n 1];refine sE (Nat.one_mul ..) ?_;lia
section
variable {prog:Program} {w:World} {A:Around} {env:Env} {h₀:Heap} {μ:Str->Option Value} {R:HP} {W:List Addr} {pos:Pos} {e:PySem.Expr} {es:List PySem.Expr} {V1:Value->HP} {V2:List Value->HP}
theorem EvsP.cons2 (hR:Sf W R) (hV:∀ c,Sf [] (V1 c)) (he:EvP (model prog w) A env (Pc env h₀ μ R) e V1) (hs:∀ c,Sf [] (fun h=>V1 c h/\R h)->EvsP (model prog w) A env (Pc env h₀ μ (fun h=>V1 c h/\R h)) pos es (V2 ))
  (he2:autoParam (starEach (e::es) env=(false,eval e env)::starEach es env) tR):EvsP (model prog w) A env (Pc env h₀ μ R) pos (e::es) (fun vs h=>∃ c cs,vs=c::cs/\V1 c h/\V2 cs h) :=
 EvsP.cons he (fun c=>hs c (Sf.and (hV c) (hR.mono fun b hb=>nomatch hb))) he2
end
section
variable {prog:Program} {w:World} {A:Around} {env:Env} {h₀:Heap} {P:HP} {pos:Pos} {e:PySem.Expr} {b1 b2 rest:List Stmt} {N:HP} {Rt X:Value->HP} {d:Bool}
theorem Xs.iteZ {τ:Type} (Iv:τ->Prop) (μf:τ->Str->Option Value) (Rf:τ->HP) (ht:Ist (model prog w) A env P e d) (h1:d=true->Xs (model prog w) A env P b1 (fun h=>∃ x,Iv x/\Pc env h₀ (μf x) (Rf x) h) Rt X) (h2:d=false->Xs (model prog w) A env P b2 (fun h=>∃ x,Iv x/\Pc env h₀ (μf x) (Rf x) h) Rt X)
  (hr:∀ x,Iv x->Xs (model prog w) A env (Pc env h₀ (μf x) (Rf x)) rest N Rt X):Xs (model prog w) A env P (.If e b1 b2 pos::rest) N Rt X :=
 Xs.ite ht h1 h2 (Xs.ex fun x=>Xs.fact fun hx=>hr x hx)
end
section
variable {prog:Program} {w:World}
theorem Fn.post {K:Frag} {f:Addr} {n:Nat} {vs:List Value} {Pre:HP} {Post Post':Value->Heap->Heap->Prop} (hF:Fn prog w K f n vs Pre Post) (h:∀ v h h',Post v h h'->Post' v h h'):Fn prog w K f n vs Pre Post' :=
 fun A s R args room G pre ha k=>hF A s R args room G pre ha fun v h' tk g q=>k v h' tk g (h _ _ _ q)
theorem Cm.isN {A:Around}:Cm prog w A .Is .none .none true:=fun s Q E v u ha hb k=>by
 refine sE (UZj ha) (sE (UZj hb) ?_)
 exact YZb (wpAny_is_self rfl (k _ s.toks rfl))
theorem Cm.isI {A:Around} {i:Int}:Cm prog w A .Is (I i) .none false:=fun s Q E v u ha hb k=>by
 refine tkI ha fun t=>?_
 refine sE (UZj hb) ?_
 exact YZb (is_int_none (k _ s.toks rfl))
theorem GZp {wd:Nat} {rs:List (List (List Int))} {a:Addr} {kd:Option Int} (hc:∀ r∈rs,∀ c∈r,VZg c) (hw:∀ r∈rs,r.length=wd) (hwz:wd<=10) (hrz:rs.length<=10) (hk:∀ k∈kd,0<=k/\k<=4) :
  Fn prog w (KK w.params) 227 7 [.ref a,I wd,kV kd] (fun h=>RowsAt h a rs) (fun v _ _=>∃ kf:Nat->Int,(∀ i,0<=kf i/\kf i<=4)/\v=By (frN wd rs kf rs.length)):=by
 refine Fn.mk ["rows", "width", "kind"] [] (by exact rfl) (by kernel_rfl) (fun s args G h=>ar3 args h fun _ _ _=>kp_binds G.inK (fun S=>rfl)) (fun h L A G hpre hL hA F hC=>?_)
 have hR:Sf [L] (fun _=>True):=Sf.const
 have hWL:L∈[L]:=List.Mem.head _
 refine J1 hpre fun as hl hal ht=>?_;clear hpre
 have haL:a≠L:=fun q=>by
  obtain ⟨o,ho⟩:=hl.live
  rw [q,hL] at ho;cases ho
 refine Xs.swp (W:=[L]) (Y:=Addr) (ns:=["found", "above"]) (V:=fun y h'=>(y≠L/\h.get? y=none)/\h'.get? y=some (baO [])) (cs:=fun y=>[.ref y,By (XZu wd rs 0)]) hA.handled (fun n hn=>?_) hR (fun y=>?_) ?_ (fun _=>rfl) (fun f=>?_)
 ·simp only [List.reverse_cons,List.reverse_nil,List.nil_append,List.singleton_append,List.cons_append,List.mem_cons,List.not_mem_nil,or_false] at hn
  rcases hn with rfl | rfl
  ·exact St1.locB F hC hWL
  ·exact St1.locB F hC hWL
 ·exact fun h1 h2 kk q=>⟨q.1,Sf.at (by simp;exact q.1.1) _ _ kk q.2⟩
 ·refine Tr.post (EvP.tup1 (F.cx hR).grow (EvsP.cons2 (V2:=fun cs _=>cs=[By (XZu wd rs 0)]) hR (fun c h h' k q=>?_) (EvP.ba0 (F.cx hR) (bv XZk BF.boot_bytearray)) fun c hRc=>?_) ?_ ?_) ?_
  ·refine J1 q fun a e n g=>?_;clear q
   exact ⟨a,e,n,k _ _ List.not_mem_nil g⟩
  ·exact Evs.cons (Ev.bytesZ (k:=4*(wd:Int)) (by exact Int.natCast_nonneg _) (by lia) (bv XZj PyProof.Rows.boot_bytes) (Ev.mul (IntMulOk.of_left (by decide)) (zv VZz) lv)) Evs.nil
  ·rintro cs h1 h2 g ⟨c,cs',rfl,⟨a,rfl,n,e⟩,rfl⟩
   exact ⟨_,_,rfl,⟨a,rfl,n,g _ _ e⟩,rfl⟩
  ·rintro cs h1 ⟨c,cs',rfl,_,rfl⟩
   show 2<=sizeLine;decide
  ·rintro v h1 ⟨⟨a,cs,e,n,t,c,cs',rfl,⟨b,rfl,nb,eb⟩,rfl⟩,p⟩
   exact ⟨⟨b,⟨⟨fun q=>nb.ne_loc q.symm,nb.old⟩,eb⟩,a,e,t⟩,p⟩
 refine Xs.fact2 (q:=f≠L/\h.get? f=none) (fun h p=>p.2.1.1) fun hf=>?_
 have hfa:f≠a:=fun q=>by
  obtain ⟨o,ho⟩:=hl.live
  rw [<- q,hf.2] at ho;cases ho
 have hS0:∀ ks,Sf [L] (fun h:Heap=>h.get? f=some (baO ks)):=fun ks=>Sf.at (by simp;exact hf.1)
 have hR1:Sf [L] (fun h':Heap=>((f≠L/\h.get? f=none)/\h'.get? f=some (baO []))/\True):=Sf.and (Sf.and Sf.const (hS0 _)) Sf.const
 have hrow:∀ i,i<rs.length->(∀ c∈rs.getD i [],VZg c)/\(rs.getD i []).length=wd:=fun i hi=>by
  refine sE List.getD_eq_getElem?_getD (sE (List.getElem?_eq_getElem hi) ?_)
  exact ⟨hc _ (List.getElem_mem hi),hw _ (List.getElem_mem hi)⟩
 refine Xs.forN (σ:={ kf:Nat->Int // ∀ i,0<=kf i/\kf i<=4 }) (xs:=as.map Value.ref) (c:=.ref a) F hC [L,f] (fun h p=>allL p.1.loc_in (allL ⟨_,p.2.1.2⟩ allN)) lv (fun v h q p=>by refine sE (YZh q) ?_;exact Src.list hA.handled (hl.grow p.1.keep)) (fun b h e p=>by
   cases e
   exact ⟨(hl.grow p.1.keep).live,by simp;exact ⟨haL,Ne.symm hfa⟩,haL⟩) ["octets", "told"] (fun i _=>up (up (YZ9 ["rows", "width", "kind"] ([.ref a,I wd,kV kd]++List.map tk0 [])) "above" (By (XZu wd rs i))) "found" (.ref f)) (fun W i z h=>h.get? f=some (baO (frN wd rs z.1 i)))
  (fun W hW i z=>Sf.at (New.of_live hW fun h p=>⟨_,p.2.1.2⟩)) (fun W i z=>hS0 _) (fun h h' g p=>⟨⟨p.1.1,g _ _ p.1.2⟩,trivial⟩) ⟨fun _=>0,fun _=>⟨Int.le_refl 0,show (0:Int)<=4 by decide⟩⟩ (fun h p W hW=>p.1.2) ⟨_,by refine sE (YZv ..) ?_;exact ⟨fun _ _=>rfl,fun _ _=>rfl⟩⟩ ?_ ?_
 ·rintro W hW i ⟨kf,hkf⟩ S u hi hS hlv hst
  rw [List.length_map] at hi
  refine sE (XZh hi) ?_
  have hi':i<rs.length:=by lia
  obtain ⟨hci,hwi⟩:=hrow i hi'
  have hfb:=DZv hci
  have hfl:(YZ3 (rs.getD i [])).length=4*wd:=by exact sE (XZ9 ..) (sE hwi rfl)
  have hpb:=NZg (wd:=wd) hc i (by exact llN)
  have hpl:=HZe (wd:=wd) hw i (by exact llN)
  have hfrl:=UZn (kf:=kf) hw i (by exact llN)
  have hfrz:i*(1+4*wd)<=10*41:=Nat.mul_le_mul (by lia) (by lia)
  have hR2:Sf [L] (fun h:Heap=>h.get? f=some (baO (frN wd rs kf i))/\S h):=Sf.and (hS0 _) (hS.mono fun b hb=>by refine sE (mS hb) ?_;exact List.mem_cons_self ..)
  refine Xs.assignV F hC hWL hR2 (Ev.call (F.cx hR2) (KZd hci (by lia)) (hA.mono (by decide)) (gv KZr) (Evs.cons lv Evs.nil) (fun h p=>(ht i hi').grow p.1.keep) (by kernel_rfl)) ?_
  have hai:(YZ3 (rs.getD i [])).length<=(XZu wd rs i).length:=by lia
  refine Xs.iteZ (τ:=Addr×Int) (h₀:=h) (d:=kd.isNone) (fun x=>(0<=x.2/\x.2<=4)/\x.1≠L/\x.1≠f) (fun x=>up (up (up (ovr (up (up (YZ9 ["rows", "width", "kind"] ([.ref a,I wd,kV kd]++List.map tk0 [])) "above" (By (XZu wd rs i))) "found" (.ref f)) ["octets", "told"] u) "row" (.ref (as.getD i 0))) "octets" (By (YZ3 (rs.getD i [])))) "told" (.ref x.1)) (fun x h=>TpAt h x.1 [I x.2,By (YZi x.2 (YZ3 (rs.getD i [])) (XZu wd rs i))]/\h.get? f=some (baO (frN wd rs kf i))/\S h) ?_ (fun e=>?_) (fun e=>?_) ?_
  ·cases kd with
   | none=>exact Ist.cm Cm.isN lv Ev.cn
   | some k=>exact Ist.cm Cm.isI lv Ev.cn
  ·refine Xs.assignN F hC hR2 (EvP.callN (G:=fun t h=>∃ k,(0<=k/\k<=4)/\TpAt h t [I k,By (YZi k (YZ3 (rs.getD i [])) (XZu wd rs i))]) (F.cx hR2) (Fn.post (fn_best hfb hpb hai (by lia)) fun v h h' q=>let ⟨a,k,e,k0,k4,n,t⟩:=q;⟨a,e,n,k,⟨k0,k4⟩,t⟩) (hA.mono (by decide)) (gv DZo) (Evs.cons lv (Evs.cons lv (Evs.cons (zv VZz) Evs.nil))) (fun _ _=>trivial) (by kernel_rfl)) (fun t nt=>fun h1 h2 kk q=>J0 q fun k hk l=>⟨k,hk,TpAt.sf (fun q=>nt.ne_loc (mS q).symm) _ _ kk l⟩) (fun t nt=>?_)
   refine Xs.nil fun h p=>?_
   refine Ja p fun lo z01 r s=>?_;clear p;refine J0 z01 fun k hk l=>?_;clear z01
   refine ⟨(t,k),⟨hk,fun q=>nt.ne_loc q.symm,fun q=>?_⟩,lo,l,r,s⟩
   refine J0 nt fun h1 p1 e1=>?_;clear nt
   rw [show t=f from q,p1.2.1] at e1;cases e1
  ·obtain ⟨k,rfl⟩:∃ k,kd=some k:=by cases kd with
    | none=>cases e
    | some k=>exact ⟨k,rfl⟩
   obtain ⟨k0,k4⟩:=hk k rfl
   refine Xs.assignN F hC hR2 (Ev.tup0 (F.cx hR2).grow (Evs.cons (c:=I k) lv (Evs.cons (Ev.call (F.cx hR2) (UZo k0 k4 hfb hpb hai (by lia)) (hA.mono (by decide)) (gv UZ9) (Evs.cons (c:=I k) lv (Evs.cons lv (Evs.cons lv (Evs.cons (zv VZz) Evs.nil)))) (fun _ _=>trivial) (by kernel_rfl)) Evs.nil)) (by show 2<=sizeLine;decide)) (fun t nt=>TpAt.sf (fun q=>nt.ne_loc (mS q).symm)) (fun t nt=>?_)
   refine Xs.nil fun h p=>?_
   refine Ja p fun lo l r s=>?_;clear p
   refine ⟨(t,k),⟨⟨k0,k4⟩,fun q=>nt.ne_loc q.symm,fun q=>?_⟩,lo,l,r,s⟩
   refine J0 nt fun h1 p1 e1=>?_;clear nt
   rw [show t=f from q,p1.2.1] at e1;cases e1
  rintro ⟨t,k⟩ ⟨⟨k0,k4⟩,htL,htf⟩
  dsimp only at k0 k4 htL htf ⊢
  have hS:∀ W',(∀ b∈W',b∈[L,f])->Sf W' S:=fun W' h=>hS.mono h
  have hST:∀ cs,Sf [L] (fun h:Heap=>TpAt h t cs):=fun cs=>TpAt.sf (by simp;exact htL)
  have hR3:Sf [L] (fun h:Heap=>TpAt h t [I k,By (YZi k (YZ3 (rs.getD i [])) (XZu wd rs i))]/\h.get? f=some (baO (frN wd rs kf i))/\S h):=Sf.and (hST _) (Sf.and (hS0 _) (hS _ (by simp)))
  refine Xs.baApp (a:=f) (ks:=frN wd rs kf i) (k:=k) (R':=fun h=>TpAt h t [I k,By (YZi k (YZ3 (rs.getD i [])) (XZu wd rs i))]/\h.get? f=some (baO (frN wd rs kf i++[k]))/\S h) F hC hR3 (Off.plain rfl hf.1 hf.2) (by rfl) (fun h r=>r.2.1) ⟨k0,by exact tzI⟩ (by refine sE hfrl (sE sizeLine_eq ?_);exact tzN) (Ev.itemT (a:=t) (k:=0) lv Ev.ci (fun h p=>p.2.1) (by decide) (by show (0:Int)<2;decide) (by show 2<=16777216;decide) rfl) (fun h h' sb g r=>?_) ?_
  ·have kk:∀ b o,b∉[f]->h.get? b=some o->h'.get? b=some o:=fun b o hb e=>(sb.2 b fun q=>hb (by simp [q])).trans e
   exact ⟨TpAt.sf (by simp;exact htf) _ _ kk r.1,g,hS [f] (by simp) _ _ kk r.2.2⟩
  have hR4:Sf [L] (fun h:Heap=>TpAt h t [I k,By (YZi k (YZ3 (rs.getD i [])) (XZu wd rs i))]/\h.get? f=some (baO (frN wd rs kf i++[k]))/\S h):=Sf.and (hST _) (Sf.and (hS0 _) (hS _ (by simp)))
  refine Xs.baExtB (a:=f) (ks:=frN wd rs kf i++[k]) (ls:=YZi k (YZ3 (rs.getD i [])) (XZu wd rs i)) (R':=fun h=>h.get? f=some (baO (frN wd rs (fun j=>if j=i then k else kf j) (i+1)))/\S h) F hC hR4 (Off.plain rfl hf.1 hf.2) (by rfl) (fun h r=>r.2.1) (by refine sE List.length_append (sE hfrl (sE (YZt ..) (sE hfl (sE sizeLine_eq ?_))));show _+1+_<=_;lia) (Ev.itemT (a:=t) (k:=1) lv Ev.ci (fun h p=>p.2.1) (by decide) (by show (1:Int)<2;decide) (by show 2<=16777216;decide) rfl) (fun h h' sb g r=>?_) ?_
  ·have kk:∀ b o,b∉[f]->h.get? b=some o->h'.get? b=some o:=fun b o hb e=>(sb.2 b fun q=>hb (by simp [q])).trans e
   refine ⟨?_,hS [f] (by simp) _ _ kk r.2.2⟩
   refine sE g ?_;rewrite [frN];refine sE (HZr (kg:=kf) (n:=i) fun j hj=>if_neg (by lia)) (sE (if_pos rfl) (sE (List.append_assoc ..) ?_));rfl
  have hR5:Sf [L] (fun h:Heap=>h.get? f=some (baO (frN wd rs (fun j=>if j=i then k else kf j) (i+1)))/\S h):=Sf.and (hS0 _) (hS _ (by simp))
  refine Xs.assignV F hC hWL hR5 lv ?_
  refine Xs.turnZ ⟨fun j=>if j=i then k else kf j,fun j=>?_⟩ ⟨by repeat (first | exact allN | refine allL rfl ?_),fun _ h=>nomatch h⟩ fun h r=>r
  show 0<=(if j=i then k else kf j)/\(if j=i then k else kf j)<=4
  by_cases hj:j=i
  ·refine sE (if_pos hj) ?_;exact ⟨k0,k4⟩
  ·refine sE (if_neg hj) ?_;exact hkf j
 ·rintro W hW u ⟨kf,hkf⟩
  refine sE (List.length_map ..) (sE hal ?_)
  have hR2:=hS0 (frN wd rs kf rs.length)
  have hfrl:=UZn (kf:=kf) hw rs.length (Nat.le_refl _)
  have hfrz:rs.length*(1+4*wd)<=10*41:=Nat.mul_le_mul (by omega) (by lia)
  exact Xs.retV (Ev.bytesA (ks:=frN wd rs kf rs.length) (by refine sE hfrl (sE sizeLine_eq ?_);exact tdN) (bv XZj PyProof.Rows.boot_bytes) lv fun h p=>p.2) fun h p=>⟨p.1.keep,kf,hkf,rfl⟩
end
end
section
noncomputable def ObAt (C:Addr) (h:Heap) (x:Addr) (own:List (Str×Value)) (no:List Str):Prop :=
 ∃ dx es n,h.get? x=some (instObj C dx)/\h.get? dx=some (dictOf es n)/\(∀ p∈own,∃ v,getL p.1 es=some (some v)/\tk0 v=p.2)/\∀ q∈no,getL q es=some none
theorem ObAt.grow {C:Addr} {h h':Heap} {x:Addr} {own:List (Str×Value)} {no:List Str} (g:Grows h h') (o:ObAt C h x own no):ObAt C h' x own no:=Jc o fun dx es n a b r=>⟨dx,es,n,g _ _ a,g _ _ b,r⟩
section
variable {prog:Program} {w:World} {A:Around} {env:Env} {P:HP} {pos apos:Pos} {value:PySem.Expr} {K:Frag} {h₀:Heap} {μ:Str->Option Value} {x C:Addr} {own:List (Str×Value)} {no:List Str} {name:Str} {c:Value} {at0:Option Value}
theorem Ev.attr (Cx':Cx K env h₀ μ P) (hv:Ev (model prog w) A env P value (.ref x)) (ho:∀ h,P h->ObAt C h x own no) (hm:(name,c)∈own) (hnb:∀ v,tk0 v=c->handedIn v=true)
  (hg:plainGet K C name=true) (hd:hasDictIn K C=true) (ha:findIn K (.ref C) name=some at0) (hn:noGet K at0=true)
  (hbase:autoParam (attributeBase value name env (eval value env)=eval value env) tR) (ht:autoParam (∀ o r,letTemporaryGo value o r=pure ()) tY) :
  Ev (model prog w) A env P (.Attribute value name pos) c:=fun s Q E p k=>by
 have e:eval (.Attribute value name pos) env=(do
  let o <- attributeBase value name env (eval value env)
  standAt pos.atName
  let r <- holding [o] (getAttr o name true)
  letTemporaryGo value o r
  Pure.pure r):=rfl
 refine sE e (sE hbase ?_)
 refine YZa (hv s _ E p fun o h1 tk1 q=>?_)
 refine sE (YZh q.1) ?_
 refine Ji (ho _ q.2) fun dx es n hx hdx hown _=>?_
 refine J0 (hown _ hm) fun v hl hvc=>?_
 have I:InstAt h1 x (instObj C dx) C (some (dictOf es n)):=⟨hx,rfl,rfl,hdx⟩
 refine YZa (YZd (YZa (YZe (YZb (get_value (s:={ s with heap:=h1,toks:=tk1 }) (Cx'.gdh q.2).inK I (plainGet_of hg).1 (findObj_own hd ha hn hl) (hnb v hvc) ?_)))))
 refine sE (ht ..) ?_
 exact YZa (YZc (YZc (k v h1 _ ⟨hvc,q.2⟩)))
end
section
variable {P:Params}
theorem XZl:hasDictIn (KK P) 319=true:=by kernel_rfl
theorem UZa:plainGet (KK P) 319 "width" = true:=by kernel_rfl
theorem UZp:plainGet (KK P) 319 "height" = true:=by kernel_rfl
theorem KZ6:plainGet (KK P) 319 "cells" = true:=by kernel_rfl
theorem UZb:findIn (KK P) (.ref 319) "width" = some none:=by kernel_rfl
theorem UZq:findIn (KK P) (.ref 319) "height" = some none:=by kernel_rfl
theorem KZ7:findIn (KK P) (.ref 319) "cells" = some none:=by kernel_rfl
theorem HZ4:findIn (KK P) (.ref 319) "left" = some none:=by kernel_rfl
theorem NZt:findIn (KK P) (.ref 319) "top" = some none:=by kernel_rfl
theorem HZ2:plainGet (KK P) 319 "left" = true:=by kernel_rfl
theorem NZs:plainGet (KK P) 319 "top" = true:=by kernel_rfl
theorem HZ3:findIn (KK P) (.ref 319) "rows" = some (some (.ref 297)):=by kernel_rfl
theorem HZ1:plainGet (KK P) 319 "rows" = true:=by kernel_rfl
theorem cv_f_put:findIn (KK P) (.ref 319) "put" = some (some (.ref 285)):=by kernel_rfl
theorem cv_g_put:plainGet (KK P) 319 "put" = true:=by kernel_rfl
theorem cv_f_holds:findIn (KK P) (.ref 319) "holds" = some (some (.ref 271)):=by kernel_rfl
theorem cv_g_holds:plainGet (KK P) 319 "holds" = true:=by kernel_rfl
theorem HZ5:findIn (KK P) (.ref 319) "__init__" = some (some (.ref 264)):=by kernel_rfl
theorem DZy:makesIn (KK P) 319=true:=by kernel_rfl
theorem YZw:noGet (KK P) none=true:=by kernel_rfl
end
end
section
section
variable {prog:Program} {w:World} {A:Around} {env:Env} {P:HP} {pos apos:Pos} {o e:PySem.Expr} {es:List PySem.Expr} {K:Frag} {h₀:Heap} {μ:Str->Option Value} {x C f:Addr} {own:List (Str×Value)} {no:List Str} {name:Str} {c:Value} {cs:List Value} {n:Nat} {Pre:HP} {Post:Value->Heap->Heap->Prop}
theorem KZl {args:List (Bool×Sem Value)} {s:Shared} {Q:Value->Shared->Prop} {E:Value->Shared->Prop} {ob:Obj} {fd:FuncData} (X:K.In s.heap) (ho:ObAt C s.heap x own no) (hno:name∈no) (hg:plainGet K C name=true) (hf:findIn K (.ref C) name=some (some (.ref f))) (ht:isFn K (.ref f)=true)
  (hfew:methodCallForm n args []=true) (hline:(apos.endLine==pos.line)=true) (hpl:args.any (·.1)=false)
  (h:wpC (model prog w) A (evalArgs (.ref f) true args []) (fun a s₁=>(s₁.heap.get? f=some ob/\ob.data=.func fd)/\wpC (model prog w) A (PySem.call (.ref f) ([.ref x]++a.pos) a.kw) Q E s₁) E s) :
  wpC (model prog w) A (methodCall o name apos pos env (.ref x) n args []) Q E s:=by
 refine Ji ho fun dx es n' hx hdx _ hn=>?_;clear ho
 have I:InstAt s.heap x (instObj C dx) C (some (dictOf es n')):=⟨hx,rfl,rfl,hdx⟩
 unfold methodCall
 refine sE hfew ?_
 refine YZa (YZe (YZb (method_fn X I (plainGet_of hg).1 (plainGet_of hg).2 hf (beq_iff_eq.mp ht) (by show (lookIn name (dictOf es n')).map _=_;refine sE (lookIn_dict ..) (sE (hn _ hno) ?_);rfl) ?_)))
 have hpos:methodCallPos true o env apos pos=Pure.pure pos:=by unfold methodCallPos;simp [hline]
 refine YZa (YZb (wpAny_of_eq hpos ?_))
 exact YZn hpl h
theorem HZ0 (hd:(match K.lookup f with | some ⟨_,_,.func _,_⟩=>true | _=>false)=true):∃ ob fd,K.lookup f=some ob/\ob.data=.func fd:=by
 revert hd
 cases hk:K.lookup f with
 | none=>intro hd;cases hd
 | some ob =>
  obtain ⟨_,_,dt,_⟩:=ob
  cases dt <;> intro hd <;> first | exact ⟨_,_,rfl,rfl⟩ | cases hd
theorem EvP.meth0 (C':Cx K env h₀ μ P) (hF:Fn prog w K f n [.ref x] Pre Post) (hr:Room n A) (hv:Ev (model prog w) A env P o (.ref x)) (ho:∀ h,P h->ObAt C h x own no) (hno:name∈no) (hp:∀ h,P h->Pre h)
  (hg:plainGet K C name=true) (hf:findIn K (.ref C) name=some (some (.ref f))) (ht:isFn K (.ref f)=true) (hd:(match K.lookup f with | some ⟨_,_,.func _,_⟩=>true | _=>false)=true)
  (hbase:autoParam (attributeBase o name env (eval o env)=eval o env) tR) (hline:autoParam ((apos.endLine==pos.line)=true) tR) :
  EvP (model prog w) A env P (.Call (.Attribute o name apos) [] [] pos) (fun v h'=>∃ h,P h/\Grows h h'/\Post v h h'):=fun s Q E p k=>by
 refine J2 (HZ0 hd) fun ob fd hk hdt=>?_
 refine sE (arm_eval_Call ..) (sE hbase ?_)
 refine YZa (hv s _ E p fun ov h1 tk1 q=>?_)
 refine sE (YZh q.1) ?_
 refine YZa (YZd ?_)
 refine KZl (ob:=ob) (fd:=fd) (s:={ s with heap:=h1,toks:=tk1 }) (C'.gdh q.2).inK (ho _ q.2) hno hg hf ht rfl hline rfl (YZb (evalArgs_nil3 ?_))
 refine ⟨⟨(C'.gdh q.2).inK _ _ hk,hdt⟩,YZy (hF _ _ _ [.ref x] hr (C'.gdh q.2) (hp _ q.2) rfl fun v h3 tk3 g r=>?_)⟩
 exact k v h3 tk3 ⟨⟨h1,q.2,g,r⟩,C'.grow _ _ g q.2⟩
theorem EvP.meth (C':Cx K env h₀ μ P) (hF:Fn prog w K f n (.ref x::cs) Pre Post) (hr:Room n A) (hv:Ev (model prog w) A env P o (.ref x)) (ha:Evs (model prog w) A env P pos (e::es) cs) (ho:∀ h,P h->ObAt C h x own no) (hno:name∈no) (hp:∀ h,P h->Pre h)
  (hg:plainGet K C name=true) (hf:findIn K (.ref C) name=some (some (.ref f))) (ht:isFn K (.ref f)=true) (hd:(match K.lookup f with | some ⟨_,_,.func _,_⟩=>true | _=>false)=true)
  (hbase:autoParam (attributeBase o name env (eval o env)=eval o env) tR) (hline:autoParam ((apos.endLine==pos.line)=true) tR) (hfew:autoParam (methodCallForm ((e::es).length+([]:List Keyword).length) (backTo pos (starEach (e::es) env)) (backToKw pos (keywordEach [] env))=true) tR)
  (he2:autoParam (starEach (e::es) env=(false,eval e env)::starEach es env) tR) (hpl:autoParam ((backTo pos (starEach (e::es) env)).any (·.1)=false) tR) :
  EvP (model prog w) A env P (.Call (.Attribute o name apos) (e::es) [] pos) (fun v h'=>∃ h,P h/\Grows h h'/\Post v h h'):=fun s Q E p k=>by
 refine J2 (HZ0 hd) fun ob fd hk hdt=>?_
 refine sE (arm_eval_Call ..) (sE hbase ?_)
 refine YZa (hv s _ E p fun ov h1 tk1 q=>?_)
 refine sE (YZh q.1) ?_
 refine YZa (YZd ?_)
 refine KZl (ob:=ob) (fd:=fd) (s:={ s with heap:=h1,toks:=tk1 }) (C'.gdh q.2).inK (ho _ q.2) hno hg hf ht hfew hline hpl ?_
 have ha':=ha { s with heap:=h1,toks:=tk1 } (fun vs s₂=>(s₂.heap.get? f=some ob/\ob.data=.func fd)/\wpC (model prog w) A (PySem.call (.ref f) ([.ref x]++vs) []) Q E s₂) E q.2 ?_
 ·rw [he2] at ha' ⊢
  exact YZ6 ha'
 ·intro vs h2 tk2 y
  refine ⟨⟨(C'.gdh y.2).inK _ _ hk,hdt⟩,YZy (hF _ _ _ (.ref x::vs) hr (C'.gdh y.2) (hp _ y.2) (by refine sE List.map_cons (sE y.1 ?_);rfl) fun v h3 tk3 g r=>?_)⟩
  exact k v h3 tk3 ⟨⟨h2,y.2,g,r⟩,C'.grow _ _ g y.2⟩
end
end
section
noncomputable def RowW (W:List Addr) (h:Heap) (a:Addr) (cols:List (List Int)):Prop:=a∉W/\∃ as:List Addr,LsAt h a (as.map Value.ref)/\as.length=cols.length/\∀ i,i<cols.length->as.getD i 0∉W/\TpAt h (as.getD i 0) ((cols.getD i []).map I)
theorem RowW.row {W:List Addr} {h:Heap} {a:Addr} {cols:List (List Int)} (x:RowW W h a cols):RowAt h a cols:=Jm x fun _ as l e t=>⟨as,l,e,fun i hi=>(t i hi).2⟩
theorem RowW.sf {W W':List Addr} {a:Addr} {cols:List (List Int)} (hs:∀ b∈W',b∈W):Sf W' (fun h=>RowW W h a cols):=fun h h' k x=>by
 refine Jm x fun hn as l e t=>?_;clear x
 exact ⟨hn,as,LsAt.sf (fun q=>hn (hs _ q)) _ _ k l,e,fun i hi=>⟨(t i hi).1,TpAt.sf (fun q=>(t i hi).1 (hs _ q)) _ _ k (t i hi).2⟩⟩
section
variable {prog:Program} {w:World} {A:Around} {env:Env} {P:HP} {pos fp:Pos} {e:PySem.Expr} {K:Frag} {h₀:Heap} {μ:Str->Option Value} {a:Addr} {cs:List Value}
theorem EvP.listL (C:Cx K env h₀ μ P) (hz:cs.length<=sizeLine) (hf:Ev (model prog w) A env P (.Name "list" fp) (.type "list")) (ha:Ev (model prog w) A env P e (.ref a)) (hl:∀ h,P h->LsAt h a cs)
  (he:autoParam (eval (.Call (.Name "list" fp) [e] [] pos) env=(do let f <- eval (.Name "list" fp) env;callWith pos f [] (backTo pos (starEach [e] env)) [])) tR)
  (he2:autoParam (starEach [e] env=(false,eval e env)::starEach [] env) tR) (hpl:autoParam ((backTo pos (starEach [e] env)).any (·.1)=false) tR) :
  EvP (model prog w) A env P (.Call (.Name "list" fp) [e] [] pos) (fun v h=>∃ b,v=.ref b/\New P b/\LpAt h b cs) :=
 EvP.callT1 hf ha.toP (fun s Q E v p q kk=>by
  refine sE (YZh q) ?_
  refine J0 (hl _ p) fun vs hlp e2=>?_
  refine J7 hlp.isList fun o ho hc n hd=>?_
  have hlen:vs.length=cs.length:=by exact sF e2 (sE (List.length_map ..) rfl)
  exact YZb (call_list_seq (hsz:=by refine sE List.size_toArray (sE hlen ?_);exact hz) a (.inl rfl) ho hc hd fun h' c' hk hD=>kk _ h' s.toks ⟨_,rfl,⟨s.heap,p,YZg _⟩,vs,⟨c',hD⟩,e2⟩ (C.grow _ _ hk p))) he he2 hpl
end
section
variable {prog:Program} {w:World}
theorem fn_rows {x ca:Addr} {own:List (Str×Value)} {no:List Str} {rs:List (List (List Int))} (hm:(("cells" : Str),Value.ref ca)∈own) (hrz:rs.length<=10) (hwz:∀ r∈rs,r.length<=10) :
  Fn prog w (KK w.params) 297 3 [.ref x] (fun h=>ObAt 319 h x own no/\RowsAt h ca rs) (fun v h h'=>∃ a,v=.ref a/\h.get? a=none/\RowsAt h' a rs):=by
 refine Fn.mk ["self"] [] (by exact rfl) (by kernel_rfl) (fun s args _ h=>ar1 args h fun _=>BindsTo.of_eq rfl) (fun h L A G hpre hL hA F hC=>?_)
 have hR:Sf [L] (fun _=>True):=Sf.const
 refine Jm hpre fun hob as hl hal ht=>?_;clear hpre
 refine Xs.ret (V:=fun v h'=>∃ D,v=.ref D/\h.get? D=none/\RowsAt h' D rs) (Tr.post (Tr.comp (Y:=Unit) (V:=fun _ v _=>v=.ref ca) (ok:=fun env=>env.kindOf "row" = some .local) (ns:=["row"]) (cl:=[]) F ⟨by rfl,fun _=>by rfl,by decide,by rfl,by decide,fun _ _ h=>(nomatch h),fun _ _ h=>(nomatch h)⟩ hC [] (fun _ _ b hb=>nomatch hb) OffL.nil
  (Tr.post (Ev.attr (F.cx hR) lv (fun h p=>hob.grow p.1.keep) hm (fun v e=>by refine sE (YZh e) ?_;rfl) KZ6 XZl KZ7 YZw) fun v h q=>⟨⟨(),q.1⟩,q.2⟩) (fun _=>(as.map Value.ref).length) (fun _ i μ=>up μ "row" ((as.map Value.ref).getD i .none)) (fun _=>[ca])
  (fun _ v h e p=>by
   have e:=YZh e
   subst e
   exact SrcW.nm (c:=.ref ca) (Src.list hA.handled (hl.grow p.1.keep)) p rfl fun b e'=>by cases e';exact (hl.grow p.1.keep).live) (fun _ _ _ _ _ _ _=>List.not_mem_nil) (fun _ _ _ _ _=>by refine sE (List.length_map ..) (sE sizeLine_eq ?_);lia)
  (fun _ W i xs h'=>∃ ls:List Addr,xs=ls.map Value.ref/\ls.length=i/\∀ j,j<i->RowW W h' (ls.getD j 0) (rs.getD j [])) (fun _ i xs W hW h1 h2 kk q=>?_) (fun h h' g p=>trivial) (fun _ _=>true) (fun _ _ _ _ _ _ _ _ _=>⟨[],rfl,rfl,fun j hj=>absurd hj (Nat.not_lt_zero _)⟩) ?_ ?_ (fun _ _ _ _ _ _ h=>by cases h)) ?_) (fun v h' q p=>⟨p.1.keep,q⟩)
 ·refine J1 q fun ls e1 e2 r=>?_;clear q
  exact ⟨ls,e1,e2,fun j hj=>RowW.sf (fun _ h=>h) _ _ kk (r j hj)⟩
 ·intro _ W hW i xs B C hC hF hi hB hB2 _ _ s Q E p k
  exact XZd (k true s.heap s.toks ⟨rfl,p⟩)
 ·intro _ W hW i xs B C hCn hF hi _ hB hB2 hlv _
  rw [List.length_map] at hi
  refine sE (XZh hi) ?_
  have hi':i<rs.length:=by lia
  have hRB:Sf [] (fun h'=>B h'/\∃ ls:List Addr,xs=ls.map Value.ref/\ls.length=i/\∀ j,j<i->RowW W h' (ls.getD j 0) (rs.getD j [])):=Sf.and hB fun h1 h2 kk q=>by
   refine J1 q fun ls e1 e2 r=>?_;clear q
   exact ⟨ls,e1,e2,fun j hj=>(RowW.sf (W':=[]) fun _ h=>nomatch h) _ _ kk (r j hj)⟩
  refine J1 (ht i hi') fun bs hbl hbn hbt=>?_
  have hwi:(rs.getD i []).length<=10:=by refine sE List.getD_eq_getElem?_getD (sE (List.getElem?_eq_getElem hi') ?_);exact hwz _ (List.getElem_mem hi')
  refine Tr.post (EvP.listL (hF.cx hRB) (a:=as.getD i 0) (cs:=bs.map Value.ref) (by refine sE (List.length_map ..) (sE sizeLine_eq ?_);lia) (bv g_list PyProof.Rows.boot_list) lv (fun h p=>hbl.grow p.1.keep)) fun v h1 q=>?_
  obtain ⟨⟨b,e,nb,l⟩,lo,hb,ls,e1,e2,r⟩:=q
  refine ⟨lo,hb,ls++[b],?_,by refine sE List.length_append (sE e2 ?_);rfl,fun j hj=>?_⟩
  ·refine sE List.map_append (sF e1 (sE e ?_));rfl
  by_cases hji:j<i
  ·refine sE (show (ls++[b]).getD j 0=ls.getD j 0 by rw [List.getD_eq_getElem?_getD,List.getElem?_append_left (by lia),List.getD_eq_getElem?_getD]) ?_
   exact r j hji
  ·have:j=i:=by lia
   subst this
   refine sE (show (ls++[b]).getD j 0=b by rw [List.getD_eq_getElem?_getD,List.getElem?_append_right (by lia),e2,Nat.sub_self];rfl) ?_
   refine ⟨nb.notin fun h p=>hlv h _ p.1 p.2.1,bs,l.ls,hbn,fun m hm=>⟨fun q=>?_,(hbt m hm).grow lo.keep⟩⟩
   obtain ⟨o,ho⟩:=(hbt m hm).live
   have:=(hW _ q).old
   rw [ho] at this;cases this
 ·rintro v h1 ⟨_,W,D,xs,rfl,hW,hD,lo,ls,las,e1,e2,r⟩
  refine ⟨⟨D,rfl,hD.old,las,e1▸ls,by exact sE e2 (sE (List.length_map ..) (sE hal rfl)),fun i hi=>(r i (by refine sE (List.length_map ..) ?_;lia)).row⟩,lo,trivial⟩
end
end
section
theorem BZc {most:Nat} (h0:0<most) (h1:most<=65535):∀ (n:Nat) (d:List Int),d.length<=n->d.length<=65535->InB d->InB (XZt most d)
 | 0,d,h,hz,hd=>by
  refine sE (XZw (by lia)) ?_
  exact (DZ2 (by omega)).app hd
 | n+1,d,h,hz,hd=>by
  by_cases hm:d.length<=most
  ·refine sE (XZw hm) ?_;exact (DZ2 (by omega)).app hd
  ·refine sE (VZu (by exact qeN) h0) ?_
   exact ((DZ2 h1).app (hd.take most)).app (BZc h0 h1 n (d.drop most) (by refine sE List.length_drop ?_;lia) (by refine sE List.length_drop ?_;lia) (hd.drop most))
theorem UZ3 {o:List Int} {most:Nat} (h0:0<most) (h1:most<=65535) (hz:o.length<=65535) (ho:InB o):InB (YZo o most):=by
 refine (InB.app (fun k hk=>?_) (BZc h0 h1 _ o (Nat.le_refl _) hz ho)).app (VZj _)
 simp at hk;rcases hk with rfl | rfl <;> decide
theorem UZk {o:List Int} {most:Nat} (h0:0<most):(YZo o most).length<=6*o.length+11:=by
 unfold YZo
 refine sE List.length_append (sE List.length_append (sE (show (YZp (XZn o)).length=4 from rfl) ?_))
 have:=UZe h0 _ o (Nat.le_refl _)
 show 2+_+4<=_;lia
theorem HZq {wd:Nat} {rs:List (List (List Int))} {kf:Nat->Int} (hk:∀ i,0<=kf i/\kf i<=4):∀ n,InB (frN wd rs kf n)
 | 0=>InB.nil
 | n+1=>(HZq hk n).app fun k h=>by
  rcases mC h with rfl | h
  ·have:=hk n;lia
  ·exact VZd _ _ _ k h
noncomputable def sgZ:List Int:=[137,80,78,71,13,10,26,10]
noncomputable def VZk (wd ht:Nat):List Int:=YZp wd++YZp ht++[8,6,0,0,0]
noncomputable def IHDR:List Nat:=[73,72,68,82]
noncomputable def IDAT:List Nat:=[73,68,65,84]
noncomputable def IEND:List Nat:=[73,69,78,68]
noncomputable def pngZ (wd:Nat) (rs:List (List (List Int))) (kf:Nat->Int) (most:Nat):List Int :=
 sgZ++VZ3 IHDR (VZk wd rs.length)++VZ3 IDAT (YZo (frN wd rs kf rs.length) most)++VZ3 IEND []
theorem VZb (wd ht:Nat):InB (VZk wd ht):=((VZj _).app (VZj _)).app fun k hk=>by
 simp at hk;rcases hk with rfl | rfl | rfl <;> decide
theorem XZb (wd ht:Nat):(VZk wd ht).length=13:=rfl
section
variable {prog:Program} {w:World} {A:Around} {env:Env} {P:HP} {pos:Pos} {e:PySem.Expr} {es:List PySem.Expr} {K:Frag} {h₀:Heap} {μ:Str->Option Value} {f:Addr} {n:Nat}
theorem EvP.callX {Y:Type} {cs:Y->List Value} {VY:Y->HP} {Pre:Y->HP} {Post:Y->Value->Heap->Heap->Prop} {fx:Str} {fp:Pos} (C:Cx K env h₀ μ P) (hF:∀ y h,VY y h->Fn prog w K f n (cs y) (Pre y) (Post y)) (hr:Room n A) (hf:Ev (model prog w) A env P (.Name fx fp) (.ref f))
  (ha:EvsP (model prog w) A env P pos (e::es) (fun vs h=>∃ y,vs=cs y/\VY y h)) (hp:∀ y h,VY y h->P h->Pre y h)
  (hd:(match K.lookup f with | some ⟨_,_,.func _,_⟩=>true | _=>false)=true) (he:autoParam (eval (.Call (.Name fx fp) (e::es) [] pos) env=(do let f <- eval (.Name fx fp) env;callWith pos f [] (backTo pos (starEach (e::es) env)) [])) tR)
  (he2:autoParam (starEach (e::es) env=(false,eval e env)::starEach es env) tR) (hpl:autoParam ((backTo pos (starEach (e::es) env)).any (·.1)=false) tR) :
  EvP (model prog w) A env P (.Call (.Name fx fp) (e::es) [] pos) (fun v h'=>∃ y h,VY y h/\P h/\Grows h h'/\Post y v h h'):=fun s Q E p k=>by
 refine J2 (HZ0 hd) fun o fd ho hd'=>?_
 refine YZx (hf s _ E p fun v h1 tk1 x=>?_) he
 refine sE (YZh x.1) ?_
 refine YZn (o:=o) (fd:=fd) hpl ?_
 have ha':=ha { s with heap:=h1,toks:=tk1 } (fun vs s₂=>(s₂.heap.get? f=some o/\o.data=.func fd)/\wpC (model prog w) A (PySem.call (.ref f) ([]++vs) []) Q E s₂) E x.2 ?_
 ·rw [he2] at ha' ⊢
  exact YZ6 ha'
 ·intro vs h2 tk2 y
  obtain ⟨⟨yy,e1,vy⟩,p2⟩:=y
  refine ⟨⟨(C.gdh p2).inK _ _ ho,hd'⟩,YZy (hF yy h2 vy _ _ _ vs hr (C.gdh p2) (hp yy _ vy p2) e1 fun v h3 tk3 g q=>?_)⟩
  exact k v h3 tk3 ⟨⟨yy,h2,vy,p2,g,q⟩,C.grow _ _ g p2⟩
end
section
variable {prog:Program} {w:World}
theorem HZt {x ca:Addr} {own:List (Str×Value)} {no:List Str} {wd:Nat} {rs:List (List (List Int))} {kd:Option Int} {most:Nat} (hmw:(("width" : Str),I wd)∈own) (hmh:(("height" : Str),I rs.length)∈own) (hmc:(("cells" : Str),Value.ref ca)∈own) (hno:("rows" : Str)∈no)
  (hc:∀ r∈rs,∀ c∈r,VZg c) (hw:∀ r∈rs,r.length=wd) (hwz:wd<=2) (hrz:rs.length<=2) (hk:∀ k∈kd,0<=k/\k<=4) (hm0:0<most) (hm1:most<=65535) :
  Fn prog w (KK w.params) 235 9 [.ref x,kV kd,I most] (fun h=>ObAt 319 h x own no/\RowsAt h ca rs) (fun v _ _=>∃ kf:Nat->Int,(∀ i,0<=kf i/\kf i<=4)/\v=By (pngZ wd rs kf most)):=by
 refine Fn.mk ["canvas", "kind", "most"] [] (by exact rfl) (by kernel_rfl) (fun s args G h=>ar3 args h fun _ _ _=>kp_binds G.inK (fun S=>rfl)) (fun h L A G hpre hL hA F hC=>?_)
 have hR:Sf [L] (fun _=>True):=Sf.const
 have hWL:L∈[L]:=List.Mem.head _
 obtain ⟨hob,hrows⟩:=hpre
 have hp4:∀ n,(YZp n).length=4:=fun _=>rfl
 have hfl:∀ kf,(frN wd rs kf rs.length).length<=18:=fun kf=>by
  refine sE (UZn hw _ (Nat.le_refl _)) ?_
  have:=Nat.mul_le_mul hrz (show 1+4*wd<=9 by lia)
  omega
 refine Xs.assignV F hC hWL hR (c:=By (VZk wd rs.length)) (Ev.addB (by rw [List.length_append,hp4,hp4];decide) (Ev.addB (by rw [hp4,hp4];decide) (Ev.call (F.cx hR) UZw (hA.mono (by decide)) (gv GZ9) (Evs.cons (Ev.attr (F.cx hR) lv (fun h p=>hob.grow p.1.keep) hmw (fun v e=>by refine tkI e fun t=>?_;rfl) UZa XZl UZb YZw) Evs.nil) (fun _ _=>trivial) (by kernel_rfl))
  (Ev.call (F.cx hR) UZw (hA.mono (by decide)) (gv GZ9) (Evs.cons (Ev.attr (F.cx hR) lv (fun h p=>hob.grow p.1.keep) hmh (fun v e=>by refine tkI e fun t=>?_;rfl) UZp XZl UZq YZw) Evs.nil) (fun _ _=>trivial) (by kernel_rfl)))
  (Ev.bytesL (ls:=[8,6,0,0,0]) (F.cx hR) hA.handled (by intro k hk;simp at hk;rcases hk with rfl | rfl | rfl <;> decide) (by show 5<=sizeLine;decide) (bv XZj PyProof.Rows.boot_bytes) (Tr.post (Ev.list0 (F.cx hR).grow (Evs.cons Ev.ci (Evs.cons Ev.ci (Evs.cons Ev.ci (Evs.cons Ev.ci (Evs.cons Ev.ci Evs.nil))))) (by show 5<=sizeLine;decide)) fun v h q=>⟨dr q.1,q.2⟩))) ?_
 refine Xs.assign F hC hWL hR (V:=fun c _=>∃ kf:Nat->Int,(∀ i,0<=kf i/\kf i<=4)/\c=By (YZo (frN wd rs kf rs.length) most)) (fun _=>Sf.const) ?_ (fun c=>?_)
 ·refine Tr.post (EvP.callX (Y:={ kf:Nat->Int // ∀ i,0<=kf i/\kf i<=4 }) (cs:=fun y=>[By (frN wd rs y.1 rs.length),I most]) (VY:=fun _ _=>True) (Pre:=fun _ _=>True) (Post:=fun y v _ _=>v=By (YZo (frN wd rs y.1 rs.length) most)) (F.cx hR) (fun y h _=>fn_stored (HZq y.2 _) (by have:=hfl y.1;exact tdN) hm0 hm1) (hA.mono (by decide)) (gv g_stored)
   (Tr.post (EvsP.cons2 (V1:=fun c _=>∃ kf:Nat->Int,(∀ i,0<=kf i/\kf i<=4)/\c=By (frN wd rs kf rs.length)) (V2:=fun cs _=>cs=[I most]) hR (fun c=>Sf.const) (Tr.post (EvP.callX (Y:=Addr) (cs:=fun a=>[.ref a,I wd,kV kd]) (VY:=fun a h=>RowsAt h a rs) (Pre:=fun a h=>RowsAt h a rs) (Post:=fun _ v _ _=>∃ kf:Nat->Int,(∀ i,0<=kf i/\kf i<=4)/\v=By (frN wd rs kf rs.length)) (F.cx hR) (fun a h _=>GZp hc hw (by exact tdN) (by exact tdN) hk) (hA.mono (by decide)) (gv KZb)
    (Tr.post (EvsP.cons2 (V1:=fun c h=>∃ a,c=.ref a/\RowsAt h a rs) (V2:=fun cs _=>cs=[I wd,kV kd]) hR (fun c h1 h2 kk q=>?_) (Tr.post (EvP.meth0 (F.cx hR) (fn_rows hmc (by exact tdN) (fun r hr=>by refine sE (hw r hr) ?_;exact tdN)) (hA.mono (by decide)) lv (fun h p=>hob.grow p.1.keep) hno (fun h p=>⟨hob.grow p.1.keep,hrows.grow p.1.keep⟩) HZ1 HZ3 (by kernel_rfl) (by kernel_rfl)) fun v h q=>⟨?_,q.2⟩) fun c hRc=>Evs.cons (Ev.attr (F.cx hRc) lv (fun h p=>hob.grow p.1.keep) hmw (fun v e=>by refine tkI e fun t=>?_;rfl) UZa XZl UZb YZw) (Evs.cons lv Evs.nil)) fun vs h q=>⟨?_,q.2⟩) (fun a h q _=>q) (by kernel_rfl)) fun v h q=>⟨?_,q.2⟩) fun c hRc=>Evs.cons lv Evs.nil) fun vs h q=>⟨?_,q.2⟩) (fun _ _ _ _=>trivial) (by kernel_rfl)) fun v h q=>⟨?_,q.2⟩
  ·refine J0 q fun a e r=>?_;clear q
   exact ⟨a,e,r.grow fun b o e=>kk b o List.not_mem_nil e⟩
  ·refine Jg q.1 fun h1 _ _ a e _ r=>?_
   exact ⟨a,e,r⟩
  ·refine J4 q.1 fun c cs e1 z03 e3=>?_;refine J0 z03 fun a e2 r=>?_;clear z03
   exact ⟨a,by exact sE e1 (sE e2 (sE e3 rfl)),r⟩
  ·refine Jn q.1 fun a h1 _ _ _ kf hkf e=>?_
   exact ⟨kf,hkf,e⟩
  ·refine J4 q.1 fun c cs e1 z03 e3=>?_;refine J0 z03 fun kf hkf e2=>?_;clear z03
   exact ⟨⟨kf,hkf⟩,by exact sE e1 (sE e2 (sE e3 rfl)),trivial⟩
  ·refine J9 q.1 fun y h1 _ _ _ e=>?_
   exact ⟨y.1,y.2,e⟩
 ·refine Xs.fact2 (q:=∃ kf:Nat->Int,(∀ i,0<=kf i/\kf i<=4)/\c=By (YZo (frN wd rs kf rs.length) most)) (fun h p=>p.2.1) fun hq=>?_
  refine J0 hq ?_;clear hq;rintro kf hkf rfl
  have hR2:Sf [L] (fun _:Heap=>(∃ kf':Nat->Int,(∀ i,0<=kf' i/\kf' i<=4)/\By (YZo (frN wd rs kf rs.length) most)=By (YZo (frN wd rs kf' rs.length) most))/\True):=Sf.const
  have hsb:=UZ3 hm0 hm1 (by have:=hfl kf;exact tdN) (HZq (wd:=wd) (rs:=rs) hkf rs.length)
  have hsl:=UZk (o:=frN wd rs kf rs.length) hm0
  have hfk:=hfl kf
  have hci:(VZ3 IHDR (VZk wd rs.length)).length=25:=by refine sE (GZb ..) (sE (XZb ..) ?_);rfl
  have hcd:(VZ3 IDAT (YZo (frN wd rs kf rs.length) most)).length<=200:=by refine sE (GZb ..) ?_;show 4+_+8<=_;lia
  have hce:(VZ3 IEND []).length=12:=by refine sE (GZb ..) ?_;rfl
  have hsg:sgZ.length=8:=rfl
  refine Xs.retV (c:=By (pngZ wd rs kf most)) (Ev.addB ?_ (Ev.addB ?_ (Ev.addB ?_ (zv z_SIGN) (Ev.call (F.cx hR2) (DZs (nm:=IHDR) (by intro c hc;simp [IHDR] at hc;rcases hc with rfl | rfl | rfl | rfl <;> decide) (by decide) (VZb _ _) (by refine sE (XZb ..) ?_;decide)) (hA.mono (by decide)) (gv BZt) (Evs.cons Ev.cs (Evs.cons lv Evs.nil)) (fun _ _=>trivial) (by kernel_rfl)))
   (Ev.call (F.cx hR2) (DZs (nm:=IDAT) (by intro c hc;simp [IDAT] at hc;rcases hc with rfl | rfl | rfl | rfl <;> decide) (by decide) hsb (by lia)) (hA.mono (by decide)) (gv BZt) (Evs.cons Ev.cs (Evs.cons lv Evs.nil)) (fun _ _=>trivial) (by kernel_rfl)))
   (Ev.call (F.cx hR2) (DZs (nm:=IEND) (d:=[]) (by intro c hc;simp [IEND] at hc;rcases hc with rfl | rfl | rfl | rfl <;> decide) (by decide) InB.nil (by decide)) (hA.mono (by decide)) (gv BZt) (Evs.cons Ev.cs (Evs.cons (Ev.cbytes rfl) Evs.nil)) (fun _ _=>trivial) (by kernel_rfl))) fun h p=>⟨p.1.keep,kf,hkf,rfl⟩
  ·show (sgZ++_++_).length+_<=_
   refine sE List.length_append (sE List.length_append (sE hci (sE hce (sE hsg ?_))));lia
  ·show (sgZ++_).length+_<=_
   refine sE List.length_append (sE hci (sE hsg ?_));lia
  ·show sgZ.length+_<=_
   refine sE hci (sE hsg ?_);decide
end
end
section
theorem XZg {W:List Addr} {h h':Heap} (g:Grows (hideAll h W) h'):∀ b o,b∉W->h.get? b=some o->h'.get? b=some o:=fun b o hb e=>g b o (hideAll_get W e hb)
theorem DZn {W:List Addr} {h:Heap}:Grows (hideAll h W) h:=fun b o e=>of_hideAll W e
theorem VZ1 {W:List Addr} {h0 h:Heap} (g:Grows h0 h) (hn:∀ b∈W,h0.get? b=none):Grows h0 (hideAll h W):=fun b o e=>hideAll_get W (g b o e) fun q=>by rw [hn b q] at e;cases e
noncomputable def FnB (prog:Program) (w:World) (K:Frag) (f:Addr) (n:Nat) (vs:List Value) (W:List Addr) (Pre:HP) (Post:Value->Heap->Heap->Prop):Prop :=
 ∀ A s (R:Result->Shared->Prop) (args:List Value),Room n A->Gd K (hideAll s.heap W)->Pre s.heap->args.map tk0=vs ->
  (∀ v h' tk,Grows (hideAll s.heap W) h'->Post (tk0 v) s.heap h'->R (.ok (.ret v)) { s with heap:=h',toks:=tk })->YZ7 (model prog w) A (.call (.ref f) ⟨args,[]⟩) R s
noncomputable def FnX (prog:Program) (w:World) (K:Frag) (f:Addr) (n:Nat) (vs:List Value) (Pre:HP) (C:Addr):Prop :=
 ∀ A s (R:Result->Shared->Prop) (args:List Value) base outer,Room n A->Gd K s.heap->Below A base outer s.heap->Pre s.heap->args.map tk0=vs ->
  (∀ e a0 h' tk,Heap.FlyingW base outer e (.ref C) a0 h'->R (.error (.ref e)) { s with heap:=h',toks:=tk })->YZ7 (model prog w) A (.call (.ref f) ⟨args,[]⟩) R s
structure Bw (A:Around) (base:Heap) (env:Env) (outer:List Env) (h₀:Heap):Prop where
 stack:A.frames=some (env::outer)
 stays:base.StaysIn h₀
 frames:h₀.FunFrames base outer
 newL:base.get? env.locals=none
 fr:env.frame=some env.locals
 kind:env.scope.kind≠.module
theorem Bw.all {A:Around} {base:Heap} {env:Env} {outer:List Env} {h₀ h:Heap} {μ:Str->Option Value} (B:Bw A base env outer h₀) (lo:Lo env h₀ μ h):h.FunFrames base (env::outer):=by
 refine J1 lo fun m F _ _=>?_;clear lo
 refine Jc F.ns fun o es ep ho hd _=>?_
 exact ⟨B.kind,⟨env.locals,o,B.fr,B.newL,ho,fun vs q=>by rw [hd] at q;cases q⟩,B.frames.of_keeps fun b o e _=>⟨o,F.keep b o e,rfl⟩⟩
theorem Bw.base {A:Around} {base:Heap} {env:Env} {outer:List Env} {h₀ h:Heap} {μ:Str->Option Value} (B:Bw A base env outer h₀) (lo:Lo env h₀ μ h):base.StaysIn h:=fun b o e=>lo.keep b o (B.stays b o e)
noncomputable def Made (base:Heap) (C e:Addr) (h:Heap):Prop:=∃ oe vs a0,h.get? e=some oe/\oe.cls=.ref C/\oe.data=.fields vs/\vs[0]?=some a0/\vs[1]?=some .none/\base.get? e=none
noncomputable def Rzd (base:Heap) (env:Env) (outer:List Env) (C:Addr) (v:Value) (h:Heap):Prop :=
 ∃ e,v=.ref e/\((base.StaysIn h/\h.FunFrames base (env::outer)/\Made base C e h)∨(∃ a0,Heap.HeldW base (env::outer) e (.ref C) a0 env.locals h)∨∃ a0,Heap.FlyingW base (env::outer) e (.ref C) a0 h)
section
variable {M:Model} {A:Around} {base:Heap} {env:Env} {outer:List Env} {h₀:Heap} {C:Addr} {E:Value->Shared->Prop} {s:Shared}
theorem BZa {v:Value} {Q:Unit->Shared->Prop} (B:Bw A base env outer h₀) (x:Rzd base env outer C v s.heap) (k:∀ e a0 h',v=.ref e->Heap.FlyingW base outer e (.ref C) a0 h'->Q () { s with heap:=h' }):wpC M A (leaving env v) Q E s:=by
 refine J0 x ?_;clear x;rintro e rfl x
 rcases x with ⟨hst,hff,oe,vs,a0,he,hc,hd,h0,h1,hn⟩ | ⟨a0,x⟩ | ⟨a0,x⟩
 ·refine YZb (wpAny_leaving_firstW B.stack hff B.fr he hst hn hd h1 h0 fun h' q=>?_)
  refine Ja q fun q1 z01 q3 _=>?_;clear q;refine J3 z01 fun _ _ q2=>?_;clear z01
  exact k e a0 h' rfl ⟨q1,hn,q2,by refine sF hc ?_;exact q3⟩
 ·exact YZb (wpAny_leaves_heldW B.fr x fun h' q=>k e a0 h' rfl q)
 ·exact YZb (wpAny_leaves_onW B.stack B.fr x fun h' q _=>k e a0 h' rfl q)
theorem KZk {v:Value} {Q:Unit->Shared->Prop} (B:Bw A base env outer h₀) (x:Rzd base env outer C v s.heap) (k:∀ e a0 h',v=.ref e->Heap.HeldW base (env::outer) e (.ref C) a0 env.locals h'->Q () { s with heap:=h' }):wpC M A (noteFrame v env) Q E s:=by
 refine J0 x ?_;clear x;rintro e rfl x
 rcases x with ⟨hst,hff,oe,vs,a0,he,hc,hd,h0,h1,hn⟩ | ⟨a0,x⟩ | ⟨a0,x⟩
 ·unfold noteFrame
  simp only [B.fr]
  refine YZb (wpAny_bind (wpAny_field he hd h1 ?_))
  refine sE (if_neg (by decide)) ?_
  refine wpAny_entryW B.stack hff B.fr he hst hn hd (Array.getElem?_eq_some_iff.mp h1).1 h0 fun h' q=>?_
  refine Ja q fun q1 q2 q3 _=>?_;clear q
  exact k e a0 h' rfl ⟨q1,hn,q2,by refine sF hc ?_;exact q3⟩
 ·exact YZb (wpAny_noteFrame_againW B.fr x.2.2.2 (k e a0 s.heap rfl x))
 ·exact YZb (wpAny_looks_onW B.stack B.fr x fun h' q _=>k e a0 h' rfl q)
end
end
section
section
variable {M:Model} {A:Around} {base:Heap} {env:Env} {outer:List Env} {h₀:Heap} {C:Addr} {E:Value->Shared->Prop} {s:Shared}
theorem wpC_stk {Q:List (Code×Pos)->Shared->Prop} (h:∀ l,Q l s):wpC M A stack Q E s:=fun Γ p _ _=>h _
theorem c_lotGoes {v:Value} {Q:Unit->Shared->Prop} (h:Q () s):wpC M A (theTreesLotGoes v) Q E s:=by
 unfold theTreesLotGoes
 exact YZa (wpC_stk fun l=>YZa (YZd (YZa (YZe (UZr (YZd h))))))
theorem GZk {e:Addr} {a0:Value} {Q:Unit->Shared->Prop} (hf:env.frame=some env.locals) (x:Heap.HeldW base (env::outer) e (.ref C) a0 env.locals s.heap) (k:∀ h',Heap.HeldW base (env::outer) e (.ref C) a0 env.locals h'->Q () { s with heap:=h' }) :
  wpC M A (setFlight (.ref e) env.frame) Q E s:=by
 obtain ⟨hkb,hen,hl,oe,vs,T,oT,ts,he,hcls,hd,h1,hnT,hTe,hT,hdT,h3⟩:=x
 have hsz3:3<ts.size:=(Array.getElem?_eq_some_iff.mp h3).1
 have other:∀ b,b≠T->(s.heap.update T (Obj.mapFields (·.setIfInBounds 3 ((some env.locals).elim Value.none fun f=>rawInt f)))).get? b=s.heap.get? b :=
  fun b hb=>Heap.get?_update_other _ _ (Ne.symm hb)
 have noRecord:∀ b o,s.heap.get? b=some o->(∀ vs,o.data≠.fields vs)->b≠T:=fun b o hb hnf q=>by
  rw [q,hT] at hb;injection hb with hb;subst hb;exact hnf ts hdT
 refine sE hf ?_
 unfold setFlight
 refine YZb (wpAny_bind (wpAny_field he hd h1 ?_))
 refine sE (if_pos (show (Value.ref T != Value.none)=true from by simp)) ?_
 refine wpAny_setField hT hdT hsz3 (k _ ⟨fun b o hbo=>(other b fun q=>by rw [q,hnT] at hbo;cases hbo).trans (hkb b o hbo),hen,hl.of_keeps fun b o hb hnf=>⟨o,(other b (noRecord b o hb hnf)).trans hb,rfl⟩,?_⟩)
 exact ⟨oe,vs,T,_,_,(other e (Ne.symm hTe)).trans he,hcls,hd,h1,hnT,hTe,Heap.get?_update_self _ hT (Obj.isFreed_of_fields (Obj.data_mapFields hdT _)),Obj.data_mapFields hdT _,by simp [hsz3]⟩
theorem c_ownRaise {e:Addr} {a0:Value} {what:String} {Q:Unit->Shared->Prop} (hf:env.frame=some env.locals) (x:Heap.HeldW base (env::outer) e (.ref C) a0 env.locals s.heap) (k:∀ h',Heap.HeldW base (env::outer) e (.ref C) a0 env.locals h'->Q () { s with heap:=h' }) :
  wpC M A (do
   if (<- field (.ref e) 1)==.none then unsupported what
   setFlight (.ref e) env.frame) Q E s:=by
 have x':=x
 obtain ⟨hkb,hen,hl,oe,vs,T,oT,ts,he,hcls,hd,h1,_⟩:=x'
 refine YZa (YZb (wpAny_field he hd h1 ?_))
 refine sE (if_neg (by simp)) ?_
 first | exact GZk hf x k | exact YZa (YZc (GZk hf x k))
theorem c_runOwnX {c:Code} {Q:Flow->Shared->Prop} (hf:env.frame=some env.locals) (h:YZ7 M A c (fun r s'=>match r with | .ok f=>Q f s' | .error v=>∃ e a0,v=.ref e/\Heap.HeldW base (env::outer) e (.ref C) a0 env.locals s'.heap/\∀ h',Heap.HeldW base (env::outer) e (.ref C) a0 env.locals h'->E (.ref e) { s' with heap:=h' }) s):wpC M A (runOwn c env) Q E s:=by
 unfold runOwn
 refine YZ1 (BZg ?_)
 refine GZa h fun r s' q=>?_
 cases r with
 | ok f=>exact q
 | error v =>
  refine J4 q ?_;clear q;rintro e a0 rfl x k
  exact c_ownRaise (Q:=fun _ s''=>E (.ref e) s'') hf x k
end
section
variable {prog:Program} {w:World} {A:Around} {env:Env} {K:Frag} {h₀:Heap} {P:HP} {rest body:List Stmt} {N:HP} {Rt X:Value->HP} {pos:Pos} {test:PySem.Expr} {base:Heap} {outer:List Env} {C:Addr}
end
end
section
namespace SF
noncomputable abbrev bm:List Value:=[.ref 38,.type "Exception", .type "BaseException", .type "object"]
theorem obj {P:Params} {h:Heap} (X:(KK P).In h):∃ nm q N bs hdct sn sub ab col dd k0 k1 k2 k3 k5,h.get? 51=some (excClassObj nm q 51 N bs bm hdct sn sub ab col dd k0 k1 k2 k3 k5 "Exception.__new__")/\hdct=true :=
 ⟨_,_,_,_,_,_,_,_,_,_,_,_,_,_,_,X 51 _ (by exact rfl),rfl⟩
noncomputable abbrev eObj (t:Addr) (dx:Option Addr):Obj:={ cls:=.ref 51,dict:=dx,data:=.fields #[.ref t,.none,.none,.none,.bool false,.none] }
section
variable {prog:Program} {w:World} {A:Around} {R:Result->Shared->Prop} {h:Heap} {g:Array GenState} {d:Drawn} {t:Nat} {os:OsState}
theorem new {P:Params} {rest:List Value} (X:(KK P).In h) (hrest:rest.length<=sizeLine)
  (hq:R (.ok (.ret (.ref (h.objs.size+1)))) ⟨(h.push { cls:=.type "tuple", data:=.seq rest.toArray }).push (eObj h.objs.size none),g,d,t,os⟩) :
  codeAny (model prog w) A (.call (.builtin "Exception.__new__") ⟨.ref 51::rest,[]⟩) R ⟨h,g,d,t,os⟩:=by
 obtain ⟨nm,q,N,bs,hdct,sn,sub,ab,col,dd,k0,k1,k2,k3,k5,hC,_⟩:=obj X
 have F:=PySem.F.excBase_Exception
 have hcont:(Value.ref 51::bm).contains (.type "Exception")=true:=by rfl
 have hstar:=F.noStar
 refine codeAny_call_builtin_code (Code.quiet_builtin _ F.quiet) ?_
 simp only [checkBuiltinCall,F.newKind,F.newSplit,F.newRow]
 repeat (first | refine wpAny_loadPart_at hC ?_ | (refine wpAny_isSubtype_exc hC ?_;refine sE hcont ?_) | refine wpAny_staticBase_exc hC ?_ | refine wpAny_madeBy_exc hC ?_ | simp only [bne_self_eq_false,Bool.false_eq_true,if_false] | wp_step)
 have hends:=F.ends
 have hcA:(Value.ref 51::bm).contains (.type "AttributeError")=false:=by rfl
 have hcN:(Value.ref 51::bm).contains (.type "NameError")=false:=by rfl
 refine codeAny_builtinAt F.entry ?_
 unfold Builtin.«BaseException.__new__»
 refine PySem.wpAt_bind ?_
 show PySem.wpAt _ _ _ (stack >>= _) _ _ _
 refine PySem.wpAt_bind (PySem.wpAt_stack fun p below=>PySem.wpAt_of_wpAny ?_)
 wp_walk
 refine PySem.wpAt_of_wpAny ?_
 refine sE F.owner ?_
 repeat (first | with_reducible refine wpAny_madeHere_exc F.canon hC ?_ | with_reducible refine wpAny_loadPart_at hC ?_ | (with_reducible refine wpAny_isSubtype_exc hC ?_;first | refine sE hcont ?_ | refine sE hcA ?_ | refine sE hcN ?_) | wp_step)
 show R _ _
 refine sE (Heap.size_push ..) ?_
 exact hq
end
end SF
theorem Room.mk51 {n:Nat} {A:Around} {rest:List Value} (h:Room (n+1) A):Room n (A.under (.builtin "type.__call__" ⟨.ref 51::rest,[]⟩)):=by
 have e1:(Code.builtin "type.__call__" ⟨.ref 51::rest,[]⟩).weight=1:=by rfl
 have e2:(Code.builtin "type.__call__" ⟨.ref 51::rest,[]⟩).cUnits=1:=by rfl
 refine ⟨?_,?_,h.handled⟩
 ·show A.depth+_+n<_
  refine sE e1 ?_;have:=h.depth;lia
 ·show A.units+_+4*n+16<_
  refine sE e2 ?_;have:=h.units;lia
section
variable {prog:Program} {w:World} {A:Around} {E:Value->Shared->Prop} {Q:Value->Shared->Prop} {s:Shared}
theorem c_call51 {P:Params} {rest:List Value} (X:(KK P).In s.heap) (hrest:rest.length<=sizeLine)
  (hi:∀ h' t x,Grows s.heap h'->s.heap.get? t=none->s.heap.get? x=none->h'.get? x=some (SF.eObj t none)->wpC (model prog w) (A.under (.builtin "type.__call__" ⟨.ref 51::rest,[]⟩)) (PySem.call (.ref 35) (.ref x::rest)) (fun v s'=>v=.none/\Q (.ref x) s') E { s with heap:=h' }) :
  wpC (model prog w) A (PySem.call (.ref 51) rest) Q E s:=by
 obtain ⟨nm,q,N,bs,hdct,sn,sub,ab,col,dd,k0,k1,k2,k3,k5,hC,_⟩:=SF.obj X
 have hcall:Looks (model prog w) s.heap (specialOf (.ref 51) "__call__") (some (.builtin "type.__call__")):=looks_specialIn X (by kernel_rfl)
 have htyp:Looks (model prog w) s.heap (isInstance (.ref 51) (.type "type")) true:=looks_instIn X (by kernel_rfl)
 refine YZy (YZm ?_)
 show wpC _ _ (callAny (.ref 51) _) _ _ _
 simp only [callAny]
 refine YZa (YZb (wpAny_load hC ?_))
 show wpC _ _ (callAny.viaDunder (.ref 51) _) _ _ _
 unfold callAny.viaDunder
 refine YZa (YZb (hcall.at ?_))
 dsimp only
 refine sE (tc_bind ..) ?_
 refine YZa (YZc (YZa (YZc ?_)))
 refine YZc (a:=Fin.again (.call (.builtin "type.__call__") ⟨.ref 51::rest,[]⟩)) (And.intro rfl ?_)
 refine YZm ?_
 show wpC _ _ (do checkBuiltinCall "type.__call__" ⟨.ref 51::rest,[]⟩;again (.builtin "type.__call__" ⟨.ref 51::rest,[]⟩)) _ _ _
 refine YZa (YZb (check_slot tc_kind tc_split htyp (tc_args _ _ _) ?_))
 refine YZc ⟨Code.quiet_builtin _ (by decide +kernel),XZe F.entry_type_call ?_ (by show YZ5.contains "type.__call__" = false;decide +kernel)⟩
 unfold Builtin.«type.__call__»
 have hm:Looks (model prog w) s.heap (mroOf (.ref 51)) (.ref 51::SF.bm):=((Looks.ld (part:=none) hC).andThen .now).andThen .now
 have hmade:Looks (model prog w) s.heap (Bind.madeBy (.ref 51)) (some "Exception.__new__"):=fun A Q E s' k q=>wpAny_madeBy_exc (k _ _ hC) q
 dsimp only
 refine VZf rfl ?_
 refine YZa (YZb (hm.here ?_))
 refine VZf rfl ?_
 refine YZa (YZb (hmade.here ?_))
 dsimp only
 refine YZa (YZc ?_)
 obtain ⟨h,g,d,t,os⟩:=s
 refine YZa (YZe (YZb (wpAny_call (SF.new X hrest ?_))))
 have g1:Grows h ((h.push { cls:=.type "tuple", data:=.seq rest.toArray }).push (SF.eObj h.objs.size none)):=fun b o e=>Heap.get?_push_of_some _ (Heap.get?_push_of_some _ e)
 have hx:((h.push { cls:=.type "tuple", data:=.seq rest.toArray }).push (SF.eObj h.objs.size none)).get? (h.objs.size+1)=some (SF.eObj h.objs.size none):=by heap_get
 have X1:=X.keeps g1
 have t1:Looks (model prog w) ((h.push { cls:=.type "tuple", data:=.seq rest.toArray }).push (SF.eObj h.objs.size none)) (typeOf (.ref (h.objs.size+1))) (.ref 51):=(Looks.ld hx).andThen .now
 have hself:Looks (model prog w) ((h.push { cls:=.type "tuple", data:=.seq rest.toArray }).push (SF.eObj h.objs.size none)) (isSubtype (.ref 51) (.ref 51)) true:=looks_subIn X1 (by kernel_rfl)
 have hinit:Looks (model prog w) ((h.push { cls:=.type "tuple", data:=.seq rest.toArray }).push (SF.eObj h.objs.size none)) (typeLookup (.ref 51) "__init__") (some (.ref 35)):=looks_findIn X1 (by kernel_rfl)
 have hb:=bind_fn (M:=model prog w) X1 (f:=35) (.ref (h.objs.size+1)) (by kernel_rfl)
 show wpC _ _ _ _ _ _
 have hinst:Looks (model prog w) ((h.push { cls:=.type "tuple", data:=.seq rest.toArray }).push (SF.eObj h.objs.size none)) (isInstance (.ref (h.objs.size+1)) (.ref 51)) true:=by
  unfold isInstance;exact t1.andThen hself
 have hspec:Looks (model prog w) ((h.push { cls:=.type "tuple", data:=.seq rest.toArray }).push (SF.eObj h.objs.size none)) (specialOf (.ref (h.objs.size+1)) "__init__") (some (.ref 35)):=by
  unfold specialOf;exact t1.andThen hinit
 refine YZa (YZb (hinst.here ?_))
 refine VZf rfl ?_
 refine YZa (YZe ?_)
 simp only [callSpecial?]
 refine YZa (YZb (hspec.here ?_))
 dsimp only
 refine YZe (YZa (YZb (hb.here ?_)))
 refine YZa (YZf (hi _ h.objs.size (h.objs.size+1) g1 (Heap.get?_none_of_le (Nat.le_refl _)) (Heap.get?_none_of_le (Nat.le_succ _)) hx) (fun v s2 q=>?_) fun _ _ q=>q)
 obtain ⟨rfl,q⟩:=q
 refine YZc ?_
 dsimp only
 refine VZf rfl ?_
 exact YZc q
end
end
section
open Builtin Builtin.ObjectAttr
section
variable {prog:Program} {w:World} {A:Around} {E:Value->Shared->Prop} {s:Shared}
theorem sa_exc {P:Params} {x t:Addr} {v:Value} {Q:Unit->Shared->Prop} (X:(KK P).In s.heap) (hx:s.heap.get? x=some (SF.eObj t none))
  (h:∀ h' tk,(∀ b o,b≠x->s.heap.get? b=some o->h'.get? b=some o)->(∃ dx,h'.get? x=some (SF.eObj t dx))->Q () { s with heap:=h',toks:=tk }) :
  wpAny (model prog w) A (setAttr (.ref x) "message" v) Q E s:=by
 obtain ⟨hp,g,d,ti,os⟩:=s
 dsimp only at X hx h ⊢
 have I0:InstAt hp x (SF.eObj t none) 51 none:=⟨hx,rfl,rfl,trivial⟩
 refine set_plain (s:=⟨hp,g,d,ti,os⟩) X I0 (by kernel_rfl) ?_
 have SFo:=PySem.F.store_object
 have SFe:=PySem.F.store_Exception
 have sub:Looks (model prog w) hp (isInstance (.ref x) (.type "object")) true:=I0.type.andThen (looks_subIn X (by kernel_rfl))
 refine codeAny_call_builtin SFo.slot.plain SFo.entry (@check_slot (model prog w) _ _ ⟨hp,g,d,ti+1,os⟩ "object.__setattr__" "object" "__setattr__" (.ref x) [.str "message" ti,v] [] _ SFo.kind SFo.split sub (SFo.args (.ref x) (.str "message" ti) v) ?_)
 have hm:Looks (model prog w) hp (mroOf (.ref 51)) (.ref 51::SF.bm):=by
  obtain ⟨nm,q,N,bs,hdct,sn,sub,ab,col,dd,k0,k1,k2,k3,k5,hC,_⟩:=SF.obj X
  exact ((Looks.ld (part:=none) hC).andThen .now).andThen .now
 have ha:Looks (model prog w) hp (typeLookup (.ref 51) "message") none:=looks_findIn X (by kernel_rfl)
 refine sE (osa_eq ..) (sE (refuse_eq ..) ?_)
 refine wpAny_bind (wpAny_bind (I0.type.here (wpAny_bind (hm.here ?_))))
 refine sE (show refuseLoop (.ref x) "__setattr__" (.ref 51::SF.bm)=pure () by rw [refuseLoop_ref];unfold SF.bm;rw [refuseLoop_ref];exact SFe.passes _) ?_
 refine wpAny_pure (wpAny_bind (I0.type.here (wpAny_bind (ha.here (wpAny_bind (wpAny_pure ?_))))))
 have hcl:∃ cd,clsIn (KK P) 51=some cd/\cd.hasDict=true:=by
  exact ⟨_,by exact rfl,rfl⟩
 refine J0 hcl fun cd hc hd=>?_;clear hcl
 refine wpAny_bind (wpAny_pure (wpAny_bind (wpAny_bind (wpAny_loadPart hx (wpAny_bind ((looks_clsIn X hc).here ?_))))))
 refine sE hd ?_
 simp only [Bool.not_true,Bool.false_eq_true,if_false,Bool.false_or]
 have hx1:(hp.push { cls:=.type "dict", data:=.dict #[] }).get? x=some (SF.eObj t none):=Heap.get?_push_of_some _ hx
 have hxs:x≠hp.objs.size:=Nat.ne_of_lt (Heap.lt_size hx)
 refine sE (if_neg (by simp [typeHasDict])) ?_
 refine wpAny_bind (wpAny_alloc' ?_)
 refine wpAny_bind (wpAny_update' hx1 ?_)
 refine wpAny_pure ?_
 have hgd:((hp.push { cls:=.type "dict", data:=.dict #[] }).update x fun o=>{ cls:=o.cls,dict:=some hp.objs.size,data:=o.data,slots:=o.slots }).get? hp.objs.size
   = some { cls:=.type "dict", data:=.dict #[] }:=(Heap.get?_update_ne _ _ _ _ hxs.symm).trans (Heap.get?_push_at rfl rfl)
 have hnd:((hp.push { cls:=.type "dict", data:=.dict #[] }).update x fun o=>{ cls:=o.cls,dict:=some hp.objs.size,data:=o.data,slots:=o.slots }).Ns hp.objs.size (fun _=>none) :=
  ⟨_,#[],_,hgd,rfl,fun e he=>absurd he (by simp),fun _=>rfl⟩
 show wpAny _ _ (storeInDict hp.objs.size (.str "message" ti) "message" v) _ _ _
 unfold storeInDict newKeyGuard
 refine wpAny_bind (wpAny_pure (wpAny_bind (wpAny_nsSet1 (Heap.Ns1.of_empty hnd) fun h' hn' hs=>?_)))
 refine Jc (hn'.count (Within.cons _ v Within.nil)) fun oD esD epD hoD hdD hcD=>?_
 refine wpAny_bind (wpAny_lookBehind hoD (by refine sE hdD ?_;exact pastItsLine_dict (Nat.le_trans hcD (by refine sE List.length_cons (sE List.length_nil (sE sizeLine_eq ?_));exact Nat.le_add_left _ _))) ?_)
 refine wpAny_pure (h h' _ (fun b o hb e=>?_) ⟨some hp.objs.size,?_⟩)
 ·exact (hs.2 b (Nat.ne_of_lt (Heap.lt_size e))).trans ((Heap.get?_update_ne _ _ _ _ hb).trans (Heap.get?_push_of_some _ e))
 ·exact (hs.2 x hxs).trans (Heap.get?_update_self _ hx1 rfl)
end
end
section
theorem XZy (h:Heap):∀ b,h.objs.size<=b->h.get? b=none:=fun b hb=>by
 cases e:h.get? b with
 | none=>rfl
 | some o=>exact absurd (Heap.lt_size e) (Nat.not_lt.mpr hb)
section
variable {prog:Program} {w:World} {A:Around} {K:Frag} {f:Addr} {n:Nat} {vs:List Value} {W:List Addr} {Pre:HP} {Post:Value->Heap->Heap->Prop} {PostR:Value->Prop} {C:Addr}
 {name qual:Str} {params:Arguments} {body:List Stmt} {scope:Scope} {dV kV doc pm cdv ct oc:Value} {an od:Option Addr} {osl:Array (Option Value)} {s:Shared} {R:Result->Shared->Prop} {args:List Value} {N:HP} {Rt X:Value->HP}
theorem BZ1 (ns:List Str) (ds:List Value) (ho:K.lookup f=some ⟨oc,od,.func (fnOf name qual params body scope dV kV doc pm an cdv ct),osl⟩) (hcd:codeIn K cdv qual=true)
  (hbind:∀ s args,Gd K s.heap->args.length=vs.length->BindsTo s (fnOf name qual params body scope dV kV doc pm an cdv ct) ⟨args,[]⟩ (ns.zip (args++ds)))
  (room:Room (n+1) A) (G:Gd K (hideAll s.heap W)) (hargs:args.map tk0=vs)
  (hX:Xs (model prog w) (A.deeper (envOf qual scope s.heap.objs.size f cdv)) (envOf qual scope s.heap.objs.size f cdv) (Pc (envOf qual scope s.heap.objs.size f cdv) (hideAll s.heap W) (YZ9 ns (vs++ds.map tk0)) (fun h'=>Grows s.heap h')) body N Rt X)
  (kN:∀ h' tk,N h'->R (.ok (.ret .none)) { s with heap:=h',toks:=tk }) (kR:∀ v h' tk,Rt (tk0 v) h'->R (.ok (.ret v)) { s with heap:=h',toks:=tk })
  (kX:∀ e h' tk,X e h'->wpC (model prog w) (A.deeper (envOf qual scope s.heap.objs.size f cdv)) (leaving (envOf qual scope s.heap.objs.size f cdv) e) (fun _ s''=>R (.error e) s'') (fun e' s''=>R (.error e') s'') { s with heap:=h',toks:=tk })
  (hloc:autoParam ((ns.all fun y=>scope.names.lookup y==some .local)=true) tD) (hcell:autoParam (∀ x∈scope.names,x.2≠.cell) tD) (hco:autoParam (scope.isCoroutine=false) tR) (hgen:autoParam (scope.isGenerator=false) tR) (hk:autoParam (scope.kind=.function) tR) :
  YZ7 (model prog w) A (.call (.ref f) ⟨args,[]⟩) R s:=by
 have G':Gd K s.heap:=G.keeps DZn
 have hl:∀ y∈ns.zip (args++ds),scope.names.lookup y.1=some .local:=fun y hy=>by
  have:=List.all_eq_true.mp hloc y.1 (List.of_mem_zip hy).1
  simpa using this
 refine KZ9 (fd:=fnOf name qual params body scope dV kV doc pm an cdv ct) (body:=body) (binds:=ns.zip (args++ds)) (by have:=room.depth;lia) (G'.inK _ _ ho) rfl G'.nolimit (codeRec_of G'.inK hcd) rfl
  (hbind s args G' (by exact sF hargs (sE (List.length_map ..) rfl))) hcell hl (fun h₁ hns hk₁=>?_) hco hgen hk
 have P1:Pc (envOf qual scope s.heap.objs.size f cdv) (hideAll s.heap W) (YZ9 ns (vs++ds.map tk0)) (fun h'=>Grows s.heap h') h₁:=by
  refine ⟨⟨_,⟨hns,DZn.trans hk₁,Nat.le_of_eq (hideAll_size _ _)⟩,fun x _=>?_,fun x c e=>?_⟩,hk₁⟩
  ·refine sE (XZp ..) (sE List.map_reverse (sE (DZ6 ..) (sE List.map_append (sE hargs ?_))));rfl
  ·cases e
 refine YZf (hX _ (fun fl s'=>R (.ok (.ret (match fl with | .ret v=>v | _=>.none))) s') (fun e s'=>wpC (model prog w) (A.deeper (envOf qual scope s.heap.objs.size f cdv)) (leaving (envOf qual scope s.heap.objs.size f cdv) e) (fun _ s''=>R (.error e) s'') (fun e' s''=>R (.error e') s'') s') P1 (fun h' tk q=>?_) (fun v h' tk q=>?_) (fun e h' tk q=>?_)) (fun _ _ q=>q) (fun _ _ q=>q)
 ·exact kN h' tk q
 ·exact kR v h' tk q
 ·exact kX e h' tk q
theorem DZr (ns:List Str) (ds:List Value) (ho:K.lookup f=some ⟨oc,od,.func (fnOf name qual params body scope dV kV doc pm an cdv ct),osl⟩) (hcd:codeIn K cdv qual=true)
  (hbind:∀ s args,Gd K s.heap->args.length=vs.length->BindsTo s (fnOf name qual params body scope dV kV doc pm an cdv ct) ⟨args,[]⟩ (ns.zip (args++ds)))
  (room:Room (n+1) A) (G:Gd K (hideAll s.heap W)) (hargs:args.map tk0=vs)
  (hX:Ce (envC qual scope s.heap.objs.size f cdv) (hideAll s.heap W)->Xs (model prog w) (A.deeper (envC qual scope s.heap.objs.size f cdv)) (envC qual scope s.heap.objs.size f cdv) (Pc (envC qual scope s.heap.objs.size f cdv) (hideAll s.heap W) (YZ9 ns (vs++ds.map tk0)) (fun h'=>Grows s.heap h')) body N Rt X)
  (kN:∀ h' tk,N h'->R (.ok (.ret .none)) { s with heap:=h',toks:=tk }) (kR:∀ v h' tk,Rt (tk0 v) h'->R (.ok (.ret v)) { s with heap:=h',toks:=tk })
  (kX:∀ e h' tk,X e h'->wpC (model prog w) (A.deeper (envC qual scope s.heap.objs.size f cdv)) (leaving (envC qual scope s.heap.objs.size f cdv) e) (fun _ s''=>R (.error e) s'') (fun e' s''=>R (.error e') s'') { s with heap:=h',toks:=tk })
  (hnk:∀ L,∀ y∈ns,scope.names.lookup y=some .local∨(scope.names.lookup y=some .cell/\((cellsFrom (L+1) scope.names []).lookup y).isSome=true)) (hcn:∀ L x c,(cellsFrom (L+1) scope.names []).lookup x=some c->scope.names.lookup x=some .cell)
  (hci:∀ L x y c,(cellsFrom (L+1) scope.names []).lookup x=some c->(cellsFrom (L+1) scope.names []).lookup y=some c->x=y)
  (hco:autoParam (scope.isCoroutine=false) tR) (hgen:autoParam (scope.isGenerator=false) tR) (hk:autoParam (scope.kind=.function) tR) :
  YZ7 (model prog w) A (.call (.ref f) ⟨args,[]⟩) R s:=by
 have G':Gd K s.heap:=G.keeps DZn
 refine KZp (fd:=fnOf name qual params body scope dV kV doc pm an cdv ct) (body:=body) (binds:=ns.zip (args++ds)) (by have:=room.depth;lia) (G'.inK _ _ ho) rfl G'.nolimit (codeRec_of G'.inK hcd) rfl
  (hbind s args G' (by exact sF hargs (sE (List.length_map ..) rfl))) rfl (fun y hy=>hnk _ y.1 (List.of_mem_zip hy).1) (fun h₁ tk₁ X=>?_) hco hgen hk
 have lk:∀ x,((ns.zip (args++ds)).reverse.lookup x).map tk0=YZ9 ns (vs++ds.map tk0) x:=fun x=>by
  refine sE (XZp ..) (sE List.map_reverse (sE (DZ6 ..) (sE List.map_append (sE hargs ?_))));rfl
 have hkeep:Grows s.heap h₁:=X.toInCall.keep
 have P1:Pc (envC qual scope s.heap.objs.size f cdv) (hideAll s.heap W) (YZ9 ns (vs++ds.map tk0)) (fun h'=>Grows s.heap h') h₁:=by
  refine ⟨⟨_,⟨X.toInCall.ns,DZn.trans hkeep,Nat.le_of_eq (hideAll_size _ _)⟩,fun x hx=>?_,fun x c e=>?_⟩,hkeep⟩
  ·have e:=DZ3 (x:=x) (kindOf:=(callEnvC (fnOf name qual params body scope dV kV doc pm an cdv ct) s.heap.objs.size f).kindOf) hx (ns.zip (args++ds)) (fun _=>none)
   refine sE e (sE Option.or_none ?_)
   exact lk x
  ·refine ⟨_,X.cell x c e,?_⟩
   have e2:=DZ4 (x:=x) (kindOf:=(callEnvC (fnOf name qual params body scope dV kV doc pm an cdv ct) s.heap.objs.size f).kindOf) (hcn _ x c e) (ns.zip (args++ds)) (fun _=>none)
   refine sE e2 (sE Option.or_none ?_)
   exact lk x
 have ce:Ce (envC qual scope s.heap.objs.size f cdv) (hideAll s.heap W):=by
  refine ⟨fun x c e=>⟨Nat.ne_of_gt (X.above x c (YZs e)),fun q=>?_⟩,fun x c e=>XZy _ _ (by refine sE (hideAll_size ..) ?_;exact Nat.le_of_lt (X.above x c (YZs e))),hci _⟩
  have h1:=hcn _ x c e
  have h2:scope.names.lookup x=some .local:=q
  rw [h1] at h2;cases h2
 refine YZf (hX ce _ (fun fl s'=>R (.ok (.ret (match fl with | .ret v=>v | _=>.none))) s') (fun e s'=>wpC (model prog w) (A.deeper (envC qual scope s.heap.objs.size f cdv)) (leaving (envC qual scope s.heap.objs.size f cdv) e) (fun _ s''=>R (.error e) s'') (fun e' s''=>R (.error e') s'') s') P1 (fun h' tk q=>?_) (fun v h' tk q=>?_) (fun e h' tk q=>?_)) (fun _ _ q=>q) (fun _ _ q=>q)
 ·exact kN h' tk q
 ·exact kR v h' tk q
 ·exact kX e h' tk q
theorem Bw.of (base:Heap) (outer:List Env) (env:Env) (B:Below A base outer s.heap) (hL:base.get? env.locals=none) (hf:env.frame=some env.locals) (hk:env.scope.kind≠.module):Bw (A.deeper env) base env outer s.heap :=
 ⟨Around.frames_deeper B.stack,B.stays,B.frames,hL,hf,hk⟩
theorem GZy {base:Heap} (k:base.StaysIn s.heap):base.get? s.heap.objs.size=none:=by
 cases hq:base.get? s.heap.objs.size with
 | none=>rfl
 | some o=>exact absurd (Heap.lt_size (k _ o hq)) (Nat.lt_irrefl _)
theorem FnB.mk (ns:List Str) (ds:List Value) (ho:K.lookup f=some ⟨oc,od,.func (fnOf name qual params body scope dV kV doc pm an cdv ct),osl⟩) (hcd:codeIn K cdv qual=true)
  (hbind:∀ s args,Gd K s.heap->args.length=vs.length->BindsTo s (fnOf name qual params body scope dV kV doc pm an cdv ct) ⟨args,[]⟩ (ns.zip (args++ds)))
  (hb:∀ h L A,Gd K (hideAll h W)->Pre h->(∀ b,L<=b->h.get? b=none)->Room n A->Fx K (envOf qual scope L f cdv) (hideAll h W)->Cl (envOf qual scope L f cdv)->Xs (model prog w) A (envOf qual scope L f cdv) (Pc (envOf qual scope L f cdv) (hideAll h W) (YZ9 ns (vs++ds.map tk0)) (fun h'=>Grows h h')) body (fun h'=>Grows (hideAll h W) h'/\Post .none h h') (fun v h'=>Grows (hideAll h W) h'/\Post v h h') no)
  (hloc:autoParam ((ns.all fun y=>scope.names.lookup y==some .local)=true) tD) (hcell:autoParam (∀ x∈scope.names,x.2≠.cell) tD) (hco:autoParam (scope.isCoroutine=false) tR) (hgen:autoParam (scope.isGenerator=false) tR) (hk:autoParam (scope.kind=.function) tR) :
  FnB prog w K f (n+1) vs W Pre Post:=fun A s R args room G pre hargs k =>
 BZ1 (vs:=vs) (W:=W) (N:=fun h'=>Grows (hideAll s.heap W) h'/\Post .none s.heap h') (Rt:=fun v h'=>Grows (hideAll s.heap W) h'/\Post v s.heap h') (X:=no) ns ds ho hcd hbind room G hargs (hb s.heap _ _ G pre (XZy _) room.deeper ⟨hk,rfl,rfl,G⟩ (Cl.nil rfl)) (fun h' tk q=>k .none h' tk q.1 q.2) (fun v h' tk q=>k v h' tk q.1 q.2) (fun e h' tk q=>q.elim) hloc hcell hco hgen hk
theorem FnB.mkC (ns:List Str) (ds:List Value) (ho:K.lookup f=some ⟨oc,od,.func (fnOf name qual params body scope dV kV doc pm an cdv ct),osl⟩) (hcd:codeIn K cdv qual=true)
  (hbind:∀ s args,Gd K s.heap->args.length=vs.length->BindsTo s (fnOf name qual params body scope dV kV doc pm an cdv ct) ⟨args,[]⟩ (ns.zip (args++ds)))
  (hb:∀ h L A,Gd K (hideAll h W)->Pre h->(∀ b,L<=b->h.get? b=none)->Room n A->Fx K (envC qual scope L f cdv) (hideAll h W)->Ce (envC qual scope L f cdv) (hideAll h W)->Xs (model prog w) A (envC qual scope L f cdv) (Pc (envC qual scope L f cdv) (hideAll h W) (YZ9 ns (vs++ds.map tk0)) (fun h'=>Grows h h')) body (fun h'=>Grows (hideAll h W) h'/\Post .none h h') (fun v h'=>Grows (hideAll h W) h'/\Post v h h') no)
  (hnk:∀ L,∀ y∈ns,scope.names.lookup y=some .local∨(scope.names.lookup y=some .cell/\((cellsFrom (L+1) scope.names []).lookup y).isSome=true)) (hcn:∀ L x c,(cellsFrom (L+1) scope.names []).lookup x=some c->scope.names.lookup x=some .cell)
  (hci:∀ L x y c,(cellsFrom (L+1) scope.names []).lookup x=some c->(cellsFrom (L+1) scope.names []).lookup y=some c->x=y)
  (hco:autoParam (scope.isCoroutine=false) tR) (hgen:autoParam (scope.isGenerator=false) tR) (hk:autoParam (scope.kind=.function) tR) :
  FnB prog w K f (n+1) vs W Pre Post:=fun A s R args room G pre hargs k =>
 DZr (vs:=vs) (W:=W) (N:=fun h'=>Grows (hideAll s.heap W) h'/\Post .none s.heap h') (Rt:=fun v h'=>Grows (hideAll s.heap W) h'/\Post v s.heap h') (X:=no) ns ds ho hcd hbind room G hargs (fun ce=>hb s.heap _ _ G pre (XZy _) room.deeper ⟨hk,rfl,rfl,G⟩ ce) (fun h' tk q=>k .none h' tk q.1 q.2) (fun v h' tk q=>k v h' tk q.1 q.2) (fun e h' tk q=>q.elim) hnk hcn hci hco hgen hk
theorem FnX.mkC (ns:List Str) (ds:List Value) (ho:K.lookup f=some ⟨oc,od,.func (fnOf name qual params body scope dV kV doc pm an cdv ct),osl⟩) (hcd:codeIn K cdv qual=true)
  (hbind:∀ s args,Gd K s.heap->args.length=vs.length->BindsTo s (fnOf name qual params body scope dV kV doc pm an cdv ct) ⟨args,[]⟩ (ns.zip (args++ds)))
  (hb:∀ h L A base outer,Gd K h->Pre h->(∀ b,L<=b->h.get? b=none)->Room n A->Fx K (envC qual scope L f cdv) h->Ce (envC qual scope L f cdv) h->Bw A base (envC qual scope L f cdv) outer h->Xs (model prog w) A (envC qual scope L f cdv) (Pc (envC qual scope L f cdv) h (YZ9 ns (vs++ds.map tk0)) (fun _=>True)) body (fun _=>False) no (Rzd base (envC qual scope L f cdv) outer C))
  (hnk:∀ L,∀ y∈ns,scope.names.lookup y=some .local∨(scope.names.lookup y=some .cell/\((cellsFrom (L+1) scope.names []).lookup y).isSome=true)) (hcn:∀ L x c,(cellsFrom (L+1) scope.names []).lookup x=some c->scope.names.lookup x=some .cell)
  (hci:∀ L x y c,(cellsFrom (L+1) scope.names []).lookup x=some c->(cellsFrom (L+1) scope.names []).lookup y=some c->x=y)
  (hco:autoParam (scope.isCoroutine=false) tR) (hgen:autoParam (scope.isGenerator=false) tR) (hk:autoParam (scope.kind=.function) tR) :
  FnX prog w K f (n+1) vs Pre C:=fun A s R args base outer room G B pre hargs k=>by
 have Bw':=Bw.of base outer (envC qual scope s.heap.objs.size f cdv) B (GZy B.stays) rfl (by show scope.kind≠_;refine sE hk ?_;decide)
 exact DZr (vs:=vs) (W:=[]) (N:=fun _=>False) (Rt:=no) (X:=Rzd base (envC qual scope s.heap.objs.size f cdv) outer C) ns ds ho hcd hbind room G hargs (fun ce=>Xs.pre (hb s.heap _ _ base outer G pre (XZy _) room.deeper ⟨hk,rfl,rfl,G⟩ ce Bw') (fun h p=>⟨p.1,trivial⟩)) (fun h' tk q=>q.elim) (fun v h' tk q=>q.elim)
  (fun v h' tk q=>BZa (s:={ s with heap:=h',toks:=tk }) Bw' q (fun e a0 h'' ev fl=>by refine sE ev ?_;exact k e a0 h'' tk fl)) hnk hcn hci hco hgen hk
noncomputable def FnR (prog:Program) (w:World) (K:Frag) (f:Addr) (n:Nat) (vs:List Value) (Pre:HP) (Post:Value->Prop):Prop :=
 ∀ A s (R:Result->Shared->Prop) (args:List Value) base outer,Room n A->Gd K s.heap->Gd K base->Below A base outer s.heap->Pre s.heap->args.map tk0=vs ->
  (∀ v h' tk,base.StaysIn h'->Post (tk0 v)->R (.ok (.ret v)) { s with heap:=h',toks:=tk })->YZ7 (model prog w) A (.call (.ref f) ⟨args,[]⟩) R s
theorem FnR.mk (ns:List Str) (ds:List Value) (ho:K.lookup f=some ⟨oc,od,.func (fnOf name qual params body scope dV kV doc pm an cdv ct),osl⟩) (hcd:codeIn K cdv qual=true)
  (hbind:∀ s args,Gd K s.heap->args.length=vs.length->BindsTo s (fnOf name qual params body scope dV kV doc pm an cdv ct) ⟨args,[]⟩ (ns.zip (args++ds)))
  (hb:∀ h L A base outer,Gd K h->Gd K base->Pre h->(∀ b,L<=b->h.get? b=none)->Room n A->Fx K (envOf qual scope L f cdv) h->Cl (envOf qual scope L f cdv)->Bw A base (envOf qual scope L f cdv) outer h->Xs (model prog w) A (envOf qual scope L f cdv) (Pc (envOf qual scope L f cdv) h (YZ9 ns (vs++ds.map tk0)) (fun _=>True)) body (fun h'=>base.StaysIn h'/\PostR .none) (fun v h'=>base.StaysIn h'/\PostR v) no)
  (hloc:autoParam ((ns.all fun y=>scope.names.lookup y==some .local)=true) tD) (hcell:autoParam (∀ x∈scope.names,x.2≠.cell) tD) (hco:autoParam (scope.isCoroutine=false) tR) (hgen:autoParam (scope.isGenerator=false) tR) (hk:autoParam (scope.kind=.function) tR) :
  FnR prog w K f (n+1) vs Pre PostR:=fun A s R args base outer room G Gb B pre hargs k=>by
 have Bw':=Bw.of base outer (envOf qual scope s.heap.objs.size f cdv) B (GZy B.stays) rfl (by show scope.kind≠_;refine sE hk ?_;decide)
 exact BZ1 (vs:=vs) (W:=[]) (N:=fun h'=>base.StaysIn h'/\PostR .none) (Rt:=fun v h'=>base.StaysIn h'/\PostR v) (X:=no) ns ds ho hcd hbind room G hargs (Xs.pre (hb s.heap _ _ base outer G Gb pre (XZy _) room.deeper ⟨hk,rfl,rfl,G⟩ (Cl.nil rfl) Bw') (fun h p=>⟨p.1,trivial⟩)) (fun h' tk q=>k .none h' tk q.1 q.2) (fun v h' tk q=>k v h' tk q.1 q.2)
  (fun v h' tk q=>q.elim) hloc hcell hco hgen hk
theorem FnR.mkC (ns:List Str) (ds:List Value) (ho:K.lookup f=some ⟨oc,od,.func (fnOf name qual params body scope dV kV doc pm an cdv ct),osl⟩) (hcd:codeIn K cdv qual=true)
  (hbind:∀ s args,Gd K s.heap->args.length=vs.length->BindsTo s (fnOf name qual params body scope dV kV doc pm an cdv ct) ⟨args,[]⟩ (ns.zip (args++ds)))
  (hb:∀ h L A base outer,Gd K h->Gd K base->Pre h->(∀ b,L<=b->h.get? b=none)->Room n A->Fx K (envC qual scope L f cdv) h->Ce (envC qual scope L f cdv) h->Bw A base (envC qual scope L f cdv) outer h->Xs (model prog w) A (envC qual scope L f cdv) (Pc (envC qual scope L f cdv) h (YZ9 ns (vs++ds.map tk0)) (fun _=>True)) body (fun h'=>base.StaysIn h'/\PostR .none) (fun v h'=>base.StaysIn h'/\PostR v) no)
  (hnk:∀ L,∀ y∈ns,scope.names.lookup y=some .local∨(scope.names.lookup y=some .cell/\((cellsFrom (L+1) scope.names []).lookup y).isSome=true)) (hcn:∀ L x c,(cellsFrom (L+1) scope.names []).lookup x=some c->scope.names.lookup x=some .cell)
  (hci:∀ L x y c,(cellsFrom (L+1) scope.names []).lookup x=some c->(cellsFrom (L+1) scope.names []).lookup y=some c->x=y)
  (hco:autoParam (scope.isCoroutine=false) tR) (hgen:autoParam (scope.isGenerator=false) tR) (hk:autoParam (scope.kind=.function) tR) :
  FnR prog w K f (n+1) vs Pre PostR:=fun A s R args base outer room G Gb B pre hargs k=>by
 have Bw':=Bw.of base outer (envC qual scope s.heap.objs.size f cdv) B (GZy B.stays) rfl (by show scope.kind≠_;refine sE hk ?_;decide)
 exact DZr (vs:=vs) (W:=[]) (N:=fun h'=>base.StaysIn h'/\PostR .none) (Rt:=fun v h'=>base.StaysIn h'/\PostR v) (X:=no) ns ds ho hcd hbind room G hargs (fun ce=>Xs.pre (hb s.heap _ _ base outer G Gb pre (XZy _) room.deeper ⟨hk,rfl,rfl,G⟩ ce Bw') (fun h p=>⟨p.1,trivial⟩)) (fun h' tk q=>k .none h' tk q.1 q.2) (fun v h' tk q=>k v h' tk q.1 q.2)
  (fun v h' tk q=>q.elim) hnk hcn hci hco hgen hk
end
end
section
section
variable {M:Model} {prog:Program} {w:World} {A:Around} {env:Env} {E:Value->Shared->Prop} {s:Shared} {R R':HP} {h₀:Heap} {μ:Str->Option Value} {rest:List Stmt} {N:HP} {Rt X:Value->HP} {pos p1:Pos} {e o value:PySem.Expr} {attr:Str} {c c2:Value}
theorem VZn {vs l:List Value} {Q:Unit->Shared->Prop} (h:Q () s):wpC M A (release vs l) Q E s:=fun Γ p hΓ hf=>by
 simp only [Sem.wp_release];exact h
theorem Xs.setA (hv:Ev (model prog w) A env (Pc env h₀ μ R) value c) (ho:Ev (model prog w) A env (Pc env h₀ μ R) o c2)
  (hset:∀ (s:Shared) (Q:Unit->Shared->Prop) E v ov,Pc env h₀ μ R s.heap->tk0 v=c->tk0 ov=c2->(∀ h' tk,Pc env h₀ μ R' h'->Q () { s with heap:=h',toks:=tk })->wpAny (model prog w) A (setAttr ov attr v) Q E s)
  (hr:Xs (model prog w) A env (Pc env h₀ μ R') rest N Rt X) (hs:autoParam (swapsWith value (some (.Attribute o attr p1)) pos.line env=pure false) tR) :
  Xs (model prog w) A env (Pc env h₀ μ R) (.Assign [.Attribute o attr p1] value pos::rest) N Rt X:=fun s Q E p k1 k2 k3=>by
 refine YZk ?_
 refine sE (plainObj_exec_Assign_Attribute o attr p1 value pos hs) ?_
 refine YZa (YZd (YZa (hv s _ E p fun v h1 tk1 x=>?_)))
 refine sE (assign_Attribute ..) ?_
 refine YZa (YZa (YZe (ho _ _ E x.2 fun ov h2 tk2 y=>YZa (YZd (YZa (YZe (YZb (hset _ _ _ v ov y.2 x.1 y.1 fun h3 tk3 z=>?_))))))))
 refine VZn (YZc ?_)
 exact hr { s with heap:=h3,toks:=tk3 } Q E z k1 k2 k3
end
section
variable {prog:Program} {w:World}
theorem fn_init35 {x t:Addr} {m:Value}:FnB prog w (KK w.params) 35 2 [.ref x,m] [x] (fun h=>h.get? x=some (SF.eObj t none)) (fun v h h'=>v=.none/\∃ dx,h'.get? x=some (SF.eObj t dx)):=by
 refine FnB.mk ["self", "message"] [] (by exact rfl) (by kernel_rfl) (fun s args _ h=>ar2 args h fun _ _=>BindsTo.of_eq rfl) (fun h L A G hpre hL hA F hC=>?_)
 refine Xs.pre (P:=Pc _ (hideAll h [x]) _ (fun h'=>h'.get? x=some (SF.eObj t none))) ?_ (fun h' p=>⟨p.1,p.2 _ _ hpre⟩)
 have hxL:x≠L:=fun q=>by have:=hL x (Nat.le_of_eq q.symm);rw [hpre] at this;cases this
 have hR:Sf [L] (fun h':Heap=>h'.get? x=some (SF.eObj t none)):=Sf.at (by simp;exact hxL)
 refine Xs.setA (R':=fun h'=>∃ dx,h'.get? x=some (SF.eObj t dx)) lv lv (fun s Q E v ov p ev eo k=>?_) (Xs.nil fun h' p=>⟨p.1.keep,rfl,p.2⟩)
 refine sE (YZh eo) ?_
 refine sa_exc (F.gd.inK.keeps p.1.keep) p.2 fun h' tk kk hx'=>k h' tk ⟨?_,hx'⟩
 exact Lo.sf (W:=[x]) (by simp;exact Ne.symm hxL) (fun y c e=>by cases e) (fun b hb=>by refine sE (mS hb) ?_;exact hideAll_none _ (List.mem_singleton.mpr rfl)) _ _ (fun b o hb e=>kk b o (by simpa using hb) e) p.1
theorem VZ2 {P:Params}:nsIn (KK P) mainGlobals "SheetFault" = some (some (.ref 51)):=by kernel_rfl
end
section
variable {M:Model} {A:Around} {env:Env} {E:Value->Shared->Prop} {s:Shared} {pos:Pos}
theorem DZb {P:HP} {e:PySem.Expr} {es:List PySem.Expr} {cs:List Value} {fv:Value} {Q:Args->Shared->Prop} (hev:Evs M A env P pos (e::es) cs) (hp:P s.heap) (k:∀ vs h' tk,vs.map tk0=cs->P h'->Q ⟨vs,[]⟩ { s with heap:=h',toks:=tk })
  (he2:starEach (e::es) env=(false,eval e env)::starEach es env):wpC M A (evalArgs fv true (backTo pos (starEach (e::es) env)) []) Q E s:=by
 have ha':=hev s (fun vs s₂=>Q ⟨vs,[]⟩ s₂) E hp (fun vs h2 tk2 y=>k vs h2 tk2 y.1 y.2)
 rw [he2] at ha' ⊢
 exact YZ6 ha'
theorem VZx {Q:Value->Shared->Prop} {a:Addr} {first:List Value} {args:List (Bool×Sem Value)} (hplain:args.any (·.1)=false)
  (h:wpC M A (evalArgs (.ref a) true args []) (fun x s₁=>(∀ Q:Keeper->Shared->Prop,Q .machine s₁->wpAny M A (keeperOf (.ref a)) Q E s₁)/\wpC M A (PySem.call (.ref a) (first++x.pos) x.kw) Q E s₁) E s):wpC M A (callWith pos (.ref a) first args []) Q E s:=by
 unfold callWith
 refine YZa (YZe (YZf h (fun x s₁ h₁=>YZa (YZd ?_)) fun _ _ x=>x))
 simp only [hplain,List.any_nil,Bool.or_false]
 refine YZa (YZb (h₁.1 _ ?_))
 exact VZm h₁.2
end
section
variable {prog:Program} {w:World} {A:Around} {env:Env} {E:Value->Shared->Prop} {s:Shared} {h₀:Heap} {μ:Str->Option Value} {R:HP} {rest:List Stmt} {N:HP} {Rt:Value->HP} {pos cpos np:Pos} {e:PySem.Expr} {c:Value} {base:Heap} {outer:List Env} {W:List Addr}
theorem c_mk51 {Q:Value->Shared->Prop} {v:Value} {h₀:Heap} (hA:Room 3 A) (G:Gd (KK w.params) h₀) (g0:Grows h₀ s.heap)
  (k:∀ x t dx h' tk,Grows s.heap h'->s.heap.get? x=none->h'.get? x=some (SF.eObj t dx)->Q (.ref x) { s with heap:=h',toks:=tk }):wpC (model prog w) A (PySem.call (.ref 51) [v]) Q E s:=by
 refine c_call51 (G.inK.keeps g0) (by show 1<=sizeLine;decide) fun h' t x g hnt hnx hx=>?_
 have G2:Gd (KK w.params) (hideAll h' [x]):=G.keeps (VZ1 (g0.trans g) fun b hb=>by
  refine sE (mS hb) ?_
  cases q:h₀.get? x with
  | none=>rfl
  | some o=>have:=g0 _ _ q;rw [hnx] at this;cases this)
 refine YZy (fn_init35 (t:=t) (x:=x) (m:=Mine.tk0 v) _ _ _ [.ref x,v] (hA.mk51 (n:=2)) G2 hx rfl fun v' h'' tk g2 q=>?_)
 obtain ⟨e1,dx,hx2⟩:=q
 refine ⟨UZj e1,k x t dx h'' tk (fun b o e=>g2 b o (hideAll_get _ (g b o e) ?_)) hnx hx2⟩
 rintro hb
 rw [mS hb,hnx] at e;cases e
theorem Xs.raise51 (F:Fx (KK w.params) env h₀) (hA:Room 3 A) (B:Bw A base env outer h₀) (hR:Sf W R) (hf:Ev (model prog w) A env (Pc env h₀ μ R) (.Name "SheetFault" np) (.ref 51)) (he:Ev (model prog w) A env (Pc env h₀ μ R) e c)
  (hc:autoParam (eval (.Call (.Name "SheetFault" np) [e] [] cpos) env=(do let f <- eval (.Name "SheetFault" np) env;callWith cpos f [] (backTo cpos (starEach [e] env)) [])) tR)
  (he2:autoParam (starEach [e] env=(false,eval e env)::starEach [] env) tR) (hpl:autoParam ((backTo cpos (starEach [e] env)).any (·.1)=false) tR) :
  Xs (model prog w) A env (Pc env h₀ μ R) (.Raise (some (.Call (.Name "SheetFault" np) [e] [] cpos)) none pos::rest) N Rt (Rzd base env outer 51):=fun s Q E p k1 k2 k3=>by
 refine YZk ?_
 refine sE (arm_exec_Raise ..) ?_
 refine YZa (YZd ?_)
 show wpC _ _ (raiseStmt env (some (do let v <- eval (.Call (.Name "SheetFault" np) [e] [] cpos) env;standAt pos;pure v)) none) _ _ _
 unfold raiseStmt
 dsimp only
 refine YZa (YZa (YZx (hf s _ E p fun v h1 tk1 x=>?_) hc))
 refine sE (YZh x.1) ?_
 refine VZx hpl ?_
 refine DZb (s:={ s with heap:=h1,toks:=tk1 }) (Evs.cons he Evs.nil (pos:=cpos) he2) x.2 (fun vs h2 tk2 ev y=>?_) he2
 ·refine J0 (Mine.tk1 ev) ?_;rintro v rfl ev
  refine ⟨fun Q hq=>?_,?_⟩
  ·obtain ⟨nm,q,N,bs,hdct,sn,sub,ab,col,dd,k0,k1,k2,k3,k5,hC,_⟩:=SF.obj (F.gd.inK.keeps y.1.keep)
   exact wpAny_keeperOf_exc hC hq
  refine c_mk51 hA F.gd (s:={ s with heap:=h2,toks:=tk2 }) y.1.keep fun xx t dx h3 tk3 g hn hx=>?_
  refine YZa (YZd (YZc (YZa (YZc ?_))))
  have X3:=F.gd.inK.keeps (y.1.keep.trans g)
  have t1:Looks (model prog w) h3 (typeOf (.ref xx)) (.ref 51):=(Looks.ld hx).andThen .now
  have hbase:Looks (model prog w) h3 (isInstance (.ref xx) (.type "BaseException")) true:=by
   unfold isInstance;exact t1.andThen (looks_subIn X3 (by kernel_rfl))
  have hmeta:Looks (model prog w) h3 (typeOf (.ref 51)) (.type "type"):=looks_typeIn X3 (by kernel_rfl)
  have hnt:Looks (model prog w) h3 (isType (.ref xx)) false:=by
   unfold isType loadHead
   exact (Looks.ld hx).andThen .now
  refine YZa (YZe ?_)
  unfold excFromValue isExcClass
  refine YZa (YZa (YZb (Looks.here (s:=⟨h3,s.gens,s.drawn,tk3,s.os⟩) hnt ?_)))
  simp only [Bool.false_eq_true,if_false]
  refine YZc ?_
  simp only [Bool.false_eq_true,if_false]
  refine YZa (YZb (Looks.here (s:=⟨h3,s.gens,s.drawn,tk3,s.os⟩) hbase ?_))
  simp only [if_true]
  refine YZc ?_
  refine YZa (YZb (Looks.here (s:=⟨h3,s.gens,s.drawn,tk3,s.os⟩) hnt ?_))
  simp only [Bool.false_eq_true,if_false]
  unfold raisedInstance
  refine YZa (YZa (YZb (Looks.here (s:=⟨h3,s.gens,s.drawn,tk3,s.os⟩) t1 ?_)))
  refine YZa (YZb (Looks.here (s:=⟨h3,s.gens,s.drawn,tk3,s.os⟩) hmeta ?_))
  refine sE (if_pos (by rfl)) ?_
  refine YZc ?_
  unfold setFlight
  refine YZa (YZa (YZb (wpAny_field (s:=⟨h3,s.gens,s.drawn,tk3,s.os⟩) hx rfl (i:=1) rfl ?_)))
  refine sE (if_neg (by show ¬ ((Value.none != Value.none)=true);decide)) ?_
  refine YZc (YZb (wpAny_raiseNew_none hA.handled ?_))
  have lo3:Lo env h₀ μ h3:=y.1.grow g
  exact k3 (.ref xx) h3 tk3 ⟨xx,rfl,.inl ⟨B.base lo3,B.all lo3,_,_,.ref t,hx,rfl,rfl,rfl,rfl,by
   cases q:base.get? xx with
   | none=>rfl
   | some o=>have:=B.base y.1 _ _ q;rw [hn] at this;cases this⟩⟩
end
end
section
noncomputable def EvX (M:Model) (A:Around) (env:Env) (P:HP) (e:PySem.Expr) (X:Value->HP):Prop:=∀ s (Q:Value->Shared->Prop) E,P s.heap->(∀ e h' tk,X e h'->E e { s with heap:=h',toks:=tk })->wpC M A (eval e env) Q E s
section
variable {prog:Program} {w:World} {A:Around} {env:Env} {K:Frag} {h₀:Heap} {μ:Str->Option Value} {R:HP} {pos p1:Pos} {e:PySem.Expr} {es:List PySem.Expr} {cs:List Value} {f:Addr} {n:Nat} {Pre:HP} {base:Heap} {outer:List Env} {C:Addr} {P:HP} {rest:List Stmt} {N:HP} {Rt X:Value->HP} {x:Str}
theorem Bw.below {h:Heap} (B:Bw A base env outer h₀) (lo:Lo env h₀ μ h):Below A base (env::outer) h:=⟨B.stack,B.base lo,B.all lo⟩
theorem EvX.call {fx:Str} {fp:Pos} (Cx':Cx K env h₀ μ (Pc env h₀ μ R)) (B:Bw A base env outer h₀) (hF:FnX prog w K f n cs Pre C) (hr:Room n A) (hf:Ev (model prog w) A env (Pc env h₀ μ R) (.Name fx fp) (.ref f)) (ha:Evs (model prog w) A env (Pc env h₀ μ R) pos (e::es) cs) (hp:∀ h,Pc env h₀ μ R h->Pre h)
  (hd:(match K.lookup f with | some ⟨_,_,.func _,_⟩=>true | _=>false)=true) (he:autoParam (eval (.Call (.Name fx fp) (e::es) [] pos) env=(do let f <- eval (.Name fx fp) env;callWith pos f [] (backTo pos (starEach (e::es) env)) [])) tR)
  (he2:autoParam (starEach (e::es) env=(false,eval e env)::starEach es env) tR) (hpl:autoParam ((backTo pos (starEach (e::es) env)).any (·.1)=false) tR) :
  EvX (model prog w) A env (Pc env h₀ μ R) (.Call (.Name fx fp) (e::es) [] pos) (Rzd base env outer C):=fun s Q E p k=>by
 refine J2 (HZ0 hd) fun o fd ho hd'=>?_
 refine YZx (hf s _ E p fun v h1 tk1 x=>?_) he
 refine sE (YZh x.1) ?_
 refine YZn (o:=o) (fd:=fd) hpl ?_
 refine DZb (s:={ s with heap:=h1,toks:=tk1 }) ha x.2 (fun vs h2 tk2 ev y=>?_) he2
 refine ⟨⟨(Cx'.gdh y).inK _ _ ho,hd'⟩,YZy (hF _ _ _ vs base (env::outer) hr (Cx'.gdh y) (B.below y.1) (hp _ y) ev fun e a0 h3 tk3 fl=>?_)⟩
 exact k (.ref e) h3 tk3 ⟨e,rfl,.inr (.inr ⟨a0,fl⟩)⟩
theorem Xs.asgE (he:EvX (model prog w) A env P e X) (hs:autoParam (swapsWith e (some (.Name x p1)) pos.line env=pure false) tR):Xs (model prog w) A env P (.Assign [.Name x p1] e pos::rest) N Rt X:=fun s Q E p k1 k2 k3 =>
 YZk (UZ1 (he s _ E p k3) hs)
theorem Xs.exprE (he:EvX (model prog w) A env P e X) (hi:autoParam (interactive env=false) tR) (hs:autoParam (swapsWith e none pos.line env=pure false) tR):Xs (model prog w) A env P (.Expr e pos::rest) N Rt X:=fun s Q E p k1 k2 k3=>by
 refine YZk ?_
 refine sE (arm_exec_Expr ..) (sE hi (sE hs ?_))
 refine YZa (YZd ?_)
 show wpC _ _ (eval e env >>= fun v=>dropValue e pos v) _ _ _
 exact YZa (he s _ E p k3)
theorem Xs.tryT {w:World} {body:List Stmt} {np hp rp cp:Pos} {k:Nat} (G:Gd (KK w.params) base) (hk:env.scope.kind=.function) (hgl:env.globals=mainGlobals) (B:Bw A base env outer h₀)
  (hb:Xs (model prog w) A env P body (fun _=>False) no (Rzd base env outer 51)) (hr:∀ h,base.StaysIn h->Rt (.bool true) h)
  (hx:autoParam (env.kindOf "SheetFault" = some .globalImplicit) tR) :
  Xs (model prog w) A env P (.Try body [.ExceptHandler (some (.Name "SheetFault" np)) none [.Return (some (.Constant (.bool true) k cp)) rp] hp] [] [] pos::rest) N Rt X:=fun s Q E p kk1 kk2 kk3=>by
 refine YZk ?_
 refine sE (arm_exec_Try ..) ?_
 refine YZa (YZd ?_)
 unfold tryStmt
 simp only [List.isEmpty_nil,if_true,List.isEmpty_cons,Bool.false_and,Bool.false_eq_true,if_false]
 refine YZa (GZ0 (hb s _ _ p (fun _ _ h=>h.elim) (fun _ _ _ h=>h.elim) fun e h1 tk1 x=>?_))
 dsimp only
 refine YZa (KZk (s:={ s with heap:=h1,toks:=tk1 }) B x fun e' a0 h2 ev hl=>?_)
 subst ev
 refine YZb (wpAny_bind (wpAny_landsW (s:=⟨h2,s.gens,s.drawn,tk1,s.os⟩) hl fun h3 fl _=>?_))
 have X3:=G.inK.keeps (fl.1)
 obtain ⟨nm,q,N,bs,hdct,sn,sub,ab,col,dd,k0,k1,k2,k3,k5,hC,_⟩:=SF.obj X3
 refine Jd G.top fun pr l mg mb T=>?_
 refine wpAny_handleBy_cons (codeAny_handlers_test ?_) (by intro q;cases q)
 refine Name_function_global hk hx (loadGlobal_global (by refine sE hgl ?_;exact T.g.keeps fl.1) (mg_of G.inK T.g VZ2) ?_) (by decide)
 refine J0 fl.there fun oe he hcls=>?_
 refine wpAny_excMatches_sub_self hC he hcls (by rfl) ?_
 refine codeAny_handlers_suite ?_
 refine wpAny_setFlight_noneW fl.1 fl.2.2.1 fl.2.2.2.at fun h4 k4 _ _ _=>?_
 refine wpAny_execs_cons (wpAny_Return_some (wpAny_Constant_bool ?_))
 dsimp only
 exact kk2 (.bool true) h4 tk1 (hr h4 k4)
end
end
theorem GZz:∀ (n a b:Nat),a<=n->(a ^^^ b)+2*(a &&& b)=a+b
 | 0,a,b,h=>by
  obtain rfl:a=0:=by lia
  simp
 | n+1,a,b,h=>by
  by_cases h0:a=0
  ·subst h0;simp
  have ih:=GZz n (a / 2) (b / 2) (by lia)
  have s:∀ m:Nat,m / 2=m >>> 1:=fun m=>by exact sE (Nat.shiftRight_eq_div_pow ..) rfl
  have x1:(a ^^^ b) / 2=a / 2 ^^^ b / 2:=by exact sE (s ..) (sE (s ..) (sE (s ..) (sE Nat.shiftRight_xor_distrib rfl)))
  have a1:(a &&& b) / 2=a / 2 &&& b / 2:=by exact sE (s ..) (sE (s ..) (sE (s ..) (sE Nat.shiftRight_and_distrib rfl)))
  have x2:(a ^^^ b) % 2=(a % 2 ^^^ b % 2):=Nat.xor_mod_two_pow (n:=1)
  have a2:(a &&& b) % 2=(a % 2 &&& b % 2):=Nat.and_mod_two_pow (n:=1)
  have k:(a % 2 ^^^ b % 2)+2*(a % 2 &&& b % 2)=a % 2+b % 2:=by
   rcases Nat.mod_two_eq_zero_or_one a with e | e <;> rcases Nat.mod_two_eq_zero_or_one b with f | f <;> refine sE e (sE f ?_) <;> decide
  rw [<- x1,<- a1] at ih
  rw [<- x2,<- a2] at k
  lia
theorem xorN (a b:Nat):Builtin.bitXor (a:Int) (b:Int)=((a ^^^ b:Nat):Int):=by
 have h1:=bitXor_and (a:Int) (b:Int)
 rw [bitAnd_pp (Int.natCast_nonneg _) (Int.natCast_nonneg _),Int.toNat_natCast,Int.toNat_natCast] at h1
 have h2:=GZz a a b (Nat.le_refl _)
 lia
theorem orN (a b:Nat):Builtin.bitOr (a:Int) (b:Int)=((a:Int)+b-((a &&& b:Nat):Int)):=by
 exact sE (bitOr_and ..) (sE (bitAnd_pp (Int.natCast_nonneg _) (Int.natCast_nonneg _)) (sE (Int.toNat_natCast ..) (sE (Int.toNat_natCast ..) rfl)))
theorem NZ2 {a b k:Nat} (h:b<2 ^ k):(a*2 ^ k) &&& b=0:=by
 apply Nat.eq_of_testBit_eq
 intro i
 refine sE (Nat.testBit_and ..) (sE (Nat.zero_testBit ..) ?_)
 by_cases hi:i<k
 ·refine sE (Nat.testBit_mul_two_pow ..) ?_
  have:decide (k<=i)=false:=by rw [decide_eq_false_iff_not];lia
  refine sE this ?_;rfl
 ·exact sE (Nat.testBit_lt_two_pow (Nat.lt_of_lt_of_le h (Nat.pow_le_pow_right (by decide) (by exact qlN)))) (sE (Bool.and_false ..) rfl)
theorem VZr {a b:Int} {k:Nat} (ha:0<=a) (hb:0<=b) (h:b<2 ^ k):Builtin.bitOr (a*2 ^ k) b=a*2 ^ k+b:=by
 obtain ⟨x,rfl⟩:=Int.eq_ofNat_of_zero_le ha
 obtain ⟨y,rfl⟩:=Int.eq_ofNat_of_zero_le hb
 have e:((x:Int)*2 ^ k)=((x*2 ^ k:Nat):Int):=by push_cast;rfl
 have h':y<2 ^ k:=by exact_mod_cast h
 refine sE e (sE (orN ..) (sE (NZ2 h') ?_));simp
theorem GZ6 {n:Int} (h0:0<=n) (h1:n<4294967296):YZz (YZp n) 0=n:=by
 have f:∀ k:Nat,n.fdiv (2 ^ k)=n / 2 ^ k:=fun k=>Int.fdiv_eq_ediv_of_nonneg _ (Int.le_of_lt (Int.pow_pos (by decide)))
 unfold YZz YZp
 simp only [show (24:Int).toNat=24 from rfl,show (16:Int).toNat=16 from rfl,show (8:Int).toNat=8 from rfl,f,bitAnd_m8]
 show Builtin.bitOr (Builtin.bitOr (Builtin.bitOr (n / 2 ^ 24 % 256*2 ^ 24) (n / 2 ^ 16 % 256*2 ^ 16)) (n / 2 ^ 8 % 256*2 ^ 8)) (n % 256)=n
 have e1:Builtin.bitOr (n / 2 ^ 24 % 256*2 ^ 24) (n / 2 ^ 16 % 256*2 ^ 16)=(n / 2 ^ 24 % 256*256+n / 2 ^ 16 % 256)*2 ^ 16:=by
  refine sE (VZr (by lia) (by lia) (by lia)) ?_;lia
 refine sE e1 ?_
 have e2:Builtin.bitOr ((n / 2 ^ 24 % 256*256+n / 2 ^ 16 % 256)*2 ^ 16) (n / 2 ^ 8 % 256*2 ^ 8)=((n / 2 ^ 24 % 256*256+n / 2 ^ 16 % 256)*256+n / 2 ^ 8 % 256)*2 ^ 8:=by
  refine sE (VZr (by lia) (by lia) (by lia)) ?_;lia
 refine sE e2 (sE (VZr (by lia) (by lia) (by lia)) ?_)
 lia
noncomputable def GZ2:List Nat:=[0,498536548,997073096,651767980,1994146192,1802195444,1303535960,1342533948,3988292384,4027552580,3604390888,3412177804,2607071920,2262029012,2685067896,3183342108]
theorem stepsZ_eq:VZw=GZ2.map fun (n:Nat)=>(n:Int):=by decide +kernel
theorem tops:∀ i:Nat,i<16->∀ j:Nat,j<16->GZ2.getD i 0 >>> 28=GZ2.getD j 0 >>> 28->i=j:=by decide +kernel
theorem steps_lt:∀ i:Nat,i<16->GZ2.getD i 0<2 ^ 32:=by decide +kernel
noncomputable def tN (n:Nat):Nat:=GZ2.getD (n % 16) 0 ^^^ (n / 16)
theorem crcT_N (n:Nat):crcT VZw (n:Int)=(tN n:Int):=by
 unfold crcT tN
 have h1:Builtin.bitAnd (n:Int) 15=((n % 16:Nat):Int):=by rw [bitAnd_m4];rfl
 have h2:(n:Int).fdiv (2 ^ (4:Int).toNat)=((n / 16:Nat):Int):=by
  rw [Int.fdiv_eq_ediv_of_nonneg _ (by decide)]
  show (n:Int) / 16=_
  rfl
 have h3:VZw.getD (n % 16) 0=((GZ2.getD (n % 16) 0:Nat):Int):=by
  have hl:n % 16<GZ2.length:=by show n % 16<16;lia
  rw [stepsZ_eq,List.getD_eq_getElem?_getD,List.getElem?_map,List.getElem?_eq_getElem hl,List.getD_eq_getElem?_getD,List.getElem?_eq_getElem hl];rfl
 rw [h1,h2,Int.toNat_natCast,h3,xorN]
theorem NZz {n:Nat} (h:n<2 ^ 32):tN n<2 ^ 32:=by
 unfold tN
 exact Nat.xor_lt_two_pow (steps_lt _ (by lia)) (by lia)
theorem VZh {s a b:Nat} (h:s ^^^ a=s ^^^ b):a=b:=by
 have:=congrArg (s ^^^ ·) h
 simpa [<- Nat.xor_assoc] using this
theorem NZe {n m:Nat} (hn:n<2 ^ 32) (hm:m<2 ^ 32) (h:tN n=tN m):n=m:=by
 unfold tN at h
 have ht:=congrArg (· >>> 28) h
 simp only [Nat.shiftRight_xor_distrib] at ht
 have z:∀ k:Nat,k<2 ^ 32->(k / 16) >>> 28=0:=fun k hk=>by
  rw [Nat.shiftRight_eq_div_pow];lia
 rw [z n hn,z m hm,Nat.xor_zero,Nat.xor_zero] at ht
 have e:=tops _ (by lia) _ (by lia) ht
 rw [e] at h
 have:=VZh h
 lia
noncomputable def stN (s o:Nat):Nat:=tN (tN (s ^^^ o))
theorem stN_lt {s o:Nat} (hs:s<2 ^ 32) (ho:o<256):stN s o<2 ^ 32:=NZz (NZz (Nat.xor_lt_two_pow hs (by exact tyN)))
theorem stN_state {s t o:Nat} (hs:s<2 ^ 32) (ht:t<2 ^ 32) (ho:o<256) (h:stN s o=stN t o):s=t:=by
 have h1:=NZe (NZz (Nat.xor_lt_two_pow hs (by exact tyN))) (NZz (Nat.xor_lt_two_pow ht (by exact tyN))) h
 have h2:=NZe (Nat.xor_lt_two_pow hs (by exact tyN)) (Nat.xor_lt_two_pow ht (by exact tyN)) h1
 rw [Nat.xor_comm s,Nat.xor_comm t] at h2
 exact VZh h2
theorem stN_octet {s o p:Nat} (hs:s<2 ^ 32) (ho:o<256) (hp:p<256) (h:stN s o=stN s p):o=p:=by
 have h1:=NZe (NZz (Nat.xor_lt_two_pow hs (by exact tyN))) (NZz (Nat.xor_lt_two_pow hs (by exact tyN))) h
 exact VZh (NZe (Nat.xor_lt_two_pow hs (by exact tyN)) (Nat.xor_lt_two_pow hs (by exact tyN)) h1)
noncomputable def crcS (o:List Int):Nat->Nat
 | 0=>4294967295
 | i+1=>stN (crcS o i) (o.getD i 0).toNat
theorem KZi {o:List Int} (h:InB o):∀ i,crcS o i<2 ^ 32
 | 0=>by show (4294967295:Nat)<_;decide
 | i+1=>stN_lt (KZi h i) (by have:=h.getD i;lia)
theorem crcN_S {o:List Int} (h:InB o):∀ i,crcN VZw o i=(crcS o i:Int)
 | 0=>by
  show Builtin.bitXor ((0:Nat):Int) ((4294967295:Nat):Int)=_
  rw [xorN];rfl
 | i+1=>by
  have e:o.getD i 0=(((o.getD i 0).toNat:Nat):Int):=by have:=h.getD i;lia
  show crcT VZw (crcT VZw (Builtin.bitXor (crcN VZw o i) (o.getD i 0)))=_
  rw [crcN_S h i,e,xorN,crcT_N,crcT_N];rfl
theorem crcZ_S {o:List Int} (h:InB o):crcZ o=((crcS o o.length ^^^ 4294967295:Nat):Int):=by
 unfold crcZ
 rw [crcN_S h]
 exact xorN _ 4294967295
theorem crcZ_range {o:List Int} (h:InB o):0<=crcZ o/\crcZ o<4294967296:=by
 rw [crcZ_S h]
 have:=Nat.xor_lt_two_pow (KZi h o.length) (show 4294967295<2 ^ 32 by decide)
 lia
theorem crc_ne {o o':List Int} {p:Nat} (h:InB o) (h':InB o') (hl:o.length=o'.length) (hp:p<o.length) (hd:o.getD p 0≠o'.getD p 0) (hs:∀ i,i≠p->o.getD i 0=o'.getD i 0):crcZ o≠crcZ o':=by
 intro e
 rw [crcZ_S h,crcZ_S h',<- hl] at e
 have e':crcS o o.length ^^^ 4294967295=crcS o' o.length ^^^ 4294967295:=by exact_mod_cast e
 rw [Nat.xor_comm,Nat.xor_comm (crcS o' _)] at e'
 have e2:=VZh e'
 have same:∀ i,i<=p->crcS o i=crcS o' i:=by
  intro i
  induction i with
  | zero=>intro _;rfl
  | succ i ih =>
   intro hi
   show stN _ _=stN _ _
   rw [ih (by exact llN),hs i (by lia)]
 have diff:∀ i,p<i->crcS o i≠crcS o' i:=by
  intro i
  induction i with
  | zero=>intro hi;lia
  | succ i ih =>
   intro hi q
   by_cases hip:i=p
   ·subst hip
    have q':stN (crcS o i) (o.getD i 0).toNat=stN (crcS o' i) (o'.getD i 0).toNat:=q
    rw [<- same i (Nat.le_refl _)] at q'
    have h1:=h.getD i
    have h2:=h'.getD i
    have:=stN_octet (KZi h i) (by lia) (by lia) q'
    exact hd (by lia)
   ·have q':stN (crcS o i) (o.getD i 0).toNat=stN (crcS o' i) (o'.getD i 0).toNat:=q
    rw [hs i hip] at q'
    have h2:=h'.getD i
    exact ih (by lia) (stN_state (KZi h i) (KZi h' i) (by lia) q')
 exact diff _ hp e2
theorem getD_take {l:List Int} {n j:Nat} (h:j<n):(l.take n).getD j 0=l.getD j 0:=by
 exact sE List.getD_eq_getElem?_getD (sE List.getElem?_take (sE (if_pos h) (sE List.getD_eq_getElem?_getD rfl)))
theorem unf_fil {k:Int} {row above:List Int} (hr:InB row):∀ n,n<=row.length->unfN k (YZi k row above) above n=row.take n
 | 0,_=>rfl
 | n+1,hn=>by
  have hn':n<row.length:=by assumption
  have e:(YZi k row above).getD n 0=filE k row above n:=by
   unfold YZi
   refine sE List.getD_eq_getElem?_getD (sE List.getElem?_map (sE (List.getElem?_range hn') ?_));rfl
  rewrite [unfN];refine sE (unf_fil hr n (by exact llN)) (sE e (sE List.take_add_one (sE (List.getElem?_eq_getElem hn') ?_)))
  have g:row.getD n 0=row[n]:=by refine sE List.getD_eq_getElem?_getD (sE (List.getElem?_eq_getElem hn') ?_);rfl
  have hb:=hr.getD n
  have left:(if decide (4<=(n:Int))=true then (row.take n).getD ((n:Int)-4).toNat 0 else 0)=(if decide (4<=(n:Int))=true then row.getD ((n:Int)-4).toNat 0 else 0):=by
   by_cases h4:4<=(n:Int)
   ·exact sE (if_pos (decide_eq_true h4)) (sE (if_pos (decide_eq_true h4)) (sE (getD_take (by omega)) rfl))
   ·exact sE (if_neg (by rw [decide_eq_true_eq];exact h4)) (sE (if_neg (by rw [decide_eq_true_eq];exact h4)) rfl)
  refine sE left ?_
  unfold filE
  refine sE (bitAnd_m8 ..) (sE (bitAnd_m8 ..) ?_)
  congr 1
  show [_]=[row[n]]
  refine sF g ?_
  congr 1
  omega
theorem unf_all {k:Int} {row above:List Int} (hr:InB row):unfN k (YZi k row above) above (YZi k row above).length=row:=by
 exact sE (YZt ..) (sE (unf_fil hr _ (Nat.le_refl _)) (sE List.take_length rfl))
noncomputable def YZ4 (al p:Int):Int:=(255*p).fdiv al+(if decide (al<=2*(255*p).fmod al)=true then 1 else 0)
noncomputable def XZ6 (c:List Int):List Int:=if (c.getD 3 0==0)=true then [0,0,0,0] else [YZ4 (c.getD 3 0) (c.getD 0 0),YZ4 (c.getD 3 0) (c.getD 1 0),YZ4 (c.getD 3 0) (c.getD 2 0),c.getD 3 0]
noncomputable def Drawn (c:List Int):Prop:=∃ al r g b,c=[r,g,b,al]/\al∈[(0:Int),255,128,1,254]/\(∀ p∈[r,g,b],p∈[0,al,al.fdiv 2,(al*3).fdiv 4])
theorem BZl:∀ al∈[(255:Int),128,1,254],∀ p∈[0,al,al.fdiv 2,(al*3).fdiv 4],VZy al p=YZ4 al p/\0<=p/\p<256:=by decide +kernel
theorem NZq {c:List Int} (h:Drawn c):VZg c/\YZj c=XZ6 c:=by
 refine Jk h ?_;clear h;rintro al r g b rfl ha hp
 have hr:=hp r (by exact mm0);have hg:=hp g (by exact mm1);have hb:=hp b (by exact mm2)
 by_cases h0:al=0
 ·subst h0
  have z:∀ p:Int,p∈[(0:Int),0,(0:Int).fdiv 2,(0*3:Int).fdiv 4]->p=0:=by
   intro p h
   simp only [List.mem_cons,List.not_mem_nil,or_false] at h
   rcases h with rfl | rfl | rfl | rfl <;> decide
  refine sE (z r hr) (sE (z g hg) (sE (z b hb) ?_))
  refine ⟨⟨rfl,?_⟩,rfl⟩
  intro k hk;simp at hk;subst hk;decide
 ·have ha':al∈[(255:Int),128,1,254]:=by simpa [h0] using ha
  have h1:=BZl al ha' r hr;have h2:=BZl al ha' g hg;have h3:=BZl al ha' b hb
  have hal:0<=al/\al<256:=by
   simp only [List.mem_cons,List.not_mem_nil,or_false] at ha'
   rcases ha' with rfl | rfl | rfl | rfl <;> decide
  refine ⟨⟨rfl,?_⟩,?_⟩
  ·intro k hk
   simp only [List.mem_cons,List.not_mem_nil,or_false] at hk
   rcases hk with rfl | rfl | rfl | rfl
   ·exact h1.2
   ·exact h2.2
   ·exact h3.2
   ·exact hal
  ·unfold YZj XZ6
   show (if (al==0)=true then _ else [VZy al r,VZy al g,VZy al b,al])=(if (al==0)=true then _ else [YZ4 al r,YZ4 al g,YZ4 al b,al])
   exact sE h1.1 (sE h2.1 (sE h3.1 rfl))
noncomputable def UZu (al p g:Int):Int:=minZ 255 (p+((g*(255-al)).fdiv 255+(if decide (255<=2*(g*(255-al)).fmod 255)=true then 1 else 0)))
theorem laid_eq {c g:List Int} {i:Nat}:XZv c g i=UZu (c.getD 3 0) (c.getD i 0) (g.getD i 0):=by
 unfold XZv UZu
 generalize hx:g.getD i 0*(255-c.getD 3 0)=x
 have e:2*g.getD i 0*(255-c.getD 3 0)=2*x:=by exact sE (Int.mul_assoc ..) (sE hx rfl)
 refine sE e (sE (Int.fdiv_eq_ediv_of_nonneg _ (by decide)) (sE (Int.fdiv_eq_ediv_of_nonneg _ (by decide)) (sE (Int.fmod_eq_emod_of_nonneg _ (by decide)) ?_)))
 congr 2
 by_cases h:255<=2*(x % 255)
 ·refine sE (if_pos (decide_eq_true h)) ?_;lia
 ·refine sE (if_neg (by rw [decide_eq_true_eq];exact h)) ?_;lia
section
section
variable {prog:Program} {w:World} {A:Around} {env:Env} {K:Frag} {h₀:Heap} {P:HP} {rest body:List Stmt} {N:HP} {Rt X:Value->HP} {pos:Pos} {test:PySem.Expr} {base:Heap} {outer:List Env} {C:Addr} {q:Prop}
theorem BZi {σ:Type} (B:q->Bw A base env outer h₀) (m:σ->Nat) (Iv:σ->Prop) (μi:σ->Str->Option Value) (Rr:σ->HP) (d:σ->Bool) {R:Result->Shared->Prop}
  (ht:∀ z,Iv z->Ist (model prog w) A env (Pc env h₀ (μi z) (Rr z)) test (d z))
  (hb:∀ z,Iv z->d z=true->Xs (model prog w) A env (Pc env h₀ (μi z) (Rr z)) body (fun h=>∃ z',m z' < m z/\Iv z'/\Pc env h₀ (μi z') (Rr z') h) Rt (fun v h=>q/\Rzd base env outer C v h))
  {s:Shared} (z0:σ) (hI0:Iv z0) (h0:Pc env h₀ (μi z0) (Rr z0) s.heap)
  (hR:∀ z h' tk,Iv z->d z=false->Pc env h₀ (μi z) (Rr z) h'->R (.ok .next) { s with heap:=h',toks:=tk })
  (hR2:∀ v h' tk,Rt (tk0 v) h'->R (.ok (.ret v)) { s with heap:=h',toks:=tk })
  (hR3:q->∀ e a0 h' tk,Heap.HeldW base (env::outer) e (.ref C) a0 env.locals h'->R (.error (.ref e)) { s with heap:=h',toks:=tk }) :
  YZ7 (model prog w) A (.whileLoop test body [] env) R s:=by
 refine UZc rfl rfl (fun k s'=>∃ h' tk z,s'={ s with heap:=h',toks:=tk }/\k=m z/\Iv z/\Pc env h₀ (μi z) (Rr z) h') ?_ (m z0) ⟨s.heap,s.toks,z0,rfl,rfl,hI0,h0⟩
 rintro k s' ⟨h',tk,z,rfl,rfl,hI,inv⟩
 show wpC _ A ((whileTurn test body [] env).onRaise (fun x=>do noteFrame x env;theTreesLotGoes x)) _ _ _
 refine YZ1 (?_:wpC (model prog w) A (whileTurn test body [] env) (fun fin s''=>match fin with
    | .done f=>R (.ok f) s''
    | .again c'=>(c'=.whileLoop test body [] env/\∃ k,k<m z/\∃ h' tk z,s''={ s with heap:=h',toks:=tk }/\k=m z/\Iv z/\Pc env h₀ (μi z) (Rr z) h')∨(c'.quiet=true/\YZ7 (model prog w) A c' R s'')) (fun e s'=>wpC (model prog w) A (do noteFrame e env;theTreesLotGoes e) (fun _ s''=>R (.error e) s'') (fun e s'=>R (.error e) s') s') { s with heap:=h',toks:=tk })
 unfold whileTurn
 refine YZa (ht z hI _ _ _ inv fun b h1 tk1 q=>?_)
 obtain ⟨rfl,q⟩:=q
 cases hd:d z with
 | true =>
  simp only [if_true]
  refine YZa (hb z hI hd _ _ _ q (fun h2 tk2 q2=>?_) (fun v h2 tk2 q2=>?_) fun v h2 tk2 q2=>?_)
  ·refine J1 q2 ?_;clear q2;rintro z' hm hI' q2
   exact YZc (.inl ⟨rfl,_,hm,h2,tk2,z',rfl,rfl,hI',q2⟩)
  ·exact YZc (hR2 v h2 tk2 q2)
  ·exact YZa (KZk (s:={ s with heap:=h2,toks:=tk2 }) (B q2.1) q2.2 fun e a0 h3 ev x=>c_lotGoes (by refine sE ev ?_;exact hR3 q2.1 e a0 h3 tk2 x))
 | false =>
  simp only [Bool.false_eq_true,if_false]
  exact YZa (YZb (wpAny_execs_nil (YZc (hR z h1 tk1 hI hd q))))
theorem Xs.whileQ {σ:Type} (B:q->Bw A base env outer h₀) (m:σ->Nat) (Iv:σ->Prop) (μi:σ->Str->Option Value) (Rr:σ->HP) (d:σ->Bool) (z0:σ) (hI0:Iv z0) (h0:∀ h,P h->Pc env h₀ (μi z0) (Rr z0) h)
  (ht:∀ z,Iv z->Ist (model prog w) A env (Pc env h₀ (μi z) (Rr z)) test (d z))
  (hb:∀ z,Iv z->d z=true->Xs (model prog w) A env (Pc env h₀ (μi z) (Rr z)) body (fun h=>∃ z',m z' < m z/\Iv z'/\Pc env h₀ (μi z') (Rr z') h) Rt (fun v h=>q/\Rzd base env outer C v h))
  (hr:∀ z,Iv z->d z=false->Xs (model prog w) A env (Pc env h₀ (μi z) (Rr z)) rest N Rt (fun v h=>q/\Rzd base env outer C v h)) (hfr:autoParam (env.frame=some env.locals) tR) :
  Xs (model prog w) A env P (.While test body [] pos::rest) N Rt (fun v h=>q/\Rzd base env outer C v h):=fun s Q E p k1 k2 k3=>by
 refine YZk ?_
 show wpC _ _ (do standAt pos;runOwn (.whileLoop test body [] env) env) _ _ _
 refine YZa (YZd (c_runOwnX (base:=base) (outer:=outer) (C:=C) hfr ?_))
 refine BZi (Rt:=Rt) B m Iv μi Rr d ht hb z0 hI0 (h0 _ p) (fun z h' tk hI hd q=>?_) (fun v h' tk q=>?_) (fun hq e a0 h' tk x=>?_)
 ·exact hr z hI hd _ Q E q k1 k2 k3
 ·exact k2 v h' tk q
 ·exact ⟨e,a0,rfl,x,fun h' x'=>k3 _ h' tk ⟨hq,e,rfl,.inr (.inl ⟨a0,x'⟩)⟩⟩
end
theorem Xs.exR {prog:Program} {w:World} {A:Around} {env:Env} {h₀:Heap} {μ:Str->Option Value} {b:List Stmt} {N:HP} {Rt X:Value->HP} {α:Type} {R:α->HP} (h:∀ a,Xs (model prog w) A env (Pc env h₀ μ (R a)) b N Rt X):Xs (model prog w) A env (Pc env h₀ μ (fun h=>∃ a,R a h)) b N Rt X :=
 fun s Q E p k1 k2 k3=>by obtain ⟨lo,a,r⟩:=p;exact h a s Q E ⟨lo,r⟩ k1 k2 k3
noncomputable def FnE (prog:Program) (w:World) (K:Frag) (f:Addr) (n:Nat) (vs:List Value) (Pre:HP) (Post:Value->Heap->Heap->Prop) (q:Prop) (C:Addr):Prop :=
 ∀ A s (R:Result->Shared->Prop) (args:List Value) base outer,Room n A->Gd K s.heap->(q->Below A base outer s.heap)->Pre s.heap->args.map tk0=vs ->
  (∀ v h' tk,Grows s.heap h'->Post (tk0 v) s.heap h'->R (.ok (.ret v)) { s with heap:=h',toks:=tk }) ->
  (∀ e a0 h' tk,q->Heap.FlyingW base outer e (.ref C) a0 h'->R (.error (.ref e)) { s with heap:=h',toks:=tk })->YZ7 (model prog w) A (.call (.ref f) ⟨args,[]⟩) R s
section
variable {prog:Program} {w:World} {A:Around} {K:Frag} {f:Addr} {n:Nat} {vs:List Value} {Pre:HP} {Post:Value->Heap->Heap->Prop} {C:Addr} {q:Prop}
 {name qual:Str} {params:Arguments} {body:List Stmt} {scope:Scope} {dV kV doc pm cdv ct oc:Value} {an od:Option Addr} {osl:Array (Option Value)}
theorem FnE.fn (hF:FnE prog w K f n vs Pre Post q C) (hq:¬ q):Fn prog w K f n vs Pre Post:=fun A s R args room G pre ha k=>hF A s R args s.heap [] room G (fun h=>absurd h hq) pre ha k fun _ _ _ _ h=>absurd h hq
theorem FnE.fx (hF:FnE prog w K f n vs Pre Post q C) (hq:∀ v h h',¬ Post v h h'):FnX prog w K f n vs Pre C:=fun A s R args base outer room G B pre ha k=>hF A s R args base outer room G (fun _=>B) pre ha (fun v h' tk _ p=>absurd p (hq _ _ _)) fun e a0 h' tk _ x=>k e a0 h' tk x
theorem FnE.mk (ns:List Str) (ds:List Value) (ho:K.lookup f=some ⟨oc,od,.func (fnOf name qual params body scope dV kV doc pm an cdv ct),osl⟩) (hcd:codeIn K cdv qual=true)
  (hbind:∀ s args,Gd K s.heap->args.length=vs.length->BindsTo s (fnOf name qual params body scope dV kV doc pm an cdv ct) ⟨args,[]⟩ (ns.zip (args++ds)))
  (hb:∀ h L A base outer,Gd K h->Pre h->(∀ b,L<=b->h.get? b=none)->Room n A->Fx K (envOf qual scope L f cdv) h->Cl (envOf qual scope L f cdv)->(q->Bw A base (envOf qual scope L f cdv) outer h)->Xs (model prog w) A (envOf qual scope L f cdv) (Pc (envOf qual scope L f cdv) h (YZ9 ns (vs++ds.map tk0)) (fun _=>True)) body (fun h'=>Grows h h'/\Post .none h h') (fun v h'=>Grows h h'/\Post v h h') (fun v h'=>q/\Rzd base (envOf qual scope L f cdv) outer C v h'))
  (hloc:autoParam ((ns.all fun y=>scope.names.lookup y==some .local)=true) tD) (hcell:autoParam (∀ x∈scope.names,x.2≠.cell) tD) (hco:autoParam (scope.isCoroutine=false) tR) (hgen:autoParam (scope.isGenerator=false) tR) (hk:autoParam (scope.kind=.function) tR) :
  FnE prog w K f (n+1) vs Pre Post q C:=fun A s R args base outer room G B pre hargs k k2=>by
 have Bw':q->Bw (A.deeper (envOf qual scope s.heap.objs.size f cdv)) base (envOf qual scope s.heap.objs.size f cdv) outer s.heap:=fun hq=>Bw.of base outer (envOf qual scope s.heap.objs.size f cdv) (B hq) (GZy (B hq).stays) rfl (by show scope.kind≠_;refine sE hk ?_;decide)
 exact BZ1 (vs:=vs) (W:=[]) (N:=fun h'=>Grows s.heap h'/\Post .none s.heap h') (Rt:=fun v h'=>Grows s.heap h'/\Post v s.heap h') (X:=fun v h'=>q/\Rzd base (envOf qual scope s.heap.objs.size f cdv) outer C v h') ns ds ho hcd hbind room G hargs (Xs.pre (hb s.heap _ _ base outer G pre (XZy _) room.deeper ⟨hk,rfl,rfl,G⟩ (Cl.nil rfl) Bw') (fun h p=>⟨p.1,trivial⟩)) (fun h' tk q=>k .none h' tk q.1 q.2) (fun v h' tk q=>k v h' tk q.1 q.2)
  (fun v h' tk x=>BZa (s:={ s with heap:=h',toks:=tk }) (Bw' x.1) x.2 (fun e a0 h'' ev fl=>by refine sE ev ?_;exact k2 e a0 h'' tk x.1 fl)) hloc hcell hco hgen hk
end
end
section
open PySem.SeqAt
section
variable {prog:Program} {w:World} {A:Around} {env:Env} {K:Frag} {h₀:Heap} {μ:Str->Option Value} {P:HP} {pos p1 pa pb fp ap:Pos} {e l r value slice:PySem.Expr} {es:List PySem.Expr} {cs ds:List Value} {c d:Value} {k:Int} {a:Addr} {V:Value->HP}
theorem SrcW.pairs {x y:Str} {kk:Nat} {P0:HP} {h:Heap} {as:List Addr} {xs:List (Value×Value)} (hh:A.handled=none) (hl:LsAt h a (as.map Value.ref)) (ht:∀ i,i<as.length->TpAt h (as.getD i 0) [(xs.getD i (.none,.none)).1,(xs.getD i (.none,.none)).2]) (hp:P0 h) :
  SrcW prog w A (.Tuple [.Name x pa,.Name y pb] kk p1) (fun env=>env.kindOf x=some .local/\env.kindOf y=some .local) [x,y] P0 (.ref a) h as.length (fun (i:Nat) μ=>up (up μ x (xs.getD i (.none,.none)).1) y (xs.getD i (.none,.none)).2) (a::as):=fun s Q E e k=>by
 refine J0 hl fun vs hlp e2=>?_;clear hl
 have hvs:vs=as.map Value.ref:=by
  have h1:vs.length=as.length:=by have:=congrArg List.length e2;simpa using this
  refine List.ext_getElem (by simpa using h1) fun i i1 i2=>?_
  have:=congrArg (fun l=>l[i]?) e2
  simp only [List.getElem?_map] at this
  rw [List.getElem?_eq_getElem i1,List.getElem?_eq_getElem (by simpa using i2)] at this
  simp only [Option.map_some,Option.some.injEq] at this
  exact sE (YZh this) (sE (List.getElem_map ..) rfl)
 subst hvs
 have hl:=hlp.isList
 subst e
 refine J0 (id hl) fun o ho _=>?_
 have lt:=Heap.lt_size ho
 have hlt:∀ b∈as,b<s.heap.objs.size:=fun b hb=>by
  obtain ⟨i,hi,rfl⟩:=List.getElem_of_mem hb
  obtain ⟨o,ho⟩:=(ht i hi).live
  rw [List.getD_eq_getElem?_getD,List.getElem?_eq_getElem hi] at ho
  exact Heap.lt_size ho
 have hT:∀ i,i<as.length->∃ v0 v1,s.heap.IsTuple (as.getD i 0) #[v0,v1]/\(tk0 v0,tk0 v1)=xs.getD i (.none,.none):=fun i hi=>by
  refine J0 (ht i hi) fun ws hw e=>?_
  refine J4 (tk2 e) ?_;rintro v0 v1 rfl e0 e1
  exact ⟨v0,v1,hw,by exact sE e0 (sE e1 rfl)⟩
 refine wpAny_pyIter_list hl ?_
 have W0:=Walks.list (prog:=prog) (w:=w) (A:=A) hh s.heap.objs.size a (Nat.ne_of_lt lt) (as.map Value.ref).toArray
 rw [show (as.map Value.ref).toArray.size=as.length by simp] at W0
 have W:Walks prog w A s.heap.objs.size (s.heap.objs.size::a::as) [s.heap.objs.size] as.length (fun i v=>(as.map Value.ref).toArray[i]?=some v) (fun i h=>(h.IsListIter s.heap.objs.size a i/\h.IsList a (as.map Value.ref).toArray)/\∀ i,i<as.length->∃ v0 v1,h.IsTuple (as.getD i 0) #[v0,v1]/\(tk0 v0,tk0 v1)=xs.getD i (.none,.none)):={
  sub:=fun b hb=>by refine sE (mS hb) ?_;exact List.mem_cons_self ..
  frame:=fun i h h' st hk=>⟨W0.frame i h h' st.1 fun b hb=>hk b (by
   rcases mC hb with rfl | hb
   ·exact List.mem_cons_self ..
   ·refine sE (mS hb) ?_;exact List.mem_cons_of_mem _ (List.mem_cons_self ..)),fun j hj=>by
   refine J2 (st.2 j hj) fun v0 v1 x e=>?_
   refine ⟨v0,v1,x.at fun o e=>hk _ ?_ o e,e⟩
   refine sE List.getD_eq_getElem?_getD (sE (List.getElem?_eq_getElem hj) ?_)
   exact List.mem_cons_of_mem _ (List.mem_cons_of_mem _ (List.getElem_mem hj))⟩
  item:=fun i s' Q E hi st k=>W0.item i s' Q E hi st.1 fun v h' tk p st' hk=>k v h' tk p ⟨st',fun j hj=>by
   refine J2 (st.2 j hj) fun v0 v1 x e=>?_
   refine ⟨v0,v1,x.at fun o e=>hk _ o ?_ e,e⟩
   refine sE List.getD_eq_getElem?_getD (sE (List.getElem?_eq_getElem hj) ?_)
   exact fun q=>absurd (hlt _ (List.getElem_mem hj)) (by refine sE (show as[j]=_ from mS q) ?_;exact Nat.lt_irrefl _)⟩ hk
  done:=fun s' Q E st k=>W0.done s' Q E st.1 k
  self:=fun i s' Q E st q=>W0.self i s' Q E st.1 q }
 refine k _ _ s.toks _ _ _ (Grows.push _ _) (fun b hb=>?_) (fun b hb=>?_) (Wk.pairL (a:=x) (b:=y) (pa:=pa) (pb:=pb) (p1:=p1) (k:=kk) (xs:=xs) hh W (fun i h st b hb=>?_) (fun i v h hi p st=>?_) (fun i v h hi p st s' Q' E' e q=>?_)) ?_ (fun b hb=>?_) (W.self 0)
 ·refine sE (mS hb) ?_;exact ⟨_,hp,YZg _⟩
 ·rcases mC hb with rfl | hb
  ·exact .inl ⟨_,hp,YZg _⟩
  ·exact .inr hb
 ·rcases mC hb with rfl | hb
  ·obtain ⟨⟨⟨o,ho,_⟩,_⟩,_⟩:=st;exact ⟨o,ho⟩
  ·rcases mC hb with rfl | hb
   ·obtain ⟨⟨_,⟨o,ho,_⟩⟩,_⟩:=st;exact ⟨o,ho⟩
   ·obtain ⟨j,hj,rfl⟩:=List.getElem_of_mem hb
    refine J2 (st.2 j hj) fun v0 v1 z02 _=>?_;refine J0 z02 fun o ho _=>?_;clear z02
    rw [List.getD_eq_getElem?_getD,List.getElem?_eq_getElem hj] at ho
    exact ⟨o,ho⟩
 ·refine J2 (st.2 i hi) fun v0 v1 x e=>?_
  refine ⟨as.getD i 0,v0,v1,?_,x,e⟩
  have:(as.map Value.ref)[i]?=some v:=by simpa using p
  rw [List.getElem?_map,List.getElem?_eq_getElem hi] at this
  refine sE List.getD_eq_getElem?_getD (sE (List.getElem?_eq_getElem hi) ?_)
  simpa using this.symm
 ·have:(as.map Value.ref)[i]?=some v:=by simpa using p
  rw [List.getElem?_map,List.getElem?_eq_getElem hi] at this
  obtain rfl:Value.ref as[i]=v:=by simpa using this
  exact wpAny_letOwnedTupleGo_listiter (s:=s') (e▸st.1.1) q
 ·refine ⟨⟨⟨_,Heap.get?_push_size _ rfl,rfl,rfl⟩,hl.push _⟩,fun j hj=>?_⟩
  refine J2 (hT j hj) fun v0 v1 x e=>?_
  exact ⟨v0,v1,x.at fun o e=>Heap.get?_push_of_some _ e,e⟩
 ·refine sE (Heap.size_push ..) ?_
  rcases mC hb with rfl | hb
  ·exact Nat.lt_succ_self _
  ·rcases mC hb with rfl | hb
   ·exact Nat.lt_succ_of_lt lt
   ·exact Nat.lt_succ_of_lt (hlt b hb)
theorem Ev.neg {i:Int} (h:Ev (model prog w) A env P e (I i)):Ev (model prog w) A env P (.UnaryOp .USub e pos) (I (-i)):=fun s Q E p k=>by
 refine sE (arm_eval_UnaryOp ..) ?_
 refine YZa (h s _ E p fun v h1 tk1 x=>?_)
 refine tkI x.1 fun t=>?_
 exact YZa (YZd (YZe (YZb (PySem.P.neg_int (k _ h1 _ ⟨rfl,x.2⟩)))))
theorem Ev.itemLn (hv:Ev (model prog w) A env P value (.ref a)) (hi:Ev (model prog w) A env P slice (I k)) (hT:∀ h,P h->LsAt h a cs) (h0:k<0) (h1:-(cs.length:Int)<=k) (hz:cs.length<=16777216) (hc:cs.getD (k+cs.length).toNat .none=c)
  (hs:autoParam (∀ b k u,subscripted slice false (.ref b) (.int k u)=operate [.ref b,.int k u] (getItem (.ref b) (.int k u))) tX)
  (ht:autoParam (∀ o r,letTemporaryGo value o r=pure ()) tY):Ev (model prog w) A env P (.Subscript value slice pos) c:=fun s Q E p kk=>by
 refine YZ2 (hv s _ E p fun v h1' tk1 x=>hi _ _ E x.2 fun u h2 tk2 y=>?_)
 refine sE (YZh x.1) ?_
 refine tkI y.1 fun t2=>?_
 refine J0 (hT _ y.2) fun vs hlp e=>?_
 have hl:=hlp.isList
 have hlen:vs.length=cs.length:=by exact sF e (sE (List.length_map ..) rfl)
 have hlt:(k+cs.length).toNat<vs.length:=by lia
 refine YZb (tail_of_ItemOn ⟨"list", _,slot_list_getitem.lookup,hl.typeIs,wpAny_getItem_list_neg hl h0 (by refine sE List.size_toArray (sE hlen ?_);exact h1) (by lia) (x:=vs[(k+cs.length).toNat]) (by refine sE List.size_toArray (sE hlen ?_);simp [hlt]) (kk _ _ _ ⟨?_,y.2⟩)⟩ (hs _ _ _) (ht _))
 refine sF hc ?_
 generalize (k+cs.length).toNat=j at *
 refine sF e (sE List.getD_eq_getElem?_getD (sE List.getElem?_map (sE (List.getElem?_eq_getElem hlt) ?_)));rfl
theorem GZu {M:Model} {A:Around} {E:Value->Shared->Prop} {s:Shared} {o i:Value} {ops:List Value} {Q:Value->Shared->Prop} (hM:M=model prog w) (h:ItemOn M A E o i Q s)
  (hs:subscripted slice false o i=operate ops (getItem o i)):wpAny M A (subscriptTail value slice o i) Q E s:=by
 subst hM
 refine J4 h fun T id hl hT hg=>?_;clear h
 unfold subscriptTail
 refine wpAny_bind ?_
 refine sE (getitemInPython_of_ne hT.not_modules) ?_
 refine wpAny_bind (wpAny_specialOf hT hl ?_)
 have fin:wpAny (model prog w) A (subscripted slice false o i) (fun r s₃=>wpAny (model prog w) A (letTemporaryGo value o r >>= fun _=>pure r) Q E s₃) E s:=by
  refine sE hs ?_
  exact wpAny_operating (wpAny_mono hg (fun r s₃ h₃=>wpAny_bind (wpAny_letTemporaryGo (wpAny_pure h₃))) fun _ _ x=>x)
 first
  | exact wpAny_pure (wpAny_bind fin)
  | exact wpAny_bind (wpAny_pure (wpAny_bind fin))
  | exact wpAny_bind fin
theorem Ev.itT (hv:Ev (model prog w) A env P value (.ref a)) (hi:Ev (model prog w) A env P slice (I k)) (hT:∀ h,P h->TpAt h a cs) (h0:0<=k) (h1:k<cs.length) (hz:cs.length<=16777216) (hc:cs.getD k.toNat .none=c)
  (hs:autoParam (∀ b k u,subscripted slice false (.ref b) (.int k u)=operate [.ref b,.int k u] (getItem (.ref b) (.int k u))) tX):Ev (model prog w) A env P (.Subscript value slice pos) c:=fun s Q E p kk=>by
 refine YZ2 (hv s _ E p fun v h1' tk1 x=>hi _ _ E x.2 fun u h2 tk2 y=>?_)
 refine sE (YZh x.1) ?_
 refine tkI y.1 fun t2=>?_
 refine J0 (hT _ y.2) fun vs hl e=>?_
 have hlen:vs.length=cs.length:=by exact sF e (sE (List.length_map ..) rfl)
 have hj:seqIndex? k vs.toArray.size=some k.toNat:=seq_i (by lia) (by refine sE List.size_toArray ?_;lia)
 have hlt:k.toNat<vs.length:=by lia
 refine YZb (GZu rfl ⟨"tuple", _,slot_tuple_getitem.lookup,hl.typeIs,PyProof.Rows.getItem_tuple hl (by lia) (by lia) hj (x:=vs[k.toNat]) (by simp [hlt]) (kk _ _ _ ⟨?_,y.2⟩)⟩ (hs _ _ _))
 refine sF hc (sF e (sE List.getD_eq_getElem?_getD (sE List.getElem?_map (sE (List.getElem?_eq_getElem hlt) ?_))));rfl
theorem Ev.itL (hv:Ev (model prog w) A env P value (.ref a)) (hi:Ev (model prog w) A env P slice (I k)) (hT:∀ h,P h->LsAt h a cs) (h0:0<=k) (h1:k<cs.length) (hz:cs.length<=16777216) (hc:cs.getD k.toNat .none=c)
  (hs:autoParam (∀ b k u,subscripted slice false (.ref b) (.int k u)=operate [.ref b,.int k u] (getItem (.ref b) (.int k u))) tX):Ev (model prog w) A env P (.Subscript value slice pos) c:=fun s Q E p kk=>by
 refine YZ2 (hv s _ E p fun v h1' tk1 x=>hi _ _ E x.2 fun u h2 tk2 y=>?_)
 refine sE (YZh x.1) ?_
 refine tkI y.1 fun t2=>?_
 refine J0 (hT _ y.2) fun vs hlp e=>?_
 have hl:=hlp.isList
 have hlen:vs.length=cs.length:=by exact sF e (sE (List.length_map ..) rfl)
 have hlt:k.toNat<vs.length:=by lia
 refine YZb (GZu rfl ⟨"list", _,slot_list_getitem.lookup,hl.typeIs,wpAny_getItem_list hl h0 (by lia) (x:=vs[k.toNat]) (by simp [hlt]) (kk _ _ _ ⟨?_,y.2⟩)⟩ (hs _ _ _))
 refine sF hc (sF e (sE List.getD_eq_getElem?_getD (sE List.getElem?_map (sE (List.getElem?_eq_getElem hlt) ?_))));rfl
theorem Cm.eqS {x y:Str}:Cm prog w A .Eq (Sx x) (Sx y) (x.cps.toList==y.cps.toList):=fun s Q E v u ha hb h=>by refine tkS ha fun _=>?_;refine tkS hb fun _=>?_;exact YZb (P.eq_str (h _ _ rfl))
theorem Cm.neS {x y:Str}:Cm prog w A .NotEq (Sx x) (Sx y) (x.cps.toList != y.cps.toList):=fun s Q E v u ha hb h=>by refine tkS ha fun _=>?_;refine tkS hb fun _=>?_;exact YZb (P.ne_str (h _ _ rfl))
theorem Ist.cmpP {op:CmpOp} {a:Value} {d:Bool} (hl:Ev (model prog w) A env P l a) (hr:EvP (model prog w) A env P r V)
  (ho:∀ (s:Shared) (Q:Value->Shared->Prop) E v u,P s.heap->tk0 v=a->V (tk0 u) s.heap->(∀ x tk,tk0 x=.bool d->Q x { s with toks:=tk })->wpC (model prog w) A (compareOp op v u) Q E s)
  (hm:autoParam (behindInMarks op r=false) tW):Ist (model prog w) A env P (.Compare l [op] [r] pos) d:=fun s Q E p k =>
 XZf (hl s _ E p fun v h1 tk1 x=>hr _ _ E x.2 fun u h2 tk2 y=>ho _ _ _ _ _ y.2 x.1 y.1 fun z tk e=>by
  refine sE (VZp e) ?_;exact YZb (wpAny_truthy_bool (k d _ tk ⟨rfl,y.2⟩))) hm
theorem HZc {vs:List Value} (e:vs.map tk0=cs):vs.toArray.size=cs.length:=by exact sF e (sE (List.length_map ..) (sE List.size_toArray rfl))
theorem Ist.eqLn {cs ds:List Value} (hl:Ev (model prog w) A env P l (.ref a)) (ha:∀ h,P h->LsAt h a cs) (hr:EvP (model prog w) A env P r (fun v h=>∃ b,v=.ref b/\LsAt h b ds)) (hn:cs.length≠ds.length) (hu:A.units<cLine)
  (hm:autoParam (behindInMarks .Eq r=false) tW):Ist (model prog w) A env P (.Compare l [.Eq] [r] pos) false :=
 Ist.cmpP hl hr (fun s Q E v u p ev q k=>by
  refine J8 q fun b eu us hb e2=>?_;clear q
  refine sE (YZh ev) (sE (YZh eu) ?_)
  refine J0 (ha _ p) fun vs hv e1=>?_
  exact YZb (eq_list_lengthsAt hv.isList hb.isList (by refine sE (HZc e1) (sE (HZc e2) ?_);simpa using hn) hu (k _ s.toks rfl))) hm
noncomputable def isX (x:Str):Value->Bool
 | .str y _=>y==x
 | _=>false
theorem isX_eq {s:Shared} {A:Around} {x:Str} {t:Tok}:∀ {vs:List Value} {xs:List Str},vs.map tk0=xs.map Sx->∀ y∈vs,EqAt A s y (.str x t) (isX x y)
 | [],_,_,y,hy=>by cases hy
 | _::_,[],e,_,_=>by cases e
 | v::vs,z::zs,e,y,hy=>by
  obtain ⟨e1,e2⟩:=List.cons.inj e
  rcases mC hy with rfl | hy
  ·refine tkS e1 fun t2=>?_
   exact (eqGives_str z x t2 t).at A s
  ·exact isX_eq e2 y hy
theorem isX_any {x:Str}:∀ {vs:List Value} {xs:List Str},vs.map tk0=xs.map Sx->vs.any (isX x)=xs.any (·==x)
 | [],[],_=>rfl
 | [],_::_,e=>by cases e
 | _::_,[],e=>by cases e
 | v::vs,z::zs,e=>by
  obtain ⟨e1,e2⟩:=List.cons.inj e
  refine tkS e1 fun t2=>?_
  refine sE List.any_cons (sE List.any_cons (sE (isX_any e2) ?_));rfl
theorem HZh {x:Str}:∀ {vs:List Value} {xs:List Str},vs.map tk0=xs.map Sx->vs.countP (isX x)=xs.countP (·==x)
 | [],[],_=>rfl
 | [],_::_,e=>by cases e
 | _::_,[],e=>by cases e
 | v::vs,z::zs,e=>by
  obtain ⟨e1,e2⟩:=List.cons.inj e
  refine tkS e1 fun t2=>?_
  refine sE List.countP_cons (sE List.countP_cons (sE (HZh e2) ?_));rfl
theorem Ist.notInS {x:Str} {xs:List Str} (hl:Ev (model prog w) A env P l (Sx x)) (hr:Ev (model prog w) A env P r (.ref a)) (ha:∀ h,P h->LsAt h a (xs.map Sx))
  (hm:autoParam (behindInMarks .NotIn r=false) tW):Ist (model prog w) A env P (.Compare l [.NotIn] [r] pos) (!xs.any (·==x)) :=
 Ist.cmpP hl hr.toP (fun s Q E v u p ev q k=>by
  refine tkS ev fun t=>?_
  refine sE (YZh q) ?_
  refine J0 (ha _ p) fun vs hv e1=>?_
  refine YZb (notIn_listAt (isX x) hv.isList (fun y hy=>isX_eq e1 y (by simpa using hy)) (k _ s.toks ?_))
  refine sF (isX_any e1) (sE List.any_toArray ?_);rfl) hm
theorem Ev.countS {x:Str} {xs:List Str} (hv:Ev (model prog w) A env P value (.ref a)) (hl:∀ h,P h->LsAt h a (xs.map Sx)) (hx:Ev (model prog w) A env P e (Sx x))
  (hbase:autoParam (attributeBase value "count" env (eval value env)=eval value env) tR) (hline:autoParam ((ap.endLine==pos.line)=true) tR) (hfew:autoParam (methodCallForm ([e].length+([]:List Keyword).length) (backTo pos (starEach [e] env)) (backToKw pos (keywordEach [] env))=true) tR)
  (he2:autoParam (starEach [e] env=(false,eval e env)::starEach [] env) tR) (hpl:autoParam ((backTo pos (starEach [e] env)).any (·.1)=false) tR) :
  Ev (model prog w) A env P (.Call (.Attribute value "count" ap) [e] [] pos) (I ((xs.countP (·==x):Nat):Int)):=fun s Q E p kk=>by
 refine Tr.method (V:=fun v h=>tk0 v=I ((xs.countP (·==x):Nat):Int)/\P h) hv (Evs.cons hx Evs.nil he2) (id := "list.count") (fun s pl Q E ov p hov q=>?_) (fun s Q E ov v p hov hv k2=>?_) hbase hline hfew he2 hpl s Q E p kk
 ·rw [YZh hov] at q ⊢
  refine J0 (hl _ p) fun vs z01 e1=>?_;obtain ⟨n,ho⟩:=z01
  exact getMethod_builtin ⟨_,ho,rfl⟩ PySem.F.plainAttrs_list PySem.F.slot_list_count PySem.F.type_list_count (fun a e=>by cases e;exact ⟨_,ho,rfl⟩) q
 ·refine sE (YZh hov) ?_
  refine J0 (tk1 hv) ?_;rintro u rfl e2
  refine tkS e2 fun t=>?_
  refine J0 (hl _ p) fun vs z01 e1=>?_;obtain ⟨n,ho⟩:=z01
  refine YZb (call_meets PySem.F.slot_list_count ⟨_,ho,rfl⟩ PySem.F.entry_list_count (PySem.F.args_list_count_2 _ _) (list_countAt a vs.toArray n none _ (.str x t) (isX x)) ⟨ho,fun y hy=>isX_eq e1 y (by simpa using hy),k2 _ _ _ ⟨?_,p⟩⟩)
  show I _=I _
  exact sF (HZh e1) rfl
end
end
section
open PySem.SeqAt
section
variable {prog:Program} {w:World} {A:Around} {env:Env} {K:Frag} {h₀:Heap} {μ:Str->Option Value} {P:HP} {pos p1 spos:Pos} {elt iter target:PySem.Expr} {ifs:List PySem.Expr} {scope:Scope} {cl:List (Str×Addr)} {x:Str} {rest:List Stmt} {N:HP} {Rt X:Value->HP}
theorem Ist.as {e:PySem.Expr} {d d':Bool} (h:Ist (model prog w) A env P e d) (e':d=d'):Ist (model prog w) A env P e d':=e'▸h
noncomputable def Acc (T:Nat->Value->HP) (J:HP) (i:Nat) (xs:List Value) (h:Heap):Prop:=xs.length=i/\(∀ j,j<i->T j (xs.getD j .none) h)/\J h
theorem Acc.push {T:Nat->Value->HP} {J':HP} {i:Nat} {xs:List Value} {h':Heap} {c:Value} (a:xs.length=i) (t:∀ j,j<i->T j (xs.getD j .none) h') (n:T i c h') (j:J' h'):Acc T J' (i+1) (xs++[c]) h':=by
 refine ⟨by refine sE List.length_append (sE a ?_);rfl,fun k hk=>?_,j⟩
 by_cases hki:k<i
 ·refine sE (show (xs++[c]).getD k .none=xs.getD k .none by rw [List.getD_eq_getElem?_getD,List.getElem?_append_left (by lia),List.getD_eq_getElem?_getD]) ?_
  exact t k hki
 ·have:k=i:=by lia
  subst this
  refine sE (show (xs++[c]).getD k .none=c by rw [List.getD_eq_getElem?_getD,List.getElem?_append_right (by lia),a,Nat.sub_self];rfl) ?_
  exact n
theorem Sf.accs {W:List Addr} {T:Nat->Value->HP} {i:Nat} {xs:List Value} (h:∀ j,Sf W (T j (xs.getD j .none))):Sf W (fun h=>xs.length=i/\∀ j,j<i->T j (xs.getD j .none) h):=fun h1 h2 k q=>⟨q.1,fun j hj=>h j _ _ k (q.2 j hj)⟩
theorem Tr.compG {Y:Type} {V:Y->Value->HP} {ok:Env->Prop} {ns:List Str} (F:Fx K env h₀) (O:CompOk env scope cl ok) (hcl:Cl env) (Wd:List Addr) (hWd:∀ h,Pc env h₀ μ P h->∀ b∈Wd,∃ o,h.get? b=some o) (hWlo:OffL env h₀ Wd)
  (he:EvP (model prog w) A env (Pc env h₀ μ P) iter (fun c h=>∃ y,V y c h)) (n:Y->Nat) (bd:Y->Nat->(Str->Option Value)->Str->Option Value) (RO:Y->List Addr)
  (hsrc:∀ y v h,V y (tk0 v) h->Pc env h₀ μ P h->SrcW prog w A target ok ns (Pc env h₀ μ P) v h (n y) (bd y) (RO y)) (hro:∀ y c h,V y c h->Pc env h₀ μ P h->∀ b∈RO y,b∉Wd) (hn:∀ y c h,V y c h->Pc env h₀ μ P h->n y<=sizeLine)
  (T:Y->List Addr->Nat->Value->HP) (J:Y->HP) (hT:∀ y W i v,Sf W (T y W i v)) (hT2:∀ y W i v Wx,(∀ b∈Wx,b∈Wd∨New (T y W i v) b)->Sf Wx (T y W i v)) (hJ:∀ y W,(∀ b∈W,New (Pc env h₀ μ P) b)->Sf W (J y)) (hg:∀ h h',Grows h h'->P h->P h') (hP:∀ y c h h',V y c h->Grows h h'->P h'->J y h')
  (helt:∀ y W,(∀ b∈W,New (Pc env h₀ μ P) b)->∀ i (B:HP) C,New (Pc env h₀ μ P) C->Fx K (compEnvC scope cl C env) h₀->i<n y->Sf Wd B->(∀ h,B h->Lo env h₀ μ h)->(∀ h μ',Lo (compEnvC scope cl C env) h₀ μ' h->B h->∀ b∈W,∃ o,h.get? b=some o)->(∀ Wx,(∀ b∈Wx,b∈Wd∨New B b)->Sf Wx B) ->
   EvP (model prog w) A (compEnvC scope cl C env) (Pc (compEnvC scope cl C env) h₀ (bd y i (cmu cl μ)) (fun h=>J y h/\B h)) elt (T y W i))
  (hs:autoParam (∀ v,foldedSetIterable iter env v=Pure.pure v) tI) :
  Tr (model prog w) A (Pc env h₀ μ P) (eval (.ListComp elt [⟨target,iter,[],0⟩] scope pos) env) (fun v h=>∃ y W D xs,v=.ref D/\(∀ b∈W,New (Pc env h₀ μ P) b)/\New (Pc env h₀ μ P) D/\Pc env h₀ μ (fun h=>LsAt h D xs/\Acc (T y W) (J y) (n y) xs h) h):=by
 refine Tr.comp F O hcl Wd hWd hWlo he n bd RO hsrc hro hn (fun y W i xs h=>Acc (T y W) (J y) i xs h) (fun y i xs W hW h1 h2 k q=>⟨q.1,fun j hj=>hT y W j _ _ _ k (q.2.1 j hj),hJ y W hW _ _ k q.2.2⟩) hg (fun _ _=>true) (fun y c h h' v g p W hW=>⟨rfl,fun j hj=>absurd hj (Nat.not_lt_zero _),hP y c h h' v g p⟩) ?_ ?_ (fun _ _ _ _ _ _ h=>by cases h) hs
 ·intro y W hW i xs B C hC hF hi hB hB2 _ _ s Q E p k
  exact XZd (k true s.heap s.toks ⟨rfl,p⟩)
 ·intro y W hW i xs B C hC hF hi _ hB hB2 hlv hst
  refine Tr.post (Tr.pre (helt y W hW i (fun h=>B h/\xs.length=i/\∀ j,j<i->T y W j (xs.getD j .none) h) C hC hF hi (Sf.and hB (Sf.accs fun j=>hT2 y W j _ Wd fun b hb=>.inl hb)) (fun h q=>hB2 h q.1) (fun h μ' l q=>hlv h μ' l q.1) (fun Wx hx=>?_)) fun h q=>⟨q.1,q.2.2.2.2,q.2.1,q.2.2.1,q.2.2.2.1⟩) fun v h q=>?_
  ·intro h1 h2 k q
   refine ⟨hst Wx (fun b hb=>?_) _ _ k q.1,q.2.1,fun j hj=>hT2 y W j _ Wx (fun b hb=>?_) _ _ k (q.2.2 j hj)⟩
   ·rcases hx b hb with e | ⟨h,p,e⟩
    ·exact .inl e
    ·exact .inr ⟨h,p.1,e⟩
   ·rcases hx b hb with e | ⟨h,p,e⟩
    ·exact .inl e
    ·exact .inr ⟨h,p.2.2 j hj,e⟩
  ·obtain ⟨t,lo,j,b,l,tt⟩:=q
   exact ⟨lo,b,Acc.push l tt t j⟩
theorem EvP.compF {ok:Env->Prop} {ns:List Str} {c:Value} {test:PySem.Expr} {n:Nat} {bd:Nat->(Str->Option Value)->Str->Option Value} {RO:List Addr} (F:Fx K env h₀) (O:CompOk env scope cl ok) (hcl:Cl env)
  (he:Ev (model prog w) A env (Pc env h₀ μ P) iter c) (hsrc:∀ v h,tk0 v=c->Pc env h₀ μ P h->SrcW prog w A target ok ns (Pc env h₀ μ P) v h n bd RO) (hn:n<=sizeLine)
  (hP:∀ W,(∀ b∈W,New (Pc env h₀ μ P) b)->Sf W P) (tb:Nat->Bool) (f:Nat->Value)
  (htest:∀ i (B:HP) C,New (Pc env h₀ μ P) C->Fx K (compEnvC scope cl C env) h₀->i<n->Sf [] B->(∀ h,B h->Lo env h₀ μ h/\P h)->Ist (model prog w) A (compEnvC scope cl C env) (Pc (compEnvC scope cl C env) h₀ (bd i (cmu cl μ)) B) test (tb i))
  (helt:∀ i (B:HP) C,New (Pc env h₀ μ P) C->Fx K (compEnvC scope cl C env) h₀->i<n->tb i=true->Sf [] B->(∀ h,B h->Lo env h₀ μ h/\P h)->Ev (model prog w) A (compEnvC scope cl C env) (Pc (compEnvC scope cl C env) h₀ (bd i (cmu cl μ)) B) elt (f i))
  (hs:autoParam (∀ v,foldedSetIterable iter env v=pure v) tI) :
  EvP (model prog w) A env (Pc env h₀ μ P) (.ListComp elt [⟨target,iter,[test],0⟩] scope pos) (fun v h=>∃ D,v=.ref D/\New (Pc env h₀ μ P) D/\LsAt h D (((List.range n).filter tb).map f)):=by
 refine Tr.post (Tr.comp (Y:=Unit) (V:=fun _ v _=>v=c) F O hcl [] (fun _ _ b hb=>nomatch hb) OffL.nil (Tr.post he fun v h q=>⟨⟨(),q.1⟩,q.2⟩) (fun _=>n) (fun _=>bd) (fun _=>RO) (fun _ v h e p=>hsrc v h e p) (fun _ _ _ _ _ _ _ hb=>nomatch hb) (fun _ _ _ _ _=>hn) (fun y _ i xs h=>xs=((List.range i).filter tb).map f/\P h)
  (fun y i xs W hW=>Sf.and Sf.const (hP W hW)) (fun h h' g p=>(hP [] (fun b hb=>nomatch hb)).grow g p) (fun _ i=>tb i) (fun y c h h' _ _ p _ _=>⟨rfl,p⟩) ?_ ?_ ?_ hs) fun v h q=>?_
 ·intro y W hW i xs B C hC hF hi hB hB2 _ _ s Q E p k
  refine BZ7 (Tr.pre (htest i (fun h=>B h/\xs=((List.range i).filter tb).map f/\P h) C hC hF hi (Sf.and hB (Sf.and Sf.const (hP [] fun b hb=>nomatch hb))) fun h q=>⟨hB2 h q.1,q.2.2⟩) (fun h q=>q) s Q E p fun v h tk q=>k v h tk q)
 ·intro y W hW i xs B C hC hF hi ht hB hB2 _ _
  refine Tr.post (Tr.pre (helt i (fun h=>B h/\xs=((List.range i).filter tb).map f/\P h) C hC hF hi ht (Sf.and hB (Sf.and Sf.const (hP [] fun b hb=>nomatch hb))) fun h q=>⟨hB2 h q.1,q.2.2⟩) fun h q=>q) fun v h q=>⟨q.2.1,q.2.2.1,?_,q.2.2.2.2⟩
  refine sE q.2.2.2.1 (sE q.1 (sE List.range_succ (sE (List.filter_append ..) (sE List.map_append (sE List.filter_cons (sE (if_pos ht) ?_))))));rfl
 ·intro y W i xs h hi ht q
  refine ⟨?_,q.2⟩
  refine sE q.1 (sE List.range_succ (sE (List.filter_append ..) (sE List.map_append (sE List.filter_cons (sE (if_neg (by rw [ht];decide)) ?_)))));simp
 ·obtain ⟨y,W,D,xs,rfl,_,hD,lo,ls,rfl,p⟩:=q
  exact ⟨⟨D,rfl,hD,ls⟩,lo,p⟩
theorem Xs.compN {ok:Env->Prop} {ns:List Str} {c:Value} {n:Nat} {bd:Nat->(Str->Option Value)->Str->Option Value} {RO:List Addr} (F:Fx K env h₀) (O:CompOk env scope cl ok) (hcl:Cl env)
  (he:Ev (model prog w) A env (Pc env h₀ μ P) iter c) (hsrc:∀ v h,tk0 v=c->Pc env h₀ μ P h->SrcW prog w A target ok ns (Pc env h₀ μ P) v h n bd RO) (hn:n<=sizeLine)
  (hP:∀ W,(∀ b∈W,New (Pc env h₀ μ P) b)->Sf W P) (hPl:Sf [env.locals] P) (f:Nat->Value)
  (helt:∀ i (B:HP) C,New (Pc env h₀ μ P) C->Fx K (compEnvC scope cl C env) h₀->i<n->Sf [] B->(∀ h,B h->Lo env h₀ μ h/\P h)->Ev (model prog w) A (compEnvC scope cl C env) (Pc (compEnvC scope cl C env) h₀ (bd i (cmu cl μ)) B) elt (f i))
  (hr:∀ D,New (Pc env h₀ μ P) D->Xs (model prog w) A env (Pc env h₀ (up μ x (.ref D)) (fun h=>LsAt h D ((List.range n).map f)/\P h)) rest N Rt X)
  (hx:autoParam (env.kindOf x=some .local) tR) (hs:autoParam (∀ v,foldedSetIterable iter env v=pure v) tI) (hsw:autoParam (swapsWith (.ListComp elt [⟨target,iter,[],0⟩] scope pos) (some (.Name x p1)) spos.line env=pure true) tR) :
  Xs (model prog w) A env (Pc env h₀ μ P) (.Assign [.Name x p1] (.ListComp elt [⟨target,iter,[],0⟩] scope pos) spos::rest) N Rt X:=by
 refine Xs.comp (Y:=Unit) (V:=fun _ v _=>v=c) F O hcl [] (fun _ _ b hb=>nomatch hb) OffL.nil (Tr.post he fun v h q=>⟨⟨(),q.1⟩,q.2⟩) (fun _=>n) (fun _=>bd) (fun _=>RO)
  (fun _ v h e p=>hsrc v h e p) (fun _ _ _ _ _ _ _ hb=>nomatch hb) (fun _ _ _ _ _=>hn) (fun y _ i xs h=>xs=(List.range i).map f/\P h)
  (fun y i xs W hW=>Sf.and Sf.const (hP W hW)) (fun _ _ _ _=>Sf.and Sf.const hPl) (fun h h' g p=>(hP [] (fun b hb=>nomatch hb)).grow g p) (fun _ _=>true) (fun y c h h' _ _ p _ _=>⟨rfl,p⟩) ?_ ?_ (fun _ _ _ _ _ _ h=>by cases h) ?_ hx hs hsw
 ·intro y W hW i xs B C hC hF hi hB hB2 _ _ s Q E p k
  exact XZd (k true s.heap s.toks ⟨rfl,p⟩)
 ·intro y W hW i xs B C hC hF hi _ hB hB2 _ _
  refine Tr.post (Tr.pre (helt i (fun h=>B h/\xs=(List.range i).map f/\P h) C hC hF hi (Sf.and hB (Sf.and Sf.const (hP [] fun b hb=>nomatch hb))) fun h q=>⟨hB2 h q.1,q.2.2⟩) fun h q=>q) fun v h q=>⟨q.2.1,q.2.2.1,?_,q.2.2.2.2⟩
  refine sE q.2.2.2.1 (sE q.1 (sE List.range_succ (sE List.map_append ?_)));rfl
 ·intro _ W D xs _ hD
  exact Xs.pre (hr D hD) fun h q=>⟨q.1,by refine sF q.2.2.1 ?_;exact q.2.1,q.2.2.2⟩
end
end
section
open PySem.SeqAt
open AutoSeq1 (wpAny_loadPart')
namespace BF
theorem by_len:typeLookup (.type "bytes") "__len__" = pure (some (.builtin "bytes.__len__")):=by refine sE (typeLookup_type ..) (sE builtinLookup_eq_fast ?_);kernel_rfl
theorem sub_bytes:isSubtype (.type "bytes") (.type "bytes")=pure true:=by refine sE (isSubtype_type ..) ?_;kernel_rfl
end BF
section
variable {prog:Program} {w:World} {A:Around} {E:Value->Shared->Prop} {s:Shared}
noncomputable def IxOf (ks:List Int) (i:Nat) (v:Value):Prop:=tk0 v=(ks.map I).getD i .none
theorem DZz {Q:List Value->Shared->Prop} {ks:List Int} {t:Tok} (hh:A.handled=none) (hk:InB ks)
  (hQ:∀ s' acc,(∀ b o,s.heap.get? b=some o->s'.heap.get? b=some o)->s'.gens=s.gens->s'.drawn=s.drawn->s'.os=s.os->ItemsOf (IxOf ks) acc ks.length->Q acc.toList s') (hn:ks.length<=sizeLine) :
  wpAny (model prog w) A (collect (.bytes (bA ks) t)) Q E s:=by
 unfold collect
 refine wpAny_bind (wpAny_runValue (codeAny_builtin F.entry_proto_collect ?_))
 refine sE (Around.under_plainId F.plain_proto_collect _) ?_
 show wpAny _ A.in1 (newList [] >>= fun l=>again (.builtin "list.__iadd__" ⟨[l,.bytes (bA ks) t],[]⟩)) _ _ s
 refine wpAny_bind (wpAny_newObj_type ?_)
 refine wpAny_pure ⟨plainId_quiet F.plain_list_iadd _,codeAny_builtin F.entry_list_iadd ?_⟩
 refine sE (Around.under_plainId F.plain_list_iadd _) ?_
 show wpAny _ A.in1 (Builtin.List.listExtendWith (.ref s.heap.objs.size) (.bytes (bA ks) t) (.ref s.heap.objs.size)) _ _ _
 unfold Builtin.List.listExtendWith
 refine wpAny_bind (wpAny_typeOf (T := "bytes") (v:=.bytes (bA ks) t) rfl ?_)
 have h1:Builtin.List.listSameRef (.ref s.heap.objs.size) (.bytes (bA ks) t)=false:=rfl
 have h2:(Value.type "bytes" == Value.type "list")=false:=by decide
 have h3:(Value.type "bytes" == Value.type "tuple")=false:=by decide
 simp only [h1,h2,h3,Bool.or_false,Bool.false_eq_true,if_false]
 generalize hH:s.heap.push { cls:=.type "list", data:=.seq ([]:List Value).toArray }=H
 have hHs:H.objs.size=s.heap.objs.size+1:=by exact sF hH (sE (Heap.size_push ..) rfl)
 refine wpAny_bind (Src.bytes (prog:=prog) (w:=w) (A:=A.in1) (h:=H) hh hk _ _ _ rfl fun h' It tk fp wr St hIn g hlt W hst hlv hfp hwr=>?_)
 rw [List.length_map] at W
 refine wpAny_bind (wpAny_holding ?_)
 unfold Builtin.List.listLengthHint
 refine wpAny_bind (wpAny_specialOf (T := "bytes") (v:=.bytes (bA ks) t) rfl BF.by_len ?_)
 wp_delta
 refine wpAny_bind (wpAny_isInstance (T := "bytes") (v:=.bytes (bA ks) t) (b:=true) rfl BF.sub_bytes ?_)
 show wpAny _ A.in1 (typeOf (Value.bytes (bA ks) t) >>= _) _ _ _
 refine wpAny_bind (wpAny_typeOf (T := "bytes") (v:=.bytes (bA ks) t) rfl ?_)
 refine wpAny_pure ?_
 refine sE (if_neg (by decide)) ?_
 have hSS:H.get? s.heap.objs.size=some { cls:=.type "list", data:=.seq ([]:List Value).toArray }:=hH▸Heap.get?_push_size _ rfl
 have hSf:s.heap.objs.size∉fp:=fun hm=>(hfp _ hm).elim (fun e=>by rw [e,hIn] at hSS;cases hSS) (fun e=>by cases e)
 have hS:h'.get? s.heap.objs.size=some { cls:=.type "list", data:=.seq ([]:List Value).toArray }:=g _ _ hSS
 refine wpAny_pure ⟨plainId_quiet F.plain_extend_loop _,codeAny_extend_loopS W.toS hn _ hSf _ ks.length 0 _ _ _ rfl (Nat.zero_le _) hst hS (ItemsOf.nil _) fun s' acc' c' hm hS' hacc=>?_⟩
 show wpAny _ A (load s.heap.objs.size >>= _) _ _ s'
 refine wpAny_bind (wpAny_load hS' ?_)
 refine wpAny_pure (hQ s' acc' (fun b ob e=>hm.heap b ob (fun hb=>?_) (g _ _ (hH▸Heap.get?_push_of_some _ e))) hm.gens hm.drawn hm.os hacc)
 have hlt':=Heap.lt_size e
 rcases mC hb with h | h
 ·exact absurd hlt' (h▸Nat.lt_irrefl _)
 ·rw [hwr _ h] at e
  have:H.get? It=some ob:=hH▸Heap.get?_push_of_some _ e
  rw [hIn] at this;cases this
theorem UZ7 {ks:List Int} {t:Tok} (hk:InB ks) (hsz:ks.length<=sizeLine) :
  Meets (Builtin.«tuple.__new__» ⟨[.type "tuple", .bytes (bA ks) t],[]⟩)
   (fun A R s=>A.handled=none/\∀ (s':Shared) (acc:Array Value),(∀ b o,s.heap.get? b=some o->s'.heap.get? b=some o)->s'.gens=s.gens->s'.drawn=s.drawn->s'.os=s.os->ItemsOf (IxOf ks) acc ks.length ->
    R (.ok (.ret (.ref s'.heap.objs.size))) { s' with heap:=s'.heap.push { cls:=.type "tuple", data:=.seq acc } }) :=
 .of_wp fun prog w A R s h=>by
  obtain ⟨hh,h⟩:=h
  have hsub:=sub_tuple_self
  have hinit:=init_tuple_lookup
  have hmh:=madeHere_tuple
  have hT:s.TypeIs (.bytes (bA ks) t) "bytes" := rfl
  have hh1:A.in1.handled=none:=hh
  wp_walk using wpAny_typeOf hT,DZz (hn:=hsz) hh1 hk
  intro s' acc hk hg hd hos hacc
  show wpAny _ _ (Builtin.Tuple.tupleExact acc.toList.toArray >>= fun v=>ret v) _ _ _
  unfold Builtin.Tuple.tupleExact
  refine wpAny_bind (wpAny_newObj_type ?_ (show acc.toList.toArray.size<=sizeLine by simp only [Array.toArray_toList];refine sE hacc.1 ?_;exact hsz))
  refine wpAny_pure ⟨_,rfl,?_⟩
  have e:acc.toList.toArray=acc:=by simp
  refine sE e ?_
  exact h s' acc hk hg hd hos hacc
theorem GZq {Q:Value->Shared->Prop} {ks:List Int} {t:Tok} (hk:InB ks) (hh:A.handled=none)
  (h:∀ (h':Heap) (tk:Nat) a,s.heap.get? a=none->Grows s.heap h'->TpAt h' a (ks.map I)->Q (.ref a) { s with heap:=h',toks:=tk })
  (hsz:ks.length<=sizeLine):wpAny (model prog w) A (call (.type "tuple") [.bytes (bA ks) t]) Q E s:=by
 refine callType_new F.called_tuple (by decide) (F.typeCall_tuple_1 _) (F.newCall_tuple_1 _) (fun obj=>F.args_object_init_2 obj _) F.entry_tuple_new
  (UZ7 hk hsz) ⟨hh,fun s' acc hk hg hd hos hacc=>⟨⟨_,Heap.get?_push_size _ rfl,rfl⟩,?_⟩⟩
 obtain ⟨h',g',d',tk',os'⟩:=s'
 have e1:g'=s.gens:=hg
 have e2:d'=s.drawn:=hd
 have e3:os'=s.os:=hos
 subst e1 e2 e3
 refine h _ tk' _ ?_ (fun b o e=>Heap.get?_push_of_some _ (hk b o e)) ⟨acc.toList,⟨_,Heap.get?_push_size _ rfl,rfl,0,by simp⟩,?_⟩
 ·cases e:s.heap.get? h'.objs.size with
  | none=>rfl
  | some o=>exact absurd (Heap.lt_size (hk _ _ e)) (Nat.lt_irrefl _)
 ·refine List.ext_getElem (by simp [hacc.1]) fun i h1 h2=>?_
  have hi:i<acc.size:=by simpa using h1
  have q:IxOf ks i acc[i]:=hacc.2 i acc[i] (by simp [hi])
  unfold IxOf at q
  refine sE (List.getElem_map ..) (sE (Array.getElem_toList ..) (sE q (sE List.getD_eq_getElem?_getD (sE (List.getElem?_eq_getElem h2) ?_))));rfl
end
section
variable {prog:Program} {w:World} {A:Around} {env:Env} {K:Frag} {h₀:Heap} {μ:Str->Option Value} {P:HP} {pos fp:Pos} {e:PySem.Expr} {ks:List Int} {cs:List Value} {a:Addr}
theorem EvP.tupleB (C:Cx K env h₀ μ P) (hh:A.handled=none) (hk:InB ks) (hz:ks.length<=sizeLine) (hf:Ev (model prog w) A env P (.Name "tuple" fp) (.type "tuple")) (ha:Ev (model prog w) A env P e (By ks))
  (he:autoParam (eval (.Call (.Name "tuple" fp) [e] [] pos) env=(do let f <- eval (.Name "tuple" fp) env;callWith pos f [] (backTo pos (starEach [e] env)) [])) tR)
  (he2:autoParam (starEach [e] env=(false,eval e env)::starEach [] env) tR) (hpl:autoParam ((backTo pos (starEach [e] env)).any (·.1)=false) tR) :
  EvP (model prog w) A env P (.Call (.Name "tuple" fp) [e] [] pos) (fun v h=>∃ b,v=.ref b/\New P b/\TpAt h b (ks.map I)) :=
 EvP.callT1 hf ha.toP (fun s Q E v p q kk=>by
  refine tkB q fun t=>?_
  exact YZb (GZq hk hh (fun h' tk a hn g x=>kk _ h' tk ⟨_,rfl,⟨s.heap,p,hn⟩,x⟩ (C.grow _ _ g p)) hz)) he he2 hpl
theorem EvP.tupleL {V:Addr->List Value->HP} (C:Cx K env h₀ μ P) (hf:Ev (model prog w) A env P (.Name "tuple" fp) (.type "tuple")) (ha:EvP (model prog w) A env P e (fun v h=>∃ a cs,v=.ref a/\LsAt h a cs/\V a cs h)) (hV:∀ a cs h h',Grows h h'->V a cs h->V a cs h') (hz:∀ a cs h,V a cs h->cs.length<=sizeLine)
  (he:autoParam (eval (.Call (.Name "tuple" fp) [e] [] pos) env=(do let f <- eval (.Name "tuple" fp) env;callWith pos f [] (backTo pos (starEach [e] env)) [])) tR)
  (he2:autoParam (starEach [e] env=(false,eval e env)::starEach [] env) tR) (hpl:autoParam ((backTo pos (starEach [e] env)).any (·.1)=false) tR) :
  EvP (model prog w) A env P (.Call (.Name "tuple" fp) [e] [] pos) (fun v h=>∃ b a cs,v=.ref b/\New P b/\TpAt h b cs/\V a cs h) :=
 EvP.callT1 hf ha (fun s Q E v p q kk=>by
  refine J4 q fun a cs e1 z03 hv=>?_;clear q;refine J0 z03 fun vs hl e2=>?_;clear z03
  refine sE (YZh e1) ?_
  have hlen:vs.length=cs.length:=by exact sF e2 (sE (List.length_map ..) rfl)
  refine YZb (call_tuple_list hl.isList (fun h' g=>?_) (by refine sE List.size_toArray (sE hlen ?_);exact hz _ _ _ hv))
  have g2:Grows s.heap (h'.push { cls:=.type "tuple", data:=.seq vs.toArray }):=fun b o e=>Heap.get?_push_of_some _ (g b o e)
  refine kk _ _ s.toks ⟨h'.objs.size,a,cs,rfl,⟨s.heap,p,?_⟩,⟨vs,⟨_,Heap.get?_push_size _ rfl,rfl,0,rfl⟩,e2⟩,hV _ _ _ _ g2 hv⟩ (C.grow _ _ g2 p)
  cases e:s.heap.get? h'.objs.size with
  | none=>rfl
  | some o=>exact absurd (Heap.lt_size (g _ _ e)) (Nat.lt_irrefl _)) he he2 hpl
end
end
section
noncomputable abbrev Sg:=List Int×List Int
noncomputable def sgO (g:Sg):List Int:=YZp ((g.1.length:Int)-4)++(g.1++g.2)
structure SgOk (g:Sg):Prop where
 tb:InB g.1
 cb:InB g.2
 tl:4<=g.1.length
 tz:g.1.length<=50000
 cl:g.2.length=4
noncomputable def Sound (g:Sg):Prop:=YZz g.2 0=crcZ g.1
theorem Sound.eq {t c:List Int} (h:Sound (t,c)):YZz c 0=crcZ t:=h
theorem Sound.of {t c:List Int} (h:YZz c 0=crcZ t):Sound (t,c):=h
noncomputable def YZq (gs:List Sg):List Int:=(gs.map sgO).flatten
noncomputable def nmN (g:Sg):List Nat:=(g.1.take 4).map Int.toNat
noncomputable def g0:Sg:=([],[])
noncomputable def ChAt (h:Heap) (a:Addr) (gs:List Sg):Prop:=∃ as:List Addr,LsAt h a (as.map Value.ref)/\as.length=gs.length/\∀ i,i<gs.length->TpAt h (as.getD i 0) [Sx (sO (nmN (gs.getD i g0))),By ((gs.getD i g0).1.drop 4)]
theorem VZq {g:Sg} (h:SgOk g):(sgO g).length=g.1.length+8:=by
 unfold sgO
 refine sE List.length_append (sE List.length_append (sE h.cl ?_));show 4+(_+4)=_;lia
theorem sgO_in {g:Sg} (h:SgOk g):InB (sgO g):=(VZj _).app (h.tb.app h.cb)
theorem GZv:∀ {gs:List Sg},(∀ g∈gs,SgOk g)->InB (YZq gs)
 | [],_=>InB.nil
 | g::gs,h=>by
  show InB (sgO g++YZq gs)
  exact (sgO_in (h g (List.mem_cons_self ..))).app (GZv fun x hx=>h x (List.mem_cons_of_mem _ hx))
theorem GZw {o l r:List Int} {k:Nat} (h:o.drop k=l++r) (hl:l.length=4):YZz o k=YZz l 0:=by
 have e:∀ j:Nat,j<4->o.getD (k+j) 0=l.getD j 0:=fun j hj=>by
  exact sE XZ7 (sE h (sE List.getD_eq_getElem?_getD (sE (List.getElem?_append_left (by lia)) (sE List.getD_eq_getElem?_getD rfl))))
 unfold YZz
 have e0:=e 0 (by exact Nat.le_add_left _ _)
 rw [Nat.add_zero] at e0
 refine sE (show ((k:Int)).toNat=k by exact Int.toNat_natCast _) (sE (show ((k:Int)+1).toNat=k+1 by exact Int.toNat_natCast _) (sE (show ((k:Int)+2).toNat=k+2 by exact Int.toNat_natCast _) (sE (show ((k:Int)+3).toNat=k+3 by exact Int.toNat_natCast _) (sE e0 (sE (e 1 (by exact Nat.le_add_left _ _)) (sE (e 2 (by exact Nat.le_add_left _ _)) (sE (e 3 (by exact Nat.le_add_left _ _)) ?_)))))))
 rfl
theorem UZy {o a b:List Int} {k:Nat} (h:o.drop k=a++b):o.drop (k+a.length)=b:=by
 have:=congrArg (List.drop a.length) h
 rw [List.drop_drop,List.drop_left] at this
 exact this
theorem NZp {o a b:List Int} {k:Nat} (hk:k<=o.length) (h:o.drop k=a++b):k+a.length+b.length=o.length:=by
 have:=congrArg List.length h
 rw [List.length_drop,List.length_append] at this
 lia
structure RcSt (o:List Int) (gs:List Sg) (z:Nat×Nat×List Addr×(Str->Option Value)):Prop where
 here:o.drop z.1=YZq (gs.drop z.2.1)
 le:z.1<=o.length
 jl:z.2.1<=gs.length
 al:z.2.2.1.length=z.2.1
 ok:∀ i,i<z.2.1->Sound (gs.getD i g0)
noncomputable def RcH (L a:Addr) (gs:List Sg) (as:List Addr) (h:Heap):Prop:=LpAt h a (as.map Value.ref)/\∀ i,i<as.length->(as.getD i 0≠L/\as.getD i 0≠a)/\TpAt h (as.getD i 0) [Sx (sO (nmN (gs.getD i g0))),By ((gs.getD i g0).1.drop 4)]
theorem RcH.sf {L a:Addr} {gs:List Sg} {as:List Addr} {W:List Addr} (ha:a∉W) (h:∀ b∈W,b=L):Sf W (RcH L a gs as):=fun h1 h2 k x=>by
 refine ⟨LpAt.sf ha _ _ k x.1,fun i hi=>⟨(x.2 i hi).1,TpAt.sf (fun q=>?_) _ _ k (x.2 i hi).2⟩⟩
 exact (x.2 i hi).1.1 (h _ q)
theorem RcH.new {env:Env} {h₀:Heap} {μ:Str->Option Value} {L a:Addr} {gs:List Sg} {as:List Addr} {W:List Addr} (hW:∀ b∈W,New (Pc env h₀ μ (RcH L a gs as)) b):Sf W (RcH L a gs as):=fun h1 h2 k x=>by
 refine ⟨LpAt.sf (fun q=>?_) _ _ k x.1,fun i hi=>⟨(x.2 i hi).1,TpAt.sf (fun q=>?_) _ _ k (x.2 i hi).2⟩⟩
 ·refine J0 (hW _ q) fun h3 p3 e3=>?_
  obtain ⟨o,ho⟩:=p3.2.1.live
  rw [e3] at ho;cases ho
 ·refine J0 (hW _ q) fun h3 p3 e3=>?_
  obtain ⟨o,ho⟩:=(p3.2.2 i hi).2.live
  rw [e3] at ho;cases ho
theorem KZy:InB sgZ:=by unfold InB;decide
section
variable {prog:Program} {w:World}
theorem UZi {sg:List Int} {gs:List Sg} (hs:InB sg) (hsl:sg.length=8) (hg:∀ g∈gs,SgOk g) (hn:gs.length<=10) (hz:(sg++YZq gs).length<=100000) :
  FnE prog w (KK w.params) 240 7 [By (sg++YZq gs)] (fun _=>True) (fun v h h'=>(sg=sgZ/\∀ g∈gs,Sound g)/\∃ a,v=.ref a/\h.get? a=none/\ChAt h' a gs) (¬ (sg=sgZ/\∀ g∈gs,Sound g)) 51:=by
 refine FnE.mk ["octets"] [] (by exact rfl) (by kernel_rfl) (fun s args _ h=>ar1 args h fun _=>BindsTo.of_eq rfl) (fun h L A base outer G _ hL hA F hC hB=>?_)
 have hR:Sf [L] (fun _=>True):=Sf.const
 have hWL:L∈[L]:=List.Mem.head _
 have hob:InB (sg++YZq gs):=hs.app (GZv hg)
 have hd8:(sg++YZq gs).drop 8=YZq gs:=by exact sF hsl (sE List.drop_left rfl)
 have ht8:(sg++YZq gs).take 8=sg:=by exact sF hsl (sE List.take_left rfl)
 have hol:8<=(sg++YZq gs).length:=by refine sE List.length_append ?_;lia
 generalize hoe:sg++YZq gs=o at *
 have hz':o.length<=16777216:=by exact tdN
 refine Xs.iteR (d:=decide (slZ o none (some 8)≠sgZ)) (Ist.cm (Cm.neB (hob.sl _ _) KZy) (Ev.sliceB (lo:=none) (hi:=some 8) (F.cx hR) hob hz' lv EvO.no (EvO.yes Ev.ci)) (zv z_SIGN)) (fun e=>?_) (fun e=>?_)
 ·rw [decide_eq_true_eq,NZf (by decide),show (8:Int).toNat=8 from rfl,ht8] at e
  exact Xs.post (Xs.raise51 F (hA.mono (by decide)) (hB fun q=>e q.1) hR (gv VZ2) Ev.cs) (fun _ h=>h) (fun _ _ h=>h) (fun v h x=>⟨fun q=>e q.1,x⟩)
 rw [decide_eq_false_iff_not,NZf (by decide),show (8:Int).toNat=8 from rfl,ht8,Decidable.not_not] at e
 refine Xs.swp (W:=[L]) (Y:=Addr) (ns:=["found", "at"]) (V:=fun y h'=>(y≠L/\h.get? y=none)/\LpAt h' y []) (cs:=fun y=>[.ref y,I 8]) hA.handled (fun n hn=>?_) hR (fun y=>?_) ?_ (fun _=>rfl) (fun a=>?_)
 ·simp only [List.reverse_cons,List.reverse_nil,List.nil_append,List.singleton_append,List.cons_append,List.mem_cons,List.not_mem_nil,or_false] at hn
  rcases hn with rfl | rfl
  ·exact St1.locB F hC hWL
  ·exact St1.locB F hC hWL
 ·exact fun h1 h2 kk q=>⟨q.1,LpAt.sf (by simp;exact q.1.1) _ _ kk q.2⟩
 ·refine Tr.post (EvP.tup1 (F.cx hR).grow (EvsP.cons (V2:=fun cs _=>cs=[I 8]) (EvP.listP (F.cx hR).grow Evs.nil) fun c=>?_) ?_ ?_) ?_
  ·exact Evs.cons Ev.ci Evs.nil
  ·rintro cs h1 h2 g ⟨c,cs',rfl,⟨a,rfl,n,e⟩,rfl⟩
   exact ⟨_,_,rfl,⟨a,rfl,n,e.grow g⟩,rfl⟩
  ·rintro cs h1 ⟨c,cs',rfl,_,rfl⟩
   show 2<=sizeLine;decide
  ·rintro v h1 ⟨⟨a,cs,e,n,t,c,cs',rfl,⟨b,rfl,nb,eb⟩,rfl⟩,p⟩
   exact ⟨⟨b,⟨⟨fun q=>nb.ne_loc q.symm,nb.old⟩,eb⟩,a,e,t⟩,p⟩
 refine Xs.fact2 (q:=a≠L/\h.get? a=none) (fun h p=>p.2.1.1) fun hab=>?_
 have hS0:∀ as,Sf [L] (RcH L a gs as):=fun as=>RcH.sf (by simp;exact hab.1) (fun b hb=>mS hb)
 refine Xs.whileQ (σ:=Nat×Nat×List Addr×(Str->Option Value)) hB (fun z=>o.length-z.1) (RcSt o gs) (fun z=>ovr (up (up (YZ9 ["octets"] ([By o]++List.map tk0 [])) "found" (.ref a)) "at" (I z.1)) ["size", "told"] z.2.2.2) (fun z h=>RcH L a gs z.2.2.1 h) (fun z=>decide ((z.1:Int)<o.length))
  (8,0,[],fun _=>none) ⟨hd8,hol,Nat.zero_le _,rfl,fun i hi=>absurd hi (Nat.not_lt_zero _)⟩ (fun h p=>⟨p.1.cong ⟨by repeat (first | exact allN | refine allL rfl ?_),fun _ h=>nomatch h⟩,p.2.1.2,fun i hi=>absurd hi (Nat.not_lt_zero _)⟩) ?_ ?_ ?_
 ·rintro ⟨k,j,as,u⟩ _
  have hR2:Sf [L] (fun h:Heap=>RcH L a gs as h):=hS0 as
  exact Ist.cm Cm.lt lv (Ev.lenB (F.cx hR2) hz' (bv VZl PyProof.Rows.bootS_len) lv)
 ·rintro ⟨k,j,as,u⟩ hI hlt
  have hR2:Sf [L] (fun h:Heap=>RcH L a gs as h):=hS0 as
  obtain ⟨hh,hkl,hjl,hal,hok⟩:=hI
  dsimp only at hh hkl hjl hal hok ⊢
  rw [decide_eq_true_eq] at hlt
  dsimp only at hlt
  have hj:j<gs.length:=by
   rcases Nat.lt_or_ge j gs.length with hj | hj
   ·exact hj
   ·rw [List.drop_eq_nil_of_le hj] at hh
    have:=congrArg List.length hh
    rw [List.length_drop] at this
    simp [YZq] at this
    lia
  have hgd:gs.drop j=gs.getD j g0::gs.drop (j+1):=by
   refine sE List.getD_eq_getElem?_getD (sE (List.getElem?_eq_getElem hj) ?_);exact List.drop_eq_getElem_cons hj
  have hgo:SgOk (gs.getD j g0):=by
   refine sE List.getD_eq_getElem?_getD (sE (List.getElem?_eq_getElem hj) ?_);exact hg _ (List.getElem_mem hj)
  rw [hgd] at hh
  generalize hge:gs.getD j g0=g at *
  obtain ⟨t,c⟩:=g
  obtain ⟨htb,hcb,htl,htz,hcl⟩:=hgo
  dsimp only at htb hcb htl htz hcl
  have e0:o.drop k=YZp ((t.length:Int)-4)++(t++(c++YZq (gs.drop (j+1)))):=by
   refine sE hh ?_;show (YZp _++(t++c))++YZq _=_;exact sE (List.append_assoc ..) (sE (List.append_assoc ..) rfl)
  have e1:o.drop (k+4)=t++(c++YZq (gs.drop (j+1))):=UZy e0
  have e2:o.drop (k+4+t.length)=c++YZq (gs.drop (j+1)):=UZy e1
  have e3:o.drop (k+4+t.length+c.length)=YZq (gs.drop (j+1)):=UZy e2
  have hlen:k+4+t.length+4<=o.length:=by
   have:=NZp hkl e0
   rw [show (YZp ((t.length:Int)-4)).length=4 from rfl,List.length_append,List.length_append,hcl] at this
   lia
  have hsz:YZz o k=(t.length:Int)-4:=by
   exact sE (GZw e0 rfl) (sE (GZ6 (by lia) (by omega)) rfl)
  refine Xs.assignV F hC hWL hR2 (c:=I ((t.length:Int)-4)) (Tr.post (Ev.call (F.cx hR2) (UZx (k:=(k:Int)) hob (by exact Int.natCast_nonneg _) (by lia) (by omega)) (hA.mono (by decide)) (gv KZa) (Evs.cons lv (Evs.cons lv Evs.nil)) (fun _ _=>trivial) (by kernel_rfl)) fun v h q=>⟨q.1.trans (by exact sE hsz rfl),q.2⟩) ?_
  refine Xs.iteR (Ist.cm Cm.gt (Ev.add (Ev.add lv Ev.ci) lv) (Ev.lenB (F.cx hR2) hz' (bv VZl PyProof.Rows.bootS_len) lv)) (fun e=>?_) (fun _=>?_)
  ·rw [decide_eq_true_eq] at e;omega
  have hsl:slZ o (some ((k:Int)+4)) (some ((k:Int)+8+((t.length:Int)-4)))=t:=by
   exact sE (VZ5 (by exact Int.natCast_nonneg _) (by lia)) (sE (show ((k:Int)+4).toNat=k+4 by exact Int.toNat_natCast _) (sE (show ((k:Int)+8+((t.length:Int)-4)).toNat-(k+4)=t.length by lia) (sE e1 (sE List.take_left rfl))))
  refine Xs.assignV F hC hWL hR2 (c:=By t) (Tr.post (Ev.sliceB (lo:=some ((k:Int)+4)) (hi:=some ((k:Int)+8+((t.length:Int)-4))) (F.cx hR2) hob hz' lv (EvO.yes (Ev.add lv Ev.ci)) (EvO.yes (Ev.add (Ev.add lv Ev.ci) lv))) fun v h q=>⟨q.1.trans (by exact sE hsl rfl),q.2⟩) ?_
  have hck:YZz o ((k:Int)+8+((t.length:Int)-4))=YZz c 0:=by
   refine sE (show (k:Int)+8+((t.length:Int)-4)=((k+4+t.length:Nat):Int) by lia) ?_
   exact GZw e2 hcl
  refine Xs.iteR (d:=YZz c 0 != crcZ t) (Tr.post (Ist.cm Cm.ne (Ev.call (F.cx hR2) (UZx (k:=(k:Int)+8+((t.length:Int)-4)) hob (by lia) (by lia) (by omega)) (hA.mono (by decide)) (gv KZa) (Evs.cons lv (Evs.cons (Ev.add (Ev.add lv Ev.ci) lv) Evs.nil)) (fun _ _=>trivial) (by kernel_rfl))
   (Ev.call (F.cx hR2) (NZn htb (by exact tdN)) (hA.mono (by decide)) (gv g_crc32) (Evs.cons lv Evs.nil) (fun _ _=>trivial) (by kernel_rfl))) fun v h q=>⟨q.1.trans (by exact sE hck rfl),q.2⟩) (fun e=>?_) (fun e=>?_)
  ·have hq:¬ (sg=sgZ/\∀ g∈gs,Sound g):=fun q=>by
    have hm:(t,c)∈gs:=by
     refine sF hge (sE List.getD_eq_getElem?_getD (sE (List.getElem?_eq_getElem hj) ?_));exact List.getElem_mem hj
    exact bne_iff_ne.mp e (Sound.eq (q.2 _ hm))
   exact Xs.post (Xs.raise51 F (hA.mono (by decide)) (hB hq) hR2 (gv VZ2) Ev.cs) (fun _ h=>h) (fun _ _ h=>h) (fun v h x=>⟨hq,x⟩)
  have hsound:YZz c 0=crcZ t:=bne_eq_false_iff_eq.mp e
  have ht4:slZ t none (some 4)=t.take 4:=NZf (by decide)
  have ht5:slZ t (some 4) none=t.drop 4:=DZi (by decide)
  have hzt:t.length<=16777216:=by exact tdN
  have hl4:(t.take 4).length=4:=by refine sE List.length_take ?_;lia
  refine Xs.lsApp (a:=a) (cs:=as.map Value.ref) (R':=fun h=>∃ tt,RcH L a gs (as++[tt]) h) (V:=fun v h=>∃ tt,v=.ref tt/\(tt≠L/\tt≠a)/\TpAt h tt [Sx (sO (nmN (t,c))),By (t.drop 4)]) F hR2 (Off.plain rfl hab.1 hab.2) (by rfl) (fun h r=>r.1) (by refine sE (List.length_map ..) (sE hal (sE sizeLine_eq ?_));lia) ?_ ?_ ?_
  ·refine Tr.post (EvP.tup1 (F.cx hR2).grow (Evs.toP (cs:=[Sx (sO (nmN (t,c))),By (t.drop 4)]) (Evs.cons ?_ (Evs.cons (Tr.post (Ev.bytesB (b:=bA (slZ t (some 4) none)) (bv XZj PyProof.Rows.boot_bytes) (Ev.sliceB (lo:=some 4) (hi:=none) (F.cx hR2) htb hzt lv (EvO.yes Ev.ci) EvO.no)) fun v h q=>⟨q.1.trans (by exact sE ht5 rfl),q.2⟩) Evs.nil))) ?_ ?_) ?_
   ·refine Ev.joinS (cs:=nmN (t,c)) (F.cx hR2) (by show ((t.take 4).map Int.toNat).length<=100;refine sE (List.length_map ..) (sE hl4 ?_);decide) (Tr.post (EvP.comp1 (cl:=[]) (c:=By (t.take 4)) (xs:=(t.take 4).map I) F ⟨by rfl,fun _=>by rfl,by decide,by rfl,by decide,fun _ _ h=>(nomatch h),fun _ _ h=>(nomatch h)⟩ hC
     (Tr.post (Ev.sliceB (lo:=none) (hi:=some 4) (F.cx hR2) htb hzt lv EvO.no (EvO.yes Ev.ci)) fun v h q=>⟨q.1.trans (by exact sE ht4 rfl),q.2⟩) (fun v h q p=>by refine tkB q fun _=>?_;exact Src.bytes hA.handled (htb.take 4)) (fun _ _ e=>nomatch e) (by refine sE (List.length_map ..) (sE hl4 (sE sizeLine_eq ?_));decide) (fun W hW=>RcH.new hW) (fun i=>Sx (sO [((t.take 4).getD i 0).toNat])) (fun i B C hn hF hi hB hB2=>?_)) fun v h q=>?_)
    ·rw [List.length_map] at hi
     refine sE (XZc hi) ?_
     have:=(htb.take 4).getD i
     exact Ev.chr (hF.cx hB) this.1 this.2 (bv g_chr PyProof.Rows.bootS_chr) lv
    ·obtain ⟨⟨D,e,_,hl⟩,p⟩:=q
     refine ⟨⟨D,e,?_⟩,p⟩
     rw [List.length_map,hl4] at hl
     rw [show (nmN (t,c)).map (fun c=>Sx (sO [c]))=(List.range 4).map (fun i=>Sx (sO [((t.take 4).getD i 0).toNat])) from ?_]
     ·exact hl
     ·refine List.ext_getElem (by simp [nmN,hl4];lia) fun i h1 h2=>?_
      have hi:i<(t.take 4).length:=by simpa [nmN] using h1
      simp only [nmN,List.getElem_map,List.getElem_range,List.getD_eq_getElem?_getD,List.getElem?_eq_getElem hi,Option.getD_some]
   ·exact fun cs h h' g q=>q
   ·rintro cs h1 rfl
    show 2<=sizeLine;decide
   ·rintro v h1 ⟨⟨tt,cs,e1,n,tp,rfl⟩,p⟩
    refine ⟨⟨tt,e1,⟨fun q=>n.ne_loc q.symm,fun q=>?_⟩,tp⟩,p⟩
    refine J0 n fun h2 p2 e2=>?_;clear n
    obtain ⟨o2,ho2⟩:=p2.2.1.live
    rw [q,ho2] at e2;cases e2
  ·rintro h1 h2 v sb hl' ⟨tt,rfl,⟨n1,n2⟩,tp⟩ r
   refine ⟨tt,by refine sE List.map_append ?_;exact hl',fun i hi=>?_⟩
   rw [List.length_append] at hi
   by_cases hia:i<as.length
   ·refine sE (show (as++[tt]).getD i 0=as.getD i 0 by rw [List.getD_eq_getElem?_getD,List.getElem?_append_left hia,List.getD_eq_getElem?_getD]) ?_
    refine ⟨(r.2 i hia).1,?_⟩
    exact TpAt.sf (W:=[a]) (by simp;exact (r.2 i hia).1.2) _ _ (fun b o hb e=>(sb.2 b (by simpa using hb)).trans e) (r.2 i hia).2
   ·have:i=as.length:=by simp at hi;lia
    subst this
    refine sE (show (as++[tt]).getD as.length 0=tt by rw [List.getD_eq_getElem?_getD,List.getElem?_append_right (Nat.le_refl _),Nat.sub_self];rfl) ?_
    refine ⟨⟨n1,n2⟩,?_⟩
    refine sE hal (sE hge ?_)
    exact TpAt.sf (W:=[a]) (by simp;exact n2) _ _ (fun b o hb e=>(sb.2 b (by simpa using hb)).trans e) tp
  refine Xs.exR fun tt=>?_
  have hR3:Sf [L] (fun h:Heap=>RcH L a gs (as++[tt]) h):=hS0 _
  refine Xs.assignV F hC hWL hR3 (Ev.add (Ev.add lv Ev.ci) lv) ?_
  refine Xs.turnW (z:=(k,j,as,u)) (fun μ=>(k+4+t.length+4,j+1,as++[tt],μ)) (by exact Nat.sub_lt_sub_left (by lia) (by lia)) ⟨?_,hlen,hj,by simp [hal],fun i hi=>?_⟩ ⟨?_,fun _ h=>nomatch h⟩ fun h r=>r
  ·rw [hcl] at e3;exact e3
  ·have hi:i<j+1:=hi
   by_cases hij:i<j
   ·exact hok i hij
   ·have:i=j:=by lia
    subst this
    refine sE hge ?_;exact Sound.of hsound
  ·have hat:(k:Int)+12+((t.length:Int)-4)=((k+4+t.length+4:Nat):Int):=by lia
   refine sE hat ?_
   repeat (first | exact allN | refine allL rfl ?_)
 ·rintro ⟨k,j,as,u⟩ hI hlt
  have hR2:Sf [L] (fun h:Heap=>RcH L a gs as h):=hS0 as
  obtain ⟨hh,hkl,hjl,hal,hok⟩:=hI
  dsimp only at hh hkl hjl hal hok hlt ⊢
  rw [decide_eq_false_iff_not] at hlt
  have hj:j=gs.length:=by
   rcases Nat.lt_or_ge j gs.length with hj | hj
   ·rw [List.drop_eq_nil_of_le (by lia),List.drop_eq_getElem_cons hj] at hh
    have:=congrArg List.length hh
    rw [show YZq (gs[j]::gs.drop (j+1))=sgO gs[j]++YZq (gs.drop (j+1)) from rfl,List.length_append,VZq (hg _ (List.getElem_mem hj)),List.length_nil] at this
    lia
   ·lia
  subst hj
  exact Xs.retV lv fun h' p=>⟨p.1.keep,⟨e,fun g hg'=>by
   obtain ⟨i,hi,rfl⟩:=List.getElem_of_mem hg'
   have:=hok i hi
   rw [List.getD_eq_getElem?_getD,List.getElem?_eq_getElem hi] at this;exact this⟩,a,rfl,hab.2,as,p.2.1.ls,hal,fun i hi=>(p.2.2 i (by lia)).2⟩
end
end
section
open PySem.SeqAt
noncomputable def RowX (h:Heap) (a:Addr) (bs:List Addr) (cols:List (List Int)):Prop:=LsAt h a (bs.map Value.ref)/\bs.length=cols.length/\∀ i,i<cols.length->TpAt h (bs.getD i 0) ((cols.getD i []).map I)
theorem RowX.row {h:Heap} {a:Addr} {bs:List Addr} {cols:List (List Int)} (x:RowX h a bs cols):RowAt h a cols:=⟨bs,x⟩
theorem YZr {α:Type} {l:List α} {i:Nat} {d:α} (h:i<l.length):l.getD i d∈l:=by
 refine sE List.getD_eq_getElem?_getD (sE (List.getElem?_eq_getElem h) ?_);exact List.getElem_mem h
theorem RowX.sf {W:List Addr} {a:Addr} {bs:List Addr} {cols:List (List Int)} (ha:a∉W) (hb:∀ b∈bs,b∉W):Sf W (fun h=>RowX h a bs cols):=fun h h' k x =>
 ⟨LsAt.sf ha _ _ k x.1,x.2.1,fun i hi=>TpAt.sf (hb _ (YZr (by refine sE x.2.1 ?_;exact hi))) _ _ k (x.2.2 i hi)⟩
theorem RowX.live {h:Heap} {a:Addr} {bs:List Addr} {cols:List (List Int)} (x:RowX h a bs cols):(∃ o,h.get? a=some o)/\∀ b∈bs,∃ o,h.get? b=some o :=
 ⟨x.1.live,fun b hb=>by
  obtain ⟨i,hi,rfl⟩:=List.getElem_of_mem hb
  have:=(x.2.2 i (by refine sF x.2.1 ?_;exact hi)).live
  rwa [List.getD_eq_getElem?_getD,List.getElem?_eq_getElem hi] at this⟩
noncomputable def adr:Value->Addr
 | .ref a=>a
 | _=>0
theorem adr_map:∀ {xs:List Value},(∀ j,j<xs.length->∃ t,xs.getD j .none=.ref t)->xs=(xs.map adr).map Value.ref
 | [],_=>rfl
 | x::xs,h=>by
  obtain ⟨t,e⟩:=h 0 (by simp)
  have e:x=.ref t:=e
  subst e
  rw [List.map_cons,List.map_cons,<- adr_map fun j hj=>h (j+1) (by simp;exact hj)]
  rfl
theorem adr_getD {xs:List Value} {j:Nat} {t:Addr} (h:xs.getD j .none=.ref t):(xs.map adr).getD j 0=t:=by
 rw [List.getD_eq_getElem?_getD] at h ⊢
 refine sE List.getElem?_map ?_
 cases e:xs[j]? with
 | none=>rw [e] at h;cases h
 | some v=>rw [e] at h;have h:v=.ref t:=h;refine sE h ?_;rfl
theorem BZk {h:Heap} {D:Addr} {xs:List Value} {n:Nat} {ks:Nat->List Int} {W:List Addr} (l:LsAt h D xs) (hn:xs.length=n) (ht:∀ j,j<n->∃ t,xs.getD j .none=.ref t/\t∉W/\TpAt h t ((ks j).map I)) :
  (∀ b∈xs.map adr,b∉W)/\RowX h D (xs.map adr) ((List.range n).map ks):=by
 have e:=adr_map (xs:=xs) fun j hj=>J0 (ht j (by lia)) fun t e _=>⟨t,e⟩
 have hg:∀ j,j<n->(xs.map adr).getD j 0∉W/\TpAt h ((xs.map adr).getD j 0) ((ks j).map I):=fun j hj=>by
  refine J1 (ht j hj) fun t e1 e2 e3=>?_
  refine sE (adr_getD e1) ?_;exact ⟨e2,e3⟩
 refine ⟨fun b hb=>?_,e▸l,by exact sE (List.length_map ..) (sE (List.length_map ..) (sE List.length_range (sE hn rfl))),fun i hi=>?_⟩
 ·obtain ⟨i,hi,rfl⟩:=List.getElem_of_mem hb
  have:=(hg i (by rw [List.length_map] at hi;lia)).1
  rwa [List.getD_eq_getElem?_getD,List.getElem?_eq_getElem hi] at this
 ·have hi:i<n:=by simpa using hi
  refine sE (show ((List.range n).map ks).getD i []=ks i by rw [List.getD_eq_getElem?_getD,List.getElem?_map,List.getElem?_range hi];rfl) ?_
  exact (hg i hi).2
section
variable {prog:Program} {w:World} {A:Around} {env:Env} {K:Frag} {h₀:Heap} {μ:Str->Option Value} {P:HP} {pos p1 px fp rp cp ip:Pos} {we e:PySem.Expr} {scope:Scope} {cl:List (Str×Addr)} {x:Str} {n:Nat} {ks:Nat->List Int} {Wz:List Addr}
set_option tactic.hygienic true in
theorem SrcW.rng {P0:HP} {v:Value} {h:Heap} {y:Addr} (hh:A.handled=none) (hn:n<100000) (e:tk0 v=.ref y) (r:RgAt h y n) (hp:P0 h) :
  SrcW prog w A (.Name x px) (fun env=>env.kindOf x=some .local) [x] P0 v h n (fun i μ=>up μ x (I (i:Int))) [y]:=by
 refine sE (YZh e) ?_
 have S:=Src.range (prog:=prog) (w:=w) (A:=A) hh (by exact tyN) r
 have W:=SrcW.nm (x:=x) (p1:=px) (c:=.ref y) S hp rfl fun b e'=>by cases e';exact r.live
 rw [List.length_map,List.length_range] at W
 intro s Q E e kk
 refine W s Q E e fun h' It tk fp wr St g hw hf wk st hs self=>kk h' It tk fp wr St g hw hf ?_ st hs self
 refine { sub:=wk.sub,live:=wk.live,frame:=wk.frame,over:=fun i μ u=>BZj,back:=fun i μ=>?_,next:=?_,done:=wk.done }
 ·show upo μ x (upo μ x _ x)=_
  exact sE VZa rfl
 ·intro i s E env h₀ μ S hi hok hcl hk hL st lo hlo hS hSw hSl
  have:=wk.next i s E env h₀ μ S hi hok hcl hk hL st lo hlo hS hSw hSl
  simp only [show ((List.range n).map fun (i:Nat)=>I (i:Int)).getD i .none=I (i:Int) by refine sE List.getD_eq_getElem?_getD (sE List.getElem?_map (sE (List.getElem?_range hi) ?_));rfl] at this
  exact this
theorem EvP.tupComp (F:Fx K env h₀) (O:CompOk env scope cl (fun env=>env.kindOf x=some .local)) (hcl:Cl env) (hh:A.handled=none) (hn:n<100000)
  (hf:Ev (model prog w) A env (Pc env h₀ μ P) (.Name "range" rp) (.type "range")) (ha:Ev (model prog w) A env (Pc env h₀ μ P) we (I n))
  (hP:∀ W,(∀ b∈W,New (Pc env h₀ μ P) b)->Sf W P) (hz:∀ h,Pc env h₀ μ P h->∀ b∈Wz,∃ o,h.get? b=some o) (hks:∀ i,i<n->InB (ks i)) (hkz:∀ i,i<n->(ks i).length<=100000) (hg:nsIn K mainGlobals "tuple" = some none)
  (helt:∀ i (B:HP) C,Fx K (compEnvC scope cl C env) h₀->i<n->Sf [] B->(∀ h,B h->Lo env h₀ μ h/\P h)->Ev (model prog w) A (compEnvC scope cl C env) (Pc (compEnvC scope cl C env) h₀ (up (cmu cl μ) x (I (i:Int))) B) e (By (ks i)))
  (hk:∀ C,(compEnvC scope cl C env).kindOf "tuple" = some .globalImplicit) (hs:autoParam (∀ v,foldedSetIterable (.Call (.Name "range" rp) [we] [] cp) env v=pure v) tI)
  (he:autoParam (eval (.Call (.Name "range" rp) [we] [] cp) env=(do let f <- eval (.Name "range" rp) env;callWith cp f [] (backTo cp (starEach [we] env)) [])) tR)
  (he2:autoParam (starEach [we] env=(false,eval we env)::starEach [] env) tR) (hpl:autoParam ((backTo cp (starEach [we] env)).any (·.1)=false) tR)
  (hi:autoParam (∀ C,eval (.Call (.Name "tuple" fp) [e] [] ip) (compEnvC scope cl C env)=(do let f <- eval (.Name "tuple" fp) (compEnvC scope cl C env);callWith ip f [] (backTo ip (starEach [e] (compEnvC scope cl C env))) [])) tI)
  (hi2:autoParam (∀ C,starEach [e] (compEnvC scope cl C env)=(false,eval e (compEnvC scope cl C env))::starEach [] (compEnvC scope cl C env)) tI) (hpl2:autoParam (∀ C,(backTo ip (starEach [e] (compEnvC scope cl C env))).any (·.1)=false) tI) :
  EvP (model prog w) A env (Pc env h₀ μ P) (.ListComp (.Call (.Name "tuple" fp) [e] [] ip) [⟨.Name x px,.Call (.Name "range" rp) [we] [] cp,[],0⟩] scope pos) (fun v h=>∃ D bs,v=.ref D/\New (Pc env h₀ μ P) D/\D∉Wz/\(∀ b∈bs,b∉Wz)/\RowX h D bs ((List.range n).map ks)):=by
 have hPe:Sf [] P:=hP [] fun b hb=>nomatch hb
 refine Tr.post (Tr.compG (Y:=Addr) (ns:=[x]) (V:=fun y v h=>v=.ref y/\RgAt h y n) F O hcl [] (fun _ _ b hb=>nomatch hb) OffL.nil (Tr.post (EvP.range (F.cx hPe) hf ha he he2 hpl) fun v h q=>⟨dr q.1,q.2⟩) (fun _=>n) (fun _ i μ=>up μ x (I (i:Int))) (fun y=>[y])
  (fun y v h q p=>?_) (fun _ _ _ _ _ _ _ hb=>nomatch hb) (fun _ _ _ _ _=>by refine sE sizeLine_eq ?_;lia) (fun y W i v h=>∃ t,v=.ref t/\(t∉W/\t∉Wz)/\TpAt h t ((ks i).map I)) (fun _=>P) (fun y W i v h1 h2 k q=>?_) (fun y W i v Wx hx h1 h2 k q=>?_) (fun _ W hW=>hP W hW) (fun h h' g p=>hPe.grow g p) (fun _ _ _ _ _ _ p=>p) ?_ hs) fun v h q=>?_
 ·exact SrcW.rng hh hn q.1 q.2 p
 ·refine J1 q ?_;clear q;rintro t rfl ht l
  exact ⟨t,rfl,ht,TpAt.sf ht.1 _ _ k l⟩
 ·refine J1 q ?_;clear q;rintro t rfl ht l
  refine ⟨t,rfl,ht,TpAt.sf (fun hb=>?_) _ _ k l⟩
  rcases hx t hb with hb | ⟨h3,⟨t3,e3,_,l3⟩,e4⟩
  ·cases hb
  ·cases e3
   obtain ⟨o,ho⟩:=l3.live
   rw [e4] at ho;cases ho
 ·intro y W hW i B C hC hF hi' hB hB2 hlv hst
  have hRB:Sf [] (fun h=>P h/\B h):=Sf.and hPe hB
  have ht:Ev (model prog w) A (compEnvC scope cl C env) (Pc (compEnvC scope cl C env) h₀ (up (cmu cl μ) x (I (i:Int))) (fun h=>P h/\B h)) (.Name "tuple" fp) (.type "tuple"):=Ev.bui (hF.cx hRB) hg PyProof.Rows.boot_tuple rfl (hk C)
  refine Tr.post (EvP.tupleB (hF.cx hRB) hh (hks i hi') (by refine sE sizeLine_eq ?_;have:=hkz i hi';exact tdN) ht (helt i (fun h=>P h/\B h) C hF hi' hRB fun h q=>⟨hB2 h q.2,q.1⟩) (hi C) (hi2 C) (hpl2 C)) fun v h q=>⟨?_,q.2⟩
  refine J1 q.1 fun t e nt l=>?_
  exact ⟨t,e,⟨nt.notin fun h p=>hlv h _ p.1 p.2.2,nt.notin fun h p=>hz h ⟨hB2 h p.2.2,p.2.1⟩⟩,l⟩
 ·obtain ⟨y,W,D,xs,rfl,hW,hD,lo,l,hlen,hT,p⟩:=q
  obtain ⟨hb,rx⟩:=BZk (W:=Wz) l hlen fun j hj=>J1 (hT j hj) fun t e h1 h2=>⟨t,e,h1.2,h2⟩
  exact ⟨⟨D,xs.map adr,rfl,hD,hD.notin hz,hb,rx⟩,lo,p⟩
end
end
section
noncomputable def Ch3 (h:Heap) (a t0 t1 t2:Addr) (d0 d1:List Int):Prop:=LsAt h a [.ref t0,.ref t1,.ref t2]/\TpAt h t0 [Sx (sO IHDR),By d0]/\TpAt h t1 [Sx (sO IDAT),By d1]/\TpAt h t2 [Sx (sO IEND),By []]
theorem Ch3.grow {h h':Heap} {a t0 t1 t2:Addr} {d0 d1:List Int} (g:Grows h h') (x:Ch3 h a t0 t1 t2 d0 d1):Ch3 h' a t0 t1 t2 d0 d1:=⟨x.1.grow g,x.2.1.grow g,x.2.2.1.grow g,x.2.2.2.grow g⟩
section
variable {prog:Program} {w:World}
theorem KZf {a t0 t1 t2:Addr} {d0 d1:List Int} (hb:InB d0) (hl:d0.length=13) (h8:d0.drop 8=[8,6,0,0,0]) :
  Fn prog w (KK w.params) 245 3 [.ref a] (fun h=>Ch3 h a t0 t1 t2 d0 d1) (fun v _ _=>v=.none):=by
 refine Fn.mk ["chunks"] [] (by exact rfl) (by kernel_rfl) (fun s args _ h=>ar1 args h fun _=>BindsTo.of_eq rfl) (fun h L A G hpre hL hA F hC=>?_)
 have hR:Sf [L] (fun _=>True):=Sf.const
 have hu:A.units<cLine:=by have:=hA.units;lia
 refine Xs.compN (n:=3) (c:=.ref a) (cl:=[]) (ok:=fun env=>env.kindOf "name" = some .local/\env.kindOf "octets" = some .local) (ns:=["name", "octets"]) (bd:=fun i μ=>up (up μ "name" (([(Sx (sO IHDR),By d0),(Sx (sO IDAT),By d1),(Sx (sO IEND),By [])]:List (Value×Value)).getD i (.none,.none)).1) "octets" (([(Sx (sO IHDR),By d0),(Sx (sO IDAT),By d1),(Sx (sO IEND),By [])]:List (Value×Value)).getD i (.none,.none)).2) (RO:=[a,t0,t1,t2])
  F ⟨by rfl,fun _=>⟨by rfl,by rfl⟩,by decide,by rfl,by decide,fun _ _ h=>(nomatch h),fun _ _ h=>(nomatch h)⟩ hC lv (fun v h' e p=>?_) (by refine sE sizeLine_eq ?_;decide) (fun W hW=>Sf.const) Sf.const (fun i=>(([(Sx (sO IHDR),By d0),(Sx (sO IDAT),By d1),(Sx (sO IEND),By [])]:List (Value×Value)).getD i (.none,.none)).1) (fun i B C hn hF hi hB hB2=>?_) (fun D nD=>?_)
 ·have q:=hpre.grow p.1.keep
  refine sE (YZh e) ?_
  exact SrcW.pairs (as:=[t0,t1,t2]) (xs:=[(Sx (sO IHDR),By d0),(Sx (sO IDAT),By d1),(Sx (sO IEND),By [])]) hA.handled q.1 (fun i hi=>by
   exact lt3 i hi (q.2.1) (q.2.2.1) (q.2.2.2)) p
 ·exact lv
 have hR1:Sf [L] (fun h:Heap=>LsAt h D ([sO IHDR,sO IDAT,sO IEND].map Sx)/\True):=Sf.and (LsAt.sf (fun q=>nD.ne_loc (mS q).symm)) Sf.const
 refine Xs.pre (P:=Pc _ h _ (fun h:Heap=>LsAt h D ([sO IHDR,sO IDAT,sO IEND].map Sx)/\True)) ?_ (fun h p=>p)
 refine Xs.iteF (Ist.bop (d:=(false || (false || (false || (false || false))))) (All.orC (Ist.eqLn lv (fun h p=>p.2.1) (Tr.post (EvP.listP (F.cx hR1).grow Evs.nil (Nat.zero_le _)) fun v h q=>⟨dr q.1,q.2⟩) (by decide) hu)
  fun _=>All.orC (Ist.as (Ist.cm Cm.neS (Ev.itemL (a:=D) (k:=0) (c:=Sx (sO IHDR)) lv Ev.ci (fun h p=>p.2.1) (by decide) (by decide) (by decide) rfl) Ev.cs) (by decide)) fun _=>All.orC (Ist.as (Ist.cm Cm.neS (Ev.itemLn (a:=D) (k:=-1) (c:=Sx (sO IEND)) lv (Ev.neg Ev.ci) (fun h p=>p.2.1) (by decide) (by decide) (by decide) rfl) Ev.cs) (by decide))
  fun _=>All.orC (Ist.as (Ist.notInS (xs:=[sO IHDR,sO IDAT,sO IEND]) Ev.cs lv (fun h p=>p.2.1)) (by decide)) fun _=>All.orN)) ?_
 refine Xs.iteF (Ist.bop (d:=(false || (false || false))) (All.orC (Ist.as (Ist.cm Cm.gt (Ev.countS (a:=D) (xs:=[sO IHDR,sO IDAT,sO IEND]) lv (fun h p=>p.2.1) Ev.cs) Ev.ci) (by decide)) fun _=>All.orC (Ist.as (Ist.cm Cm.gt (Ev.countS (a:=D) (xs:=[sO IHDR,sO IDAT,sO IEND]) lv (fun h p=>p.2.1) Ev.cs) Ev.ci) (by decide)) fun _=>All.orN)) ?_
 have h8':slZ d0 (some 8) none=[8,6,0,0,0]:=(DZi (by decide)).trans h8
 refine Xs.iteF (Ist.bop (d:=(false || (false || false))) (All.orC (Ist.as (Ist.cm Cm.ne (Ev.lenB (F.cx hR1) (by lia) (bv VZl PyProof.Rows.bootS_len) (Ev.itT (a:=t0) (k:=1) (c:=By d0) (Ev.itemL (a:=a) (k:=0) lv Ev.ci (fun h p=>(hpre.grow p.1.keep).1) (by decide) (by show (0:Int)<3;decide) (by show 3<=16777216;decide) rfl) Ev.ci (fun h p=>(hpre.grow p.1.keep).2.1) (by decide) (by show (1:Int)<2;decide) (by show 2<=16777216;decide) rfl)) Ev.ci) (by refine sE hl ?_;rfl)) fun _=>All.orC (Ist.as (Ist.cm (Cm.neB (ls:=[8,6,0,0,0]) (hb.sl _ _) (by unfold InB;decide)) (Ev.sliceB (lo:=some 8) (hi:=none) (F.cx hR1) hb (by lia) (Ev.itT (a:=t0) (k:=1) (c:=By d0) (Ev.itemL (a:=a) (k:=0) lv Ev.ci (fun h p=>(hpre.grow p.1.keep).1) (by decide) (by show (0:Int)<3;decide) (by show 3<=16777216;decide) rfl) Ev.ci (fun h p=>(hpre.grow p.1.keep).2.1) (by decide) (by show (1:Int)<2;decide) (by show 2<=16777216;decide) rfl) (EvO.yes Ev.ci) EvO.no)
  (Ev.bytesL (F.cx hR1) hA.handled (by unfold InB;decide) (by show 5<=sizeLine;decide) (bv XZj PyProof.Rows.boot_bytes) (Tr.post (EvP.listP (F.cx hR1).grow (Evs.cons Ev.ci (Evs.cons Ev.ci (Evs.cons Ev.ci (Evs.cons Ev.ci (Evs.cons Ev.ci Evs.nil))))) (by show 5<=sizeLine;decide)) fun v h q=>⟨dr q.1,q.2⟩))) (by refine sE h8' ?_;decide)) fun _=>All.orN)) ?_
 exact Xs.nil fun h p=>⟨p.1.keep,rfl⟩
end
end
theorem adlN_lt (o:List Int):∀ i,(0<=(adlN o i).1/\(adlN o i).1<65536)/\(0<=(adlN o i).2/\(adlN o i).2<65536)
 | 0=>by
  show (0<=Builtin.bitAnd 1 65535/\Builtin.bitAnd 1 65535<65536)/\(0<=(1:Int).fdiv (2 ^ (16:Int).toNat)/\(1:Int).fdiv (2 ^ (16:Int).toNat)<65536)
  decide
 | i+1=>by
  have h:∀ x:Int,0<=x.fmod 65521/\x.fmod 65521<65536:=fun x=>⟨Int.fmod_nonneg_of_pos _ (by decide),Int.lt_trans (Int.fmod_lt_of_pos _ (by decide)) (by decide)⟩
  exact ⟨h _,h _⟩
theorem adler_rt {o:List Int}:YZz (YZp (XZn o)) 0=XZn o:=by
 refine J3 (adlN_lt o o.length) ?_;rintro ⟨h0,h1⟩ h2 h3
 have e:XZn o=(adlN o o.length).2*2 ^ 16+(adlN o o.length).1:=by
  unfold XZn
  exact VZr h2 h0 h1
 refine GZ6 ?_ ?_ <;> refine sE e ?_ <;> lia
noncomputable def ckS (nm:List Nat) (d:List Int):Sg:=(nmZ nm++d,YZp (crcZ (nmZ nm++d)))
noncomputable def gsOf (wd:Nat) (rs:List (List (List Int))) (kf:Nat->Int) (most:Nat):List Sg:=[ckS IHDR (VZk wd rs.length),ckS IDAT (YZo (frN wd rs kf rs.length) most),ckS IEND []]
theorem ck_o {nm:List Nat} {d:List Int} (h:nm.length=4):sgO (ckS nm d)=VZ3 nm d:=by
 unfold sgO ckS VZ3
 dsimp only
 refine sE List.length_append ?_;rewrite [nmZ];refine sE (List.length_map ..) (sE h (sE (show (((4+d.length:Nat):Int)-4)=d.length by lia) ?_))
 simp only [List.append_assoc]
theorem UZt {wd:Nat} {rs:List (List (List Int))} {kf:Nat->Int} {most:Nat}:pngZ wd rs kf most=sgZ++YZq (gsOf wd rs kf most):=by
 unfold pngZ gsOf YZq
 simp only [List.map_cons,List.map_nil,List.flatten_cons,List.flatten_nil]
 rw [ck_o rfl,ck_o rfl,ck_o rfl,List.append_nil,List.append_assoc,List.append_assoc]
theorem ck_ok {nm:List Nat} {d:List Int} (hn:Asc nm) (h:nm.length=4) (hd:InB d) (hz:d.length<=40000):SgOk (ckS nm d):=by
 have hl:(nmZ nm++d).length=4+d.length:=by refine sE List.length_append ?_;rewrite [nmZ];exact sE (List.length_map ..) (sE h rfl)
 exact ⟨(GZ4 hn).app hd,VZj _,by show 4<=(nmZ nm++d).length;lia,by show (nmZ nm++d).length<=50000;lia,rfl⟩
theorem UZd {nm:List Nat} {d:List Int} (hn:Asc nm) (hd:InB d):Sound (ckS nm d):=by
 have:=crcZ_range ((GZ4 hn).app hd)
 exact GZ6 this.1 this.2
theorem asc3:Asc IHDR/\Asc IDAT/\Asc IEND:=by unfold Asc;decide
theorem frN_at {wd:Nat} {rs:List (List (List Int))} {kf:Nat->Int} {i:Nat}:∀ {n:Nat},i<n->∃ tl,frN wd rs kf n=frN wd rs kf i++(kf i::YZi (kf i) (YZ3 (rs.getD i [])) (XZu wd rs i))++tl
 | 0,h=>absurd h (Nat.not_lt_zero _)
 | n+1,h=>by
  by_cases hi:i=n
  ·subst hi;exact ⟨[],by refine sE (List.append_nil ..) ?_;rfl⟩
  ·obtain ⟨tl,e⟩:=frN_at (i:=i) (n:=n) (by lia)
   exact ⟨tl++(kf n::YZi (kf n) (YZ3 (rs.getD n [])) (XZu wd rs n)),by rewrite [frN];refine sE e ?_;simp only [List.append_assoc]⟩
theorem frN_get {wd:Nat} {rs:List (List (List Int))} {kf:Nat->Int} (hw:∀ r∈rs,r.length=wd) {i:Nat} (hi:i<rs.length) :
  (frN wd rs kf rs.length).getD (i*(1+4*wd)) 0=kf i/\((frN wd rs kf rs.length).drop (i*(1+4*wd)+1)).take (4*wd)=YZi (kf i) (YZ3 (rs.getD i [])) (XZu wd rs i):=by
 obtain ⟨tl,e⟩:=frN_at (wd:=wd) (rs:=rs) (kf:=kf) hi
 have hl:=UZn (kf:=kf) hw i (by exact llN)
 have hf:(YZi (kf i) (YZ3 (rs.getD i [])) (XZu wd rs i)).length=4*wd:=by
  exact sE (YZt ..) (sE (XZ9 ..) (sE List.getD_eq_getElem?_getD (sE (List.getElem?_eq_getElem hi) (sE Option.getD_some (sE (hw _ (List.getElem_mem hi)) rfl)))))
 refine sE e (sE (List.append_assoc ..) ?_)
 have hd:∀ k,(frN wd rs kf i++((kf i::YZi (kf i) (YZ3 (rs.getD i [])) (XZu wd rs i))++tl)).drop (i*(1+4*wd)+k)=((kf i::YZi (kf i) (YZ3 (rs.getD i [])) (XZu wd rs i))++tl).drop k:=fun k=>by
  exact sF List.drop_drop (sF hl (sE List.drop_left rfl))
 refine ⟨?_,?_⟩
 ·have:=hd 0
  rw [Nat.add_zero,List.drop_zero] at this
  have g:=XZ7 (l:=frN wd rs kf i++((kf i::YZi (kf i) (YZ3 (rs.getD i [])) (XZu wd rs i))++tl)) (k:=i*(1+4*wd)) (j:=0)
  rw [Nat.add_zero] at g
  refine sE g (sE this ?_);rfl
 ·refine sE (hd 1) ?_
  show List.take (4*wd) (YZi _ _ _++tl)=_
  exact sF hf (sE List.take_left rfl)
theorem flat_at {cols:List (List Int)}:∀ {j:Nat},j<cols.length->((YZ3 cols).drop (4*j)).take 4=YZj (cols.getD j []):=by
 induction cols with
 | nil=>intro j h;cases h
 | cons c cs ih =>
  intro j h
  have e:YZ3 (c::cs)=YZj c++YZ3 cs:=rfl
  have hl:=XZ2 c
  refine sE e ?_
  cases j with
  | zero =>
   show List.take 4 (YZj c++YZ3 cs)=YZj c
   exact sF hl (sE List.take_left rfl)
  | succ j =>
   refine sE (show 4*(j+1)=(YZj c).length+4*j by lia) (sF List.drop_drop (sE List.drop_left ?_))
   exact ih (by simpa using h)
section
section
variable {prog:Program} {w:World} {A:Around} {env:Env} {h₀:Heap} {μ:Str->Option Value} {P:HP}
theorem Lo.ne_tp {h:Heap} {t:Addr} {cs:List Value} (lo:Lo env h₀ μ h) (x:TpAt h t cs):t≠env.locals/\∀ y c,env.cells.lookup y=some c->t≠c:=by
 refine J1 lo fun m F _ hc=>?_;clear lo
 refine J0 x fun vs z01 _=>?_;clear x;refine J7 z01 fun o ho _ n hd=>?_;clear z01
 refine ⟨fun q=>?_,fun y c e q=>?_⟩
 ·refine Jc F.ns fun o2 es ep h2 d2 _=>?_
  rw [<- q,ho] at h2;cases h2;rw [hd] at d2;cases d2
 ·refine J0 (hc y c e) fun v z01 _=>?_;refine J0 z01 fun o2 h2 d2=>?_;clear z01
  rw [<- q,ho] at h2;cases h2;rw [hd] at d2;cases d2
theorem Ev.head0 {a t0 t1 t2:Addr} {d0 d1:List Int} {p2 p3 p4 p5 p6:Pos} {k1 k2:Nat} (hv:Ev (model prog w) A env P (.Name "chunks" p2) (.ref a)) (hP:∀ h,P h->Ch3 h a t0 t1 t2 d0 d1) :
  Ev (model prog w) A env P (.Subscript (.Subscript (.Name "chunks" p2) (.Constant (.int 0) k1 p3) p4) (.Constant (.int 1) k2 p5) p6) (By d0) :=
 Ev.itT (a:=t0) (k:=1) (c:=By d0) (Ev.itL (a:=a) (k:=0) hv Ev.ci (fun h p=>(hP h p).1) (by decide) (by show (0:Int)<3;decide) (by show 3<=16777216;decide) rfl) Ev.ci (fun h p=>(hP h p).2.1) (by decide) (by show (1:Int)<2;decide) (by show 2<=16777216;decide) rfl
theorem Ch3.sf {W:List Addr} {a t0 t1 t2:Addr} {d0 d1:List Int} (ha:a∉W) (h0:t0∉W) (h1:t1∉W) (h2:t2∉W):Sf W (fun h=>Ch3 h a t0 t1 t2 d0 d1):=Sf.and (LsAt.sf ha) (Sf.and (TpAt.sf h0) (Sf.and (TpAt.sf h1) (TpAt.sf h2)))
end
theorem nm_ck {nm:List Nat} {d:List Int} (h:nm.length=4):nmN (ckS nm d)=nm/\(ckS nm d).1.drop 4=d:=by
 unfold nmN ckS nmZ
 dsimp only
 have hl:(nm.map fun (c:Nat)=>(c:Int)).length=4:=by exact sE (List.length_map ..) (sE h rfl)
 refine ⟨?_,?_⟩
 ·refine sF hl (sE List.take_left (sE List.map_map ?_))
  exact (List.map_congr_left fun c _=>by show ((c:Int)).toNat=c;exact Int.toNat_natCast _).trans (List.map_id nm)
 ·exact sF hl (sE List.drop_left rfl)
theorem ch3_of {h:Heap} {a:Addr} {d0 d1:List Int} (x:ChAt h a [ckS IHDR d0,ckS IDAT d1,ckS IEND []]):∃ t0 t1 t2,Ch3 h a t0 t1 t2 d0 d1:=by
 refine J1 x fun as l hl ht=>?_;clear x
 obtain ⟨t0,t1,t2,rfl⟩:∃ a b c,as=[a,b,c]:=ar3 as hl fun a b c=>⟨a,b,c,rfl⟩
 ·refine ⟨t0,t1,t2,l,?_,?_,?_⟩
  ·have:=ht 0 (by show 0<3;decide)
   have e:=nm_ck (nm:=IHDR) (d:=d0) rfl
   rw [show List.getD [ckS IHDR d0,ckS IDAT d1,ckS IEND []] 0 g0=ckS IHDR d0 from rfl,e.1,e.2] at this;exact this
  ·have:=ht 1 (by show 1<3;decide)
   have e:=nm_ck (nm:=IDAT) (d:=d1) rfl
   rw [show List.getD [ckS IHDR d0,ckS IDAT d1,ckS IEND []] 1 g0=ckS IDAT d1 from rfl,e.1,e.2] at this;exact this
  ·have:=ht 2 (by show 2<3;decide)
   have e:=nm_ck (nm:=IEND) (d:=[]) rfl
   rw [show List.getD [ckS IHDR d0,ckS IDAT d1,ckS IEND []] 2 g0=ckS IEND [] from rfl,e.1,e.2] at this;exact this
theorem head_w {wd ht:Nat} (h:wd<100):YZz (VZk wd ht) 0=wd:=by
 refine (GZw (o:=VZk wd ht) (k:=0) (l:=YZp wd) (r:=YZp ht++[8,6,0,0,0]) (by refine sE List.drop_zero ?_;exact List.append_assoc ..) rfl).trans ?_
 exact GZ6 (by exact Int.natCast_nonneg _) (by lia)
theorem head_h {wd ht:Nat} (h:ht<100):YZz (VZk wd ht) 4=ht:=by
 rw [show (4:Int)=((4:Nat):Int) from rfl,GZw (o:=VZk wd ht) (k:=4) (l:=YZp ht) (r:=[8,6,0,0,0]) (by
  show (YZp wd++YZp ht++[8,6,0,0,0]).drop (YZp wd).length=_
  rw [List.append_assoc,List.drop_left]) rfl]
 exact GZ6 (by exact Int.natCast_nonneg _) (by lia)
noncomputable def RowsX (Wz:List Addr) (rl:Addr) (cols:Nat->List (List Int)) (z:List (Addr×List Addr)) (i:Nat) (h:Heap):Prop :=
 (z.length=i/\∀ p∈z,p.1∉Wz/\∀ b∈p.2,b∉Wz)/\LsAt h rl (z.map fun p=>Value.ref p.1)/\∀ j,j<i->RowX h (z.getD j (0,[])).1 (z.getD j (0,[])).2 (cols j)
theorem RowsX.sf {Wz W:List Addr} {rl:Addr} {cols:Nat->List (List Int)} {z:List (Addr×List Addr)} {i:Nat} (hr:rl∉W) (hW:∀ b∈W,b∈Wz):Sf W (RowsX Wz rl cols z i):=fun h h' k x =>
 ⟨x.1,LsAt.sf hr _ _ k x.2.1,fun j hj=>by
  have:=x.1.2 _ (YZr (d:=(0,[])) (by refine sE x.1.1 ?_;exact hj))
  exact RowX.sf (fun q=>this.1 (hW _ q)) (fun b hb q=>this.2 b hb (hW _ q)) _ _ k (x.2.2 j hj)⟩
theorem RowsX.new {Wz W:List Addr} {rl:Addr} {cols:Nat->List (List Int)} {z:List (Addr×List Addr)} {i:Nat} (hW:∀ b∈W,New (RowsX Wz rl cols z i) b):Sf W (RowsX Wz rl cols z i):=fun h h' k x=>by
 have hn:∀ b∈W,b≠rl/\∀ j,j<i->b≠(z.getD j (0,[])).1/\b∉(z.getD j (0,[])).2:=fun b hb=>by
  refine J0 (hW b hb) fun h1 p1 e1=>?_
  refine ⟨fun q=>?_,fun j hj=>⟨fun q=>?_,fun q=>?_⟩⟩
  ·obtain ⟨o,ho⟩:=p1.2.1.live
   rw [<- q,e1] at ho;cases ho
  ·obtain ⟨o,ho⟩:=(p1.2.2 j hj).live.1
   rw [<- q,e1] at ho;cases ho
  ·obtain ⟨o,ho⟩:=(p1.2.2 j hj).live.2 _ q
   rw [e1] at ho;cases ho
 exact ⟨x.1,LsAt.sf (fun q=>(hn _ q).1 rfl) _ _ k x.2.1,fun j hj=>RowX.sf (fun q=>((hn _ q).2 j hj).1 rfl) (fun b hb q=>((hn _ q).2 j hj).2 hb) _ _ k (x.2.2 j hj)⟩
theorem RowsX.push {Wz:List Addr} {rl D:Addr} {bs:List Addr} {cols:Nat->List (List Int)} {z:List (Addr×List Addr)} {i:Nat} {h h':Heap} (x:RowsX Wz rl cols z i h) (hrl:rl∈Wz) (sb:Heap.SameBut rl h h') (l:LsAt h' rl ((z.map fun p=>Value.ref p.1)++[.ref D])) (hD:D∉Wz) (hb:∀ b∈bs,b∉Wz) (r:RowX h D bs (cols i)):RowsX Wz rl cols (z++[(D,bs)]) (i+1) h':=by
 have kk:∀ b o,b∉[rl]->h.get? b=some o->h'.get? b=some o:=fun b o hb e=>(sb.2 b fun q=>hb (by simp [q])).trans e
 have off:∀ b,b∉Wz->b∉[rl]:=fun b hb q=>hb (by refine sE (mS q) ?_;exact hrl)
 refine ⟨⟨by refine sE List.length_append (sE x.1.1 ?_);rfl,fun p hp=>?_⟩,by refine sE List.map_append ?_;exact l,fun j hj=>?_⟩
 ·rcases mA hp with hp | hp
  ·exact x.1.2 p hp
  ·refine sE (mS hp) ?_;exact ⟨hD,hb⟩
 ·by_cases hji:j<i
  ·refine sE (show (z++[(D,bs)]).getD j (0,[])=z.getD j (0,[]) by rw [List.getD_eq_getElem?_getD,List.getElem?_append_left (by rw [x.1.1];omega),List.getD_eq_getElem?_getD]) ?_
   have:=x.1.2 _ (YZr (d:=(0,[])) (by refine sE x.1.1 ?_;exact hji))
   exact RowX.sf (off _ this.1) (fun b hb=>off _ (this.2 b hb)) _ _ kk (x.2.2 j hji)
  ·have:j=i:=by lia
   subst this
   refine sE (show (z++[(D,bs)]).getD j (0,[])=(D,bs) by rw [List.getD_eq_getElem?_getD,List.getElem?_append_right (by rw [x.1.1];exact Nat.le_refl _),x.1.1,Nat.sub_self];rfl) ?_
   exact RowX.sf (off _ hD) (fun b h=>off _ (hb b h)) _ _ kk r
theorem RowsX.rows {Wz:List Addr} {rl:Addr} {cols:Nat->List (List Int)} {z:List (Addr×List Addr)} {n:Nat} {h:Heap} (x:RowsX Wz rl cols z n h):RowsAt h rl ((List.range n).map cols):=by
 refine ⟨z.map (·.1),by refine sE List.map_map ?_;exact x.2.1,by exact sE (List.length_map ..) (sE (List.length_map ..) (sE List.length_range (sE x.1.1 rfl))),fun i hi=>?_⟩
 have hi:i<n:=by simpa using hi
 have:=(x.2.2 i hi).row
 rw [show (z.map (·.1)).getD i 0=(z.getD i (0,[])).1 by
  rw [List.getD_eq_getElem?_getD,List.getElem?_map,List.getD_eq_getElem?_getD,List.getElem?_eq_getElem (by rw [x.1.1];exact hi)];rfl,show ((List.range n).map cols).getD i []=cols i by rw [List.getD_eq_getElem?_getD,List.getElem?_map,List.getElem?_range hi];rfl]
 exact this
end
section
section
variable {prog:Program} {w:World} {A:Around} {env:Env} {K:Frag} {h₀:Heap} {μ:Str->Option Value} {rest:List Stmt} {N:HP} {Rt X:Value->HP} {pos p1:Pos} {e:PySem.Expr} {W:List Addr} {R:HP} {x:Str} {c:Value}
theorem Xs.asgV (hS:St1 prog w A env h₀ W x (PySem.assign (.Name x p1) env)) (hR:Sf W R) (he:Ev (model prog w) A env (Pc env h₀ μ R) e c)
  (hr:Xs (model prog w) A env (Pc env h₀ (up μ x c) R) rest N Rt X)
  (hs:autoParam (swapsWith e (some (.Name x p1)) pos.line env=pure false) tR) (hsw:autoParam (swappedStores [.Name x p1] e env=pure none) tR):Xs (model prog w) A env (Pc env h₀ μ R) (.Assign [.Name x p1] e pos::rest) N Rt X :=
 Xs.asg (V:=fun v _=>v=c) hS hR he (fun _=>Sf.const) (fun c'=>fun s Q E p k1 k2 k3=>by
  refine J3 p ?_;clear p;rintro lo rfl r
  exact hr s Q E ⟨lo,r⟩ k1 k2 k3) hs hsw
end
theorem VZi {α β:Type} (f:List α->β) (l:List (List α)):(List.range l.length).map (fun j=>f (l.getD j []))=l.map f:=by
 refine List.ext_getElem (by simp) fun j h1 h2=>?_
 have hj:j<l.length:=by simpa using h1
 refine sE (List.getElem_map ..) (sE (List.getElem_map ..) (sE (List.getElem_range ..) (sE List.getD_eq_getElem?_getD (sE (List.getElem?_eq_getElem hj) ?_))));rfl
set_option tactic.hygienic true in
theorem mulOk {a b:Int} (h:a.natAbs<2 ^ 64):IntMulOk a b:=by
 refine IntMulOk.of_left ?_
 unfold Builtin.Int.intBits
 split
 ·decide
 ·next hz=>exact (Nat.log2_lt (by simpa using hz)).mpr h
set_option tactic.hygienic true in
theorem HZf {a b:Int} (h:b.natAbs<2 ^ 64):IntMulOk a b:=by
 refine IntMulOk.of_right ?_
 unfold Builtin.Int.intBits
 split
 ·decide
 ·next hz=>exact (Nat.log2_lt (by simpa using hz)).mpr h
theorem cl1a {n:Str} {c:Addr} {env:Env} (h1:env.cells.lookup n=some c):∀ x d,[(n,c)].lookup x=some d->env.cells.lookup x=some d:=fun x d h=>by
 have:=YZs h
 simp only [List.mem_cons,List.not_mem_nil,or_false,Prod.mk.injEq] at this
 obtain ⟨rfl,rfl⟩:=this
 exact h1
theorem cl1b {n:Str} {c:Addr} {scope:Scope} {env:Env} (h2:(relabel scope env).names.lookup n=some .cell):∀ x d,[(n,c)].lookup x=some d->(relabel scope env).names.lookup x≠some .local:=fun x d h=>by
 have:=YZs h
 simp only [List.mem_cons,List.not_mem_nil,or_false,Prod.mk.injEq] at this
 obtain ⟨rfl,rfl⟩:=this
 refine sE h2 ?_;intro q;cases q
theorem cellsBoth {n:Str} {c:Addr} (x:Str) (d:Addr) (h:[(n,c)].lookup x=some d):x=n/\d=c:=by
 have:=YZs h
 simpa only [List.mem_cons,List.not_mem_nil,or_false,Prod.mk.injEq] using this
theorem XZ3 {n:Str} {c:Addr}:(∀ x d,[(n,c)].lookup x=some d->x=n):=fun x d h=>by
 have:=YZs h
 simp only [List.mem_cons,List.not_mem_nil,or_false,Prod.mk.injEq] at this
 exact this.1
section
variable {prog:Program} {w:World}
theorem BZz {wd:Nat} {rs:List (List (List Int))} {kf:Nat->Int} {most:Nat} (hc:∀ r∈rs,∀ c∈r,VZg c) (hw:∀ r∈rs,r.length=wd) (hwz:wd<=4) (hrz:rs.length<=4) (hk:∀ i,0<=kf i/\kf i<=4) (hm0:0<most) (hm1:most<=65535) :
  Fn prog w (KK w.params) 250 8 [By (pngZ wd rs kf most)] (fun _=>True) (fun v h h'=>∃ t,v=.ref t/\h.get? t=none/\∃ r,TpAt h' t [I wd,I rs.length,.ref r]/\RowsAt h' r (rs.map fun row=>row.map YZj)):=by
 have hfl:=UZn (kf:=kf) hw rs.length (Nat.le_refl _)
 have hfz:rs.length*(1+4*wd)<=4*17:=Nat.mul_le_mul hrz (by lia)
 have hfb:=HZq (wd:=wd) (rs:=rs) hk rs.length
 have hstl:=UZk (o:=frN wd rs kf rs.length) hm0
 have hstb:=UZ3 hm0 hm1 (by lia) hfb
 have hgs:∀ g∈gsOf wd rs kf most,SgOk g:=allL (ck_ok asc3.1 rfl (VZb _ _) (by refine sE (XZb ..) ?_;decide)) (allL (ck_ok asc3.2.1 rfl hstb (by lia)) (allL (ck_ok asc3.2.2 rfl InB.nil (Nat.zero_le _)) allN))
 have hso:∀ g∈gsOf wd rs kf most,Sound g:=allL (UZd asc3.1 (VZb _ _)) (allL (UZd asc3.2.1 hstb) (allL (UZd asc3.2.2 InB.nil) allN))
 have hpz:(sgZ++YZq (gsOf wd rs kf most)).length<=100000:=by
  have h1:=VZq (hgs _ (List.mem_cons_self ..))
  have h2:=VZq (hgs _ (List.mem_cons_of_mem _ (List.mem_cons_self ..)))
  have h3:=VZq (hgs _ (List.mem_cons_of_mem _ (List.mem_cons_of_mem _ (List.mem_cons_self ..))))
  have e1:(ckS IHDR (VZk wd rs.length)).1.length=17:=by unfold ckS;refine sE List.length_append (sE (XZb ..) ?_);rfl
  have e2:(ckS IDAT (YZo (frN wd rs kf rs.length) most)).1.length=4+(YZo (frN wd rs kf rs.length) most).length:=by unfold ckS;refine sE List.length_append ?_;rfl
  have e3:(ckS IEND []).1.length=4:=rfl
  unfold YZq gsOf
  simp only [List.map_cons,List.map_nil,List.flatten_cons,List.flatten_nil,List.length_append,List.length_nil]
  refine sE h1 (sE h2 (sE h3 (sE e1 (sE e2 (sE e3 (sE (show sgZ.length=8 from rfl) ?_))))));lia
 refine sE UZt ?_
 refine Fn.mkC ["octets"] [] (by exact rfl) (by kernel_rfl) (fun s args _ h=>ar1 args h fun _=>BindsTo.of_eq rfl) (fun h L A G _ hL hA F ce=>?_) ?_ ?_ ?_
 ·have hR:Sf [L,L+1] (fun _=>True):=Sf.const
  have hWL:L∈[L]:=List.Mem.head _
  have hWL2:L∈[L,L+1]:=List.Mem.head _
  refine Xs.assignN (G:=fun a h=>∃ t0 t1 t2,(t0∉[L,L+1]/\t1∉[L,L+1]/\t2∉[L,L+1])/\Ch3 h a t0 t1 t2 (VZk wd rs.length) (YZo (frN wd rs kf rs.length) most)) F ce.cl (Sf.const:Sf [L] (fun _:Heap=>True)) (Tr.post (EvP.callN (G:=fun a h=>ChAt h a (gsOf wd rs kf most)) (F.cx hR) (Fn.post (FnE.fn (UZi KZy rfl hgs (by show 3<=10;decide) hpz) (fun hn=>hn ⟨rfl,hso⟩)) fun v h h' q=>q.2) (hA.mono (by decide)) (gv UZv) (Evs.cons lv Evs.nil) (fun _ _=>trivial) (by kernel_rfl)) fun v h1 q=>⟨?_,q.2⟩) (fun a n h1 h2 kk q=>?_) (fun a n=>?_)
  ·refine J1 q.1 fun a e n ch=>?_
   refine Jj (ch3_of ch) fun t0 t1 t2 c3=>?_
   have off:∀ t cs,TpAt h1 t cs->t∉[L,L+1]:=fun t cs x q'=>by
    have:=q.2.1.ne_tp x
    rcases mC q' with e | q'
    ·exact this.1 e
    ·exact this.2 "row" (L+1) rfl (mS q')
   exact ⟨a,e,n,t0,t1,t2,⟨off _ _ c3.2.1,off _ _ c3.2.2.1,off _ _ c3.2.2.2⟩,c3⟩
  ·refine Jp q fun t0 t1 t2 f c3=>?_;clear q
   have m:∀ {t:Addr},t∉[L,L+1]->t∉[L]:=fun ht q=>ht (by refine sE (mS q) ?_;exact List.mem_cons_self ..)
   exact ⟨t0,t1,t2,f,Ch3.sf (fun q=>n.ne_loc (mS q).symm) (m f.1) (m f.2.1) (m f.2.2) _ _ kk c3⟩
  refine Xs.pre (P:=Pc _ h _ (fun h=>∃ t:Addr×Addr×Addr,(t.1∉[L,L+1]/\t.2.1∉[L,L+1]/\t.2.2∉[L,L+1])/\Ch3 h a t.1 t.2.1 t.2.2 (VZk wd rs.length) (YZo (frN wd rs kf rs.length) most))) ?_ (fun h p=>⟨p.1,Jp p.2.1 fun t0 t1 t2 f c=>⟨(t0,t1,t2),f,c⟩⟩)
  refine Xs.exR fun t=>?_
  obtain ⟨t0,t1,t2⟩:=t
  refine Xs.fact2 (q:=t0∉[L,L+1]/\t1∉[L,L+1]/\t2∉[L,L+1]) (fun h p=>p.2.1) fun ht=>?_
  have hax:a∉[L,L+1]:=fun q=>by
   rcases mC q with e | q
   ·exact n.ne_loc e.symm
   ·exact n.ne_cell (y := "row") (c:=L+1) rfl (mS q).symm
  dsimp only
  have hR1:Sf [L,L+1] (fun h:Heap=>(t0∉[L,L+1]/\t1∉[L,L+1]/\t2∉[L,L+1])/\Ch3 h a t0 t1 t2 (VZk wd rs.length) (YZo (frN wd rs kf rs.length) most)):=Sf.and Sf.const (Ch3.sf hax ht.1 ht.2.1 ht.2.2)
  refine Xs.expr' (Tr.post (EvP.call (F.cx hR1) (KZf (a:=a) (t0:=t0) (t1:=t1) (t2:=t2) (VZb _ _) (XZb _ _) rfl) (hA.mono (by decide)) (gv KZu) (Evs.cons lv Evs.nil) (fun h p=>p.2.2) (by kernel_rfl)) fun v h q=>q.2) ?_
  refine Xs.swp (W:=[L,L+1]) (Y:=Unit) (ns:=["width", "height"]) (V:=fun _ _=>True) (cs:=fun _=>[I wd,I rs.length]) hA.handled (fun n hn=>?_) hR1 (fun _=>Sf.const) (Tr.post (Ev.tup0 (F.cx hR1).grow (Evs.cons
    (Tr.post (Ev.call (F.cx hR1) (UZx (k:=0) (VZb wd rs.length) (by decide) (by refine sE (XZb ..) ?_;decide) (by refine sE (XZb ..) ?_;decide)) (hA.mono (by decide)) (gv KZa) (Evs.cons (Ev.head0 lv (fun h p=>p.2.2)) (Evs.cons Ev.ci Evs.nil)) (fun _ _=>trivial) (by kernel_rfl)) fun v h q=>⟨q.1.trans (by exact sE (head_w (by exact tzN)) rfl),q.2⟩)
    (Evs.cons (Tr.post (Ev.call (F.cx hR1) (UZx (k:=4) (VZb wd rs.length) (by decide) (by refine sE (XZb ..) ?_;decide) (by refine sE (XZb ..) ?_;decide)) (hA.mono (by decide)) (gv KZa) (Evs.cons (Ev.head0 lv (fun h p=>p.2.2)) (Evs.cons Ev.ci Evs.nil)) (fun _ _=>trivial) (by kernel_rfl)) fun v h q=>⟨q.1.trans (by exact sE (head_h (by exact tzN)) rfl),q.2⟩) Evs.nil)) (by show 2<=sizeLine;decide)) fun v h q=>⟨J1 q.1 fun a e _ l=>⟨(),trivial,a,e,l⟩,q.2⟩) (fun _=>rfl) (fun _=>?_)
  ·simp only [List.reverse_cons,List.reverse_nil,List.nil_append,List.singleton_append,List.cons_append,List.mem_cons,List.not_mem_nil,or_false] at hn
   rcases hn with rfl | rfl
   ·exact St1.locB F ce.cl hWL2
   ·exact St1.locB F ce.cl hWL2
  have hR2:Sf [L,L+1] (fun h:Heap=>True/\(t0∉[L,L+1]/\t1∉[L,L+1]/\t2∉[L,L+1])/\Ch3 h a t0 t1 t2 (VZk wd rs.length) (YZo (frN wd rs kf rs.length) most)):=Sf.and Sf.const hR1
  refine Xs.asgV (St1.loc F ce.cl hWL2) hR2 (c:=By (frN wd rs kf rs.length)) (Ev.call (F.cx hR2) (BZw hfb (by lia) hm0 hm1 adler_rt hstb) (hA.mono (by decide)) (gv NZ7) (Evs.cons (Ev.joinB (F.cx hR2) (Tr.post (EvP.compF (n:=3) (c:=.ref a) (cl:=[]) (ok:=fun env=>env.kindOf "name" = some .local/\env.kindOf "told" = some .local) (ns:=["name", "told"])
    (bd:=fun i μ=>up (up μ "name" (([(Sx (sO IHDR),By (VZk wd rs.length)),(Sx (sO IDAT),By (YZo (frN wd rs kf rs.length) most)),(Sx (sO IEND),By [])]:List (Value×Value)).getD i (.none,.none)).1) "told" (([(Sx (sO IHDR),By (VZk wd rs.length)),(Sx (sO IDAT),By (YZo (frN wd rs kf rs.length) most)),(Sx (sO IEND),By [])]:List (Value×Value)).getD i (.none,.none)).2) (RO:=[a,t0,t1,t2])
    F ⟨by rfl,fun _=>⟨by rfl,by rfl⟩,by decide,by rfl,by decide,fun _ _ h=>(nomatch h),fun _ _ h=>(nomatch h)⟩ ce.cl lv (fun v h' e p=>?_) (by refine sE sizeLine_eq ?_;decide) (fun W hW=>?_) (fun i=>[false,true,false].getD i false) (fun i=>(([(Sx (sO IHDR),By (VZk wd rs.length)),(Sx (sO IDAT),By (YZo (frN wd rs kf rs.length) most)),(Sx (sO IEND),By [])]:List (Value×Value)).getD i (.none,.none)).2) (fun i B C hn hF hi hB hB2=>?_) (fun i B C hn hF hi ht hB hB2=>lv))
    fun v h q=>⟨dr q.1,q.2⟩)) Evs.nil) (fun _ _=>trivial) (by kernel_rfl)) ?_
  ·refine sE (YZh e) ?_
   have q:=p.2.2.2
   exact SrcW.pairs (as:=[t0,t1,t2]) (xs:=[(Sx (sO IHDR),By (VZk wd rs.length)),(Sx (sO IDAT),By (YZo (frN wd rs kf rs.length) most)),(Sx (sO IEND),By [])]) hA.handled q.1 (fun i hi=>by
    exact lt3 i hi (q.2.1) (q.2.2.1) (q.2.2.2)) p
  ·refine Sf.and Sf.const (Sf.and Sf.const (Ch3.sf ?_ ?_ ?_ ?_)) <;> refine New.of_live hW fun h p=>?_
   ·exact p.2.2.2.1.live
   ·exact p.2.2.2.2.1.live
   ·exact p.2.2.2.2.2.1.live
   ·exact p.2.2.2.2.2.2.live
  ·exact lt3 i hi (Ist.as (Ist.cm (Cm.eqS (x:=sO IHDR)) lv Ev.cs) (by decide)) (Ist.as (Ist.cm (Cm.eqS (x:=sO IDAT)) lv Ev.cs) (by decide)) (Ist.as (Ist.cm (Cm.eqS (x:=sO IEND)) lv Ev.cs) (by decide))
  have hbt:∀ i:Nat,(i:Int)*(1+4*(wd:Int))=((i*(1+4*wd):Nat):Int):=fun i=>by push_cast;rfl
  refine Xs.iteF (Ist.as (Ist.cm Cm.ne (Ev.lenB (ks:=frN wd rs kf rs.length) (F.cx hR2) (by lia) (bv VZl PyProof.Rows.bootS_len) lv) (Ev.mul (i:=(rs.length:Int)) (j:=1+4*(wd:Int)) (mulOk (by exact tzN)) lv (Ev.add Ev.ci (Ev.mul (IntMulOk.of_left (by decide)) (zv VZz) lv)))) (by refine sE hfl (sE (hbt ..) ?_);exact bne_self_eq_false _)) ?_
  refine Xs.swp (W:=[L,L+1]) (Y:=Addr) (ns:=["rows", "above"]) (V:=fun y h'=>(y∉[L,L+1]/\h.get? y=none)/\LpAt h' y []) (cs:=fun y=>[.ref y,By (XZu wd rs 0)]) hA.handled (fun n hn=>?_) hR2 (fun y=>?_) ?_ (fun _=>rfl) (fun rl=>?_)
  ·simp only [List.reverse_cons,List.reverse_nil,List.nil_append,List.cons_append,List.mem_cons,List.not_mem_nil,or_false] at hn
   rcases hn with rfl | rfl
   ·exact St1.locB F ce.cl hWL2
   ·exact St1.locB F ce.cl hWL2
  ·exact fun h1 h2 kk q=>⟨q.1,LpAt.sf q.1.1 _ _ kk q.2⟩
  ·refine Tr.post (EvP.tup1 (F.cx hR2).grow (EvsP.cons2 (V2:=fun cs _=>cs=[By (XZu wd rs 0)]) hR2 (fun c h h' k q=>?_) (EvP.listP (F.cx hR2).grow Evs.nil (Nat.zero_le _)) fun c hRc=>?_) ?_ ?_) ?_
   ·refine J1 q fun a e n g=>?_;clear q
    exact ⟨a,e,n,LpAt.sf List.not_mem_nil _ _ k g⟩
   ·exact Evs.cons (Ev.bytesZ (k:=4*(wd:Int)) (by exact Int.natCast_nonneg _) (by lia) (bv XZj PyProof.Rows.boot_bytes) (Ev.mul (IntMulOk.of_left (by decide)) (zv VZz) lv)) Evs.nil
   ·rintro cs h1 h2 g ⟨c,cs',rfl,⟨a,rfl,n,e⟩,rfl⟩
    exact ⟨_,_,rfl,⟨a,rfl,n,e.grow g⟩,rfl⟩
   ·rintro cs h1 ⟨c,cs',rfl,_,rfl⟩
    show 2<=sizeLine;decide
   ·rintro v h1 ⟨⟨a,cs,e,n,t,c,cs',rfl,⟨b,rfl,nb,eb⟩,rfl⟩,p⟩
    refine ⟨⟨b,⟨⟨fun q=>?_,nb.old⟩,eb⟩,a,e,t⟩,p⟩
    rcases mC q with e | q
    ·exact nb.ne_loc e.symm
    ·exact nb.ne_cell (y := "row") (c:=L+1) rfl (mS q).symm
  refine Xs.fact2 (q:=rl∉[L,L+1]/\h.get? rl=none) (fun h p=>p.2.1.1) fun hrl=>?_
  have hrl1:rl≠L:=fun q=>hrl.1 (by refine sE q ?_;exact hWL2)
  have hrl2:rl≠L+1:=fun q=>hrl.1 (by refine sE q ?_;simp)
  refine Xs.pre (P:=Pc _ h _ (fun h:Heap=>LpAt h rl [])) ?_ (fun h p=>⟨p.1,p.2.1.2⟩)
  have hR3:Sf [L,L+1] (fun h:Heap=>LpAt h rl []):=LpAt.sf hrl.1
  have hcols:∀ i,i<rs.length->(rs.getD i []).length=wd/\∀ c∈rs.getD i [],VZg c:=fun i hi=>by
   refine sE List.getD_eq_getElem?_getD (sE (List.getElem?_eq_getElem hi) ?_)
   exact ⟨hw _ (List.getElem_mem hi),hc _ (List.getElem_mem hi)⟩
  refine Xs.forR (n:=rs.length) (σ:=List (Addr×List Addr)) F ce.cl hA.handled [L,L+1,rl] (fun h p=>allL p.1.loc_in (allL (p.1.cell_in (y := "row") rfl) (allL p.2.live allN))) (by exact tzN) (bv XZi PyProof.Rows.boot_range) lv ["begin", "row"]
   (fun i _=>up (up (up (up (up (up (YZ9 ["octets"] ([By (sgZ++YZq (gsOf wd rs kf most))]++List.map tk0 [])) "chunks" (.ref a)) "height" (I rs.length)) "width" (I wd)) "data" (By (frN wd rs kf rs.length))) "above" (By (XZu wd rs i))) "rows" (.ref rl))
   (fun W i z h=>RowsX (L::(L+1)::rl::W) rl (fun j=>(rs.getD j []).map YZj) z i h)
   (fun W hW i z=>RowsX.sf (New.of_live hW fun h p=>p.2.live) (fun b hb=>List.mem_cons_of_mem _ (List.mem_cons_of_mem _ (List.mem_cons_of_mem _ hb)))) (fun W i z=>RowsX.sf (by simp;exact hrl1) (fun b hb=>by refine sE (mS hb) ?_;exact List.mem_cons_self ..)) (LpAt.sf List.not_mem_nil) [] (fun h p W hW=>⟨⟨rfl,fun p hp=>nomatch hp⟩,p,fun j hj=>absurd hj (Nat.not_lt_zero _)⟩) ⟨_,by refine sE (YZv ..) ?_;exact ⟨fun _ _=>rfl,fun _ _=>rfl⟩⟩ ?_ ?_
  ·intro W hW i z S u hi hS hlv hst
   refine Xs.fact2 (q:=z.length=i) (fun h p=>p.2.1.1.1) fun hzl=>?_
   obtain ⟨hwi,hci⟩:=hcols i hi
   have hfbi:=DZv hci
   have hfli:(YZ3 (rs.getD i [])).length=4*wd:=by exact sE (XZ9 ..) (sE hwi rfl)
   have hpb:=NZg (wd:=wd) hc i (by exact llN)
   have hpl:=HZe (wd:=wd) hw i (by exact llN)
   have hRS:Sf [L,L+1] (fun h:Heap=>RowsX (L::(L+1)::rl::W) rl (fun j=>(rs.getD j []).map YZj) z i h/\S h):=Sf.and (RowsX.sf (by simp;exact ⟨hrl1,hrl2⟩) (fun b hb=>by simp at hb ⊢;rcases hb with h | h <;> simp [h])) (hS.mono fun b hb=>by simp at hb ⊢;rcases hb with h | h <;> simp [h])
   have hlt:i*(1+4*wd)+(1+4*wd)<=rs.length*(1+4*wd):=by
    refine sF (Nat.succ_mul ..) ?_;exact Nat.mul_le_mul_right _ hi
   obtain ⟨hg1,hg2⟩:=frN_get (wd:=wd) (rs:=rs) (kf:=kf) hw hi
   refine Xs.asgV (St1.loc F ce.cl hWL2) hRS (c:=I ((i*(1+4*wd):Nat):Int)) (Tr.post (Ev.mul (i:=(i:Int)) (j:=1+4*(wd:Int)) (mulOk (by lia)) lv (Ev.add Ev.ci (Ev.mul (IntMulOk.of_left (by decide)) (zv VZz) lv))) fun v h q=>⟨q.1.trans (by exact sE (hbt ..) rfl),q.2⟩) ?_
   have htold:slZ (frN wd rs kf rs.length) (some (((i*(1+4*wd):Nat):Int)+1)) (some (((i*(1+4*wd):Nat):Int)+1+4*(wd:Int)))=YZi (kf i) (YZ3 (rs.getD i [])) (XZu wd rs i):=by
    refine sE (VZ5 (by exact Int.natCast_nonneg _) (by exact Int.natCast_nonneg _)) (sF hg2 (sE (show (((i*(1+4*wd):Nat):Int)+1).toNat=i*(1+4*wd)+1 by exact Int.toNat_natCast _) ?_))
    generalize i*(1+4*wd)=m;congr 1;lia
   have hfil:(YZi (kf i) (YZ3 (rs.getD i [])) (XZu wd rs i)).length=4*wd:=by exact sE (YZt ..) (sE hfli rfl)
   refine Xs.asgV (St1.cel F ce (c:=L+1) rfl (by exact mm1)) hRS (c:=By (YZ3 (rs.getD i []))) (Tr.post (Ev.call (F.cx hRS) (DZp (k:=kf i) (hk i).1 (hk i).2 (VZd (kf i) (YZ3 (rs.getD i [])) (XZu wd rs i)) hpb (by lia) (by lia)) (hA.mono (by decide)) (gv HZk)
    (Evs.cons (Tr.post (Ev.itemB (ks:=frN wd rs kf rs.length) (k:=((i*(1+4*wd):Nat):Int)) hfb (by lia) (by exact Int.natCast_nonneg _) (by lia) lv lv) fun v h q=>⟨q.1.trans (by exact sE (show (((i*(1+4*wd):Nat):Int)).toNat=i*(1+4*wd) by exact Int.toNat_natCast _) (sE hg1 rfl)),q.2⟩)
     (Evs.cons (Tr.post (Ev.sliceB (lo:=some (((i*(1+4*wd):Nat):Int)+1)) (hi:=some (((i*(1+4*wd):Nat):Int)+1+4*(wd:Int))) (F.cx hRS) hfb (by lia) lv (EvO.yes (Ev.add lv Ev.ci)) (EvO.yes (Ev.add (Ev.add lv Ev.ci) (Ev.mul (IntMulOk.of_left (by decide)) (zv VZz) lv)))) fun v h q=>⟨q.1.trans (by exact sE htold rfl),q.2⟩) (Evs.cons lv (Evs.cons (zv VZz) Evs.nil))))
    (fun _ _=>trivial) (by kernel_rfl)) fun v h q=>⟨q.1.trans (by exact sE (unf_all hfbi) rfl),q.2⟩) ?_
   refine Xs.lsApp (a:=rl) (cs:=z.map fun p=>Value.ref p.1) (R':=fun h=>∃ z',RowsX (L::(L+1)::rl::W) rl (fun j=>(rs.getD j []).map YZj) z' (i+1) h/\S h) F (hRS.mono fun b hb=>by refine sE (mS hb) ?_;exact hWL2) (fun μ=>Lo.sf (fun q=>hrl1 (mS q).symm) (fun y c e q=>?_) (fun b hb=>by refine sE (mS hb) ?_;exact hrl.2)) (by rfl) (fun h r=>r.1.2.1) ?_
    (EvP.tupComp (n:=wd) (ks:=fun j=>YZj ((rs.getD i []).getD j [])) (Wz:=L::(L+1)::rl::W) (cl:=[("row", L+1)]) F ⟨by rfl,fun _=>by rfl,by decide,by rfl,by decide,cl1a (by rfl),cl1b (by rfl)⟩ ce.cl hA.handled (by exact tzN) (bv XZi PyProof.Rows.boot_range) lv (fun W' hW'=>Sf.and (RowsX.new fun b hb=>J0 (hW' b hb) fun h p e=>⟨h,p.2.1,e⟩) (hst W' fun b hb=>.inr (J0 (hW' b hb) fun h p e=>⟨h,p.2.2,e⟩)))
     (fun h p=>allL p.1.loc_in (allL (p.1.cell_in (y := "row") rfl) (allL p.2.1.2.1.live fun b hb=>hlv h p.2.2 b hb))) (fun j hj=>VZ0 (hci _ (YZr (by lia)))) (fun j hj=>by refine sE (XZ2 ..) ?_;decide) GZ8 (fun j B C hF hj hB hB2=>?_) (fun C=>by rfl)) ?_ ?_
   ·have:=(cellsBoth (n := "row") (c:=L+1) y c e).2
    exact hrl2 ((mS q).symm.trans this)
   ·refine sE (List.length_map ..) (sE hzl (sE sizeLine_eq ?_));lia
   ·refine Tr.post (Ev.sliceB (lo:=some (4*(j:Int))) (hi:=some (4*(j:Int)+4)) (hF.cx hB) hfbi (by lia) (cv (L+1)) (EvO.yes (Ev.mul (IntMulOk.of_left (by decide)) (zv VZz) lv)) (EvO.yes (Ev.add (Ev.mul (IntMulOk.of_left (by decide)) (zv VZz) lv) (zv VZz)))) fun v h q=>⟨q.1.trans ?_,q.2⟩
    exact sE (VZ5 (by exact Int.natCast_nonneg _) (by exact Int.natCast_nonneg _)) (sE (show (4*(j:Int)).toNat=4*j by exact Int.toNat_natCast _) (sE (show (4*(j:Int)+4).toNat-4*j=4 by lia) (sE (flat_at (by lia)) rfl)))
   ·rintro h1 h2 c sb l ⟨D,bs,rfl,nD,hD,hbs,rx⟩ r
    have hcol:(List.range wd).map (fun j=>YZj ((rs.getD i []).getD j []))=(rs.getD i []).map YZj:=by
     refine sF hwi ?_;exact VZi ..
    exact ⟨z++[(D,bs)],RowsX.push r.1 (by exact mm2) sb l hD hbs (by refine sF hcol ?_;exact rx),hS _ _ (fun b o hb e=>(sb.2 b fun q=>hb (by refine sE q ?_;simp)).trans e) r.2⟩
   ·refine Xs.exR fun z'=>?_
    have hRS':Sf [L,L+1] (fun h:Heap=>RowsX (L::(L+1)::rl::W) rl (fun j=>(rs.getD j []).map YZj) z' (i+1) h/\S h):=Sf.and (RowsX.sf (by simp;exact ⟨hrl1,hrl2⟩) (fun b hb=>by simp at hb ⊢;rcases hb with h | h <;> simp [h])) (hS.mono fun b hb=>by simp at hb ⊢;rcases hb with h | h <;> simp [h])
    refine Xs.asgV (St1.loc F ce.cl hWL2) hRS' (cv (L+1)) ?_
    refine Xs.turnZ z' ⟨?_,?_⟩ fun h r=>r
    ·repeat (first | exact allN | refine allL rfl ?_)
    ·exact allL rfl allN
  ·intro W hW u z
   have hRS:Sf [L,L+1] (fun h:Heap=>RowsX (L::(L+1)::rl::W) rl (fun j=>(rs.getD j []).map YZj) z rs.length h):=RowsX.sf (by simp;exact ⟨hrl1,hrl2⟩) (fun b hb=>by simp at hb ⊢;rcases hb with h | h <;> simp [h])
   refine Xs.ret (Ev.tup0 (F.cx hRS).grow (Evs.cons lv (Evs.cons lv (Evs.cons lv Evs.nil))) (by show 3<=sizeLine;decide)) fun v h' q p=>⟨p.1.keep,?_⟩
   refine J1 q fun t e n l=>?_;clear q
   refine ⟨t,e,n.old,rl,l,?_⟩
   have:=p.2.rows
   refine sF (VZi (fun row=>row.map YZj) rs) ?_
   exact this
 ·exact fun L=>allL (.inl (by rfl)) allN
 ·intro L x c h
  refine sE (XZ3 (n := "row") (c:=L+1) x c h) ?_;rfl
 ·intro L x y c h1 h2
  exact sE (XZ3 (n := "row") (c:=L+1) x c h1) (sE (XZ3 (n := "row") (c:=L+1) y c h2) rfl)
end
end
section
section
variable {prog:Program} {w:World}
theorem BZu {sg:List Int} {gs:List Sg} (hs:InB sg) (hsl:sg.length=8) (hg:∀ g∈gs,SgOk g) (hn:gs.length<=10) (hz:(sg++YZq gs).length<=100000) (hbad:¬ (sg=sgZ/\∀ g∈gs,Sound g)) :
  FnX prog w (KK w.params) 250 8 [By (sg++YZq gs)] (fun _=>True) 51:=by
 refine FnX.mkC ["octets"] [] (by exact rfl) (by kernel_rfl) (fun s args _ h=>ar1 args h fun _=>BindsTo.of_eq rfl) (fun h L A base outer G _ hL hA F ce B=>?_) ?_ ?_ ?_
 ·have hR:Sf [L,L+1] (fun _=>True):=Sf.const
  exact Xs.asgE (EvX.call (F.cx hR) B (FnE.fx (UZi hs hsl hg hn hz) (fun v h h' q=>hbad q.1)) (hA.mono (by decide)) (gv UZv) (Evs.cons lv Evs.nil) (fun _ _=>trivial) (by kernel_rfl))
 ·exact fun L=>allL (.inl (by rfl)) allN
 ·intro L x c h
  refine sE (XZ3 (n := "row") (c:=L+1) x c h) ?_;rfl
 ·intro L x y c h1 h2
  exact sE (XZ3 (n := "row") (c:=L+1) x c h1) (sE (XZ3 (n := "row") (c:=L+1) y c h2) rfl)
theorem fr_refused {sg:List Int} {gs:List Sg} (hs:InB sg) (hsl:sg.length=8) (hg:∀ g∈gs,SgOk g) (hn:gs.length<=10) (hz:(sg++YZq gs).length<=100000) (hbad:¬ (sg=sgZ/\∀ g∈gs,Sound g)) :
  FnR prog w (KK w.params) 370 9 [By (sg++YZq gs)] (fun _=>True) (fun v=>v=.bool true):=by
 refine FnR.mk ["octets"] [] (by exact rfl) (by kernel_rfl) (fun s args _ h=>ar1 args h fun _=>BindsTo.of_eq rfl) (fun h L A base outer G Gb _ hL hA F hC B=>?_)
 have hR:Sf [L] (fun _=>True):=Sf.const
 exact Xs.tryT Gb F.fn F.gl B (Xs.exprE (EvX.call (F.cx hR) B (BZu hs hsl hg hn hz hbad) (hA.mono (by decide)) (gv KZ0) (Evs.cons lv Evs.nil) (fun _ _=>trivial) (by kernel_rfl))) (fun h k=>⟨k,rfl⟩)
end
end
section
open PySem.SeqAt
section
variable {prog:Program} {w:World} {A:Around} {E:Value->Shared->Prop} {s:Shared}
theorem NZ1 {l:Addr} {items:Array Value} {k:Int} {t:Tok} {v:Value} {Q:Unit->Shared->Prop} (hl:s.heap.PlainList l items) (h0:0<=k) (hfit:k<2 ^ 63) (hn:k<items.size)
  (hQ:∀ h',h'.PlainList l (items.setIfInBounds k.toNat v)->Heap.SameBut l s.heap h'->Q () { s with heap:=h' }):wpAny (model prog w) A (setItem (.ref l) (.int k t) v) Q E s:=by
 have hL:=hl.isList
 obtain ⟨n,ho⟩:=hl
 unfold setItem
 try with_reducible refine wpAny_holding ?_
 first | refine wpAny_bind (wpAny_pure ?_) | skip
 refine wpAny_bind (wpAny_sequenceKey hL.typeIs (by decide) ?_)
 refine wpAny_bind (wpAny_callSpecial?_slot (name:=Str.ofString "__setitem__") hL.typeIs slot_list_setitem
  (wpAny_call_entry slot_list_setitem hL.typeIs entry_list_setitem ?_ (args_list_setitem _ _ _)))
 show wpAny _ _ (Builtin.List.listSubscript? (.int k t) >>= _) _ _ s
 refine wpAny_bind (wpAny_listSubscript_int (fitsIndex_of h0 hfit) ?_)
 clear hfit
 obtain ⟨j,rfl⟩:=Int.eq_ofNat_of_zero_le h0
 have hj:j<items.size:=by lia
 show wpAny _ _ ((seqItemAt l j >>= fun r=>pure (r.map (j,·))) >>= _) _ _ s
 refine wpAny_bind (wpAny_bind (wpAny_seqItemAt ho rfl (wpAny_pure ?_)))
 refine sE (Array.getElem?_eq_getElem hj) ?_
 show wpAny _ _ (setSeqItemAt l j v >>= _) _ _ s
 have hfin:(s.heap.update l (Obj.mapSeq (·.setIfInBounds j v))).PlainList l (items.setIfInBounds j v):=⟨_,IsL.update (n:=n) ho _⟩
 refine wpAny_bind (wpAny_setSeqItemAt ho rfl ?_)
 first
  | exact wpAny_bind (wpAny_pure (wpAny_pure ⟨.none,rfl,wpAny_pure (hQ _ hfin (Heap.SameBut.update ..))⟩))
  | exact wpAny_pure ⟨.none,rfl,wpAny_pure (hQ _ hfin (Heap.SameBut.update ..))⟩
end
theorem set_tk (vs:List Value) (j:Nat) (v:Value):(vs.set j v).map tk0=(vs.map tk0).set j (tk0 v):=List.map_set ..
section
variable {prog:Program} {w:World} {A:Around} {env:Env} {K:Frag} {h₀:Heap} {μ:Str->Option Value} {P:HP} {rest:List Stmt} {N:HP} {Rt X:Value->HP} {pos p1 fp:Pos} {e e1 e2 o ix value l r:PySem.Expr} {es:List PySem.Expr} {R R':HP} {c c1 c2:Value} {cs ds:List Value} {a:Addr} {i j:Int} {k:Nat} {b:Bool}
theorem Xs.setL (hv:Ev (model prog w) A env (Pc env h₀ μ R) value c) (ho:Ev (model prog w) A env (Pc env h₀ μ R) o (.ref a)) (hi:Ev (model prog w) A env (Pc env h₀ μ R) ix (I (k:Int))) (hl:∀ h,Pc env h₀ μ R h->LsAt h a cs) (hk:k<cs.length) (hz:cs.length<2 ^ 60) (hoff:Off env h₀ a)
  (hR:∀ h h',Heap.SameBut a h h'->LsAt h' a (cs.set k c)->R h->R' h') (hr:Xs (model prog w) A env (Pc env h₀ μ R') rest N Rt X)
  (hs:autoParam (swapsWith value (some (.Subscript o ix p1)) pos.line env=pure false) tR) (hns:autoParam ((match ix with | .Slice ..=>true | _=>false)=false) tR) :
  Xs (model prog w) A env (Pc env h₀ μ R) (.Assign [.Subscript o ix p1] value pos::rest) N Rt X:=fun s Q E p k1 k2 k3=>by
 refine YZk ?_
 refine sE (exec_Assign_Subscript o ix p1 value pos hs) ?_
 refine YZa (YZd (YZa (hv s _ E p fun v h1 tk1 x=>?_)))
 refine sE (assign_Subscript ..) ?_
 refine YZa (YZa (YZe (ho _ _ E x.2 fun ov h2 tk2 y=>YZa (YZe (hi _ _ E y.2 fun iv h3 tk3 z=>YZa (YZd (YZa (YZe (YZb ?_)))))))))
 refine sE (YZh y.1) ?_
 refine tkI z.1 fun t=>?_
 refine J0 (hl _ z.2) fun vs hp e=>?_
 have hlen:vs.length=cs.length:=by exact sF e (sE (List.length_map ..) rfl)
 refine NZ1 hp (by exact Int.natCast_nonneg _) (by lia) (by refine sE List.size_toArray ?_;lia) fun h' hp' sb=>?_
 refine VZn (YZc ?_)
 refine hr _ Q E ⟨hoff μ _ _ (fun b o hb e=>(sb.2 b fun q=>hb (q▸List.mem_singleton_self _)).trans e) z.2.1,hR _ _ sb ⟨vs.set k v,?_,?_⟩ z.2.2⟩ k1 k2 k3
 ·rw [List.setIfInBounds_toArray,show ((k:Int)).toNat=k by exact Int.toNat_natCast _] at hp';exact hp'
 ·exact sE (set_tk ..) (sE e (sE x.1 rfl))
theorem Ev.int1 (C:Cx K env h₀ μ P) (hf:Ev (model prog w) A env P (.Name "int" fp) (.type "int")) (h:Ev (model prog w) A env P e (I i))
  (he:autoParam (eval (.Call (.Name "int" fp) [e] [] pos) env=(do let f <- eval (.Name "int" fp) env;callWith pos f [] (backTo pos (starEach [e] env)) [])) tR)
  (he2:autoParam (starEach [e] env=(false,eval e env)::starEach [] env) tR) (hpl:autoParam ((backTo pos (starEach [e] env)).any (·.1)=false) tR):Ev (model prog w) A env P (.Call (.Name "int" fp) [e] [] pos) (I i) :=
 EvP.callT1 (V':=fun v _=>v=I i) hf h.toP (fun s Q E v p q kk=>by
  refine tkI q fun t=>?_
  exact YZb (call_int_int (kk _ s.heap s.toks rfl p))) he he2 hpl
theorem Ev.intB (C:Cx K env h₀ μ P) (hf:Ev (model prog w) A env P (.Name "int" fp) (.type "int")) (h:Ev (model prog w) A env P e (.bool b))
  (he:autoParam (eval (.Call (.Name "int" fp) [e] [] pos) env=(do let f <- eval (.Name "int" fp) env;callWith pos f [] (backTo pos (starEach [e] env)) [])) tR)
  (he2:autoParam (starEach [e] env=(false,eval e env)::starEach [] env) tR) (hpl:autoParam ((backTo pos (starEach [e] env)).any (·.1)=false) tR):Ev (model prog w) A env P (.Call (.Name "int" fp) [e] [] pos) (I (if b=true then 1 else 0)) :=
 EvP.callT1 (V':=fun v _=>v=I (if b=true then 1 else 0)) hf h.toP (fun s Q E v p q kk=>by
  obtain rfl:=VZp q
  exact YZb (call_int_bool (kk _ s.heap _ rfl p))) he he2 hpl
theorem Ev.max2 (C:Cx K env h₀ μ P) (hh:A.handled=none) (hf:Ev (model prog w) A env P (.Name "max" fp) (.builtin "max")) (h1:Ev (model prog w) A env P e1 (I i)) (h2:Ev (model prog w) A env P e2 (I j))
  (he2:autoParam (starEach [e1,e2] env=(false,eval e1 env)::starEach [e2] env) tR) (he3:autoParam (starEach [e2] env=(false,eval e2 env)::starEach [] env) tR) (hpl:autoParam ((backTo pos (starEach [e1,e2] env)).any (·.1)=false) tR):Ev (model prog w) A env P (.Call (.Name "max" fp) [e1,e2] [] pos) (I (if j > i then j else i)) :=
 Ev.callB hf (Evs.cons h1 (Evs.cons h2 Evs.nil he3) he2) (fun s Q E vs p hv kk=>by
  refine J4 (tk2 hv) ?_;rintro v u rfl q1 q2
  refine tkI q1 fun t=>?_
  refine tkI q2 fun t2=>?_
  refine YZb (max_two_ints hh fun h' tk g=>kk _ h' tk ?_ g)
  split <;> rfl) C.grow rfl he2 hpl
theorem Ev.lenL (C:Cx K env h₀ μ P) (hz:cs.length<2 ^ 60) (hf:Ev (model prog w) A env P (.Name "len" p1) (.builtin "len")) (h:Ev (model prog w) A env P e (.ref a)) (hl:∀ h,P h->LsAt h a cs)
  (he2:autoParam (starEach [e] env=(false,eval e env)::starEach [] env) tR) (hpl:autoParam ((backTo pos (starEach [e] env)).any (·.1)=false) tR):Ev (model prog w) A env P (.Call (.Name "len" p1) [e] [] pos) (I (cs.length:Int)) :=
 Ev.callB hf (Evs.cons h Evs.nil he2) (fun s Q E vs p hv kk=>by
  refine J0 (tk1 hv) ?_;rintro v rfl e1
  refine sE (YZh e1) ?_
  refine J0 (hl _ p) fun vs hp e=>?_
  have hlen:vs.length=cs.length:=by exact sF e (sE (List.length_map ..) rfl)
  refine YZb (PyProof.Rows.len_list hp.isList (by refine sE List.size_toArray ?_;lia) ?_)
  refine sE List.size_toArray (sE hlen ?_);exact kk _ s.heap _ rfl (Grows.refl _)) C.grow rfl he2 hpl
theorem EvP.callM {f:Addr} {n:Nat} {fx:Str} {Pre:HP} {Post:Value->Heap->Heap->Prop} {V:Value->HP} {W:List Addr} (F:Fx K env h₀) (hF:FnB prog w K f n cs W Pre Post) (hO:OffL env h₀ W) (hr:Room n A) (hf:Ev (model prog w) A env (Pc env h₀ μ R) (.Name fx fp) (.ref f)) (ha:Evs (model prog w) A env (Pc env h₀ μ R) pos (e::es) cs) (hp:∀ h,Pc env h₀ μ R h->Pre h)
  (hV:∀ v h h',Pc env h₀ μ R h->Grows (hideAll h W) h'->Post v h h'->V v h'/\R h')
  (hd:(match K.lookup f with | some ⟨_,_,.func _,_⟩=>true | _=>false)=true) (he:autoParam (eval (.Call (.Name fx fp) (e::es) [] pos) env=(do let f <- eval (.Name fx fp) env;callWith pos f [] (backTo pos (starEach (e::es) env)) [])) tR)
  (he2:autoParam (starEach (e::es) env=(false,eval e env)::starEach es env) tR) (hpl:autoParam ((backTo pos (starEach (e::es) env)).any (·.1)=false) tR) :
  EvP (model prog w) A env (Pc env h₀ μ R) (.Call (.Name fx fp) (e::es) [] pos) V:=fun s Q E p k=>by
 refine J2 (HZ0 hd) fun o fd ho hd'=>?_
 refine YZx (hf s _ E p fun v h1 tk1 x=>?_) he
 refine sE (YZh x.1) ?_
 refine YZn (o:=o) (fd:=fd) hpl ?_
 refine DZb (s:={ s with heap:=h1,toks:=tk1 }) ha x.2 (fun vs h2 tk2 ev y=>?_) he2
 have G2:Gd K (hideAll h2 W):=F.gd.keeps (VZ1 y.1.keep hO.old)
 refine ⟨⟨(F.gd.keeps y.1.keep).inK _ _ ho,hd'⟩,YZy (hF _ _ _ vs hr G2 (hp _ y) ev fun v h3 tk3 g q=>?_)⟩
 have:=hV _ _ _ y g q
 exact k v h3 tk3 ⟨this.1,hO.sf μ _ _ (XZg g) y.1,this.2⟩
theorem EvP.addL {V1 V2:Addr->HP} (C:Cx K env h₀ μ P) (hl:EvP (model prog w) A env P l (fun v h=>∃ a,v=.ref a/\LsAt h a cs)) (hr:∀ a,EvP (model prog w) A env (fun h=>LsAt h a cs/\P h) r (fun v h=>∃ b,v=.ref b/\LsAt h b ds)) (hz:cs.length+ds.length<=10000000) :
  EvP (model prog w) A env P (.BinOp l .Add r pos) (fun v h=>∃ a,v=.ref a/\New P a/\LsAt h a (cs++ds)):=fun s Q E p k =>
 KZq (hl s _ E p fun v h1 tk1 x=>by
  obtain ⟨⟨a,e1,la⟩,p1⟩:=x
  refine hr a _ _ E ⟨la,p1⟩ fun u h2 tk2 y=>?_
  refine J3 y fun z00 z01 p2=>?_;clear y;refine J0 z00 fun b e2 z12=>?_;clear z00;refine J0 z12 fun us z21 eu=>?_;clear z12;obtain ⟨m,hb⟩:=z21;refine J0 z01 fun vs z11 ev=>?_;clear z01;obtain ⟨n,ha⟩:=z11
  refine sE (YZh e1) (sE (YZh e2) ?_)
  have h1:vs.length=cs.length:=by exact sF ev (sE (List.length_map ..) rfl)
  have h2:us.length=ds.length:=by exact sF eu (sE (List.length_map ..) rfl)
  refine YZb (PySem.P.add_list (n:=n) (n2:=m) ha hb ?_ (by refine sE List.size_toArray (sE List.size_toArray (sE sizeLine_eq ?_));lia))
  refine k _ _ _ ⟨⟨_,rfl,⟨_,p2,YZg _⟩,vs++us,⟨0,?_⟩,by exact sE List.map_append (sE ev (sE eu rfl))⟩,C.grow _ _ (Grows.push _ _) p2⟩
  refine sF (List.append_toArray ..) ?_;exact Heap.get?_push_size _ rfl)
end
end
section
open PySem.SeqAt
section
variable {P:Params}
theorem g_law_pool:nsIn (KK P) mainGlobals "_law_pool" = some (some (.ref 330)):=by kernel_rfl
theorem VZ9:nsIn (KK P) mainGlobals "_law_take" = some (some (.ref 337)):=by kernel_rfl
theorem XZ8:nsIn (KK P) mainGlobals "_law_one" = some (some (.ref 344)):=by kernel_rfl
theorem HZn:nsIn (KK P) mainGlobals "_law_colour" = some (some (.ref 349)):=by kernel_rfl
theorem KZs:nsIn (KK P) mainGlobals "_law_straight" = some (some (.ref 356)):=by kernel_rfl
theorem g_law_laid:nsIn (KK P) mainGlobals "_law_laid" = some (some (.ref 363)):=by kernel_rfl
theorem GZn:nsIn (KK P) mainGlobals "_law_is_refused" = some (some (.ref 370)):=by kernel_rfl
theorem HZm:nsIn (KK P) mainGlobals "_law_places" = some (some (.ref 377)):=by kernel_rfl
end
noncomputable def SrcOk (src:Addr) (h:Heap):Prop:=∃ a b:Int,0<=a/\0<=b/\LsAt h src [I a,I b]
theorem SrcOk.sf {W:List Addr} {src:Addr} (h:src∉W):Sf W (SrcOk src):=fun h1 h2 k ⟨a,b,h0,h1',l⟩=>⟨a,b,h0,h1',LsAt.sf h _ _ k l⟩
theorem SrcOk.live {src:Addr} {h:Heap} (x:SrcOk src h):∃ o,h.get? src=some o:=J4 x fun _ _ _ _ l=>l.live
section
variable {prog:Program} {w:World} {A:Around} {env:Env} {K:Frag} {h₀:Heap} {μ:Str->Option Value} {P:HP} {pos fp:Pos} {e e1 e2 value slice:PySem.Expr} {es:List PySem.Expr} {R:HP} {c1:Value} {cs:List Value} {a:Addr} {V:Value->HP}
theorem EvsP.two (h1:Ev (model prog w) A env P e1 c1) (h2:EvP (model prog w) A env P e2 V) (he:autoParam (starEach (e1::[e2]) env=(false,eval e1 env)::starEach [e2] env) tR) (he2:autoParam (starEach (e2::[]) env=(false,eval e2 env)::starEach [] env) tR) :
  EvsP (model prog w) A env P pos [e1,e2] (fun vs h=>∃ c2,vs=[c1,c2]/\V c2 h):=fun s Q E p k =>
 YZ0 (h1 s _ E p fun v h' tk x=>YZ0 (h2 _ _ E x.2 fun u h2 tk2 y=>YZb (wpAny_items_nil (k _ h2 tk2 ⟨⟨tk0 u,by refine sE List.map_cons (sE List.map_cons (sE x.1 ?_));rfl,y.1⟩,y.2⟩))) he2) he
theorem c_argsP {s:Shared} {E:Value->Shared->Prop} {VV:List Value->HP} {fv:Value} {Q:Args->Shared->Prop} (hev:EvsP (model prog w) A env P pos (e::es) VV) (hp:P s.heap) (k:∀ vs h' tk,VV (vs.map tk0) h'->P h'->Q ⟨vs,[]⟩ { s with heap:=h',toks:=tk })
  (he2:starEach (e::es) env=(false,eval e env)::starEach es env):wpC (model prog w) A (evalArgs fv true (backTo pos (starEach (e::es) env)) []) Q E s:=by
 have ha':=hev s (fun vs s₂=>Q ⟨vs,[]⟩ s₂) E hp (fun vs h2 tk2 y=>k vs h2 tk2 y.1 y.2)
 rw [he2] at ha' ⊢
 exact YZ6 ha'
theorem EvP.callMX {Y:Type} {cy:Y->List Value} {VY:Y->HP} {f:Addr} {n:Nat} {fx:Str} {Pre:Y->HP} {Post:Y->Value->Heap->Heap->Prop} {W:List Addr} (F:Fx K env h₀) (hF:∀ y h,Pc env h₀ μ R h->VY y h->FnB prog w K f n (cy y) W (Pre y) (Post y)) (hO:OffL env h₀ W) (hr:Room n A) (hf:Ev (model prog w) A env (Pc env h₀ μ R) (.Name fx fp) (.ref f)) (ha:EvsP (model prog w) A env (Pc env h₀ μ R) pos (e::es) (fun vs h=>∃ y,vs=cy y/\VY y h)) (hp:∀ y h,Pc env h₀ μ R h->VY y h->Pre y h)
  (hV:∀ y v h h',Pc env h₀ μ R h->VY y h->Grows (hideAll h W) h'->Post y v h h'->V v h'/\R h')
  (hd:(match K.lookup f with | some ⟨_,_,.func _,_⟩=>true | _=>false)=true) (he:autoParam (eval (.Call (.Name fx fp) (e::es) [] pos) env=(do let f <- eval (.Name fx fp) env;callWith pos f [] (backTo pos (starEach (e::es) env)) [])) tR)
  (he2:autoParam (starEach (e::es) env=(false,eval e env)::starEach es env) tR) (hpl:autoParam ((backTo pos (starEach (e::es) env)).any (·.1)=false) tR) :
  EvP (model prog w) A env (Pc env h₀ μ R) (.Call (.Name fx fp) (e::es) [] pos) V:=fun s Q E p k=>by
 refine J2 (HZ0 hd) fun o fd ho hd'=>?_
 refine YZx (hf s _ E p fun v h1 tk1 x=>?_) he
 refine sE (YZh x.1) ?_
 refine YZn (o:=o) (fd:=fd) hpl ?_
 refine c_argsP (s:={ s with heap:=h1,toks:=tk1 }) ha x.2 (fun vs h2 tk2 ev y=>?_) he2
 refine J0 ev ?_;clear ev;rintro yy ev vy
 have G2:Gd K (hideAll h2 W):=F.gd.keeps (VZ1 y.1.keep hO.old)
 refine ⟨⟨(F.gd.keeps y.1.keep).inK _ _ ho,hd'⟩,YZy (hF yy h2 y vy _ _ _ vs hr G2 (hp yy _ y vy) ev fun v h3 tk3 g q=>?_)⟩
 have:=hV yy _ _ _ y vy g q
 exact k v h3 tk3 ⟨this.1,hO.sf μ _ _ (XZg g) y.1,this.2⟩
theorem EvP.itL (hv:Ev (model prog w) A env P value (.ref a)) (hi:EvP (model prog w) A env P slice (fun v _=>∃ k:Int,v=I k/\0<=k/\k<cs.length)) (hT:∀ h,P h->LsAt h a cs) (hz:cs.length<=16777216)
  (hs:autoParam (∀ b k u,subscripted slice false (.ref b) (.int k u)=operate [.ref b,.int k u] (getItem (.ref b) (.int k u))) tX):EvP (model prog w) A env P (.Subscript value slice pos) (fun v _=>∃ i,i<cs.length/\v=cs.getD i .none):=fun s Q E p kk=>by
 refine YZ2 (hv s _ E p fun v h1' tk1 x=>hi _ _ E x.2 fun u h2 tk2 y=>?_)
 refine sE (YZh x.1) ?_
 obtain ⟨⟨k,e,h0,h1⟩,p2⟩:=y
 refine tkI e fun t2=>?_
 refine J0 (hT _ p2) fun vs hlp e=>?_
 have hl:=hlp.isList
 have hlen:vs.length=cs.length:=by exact sF e (sE (List.length_map ..) rfl)
 have hlt:k.toNat<vs.length:=by lia
 refine YZb (GZu rfl ⟨"list", _,slot_list_getitem.lookup,hl.typeIs,wpAny_getItem_list hl h0 (by lia) (x:=vs[k.toNat]) (by simp [hlt]) (kk _ _ _ ⟨⟨k.toNat,by lia,?_⟩,p2⟩)⟩ (hs _ _ _))
 refine sF e (sE List.getD_eq_getElem?_getD (sE List.getElem?_map (sE (List.getElem?_eq_getElem hlt) ?_)));rfl
end
section
variable {prog:Program} {w:World}
theorem fn_pool {a:Addr} {ks:List Int} (hz:ks.length<=100):Fn prog w (KK w.params) 330 2 [.ref a] (fun h=>LsAt h a (ks.map I)) (fun v h h'=>∃ s,v=.ref s/\h.get? s=none/\SrcOk s h'):=by
 refine Fn.mk ["script"] [] (by exact rfl) (by kernel_rfl) (fun s args _ h=>ar1 args h fun _=>BindsTo.of_eq rfl) (fun h L A G hpre hL hA F hC=>?_)
 have hR:Sf [L] (fun _=>True):=Sf.const
 have hWL:L∈[L]:=List.Mem.head _
 refine Xs.assignV F hC hWL hR Ev.ci ?_
 refine Xs.ifset (c:=I (ks.getD 0 0)) F hC hWL hR (Ist.cm Cm.gt (Ev.lenL (F.cx hR) (by refine sE (List.length_map ..) ?_;exact tzN) (bv VZl PyProof.Rows.bootS_len) lv (fun h p=>hpre.grow p.1.keep)) Ev.ci) (fun d=>?_) ?_
 ·rw [decide_eq_true_eq,List.length_map] at d
  refine Ev.itemL (a:=a) (k:=0) lv Ev.ci (fun h p=>hpre.grow p.1.keep) (by decide) (by refine sE (List.length_map ..) ?_;exact d) (by refine sE (List.length_map ..) ?_;exact tdN) ?_
  exact XZc (by lia)
 refine sE (show (if decide ((0:Int)<((ks.map I).length:Int))=true then I (ks.getD 0 0) else I 0)=I (if decide ((0:Int)<((ks.map I).length:Int))=true then ks.getD 0 0 else 0) by split <;> rfl) ?_
 generalize (if decide ((0:Int)<((ks.map I).length:Int))=true then ks.getD 0 0 else 0)=c
 have hb:∃ big:Int,(if -1-c > c then -1-c else c)=big/\0<=big:=⟨_,rfl,by split <;> lia⟩
 refine J0 hb fun big hbe hb0=>?_;clear hb
 refine Xs.assignV F hC hWL hR (c:=I big) (Tr.post (Ev.max2 (i:=c) (j:=-1-c) (F.cx hR) hA.handled (bv g_max PyProof.Rows.boot_max) (Ev.int1 (F.cx hR) (bv KZt PyProof.Rows.boot_int) lv) (Ev.int1 (F.cx hR) (bv KZt PyProof.Rows.boot_int) (Ev.sub (Ev.neg Ev.ci) lv))) fun v h q=>⟨q.1.trans (by exact sE hbe rfl),q.2⟩) ?_
 refine Xs.ret (EvP.listP (F.cx hR).grow (Evs.cons (Ev.mul (i:=big) (j:=if decide ((10:Int) ^ (18:Int).toNat<=big)=true then 1 else 0) (HZf (by split <;> decide)) lv (Ev.intB (F.cx hR) (bv KZt PyProof.Rows.boot_int) (Ev.cm Cm.ge lv (Ev.pow (i:=10) (j:=18) (by decide) (by decide) (by decide) (by decide) Ev.ci Ev.ci))))
  (Evs.cons (Ev.mod (i:=(big.fmod 2147483629+17)*48271) (j:=2147483647) (by decide) (Ev.int1 (F.cx hR) (bv KZt PyProof.Rows.boot_int) (Ev.mul (HZf (by decide)) (Ev.add (Ev.mod (by decide) lv Ev.ci) Ev.ci) Ev.ci)) Ev.ci) Evs.nil)) (by show 2<=sizeLine;decide)) fun v h' q p=>⟨p.1.keep,?_⟩
 refine J1 q fun s e n l=>?_;clear q
 exact ⟨s,e,n.old,_,_,by split <;> lia,Int.fmod_nonneg_of_pos _ (by decide),l⟩
theorem fn_take {src:Addr} {top:Int} (h0:0<top) (h1:top<=1000000):FnB prog w (KK w.params) 337 2 [.ref src,I top] [src] (SrcOk src) (fun v h h'=>(∃ k,v=I k/\0<=k/\k<top)/\SrcOk src h'):=by
 refine FnB.mk ["source", "top"] [] (by exact rfl) (by kernel_rfl) (fun s args _ h=>ar2 args h fun _ _=>BindsTo.of_eq rfl) (fun h L A G hpre hL hA F hC=>?_)
 refine J4 hpre fun a b a0 b0 hl=>?_;clear hpre
 have hsL:src≠L:=fun q=>by
  obtain ⟨o,ho⟩:=hl.live
  rw [hL src (Nat.le_of_eq q.symm)] at ho;cases ho
 have hWL:L∈[L]:=List.Mem.head _
 refine Xs.pre (P:=Pc _ (hideAll h [src]) _ (fun h'=>LsAt h' src [I a,I b])) ?_ (fun h' p=>⟨p.1,hl.grow p.2⟩)
 have hRl:∀ a b,Sf [L] (fun h':Heap=>LsAt h' src [I a,I b]):=fun a b=>LsAt.sf (by simp;exact hsL)
 have hR:=hRl a b
 refine Xs.iteR (Ist.cm Cm.gt (Ev.itemL (a:=src) (k:=0) (c:=I a) lv Ev.ci (fun h p=>p.2) (by decide) (by show (0:Int)<2;decide) (by show 2<=16777216;decide) rfl) Ev.ci) (fun e=>?_) (fun e=>?_)
 ·refine Xs.assignV F hC hWL hR (c:=I (a.fmod top)) (Ev.mod (by lia) (Ev.int1 (F.cx hR) (bv KZt PyProof.Rows.boot_int) (Ev.itemL (a:=src) (k:=0) (c:=I a) lv Ev.ci (fun h p=>p.2) (by decide) (by show (0:Int)<2;decide) (by show 2<=16777216;decide) rfl)) lv) ?_
  refine Xs.setL (a:=src) (k:=0) (cs:=[I a,I b]) (R':=fun h'=>LsAt h' src [I (a.fdiv top),I b]) (Ev.fdiv (i:=a) (j:=top) (by lia) (by omega) (Ev.itemL (a:=src) (k:=0) (c:=I a) lv Ev.ci (fun h p=>p.2) (by decide) (by show (0:Int)<2;decide) (by show 2<=16777216;decide) rfl) lv) lv Ev.ci (fun h p=>p.2) (by show 0<2;decide) (by show 2<2 ^ 60;decide) (Off.plain rfl hsL (hideAll_none _ (List.mem_singleton.mpr rfl))) (fun h1 h2 _ l _=>l) ?_
  have hR2:=hRl (a.fdiv top) b
  exact Xs.retV lv fun h' p=>⟨p.1.keep,⟨_,rfl,Int.fmod_nonneg_of_pos _ h0,Int.fmod_lt_of_pos _ h0⟩,_,_,Int.fdiv_nonneg a0 (by exact llI),b0,p.2⟩
 ·refine Xs.setL (a:=src) (k:=1) (cs:=[I a,I b]) (R':=fun h'=>LsAt h' src [I a,I ((b*39373+7).fmod 2147483647)]) (Ev.mod (by decide) (Ev.int1 (F.cx hR) (bv KZt PyProof.Rows.boot_int) (Ev.add (Ev.mul (HZf (by decide)) (Ev.itemL (a:=src) (k:=1) (c:=I b) lv Ev.ci (fun h p=>p.2) (by decide) (by show (1:Int)<2;decide) (by show 2<=16777216;decide) rfl) Ev.ci) Ev.ci)) Ev.ci) lv Ev.ci (fun h p=>p.2) (by show 1<2;decide) (by show 2<2 ^ 60;decide) (Off.plain rfl hsL (hideAll_none _ (List.mem_singleton.mpr rfl))) (fun h1 h2 _ l _=>l) ?_
  have hR2:=hRl a ((b*39373+7).fmod 2147483647)
  have b1:0<=(b*39373+7).fmod 2147483647:=Int.fmod_nonneg_of_pos _ (by decide)
  generalize (b*39373+7).fmod 2147483647=b' at *
  refine Xs.retV (c:=I ((b'.fdiv 32).fmod top)) (Ev.mod (by lia) (Ev.fdiv (by decide) (by decide) (Ev.int1 (F.cx hR2) (bv KZt PyProof.Rows.boot_int) (Ev.itemL (a:=src) (k:=1) (c:=I b') lv Ev.ci (fun h p=>p.2) (by decide) (by show (1:Int)<2;decide) (by show 2<=16777216;decide) rfl)) Ev.ci) lv) fun h' p=>⟨p.1.keep,⟨_,rfl,Int.fmod_nonneg_of_pos _ h0,Int.fmod_lt_of_pos _ h0⟩,_,_,a0,b1,p.2⟩
theorem NZl {src th:Addr} {cs:List Value} (h0:0<cs.length) (h1:cs.length<=1000000) (hne:th≠src):FnB prog w (KK w.params) 344 3 [.ref src,.ref th] [src] (fun h=>SrcOk src h/\LsAt h th cs) (fun v h h'=>(∃ i,i<cs.length/\v=cs.getD i .none)/\SrcOk src h'):=by
 refine FnB.mk ["source", "things"] [] (by exact rfl) (by kernel_rfl) (fun s args _ h=>ar2 args h fun _ _=>BindsTo.of_eq rfl) (fun h L A G hpre hL hA F hC=>?_)
 obtain ⟨hs,hl⟩:=hpre
 have nL:∀ {t:Addr},(∃ o,h.get? t=some o)->t≠L:=fun {t} ho q=>by
  obtain ⟨o,ho⟩:=ho
  rw [hL t (Nat.le_of_eq q.symm)] at ho;cases ho
 refine Xs.pre (P:=Pc _ (hideAll h [src]) _ (fun h'=>SrcOk src h'/\LsAt h' th cs)) ?_ (fun h' p=>⟨p.1,SrcOk.sf (W:=[]) List.not_mem_nil _ _ (fun b o _ e=>p.2 b o e) hs,hl.grow p.2⟩)
 have hR:Sf [L] (fun h':Heap=>SrcOk src h'/\LsAt h' th cs):=Sf.and (SrcOk.sf (by simp;exact nL hs.live)) (LsAt.sf (by simp;exact nL hl.live))
 refine Xs.ret (EvP.itL (a:=th) (cs:=cs) lv (EvP.callM (W:=[src]) (cs:=[.ref src,I cs.length]) F (fn_take (by exact clN) (by exact ceN)) ⟨by simp;exact Ne.symm (nL hs.live),fun y c e=>(by cases e),fun b hb=>by refine sE (mS hb) ?_;exact hideAll_none _ (List.mem_singleton.mpr rfl)⟩ (hA.mono (by decide)) (gv VZ9) (Evs.cons lv (Evs.cons (Ev.lenL (F.cx hR) (by exact tzN) (bv VZl PyProof.Rows.bootS_len) lv (fun h p=>p.2.2)) Evs.nil)) (fun h p=>p.2.1) (fun v h1 h2 p g q=>⟨q.1,q.2,LsAt.sf (W:=[src]) (by simp;exact hne) _ _ (XZg g) p.2.2⟩) (by kernel_rfl)) (fun h p=>p.2.2) (by exact tdN)) fun v h' q p=>⟨p.1.keep,q,p.2.1⟩
end
end
section
open PySem.SeqAt
theorem XZq {n1 n2:Str} {c1 c2:Addr} (x:Str) (d:Addr) (h:[(n1,c1),(n2,c2)].lookup x=some d):(x=n1/\d=c1)∨(x=n2/\d=c2):=by
 have:=YZs h
 simpa only [List.mem_cons,List.not_mem_nil,or_false,Prod.mk.injEq] using this
theorem OffL.two {env:Env} {h₀:Heap} {src:Addr} {n1 n2:Str} {c1 c2:Addr} (hc:env.cells=[(n1,c1),(n2,c2)]) (h:src≠env.locals) (h1:src≠c1) (h2:src≠c2) (h0:h₀.get? src=none):OffL env h₀ [src] :=
 ⟨by simp;exact Ne.symm h,fun y c e q=>by
  rw [hc] at e
  have q:=mS q
  rcases XZq y c e with ⟨_,rfl⟩ | ⟨_,rfl⟩
  ·exact h1 q.symm
  ·exact h2 q.symm,fun b hb=>by refine sE (mS hb) ?_;exact h0⟩
theorem cl2a {n1 n2:Str} {c1 c2:Addr} {env:Env} (h1:env.cells.lookup n1=some c1) (h2:env.cells.lookup n2=some c2):∀ x d,[(n1,c1),(n2,c2)].lookup x=some d->env.cells.lookup x=some d:=fun x d h=>by
 rcases XZq x d h with ⟨rfl,rfl⟩ | ⟨rfl,rfl⟩ <;> assumption
theorem cl2b {n1 n2:Str} {c1 c2:Addr} {scope:Scope} {env:Env} (h1:(relabel scope env).names.lookup n1=some .cell) (h2:(relabel scope env).names.lookup n2=some .cell):∀ x d,[(n1,c1),(n2,c2)].lookup x=some d->(relabel scope env).names.lookup x≠some .local:=fun x d h=>by
 rcases XZq x d h with ⟨rfl,rfl⟩ | ⟨rfl,rfl⟩
 ·refine sE h1 ?_;intro q;cases q
 ·refine sE h2 ?_;intro q;cases q
theorem RgAt.ne_src {h:Heap} {y src:Addr} {n:Int} (r:RgAt h y n) (s:SrcOk src h):y≠src:=fun q=>by
 refine Jj r fun t u v e=>?_;clear r
 refine Jh s fun a b _ _ vs z05 _=>?_;clear s;obtain ⟨m,e2⟩:=z05
 unfold IsRange at e
 rw [q,e2] at e
 have:=congrArg (Option.map Obj.cls) e
 simp at this
section
variable {prog:Program} {w:World} {A:Around} {env:Env} {K:Frag} {h₀:Heap} {μ:Str->Option Value} {R:HP} {pos:Pos} {l r:PySem.Expr} {ds:List Value} {U:List Value->Prop} {W:List Addr}
theorem EvP.addLX (F:Fx K env h₀) (hR:Sf W R) (hl:EvP (model prog w) A env (Pc env h₀ μ R) l (fun v h=>∃ a cs,v=.ref a/\LsAt h a cs/\U cs)) (hr:∀ a cs,U cs->EvP (model prog w) A env (Pc env h₀ μ (fun h=>LsAt h a cs/\R h)) r (fun v h=>∃ b,v=.ref b/\LsAt h b ds)) (hz:∀ cs,U cs->cs.length+ds.length<=10000000) :
  EvP (model prog w) A env (Pc env h₀ μ R) (.BinOp l .Add r pos) (fun v h=>∃ a cs,v=.ref a/\New (Pc env h₀ μ R) a/\LsAt h a (cs++ds)/\U cs):=fun s Q E p k =>
 KZq (hl s _ E p fun v h1 tk1 x=>by
  refine J3 x fun z00 lo p1=>?_;clear x;refine J4 z00 fun a cs e1 la hu=>?_;clear z00
  refine hr a cs hu _ _ E ⟨lo,la,p1⟩ fun u h2 tk2 y=>?_
  refine Ja y fun z00 lo2 z02 p2=>?_;clear y;refine J0 z00 fun b e2 z12=>?_;clear z00;refine J0 z12 fun us z21 eu=>?_;clear z12;obtain ⟨m,hb⟩:=z21;refine J0 z02 fun vs z11 ev=>?_;clear z02;obtain ⟨n,ha⟩:=z11
  refine sE (YZh e1) (sE (YZh e2) ?_)
  have h1:vs.length=cs.length:=by exact sF ev (sE (List.length_map ..) rfl)
  have h2:us.length=ds.length:=by exact sF eu (sE (List.length_map ..) rfl)
  have:=hz cs hu
  refine YZb (PySem.P.add_list (n:=n) (n2:=m) ha hb ?_ (by refine sE List.size_toArray (sE List.size_toArray (sE sizeLine_eq ?_));lia))
  refine k _ _ _ ⟨⟨_,cs,rfl,⟨_,⟨lo2,p2⟩,YZg _⟩,⟨vs++us,⟨0,?_⟩,by exact sE List.map_append (sE ev (sE eu rfl))⟩,hu⟩,(F.cx hR).grow _ _ (Grows.push _ _) ⟨lo2,p2⟩⟩
  refine sF (List.append_toArray ..) ?_;exact Heap.get?_push_size _ rfl)
end
section
variable {prog:Program} {w:World}
theorem fn_colour {src:Addr}:FnB prog w (KK w.params) 349 4 [.ref src] [src] (SrcOk src) (fun v h h'=>(∃ t c,v=.ref t/\(h.get? t=none/\t≠src)/\TpAt h' t (c.map I)/\Drawn c)/\SrcOk src h'):=by
 refine FnB.mkC ["source"] [] (by exact rfl) (by kernel_rfl) (fun s args _ h=>ar1 args h fun _=>BindsTo.of_eq rfl) (fun h L A G hpre hL hA F ce=>?_) ?_ ?_ ?_
 ·have hs:=hpre
  have nL:∀ k:Nat,src≠L+k:=fun k q=>by
   obtain ⟨o,ho⟩:=hs.live
   rw [hL src (by refine sE q ?_;exact Nat.le_add_right _ _)] at ho;cases ho
  have hWs:src∉[L,L+1,L+2]:=by simp;exact ⟨nL 0,nL 1,nL 2⟩
  refine Xs.pre (P:=Pc _ (hideAll h [src]) _ (SrcOk src)) ?_ (fun h' p=>⟨p.1,SrcOk.sf (W:=[]) List.not_mem_nil _ _ (fun b o _ e=>p.2 b o e) hs⟩)
  have hR:Sf [L,L+1,L+2] (SrcOk src):=SrcOk.sf hWs
  have hpure:∀ v:Value,Sf [L,L+1,L+2] (fun _:Heap=>∃ i,i<([I 0,I 255,I 128,I 1,I 254]:List Value).length/\v=([I 0,I 255,I 128,I 1,I 254]:List Value).getD i .none):=fun _=>Sf.const
  have hh0:(hideAll h [src]).get? src=none:=hideAll_none _ (List.mem_singleton.mpr rfl)
  refine Xs.asg (W:=[L,L+1,L+2]) (V:=fun v _=>∃ i,i<([I 0,I 255,I 128,I 1,I 254]:List Value).length/\v=([I 0,I 255,I 128,I 1,I 254]:List Value).getD i .none) (St1.cel F ce (c:=L+2) rfl (by exact mm2)) hR
   (EvP.callMX (Y:=Addr) (W:=[src]) (cy:=fun th=>[.ref src,.ref th]) (VY:=fun th h=>th≠src/\LsAt h th [I 0,I 255,I 128,I 1,I 254]) F (fun th h p vy=>NZl (by show 0<5;decide) (by show 5<=1000000;decide) vy.1) ⟨by simp;exact Ne.symm (nL 0),fun y c e q=>?_,fun b hb=>by refine sE (mS hb) ?_;exact hh0⟩ (hA.mono (by decide)) (gv XZ8)
    (Tr.post (EvsP.two (c1:=.ref src) (cv (L+1)) (EvP.listP (F.cx hR).grow (Evs.cons Ev.ci (Evs.cons Ev.ci (Evs.cons Ev.ci (Evs.cons Ev.ci (Evs.cons Ev.ci Evs.nil))))) (by show 5<=sizeLine;decide))) fun vs h q=>⟨Jf q.1 fun c2 e a ea n l=>⟨a,by exact sE e (sE ea rfl),fun q=>(by refine J0 n fun h3 p3 e3=>?_;clear n;obtain ⟨o,ho⟩:=p3.2.live;rw [<- q,e3] at ho;cases ho),l⟩,q.2⟩)
    (fun th h p vy=>⟨p.2,vy.2⟩) (fun th v h1 h2 p vy g q=>q) (by kernel_rfl)) hpure (fun c=>?_)
  ·rcases XZq (n1 := "alpha") (c1:=L+2) (n2 := "source") (c2:=L+1) y c e with ⟨_,rfl⟩ | ⟨_,rfl⟩
   ·exact nL 2 (mS q).symm
   ·exact nL 1 (mS q).symm
  refine Xs.fact2 (q:=∃ al:Int,c=I al/\al∈[(0:Int),255,128,1,254]) (fun h p=>?_) (fun hal=>?_)
  ·refine J0 p.2.1 fun i hi e=>?_
   revert e
   exact lt5 i hi (fun e=>⟨0,e,by decide⟩) (fun e=>⟨255,e,by decide⟩) (fun e=>⟨128,e,by decide⟩) (fun e=>⟨1,e,by decide⟩) (fun e=>⟨254,e,by decide⟩)
  refine J0 hal ?_;clear hal;rintro al rfl hal
  refine Xs.pre (P:=Pc _ (hideAll h [src]) _ (SrcOk src)) ?_ (fun h' p=>⟨p.1,p.2.2⟩)
  have halz:0<=al/\al<256:=by
   simp at hal;lia
  have hRs:Sf [] (SrcOk src):=SrcOk.sf List.not_mem_nil
  refine Xs.ret (V:=fun v h'=>∃ t c,v=.ref t/\(h.get? t=none/\t≠src)/\TpAt h' t (c.map I)/\Drawn c) (Tr.post (EvP.tupleL (V:=fun a cs h=>∃ xs,cs=xs++[I al]/\xs.length=3/\∀ j,j<3->∃ p:Int,xs.getD j .none=I p/\p∈[0,al,al.fdiv 2,(al*3).fdiv 4]) (F.cx hRs) (bv GZ8 PyProof.Rows.boot_tuple)
   (Tr.post (EvP.addLX (W:=[]) (U:=fun xs=>xs.length=3/\∀ j,j<3->∃ p:Int,xs.getD j .none=I p/\p∈[0,al,al.fdiv 2,(al*3).fdiv 4]) (ds:=[I al]) F hRs
    (Tr.post (Tr.compG (Y:=Addr) (V:=fun y v h=>v=.ref y/\RgAt h y (3:Nat)) (ok:=fun env=>env.kindOf "turn" = some .local) (ns:=["turn"]) (cl:=[("source", L+1),("alpha", L+2)]) F ⟨by rfl,fun _=>by rfl,by decide,by rfl,by decide,cl2a (by rfl) (by rfl),cl2b (by rfl) (by rfl)⟩ ce.cl [src] (fun h p b hb=>by refine sE (mS hb) ?_;exact p.2.live) (OffL.two rfl (nL 0) (nL 2) (nL 1) hh0)
     (Tr.post (EvP.range (k:=3) (F.cx hRs) (bv XZi PyProof.Rows.boot_range) Ev.ci) fun v h q=>⟨dr q.1,q.2⟩) (fun _=>3) (fun _ i μ=>up μ "turn" (I (i:Int))) (fun y=>[y]) (fun y v h q p=>SrcW.rng hA.handled (by decide) q.1 q.2 p) (fun y c h q p b hb hb2=>q.2.ne_src p.2 ((mS hb).symm.trans (mS hb2))) (fun _ _ _ _ _=>by refine sE sizeLine_eq ?_;decide)
     (fun y W i v h=>∃ p:Int,v=I p/\p∈[0,al,al.fdiv 2,(al*3).fdiv 4]) (fun _=>SrcOk src) (fun _ _ _ _=>Sf.const) (fun _ _ _ _ _ _=>Sf.const) (fun _ W hW=>SrcOk.sf (New.of_live hW fun h p=>p.2.live)) (fun h h' g p=>hRs.grow g p) (fun _ _ _ _ _ _ p=>p) ?_)
     fun v h q=>⟨let ⟨y,W,D,xs,e,hW,hD,lo,l,hl,ht,j⟩:=q;⟨D,xs,by refine sE e ?_;rfl,l,hl,ht⟩,let ⟨y,W,D,xs,e,hW,hD,lo,l,hl,ht,j⟩:=q;⟨lo,j⟩⟩)
    (fun a cs hu=>?_) (fun cs hu=>by refine sE hu.1 ?_;show 3+1<=10000000;decide)) fun v h q=>⟨J9 q.1 fun a cs e n l hu=>⟨a,_,e,l,cs,rfl,hu⟩,q.2⟩) (fun a cs h h' g q=>q) (fun a cs h q=>by refine J1 q ?_;clear q;rintro xs rfl h3 _;refine sE List.length_append (sE h3 (sE sizeLine_eq ?_));show 3+1<=16777216;decide)) fun v h1 q=>⟨?_,q.2⟩) (fun v h' q p=>⟨p.1.keep,q,p.2⟩)
  ·intro y W hW i B C hC hF hi hB hB2 hlv hst
   have hCs:C≠src:=fun q=>by
    refine J0 hC fun h3 p3 e3=>?_;clear hC
    obtain ⟨o,ho⟩:=p3.2.live
    rw [<- q,e3] at ho;cases ho
   have hRB:Sf [] (fun h=>SrcOk src h/\B h):=Sf.and hRs (hB.mono fun b hb=>nomatch hb)
   refine EvP.callMX (Y:=Addr) (W:=[src]) (cy:=fun th=>[.ref src,.ref th]) (VY:=fun th h=>th≠src/\LsAt h th [I 0,I al,I (al.fdiv 2),I ((al*3).fdiv 4)]) hF (fun th h p vy=>NZl (by show 0<4;decide) (by show 4<=1000000;decide) vy.1) (OffL.two rfl (Ne.symm hCs) (nL 1) (nL 2) hh0) (hA.mono (by decide)) (gv XZ8)
    (Tr.post (EvsP.two (c1:=.ref src) (cv (L+1)) (EvP.listP (hF.cx hRB).grow (Evs.cons Ev.ci (Evs.cons (cv (L+2)) (Evs.cons (Ev.fdiv (by decide) (by decide) (cv (L+2)) Ev.ci) (Evs.cons (Ev.fdiv (by decide) (by decide) (Ev.mul (HZf (by decide)) (cv (L+2)) Ev.ci) Ev.ci) Evs.nil)))) (by show 4<=sizeLine;decide))) fun vs h q=>⟨Jf q.1 fun c2 e a ea n l=>⟨a,by exact sE e (sE ea rfl),fun q=>(by refine J0 n fun h3 p3 e3=>?_;clear n;obtain ⟨o,ho⟩:=p3.2.1.live;rw [<- q,e3] at ho;cases ho),l⟩,q.2⟩)
    (fun th h p vy=>⟨p.2.1,vy.2⟩) (fun th v h1 h2 p vy g q=>⟨?_,q.2,hB _ _ (XZg g) p.2.2⟩) (by kernel_rfl)
   refine J0 q.1 fun i hi e=>?_
   revert e
   exact lt4 i hi (fun e=>⟨0,e,by simp⟩) (fun e=>⟨al,e,by simp⟩) (fun e=>⟨_,e,by simp⟩) (fun e=>⟨_,e,by simp⟩)
  ·have hRa:Sf [] (fun h:Heap=>LsAt h a cs/\SrcOk src h):=Sf.and (LsAt.sf List.not_mem_nil) hRs
   exact Tr.post (EvP.listP (F.cx hRa).grow (Evs.cons (cv (L+2)) Evs.nil) (by show 1<=sizeLine;decide)) fun v h q=>⟨dr q.1,q.2⟩
  ·obtain ⟨b,a,cs,e,n,l,xs,rfl,h3,ht⟩:=q.1
   refine J0 (ht 0 (by decide)) fun r hr hr2=>?_
   refine J0 (ht 1 (by decide)) fun g hg hg2=>?_
   refine J0 (ht 2 (by decide)) fun bl hb hb2=>?_
   obtain ⟨x0,x1,x2,rfl⟩:∃ a b c,xs=[a,b,c]:=ar3 xs h3 fun a b c=>⟨a,b,c,rfl⟩
   ·obtain rfl:x0=I r:=hr
    obtain rfl:x1=I g:=hg
    obtain rfl:x2=I bl:=hb
    have nb:b≠src/\h.get? b=none:=by
     refine J0 n fun h3 p3 e3=>?_;clear n
     refine ⟨fun q=>?_,?_⟩
     ·obtain ⟨o,ho⟩:=p3.2.live
      rw [<- q,e3] at ho;cases ho
     ·cases e4:h.get? b with
      | none=>rfl
      | some o =>
       by_cases hbs:b=src
       ·obtain ⟨o2,ho2⟩:=p3.2.live
        rw [<- hbs,e3] at ho2;cases ho2
       ·have:=p3.1.keep b o (hideAll_get _ e4 (by simpa using hbs))
        rw [e3] at this;cases this
    exact ⟨b,[r,g,bl,al],e,⟨nb.2,nb.1⟩,l,al,r,g,bl,rfl,hal,allL hr2 (allL hg2 (allL hb2 allN))⟩
 ·exact fun L=>allL (.inr ⟨by rfl,by rfl⟩) allN
 ·intro L x c h
  rcases XZq (n1 := "alpha") (c1:=L+2) (n2 := "source") (c2:=L+1) x c h with ⟨rfl,_⟩ | ⟨rfl,_⟩ <;> rfl
 ·intro L x y c h1 h2
  rcases XZq (n1 := "alpha") (c1:=L+2) (n2 := "source") (c2:=L+1) x c h1 with ⟨rfl,rfl⟩ | ⟨rfl,rfl⟩ <;> rcases XZq (n1 := "alpha") (c1:=L+2) (n2 := "source") (c2:=L+1) y _ h2 with ⟨rfl,e⟩ | ⟨rfl,e⟩ <;> first | rfl | exact absurd e (by show ¬ ((L:Nat)+1=L+2);lia) | exact absurd e (by show ¬ ((L:Nat)+2=L+1);lia)
end
end
section
open PySem.SeqAt
section
variable {prog:Program} {w:World} {A:Around} {E:Value->Shared->Prop} {s:Shared}
theorem UZ5 {it t:Addr} {i:Nat} {items:Array Value} {x:Value} {Q:Value->Shared->Prop} (hit:s.heap.IsTupleIter it t i) (ht:s.heap.IsTuple t items) (hx:items[i]?=some x)
  (hQ:∀ h',h'.IsTupleIter it t (i+1)->Heap.SameBut it s.heap h'->Q x { s with heap:=h' }):wpAny (model prog w) A (Builtin.SmallTypes.nextOf (.ref it)) Q E s:=by
 have hT:=hit.typeIs
 refine J1 hit fun o ho hc hd=>?_;clear hit
 refine J7 ht fun ol hol _ nl hdl=>?_;clear ht
 unfold Builtin.SmallTypes.nextOf
 refine wpAny_bind (wpAny_callSpecial?_slot (name:=PySem.Str.ofString "__next__") hT PySem.F.slot_tuple_iterator_next
  (wpAny_call_entry PySem.F.slot_tuple_iterator_next hT PySem.F.entry_tuple_iterator_next ?_ (PySem.F.args_tuple_iterator_next_1 _)))
 show wpAny _ _ (field (.ref it) 0 >>= _) _ _ s
 refine wpAny_bind (wpAny_field ho hd (x:=.ref t) rfl ?_)
 show wpAny _ _ (if (Value.ref t==Value.none)=true then _ else _) _ _ s
 refine sE (if_neg (show ¬ ((Value.ref t==Value.none)=true) from Bool.false_ne_true)) ?_
 show wpAny _ _ (field (.ref it) 1 >>= _) _ _ s
 refine wpAny_bind (wpAny_field ho hd (x:=.int i 0) rfl ?_)
 show wpAny _ _ (seqItems? (.ref t) >>= _) _ _ s
 refine wpAny_bind (wpAny_seqItems hol hdl ?_)
 simp only [Int.toNat_natCast,hx]
 refine wpAny_bind (wpAny_setField ho hd (by simp) (wpAny_pure ⟨x,rfl,wpAny_pure (hQ _ ?_ (Heap.SameBut.update ..))⟩))
 exact ⟨_,Heap.get?_update_self _ ho (Obj.isFreed_of_fields (Obj.data_mapFields hd _)),(Obj.cls_mapFields ..).trans hc,by
  rw [Obj.data_mapFields hd];simp [rawInt]⟩
theorem GZl {it t:Addr} {i:Nat} {items:Array Value} {Q:Value->Shared->Prop} (hh:A.handled=none) (hit:s.heap.IsTupleIter it t i) (ht:s.heap.IsTuple t items) (hx:items[i]?=none)
  (hE:∀ h' e,Heap.ExtBut it s.heap h'->(∃ o,h'.get? e=some o/\o.cls=.type "StopIteration")->E (.ref e) { s with heap:=h' }):wpAny (model prog w) A (Builtin.SmallTypes.nextOf (.ref it)) Q E s:=by
 have hT:=hit.typeIs
 refine J1 hit fun o ho hc hd=>?_;clear hit
 refine J7 ht fun ol hol _ nl hdl=>?_;clear ht
 unfold Builtin.SmallTypes.nextOf
 refine wpAny_bind (wpAny_callSpecial?_slot (name:=PySem.Str.ofString "__next__") hT PySem.F.slot_tuple_iterator_next
  (wpAny_call_entry PySem.F.slot_tuple_iterator_next hT PySem.F.entry_tuple_iterator_next ?_ (PySem.F.args_tuple_iterator_next_1 _)))
 show wpAny _ _ (field (.ref it) 0 >>= _) _ _ s
 refine wpAny_bind (wpAny_field ho hd (x:=.ref t) rfl ?_)
 show wpAny _ _ (if (Value.ref t==Value.none)=true then _ else _) _ _ s
 refine sE (if_neg (show ¬ ((Value.ref t==Value.none)=true) from Bool.false_ne_true)) ?_
 show wpAny _ _ (field (.ref it) 1 >>= _) _ _ s
 refine wpAny_bind (wpAny_field ho hd (x:=.int i 0) rfl ?_)
 show wpAny _ _ (seqItems? (.ref t) >>= _) _ _ s
 refine wpAny_bind (wpAny_seqItems hol hdl ?_)
 simp only [Int.toNat_natCast,hx]
 refine wpAny_bind (wpAny_rule (wpAny_bind (wpAny_setField ho hd (by simp) ?_)))
 show wpAny _ _ (newExc (.type "StopIteration") [] >>= _) _ _ _
 refine wpAny_bind ?_
 simp only [newExc,newTuple]
 refine wpAny_bind (wpAny_newObj_type ?_ (by size_fits))
 refine wpAny_bind (m:=firstArgMember _ _) (wpAny_of_eq (a:=Value.none) (by first | rfl | (simp only [firstArgMember];rfl)) ?_)
 refine wpAny_newObj_type ?_ (by size_fits)
 simp only [raiseNew]
 refine wpAny_bind (wpAny_handled ?_)
 first | refine sE (show A.in1.handled=none from hh) ?_ | rw [hh]
 refine wpAny_bind (wpAny_pure (wpAny_throw ?_))
 exact hE _ _ (((Heap.SameBut.update ..).extBut.push _).push _) ⟨_,Heap.get?_push_size _ rfl,rfl⟩
theorem KZh (hh:A.handled=none) (it t:Addr) (hne:t≠it) (items:Array Value) :
  Draws prog w A it [it,t] items.size (fun i v=>items[i]?=some v) (fun i h=>h.IsTupleIter it t i/\h.IsTuple t items) where
 live:=fun _ _ st=>J0 st.1 fun o ho _=>⟨o,ho⟩
 frame:=fun _ _ _ st hk=>⟨st.1.at fun o e=>hk it (by exact mm0) o e,st.2.at fun o e=>hk t (by exact mm1) o e⟩
 item:=fun i s Q E hi st hQ=>by
  refine UZ5 st.1 st.2 (x:=items[i]) (by simp [hi]) fun h' hit' hs'=>?_
  exact hQ _ h' s.toks (by simp [hi]) ⟨hit',st.2.extBut hs'.extBut hne⟩ hs'
 done:=fun s Q E st hE=>GZl hh st.1 st.2 (by simp) hE
structure Zp (z TI TO i1 i2:Addr) (f1 f2:List Addr):Prop where
 m1:i1∈f1
 m2:i2∈f2
 z1:z∉f1
 z2:z∉f2
 o1:TO∉f1
 o2:TO∉f2
 a12:i1∉f2
 a21:i2∉f1
 zo:TO≠z
 tz:TI≠z
 tO:TI≠TO
 t1:TI≠i1
 t2:TI≠i2
noncomputable def ZSt (z TI TO i1 i2:Addr) (S1 S2:Nat->Heap->Prop) (f:Value) (i:Nat) (h:Heap):Prop:=IsZip h z TI TO f/\IsPair h TI (.ref i1) (.ref i2)/\(∃ a b,IsPair h TO a b)/\S1 i h/\S2 i h
variable {z TI TO i1 i2:Addr} {f1 f2:List Addr} {n:Nat} {P1 P2:Nat->Value->Prop} {S1 S2:Nat->Heap->Prop}
theorem XZ5 {a:Addr} {h h':Heap} (x:Heap.SameBut a h h') {f:List Addr} (ha:a∉f):∀ b∈f,∀ o,h.get? b=some o->h'.get? b=some o:=fun b hb o e=>x.extBut b o (fun q=>ha (q▸hb)) e
theorem zp_next (D:Zp z TI TO i1 i2 f1 f2) (D1:Draws prog w A.in1 i1 f1 n P1 S1) (D2:Draws prog w A.in1 i2 f2 n P2 S2) {i:Nat} (hi:i<n) (st:ZSt z TI TO i1 i2 S1 S2 .none i s.heap) {Q:Option Value->Shared->Prop}
  (hQ:∀ T x y h' tk,P1 i x->P2 i y->s.heap.objs.size<=T->IsPair h' T x y->ZSt z TI TO i1 i2 S1 S2 (rawInt T) (i+1) h'->(∀ b o,b∉[z,TO,i1,i2]->s.heap.get? b=some o->h'.get? b=some o)->Q (some (.ref T)) { s with heap:=h',toks:=tk }) :
  wpAny (model prog w) A (pyNext (.ref z)) Q E s:=by
 refine Je st fun hz hTI z02 h1 h2=>?_;clear st;refine J5 z02 fun a b hTO=>?_;clear z02
 have hT:s.TypeIs (.ref z) "zip" := ⟨_,hz,rfl⟩
 unfold pyNext
 refine wpAny_bind (wpAny_attempt (wpAny_callSpecial?_slot (name:=PySem.Str.ofString "__next__") hT PySem.F.slot_zip_next (wpAny_call_entry PySem.F.slot_zip_next hT PySem.F.entry_zip_next ?_ (PySem.F.args_zip_next_1 _))))
 show wpAny _ _ (field (.ref z) 2 >>= _) _ _ _
 refine wpAny_bind (wpAny_field hz rfl (x:=.bool false) rfl ?_)
 show wpAny _ _ (field (.ref z) 3 >>= _) _ _ _
 refine wpAny_bind (wpAny_field hz rfl (x:=.ref TI) rfl ?_)
 refine wpAny_bind (wpAny_seqItems hTI rfl ?_)
 show wpAny _ _ (Builtin.SmallTypes.ownedTupleIsFree (.ref z) >>= _) _ _ _
 refine wpAny_bind ?_
 unfold Builtin.SmallTypes.ownedTupleIsFree
 refine wpAny_bind (wpAny_field hz rfl (x:=.none) rfl (wpAny_pure ?_))
 simp only [if_true]
 refine wpAny_bind (wpAny_rule ?_)
 refine wpAny_bind (wpAny_field hz rfl (x:=.ref TO) rfl ?_)
 refine wpAny_bind (wpAny_setField_rec hz (by simp) fun ha hza sa=>?_)
 replace hza:IsZip ha z TI TO .ellipsis:=hza
 refine wpAny_bind ?_
 simp only [List.zipIdx_cons,List.zipIdx_nil,List.forIn_cons,List.forIn_nil]
 refine wpAny_bind (wpAny_bind (wpAny_onRaise ?_))
 show wpAny _ _ (Builtin.SmallTypes.nextOf (.ref i1) >>= _) _ _ _
 have n12:i1≠i2:=fun q=>D.a12 (q▸D.m2)
 have nz1:z≠i1:=fun q=>D.z1 (q▸D.m1)
 have nz2:z≠i2:=fun q=>D.z2 (q▸D.m2)
 have nO1:TO≠i1:=fun q=>D.o1 (q▸D.m1)
 have nO2:TO≠i2:=fun q=>D.o2 (q▸D.m2)
 refine wpAny_bind (D1.item i _ _ _ hi (D1.frame _ _ _ h1 (XZ5 sa D.z1)) fun x hb tb px sb' sb=>wpAny_pure ?_)
 have hTOb:IsPair hb TO a b:=sb.extBut _ _ nO1 (sa.extBut _ _ D.zo hTO)
 refine wpAny_bind (wpAny_seqItems hTOb rfl ?_)
 refine wpAny_bind (wpAny_updateSeq_pair hTOb fun hc hTOc sc=>?_)
 replace hTOc:IsPair hc TO x b:=hTOc
 refine wpAny_bind (wpAny_letGo (wpAny_pure ?_))
 refine wpAny_bind (wpAny_bind (wpAny_onRaise ?_))
 show wpAny _ _ (Builtin.SmallTypes.nextOf (.ref i2) >>= _) _ _ _
 refine wpAny_bind (D2.item i _ _ _ hi (D2.frame _ _ _ (D2.frame _ _ _ (D2.frame _ _ _ h2 (XZ5 sa D.z2)) (XZ5 sb D.a12)) (XZ5 sc D.o2)) fun y hd td py sd' sd=>wpAny_pure ?_)
 have hTOd:IsPair hd TO x b:=sd.extBut _ _ nO2 hTOc
 refine wpAny_bind (wpAny_seqItems hTOd rfl ?_)
 refine wpAny_bind (wpAny_updateSeq_pair hTOd fun he hTOe se=>?_)
 replace hTOe:IsPair he TO x y:=hTOe
 refine wpAny_bind (wpAny_letGo (wpAny_pure (wpAny_pure ?_)))
 refine wpAny_bind (wpAny_seqItems hTOe rfl ?_)
 refine wpAny_bind (wpAny_newTuple ?_)
 have keep:∀ c o,c≠z->c≠TO->c≠i1->c≠i2->s.heap.get? c=some o->he.get? c=some o:=fun c o c1 c2 c3 c4 e =>
  se.extBut _ _ c2 (sd.extBut _ _ c4 (sc.extBut _ _ c2 (sb.extBut _ _ c3 (sa.extBut _ _ c1 e))))
 have hze:IsZip he z TI TO .ellipsis:=se.extBut _ _ D.zo.symm (sd.extBut _ _ nz2 (sc.extBut _ _ D.zo.symm (sb.extBut _ _ nz1 hza)))
 have h1e:S1 (i+1) he:=D1.frame _ _ _ (D1.frame _ _ _ (D1.frame _ _ _ sb' (XZ5 sc D.o1)) (XZ5 sd D.a21)) (XZ5 se D.o1)
 have h2e:S2 (i+1) he:=D2.frame _ _ _ sd' (XZ5 se D.o2)
 have hsz:he.objs.size=s.heap.objs.size:=by exact sE se.1 (sE sd.1 (sE sc.1 (sE sb.1 (sE sa.1 rfl))))
 have hzlt:z<he.objs.size:=Heap.lt_size hze
 show wpAny _ _ (Builtin.SmallTypes.ownedTupleHandOut (.ref z) (.ref he.objs.size) >>= _) _ _ _
 refine wpAny_bind ?_
 unfold Builtin.SmallTypes.ownedTupleHandOut
 have hzf:IsZip (he.push { cls:=.type "tuple", data:=.seq #[x,y] }) z TI TO .ellipsis:=Heap.get?_push_of_some _ hze
 refine wpAny_bind (wpAny_setField_rec hzf (by simp) fun hg hzg sg=>?_)
 replace hzg:IsZip hg z TI TO (rawInt he.objs.size):=hzg
 refine wpAny_setField_rec hzg (by simp) fun hk hzk sk=>?_
 replace hzk:IsZip hk z TI TO (rawInt he.objs.size):=hzk
 have up:∀ c o,c≠z->he.get? c=some o->hk.get? c=some o:=fun c o c1 e=>sk.extBut _ _ c1 (sg.extBut _ _ c1 (Heap.get?_push_of_some _ e))
 refine wpAny_pure ⟨_,rfl,wpAny_pure (hQ he.objs.size x y hk _ px py (Nat.le_of_eq hsz.symm) (sk.extBut _ _ (Nat.ne_of_gt hzlt) (sg.extBut _ _ (Nat.ne_of_gt hzlt) (Heap.get?_push_size _ rfl))) ?_ ?_)⟩
 ·exact ⟨hzk,up _ _ D.tz (keep _ _ D.tz D.tO D.t1 D.t2 hTI),⟨x,y,up _ _ D.zo hTOe⟩,D1.frame _ _ _ h1e fun c hc o e=>up c o (fun q=>D.z1 (q▸hc)) e,D2.frame _ _ _ h2e fun c hc o e=>up c o (fun q=>D.z2 (q▸hc)) e⟩
 ·intro c o hc e
  simp only [List.mem_cons,List.not_mem_nil,or_false,not_or] at hc
  exact up c o hc.1 (keep c o hc.1 hc.2.1 hc.2.2.1 hc.2.2.2 e)
theorem zp_end (D:Zp z TI TO i1 i2 f1 f2) (D1:Draws prog w A.in1 i1 f1 n P1 S1) (st:ZSt z TI TO i1 i2 S1 S2 .none n s.heap) {Q:Option Value->Shared->Prop}
  (hQ:∀ h',(∀ b o,b∉[z,TO,i1,i2]->s.heap.get? b=some o->h'.get? b=some o)->Q none { s with heap:=h' }) :
  wpAny (model prog w) A (pyNext (.ref z)) Q E s:=by
 refine Je st fun hz hTI z02 h1 h2=>?_;clear st;refine J5 z02 fun a b hTO=>?_;clear z02
 have hT:s.TypeIs (.ref z) "zip" := ⟨_,hz,rfl⟩
 have nz1:z≠i1:=fun q=>D.z1 (q▸D.m1)
 unfold pyNext
 refine wpAny_bind (wpAny_attempt (wpAny_callSpecial?_slot (name:=PySem.Str.ofString "__next__") hT PySem.F.slot_zip_next (wpAny_call_entry PySem.F.slot_zip_next hT PySem.F.entry_zip_next ?_ (PySem.F.args_zip_next_1 _))))
 show wpAny _ _ (field (.ref z) 2 >>= _) _ _ _
 refine wpAny_bind (wpAny_field hz rfl (x:=.bool false) rfl ?_)
 show wpAny _ _ (field (.ref z) 3 >>= _) _ _ _
 refine wpAny_bind (wpAny_field hz rfl (x:=.ref TI) rfl ?_)
 refine wpAny_bind (wpAny_seqItems hTI rfl ?_)
 show wpAny _ _ (Builtin.SmallTypes.ownedTupleIsFree (.ref z) >>= _) _ _ _
 refine wpAny_bind ?_
 unfold Builtin.SmallTypes.ownedTupleIsFree
 refine wpAny_bind (wpAny_field hz rfl (x:=.none) rfl (wpAny_pure ?_))
 simp only [if_true]
 refine wpAny_bind (wpAny_rule ?_)
 refine wpAny_bind (wpAny_field hz rfl (x:=.ref TO) rfl ?_)
 refine wpAny_bind (wpAny_setField_rec hz (by simp) fun ha hza sa=>?_)
 replace hza:IsZip ha z TI TO .ellipsis:=hza
 refine wpAny_bind ?_
 simp only [List.zipIdx_cons,List.zipIdx_nil,List.forIn_cons,List.forIn_nil]
 refine wpAny_bind (wpAny_bind (wpAny_onRaise ?_))
 show wpAny _ _ (Builtin.SmallTypes.nextOf (.ref i1) >>= _) _ _ _
 refine wpAny_bind (D1.done _ _ _ (D1.frame _ _ _ h1 (XZ5 sa D.z1)) fun hb e sb xe=>?_)
 refine J0 xe fun oe hoe hce=>?_;clear xe
 have hzb:IsZip hb z TI TO .ellipsis:=sb _ _ nz1 hza
 have hez:e≠z:=fun q=>by
  rw [q,hzb] at hoe
  cases hoe;simp at hce
 refine wpAny_setField_rec hzb (by simp) fun hc _ sc=>?_
 refine wpAny_bind (wpAny_isInstance (T := "StopIteration") (b:=true) ⟨oe,sc.extBut _ _ hez hoe,hce⟩ isSubtype_stop ?_)
 refine wpAny_pure (hQ _ fun c o hc e=>?_)
 simp only [List.mem_cons,List.not_mem_nil,or_false,not_or] at hc
 exact sc.extBut _ _ hc.1 (sb _ _ hc.2.2.1 (sa.extBut _ _ hc.1 e))
theorem WalksT.zp (D:Zp z TI TO i1 i2 f1 f2) (D1:Draws prog w A.in1 i1 f1 n P1 S1) (D2:Draws prog w A.in1 i2 f2 n P2 S2) :
  WalksT prog w A z (z::TI::TO::(f1++f2)) [z,TO,i1,i2] n (fun i vals=>∃ x y,P1 i x/\P2 i y/\vals=#[x,y]) (ZSt z TI TO i1 i2 S1 S2 .none) (fun i T h=>ZSt z TI TO i1 i2 S1 S2 (rawInt T) (i+1) h/\T∉[z,TO,i1,i2]) where
 sub:=fun c hc=>by
  have:=D.m1;have:=D.m2
  simp at hc ⊢;rcases hc with rfl | rfl | rfl | rfl <;> simp_all
 frame:=fun i h h' st hk=>by
  refine Je st fun hz hTI z02 h1 h2=>?_;clear st;refine J5 z02 fun a b hTO=>?_;clear z02
  exact ⟨hk z (by exact mm0) _ hz,hk TI (by exact mm1) _ hTI,⟨a,b,hk TO (by exact mm2) _ hTO⟩,D1.frame _ _ _ h1 fun b hb o e=>hk b (by simp [hb]) o e,D2.frame _ _ _ h2 fun b hb o e=>hk b (by simp [hb]) o e⟩
 item:=fun i s Q E hi st hQ=>by
  refine zp_next D D1 D2 hi st fun T x y h' tk px py hT pT st' hk=>hQ T #[x,y] h' tk ⟨x,y,px,py,rfl⟩ hT ⟨_,pT,rfl,_,rfl⟩ ⟨st',fun q=>?_⟩ hk
  refine Je st fun hz hTI z02 h1 h2=>?_;clear st;refine J5 z02 fun a b hTO=>?_;clear z02
  have lt:∀ {c},(∃ o,s.heap.get? c=some o)->T≠c:=fun ⟨o,e⟩ q=>absurd (Heap.lt_size e) (Nat.not_lt.mpr (q▸hT))
  simp only [List.mem_cons,List.not_mem_nil,or_false] at q
  rcases q with q | q | q | q
  ·exact lt ⟨_,hz⟩ q
  ·exact lt ⟨_,hTO⟩ q
  ·exact lt (D1.live _ _ h1) q
  ·exact lt (D2.live _ _ h2) q
 go:=fun elts k pos i T s Q E hm hQ=>by
  obtain ⟨⟨hz,hTI,⟨a,b,hTO⟩,h1,h2⟩,_⟩:=hm
  exact wpAny_letOwnedTupleGo_zip hz fun h' hz' hs'=>hQ h' ⟨hz',hs'.extBut _ _ D.tz hTI,⟨a,b,hs'.extBut _ _ D.zo hTO⟩,D1.frame _ _ _ h1 (XZ5 hs' D.z1),D2.frame _ _ _ h2 (XZ5 hs' D.z2)⟩ fun c o hc e=>hs'.extBut _ _ (fun x=>hc (by simp [x])) e
 apart:=fun i T h hm=>hm.2
 done:=fun s Q E st hQ=>zp_end D D1 st fun h' hk=>hQ h' s.toks hk
 self:=fun i s Q E st hQ=>wpAny_pyIter_zip st.1 hQ
end
end
section
open PySem.SeqAt
noncomputable abbrev zT1 (h:Heap) (a:Addr):Heap:=h.push { cls:=.type "tuple_iterator", data:=.fields #[.ref a,.int 0 0] }
noncomputable abbrev zT2 (h:Heap) (a b:Addr):Heap:=(zT1 h a).push { cls:=.type "tuple_iterator", data:=.fields #[.ref b,.int 0 0] }
noncomputable abbrev zT3 (h:Heap) (a b:Addr):Heap:=(zT2 h a b).push { cls:=.type "tuple", data:=.seq #[.ref h.objs.size,.ref (zT1 h a).objs.size] }
noncomputable abbrev zT4 (h:Heap) (a b:Addr):Heap:=(zT3 h a b).push { cls:=.type "tuple", data:=.seq #[.none,.none] }
noncomputable abbrev zT5 (h:Heap) (a b:Addr):Heap:=(zT4 h a b).push { cls:=.type "zip", data:=.fields #[.none,.bool false,.bool false,.ref (zT2 h a b).objs.size,.ref (zT3 h a b).objs.size] }
theorem HZg (l1 l2:Addr) (xs ys:Array Value) :
  Meets (Builtin.«zip.__new__» ⟨[.type "zip", .ref l1,.ref l2],[]⟩) (fun _ R s=>s.heap.IsTuple l1 xs/\s.heap.IsTuple l2 ys/\R (.ok (.ret (.ref (zT4 s.heap l1 l2).objs.size))) { s with heap:=zT5 s.heap l1 l2 }) :=
 .of_wp fun prog w A R s h=>by
  obtain ⟨hp,g,d,tk,os⟩:=s;refine J3 h ?_;clear h;rintro hl1 hl2 h
  have hsub:=sub_zip
  have hL1:Heap.IsTuple (Shared.heap ⟨hp,g,d,tk,os⟩) l1 xs:=hl1
  have hL2:Heap.IsTuple (Shared.heap ⟨hp.push { cls:=.type "tuple_iterator", data:=.fields #[.ref l1,.int 0 0] },g,d,tk,os⟩) l2 ys:=Heap.IsTuple.push hl2 _
  wp_walk using wpAny_pyIter_tuple hL1,wpAny_pyIter_tuple hL2
  exact ⟨_,rfl,h⟩
theorem nm2 {a b c:Addr} (h1:a≠b) (h2:a≠c):a∉[b,c]:=by simp [h1,h2]
section
variable {prog:Program} {w:World} {A:Around} {E:Value->Shared->Prop} {s:Shared}
theorem BZ6 {P:HP} {l1 l2:Addr} {cs ds:List Value} {Q:Value->Shared->Prop} (hp:P s.heap) (h1:TpAt s.heap l1 cs) (h2:TpAt s.heap l2 ds)
  (h:∀ h' v,tk0 v=v->Grows s.heap h'->(∃ z,v=.ref z/\z<h'.objs.size/\∃ TI TO i1 i2 xs ys,(∀ b∈[z,TI,TO,i1,i2],New P b)/\Zp z TI TO i1 i2 [i1,l1] [i2,l2] /\
   ZSt z TI TO i1 i2 (fun i h=>h.IsTupleIter i1 l1 i/\h.IsTuple l1 xs) (fun i h=>h.IsTupleIter i2 l2 i/\h.IsTuple l2 ys) .none 0 h'/\xs.toList.map tk0=cs/\ys.toList.map tk0=ds/\l1≠i1/\l2≠i2)->Q v { s with heap:=h' }) :
  wpAny (model prog w) A (PySem.call (.type "zip") [.ref l1,.ref l2]) Q E s:=by
 refine J0 h1 ?_;clear h1;rintro xs hx rfl
 refine J0 h2 ?_;clear h2;rintro ys hy rfl
 have lt1:l1<s.heap.objs.size:=by refine J0 hx fun o ho _=>?_;clear hx;exact Heap.lt_size ho
 have lt2:l2<s.heap.objs.size:=by refine J0 hy fun o ho _=>?_;clear hy;exact Heap.lt_size ho
 refine callType_new PySem.F.called_zip (by decide) (PySem.F.typeCall_zip_2 _ _) (PySem.F.newCall_zip_2 _ _) (fun obj=>PySem.F.args_object_init_3 obj _ _) PySem.F.entry_zip_new (HZg l1 l2 _ _) ⟨hx,hy,?_⟩
 have z1:(zT1 s.heap l1).objs.size=s.heap.objs.size+1:=Heap.size_push ..
 have z2:(zT2 s.heap l1 l2).objs.size=s.heap.objs.size+2:=by exact sE (Heap.size_push ..) (sE z1 rfl)
 have z3:(zT3 s.heap l1 l2).objs.size=s.heap.objs.size+3:=by exact sE (Heap.size_push ..) (sE z2 rfl)
 have z4:(zT4 s.heap l1 l2).objs.size=s.heap.objs.size+4:=by exact sE (Heap.size_push ..) (sE z3 rfl)
 have z5:(zT5 s.heap l1 l2).objs.size=s.heap.objs.size+5:=by exact sE (Heap.size_push ..) (sE z4 rfl)
 have g5:(zT5 s.heap l1 l2).get? (zT4 s.heap l1 l2).objs.size=some _:=Heap.get?_push_size _ rfl
 have g4:(zT5 s.heap l1 l2).get? (zT3 s.heap l1 l2).objs.size=some _:=Heap.get?_push_of_some _ (Heap.get?_push_size _ rfl)
 have g3:(zT5 s.heap l1 l2).get? (zT2 s.heap l1 l2).objs.size=some _:=Heap.get?_push_of_some _ (Heap.get?_push_of_some _ (Heap.get?_push_size _ rfl))
 have g2:(zT5 s.heap l1 l2).get? (zT1 s.heap l1).objs.size=some _:=Heap.get?_push_of_some _ (Heap.get?_push_of_some _ (Heap.get?_push_of_some _ (Heap.get?_push_size _ rfl)))
 have g1:(zT5 s.heap l1 l2).get? s.heap.objs.size=some _:=Heap.get?_push_of_some _ (Heap.get?_push_of_some _ (Heap.get?_push_of_some _ (Heap.get?_push_of_some _ (Heap.get?_push_size _ rfl))))
 have up:Grows s.heap (zT5 s.heap l1 l2):=fun c o x=>Heap.get?_push_of_some _ (Heap.get?_push_of_some _ (Heap.get?_push_of_some _ (Heap.get?_push_of_some _ (Heap.get?_push_of_some _ x))))
 show _/\_
 rw [z2,z3,z4] at g5
 rw [z1,z2] at g3
 rw [z3] at g4
 rw [z1] at g2
 refine sE z4 ?_
 have hn:∀ k:Nat,New P (s.heap.objs.size+k):=fun k=>⟨s.heap,hp,XZy _ _ (Nat.le_add_right _ _)⟩
 refine ⟨⟨_,g5,rfl⟩,h _ (.ref (s.heap.objs.size+4)) rfl up ⟨_,rfl,by refine sE z5 ?_;exact Nat.lt_succ_self _,s.heap.objs.size+2,s.heap.objs.size+3,s.heap.objs.size,s.heap.objs.size+1,xs.toArray,ys.toArray,?_,?_,?_,by simp,by simp,Nat.ne_of_lt lt1,Nat.ne_of_lt (Nat.lt_succ_of_lt lt2)⟩⟩
 ·intro b hb
  simp only [List.mem_cons,List.not_mem_nil,or_false] at hb
  rcases hb with rfl | rfl | rfl | rfl | rfl
  ·exact hn 4
  ·exact hn 2
  ·exact hn 3
  ·exact hn 0
  ·exact hn 1
 ·have ne:∀ {a b:Nat},a≠b->s.heap.objs.size+a≠s.heap.objs.size+b:=fun h e=>h (Nat.add_left_cancel e)
  have nl1:∀ a:Nat,s.heap.objs.size+a≠l1:=fun a=>Nat.ne_of_gt (Nat.lt_of_lt_of_le lt1 (Nat.le_add_right _ _))
  have nl2:∀ a:Nat,s.heap.objs.size+a≠l2:=fun a=>Nat.ne_of_gt (Nat.lt_of_lt_of_le lt2 (Nat.le_add_right _ _))
  exact ⟨by simp,by simp,nm2 (ne (a:=4) (b:=0) (by decide)) (nl1 4),nm2 (ne (a:=4) (b:=1) (by decide)) (nl2 4),nm2 (ne (a:=3) (b:=0) (by decide)) (nl1 3),nm2 (ne (a:=3) (b:=1) (by decide)) (nl2 3),
   nm2 (ne (a:=0) (b:=1) (by decide)) (nl2 0),nm2 (ne (a:=1) (b:=0) (by decide)) (nl1 1),ne (a:=3) (b:=4) (by decide),ne (a:=2) (b:=4) (by decide),ne (a:=2) (b:=3) (by decide),ne (a:=2) (b:=0) (by decide),ne (a:=2) (b:=1) (by decide)⟩
 ·exact ⟨g5,g3,⟨_,_,g4⟩,⟨⟨_,g1,rfl,rfl⟩,hx.at fun o e=>up _ _ e⟩,⟨⟨_,g2,rfl,rfl⟩,hy.at fun o e=>up _ _ e⟩⟩
end
end
section
open PySem.SeqAt
theorem New.mono {P P':HP} {a:Addr} (n:New P a) (h:∀ h,P h->P' h):New P' a:=J0 n fun h1 p e=>⟨h1,h _ p,e⟩
theorem TpAt.ne_ls {h:Heap} {a b:Addr} {cs ds:List Value} (x:TpAt h a cs) (y:LsAt h b ds):a≠b:=fun q=>by
 subst q
 refine J0 x fun vs z01 _=>?_;clear x;refine J1 z01 fun o ho hc _=>?_;clear z01
 refine J0 y fun us z01 _=>?_;clear y;obtain ⟨n,e⟩:=z01
 rw [ho] at e
 have:=congrArg (Option.map Obj.cls) e
 simp [hc] at this
section
variable {prog:Program} {w:World} {A:Around} {env:Env} {K:Frag} {h₀:Heap} {μ:Str->Option Value} {P:HP} {rest body:List Stmt} {N:HP} {Rt X:Value->HP} {pos p1:Pos} {iter target:PySem.Expr} {x:Str} {xs:List Value}
theorem Xs.forZ2 {Y σ:Type} {V:Y->Value->HP} (F:Fx K env h₀) (hcl:Cl env) (Wd:List Addr) (hWd:∀ h,Pc env h₀ μ P h->∀ b∈Wd,∃ o,h.get? b=some o)
  (he:EvP (model prog w) A env (Pc env h₀ μ P) iter (fun c h=>∃ y,V y c h)) (n:Y->Nat) (ok:Env->Prop) (ns ex:List Str) (bd:Y->Nat->(Str->Option Value)->Str->Option Value) (RO:Y->List Addr)
  (hsrc:∀ y v h,V y (tk0 v) h->Pc env h₀ μ P h->SrcW prog w A target ok ns (fun h=>(∃ c,V y c h)/\Pc env h₀ μ P h) v h (n y) (bd y) (RO y)) (hro:∀ y c h,V y c h->Pc env h₀ μ P h->∀ b∈RO y,b∉Wd/\b≠env.locals) (hok:ok env)
  (μi:Y->Nat->σ->Str->Option Value) (R:Y->List Addr->Nat->σ->HP) (hRw:∀ y W,(∀ b∈W,New (fun h=>(∃ c,V y c h)/\Pc env h₀ μ P h) b)->∀ i z,Sf W (R y W i z)) (hRl:∀ y W i z,Sf [env.locals] (R y W i z)) (hg:∀ h h',Grows h h'->P h->P h')
  (z0:Y->σ) (h0:∀ y c h h',V y c h->Grows h h'->P h'->∀ W,(∀ b∈W,New (fun h=>(∃ c,V y c h)/\Pc env h₀ μ P h) b)->R y W 0 (z0 y) h') (hμ:∀ y,∃ u,Mq env μ (ovr (μi y 0 (z0 y)) (ns++ex) u))
  (hbody:∀ y wr,(∀ b∈wr,New (fun h=>(∃ c,V y c h)/\Pc env h₀ μ P h) b)->∀ i z (S:HP) u,i<n y->Sf Wd S->(∀ h,S h->∀ b∈wr,∃ o,h.get? b=some o)->(∀ W,(∀ b∈W,b∈Wd∨New S b)->Sf W S)->Xs (model prog w) A env (Pc env h₀ (bd y i (ovr (μi y i z) ex u)) (fun h=>R y wr i z h/\S h)) body (fun h=>∃ z u,Pc env h₀ (ovr (μi y (i+1) z) (ns++ex) u) (fun h=>R y wr (i+1) z h/\S h) h) Rt no)
  (hr:∀ y wr,(∀ b∈wr,New (fun h=>(∃ c,V y c h)/\Pc env h₀ μ P h) b)->∀ u z,Xs (model prog w) A env (Pc env h₀ (ovr (μi y (n y) z) (ns++ex) u) (R y wr (n y) z)) rest N Rt X)
  (hs:autoParam (∀ v,foldedSetIterable iter env v=pure v) tI):Xs (model prog w) A env (Pc env h₀ μ P) (.For target iter body [] pos::rest) N Rt X:=fun s Q E p k1 k2 k3=>by
 refine YZk (c_For (he s _ E p fun v h1 tk1 q=>?_) hs)
 obtain ⟨⟨y,hv⟩,p1'⟩:=q
 refine YZb (hsrc y v h1 hv p1' _ _ _ rfl fun h2 It tk2 fp wr St g2 hwr hfp Wk st _ _=>?_)
 have hN:∀ b,New (fun h=>(∃ c,V y c h)/\Pc env h₀ μ P h) b->New (Pc env h₀ μ P) b:=fun b n=>n.mono fun h q=>q.2
 have p2:Pc env h₀ μ P h2:=⟨p1'.1.grow g2,hg _ _ g2 p1'.2⟩
 obtain ⟨u0,hu0⟩:=hμ y
 have hlo:∀ μ,Sf wr (Lo env h₀ μ):=fun μ=>Lo.sf (fun q=>(hN _ (hwr _ q)).ne_loc rfl) (fun y c e q=>(hN _ (hwr _ q)).ne_cell e rfl) (fun b hb=>(hN _ (hwr b hb)).old)
 refine KZ1 (Wd:=Wd) ex Wk hok hcl F.fn ?_ hlo (μi y) (R y wr) Rt X (fun i z=>hRw y wr hwr i z) (hRl y wr) ?_ (fun i z S u hi hS hl hn=>hbody y wr hwr i z S u hi hS hl hn) (s:={ s with heap:=h2,toks:=tk2 }) (u:=u0) (z:=z0 y) ⟨p2.1.cong hu0,h0 y _ h1 h2 hv g2 p2.2 wr hwr⟩ st ?_ ?_
 ·intro q
  rcases hfp _ q with q | q
  ·exact (hN _ q).ne_loc rfl
  ·exact (hro y _ h1 hv p1' _ q).2 rfl
 ·intro b hb q
  rcases hfp b hb with n | n
  ·refine J0 (hN _ n) fun h p e=>?_
   obtain ⟨o,ho⟩:=hWd h p b q
   rw [e] at ho;cases ho
  ·exact (hro y _ h1 hv p1' _ n).1 q
 ·intro h' tk u z q
  exact hr y wr hwr u z { s with heap:=h',toks:=tk } Q E q k1 k2 k3
 ·intro v' h' tk q
  exact k2 v' h' tk q
theorem Xs.forG {σ:Type} {G:Addr->HP} (F:Fx K env h₀) (hcl:Cl env) (Wd:List Addr) (hWd:∀ h,Pc env h₀ μ P h->∀ b∈Wd,∃ o,h.get? b=some o)
  (he:EvP (model prog w) A env (Pc env h₀ μ P) iter (fun c h=>∃ y,c=.ref y/\G y h)) (hsrc:∀ y h,G y h->Pc env h₀ μ P h->Src prog w A (.ref y) h xs) (hex:∀ y h,G y h->Pc env h₀ μ P h->(∃ o,h.get? y=some o)/\y∉Wd/\y≠env.locals)
  (ex:List Str) (μi:Nat->σ->Str->Option Value) (R:List Addr->Nat->σ->HP) (hRw:∀ W,(∀ b∈W,New (Pc env h₀ μ P) b)->∀ i z,Sf W (R W i z)) (hRl:∀ W i z,Sf [env.locals] (R W i z)) (hg:∀ h h',Grows h h'->P h->P h')
  (z0:σ) (h0:∀ h,P h->∀ W,(∀ b∈W,New (Pc env h₀ μ P) b)->R W 0 z0 h) (hμ:∃ u,Mq env μ (ovr (μi 0 z0) ([x]++ex) u))
  (hbody:∀ W,(∀ b∈W,New (Pc env h₀ μ P) b)->∀ i z (S:HP) u,i<xs.length->Sf Wd S->(∀ h,S h->∀ b∈W,∃ o,h.get? b=some o)->(∀ Wx,(∀ b∈Wx,b∈Wd∨New S b)->Sf Wx S)->Xs (model prog w) A env (Pc env h₀ (up (ovr (μi i z) ex u) x (xs.getD i .none)) (fun h=>R W i z h/\S h)) body (fun h=>∃ z u,Pc env h₀ (ovr (μi (i+1) z) ([x]++ex) u) (fun h=>R W (i+1) z h/\S h) h) Rt no)
  (hr:∀ W,(∀ b∈W,New (Pc env h₀ μ P) b)->∀ u z,Xs (model prog w) A env (Pc env h₀ (ovr (μi xs.length z) ([x]++ex) u) (R W xs.length z)) rest N Rt X)
  (hx:autoParam (env.kindOf x=some .local) tR) (hs:autoParam (∀ v,foldedSetIterable iter env v=pure v) tI):Xs (model prog w) A env (Pc env h₀ μ P) (.For (.Name x p1) iter body [] pos::rest) N Rt X :=
 Xs.forZ (Y:=Addr) (V:=fun y c h=>c=.ref y/\G y h) F hcl Wd hWd he (fun _=>xs.length) (fun env=>env.kindOf x=some .local) [x] ex (fun _ i μ=>up μ x (xs.getD i .none)) (fun y=>[y])
  (fun y v h q p=>by
   have e:=q.1
   exact SrcW.nm (c:=.ref y) (by refine sE (YZh e) ?_;exact hsrc y h q.2 p) p e (fun b e=>by cases e;exact (hex y h q.2 p).1))
  (fun y c h q p b hb=>by refine sE (mS hb) ?_;exact (hex y h q.2 p).2) hx (fun _=>μi) (fun _=>R) (fun _=>hRw) (fun _=>hRl) hg (fun _=>z0) (fun y c h h' q g p W hW=>h0 h' p W hW) (fun _=>hμ) (fun _=>hbody) (fun _=>hr) hs
end
section
variable {prog:Program} {w:World} {A:Around} {env:Env} {K:Frag} {h₀:Heap} {μ:Str->Option Value} {P:HP} {pos p1 p2 p3 pa pb fp:Pos} {value e:PySem.Expr} {es:List PySem.Expr} {E:Value->Shared->Prop} {s:Shared} {V:Value->HP} {VV:List Value->HP} {id:String} {fx:Str} {t g:Addr} {c0 c1 c2 c3:Value} {a b:Str} {cs ds:List Value} {k:Nat}
theorem NZ6 {sl:Addr} {v0 v1 v2 v3:Value} {u:Tok} {Q:Value->Shared->Prop} (ht:s.heap.IsTuple t #[v0,v1,v2,v3]) (hs:s.heap.IsSliceOf sl .none (.int 3 u) .none)
  (h:Q (.ref s.heap.objs.size) { s with heap:=s.heap.push { cls:=.type "tuple", data:=.seq #[v0,v1,v2] } }):wpAny (model prog w) A (getItem (.ref t) (.ref sl)) Q E s:=by
 have ht':IsTup s.heap t #[v0,v1,v2,v3]:=ht
 refine J1 (id hs) fun os hos hcs hds=>?_
 have hTs:s.TypeIs (.ref sl) "slice" := ⟨os,hos,hcs⟩
 unfold getItem
 try with_reducible refine wpAny_holding ?_
 first | refine wpAny_bind (wpAny_pure ?_) | skip
 refine wpAny_bind (wpAny_sequenceKey ht'.typeIs (by decide) ?_)
 refine wpAny_bind (wpAny_callSpecial?_slot (name:=PySem.Str.ofString "__getitem__") ht'.typeIs slot_tuple_getitem
  (wpAny_call_entry slot_tuple_getitem ht'.typeIs entry_tuple_getitem ?_ (args_tuple_getitem _ _)))
 show wpAny _ _ (Builtin.Tuple.tupleItemsOf (.ref t) >>= _) _ _ s
 refine wpAny_bind (tupleItemsOf_ ht' ?_)
 refine wpAny_bind (wpAny_typeOf hTs ?_)
 refine sE (if_pos (by decide)) ?_
 have hsa:∀ Q':Int×Int×Nat->Shared->Prop,Q' ((0:Int),1,3) s->wpAny (model prog w) A.in1 (Builtin.Slice.sliceApplied (.ref sl) (pure ((#[v0,v1,v2,v3]:Array Value).size:Int))) Q' (fun e s'=>E e s') s:=fun Q' hq=>by
  unfold Builtin.Slice.sliceApplied Builtin.Slice.sliceFields
  refine wpAny_bind (wpAny_bind (wpAny_field hos hds (x:=.none) rfl (wpAny_bind (wpAny_field hos hds (x:=.int 3 u) rfl (wpAny_bind (wpAny_field hos hds (x:=.none) rfl (wpAny_pure ?_)))))))
  refine wpAny_bind (slicePart_none ?_)
  show wpAny _ _ (if ((1:Int)==0)=true then _ else _) _ _ s
  refine sE (if_neg (by decide)) ?_
  refine wpAny_bind (slicePart_none (wpAny_bind (slicePart_int (wpAny_bind (wpAny_pure ?_)))))
  exact wpAny_pure hq
 refine wpAny_bind (hsa _ ?_)
 show wpAny _ _ (Builtin.Tuple.tupleExact _ >>= _) _ _ s
 first
  | exact wpAny_bind (m:=Builtin.Tuple.tupleExact _) (wpAny_newObj_type (wpAny_pure ⟨_,rfl,wpAny_pure h⟩) (by show 3<=sizeLine;decide))
  | exact wpAny_bind (m:=Builtin.Tuple.tupleExact _) (wpAny_newObj_type (wpAny_bind (wpAny_pure (wpAny_pure ⟨_,rfl,wpAny_pure h⟩))) (by show 3<=sizeLine;decide))
end
end
section
open PySem.SeqAt
section
variable {prog:Program} {w:World} {A:Around} {env:Env} {K:Frag} {h₀:Heap} {μ:Str->Option Value} {P:HP} {pos p1 p2 p3 pa pb fp:Pos} {value e:PySem.Expr} {es:List PySem.Expr} {E:Value->Shared->Prop} {s:Shared} {V:Value->HP} {VV:List Value->HP} {id:String} {fx:Str} {t g:Addr} {c0 c1 c2 c3:Value} {a b:Str} {cs ds:List Value} {k:Nat}
theorem tp4 {h:Heap} (x:TpAt h t [c0,c1,c2,c3]):∃ v0 v1 v2 v3,h.IsTuple t #[v0,v1,v2,v3]/\tk0 v0=c0/\tk0 v1=c1/\tk0 v2=c2/\tk0 v3=c3:=by
 refine J0 x fun vs ht e=>?_;clear x
 have hl:=mlen e
 revert ht e
 refine ar4 vs hl fun v0 v1 v2 v3 ht e=>?_
 obtain ⟨e0,e⟩:=List.cons.inj e
 obtain ⟨e1,e⟩:=List.cons.inj e
 obtain ⟨e2,e⟩:=List.cons.inj e
 exact ⟨v0,v1,v2,v3,ht,e0,e1,e2,(List.cons.inj e).1⟩
theorem EvP.t3 (C:Cx K env h₀ μ P) (hv:Ev (model prog w) A env P value (.ref t)) (ht:∀ h,P h->TpAt h t [c0,c1,c2,c3])
  (hs:autoParam (∀ b a,subscripted (.Slice none (some (.Constant (.int 3) k p3)) none p1) false (.ref b) (.ref a)=operate [.ref a,.ref b] (getItem (.ref b) (.ref a))) tY) :
  EvP (model prog w) A env P (.Subscript value (.Slice none (some (.Constant (.int 3) k p3)) none p1) pos) (fun v h=>∃ b,v=.ref b/\New P b/\TpAt h b [c0,c1,c2]):=fun s Q E p kk=>by
 refine YZ2 (hv s _ E p fun v h1 tk1 x=>?_)
 refine sE (arm_eval_Slice ..) ?_
 refine YZa (EvO.no _ _ E x.2 fun u h2 tk2 y=>YZa (YZe (EvO.yes (k:=3) Ev.ci _ _ E y.2 fun u2 h3 tk3 z=>?_)))
 refine YZa (YZe (YZc (YZb (wpAny_newObj_type ?_ (by size_fits)))))
 refine sE (YZh x.1) ?_
 obtain ⟨v0,v1,v2,v3,hT,e0,e1,e2,e3⟩:=tp4 (ht _ z.2)
 have eu:u=.none:=UZj y.1
 obtain ⟨tt,eu2⟩:=HZb z.1
 subst eu eu2
 have hT':Heap.IsTuple _ t #[v0,v1,v2,v3]:=hT.push { cls:=.type "slice", data:=.fields #[.none,.int 3 tt,.none] }
 refine YZb (GZu rfl ⟨"tuple", _,slot_tuple_getitem.lookup,hT'.typeIs,NZ6 (u:=tt) hT' (Heap.IsSliceOf.new _ _ _ _) ?_⟩ (hs _ _))
 refine kk _ _ _ ⟨⟨_,rfl,⟨_,C.grow _ _ (Grows.push _ _) z.2,YZg _⟩,[v0,v1,v2],⟨_,Heap.get?_push_size _ rfl,rfl,_,rfl⟩,?_⟩,C.grow _ _ (Grows.push _ _) (C.grow _ _ (Grows.push _ _) z.2)⟩
 refine sE List.map_cons (sE List.map_cons (sE List.map_cons (sE e0 (sE e1 (sE e2 ?_)))));rfl
theorem EvP.callTX (hf:Ev (model prog w) A env P (.Name fx fp) (.type id)) (ha:EvsP (model prog w) A env P pos (e::es) VV)
  (ho:∀ (s:Shared) (Q:Value->Shared->Prop) E vs,P s.heap->VV (vs.map tk0) s.heap->(∀ x h' tk,V (tk0 x) h'->P h'->Q x { s with heap:=h',toks:=tk })->wpC (model prog w) A (PySem.call (.type id) vs) Q E s)
  (he:autoParam (eval (.Call (.Name fx fp) (e::es) [] pos) env=(do let f <- eval (.Name fx fp) env;callWith pos f [] (backTo pos (starEach (e::es) env)) [])) tR)
  (he2:autoParam (starEach (e::es) env=(false,eval e env)::starEach es env) tR) (hpl:autoParam ((backTo pos (starEach (e::es) env)).any (·.1)=false) tR):EvP (model prog w) A env P (.Call (.Name fx fp) (e::es) [] pos) V:=fun s Q E p k=>by
 refine YZx (hf s _ E p fun v h1 tk1 x=>?_) he
 refine sE (DZg x.1) ?_
 refine XZr hpl ?_
 refine c_argsP (s:={ s with heap:=h1,toks:=tk1 }) ha x.2 (fun vs h2 tk2 ev y=>?_) he2
 exact ho _ _ _ vs y ev fun v h3 tk3 q p3=>k v h3 tk3 ⟨q,p3⟩
noncomputable def ZipAt (P:HP) (l1 l2:Addr) (cs ds:List Value) (v:Value) (h:Heap):Prop :=
 ∃ z,v=.ref z/\z<h.objs.size/\∃ TI TO i1 i2 xs ys,(∀ b∈[z,TI,TO,i1,i2],New P b)/\Zp z TI TO i1 i2 [i1,l1] [i2,l2] /\
  ZSt z TI TO i1 i2 (fun i h=>h.IsTupleIter i1 l1 i/\h.IsTuple l1 xs) (fun i h=>h.IsTupleIter i2 l2 i/\h.IsTuple l2 ys) .none 0 h/\xs.toList.map tk0=cs/\ys.toList.map tk0=ds/\l1≠i1/\l2≠i2
theorem EvP.zip {U:Addr->HP} (C:Cx K env h₀ μ P) (hf:Ev (model prog w) A env P (.Name "zip" fp) (.type "zip")) (ha:EvsP (model prog w) A env P pos (e::es) (fun vs h=>∃ l1,vs=[.ref l1,.ref g]/\TpAt h l1 cs/\TpAt h g ds/\U l1 h)) (hU:∀ l1 h h',Grows h h'->U l1 h->U l1 h')
  (he:autoParam (eval (.Call (.Name "zip" fp) (e::es) [] pos) env=(do let f <- eval (.Name "zip" fp) env;callWith pos f [] (backTo pos (starEach (e::es) env)) [])) tR)
  (he2:autoParam (starEach (e::es) env=(false,eval e env)::starEach es env) tR) (hpl:autoParam ((backTo pos (starEach (e::es) env)).any (·.1)=false) tR) :
  EvP (model prog w) A env P (.Call (.Name "zip" fp) (e::es) [] pos) (fun v h=>∃ l1,ZipAt P l1 g cs ds v h/\TpAt h l1 cs/\TpAt h g ds/\U l1 h) :=
 EvP.callTX hf ha (fun s Q E vs p q kk=>by
  refine J6 q fun l1 ev t1 t2 u=>?_;clear q
  refine J4 (tk2 ev) ?_;rintro x y rfl ev1 ev2
  refine sE (YZh ev1) (sE (YZh ev2) ?_)
  refine YZb (BZ6 (P:=P) p t1 t2 fun h' v ev' gr z=>kk v h' s.toks ⟨l1,?_,t1.grow gr,t2.grow gr,hU _ _ _ gr u⟩ (C.grow _ _ gr p))
  refine sE ev' ?_;exact z) he he2 hpl
set_option tactic.hygienic true in
theorem SrcW.zip {P0:HP} {v:Value} {h:Heap} {n:Nat} {l1:Addr} (hh:A.handled=none) (x:ZipAt P0 l1 g cs ds (tk0 v) h) (hn:cs.length=n) (hn2:ds.length=n) :
  SrcW prog w A (.Tuple [.Name a pa,.Name b pb] k p1) (fun env=>env.kindOf a=some .local/\env.kindOf b=some .local) [a,b] P0 v h n (fun (i:Nat) μ=>up (up μ a (cs.getD i .none)) b (ds.getD i .none)) [l1,g]:=fun s Q E e kk=>by
 obtain ⟨z,hv,hz,TI,TO,i1,i2,xs,ys,hnew,Z,st,ex,ey,n1,n2⟩:=x
 refine sE (YZh hv) ?_
 subst e
 have lx:xs.size=n:=by exact sF hn (sF ex (sE (List.length_map ..) (sE Array.length_toList rfl)))
 have ly:ys.size=n:=by exact sF hn2 (sF ey (sE (List.length_map ..) (sE Array.length_toList rfl)))
 have D1:=KZh (prog:=prog) (w:=w) (A:=A.in1) hh i1 l1 n1 xs
 have D2:=KZh (prog:=prog) (w:=w) (A:=A.in1) hh i2 g n2 ys
 rw [lx] at D1
 rw [ly] at D2
 have W:=WalksT.zp (prog:=prog) (w:=w) (A:=A) Z D1 D2
 refine wpAny_pyIter_zip st.1 ?_
 have hbd:∀ i<n,(cs.zip ds).getD i (.none,.none)=(cs.getD i .none,ds.getD i .none):=fun i hi=>by
  rw [List.getD_eq_getElem?_getD,List.getD_eq_getElem?_getD,List.getD_eq_getElem?_getD,List.getElem?_eq_getElem (by rw [List.length_zip];lia),List.getElem?_eq_getElem (by lia),List.getElem?_eq_getElem (by lia),List.getElem_zip];rfl
 have live:∀ i h,ZSt z TI TO i1 i2 (fun i h=>h.IsTupleIter i1 l1 i/\h.IsTuple l1 xs) (fun i h=>h.IsTupleIter i2 g i/\h.IsTuple g ys) .none i h->∀ b∈z::TI::TO::([i1,l1]++[i2,g]),∃ o,h.get? b=some o:=fun i h st b hb=>by
  obtain ⟨q1,q2,⟨x,y,q3⟩,⟨⟨o4,q4,_⟩,o5,q5,_⟩,⟨o6,q6,_⟩,o7,q7,_⟩:=st
  simp only [List.cons_append,List.nil_append,List.mem_cons,List.not_mem_nil,or_false] at hb
  rcases hb with rfl | rfl | rfl | rfl | rfl | rfl | rfl
  ·exact ⟨_,q1⟩
  ·exact ⟨_,q2⟩
  ·exact ⟨_,q3⟩
  ·exact ⟨_,q4⟩
  ·exact ⟨_,q5⟩
  ·exact ⟨_,q6⟩
  ·exact ⟨_,q7⟩
 have WK:=Wk.pairT (a:=a) (b:=b) (pa:=pa) (pb:=pb) (p1:=p1) (k:=k) (xs:=cs.zip ds) hh W live (fun i vals hi p=>by
  refine J4 p ?_;clear p;rintro x y px py rfl
  refine ⟨_,_,rfl,?_⟩
  refine sE (hbd i hi) ?_
  have e1:=VZ8 xs.toList (i:=i) (v:=x) (by simpa using px)
  have e2:=VZ8 ys.toList (i:=i) (v:=y) (by simpa using py)
  rw [ex] at e1;rw [ey] at e2
  exact sE e1 (sE e2 rfl))
 refine kk s.heap z s.toks (z::TI::TO::([i1,l1]++[i2,g])) [z,TO,i1,i2] (ZSt z TI TO i1 i2 (fun i h=>h.IsTupleIter i1 l1 i/\h.IsTuple l1 xs) (fun i h=>h.IsTupleIter i2 g i/\h.IsTuple g ys) .none) (Grows.refl _) ?_ ?_ ?_ st ?_ ?_
 ·intro b hb
  refine hnew b ?_
  simp only [List.mem_cons,List.not_mem_nil,or_false] at hb ⊢
  rcases hb with h | h | h | h <;> simp [h]
 ·intro b hb
  simp only [List.cons_append,List.nil_append,List.mem_cons,List.not_mem_nil,or_false] at hb ⊢
  rcases hb with h | h | h | h | h | h | h
  ·exact .inl (hnew b (by simp [h]))
  ·exact .inl (hnew b (by simp [h]))
  ·exact .inl (hnew b (by simp [h]))
  ·exact .inl (hnew b (by simp [h]))
  ·exact .inr (.inl h)
  ·exact .inl (hnew b (by simp [h]))
  ·exact .inr (.inr h)
 ·exact {
      sub:=WK.sub,live:=WK.live,frame:=WK.frame,over:=fun i μ u=>GZr _ _ μ u,back:=fun i μ=>GZs _ _ μ,done:=WK.done,
      next:=fun i s E env h₀ μ S hi hok hcl hk hL st lo hlo hS hSw hSl=>by
       have:=WK.next i s E env h₀ μ S hi hok hcl hk hL st lo hlo hS hSw hSl
       simp only [hbd i hi] at this
       exact this }
 ·intro b hb
  obtain ⟨o,ho⟩:=live 0 _ st b hb
  exact Heap.lt_size ho
 ·intro s Q E st q
  exact wpAny_pyIter_zip st.1 q
end
end
section
open PySem.SeqAt
section
variable {prog:Program} {w:World}
theorem KZe {r g b al:Int} {ca:Addr} (h0:0<=al) (h1:al<256) :
  Fn prog w (KK w.params) 356 3 [.ref ca] (fun h=>TpAt h ca ([r,g,b,al].map I)) (fun v h h'=>∃ t,v=.ref t/\h.get? t=none/\TpAt h' t ((XZ6 [r,g,b,al]).map I)):=by
 refine Fn.mk ["colour"] [] (by exact rfl) (by kernel_rfl) (fun s args _ h=>ar1 args h fun _=>BindsTo.of_eq rfl) (fun h L A G hpre hL hA F hC=>?_)
 have hR:Sf [L] (fun _=>True):=Sf.const
 have hWL:L∈[L]:=List.Mem.head _
 have al3:∀ {P:HP} {env:Env} {pos p1 p2:Pos} {k:Nat} {A:Around},Ev (model prog w) A env P (.Name "colour" p1) (.ref ca)->(∀ h,P h->TpAt h ca ([r,g,b,al].map I))->Ev (model prog w) A env P (.Subscript (.Name "colour" p1) (.Constant (.int 3) k p2) pos) (I al):=fun hv ht =>
  Ev.itemT (k:=3) (cs:=[r,g,b,al].map I) hv Ev.ci ht (by decide) (by show (3:Int)<4;decide) (by show 4<=16777216;decide) rfl
 refine Xs.iteR (Ist.cm Cm.eq (al3 lv (fun h p=>hpre.grow p.1.keep)) Ev.ci) (fun e=>?_) (fun e=>?_)
 ·refine Xs.ret (Ev.tup0 (F.cx hR).grow (Evs.cons Ev.ci (Evs.cons Ev.ci (Evs.cons Ev.ci (Evs.cons Ev.ci Evs.nil)))) (by show 4<=sizeLine;decide)) fun v h' q p=>⟨p.1.keep,?_⟩
  refine J1 q fun t e2 n l=>?_;clear q
  refine ⟨t,e2,n.old,?_⟩
  unfold XZ6
  refine sE (if_pos (by exact e)) ?_;exact l
 have halp:al≠0:=by simpa using e
 refine Xs.assignN F hC hR (EvP.listP (F.cx hR).grow Evs.nil (Nat.zero_le _)) (fun a n=>LpAt.sf (fun q=>n.ne_loc (mS q).symm)) (fun f n=>?_)
 have hfs:∀ cs,Sf [L] (fun h:Heap=>LpAt h f cs):=fun cs=>LpAt.sf (fun q=>n.ne_loc (mS q).symm)
 have hR1:Sf [L] (fun h:Heap=>LpAt h f []/\True):=Sf.and (hfs _) Sf.const
 refine Xs.forG (σ:=Unit) (xs:=[I r,I g,I b]) (G:=fun y h=>TpAt h y [I r,I g,I b]) F hC [L,f] (fun h p=>allL p.1.loc_in (allL p.2.1.live allN))
  (Tr.post (EvP.t3 (t:=ca) (c0:=I r) (c1:=I g) (c2:=I b) (c3:=I al) (F.cx hR1) lv (fun h p=>hpre.grow p.1.keep)) fun v h q=>⟨dr q.1,q.2⟩)
  (fun y h q p=>Src.tuple hA.handled q) (fun y h q p=>⟨q.live,by simp;exact ⟨(p.1.ne_tp q).1,q.ne_ls p.2.1⟩,(p.1.ne_tp q).1⟩) ["low", "rest"] (fun i _=>up (YZ9 ["colour"] ([.ref ca]++List.map tk0 [])) "found" (.ref f))
  (fun W i _ h=>LpAt h f (([r,g,b].take i).map fun p=>I (YZ4 al p))) (fun W hW i z=>LpAt.sf (New.of_live hW fun h p=>p.2.1.live)) (fun W i z=>hfs _) (fun h h' g p=>hR1.grow g p) () (fun h p W hW=>p.1) ⟨_,by refine sE (YZv ..) ?_;exact ⟨fun _ _=>rfl,fun _ _=>rfl⟩⟩ ?_ ?_
 ·intro W hW i _ S u hi hS hlv hst
  have hR2:Sf [L] (fun h:Heap=>LpAt h f (([r,g,b].take i).map fun p=>I (YZ4 al p))/\S h):=Sf.and (hfs _) (hS.mono fun b hb=>by refine sE (mS hb) ?_;exact List.mem_cons_self ..)
  have hx:([I r,I g,I b]:List Value).getD i .none=I ([r,g,b].getD i 0):=by
   exact lt3 i hi rfl rfl rfl
  refine sE hx ?_
  have hi3:i<3:=hi
  generalize hp:[r,g,b].getD i 0=p
  refine Xs.swp (W:=[L]) (Y:=Unit) (ns:=["low", "rest"]) (V:=fun _ _=>True) (cs:=fun _=>[I ((255*p).fdiv al),I ((255*p).fmod al)]) hA.handled (fun n hn=>?_) hR2 (fun _=>Sf.const)
   (Tr.post (Ev.tup0 (F.cx hR2).grow (Evs.cons (Ev.fdiv (i:=255*p) (j:=al) halp (by lia) (Ev.mul (IntMulOk.of_left (by decide)) Ev.ci lv) (al3 lv (fun h q=>hpre.grow q.1.keep))) (Evs.cons (Ev.mod (i:=255*p) (j:=al) halp (Ev.mul (IntMulOk.of_left (by decide)) Ev.ci lv) (al3 lv (fun h q=>hpre.grow q.1.keep))) Evs.nil)) (by show 2<=sizeLine;decide)) fun v h q=>⟨J1 q.1 fun a e _ l=>⟨(),trivial,a,e,l⟩,q.2⟩) (fun _=>rfl) (fun _=>?_)
  ·simp only [List.reverse_cons,List.reverse_nil,List.nil_append,List.singleton_append,List.cons_append,List.mem_cons,List.not_mem_nil,or_false] at hn
   rcases hn with rfl | rfl
   ·exact St1.locB F hC hWL
   ·exact St1.locB F hC hWL
  have hR3:Sf [L] (fun h:Heap=>True/\LpAt h f (([r,g,b].take i).map fun p=>I (YZ4 al p))/\S h):=Sf.and Sf.const hR2
  refine Xs.lsApp (a:=f) (V:=fun c _=>c=I (YZ4 al p)) (cs:=([r,g,b].take i).map fun p=>I (YZ4 al p)) (R':=fun h=>LpAt h f (([r,g,b].take (i+1)).map fun p=>I (YZ4 al p))/\S h) F hR3 n.off (by rfl) (fun h r=>r.2.1) (by simp [sizeLine_eq];lia)
   (Tr.post (Ev.add (i:=(255*p).fdiv al) (j:=if decide (al<=2*(255*p).fmod al)=true then 1 else 0) lv (Ev.intB (F.cx hR3) (bv KZt PyProof.Rows.boot_int) (Ev.cm Cm.ge (Ev.mul (IntMulOk.of_left (by decide)) Ev.ci lv) (al3 lv (fun h q=>hpre.grow q.1.keep))))) fun v h q=>⟨q.1,q.2⟩) (fun h h' c sb hl e rr=>?_) ?_
  ·refine ⟨?_,hS _ _ (fun b o hb e=>(sb.2 b fun q=>hb (by simp [q])).trans e) rr.2.2⟩
   have:([r,g,b].take (i+1)).map (fun p=>I (YZ4 al p))=([r,g,b].take i).map (fun p=>I (YZ4 al p))++[I (YZ4 al p)]:=by
    refine sF hp ?_
    exact lt3 i hi3 rfl rfl rfl
   refine sE this (sF e ?_);exact hl
  ·exact Xs.turnZ () ⟨by repeat (first | exact allN | refine allL rfl ?_),fun _ h=>nomatch h⟩ fun h r=>r
 ·intro W hW u _
  have hR2:=hfs (([r,g,b].take 3).map fun p=>I (YZ4 al p))
  refine Xs.ret (EvP.tupleL (V:=fun a cs h=>cs=([r,g,b].take 3).map (fun p=>I (YZ4 al p))++[I al]) (F.cx hR2) (bv GZ8 PyProof.Rows.boot_tuple) (Tr.post (EvP.addL (V1:=fun _ _=>True) (V2:=fun _ _=>True) (cs:=([r,g,b].take 3).map (fun p=>I (YZ4 al p))) (ds:=[I al]) (F.cx hR2) (Tr.post lv fun v h q=>⟨⟨f,q.1,q.2.2⟩,q.2⟩) (fun a=>?_) (by show 3+1<=10000000;decide)) fun v h q=>⟨J1 q.1 fun a e n l=>⟨a,_,e,l,rfl⟩,q.2⟩) (fun a cs h h' g q=>q) (fun a cs h q=>by subst q;show 4<=sizeLine;decide)) fun v h' q p=>⟨p.1.keep,?_⟩
  ·have hRa:Sf [L] (fun h:Heap=>LpAt h f (([r,g,b].take 3).map fun p=>I (YZ4 al p))):=hR2
   refine Tr.post (EvP.listP (fun h h' g q=>⟨LsAt.grow g q.1,(F.cx hR2).grow _ _ g q.2⟩) (Evs.cons (c:=I al) ?_ Evs.nil) (by show 1<=sizeLine;decide)) fun v h q=>⟨dr q.1,q.2⟩
   exact al3 (Ev.loc ((F.cx hR2).and fun h h' g q=>LsAt.grow g q)) (fun h q=>hpre.grow q.2.1.keep)
  ·refine Ji q ?_;clear q;rintro t a cs e2 n2 l rfl
   refine ⟨t,e2,n2.old,?_⟩
   unfold XZ6
   refine sE (if_neg (by simpa using halp)) ?_
   exact l
end
end
section
open PySem.SeqAt
section
variable {prog:Program} {w:World}
theorem BZ0 {r g b al g0 g1 g2:Int} {ca ga:Addr} (h0:0<=al) (h1:al<256) :
  Fn prog w (KK w.params) 363 3 [.ref ca,.ref ga] (fun h=>TpAt h ca ([r,g,b,al].map I)/\TpAt h ga ([g0,g1,g2].map I)) (fun v h h'=>∃ t,v=.ref t/\h.get? t=none/\TpAt h' t ((YZl [r,g,b,al] [g0,g1,g2]).map I)):=by
 refine Fn.mk ["colour", "ground"] [] (by exact rfl) (by kernel_rfl) (fun s args _ h=>ar2 args h fun _ _=>BindsTo.of_eq rfl) (fun h L A G hpre hL hA F hC=>?_)
 obtain ⟨hpc,hpg⟩:=hpre
 have hR:Sf [L] (fun _=>True):=Sf.const
 have hWL:L∈[L]:=List.Mem.head _
 refine Xs.assignN F hC hR (EvP.listP (F.cx hR).grow Evs.nil (Nat.zero_le _)) (fun a n=>LpAt.sf (fun q=>n.ne_loc (mS q).symm)) (fun f n=>?_)
 have hfs:∀ cs,Sf [L] (fun h:Heap=>LpAt h f cs):=fun cs=>LpAt.sf (fun q=>n.ne_loc (mS q).symm)
 have hR1:Sf [L] (fun h:Heap=>LpAt h f []/\True):=Sf.and (hfs _) Sf.const
 have al3:∀ {P:HP} {env:Env} {pos p1 p2:Pos} {k:Nat} {A:Around},Ev (model prog w) A env P (.Name "colour" p1) (.ref ca)->(∀ h,P h->TpAt h ca ([r,g,b,al].map I))->Ev (model prog w) A env P (.Subscript (.Name "colour" p1) (.Constant (.int 3) k p2) pos) (I al):=fun hv ht =>
  Ev.itemT (k:=3) (cs:=[r,g,b,al].map I) hv Ev.ci ht (by decide) (by show (3:Int)<4;decide) (by show 4<=16777216;decide) rfl
 refine Xs.forZ (σ:=Unit) (Y:=Addr) (V:=fun y v h'=>ZipAt (Pc _ h _ (fun h:Heap=>LpAt h f []/\True)) y ga [I r,I g,I b] [I g0,I g1,I g2] v h'/\TpAt h' y [I r,I g,I b]/\TpAt h' ga [I g0,I g1,I g2]/\True) F hC [L,f] (fun h p=>allL p.1.loc_in (allL p.2.1.live allN))
  (EvP.zip (U:=fun _ _=>True) (F.cx hR1) (bv g_zip PyProof.Rows.boot_zip) (Tr.post (EvsP.cons2 (V2:=fun cs _=>cs=[.ref ga]) hR1 (fun c h h' k q=>?_) (EvP.t3 (t:=ca) (c0:=I r) (c1:=I g) (c2:=I b) (c3:=I al) (F.cx hR1) lv (fun h p=>hpc.grow p.1.keep)) fun c hRc=>Evs.cons lv Evs.nil)
   fun vs h q=>⟨J4 q.1 fun c cs e z03 e3=>J1 z03 fun y e2 _ t=>⟨y,by exact sE e (sE e2 (sE e3 rfl)),t,hpg.grow q.2.1.keep,trivial⟩,q.2⟩) (fun _ _ _ _ u=>u)) (fun _=>3) (fun env=>env.kindOf "part" = some .local/\env.kindOf "below" = some .local) ["part", "below"] ["seen", "near"] (fun _ i μ=>up (up μ "part" (([I r,I g,I b]:List Value).getD i .none)) "below" (([I g0,I g1,I g2]:List Value).getD i .none)) (fun y=>[y,ga])
  (fun y v h q p=>SrcW.zip hA.handled q.1 rfl rfl) (fun y c h q p=>allL ⟨by simp;exact ⟨(p.1.ne_tp q.2.1).1,q.2.1.ne_ls p.2.1⟩,(p.1.ne_tp q.2.1).1⟩ (allL ⟨by simp;exact ⟨(p.1.ne_tp q.2.2.1).1,q.2.2.1.ne_ls p.2.1⟩,(p.1.ne_tp q.2.2.1).1⟩ allN)) ⟨rfl,rfl⟩
  (fun _ i _=>up (YZ9 ["colour", "ground"] ([.ref ca,.ref ga]++List.map tk0 [])) "found" (.ref f)) (fun _ W i _ h=>LpAt h f ((YZl [r,g,b,al] [g0,g1,g2]).take i |>.map I)) (fun _ W hW i z=>LpAt.sf (New.of_live hW fun h p=>p.2.1.live)) (fun _ W i z=>hfs _) (fun h h' g p=>hR1.grow g p) (fun _=>()) (fun y c h h' q g p W hW=>p.1) (fun _=>⟨_,by refine sE (YZv ..) ?_;exact ⟨fun _ _=>rfl,fun _ _=>rfl⟩⟩) ?_ ?_
 ·refine J1 q fun a e n g=>?_;clear q
  exact ⟨a,e,n,TpAt.sf List.not_mem_nil _ _ k g⟩
 ·intro y W hW i _ S u hi hS hlv hst
  have hR2:Sf [L] (fun h:Heap=>LpAt h f ((YZl [r,g,b,al] [g0,g1,g2]).take i |>.map I)/\S h):=Sf.and (hfs _) (hS.mono fun b hb=>by refine sE (mS hb) ?_;exact List.mem_cons_self ..)
  have hx:([I r,I g,I b]:List Value).getD i .none=I ([r,g,b].getD i 0):=by
   exact lt3 i hi rfl rfl rfl
  have hy:([I g0,I g1,I g2]:List Value).getD i .none=I ([g0,g1,g2].getD i 0):=by
   exact lt3 i hi rfl rfl rfl
  refine sE hx (sE hy ?_)
  have hnext:(YZl [r,g,b,al] [g0,g1,g2]).take (i+1)=(YZl [r,g,b,al] [g0,g1,g2]).take i++[UZu al ([r,g,b].getD i 0) ([g0,g1,g2].getD i 0)]:=by
   have e:∀ j,XZv [r,g,b,al] [g0,g1,g2] j=UZu al ([r,g,b,al].getD j 0) ([g0,g1,g2].getD j 0):=fun j=>laid_eq
   exact lt3 i hi (congrArg (fun x=>[x]) (e 0)) (congrArg (fun x=>[XZv [r,g,b,al] [g0,g1,g2] 0,x]) (e 1)) (congrArg (fun x=>[XZv [r,g,b,al] [g0,g1,g2] 0,XZv [r,g,b,al] [g0,g1,g2] 1,x]) (e 2))
  generalize [r,g,b].getD i 0=p at *
  generalize [g0,g1,g2].getD i 0=q at *
  refine Xs.assignV F hC hWL hR2 (c:=I (q*(255-al))) (Ev.mul (i:=q) (j:=255-al) (HZf (by lia)) lv (Ev.sub Ev.ci (al3 lv (fun h q=>hpc.grow q.1.keep)))) ?_
  refine Xs.assignV F hC hWL hR2 (c:=I ((q*(255-al)).fdiv 255+if decide (255<=2*(q*(255-al)).fmod 255)=true then 1 else 0)) (Ev.add (Ev.fdiv (by decide) (by decide) lv Ev.ci) (Ev.intB (F.cx hR2) (bv KZt PyProof.Rows.boot_int) (Ev.cm Cm.ge (Ev.mul (i:=2) (j:=(q*(255-al)).fmod 255) (IntMulOk.of_left (by decide)) Ev.ci (Ev.mod (by decide) lv Ev.ci)) Ev.ci))) ?_
  refine Xs.lsApp (a:=f) (V:=fun c _=>c=I (UZu al p q)) (cs:=(YZl [r,g,b,al] [g0,g1,g2]).take i |>.map I) (R':=fun h=>LpAt h f ((YZl [r,g,b,al] [g0,g1,g2]).take (i+1) |>.map I)/\S h) F hR2 n.off (by rfl) (fun h r=>r.1) (by refine sE (List.length_map ..) (sE List.length_take (sE sizeLine_eq ?_));lia)
   (Ev.min2 (F.cx hR2) hA.handled (bv g_min PyProof.Rows.boot_min) Ev.ci (Ev.add lv lv)) (fun h h' c sb hl e rr=>?_) ?_
  ·refine ⟨?_,hS _ _ (fun b o hb e=>(sb.2 b fun q=>hb (by simp [q])).trans e) rr.2⟩
   refine sE hnext (sE List.map_append (sE List.map_cons (sE List.map_nil (sF e ?_))));exact hl
  ·exact Xs.turnZ () ⟨by repeat (first | exact allN | refine allL rfl ?_),fun _ h=>nomatch h⟩ fun h r=>r
 ·intro y W hW u _
  have hR2:=hfs ((YZl [r,g,b,al] [g0,g1,g2]).take 3 |>.map I)
  refine Xs.ret (EvP.tupleL (V:=fun a cs h=>cs=(YZl [r,g,b,al] [g0,g1,g2]).map I) (F.cx hR2) (bv GZ8 PyProof.Rows.boot_tuple) (Tr.post lv fun v h q=>⟨⟨f,_,q.1,q.2.2,rfl⟩,q.2⟩) (fun a cs h h' g q=>q) (fun a cs h q=>by subst q;show 3<=sizeLine;decide)) fun v h' q p=>⟨p.1.keep,?_⟩
  refine Ji q ?_;clear q;rintro t a cs e2 n2 l rfl
  exact ⟨t,e2,n2.old,l⟩
end
end
section
open PySem.SeqAt
noncomputable def RgAb (h:Heap) (y:Addr) (a b:Int):Prop:=∃ t u v,IsRange h y a b 1 t u v
noncomputable def plc (p:Nat) (n:Nat):List Int:=(List.range n).map fun (i:Nat)=>((p:Int)+(i:Int))
section
variable {prog:Program} {w:World} {A:Around} {env:Env} {K:Frag} {h₀:Heap} {μ:Str->Option Value} {P:HP} {pos fp:Pos} {e e1 e2:PySem.Expr} {i j:Int} {p n:Nat}
theorem EvP.rangeAb (C:Cx K env h₀ μ P) (hf:Ev (model prog w) A env P (.Name "range" fp) (.type "range")) (h1:Ev (model prog w) A env P e1 (I i)) (h2:Ev (model prog w) A env P e2 (I j))
  (he:autoParam (eval (.Call (.Name "range" fp) [e1,e2] [] pos) env=(do let f <- eval (.Name "range" fp) env;callWith pos f [] (backTo pos (starEach [e1,e2] env)) [])) tR)
  (he2:autoParam (starEach [e1,e2] env=(false,eval e1 env)::starEach [e2] env) tR) (he3:autoParam (starEach [e2] env=(false,eval e2 env)::starEach [] env) tR) (hpl:autoParam ((backTo pos (starEach [e1,e2] env)).any (·.1)=false) tR) :
  EvP (model prog w) A env P (.Call (.Name "range" fp) [e1,e2] [] pos) (fun v h=>∃ y,v=.ref y/\RgAb h y i j) :=
 EvP.callT hf (Evs.cons h1 (Evs.cons h2 Evs.nil he3) he2) (fun s Q E vs p hv kk=>by
  refine J4 (tk2 hv) ?_;rintro v u rfl q1 q2
  refine tkI q1 fun t=>?_
  refine tkI q2 fun t2=>?_
  exact YZb (call_range_2 (kk _ _ _ ⟨_,rfl,_,_,_,IsRange.new ..⟩ (C.grow _ _ (Grows.push _ _) p)))) he he2 hpl
theorem EvP.listRg (C:Cx K env h₀ μ P) (hh:A.handled=none) (hp:p<=500000) (hn:n<=500000) (hf:Ev (model prog w) A env P (.Name "list" fp) (.type "list")) (ha:EvP (model prog w) A env P e (fun v h=>∃ y,v=.ref y/\RgAb h y p ((p+n:Nat):Int)))
  (he:autoParam (eval (.Call (.Name "list" fp) [e] [] pos) env=(do let f <- eval (.Name "list" fp) env;callWith pos f [] (backTo pos (starEach [e] env)) [])) tR)
  (he2:autoParam (starEach [e] env=(false,eval e env)::starEach [] env) tR) (hpl:autoParam ((backTo pos (starEach [e] env)).any (·.1)=false) tR) :
  EvP (model prog w) A env P (.Call (.Name "list" fp) [e] [] pos) (fun v h=>∃ b,v=.ref b/\New P b/\LsAt h b ((plc p n).map I)) :=
 EvP.callT1 hf ha (fun s Q E v p0 q kk=>by
  obtain ⟨y,e,t,u,v',hr⟩:=q
  refine sE (YZh e) ?_
  have hsz:Builtin.Range.rangeSize (p:Int) ((p+n:Nat):Int) 1=n:=by
   refine sE (rangeSize_one ..) ?_;split <;> lia
  have hfit:∀ k:Int,0<=k->k<=1000000->Builtin.Range.rangeFitsLong k=true:=fun k h0 h1=>by
   unfold Builtin.Range.rangeFitsLong;simp;lia
  refine YZb (call_list_range (n:=n) hh hr (by unfold Builtin.Range.small;refine sE hsz ?_;rewrite [hfit _ (by exact Int.natCast_nonneg _) (by lia),hfit _ (by exact Int.natCast_nonneg _) (by lia),hfit 1 (by decide) (by decide)];refine sE (if_pos (by decide)) ?_;rw [hfit (((p+n:Nat):Int)+(1-1)) (by exact Int.natCast_nonneg _) (by lia)];simp [hfit (n:Int) (by exact Int.natCast_nonneg _) (by lia)]) hsz (by exact tdN) fun h' tk acc' c' g hS ho=>?_)
  refine kk _ h' tk ⟨_,rfl,⟨s.heap,p0,YZg _⟩,acc'.toList,⟨c',hS⟩,?_⟩ (C.grow _ _ g p0)
  obtain ⟨hs,hi⟩:=ho
  apply List.ext_getElem?
  intro k
  by_cases hk:k<n
  ·have hk':k<acc'.size:=by lia
   obtain ⟨t,et⟩:=hi k acc'[k] (by simp [hk'])
   refine sE List.getElem?_map (sE List.getElem?_map ?_)
   unfold plc
   refine sE List.getElem?_map (sE (List.getElem?_range hk) ?_)
   refine sE (show acc'.toList[k]?=some acc'[k] by simp [hk']) (sE et ?_)
   simp [tk0]
  ·exact sE (List.getElem?_eq_none (by simp;lia)) (sE (List.getElem?_eq_none (by simp [plc];exact qlN)) rfl)) he he2 hpl
end
noncomputable def VZe:Nat->List Sg->List Int
 | _,[]=>[]
 | p,g::gs=>plc (p+4) (g.1.length+4)++VZe (p+8+g.1.length) gs
noncomputable def XZo (gs:List Sg):List Int:=plc 0 8++VZe 8 gs
theorem DZl (p n:Nat):(plc p n).length=n:=by simp [plc]
theorem UZl:∀ (gs:List Sg) (p:Nat),(VZe p gs).length<=(YZq gs).length
 | [],_=>Nat.zero_le _
 | g::gs,p=>by
  show (plc (p+4) (g.1.length+4)++VZe (p+8+g.1.length) gs).length<=_
  refine sE List.length_append (sE (DZl ..) ?_)
  have:=UZl gs (p+8+g.1.length)
  have e:YZq (g::gs)=sgO g++YZq gs:=rfl
  refine sE e (sE List.length_append ?_)
  have:g.1.length+4<=(sgO g).length:=by
   show _<=(YZp _++(g.1++g.2)).length
   refine sE List.length_append (sE List.length_append (sE (show (YZp ((g.1.length:Int)-4)).length=4 from rfl) ?_));lia
  lia
structure PlSt (o:List Int) (gs:List Sg) (z:Nat×Nat×Addr×List Int×(Str->Option Value)) (L:Addr) (h:Heap):Prop where
 here:o.drop z.1=YZq (gs.drop z.2.1)
 le:z.1<=o.length
 tot:z.2.2.2.1++VZe z.1 (gs.drop z.2.1)=XZo gs
 ne:z.2.2.1≠L
 old:h.get? z.2.2.1=none
section
variable {prog:Program} {w:World}
theorem DZq {sg:List Int} {gs:List Sg} (hs:InB sg) (hsl:sg.length=8) (hg:∀ g∈gs,SgOk g) (hz:(sg++YZq gs).length<=100000) :
  Fn prog w (KK w.params) 377 2 [By (sg++YZq gs)] (fun _=>True) (fun v h h'=>∃ t,v=.ref t/\h.get? t=none/\LsAt h' t ((XZo gs).map I)):=by
 refine Fn.mk ["octets"] [] (by exact rfl) (by kernel_rfl) (fun s args _ h=>ar1 args h fun _=>BindsTo.of_eq rfl) (fun h L A G _ hL hA F hC=>?_)
 have hR:Sf [L] (fun _=>True):=Sf.const
 have hWL:L∈[L]:=List.Mem.head _
 have hob:InB (sg++YZq gs):=hs.app (GZv hg)
 have hd8:(sg++YZq gs).drop 8=YZq gs:=by exact sF hsl (sE List.drop_left rfl)
 have hol:8<=(sg++YZq gs).length:=by refine sE List.length_append ?_;lia
 have hpz:(XZo gs).length<=100000:=by
  unfold XZo
  have:=UZl gs 8
  refine sE List.length_append (sE (DZl ..) ?_)
  rw [List.length_append] at hz
  lia
 generalize hoe:sg++YZq gs=o at *
 have hz':o.length<=16777216:=by exact tdN
 refine Xs.swp (W:=[L]) (Y:=Addr) (ns:=["found", "at"]) (V:=fun y h'=>(y≠L/\h.get? y=none)/\LsAt h' y ((plc 0 8).map I)) (cs:=fun y=>[.ref y,I 8]) hA.handled (fun n hn=>?_) hR (fun y=>?_) ?_ (fun _=>rfl) (fun a=>?_)
 ·simp only [List.reverse_cons,List.reverse_nil,List.nil_append,List.singleton_append,List.cons_append,List.mem_cons,List.not_mem_nil,or_false] at hn
  rcases hn with rfl | rfl
  ·exact St1.locB F hC hWL
  ·exact St1.locB F hC hWL
 ·exact fun h1 h2 kk q=>⟨q.1,LsAt.sf (by simp;exact q.1.1) _ _ kk q.2⟩
 ·refine Tr.post (EvP.tup1 (F.cx hR).grow (EvsP.cons (V2:=fun cs _=>cs=[I 8]) (EvP.listRg (p:=0) (n:=8) (F.cx hR) hA.handled (by decide) (by decide) (bv g_list PyProof.Rows.boot_list) (Tr.post (EvP.range (k:=8) (F.cx hR) (bv XZi PyProof.Rows.boot_range) Ev.ci) fun v h q=>⟨dr q.1,q.2⟩)) fun c=>?_) ?_ ?_) ?_
  ·exact Evs.cons Ev.ci Evs.nil
  ·rintro cs h1 h2 g ⟨c,cs',rfl,⟨a,rfl,n,e⟩,rfl⟩
   exact ⟨_,_,rfl,⟨a,rfl,n,e.grow g⟩,rfl⟩
  ·rintro cs h1 ⟨c,cs',rfl,_,rfl⟩
   show 2<=sizeLine;decide
  ·rintro v h1 ⟨⟨a,cs,e,n,t,c,cs',rfl,⟨b,rfl,nb,eb⟩,rfl⟩,p⟩
   exact ⟨⟨b,⟨⟨fun q=>nb.ne_loc q.symm,nb.old⟩,eb⟩,a,e,t⟩,p⟩
 refine Xs.fact2 (q:=a≠L/\h.get? a=none) (fun h p=>p.2.1.1) fun hab=>?_
 refine Xs.while (σ:=Nat×Nat×Addr×List Int×(Str->Option Value)) (fun z=>o.length-z.1) (fun z=>PlSt o gs z L h) (fun z=>ovr (up (up (YZ9 ["octets"] ([By o]++List.map tk0 [])) "found" (.ref z.2.2.1)) "at" (I z.1)) ["size"] z.2.2.2.2) (fun z h=>LsAt h z.2.2.1 (z.2.2.2.1.map I)) (fun z=>decide ((z.1:Int)<o.length))
  (8,0,a,plc 0 8,fun _=>none) ⟨hd8,hol,rfl,hab.1,hab.2⟩ (fun h p=>⟨p.1.cong ⟨by repeat (first | exact allN | refine allL rfl ?_),fun _ h=>nomatch h⟩,p.2.1.2⟩) ?_ ?_ ?_
 ·rintro ⟨k,j,f,xs,u⟩ hI
  have hR2:Sf [L] (fun h:Heap=>LsAt h f (xs.map I)):=LsAt.sf (by simp;exact hI.ne)
  exact Ist.cm Cm.lt lv (Ev.lenB (F.cx hR2) hz' (bv VZl PyProof.Rows.bootS_len) lv)
 ·rintro ⟨k,j,f,xs,u⟩ hI hlt
  have hR2:Sf [L] (fun h:Heap=>LsAt h f (xs.map I)):=LsAt.sf (by simp;exact hI.ne)
  obtain ⟨hh,hkl,htot,hfL,hfo⟩:=hI
  dsimp only at hh hkl htot hfL hfo ⊢
  rw [decide_eq_true_eq] at hlt
  dsimp only at hlt
  have hj:j<gs.length:=by
   rcases Nat.lt_or_ge j gs.length with hj | hj
   ·exact hj
   ·rw [List.drop_eq_nil_of_le hj] at hh
    have:=congrArg List.length hh
    rw [List.length_drop] at this
    simp [YZq] at this
    lia
  have hgd:gs.drop j=gs.getD j g0::gs.drop (j+1):=by
   refine sE List.getD_eq_getElem?_getD (sE (List.getElem?_eq_getElem hj) ?_);exact List.drop_eq_getElem_cons hj
  have hgo:SgOk (gs.getD j g0):=by
   refine sE List.getD_eq_getElem?_getD (sE (List.getElem?_eq_getElem hj) ?_);exact hg _ (List.getElem_mem hj)
  rw [hgd] at hh htot
  generalize hge:gs.getD j g0=g at *
  obtain ⟨t,c⟩:=g
  obtain ⟨htb,hcb,htl,htz,hcl⟩:=hgo
  dsimp only at htb hcb htl htz hcl
  have e0:o.drop k=YZp ((t.length:Int)-4)++((t++c)++YZq (gs.drop (j+1))):=by
   refine sE hh ?_;show (YZp _++(t++c))++YZq _=_;exact sE (List.append_assoc ..) rfl
  have e1:o.drop (k+4)=(t++c)++YZq (gs.drop (j+1)):=UZy e0
  have e3:o.drop (k+4+(t++c).length)=YZq (gs.drop (j+1)):=UZy e1
  have hlen:k+4+t.length+4<=o.length:=by
   have:=NZp hkl e0
   rw [show (YZp ((t.length:Int)-4)).length=4 from rfl,List.length_append,List.length_append,hcl] at this
   lia
  have g2:o.getD (k+2) 0=((t.length:Int)-4) / 256 % 256:=by
   refine sE XZ7 (sE e0 ?_)
   show Builtin.bitAnd (((t.length:Int)-4).fdiv (2 ^ (8:Int).toNat)) 255=_
   refine sE (bitAnd_m8 ..) (sE (Int.fdiv_eq_ediv_of_nonneg _ (by decide)) ?_);rfl
  have g3:o.getD (k+3) 0=((t.length:Int)-4) % 256:=by
   refine sE XZ7 (sE e0 ?_)
   show Builtin.bitAnd ((t.length:Int)-4) 255=_
   exact sE (bitAnd_m8 ..) rfl
  refine Xs.assignV F hC hWL hR2 (c:=I ((t.length:Int)-4)) (Tr.post (Ev.add (Ev.mul (i:=256) (j:=o.getD ((k:Int)+2).toNat 0) (IntMulOk.of_left (by decide)) Ev.ci (Ev.itemB (ks:=o) (k:=(k:Int)+2) hob hz' (by exact Int.natCast_nonneg _) (by lia) lv (Ev.add lv Ev.ci))) (Ev.itemB (ks:=o) (k:=(k:Int)+3) hob hz' (by exact Int.natCast_nonneg _) (by lia) lv (Ev.add lv Ev.ci))) fun v h q=>⟨q.1.trans ?_,q.2⟩) ?_
  ·refine sE (show ((k:Int)+2).toNat=k+2 by exact Int.toNat_natCast _) (sE (show ((k:Int)+3).toNat=k+3 by exact Int.toNat_natCast _) (sE g2 (sE g3 ?_)))
   congr 1;lia
  refine Xs.assignN (G:=fun y h=>LsAt h y ((xs++plc (k+4) (t.length+4)).map I)) F hC hR2 (Tr.post (EvP.addL (V1:=fun _ _=>True) (V2:=fun _ _=>True) (cs:=xs.map I) (ds:=(plc (k+4) (t.length+4)).map I) (F.cx hR2) (Tr.post lv fun v h q=>⟨⟨f,q.1,q.2.2⟩,q.2⟩) (fun a=>?_) ?_) fun v h q=>⟨J1 q.1 fun a e n l=>⟨a,e,n,by refine sE List.map_append ?_;exact l⟩,q.2⟩) (fun a n=>LsAt.sf (fun q=>n.ne_loc (mS q).symm)) (fun f' n=>?_)
  ·have CC:=(F.cx (μ:=up (ovr (up (up (YZ9 ["octets"] ([By o]++List.map tk0 [])) "found" (.ref f)) "at" (I k)) ["size"] u) "size" (I ((t.length:Int)-4))) hR2).and (V:=fun h=>LsAt h a (xs.map I)) fun h h' g q=>LsAt.grow g q
   refine Tr.post (EvP.listRg (p:=k+4) (n:=t.length+4) CC hA.handled (by lia) (by lia) (Ev.bui CC g_list PyProof.Rows.boot_list) (Tr.post (EvP.rangeAb (i:=(k:Int)+4) (j:=(k:Int)+12+((t.length:Int)-4)) CC (Ev.bui CC XZi PyProof.Rows.boot_range) (Ev.add (Ev.loc CC) Ev.ci) (Ev.add (Ev.add (Ev.loc CC) Ev.ci) (Ev.loc CC))) fun v h q=>⟨J0 q.1 fun y e r=>⟨y,e,?_⟩,q.2⟩)) fun v h q=>⟨dr q.1,q.2⟩
   refine sE (show (((k+4:Nat)):Int)=(k:Int)+4 by rfl) (sE (show ((k+4+(t.length+4):Nat):Int)=(k:Int)+12+((t.length:Int)-4) by lia) ?_)
   exact r
  ·have:=congrArg List.length htot
   have e5:VZe k ((t,c)::gs.drop (j+1))=plc (k+4) (t.length+4)++VZe (k+8+t.length) (gs.drop (j+1)):=rfl
   rw [e5,List.length_append,List.length_append] at this
   refine sE (List.length_map ..) (sE (List.length_map ..) ?_);lia
  have hR3:Sf [L] (fun h:Heap=>LsAt h f' ((xs++plc (k+4) (t.length+4)).map I)/\LsAt h f (xs.map I)):=Sf.and (LsAt.sf (fun q=>n.ne_loc (mS q).symm)) hR2
  refine Xs.assignV F hC hWL hR3 (c:=I ((k+8+t.length:Nat):Int)) (Tr.post (Ev.add (Ev.add lv Ev.ci) lv) fun v h q=>⟨q.1.trans (congrArg I (by lia)),q.2⟩) ?_
  refine Xs.turnW (z:=(k,j,f,xs,u)) (fun μ=>(k+8+t.length,j+1,f',xs++plc (k+4) (t.length+4),μ)) (by exact Nat.sub_lt_sub_left (by lia) (by lia)) ⟨?_,by show k+8+t.length<=_;lia,?_,fun q=>n.ne_loc q.symm,n.old⟩ ⟨?_,fun _ h=>nomatch h⟩ fun h r=>r.1
  ·show o.drop (k+8+t.length)=YZq (gs.drop (j+1))
   rw [show (t++c).length=t.length+4 by exact sE List.length_append (sE hcl rfl)] at e3
   refine sF e3 ?_;congr 1;lia
  ·show (xs++plc (k+4) (t.length+4))++VZe (k+8+t.length) (gs.drop (j+1))=_
   refine sE (List.append_assoc ..) ?_;exact htot
  ·repeat (first | exact allN | refine allL rfl ?_)
 ·rintro ⟨k,j,f,xs,u⟩ hI hge
  have hR2:Sf [L] (fun h:Heap=>LsAt h f (xs.map I)):=LsAt.sf (by simp;exact hI.ne)
  refine Xs.retV lv fun h' p=>⟨p.1.keep,f,rfl,hI.old,?_⟩
  have e:gs.drop j=[]:=by
   have h1:=hI.here
   rw [decide_eq_false_iff_not] at hge
   dsimp only at h1 hge
   rw [List.drop_eq_nil_of_le (by lia)] at h1
   cases hd:gs.drop j with
   | nil=>rfl
   | cons g r =>
    rw [hd] at h1
    have:=congrArg List.length h1
    have e:YZq (g::r)=sgO g++YZq r:=rfl
    rw [e,List.length_append,VZq (hg g (List.mem_of_mem_drop (hd▸List.mem_cons_self ..)))] at this
    rw [List.length_nil] at this;lia
  have:=hI.tot
  dsimp only at this
  rw [e] at this
  rw [show VZe k []=[] from rfl,List.append_nil] at this
  refine sF this ?_;exact p.2
end
end
section
open PySem.SeqAt
theorem sO_app (a b:List Nat):sO a++sO b=sO (a++b):=by
 show Str.append (sO a) (sO b)=_
 unfold Str.append sO
 congr 1
 exact List.append_toArray ..
theorem sO_len (a:List Nat):(sO a).length=a.length:=by
 show (sO a).cps.size=_
 simp [sO]
noncomputable def inS (x:Str) (c:Nat):Bool:=!(Builtin.Str.occurrences x (sO [c]) 0 x.length 1).isEmpty
section
variable {prog:Program} {w:World} {A:Around} {env:Env} {K:Frag} {h₀:Heap} {μ:Str->Option Value} {P:HP} {pos fp:Pos} {e l r:PySem.Expr} {as bs:List Nat} {x:Str} {c:Nat} {i:Int} {V1 V2:Value->HP} {a b:Addr}
theorem Ev.addS (hz:as.length+bs.length<=1000000) (hl:Ev (model prog w) A env P l (Sx (sO as))) (hr:Ev (model prog w) A env P r (Sx (sO bs))):Ev (model prog w) A env P (.BinOp l .Add r pos) (Sx (sO (as++bs))) :=
 hl.bin hr fun s Q E v u ha hb h=>by
  refine tkS ha fun _=>?_;refine tkS hb fun _=>?_
  exact YZb (PyProof.Rows.add_str (fun t' tk=>h _ tk (by refine sE (sO_app ..) ?_;rfl)) (by refine sE (sO_len ..) (sE (sO_len ..) (sE sizeLine_eq ?_));exact tdN))
theorem Cm.notInC:Cm prog w A .NotIn (Sx (sO [c])) (Sx x) (!inS x c):=fun s Q E v u ha hb h=>by
 refine tkS ha fun _=>?_;refine tkS hb fun _=>?_
 exact YZb (PySem.P.notIn_str (h _ _ rfl))
theorem Ev.strD {n:Nat} (C:Cx K env h₀ μ P) (hn:n<10) (hf:Ev (model prog w) A env P (.Name "str" fp) (.type "str")) (h:Ev (model prog w) A env P e (I n))
  (he:autoParam (eval (.Call (.Name "str" fp) [e] [] pos) env=(do let f <- eval (.Name "str" fp) env;callWith pos f [] (backTo pos (starEach [e] env)) [])) tR)
  (he2:autoParam (starEach [e] env=(false,eval e env)::starEach [] env) tR) (hpl:autoParam ((backTo pos (starEach [e] env)).any (·.1)=false) tR):Ev (model prog w) A env P (.Call (.Name "str" fp) [e] [] pos) (Sx (sO [48+n])) :=
 EvP.callT1 (V':=fun v _=>v=Sx (sO [48+n])) hf h.toP (fun s Q E v p q kk=>by
  refine tkI q fun t=>?_
  refine YZb (PySem.P.str_of_int ?_ (kk _ s.heap _ ?_ p))
  ·repeat (first | exact absurd hn (Nat.not_lt_zero n) | refine ltS n hn (fun hn=>?_) (by decide))
  ·repeat (first | exact absurd hn (Nat.not_lt_zero n) | refine ltS n hn (fun hn=>?_) rfl)) he he2 hpl
theorem Ev.intS {n:Int} (C:Cx K env h₀ μ P) (hx:PySem.intText? x=some n) (hl:x.length<=640) (hf:Ev (model prog w) A env P (.Name "int" fp) (.type "int")) (h:Ev (model prog w) A env P e (Sx x))
  (he:autoParam (eval (.Call (.Name "int" fp) [e] [] pos) env=(do let f <- eval (.Name "int" fp) env;callWith pos f [] (backTo pos (starEach [e] env)) [])) tR)
  (he2:autoParam (starEach [e] env=(false,eval e env)::starEach [] env) tR) (hpl:autoParam ((backTo pos (starEach [e] env)).any (·.1)=false) tR):Ev (model prog w) A env P (.Call (.Name "int" fp) [e] [] pos) (I n) :=
 EvP.callT1 (V':=fun v _=>v=I n) hf h.toP (fun s Q E v p q kk=>by
  refine tkS q fun t=>?_
  exact YZb (KIN.call_text hx hl (kk _ s.heap _ rfl p))) he he2 hpl
theorem Ist.cmpPP {op:CmpOp} {d:Bool} (hl:EvP (model prog w) A env P l V1) (hg:∀ v h h',Grows h h'->V1 v h->V1 v h') (hr:∀ v,EvP (model prog w) A env (fun h=>V1 v h/\P h) r V2)
  (ho:∀ (s:Shared) (Q:Value->Shared->Prop) E v u,P s.heap->V1 (tk0 v) s.heap->V2 (tk0 u) s.heap->(∀ x tk,tk0 x=.bool d->Q x { s with toks:=tk })->wpC (model prog w) A (compareOp op v u) Q E s)
  (hm:autoParam (behindInMarks op r=false) tW):Ist (model prog w) A env P (.Compare l [op] [r] pos) d:=fun s Q E p k =>
 XZf (hl s _ E p fun v h1 tk1 x=>hr (tk0 v) _ _ E ⟨x.1,x.2⟩ fun u h2 tk2 y=>ho _ _ _ _ _ y.2.2 y.2.1 y.1 fun z tk e=>by
  refine sE (VZp e) ?_;exact YZb (wpAny_truthy_bool (k d _ tk ⟨rfl,y.2.2⟩))) hm
theorem Ist.neNil (hu:A.units+64<cLine) (hl:EvP (model prog w) A env P l (fun v h=>∃ a,v=.ref a/\LsAt h a [])) (hr:∀ v:Value,EvP (model prog w) A env (fun h=>(∃ a,v=.ref a/\LsAt h a [])/\P h) r (fun v h=>∃ a,v=.ref a/\LsAt h a []))
  (hm:autoParam (behindInMarks .NotEq r=false) tW):Ist (model prog w) A env P (.Compare l [.NotEq] [r] pos) false :=
 Ist.cmpPP hl (fun v h h' g q=>J0 q fun a e l=>⟨a,e,l.grow g⟩) hr (fun s Q E v u p q1 q2 k=>by
  refine J8 q1 fun a e1 vs h1 l1=>?_;clear q1
  refine J8 q2 fun b e2 us h2 l2=>?_;clear q2
  refine sE (YZh e1) (sE (YZh e2) ?_)
  obtain rfl:=List.map_eq_nil_iff.mp l1
  obtain rfl:=List.map_eq_nil_iff.mp l2
  exact YZb (ke_ne_ints (ns:=[]) (ms:=[]) h1.isList h2.isList .nil .nil hu (k _ _ rfl))) hm
end
section
variable {prog:Program} {w:World}
theorem KZ2 {n:Nat} (hn:n=1∨n=2):Fn prog w (KK w.params) 202 13 [Sx (sO [48+n])] (fun _=>True) (fun v _ _=>v=I n):=by
 refine Fn.mk ["word"] [] (by exact rfl) (by kernel_rfl) (fun s args _ h=>ar1 args h fun _=>BindsTo.of_eq rfl) (fun h L A G _ hL hA F hC=>?_)
 have hR:Sf [L] (fun _=>True):=Sf.const
 refine Xs.iteF (Ist.as (Ist.bop (All.orC (Ist.cm Cm.eqS lv Ev.cs) fun _=>All.orC (Ist.neNil (by have:=hA.units;omega) ?_ fun v=>?_) fun _=>All.orN)) (by rcases hn with rfl | rfl <;> rfl)) ?_
 ·refine Tr.post (EvP.compF (n:=1) (c:=Sx (sO [48+n])) (cl:=[]) (ok:=fun env=>env.kindOf "sign" = some .local) (ns:=["sign"]) (bd:=fun i μ=>up μ "sign" (([Sx (sO [48+n])]:List Value).getD i .none)) (RO:=[])
    F ⟨by rfl,fun _=>by rfl,by decide,by rfl,by decide,fun _ _ h=>(nomatch h),fun _ _ h=>(nomatch h)⟩ hC lv (fun v h' e p=>?_) (by refine sE sizeLine_eq ?_;decide) (fun W hW=>Sf.const) (fun i=>false) (fun i=>.none) (fun i B C hn' hF hi hB hB2=>?_) (fun i B C hn hF hi ht hB hB2=>nomatch ht)) fun v h q=>⟨dr q.1,q.2⟩
  ·refine tkS e fun t=>?_
   exact SrcW.nm (xs:=[Sx (sO [48+n])]) (c:=Sx (sO [48+n])) (Src.str (cs:=[48+n]) hA.handled (by intro c hc;refine sE (mS hc) ?_;rcases hn with rfl | rfl <;> decide)) p rfl (fun _ e=>nomatch e)
  ·obtain rfl:i=0:=by lia
   refine Ist.as (Ist.cm (Cm.notInC (c:=48+n)) lv Ev.cs) ?_
   rcases hn with rfl | rfl <;> decide +kernel
 ·exact Tr.post (EvP.listP (fun h h' g q=>⟨J0 q.1 fun a e l=>⟨a,e,l.grow g⟩,(F.cx hR).grow _ _ g q.2⟩) Evs.nil (Nat.zero_le _)) fun v h q=>⟨dr q.1,q.2⟩
 ·refine Xs.retV (Ev.intS (x:=sO [48+n]) (F.cx hR) ?_ (by refine sE (sO_len ..) ?_;show 1<=640;decide) (bv KZt PyProof.Rows.boot_int) lv) fun h p=>⟨p.1.keep,rfl⟩
  rcases hn with rfl | rfl <;> decide +kernel
end
end
section
open PySem.SeqAt
noncomputable abbrev WS:Str:=Str.ofString " \n\t\r"
noncomputable def VZc (z:List (List Nat)×List Nat) (c:Nat):List (List Nat)×List Nat :=
 if (!inS WS c)=true then (z.1,z.2++[c]) else if (z.2 != [])=true then (z.1++[z.2],[]) else z
noncomputable def hdN (a b:Nat):List Nat:=[80,54,10,48+a,32,48+b,10,50,53,53,10]
noncomputable def hdS (l:List Nat):List (List Nat)×List Nat:=l.foldl VZc ([],[])
theorem hdS_snoc (l:List Nat) (c:Nat):hdS (l++[c])=VZc (hdS l) c:=by simp [hdS,List.foldl_append]
theorem BZm {a b:Nat} (ha:a<=9) (hb:b<=9):Asc (hdN a b):=by
 show ∀ c∈[80,54,10,48+a,32,48+b,10,50,53,53,10],c<128
 exact allL (by decide) (allL (by decide) (allL (by decide) (allL (by lia) (allL (by decide) (allL (by lia) (allL (by decide) (allL (by decide) (allL (by decide) (allL (by decide) (allL (by decide) allN))))))))))
theorem hd_all {a b:Nat} (ha:a=1∨a=2) (hb:b=1∨b=2):hdS (hdN a b)=([[80,54],[48+a],[48+b],[50,53,53]],[]):=by
 rcases ha with rfl | rfl <;> rcases hb with rfl | rfl <;> decide +kernel
theorem NZj {a b:Nat}:(hdN a b).length=11:=rfl
noncomputable def wdsV (ws:List (List Nat)):List Value:=ws.map fun w=>Sx (sO w)
theorem take_snoc {l:List Nat} {k:Nat} (h:k<l.length):l.take (k+1)=l.take k++[l.getD k 0]:=by
 refine sE List.take_succ (sE List.getD_eq_getElem?_getD (sE (List.getElem?_eq_getElem h) ?_));rfl
theorem hd_sz0:∀ (l:List Nat) (z:List (List Nat)×List Nat),(l.foldl VZc z).2.length+(l.foldl VZc z).1.length<=z.2.length+z.1.length+l.length
 | [],z=>Nat.le_refl _
 | c::l,z=>by
  have ih:=hd_sz0 l (VZc z c)
  have:(VZc z c).2.length+(VZc z c).1.length<=z.2.length+z.1.length+1:=by
   unfold VZc
   split
   ·simp only [List.length_append,List.length_singleton];lia
   ·split
    ·simp only [List.length_append,List.length_singleton,List.length_nil];lia
    ·exact Nat.le_add_right _ _
  refine sE List.foldl_cons (sE List.length_cons ?_);lia
theorem hd_sz {l:List Nat}:(hdS l).2.length+(hdS l).1.length<=l.length:=by
 have:=hd_sz0 l ([],[])
 simpa [hdS] using this
structure HdSt (a b:Nat) (z:Nat×List (List Nat)×List Nat×(Str->Option Value)):Prop where
 le:z.1<=11
 st:(z.2.1,z.2.2.1)=hdS ((hdN a b).take z.1)
section
variable {prog:Program} {w:World}
theorem HZw {a b:Nat} {rest:List Int} (ha:a=1∨a=2) (hb:b=1∨b=2) (hr:InB rest) (hz:rest.length<=100000) :
  Fn prog w (KK w.params) 197 2 [By (nmZ (hdN a b)++rest),I 4] (fun _=>True) (fun v h h'=>∃ t wl,v=.ref t/\h.get? wl=none/\TpAt h' t [.ref wl,I 11]/\LsAt h' wl (wdsV [[80,54],[48+a],[48+b],[50,53,53]])):=by
 refine Fn.mk ["octets", "many"] [] (by exact rfl) (by kernel_rfl) (fun s args _ h=>ar2 args h fun _ _=>BindsTo.of_eq rfl) (fun h L A G _ hL hA F hC=>?_)
 have hR:Sf [L] (fun _=>True):=Sf.const
 have hWL:L∈[L]:=List.Mem.head _
 have hasc:Asc (hdN a b):=BZm (by lia) (by lia)
 have hob:InB (nmZ (hdN a b)++rest):=(GZ4 hasc).app hr
 have hol:(nmZ (hdN a b)++rest).length=11+rest.length:=by refine sE List.length_append ?_;rfl
 have hget:∀ k,k<11->(nmZ (hdN a b)++rest).getD k 0=(((hdN a b).getD k 0:Nat):Int):=fun k hk=>by
  refine sE List.getD_eq_getElem?_getD (sE (List.getElem?_append_left (by show k<11;exact hk)) ?_)
  unfold nmZ
  refine sE List.getElem?_map (sE (List.getElem?_eq_getElem (by show k<11;exact hk)) (sE List.getD_eq_getElem?_getD (sE (List.getElem?_eq_getElem (by show k<11;exact hk)) ?_)));rfl
 generalize hoe:nmZ (hdN a b)++rest=o at *
 have hz':o.length<=16777216:=by lia
 refine Xs.swp (W:=[L]) (Y:=Addr) (ns:=["words", "word", "at"]) (V:=fun y h'=>(y≠L/\h.get? y=none)/\LpAt h' y []) (cs:=fun y=>[.ref y,Sx (sO []),I 0]) hA.handled (fun n hn=>?_) hR (fun y=>?_) ?_ (fun _=>rfl) (fun wl=>?_)
 ·simp only [List.reverse_cons,List.reverse_nil,List.nil_append,List.singleton_append,List.cons_append,List.mem_cons,List.not_mem_nil,or_false] at hn
  rcases hn with rfl | rfl | rfl
  ·exact St1.locB F hC hWL
  ·exact St1.locB F hC hWL
  ·exact St1.locB F hC hWL
 ·exact fun h1 h2 kk q=>⟨q.1,LpAt.sf (by simp;exact q.1.1) _ _ kk q.2⟩
 ·refine Tr.post (EvP.tup1 (F.cx hR).grow (EvsP.cons (V2:=fun cs _=>cs=[Sx (sO []),I 0]) (EvP.listP (F.cx hR).grow Evs.nil) fun c=>?_) ?_ ?_) ?_
  ·exact Evs.cons Ev.cs (Evs.cons Ev.ci Evs.nil)
  ·rintro cs h1 h2 g ⟨c,cs',rfl,⟨a,rfl,n,e⟩,rfl⟩
   exact ⟨_,_,rfl,⟨a,rfl,n,e.grow g⟩,rfl⟩
  ·rintro cs h1 ⟨c,cs',rfl,_,rfl⟩
   show 3<=sizeLine;decide
  ·rintro v h1 ⟨⟨a,cs,e,n,t,c,cs',rfl,⟨b,rfl,nb,eb⟩,rfl⟩,p⟩
   exact ⟨⟨b,⟨⟨fun q=>nb.ne_loc q.symm,nb.old⟩,eb⟩,a,e,t⟩,p⟩
 refine Xs.fact2 (q:=wl≠L/\h.get? wl=none) (fun h p=>p.2.1.1) fun hwl=>?_
 have hS0:∀ cs,Sf [L] (fun h:Heap=>LpAt h wl cs):=fun cs=>LpAt.sf (by simp;exact hwl.1)
 refine Xs.while (σ:=Nat×List (List Nat)×List Nat×(Str->Option Value)) (fun z=>11-z.1) (HdSt a b) (fun z=>ovr (up (up (up (YZ9 ["octets", "many"] ([By o,I 4]++List.map tk0 [])) "words" (.ref wl)) "word" (Sx (sO z.2.2.1))) "at" (I z.1)) ["sign"] z.2.2.2) (fun z h=>LpAt h wl (wdsV z.2.1)) (fun z=>decide (((wdsV z.2.1).length:Int)<4))
  (0,[],[],fun _=>none) ⟨Nat.zero_le _,rfl⟩ (fun h p=>⟨p.1.cong ⟨by repeat (first | exact allN | refine allL rfl ?_),fun _ h=>nomatch h⟩,p.2.1.2⟩) ?_ ?_ ?_
 ·rintro ⟨k,ws,wo,u⟩ hI
  have hR2:Sf [L] (fun h:Heap=>LpAt h wl (wdsV ws)):=hS0 _
  have hl:ws.length<=11:=by
   have h1:=congrArg (fun x=>x.1.length) hI.st
   have h2:=hd_sz (l:=(hdN a b).take k)
   have h3:=hI.le
   simp only [List.length_take,NZj] at h1 h2 h3
   lia
  exact Ist.cm Cm.lt (Ev.lenL (F.cx hR2) (by unfold wdsV;refine sE (List.length_map ..) ?_;show ws.length<_;exact tzN) (bv VZl PyProof.Rows.bootS_len) lv (fun h p=>p.2)) lv
 ·rintro ⟨k,ws,wo,u⟩ hI hlt
  have hR2:Sf [L] (fun h:Heap=>LpAt h wl (wdsV ws)):=hS0 _
  obtain ⟨hk,hst⟩:=hI
  dsimp only at hk hst hlt ⊢
  have hk11:k<11:=by
   rcases Nat.lt_or_ge k 11 with q | q
   ·exact q
   ·rw [List.take_of_length_le (by refine sE NZj ?_;exact q),hd_all ha hb] at hst
    have:ws=_:=congrArg Prod.fst hst
    rw [this] at hlt
    exact absurd hlt (by simp [wdsV])
  have hsz:wo.length+ws.length<=11:=by
   have h2:=hd_sz (l:=(hdN a b).take k)
   rw [<- hst] at h2
   simp only [List.length_take,NZj] at h2
   lia
  generalize hc:(hdN a b).getD k 0=c
  have hgc:o.getD k 0=(c:Int):=by exact sE (hget k hk11) (sE hc rfl)
  have hcr:=hob.getD k
  rw [hgc] at hcr
  refine Xs.iteF (Ist.as (Ist.cm Cm.eq lv (Ev.lenB (F.cx hR2) hz' (bv VZl PyProof.Rows.bootS_len) lv)) (beq_eq_false_iff_ne.mpr (by lia))) ?_
  refine Xs.assignV F hC hWL hR2 (c:=Sx (sO [c])) (Tr.post (Ev.chr (k:=o.getD ((k:Nat):Int).toNat 0) (F.cx hR2) (by refine sE (Int.toNat_natCast ..) (sE hgc ?_);exact hcr.1) (by refine sE (Int.toNat_natCast ..) (sE hgc ?_);exact hcr.2) (bv g_chr PyProof.Rows.bootS_chr) (Ev.itemB (ks:=o) (k:=(k:Int)) hob hz' (by exact Int.natCast_nonneg _) (by lia) lv lv)) fun v h q=>⟨q.1.trans (by rw [Int.toNat_natCast,hgc,Int.toNat_natCast]),q.2⟩) ?_
  refine Xs.assignV F hC hWL hR2 (c:=I ((k+1:Nat):Int)) (Tr.post (Ev.add lv Ev.ci) fun v h q=>⟨q.1.trans (congrArg I (by rfl)),q.2⟩) ?_
  have hstep:hdS ((hdN a b).take (k+1))=VZc (ws,wo) c:=by
   exact sE (take_snoc (by rw [NZj];exact hk11)) (sE hc (sE (hdS_snoc ..) (sF hst rfl)))
  refine Xs.iteZ (τ:=List (List Nat)×List Nat) (h₀:=h) (d:=!inS WS c) (fun x=>x=VZc (ws,wo) c) (fun x=>up (up (up (ovr (up (up (up (YZ9 ["octets", "many"] ([By o,I 4]++List.map tk0 [])) "words" (.ref wl)) "word" (Sx (sO wo))) "at" (I k)) ["sign"] u) "sign" (Sx (sO [c]))) "at" (I ((k+1:Nat):Int))) "word" (Sx (sO x.2))) (fun x h=>LpAt h wl (wdsV x.1)) (Ist.cm (Cm.notInC (x:=WS)) lv Ev.cs) (fun d=>?_) (fun d=>?_) ?_
  ·refine Xs.assignV F hC hWL hR2 (Ev.addS (as:=wo) (bs:=[c]) (by refine sE List.length_singleton ?_;lia) lv lv) (Xs.nil fun h p=>⟨(ws,wo++[c]),?_,p⟩)
   unfold VZc;exact sE (if_pos d) rfl
  ·refine Xs.ite (N1:=fun h'=>∃ x,x=VZc (ws,wo) c/\Pc _ h (up (up (up (ovr (up (up (up (YZ9 ["octets", "many"] ([By o,I 4]++List.map tk0 [])) "words" (.ref wl)) "word" (Sx (sO wo))) "at" (I k)) ["sign"] u) "sign" (Sx (sO [c]))) "at" (I ((k+1:Nat):Int))) "word" (Sx (sO x.2))) (fun h=>LpAt h wl (wdsV x.1)) h') (d:=wo != []) (Ist.as (Ist.cm Cm.neS lv Ev.cs) (by cases wo <;> rfl)) (fun d2=>?_) (fun d2=>?_) (Xs.nil fun h p=>p)
   ·refine Xs.lsApp (a:=wl) (cs:=wdsV ws) (V:=fun v _=>v=Sx (sO wo)) (R':=fun h=>LpAt h wl (wdsV (ws++[wo]))) F hR2 (Off.plain rfl hwl.1 hwl.2) (by rfl) (fun h r=>r) (by unfold wdsV;refine sE (List.length_map ..) (sE sizeLine_eq ?_);lia) lv (fun h h' c sb l e r=>by unfold wdsV at l ⊢;refine sE List.map_append (sE List.map_singleton (sF e ?_));exact l) ?_
    have hR4:Sf [L] (fun h:Heap=>LpAt h wl (wdsV (ws++[wo]))):=hS0 _
    refine Xs.assignV F hC hWL hR4 (c:=Sx (sO [])) Ev.cs (Xs.nil fun h p=>⟨(ws++[wo],[]),?_,p⟩)
    unfold VZc;exact sE (if_neg (by rw [d];decide)) (sE (if_pos d2) rfl)
   ·refine Xs.nil fun h p=>⟨(ws,wo),?_,p.1.cong ⟨by repeat (first | exact allN | refine allL rfl ?_),fun _ h=>nomatch h⟩,p.2⟩
    unfold VZc;exact sE (if_neg (by rw [d];decide)) (sE (if_neg (by rw [d2];decide)) rfl)
  ·rintro ⟨ws',wo'⟩ hx
   refine Xs.turnW (z:=(k,ws,wo,u)) (fun μ=>(k+1,ws',wo',μ)) (by exact sb1) ⟨by show k+1<=11;assumption,by show (ws',wo')=hdS ((hdN a b).take (k+1));refine sE hstep ?_;exact hx⟩ ⟨?_,fun _ h=>nomatch h⟩ fun h r=>r
   repeat (first | exact allN | refine allL rfl ?_)
 ·rintro ⟨k,ws,wo,u⟩ hI hge
  have hR2:Sf [L] (fun h:Heap=>LpAt h wl (wdsV ws)):=hS0 _
  obtain ⟨hk,hst⟩:=hI
  dsimp only at hk hst hge ⊢
  have hfew:∀ k,k<11->(hdS ((hdN a b).take k)).1.length<4:=by
   rcases ha with rfl | rfl <;> rcases hb with rfl | rfl <;> decide +kernel
  have hk11:k=11:=by
   rcases Nat.lt_or_ge k 11 with q | q
   ·have:=hfew k q
    rw [<- hst] at this
    rw [decide_eq_false_iff_not] at hge
    unfold wdsV at hge
    rw [List.length_map] at hge
    dsimp only at this
    lia
   ·lia
  subst hk11
  rw [show (hdN a b).take 11=hdN a b from rfl,hd_all ha hb] at hst
  obtain rfl:ws=_:=congrArg Prod.fst hst
  refine Xs.ret (Ev.tup0 (F.cx hR2).grow (Evs.cons lv (Evs.cons lv Evs.nil)) (by show 2<=sizeLine;decide)) fun v h' q p=>⟨p.1.keep,?_⟩
  refine J1 q fun t e n l=>?_;clear q
  exact ⟨t,wl,e,hwl.2,l,p.2⟩
end
end
section
open PySem.SeqAt
noncomputable def Sq (h:Heap) (b:Addr):Prop:=∃ o,h.get? b=some o/\∃ its n,o.data=.seq its n
theorem LsAt.sq {h:Heap} {a:Addr} {cs:List Value} (x:LsAt h a cs):Sq h a:=by
 refine J0 x fun vs z01 _=>?_;clear x;obtain ⟨n,e⟩:=z01
 exact ⟨_,e,_,_,rfl⟩
theorem TpAt.sq {h:Heap} {a:Addr} {cs:List Value} (x:TpAt h a cs):Sq h a:=by
 refine J0 x fun vs z01 _=>?_;clear x;refine J7 z01 fun o ho _ n hd=>?_;clear z01
 exact ⟨o,ho,_,n,hd⟩
theorem Sq.live {h:Heap} {b:Addr} (x:Sq h b):∃ o,h.get? b=some o:=J0 x fun o e _=>⟨o,e⟩
theorem Lo.ne_sq {env:Env} {h₀ h:Heap} {μ:Str->Option Value} {b:Addr} (lo:Lo env h₀ μ h) (x:Sq h b):b≠env.locals/\∀ y c,env.cells.lookup y=some c->b≠c:=by
 refine J1 lo fun m F _ hc=>?_;clear lo
 refine Jl x fun o ho its n hd=>?_;clear x
 refine ⟨fun q=>?_,fun y c e q=>?_⟩
 ·refine Jc F.ns fun o2 es ep h2 d2 _=>?_
  rw [<- q,ho] at h2;cases h2;rw [hd] at d2;cases d2
 ·refine J0 (hc y c e) fun v z01 _=>?_;refine J0 z01 fun o2 h2 d2=>?_;clear z01
  rw [<- q,ho] at h2;cases h2;rw [hd] at d2;cases d2
theorem Sq.ne_ba {h:Heap} {a b:Addr} {ks:List Int} (x:Sq h b) (y:h.get? a=some (baO ks)):b≠a:=fun q=>by
 refine Jl x fun o ho its n hd=>?_;clear x
 rw [q,y] at ho
 cases ho
 cases hd
theorem NZ5 {c g:List Int} (hc:InB c) (hg:InB g) (i:Nat):0<=XZv c g i/\XZv c g i<256:=by
 have h1:=hc.getD i
 have h2:=hg.getD i
 have h3:=hc.getD 3
 have h4:0<=2*g.getD i 0*(255-c.getD 3 0):=Int.mul_nonneg (by lia) (by lia)
 have h5:0<=(2*g.getD i 0*(255-c.getD 3 0)+255).fdiv (2*255):=Int.fdiv_nonneg (by lia) (by decide)
 unfold XZv minZ
 split <;> omega
theorem UZ8 {c g:List Int} (hc:InB c) (hg:InB g):InB (YZl c g):=by
 intro k hk
 simp only [YZl,List.mem_cons,List.not_mem_nil,or_false] at hk
 rcases hk with rfl | rfl | rfl <;> exact NZ5 hc hg _
theorem UZm (c g:List Int):(YZl c g).length=3:=rfl
noncomputable abbrev Yr:=Addr×List Addr×List (List Addr)
noncomputable def adrs (y:Yr):List Addr:=y.1::(y.2.1++y.2.2.flatten)
noncomputable def RowsE (rs:List (List (List Int))) (y:Yr) (h:Heap):Prop :=
 (y.2.1.length=rs.length/\y.2.2.length=rs.length)/\LsAt h y.1 (y.2.1.map Value.ref)/\∀ i,i<rs.length->RowX h (y.2.1.getD i 0) (y.2.2.getD i []) (rs.getD i [])
theorem VZs {α:Type} {l:List α} {x:α} (h:x∈l) (d:α):∃ i,i<l.length/\l.getD i d=x:=by
 obtain ⟨i,hi,rfl⟩:=List.getElem_of_mem h
 exact ⟨i,hi,by refine sE List.getD_eq_getElem?_getD (sE (List.getElem?_eq_getElem hi) ?_);rfl⟩
theorem RowX.sqs {h:Heap} {a:Addr} {bs:List Addr} {cols:List (List Int)} (x:RowX h a bs cols):Sq h a/\∀ b∈bs,Sq h b :=
 ⟨x.1.sq,fun b hb=>by
  refine J0 (VZs hb 0) ?_;rintro i hi rfl
  exact (x.2.2 i (by refine sF x.2.1 ?_;exact hi)).sq⟩
theorem RowsE.sqs {rs:List (List (List Int))} {y:Yr} {h:Heap} (x:RowsE rs y h):∀ b∈adrs y,Sq h b:=fun b hb=>by
 refine J3 x ?_;clear x;rintro ⟨l1,l2⟩ l r
 rcases mC hb with rfl | hb
 ·exact l.sq
 rcases mA hb with hb | hb
 ·refine J0 (VZs hb 0) ?_;rintro i hi rfl
  exact (r i (by lia)).sqs.1
 ·refine J0 (List.mem_flatten.mp hb) fun bs hbs hb=>?_
  refine J0 (VZs hbs []) ?_;rintro i hi rfl
  exact (r i (by lia)).sqs.2 b hb
theorem RowsE.live {rs:List (List (List Int))} {y:Yr} {h:Heap} (x:RowsE rs y h):∀ b∈adrs y,∃ o,h.get? b=some o:=fun b hb=>(x.sqs b hb).live
theorem VZ7 {y:Yr}:y.1∈adrs y/\(∀ i,i<y.2.1.length->y.2.1.getD i 0∈adrs y)/\∀ i,i<y.2.2.length->∀ b∈y.2.2.getD i [],b∈adrs y :=
 ⟨List.mem_cons_self ..,fun i hi=>List.mem_cons_of_mem _ (List.mem_append_left _ (YZr hi)),fun i hi b hb=>List.mem_cons_of_mem _ (List.mem_append_right _ (List.mem_flatten.mpr ⟨_,YZr hi,hb⟩))⟩
theorem RowsE.sf {W:List Addr} {rs:List (List (List Int))} {y:Yr} (hW:∀ b∈adrs y,b∉W):Sf W (RowsE rs y):=fun h h' k x=>by
 refine J3 x ?_;clear x;rintro ⟨l1,l2⟩ l r
 refine ⟨⟨l1,l2⟩,LsAt.sf (hW _ VZ7.1) _ _ k l,fun i hi=>RowX.sf (hW _ (VZ7.2.1 i (by lia))) (fun b hb=>hW _ (VZ7.2.2 i (by lia) b hb)) _ _ k (r i hi)⟩
theorem RowsE.grow {rs:List (List (List Int))} {y:Yr} {h h':Heap} (g:Grows h h') (x:RowsE rs y h):RowsE rs y h':=(RowsE.sf (W:=[]) fun b _=>List.not_mem_nil).grow g x
theorem RowsE.at {rs:List (List (List Int))} {y:Yr} {h:Heap} (x:RowsE rs y h):RowsAt h y.1 rs:=⟨y.2.1,x.2.1,x.1.1,fun i hi=>(x.2.2 i hi).row⟩
theorem pick_list {n:Nat} {q:Nat->List Addr->Prop} (h:∀ i,i<n->∃ bs,q i bs):∃ l:List (List Addr),l.length=n/\∀ i,i<n->q i (l.getD i []):=by
 induction n with
 | zero=>exact ⟨[],rfl,fun i hi=>absurd hi (Nat.not_lt_zero _)⟩
 | succ n ih =>
  refine J0 (ih fun i hi=>h i (by lia)) fun l hl hq=>?_
  obtain ⟨bs,hb⟩:=h n (by lia)
  refine ⟨l++[bs],by refine sE List.length_append (sE hl ?_);rfl,fun i hi=>?_⟩
  by_cases e:i<n
  ·refine sE List.getD_eq_getElem?_getD (sE (List.getElem?_append_left (by lia)) (sF List.getD_eq_getElem?_getD ?_));exact hq i e
  ·obtain rfl:i=n:=by lia
   refine sE List.getD_eq_getElem?_getD (sE (List.getElem?_append_right (by lia)) (sE hl (sE (Nat.sub_self ..) ?_)));exact hb
theorem RowsAt.told {h:Heap} {a:Addr} {rs:List (List (List Int))} (x:RowsAt h a rs):∃ y:Yr,y.1=a/\RowsE rs y h:=by
 refine J1 x fun as l e r=>?_;clear x
 obtain ⟨bss,hl,hq⟩:=pick_list (q:=fun i bs=>RowX h (as.getD i 0) bs (rs.getD i [])) (n:=rs.length) fun i hi=>by
  refine J1 (r i hi) fun bs a1 a2 a3=>?_
  exact ⟨bs,a1,a2,a3⟩
 exact ⟨(a,as,bss),rfl,⟨e,hl⟩,l,hq⟩
theorem New.off_all {P:HP} {W l:List Addr} (hW:∀ b∈W,New P b) (hl:∀ h,P h->∀ b∈l,∃ o,h.get? b=some o):∀ b∈l,b∉W:=fun b hb=>New.of_live hW fun h p=>hl h p b hb
end
section
open PySem.SeqAt
noncomputable def rowG (g:List Int) (row:List (List Int)):List Int:=(row.map fun c=>YZl c g).flatten
noncomputable def DZj (g:List Int) (rs:List (List (List Int))):List Int:=(rs.map (rowG g)).flatten
noncomputable def ppmZ (wd:Nat) (rs:List (List (List Int))) (g:List Int):List Int:=nmZ (hdN wd rs.length)++DZj g rs
theorem NZi {α:Type} (f:α->List Int) {l:List α} {i:Nat} (d:α) (hi:i<l.length):((l.take (i+1)).map f).flatten=((l.take i).map f).flatten++f (l.getD i d):=by
 have e:l.take (i+1)=l.take i++[l.getD i d]:=by
  refine sE List.take_succ (sE List.getD_eq_getElem?_getD (sE (List.getElem?_eq_getElem hi) ?_));rfl
 refine sE e (sE List.map_append (sE List.flatten_append ?_))
 simp
theorem DZk (g:List Int) (row:List (List Int)):(rowG g row).length=3*row.length:=by
 induction row with
 | nil=>rfl
 | cons c r ih =>
  show (YZl c g++rowG g r).length=_
  refine sE List.length_append (sE ih (sE (UZm ..) (sE List.length_cons ?_)));lia
theorem rowG_in {g:List Int} {row:List (List Int)} (hg:InB g) (h:∀ c∈row,VZg c):InB (rowG g row):=by
 induction row with
 | nil=>exact InB.nil
 | cons c r ih=>exact (UZ8 (h c (List.mem_cons_self ..)).2 hg).app (ih fun c hc=>h c (List.mem_cons_of_mem _ hc))
theorem GZ3 {g:List Int} {rs:List (List (List Int))} {wd:Nat} (h:∀ r∈rs,r.length=wd):(DZj g rs).length=rs.length*(3*wd):=by
 induction rs with
 | nil=>exact (Nat.zero_mul _).symm
 | cons c r ih =>
  show (rowG g c++DZj g r).length=_
  refine sE List.length_append (sE (ih fun x hx=>h x (List.mem_cons_of_mem _ hx)) (sE (DZk ..) (sE (h c (List.mem_cons_self ..)) (sE List.length_cons ?_))))
  have:(r.length+1)*(3*wd)=r.length*(3*wd)+3*wd:=Nat.succ_mul _ _
  lia
theorem rowsG_in {g:List Int} {rs:List (List (List Int))} (hg:InB g) (h:∀ r∈rs,∀ c∈r,VZg c):InB (DZj g rs):=by
 induction rs with
 | nil=>exact InB.nil
 | cons c r ih=>exact (rowG_in hg (h c (List.mem_cons_self ..))).app (ih fun c hc=>h c (List.mem_cons_of_mem _ hc))
section
variable {prog:Program} {w:World}
theorem HZs {x ca ga:Addr} {own:List (Str×Value)} {no:List Str} {wd:Nat} {rs:List (List (List Int))} {g:List Int} (hmw:(("width" : Str),I wd)∈own) (hmh:(("height" : Str),I rs.length)∈own) (hmc:(("cells" : Str),Value.ref ca)∈own) (hno:("rows" : Str)∈no)
  (hc:∀ r∈rs,∀ c∈r,VZg c) (hw:∀ r∈rs,r.length=wd) (hwz:wd<=2) (hrz:rs.length<=2) (hg:g.length=3) (hgb:InB g) :
  Fn prog w (KK w.params) 190 5 [.ref x,.ref ga] (fun h=>ObAt 319 h x own no/\RowsAt h ca rs/\TpAt h ga (g.map I)) (fun v _ _=>v=By (ppmZ wd rs g)):=by
 refine Fn.mk ["canvas", "ground"] [] (by exact rfl) (by kernel_rfl) (fun s args G h=>ar2 args h fun _ _=>kp_binds G.inK (fun S=>rfl)) (fun h L A G hpre hL hA F hC=>?_)
 have hR:Sf [L] (fun _=>True):=Sf.const
 have hWL:L∈[L]:=List.Mem.head _
 refine J3 hpre fun hob hrows hga=>?_;clear hpre
 have hasc:Asc (hdN wd rs.length):=BZm (by exact tdN) (by exact tdN)
 refine Xs.assignV F hC hWL hR (c:=Sx (sO (hdN wd rs.length))) (Ev.addS (as:=[80,54,10,48+wd,32,48+rs.length]) (bs:=[10,50,53,53,10]) (by show 6+5<=1000000;decide) (Ev.addS (as:=[80,54,10,48+wd,32]) (bs:=[48+rs.length]) (by show 5+1<=1000000;decide) (Ev.addS (as:=[80,54,10,48+wd]) (bs:=[32]) (by show 4+1<=1000000;decide) (Ev.addS (as:=[80,54,10]) (bs:=[48+wd]) (by show 3+1<=1000000;decide) Ev.cs
   (Ev.strD (n:=wd) (F.cx hR) (by exact tzN) (bv g_str PyProof.Rows.boot_str) (Ev.attr (F.cx hR) lv (fun h p=>hob.grow p.1.keep) hmw (fun v e=>by refine tkI e fun t=>?_;rfl) UZa XZl UZb YZw))) Ev.cs)
   (Ev.strD (n:=rs.length) (F.cx hR) (by exact tzN) (bv g_str PyProof.Rows.boot_str) (Ev.attr (F.cx hR) lv (fun h p=>hob.grow p.1.keep) hmh (fun v e=>by refine tkI e fun t=>?_;rfl) UZp XZl UZq YZw))) Ev.cs) ?_
 refine Xs.assignN F hC hR (EvP.baL (ls:=nmZ (hdN wd rs.length)) (F.cx hR) (GZ4 hasc) (by show 11<=sizeLine;decide) (bv XZk BF.boot_bytearray) (Tr.post (EvP.comp1 (xs:=(hdN wd rs.length).map fun c=>Sx (sO [c])) (cl:=[]) (c:=Sx (sO (hdN wd rs.length))) F
  ⟨by rfl,fun _=>by rfl,by decide,by rfl,by decide,fun _ _ h=>(nomatch h),fun _ _ h=>(nomatch h)⟩ hC lv (fun v h q p=>by
   refine tkS q fun t=>?_
   exact Src.str hA.handled hasc) (fun _ _ e=>nomatch e) (by show 11<=sizeLine;decide) (fun W hW=>Sf.const) (fun i=>I (((hdN wd rs.length).getD i 0:Nat):Int)) ?_) ?_)) (fun a n=>Sf.at (fun q=>n.ne_loc (mS q).symm)) (fun f n=>?_)
 ·intro i B C hn' hF hi hB hB2
  rw [List.length_map] at hi
  have e:((hdN wd rs.length).map fun c=>Sx (sO [c])).getD i .none=Sx (sO [(hdN wd rs.length).getD i 0]):=by
   refine sE List.getD_eq_getElem?_getD (sE List.getElem?_map (sE (List.getElem?_eq_getElem hi) (sE List.getD_eq_getElem?_getD (sE (List.getElem?_eq_getElem hi) ?_))));rfl
  refine sE e ?_
  exact Ev.ord (hF.cx hB) (bv g_ord PyProof.Rows.boot_ord) lv
 ·intro v h q
  obtain ⟨⟨D,e,_,l⟩,p⟩:=q
  exact ⟨⟨D,e,l⟩,p⟩
 have hS0:∀ ks,Sf [L] (fun h:Heap=>h.get? f=some (baO ks)):=fun ks=>Sf.at (fun q=>n.ne_loc (mS q).symm)
 have hR1:Sf [L] (fun h:Heap=>h.get? f=some (baO (nmZ (hdN wd rs.length)))/\True):=Sf.and (hS0 _) Sf.const
 refine Xs.forZ2 (Y:=Yr) (σ:=Unit) (V:=fun y c h=>c=.ref y.1/\RowsE rs y h/\(L∉adrs y/\f∉adrs y)) F hC [L,f] (fun h p=>allL p.1.loc_in (allL ⟨_,p.2.1⟩ allN))
  (Tr.post (EvP.meth0 (F.cx hR1) (fn_rows hmc (by exact tdN) (fun r hr=>by refine sE (hw r hr) ?_;exact tdN)) (hA.mono (by decide)) lv (fun h p=>hob.grow p.1.keep) hno (fun h p=>⟨hob.grow p.1.keep,hrows.grow p.1.keep⟩) HZ1 HZ3 (by kernel_rfl) (by kernel_rfl)) fun v h q=>⟨?_,q.2⟩)
  (fun y=>(y.2.1.map Value.ref).length) (fun env=>env.kindOf "row" = some .local) ["row"] ["colour"] (fun y i μ=>up μ "row" ((y.2.1.map Value.ref).getD i .none)) (fun y=>[y.1])
  (fun y v h q p=>?_) (fun y c h q p b hb=>?_) rfl (fun y i _=>up (up (YZ9 ["canvas", "ground"] ([.ref x,.ref ga]++List.map tk0 [])) "head" (Sx (sO (hdN wd rs.length)))) "found" (.ref f))
  (fun y W i _ h=>(L∉adrs y/\f∉adrs y)/\RowsE rs y h/\h.get? f=some (baO (nmZ (hdN wd rs.length)++((rs.take i).map (rowG g)).flatten)))
  (fun y W hW i z=>Sf.and Sf.const (Sf.and (RowsE.sf (New.off_all hW fun h p=>Jb p.1 fun _ q=>q.2.1.live)) (Sf.at (New.of_live hW fun h p=>⟨_,p.2.2.1⟩)))) (fun y W i z=>?_) (fun h h' g p=>⟨g _ _ p.1,trivial⟩) (fun _=>()) (fun y c h h' q g p W hW=>⟨q.2.2,q.2.1.grow g,by refine sE (show ((rs.take 0).map (rowG _)).flatten=[] from rfl) (sE (List.append_nil ..) ?_);exact p.1⟩) (fun y=>⟨_,by refine sE (YZv ..) ?_;exact ⟨fun _ _=>rfl,fun _ _=>rfl⟩⟩) ?_ ?_
 ·refine Jg q.1 fun h1 p1 _ a e _ r=>?_
  refine J0 r.told ?_;rintro y rfl re
  exact ⟨y,e,re,fun q2=>((q.2.1.ne_sq (re.sqs _ q2)).1 rfl),fun q2=>(re.sqs _ q2).ne_ba q.2.2.1 rfl⟩
 ·have e:=q.1
  exact SrcW.nm (xs:=y.2.1.map Value.ref) (c:=.ref y.1) (by refine sE (YZh e) ?_;exact Src.list hA.handled q.2.1.2.1) ⟨⟨_,q⟩,p⟩ e (fun b e=>by cases e;exact q.2.1.2.1.live)
 ·refine sE (mS hb) ?_
  have m:=(VZ7 (y:=y)).1
  exact ⟨by simp;exact ⟨fun e=>q.2.2.1 (e▸m),fun e=>q.2.2.2 (e▸m)⟩,fun (e:y.1=L)=>q.2.2.1 (e▸m)⟩
 ·intro h1 h2 k q
  exact ⟨q.1,RowsE.sf (fun b hb e=>q.1.1 ((mS e:b=L)▸hb)) _ _ k q.2.1,hS0 _ _ _ k q.2.2⟩
 ·intro y W hW i _ S u hi hS hlv hst
  rw [List.length_map] at hi
  refine Xs.fact2 (q:=(L∉adrs y/\f∉adrs y)/\(y.2.1.length=rs.length/\y.2.2.length=rs.length)) (fun h p=>⟨p.2.1.1,p.2.1.2.1.1⟩) fun hy=>?_
  refine J3 hy ?_;clear hy;rintro ⟨hyL,hyf⟩ hy1 hy2
  have hi':i<rs.length:=by lia
  have hrl:(rs.getD i []).length=wd:=hw _ (YZr hi')
  have hrc:∀ c∈rs.getD i [],VZg c:=hc _ (YZr hi')
  refine sE (XZh hi) ?_
  generalize hbs:y.2.2.getD i []=bs
  have hra:y.2.1.getD i 0∈adrs y:=VZ7.2.1 i hi
  have hrb:∀ b∈bs,b∈adrs y:=fun b hb=>VZ7.2.2 i (by lia) b (hbs▸hb)
  generalize hrad:y.2.1.getD i 0=ra at *
  have hrow:∀ h,RowsE rs y h->RowX h ra bs (rs.getD i []):=fun h r=>by have:=r.2.2 i hi';rw [hbs,hrad] at this;exact this
  have hneL:∀ b∈adrs y,b∉[L]:=fun b hb e=>hyL (by refine sF (mS e) ?_;exact hb)
  have hSL:Sf [L] S:=hS.mono fun b hb=>by refine sE (mS hb) ?_;exact List.mem_cons_self ..
  have hRR:∀ ks,Sf [L] (fun h:Heap=>((L∉adrs y/\f∉adrs y)/\RowsE rs y h/\h.get? f=some (baO ks))/\S h):=fun ks=>Sf.and (Sf.and Sf.const (Sf.and (RowsE.sf hneL) (hS0 _))) hSL
  refine Xs.fact2 (q:=bs.length=wd) (fun h p=>(hrow h p.2.1.2.1).2.1.trans hrl) fun hbl=>?_
  refine Xs.forN (σ:=Unit) (xs:=bs.map Value.ref) (c:=.ref ra) F hC [L,f] (fun h p=>allL p.1.loc_in (allL ⟨_,p.2.1.2.2⟩ allN)) (lv (hR:=hRR _)) (fun v h q p=>by refine sE (YZh q) ?_;exact Src.list hA.handled (hrow h p.2.1.2.1).1) (fun b h e p=>by
    cases e
    exact ⟨(hrow h p.2.1.2.1).1.live,by simp;exact ⟨fun e=>hyL (e▸hra),fun e=>hyf (e▸hra)⟩,fun (e:ra=L)=>hyL (e▸hra)⟩) [] (fun j _=>up (ovr (up (up (YZ9 ["canvas", "ground"] ([.ref x,.ref ga]++List.map tk0 [])) "head" (Sx (sO (hdN wd rs.length)))) "found" (.ref f)) ["colour"] u) "row" (.ref ra))
   (fun W' j _ h=>((L∉adrs y/\f∉adrs y)/\RowsE rs y h/\h.get? f=some (baO (nmZ (hdN wd rs.length)++((rs.take i).map (rowG g)).flatten++(((rs.getD i []).take j).map fun c=>YZl c g).flatten)))/\S h)
   (fun W' hW' j z=>Sf.and (Sf.and Sf.const (Sf.and (RowsE.sf (New.off_all hW' fun h p=>p.2.1.2.1.live)) (Sf.at (New.of_live hW' fun h p=>⟨_,p.2.1.2.2⟩)))) (hst W' fun b hb=>.inr (J0 (hW' b hb) fun h p e=>⟨h,p.2.2,e⟩))) (fun W' j z=>hRR _) (fun h h' g p=>(hRR _).grow g p) () (fun h p W hW=>⟨⟨p.1.1,p.1.2.1,by refine sE (show (((rs.getD i []).take 0).map fun c=>YZl c _).flatten=[] from rfl) (sE (List.append_nil ..) ?_);exact p.1.2.2⟩,p.2⟩) ⟨_,by refine sE (YZv ..) ?_;exact ⟨fun _ _=>rfl,fun _ _=>rfl⟩⟩ ?_ ?_
  ·intro W' hW' j _ S' u' hj hS' hlv' hst'
   rw [List.length_map] at hj
   refine sE (XZh hj) ?_
   have hj':j<(rs.getD i []).length:=by lia
   have hcj:VZg ((rs.getD i []).getD j []):=hrc _ (YZr hj')
   have hR3:Sf [L] (fun h:Heap=>(((L∉adrs y/\f∉adrs y)/\RowsE rs y h/\h.get? f=some (baO (nmZ (hdN wd rs.length)++((rs.take i).map (rowG g)).flatten++(((rs.getD i []).take j).map fun c=>YZl c g).flatten)))/\S h)/\S' h):=Sf.and (hRR _) (hS'.mono fun b hb=>by refine sE (mS hb) ?_;exact List.mem_cons_self ..)
   have hbj:∀ h,RowsE rs y h->TpAt h (bs.getD j 0) (((rs.getD i []).getD j []).map I):=fun h r=>(hrow h r).2.2 j hj'
   refine Xs.baExtL (a:=f) (ks:=nmZ (hdN wd rs.length)++((rs.take i).map (rowG g)).flatten++(((rs.getD i []).take j).map fun c=>YZl c g).flatten) (ls:=YZl ((rs.getD i []).getD j []) g) (R':=fun h=>(((L∉adrs y/\f∉adrs y)/\RowsE rs y h/\h.get? f=some (baO (nmZ (hdN wd rs.length)++((rs.take i).map (rowG g)).flatten++(((rs.getD i []).take (j+1)).map fun c=>YZl c g).flatten)))/\S h)/\S' h) F hC hA.handled hR3 n.off (by rfl) (fun h r=>r.1.1.2.2) (UZ8 hcj.2 hgb) ?_
    (Tr.post (EvP.callN (F.cx hR3) (HZx hcj.1 hg hcj.2 hgb) (hA.mono (by decide)) (gv BZr) (Evs.cons lv (Evs.cons lv Evs.nil)) (fun h p=>⟨hbj h p.2.1.1.2.1,hga.grow p.1.keep⟩) (by kernel_rfl)) fun v h q=>⟨?_,q.2⟩) (fun h h' kk gg r=>?_) ?_
   ·have e1:((rs.take i).map (rowG g)).flatten.length<=12:=by
     have:=GZ3 (g:=g) (rs:=rs.take i) (wd:=wd) fun r hr=>hw r (List.mem_of_mem_take hr)
     unfold DZj at this
     refine sE this (sE List.length_take ?_)
     have:min i rs.length*(3*wd)<=2*6:=Nat.mul_le_mul (by lia) (by lia)
     omega
    have e2:((((rs.getD i []).take j).map fun c=>YZl c g).flatten).length<=6:=by
     have:=DZk g ((rs.getD i []).take j)
     unfold rowG at this
     refine sE this (sE List.length_take ?_);lia
    refine sE List.length_append (sE List.length_append (sE (UZm ..) (sE (show (nmZ (hdN wd rs.length)).length=11 from rfl) (sE sizeLine_eq ?_))));lia
   ·refine J1 q.1 fun t e nt l=>?_
    exact ⟨t,e,fun z=>l.sq.ne_ba q.2.2.1.1.2.2 z,.inl l⟩
   ·refine ⟨⟨⟨r.1.1.1,RowsE.sf (W:=[f]) (fun b hb e=>hyf (by refine sF (mS e) ?_;exact hb)) _ _ (fun b o hb e=>kk b o (fun q=>hb (by simp [q])) e) r.1.1.2.1,?_⟩,hS _ _ (fun b o hb e=>kk b o (fun q=>hb (by simp [q])) e) r.1.2⟩,hS' _ _ (fun b o hb e=>kk b o (fun q=>hb (by simp [q])) e) r.2⟩
    refine sE (NZi (fun c=>YZl c g) [] hj') (sF (List.append_assoc ..) ?_);exact gg
   ·exact Xs.turnZ () ⟨by repeat (first | exact allN | refine allL rfl ?_),fun _ h=>nomatch h⟩ fun h r=>r
  ·intro W' hW' u' _
   refine Xs.turnZ () ⟨by repeat (first | exact allN | refine allL rfl ?_),fun _ h=>nomatch h⟩ fun h r=>⟨⟨r.1.1,r.1.2.1,?_⟩,r.2⟩
   have e3:=r.1.2.2
   rw [List.length_map,List.take_of_length_le (l:=rs.getD i []) (by lia),List.append_assoc] at e3
   refine sE (NZi (rowG g) [] hi') ?_
   exact e3
 ·intro y W hW u _
  refine Xs.fact2 (q:=(L∉adrs y/\f∉adrs y)/\(y.2.1.length=rs.length/\y.2.2.length=rs.length)) (fun h p=>⟨p.2.1,p.2.2.1.1⟩) fun hy=>?_
  refine Xs.pre (P:=Pc _ h _ (fun h:Heap=>h.get? f=some (baO (ppmZ wd rs g)))) ?_ (fun h p=>⟨p.1,by have:=p.2.2.2;rw [List.length_map,hy.2.1,List.take_of_length_le (Nat.le_refl _)] at this;exact this⟩)
  have hR2:=hS0 (ppmZ wd rs g)
  refine Xs.retV (Ev.bytesA (ks:=ppmZ wd rs g) ?_ (bv XZj PyProof.Rows.boot_bytes) lv fun h p=>p.2) fun h p=>⟨p.1.keep,rfl⟩
  unfold ppmZ
  refine sE List.length_append (sE (GZ3 hw) (sE (show (nmZ (hdN wd rs.length)).length=11 from rfl) (sE sizeLine_eq ?_)))
  have:rs.length*(3*wd)<=2*6:=Nat.mul_le_mul (by omega) (by lia)
  lia
end
end
section
open PySem.SeqAt
theorem DZu {n:Nat}:∀ {l:List (List Int)} (h:∀ x∈l,x.length=n) {i:Nat} (hi:i<l.length),(l.flatten.drop (n*i)).take n=l.getD i []
 | [],_,i,hi=>absurd hi (Nat.not_lt_zero _)
 | x::l,h,0,_=>by
  refine sE (Nat.mul_zero ..) (sE List.drop_zero (sE List.flatten_cons (sE (List.take_append_of_le_length (by rw [h x (List.mem_cons_self ..)];exact Nat.le_refl _)) (sE (List.take_of_length_le (by rw [h x (List.mem_cons_self ..)];exact Nat.le_refl _)) ?_))));rfl
 | x::l,h,i+1,hi=>by
  have hx:=h x (List.mem_cons_self ..)
  have ih:=DZu (l:=l) (fun y hy=>h y (List.mem_cons_of_mem _ hy)) (i:=i) (by rw [List.length_cons] at hi;exact svN)
  have e:n*(i+1)=x.length+n*i:=by exact sE hx (sE (Nat.mul_succ ..) (sE (Nat.add_comm ..) rfl))
  refine sE List.flatten_cons (sE e (sE List.drop_append (sE (List.drop_of_length_le (by exact Nat.le_add_right _ _)) (sE (List.nil_append ..) (sE (Nat.add_sub_cancel_left ..) (sE ih ?_))))));rfl
theorem take_in {l:List Int} {a m k n:Nat} (h:k+n<=m):(((l.drop a).take m).drop k).take n=(l.drop (a+k)).take n:=by
 exact sE List.drop_take (sE List.take_take (sE List.drop_drop (sE (Nat.min_eq_left (by lia)) rfl)))
theorem ppm_at {wd:Nat} {rs:List (List (List Int))} {g:List Int} (hw:∀ r∈rs,r.length=wd) {i j:Nat} (hi:i<rs.length) (hj:j<wd) :
  ((ppmZ wd rs g).drop (11+3*wd*i+3*j)).take 3=YZl ((rs.getD i []).getD j []) g:=by
 have h11:(nmZ (hdN wd rs.length)).length=11:=rfl
 have hl:(rs.getD i []).length=wd:=hw _ (YZr hi)
 have e1:((DZj g rs).drop (3*wd*i)).take (3*wd)=rowG g (rs.getD i []):=by
  have:=DZu (n:=3*wd) (l:=rs.map (rowG g)) (fun x hx=>by
   refine J0 (List.mem_map.mp hx) ?_;rintro r hr rfl
   exact sE (DZk ..) (sE (hw r hr) rfl)) (i:=i) (by refine sE (List.length_map ..) ?_;exact hi)
  unfold DZj
  refine sE this (sE List.getD_eq_getElem?_getD (sE List.getElem?_map (sE List.getD_eq_getElem?_getD (sE (List.getElem?_eq_getElem hi) ?_))));rfl
 have e2:((rowG g (rs.getD i [])).drop (3*j)).take 3=YZl ((rs.getD i []).getD j []) g:=by
  have:=DZu (n:=3) (l:=(rs.getD i []).map fun c=>YZl c g) (fun x hx=>by
   refine J0 (List.mem_map.mp hx) ?_;rintro r hr rfl
   rfl) (i:=j) (by refine sE (List.length_map ..) ?_;lia)
  unfold rowG
  refine sE this (sE List.getD_eq_getElem?_getD (sE List.getElem?_map (sE (List.getD_eq_getElem?_getD (l:=rs.getD i [])) (sE (List.getElem?_eq_getElem (by lia)) ?_))));rfl
 refine sF e2 (sF e1 (sE (take_in (by lia)) ?_))
 unfold ppmZ
 exact sE (show 11+3*wd*i+3*j=(nmZ (hdN wd rs.length)).length+(3*wd*i+3*j) by rw [h11];lia) (sE List.drop_append (sE (List.drop_of_length_le (by exact Nat.le_add_right _ _)) (sE (List.nil_append ..) (sE (Nat.add_sub_cancel_left ..) rfl))))
section
variable {prog:Program} {w:World}
theorem BZy {wd:Nat} {rs:List (List (List Int))} {g:List Int} (hc:∀ r∈rs,∀ c∈r,VZg c) (hw:∀ r∈rs,r.length=wd) (hwz:wd=1∨wd=2) (hrz:rs.length=1∨rs.length=2) (hg:g.length=3) (hgb:InB g) :
  Fn prog w (KK w.params) 207 14 [By (ppmZ wd rs g)] (fun _=>True) (fun v h h'=>∃ t,v=.ref t/\h.get? t=none/\∃ r,TpAt h' t [I wd,I rs.length,.ref r]/\RowsAt h' r (rs.map fun row=>row.map fun c=>YZl c g)):=by
 refine Fn.mkC ["octets"] [] (by exact rfl) (by kernel_rfl) (fun s args _ h=>ar1 args h fun _=>BindsTo.of_eq rfl) (fun h L A G _ hL hA F ce=>?_) ?_ ?_ ?_
 ·have hR:Sf [L,L+1,L+2] (fun _=>True):=Sf.const
  have hWL:L∈[L,L+1,L+2]:=List.Mem.head _
  have hbody:=rowsG_in (rs:=rs) hgb hc
  have hbl:=GZ3 (g:=g) hw
  have hbz:rs.length*(3*wd)<=2*6:=Nat.mul_le_mul (by lia) (by lia)
  have hasc:Asc (hdN wd rs.length):=BZm (by omega) (by lia)
  have hob:InB (ppmZ wd rs g):=(GZ4 hasc).app hbody
  have hol:(ppmZ wd rs g).length=11+rs.length*(3*wd):=by unfold ppmZ;refine sE List.length_append (sE hbl ?_);rfl
  have hz':(ppmZ wd rs g).length<=16777216:=by lia
  have hsl:∀ {i j:Nat},i<rs.length->j<wd->((ppmZ wd rs g).drop (11+3*wd*i+3*j)).take 3=YZl ((rs.getD i []).getD j []) g:=fun hi hj=>ppm_at hw hi hj
  have hrd:=HZw (prog:=prog) (w:=w) (rest:=DZj g rs) hwz hrz hbody (by lia)
  rw [show nmZ (hdN wd rs.length)++DZj g rs=ppmZ wd rs g from rfl] at hrd
  generalize hoe:ppmZ wd rs g=o at *
  refine Xs.unp (W:=[L,L+1,L+2]) (Y:=Addr) (V:=fun wl h'=>(wl∉[L,L+1,L+2])/\LsAt h' wl (wdsV [[80,54],[48+wd],[48+rs.length],[50,53,53]])) (cs:=fun wl=>[.ref wl,I 11]) hA.handled (allL ⟨⟨_,_,rfl⟩,St1.loc F ce.cl hWL⟩ (allL ⟨⟨_,_,rfl⟩,St1.loc F ce.cl hWL⟩ allN)) hR (fun wl=>fun h1 h2 k q=>⟨q.1,LsAt.sf q.1 _ _ k q.2⟩)
   (Tr.post (EvP.call (F.cx hR) hrd (hA.mono (by decide)) (gv BZq) (Evs.cons (cv (L+1)) (Evs.cons Ev.ci Evs.nil)) (fun _ _=>trivial) (by kernel_rfl)) fun v h' q=>⟨?_,q.2⟩) (fun _=>rfl) (fun wl=>?_)
  ·obtain ⟨h1,p1,g1,t,wl,e,n,tp,ls⟩:=q.1
   have ns:=q.2.1.ne_sq ls.sq
   refine ⟨wl,⟨?_,ls⟩,t,e,tp⟩
   simp only [List.mem_cons,List.not_mem_nil,or_false,not_or]
   exact ⟨ns.1,ns.2 "octets" (L+1) rfl,ns.2 "begin" (L+2) rfl⟩
  refine Xs.fact2 (q:=wl∉[L,L+1,L+2]) (fun h p=>p.2.1.1) fun hwl=>?_
  refine Xs.pre (P:=Pc _ h _ (fun h'=>LsAt h' wl (wdsV [[80,54],[48+wd],[48+rs.length],[50,53,53]]))) ?_ (fun h p=>⟨p.1,p.2.1.2⟩)
  have hR1:Sf [L,L+1,L+2] (fun h':Heap=>LsAt h' wl (wdsV [[80,54],[48+wd],[48+rs.length],[50,53,53]])):=LsAt.sf hwl
  refine Xs.iteF (Ist.as (Ist.bop (All.orC (Ist.cm (Cm.neS (x:=sO [80,54])) (Ev.itemL (a:=wl) (k:=0) (cs:=wdsV [[80,54],[48+wd],[48+rs.length],[50,53,53]]) lv Ev.ci (fun h p=>p.2) (by decide) (by show (0:Int)<4;decide) (by show 4<=16777216;decide) rfl) Ev.cs) fun _=>All.orC (Ist.cm (Cm.neS (x:=sO [50,53,53])) (Ev.itemL (a:=wl) (k:=3) (cs:=wdsV [[80,54],[48+wd],[48+rs.length],[50,53,53]]) lv Ev.ci (fun h p=>p.2) (by decide) (by show (3:Int)<4;decide) (by show 4<=16777216;decide) rfl) Ev.cs) fun _=>All.orN)) (by decide +kernel)) ?_
  refine Xs.swp (W:=[L,L+1,L+2]) (Y:=Unit) (ns:=["width", "height"]) (V:=fun _ _=>True) (cs:=fun _=>[I wd,I rs.length]) hA.handled (fun n hn=>?_) hR1 (fun _=>Sf.const) (Tr.post (Ev.tup0 (F.cx hR1).grow (Evs.cons
    (Ev.call (F.cx hR1) (KZ2 hwz) (hA.mono (by decide)) (gv HZl) (Evs.cons (Ev.itemL (a:=wl) (k:=1) (c:=Sx (sO [48+wd])) (cs:=wdsV [[80,54],[48+wd],[48+rs.length],[50,53,53]]) lv Ev.ci (fun h p=>p.2) (by decide) (by show (1:Int)<4;decide) (by show 4<=16777216;decide) rfl) Evs.nil) (fun _ _=>trivial) (by kernel_rfl))
    (Evs.cons (Ev.call (F.cx hR1) (KZ2 hrz) (hA.mono (by decide)) (gv HZl) (Evs.cons (Ev.itemL (a:=wl) (k:=2) (c:=Sx (sO [48+rs.length])) (cs:=wdsV [[80,54],[48+wd],[48+rs.length],[50,53,53]]) lv Ev.ci (fun h p=>p.2) (by decide) (by show (2:Int)<4;decide) (by show 4<=16777216;decide) rfl) Evs.nil) (fun _ _=>trivial) (by kernel_rfl)) Evs.nil)) (by show 2<=sizeLine;decide)) fun v h q=>⟨J1 q.1 fun a e _ l=>⟨(),trivial,a,e,l⟩,q.2⟩) (fun _=>rfl) (fun _=>?_)
  ·simp only [List.reverse_cons,List.reverse_nil,List.nil_append,List.singleton_append,List.cons_append,List.mem_cons,List.not_mem_nil,or_false] at hn
   rcases hn with rfl | rfl
   ·exact St1.locB F ce.cl hWL
   ·exact St1.locB F ce.cl hWL
  have hR2:Sf [L,L+1,L+2] (fun h':Heap=>True/\LsAt h' wl (wdsV [[80,54],[48+wd],[48+rs.length],[50,53,53]])):=Sf.and Sf.const hR1
  have hmul:(3*(wd:Int))*(rs.length:Int)=((rs.length*(3*wd):Nat):Int):=by push_cast;exact sE (Int.mul_comm ..) rfl
  refine Xs.iteF (Ist.as (Ist.cm Cm.ne (Ev.lenB (ks:=o) (F.cx hR2) hz' (bv VZl PyProof.Rows.bootS_len) (cv (L+1))) (Ev.add lv (Ev.mul (i:=3*(wd:Int)) (j:=(rs.length:Int)) (mulOk (by omega)) (Ev.mul (IntMulOk.of_left (by decide)) Ev.ci lv) lv))) (by refine sE hol (sE hmul ?_);exact bne_eq_false_iff_eq.mpr (by rfl))) ?_
  refine Xs.assignN F ce.cl (hR2.mono fun b hb=>by refine sE (mS hb) ?_;exact hWL) (EvP.listP (F.cx hR2).grow Evs.nil (Nat.zero_le _)) (fun a n=>LpAt.sf (fun q=>n.ne_loc (mS q).symm)) (fun rl n=>?_)
  have hrl:rl∉[L,L+1,L+2]:=by
   simp only [List.mem_cons,List.not_mem_nil,or_false,not_or]
   exact ⟨fun q=>n.ne_loc q.symm,fun q=>n.ne_cell (y := "octets") (c:=L+1) rfl q.symm,fun q=>n.ne_cell (y := "begin") (c:=L+2) rfl q.symm⟩
  have hrlo:=n.old
  have hrl1:rl≠L:=fun q=>hrl (by refine sE q ?_;exact hWL)
  refine Xs.pre (P:=Pc _ h _ (fun h:Heap=>LpAt h rl [])) ?_ (fun h p=>⟨p.1,p.2.1⟩)
  have hR3:Sf [L,L+1,L+2] (fun h:Heap=>LpAt h rl []):=LpAt.sf hrl
  refine Xs.forR (n:=rs.length) (σ:=List (Addr×List Addr)) F ce.cl hA.handled [L,L+1,L+2,rl] (fun h p=>allL p.1.loc_in (allL (p.1.cell_in (y := "octets") rfl) (allL (p.1.cell_in (y := "begin") rfl) (allL p.2.live allN)))) (by lia) (bv XZi PyProof.Rows.boot_range) lv ["begin"]
   (fun i _=>up (up (up (up (up (up (YZ9 ["octets"] ([By o]++List.map tk0 [])) "words" (.ref wl)) "at" (I 11)) "height" (I rs.length)) "width" (I wd)) "rows" (.ref rl)) "octets" (By o))
   (fun W i z h=>RowsX (L::(L+1)::(L+2)::rl::W) rl (fun j=>(rs.getD j []).map fun c=>YZl c g) z i h)
   (fun W hW i z=>RowsX.sf (New.of_live hW fun h p=>p.2.live) (fun b hb=>List.mem_cons_of_mem _ (List.mem_cons_of_mem _ (List.mem_cons_of_mem _ (List.mem_cons_of_mem _ hb))))) (fun W i z=>RowsX.sf (by simp;exact hrl1) (fun b hb=>by refine sE (mS hb) ?_;exact List.mem_cons_self ..)) (LpAt.sf List.not_mem_nil) [] (fun h p W hW=>⟨⟨rfl,fun p hp=>nomatch hp⟩,p,fun j hj=>absurd hj (Nat.not_lt_zero _)⟩) ⟨_,by refine sE (YZv ..) ?_;exact ⟨by repeat (first | exact allN | refine allL rfl ?_),by repeat (first | exact allN | refine allL rfl ?_)⟩⟩ ?_ ?_
  ·intro W hW i z S u hi hS hlv hst
   refine Xs.fact2 (q:=z.length=i) (fun h p=>p.2.1.1.1) fun hzl=>?_
   have hwi:(rs.getD i []).length=wd:=hw _ (YZr hi)
   have hci:∀ c∈rs.getD i [],VZg c:=hc _ (YZr hi)
   have hRS:Sf [L,L+1,L+2] (fun h:Heap=>RowsX (L::(L+1)::(L+2)::rl::W) rl (fun j=>(rs.getD j []).map fun c=>YZl c g) z i h/\S h):=Sf.and (RowsX.sf hrl (fun b hb=>by simp at hb ⊢;rcases hb with h | h | h <;> simp [h])) (hS.mono fun b hb=>by simp at hb ⊢;rcases hb with h | h | h <;> simp [h])
   have hbeg:11+(3*(wd:Int))*(i:Int)=((11+3*wd*i:Nat):Int):=by push_cast;rfl
   have hlt:3*wd*i+3*wd<=rs.length*(3*wd):=by
    have:(i+1)*(3*wd)<=rs.length*(3*wd):=Nat.mul_le_mul_right _ hi
    rw [Nat.succ_mul,Nat.mul_comm] at this;exact this
   refine Xs.asgV (St1.cel F ce (c:=L+2) rfl (by exact mm2)) hRS (c:=I ((11+3*wd*i:Nat):Int)) (Tr.post (Ev.add lv (Ev.mul (i:=3*(wd:Int)) (j:=(i:Int)) (mulOk (by lia)) (Ev.mul (IntMulOk.of_left (by decide)) Ev.ci lv) lv)) fun v h q=>⟨q.1.trans (by exact sE hbeg rfl),q.2⟩) ?_
   refine Xs.lsApp (a:=rl) (cs:=z.map fun p=>Value.ref p.1) (R':=fun h=>∃ z',RowsX (L::(L+1)::(L+2)::rl::W) rl (fun j=>(rs.getD j []).map fun c=>YZl c g) z' (i+1) h/\S h) F (hRS.mono fun b hb=>by refine sE (mS hb) ?_;exact hWL) (fun μ=>Lo.sf (fun q=>hrl1 (mS q).symm) (fun y c e q=>?_) (fun b hb=>by refine sE (mS hb) ?_;exact hrlo)) (by rfl) (fun h r=>r.1.2.1) ?_
    (EvP.tupComp (n:=wd) (ks:=fun j=>YZl ((rs.getD i []).getD j []) g) (Wz:=L::(L+1)::(L+2)::rl::W) (cl:=[("octets", L+1),("begin", L+2)]) F ⟨by rfl,fun _=>by rfl,by decide,by rfl,by decide,cl2a (by rfl) (by rfl),cl2b (by rfl) (by rfl)⟩ ce.cl hA.handled (by lia) (bv XZi PyProof.Rows.boot_range) lv (fun W' hW'=>Sf.and (RowsX.new fun b hb=>J0 (hW' b hb) fun h p e=>⟨h,p.2.1,e⟩) (hst W' fun b hb=>.inr (J0 (hW' b hb) fun h p e=>⟨h,p.2.2,e⟩)))
     (fun h p=>allL p.1.loc_in (allL (p.1.cell_in (y := "octets") rfl) (allL (p.1.cell_in (y := "begin") rfl) (allL p.2.1.2.1.live fun b hb=>hlv h p.2.2 b hb)))) (fun j hj=>UZ8 (hci _ (YZr (by lia))).2 hgb) (fun j hj=>by refine sE (UZm ..) ?_;decide) GZ8 (fun j B C hF hj hB hB2=>?_) (fun C=>by rfl)) ?_ ?_
   ·rcases XZq (n1 := "begin") (c1:=L+2) (n2 := "octets") (c2:=L+1) y c e with ⟨_,rfl⟩ | ⟨_,rfl⟩
    ·exact hrl (by refine sF (mS q) ?_;simp)
    ·exact hrl (by refine sF (mS q) ?_;simp)
   ·refine sE (List.length_map ..) (sE hzl (sE sizeLine_eq ?_));lia
   ·refine Tr.post (Ev.sliceB (lo:=some (((11+3*wd*i:Nat):Int)+3*(j:Int))) (hi:=some (((11+3*wd*i:Nat):Int)+3*(j:Int)+3)) (hF.cx hB) hob hz' (cv (L+1)) (EvO.yes (Ev.add (cv (L+2)) (Ev.mul (IntMulOk.of_left (by decide)) Ev.ci lv))) (EvO.yes (Ev.add (Ev.add (cv (L+2)) (Ev.mul (IntMulOk.of_left (by decide)) Ev.ci lv)) Ev.ci))) fun v h q=>⟨q.1.trans ?_,q.2⟩
    exact sE (VZ5 (by exact Int.natCast_nonneg _) (by exact Int.natCast_nonneg _)) (sE (show (((11+3*wd*i:Nat):Int)+3*(j:Int)).toNat=11+3*wd*i+3*j by exact Int.toNat_natCast _) (sE (show (((11+3*wd*i:Nat):Int)+3*(j:Int)+3).toNat-(11+3*wd*i+3*j)=3 by generalize 11+3*wd*i=m;lia) (sE (hsl hi hj) rfl)))
   ·rintro h1 h2 c sb l ⟨D,bs,rfl,nD,hD,hbs,rx⟩ r
    have hcol:(List.range wd).map (fun j=>YZl ((rs.getD i []).getD j []) g)=(rs.getD i []).map fun c=>YZl c g:=by
     refine sF hwi ?_;exact VZi (fun c=>YZl c g) _
    exact ⟨z++[(D,bs)],RowsX.push r.1 (by exact mm3) sb l hD hbs (by refine sF hcol ?_;exact rx),hS _ _ (fun b o hb e=>(sb.2 b fun q=>hb (by refine sE q ?_;simp)).trans e) r.2⟩
   ·refine Xs.exR fun z'=>?_
    refine Xs.turnZ z' ⟨?_,?_⟩ fun h r=>r
    ·repeat (first | exact allN | refine allL rfl ?_)
    ·repeat (first | exact allN | refine allL rfl ?_)
  ·intro W hW u z
   have hRS:Sf [L,L+1,L+2] (fun h:Heap=>RowsX (L::(L+1)::(L+2)::rl::W) rl (fun j=>(rs.getD j []).map fun c=>YZl c g) z rs.length h):=RowsX.sf hrl (fun b hb=>by simp at hb ⊢;rcases hb with h | h | h <;> simp [h])
   refine Xs.ret (Ev.tup0 (F.cx hRS).grow (Evs.cons lv (Evs.cons lv (Evs.cons lv Evs.nil))) (by show 3<=sizeLine;decide)) fun v h' q p=>⟨p.1.keep,?_⟩
   refine J1 q fun t e n l=>?_;clear q
   refine ⟨t,e,n.old,rl,l,?_⟩
   have:=p.2.rows
   refine sF (VZi (fun row=>row.map fun c=>YZl c g) rs) ?_
   exact this
 ·exact fun L=>allL (.inr ⟨by rfl,by rfl⟩) allN
 ·intro L x c h
  rcases XZq (n1 := "begin") (c1:=L+2) (n2 := "octets") (c2:=L+1) x c h with ⟨rfl,_⟩ | ⟨rfl,_⟩ <;> rfl
 ·intro L x y c h1 h2
  rcases XZq (n1 := "begin") (c1:=L+2) (n2 := "octets") (c2:=L+1) x c h1 with ⟨rfl,rfl⟩ | ⟨rfl,rfl⟩ <;> rcases XZq (n1 := "begin") (c1:=L+2) (n2 := "octets") (c2:=L+1) y _ h2 with ⟨rfl,e⟩ | ⟨rfl,e⟩ <;> first | rfl | exact absurd e (by show ¬ ((L:Nat)+1=L+2);lia) | exact absurd e (by show ¬ ((L:Nat)+2=L+1);lia)
end
end
section
open PySem.SeqAt
section
variable {prog:Program} {w:World} {A:Around} {env:Env} {K:Frag} {h₀:Heap} {μ:Str->Option Value} {P:HP} {pos:Pos} {l m r e1 e2:PySem.Expr} {a b c:Value} {op1 op2:CmpOp} {E:Value->Shared->Prop} {s:Shared}
theorem Ev.chainT (hl:Ev (model prog w) A env P l a) (hm:Ev (model prog w) A env P m b) (hr:Ev (model prog w) A env P r c) (h1:Cm prog w A op1 a b true) (h2:Cm prog w A op2 b c true)
  (hmk:autoParam (lastMarks [op1,op2] [m,r]=false) tW):Ev (model prog w) A env P (.Compare l [op1,op2] [m,r] pos) (.bool true):=fun s Q E p k=>by
 refine sE (arm_eval_Compare ..) (sE (markedEach_of_false _ _ _ hmk) ?_)
 refine YZa (hl s _ E p fun v ha tka x=>?_)
 show wpC _ _ (do
  let rv <- holding [v] (eval m env)
  standAt pos
  let c <- holding [v,rv] (compareOp op1 v rv)
  release [v,rv] [c]
  if <- holding [c,rv] (truthy c) then compareChain pos rv [op2] [eval r env] else pure c) _ _ _
 refine YZa (YZe (hm _ _ E x.2 fun u hb tkb y=>YZa (YZd (YZa (YZe (h1 _ _ E v u x.1 y.1 fun z tk e=>?_))))))
 refine sE (VZp e) ?_
 refine YZa (VZn (YZa (YZe (YZb (wpAny_truthy_bool ?_)))))
 show wpC _ _ (do
  let rv <- holding [u] (eval r env)
  standAt pos
  operate [u,rv] (compareOp op2 u rv)) _ _ _
 refine YZa (YZe (hr _ _ E y.2 fun u2 hc tkc z2=>YZa (YZd (VZo (h2 _ _ E u u2 y.1 z2.1 fun z3 tk3 e3=>k z3 _ tk3 ⟨e3,z2.2⟩)))))
theorem Ev.and2T (h1:Ev (model prog w) A env P e1 (.bool true)) (h2:Ev (model prog w) A env P e2 c):Ev (model prog w) A env P (.BoolOp .And [e1,e2] pos) c:=fun s Q E p k=>by
 refine sE (arm_eval_BoolOp ..) ?_
 show wpC _ _ (do
  let v <- eval e1 env
  standAt pos
  let t <- holding [v] (truthy v)
  match BoolOp.And,t with
  | .And,false | .Or,true=>pure v
  | _,_=>boolOp pos .And [eval e2 env]) _ _ _
 refine YZa (h1 s _ E p fun v ha tka x=>?_)
 refine sE (VZp x.1) ?_
 refine YZa (YZd (YZa (YZe (YZb (wpAny_truthy_bool ?_)))))
 exact h2 _ _ E x.2 k
theorem mul_any {q:Addr} {items:Array Value} {n:Nat} {x:Int} {u:Tok} {Q:Value->Shared->Prop} (hl:s.heap.get? q=some { cls:=.type "list", dict:=none,data:=.seq items n,slots:=#[] })
  (f1:¬(!Builtin.List.listFitsIndex x)=true) (f2:¬ items.size*x.toNat > (2 ^ 63-1) / 8) (f3:¬ Builtin.List.listTooLong (items.size*x.toNat)=true)
  (h:Q (.ref s.heap.objs.size) { s with heap:=s.heap.push { cls:=.type "list", data:=.seq (List.foldl (fun x1 x2=>x1++x2) #[] (List.replicate (if items.isEmpty=true then 0 else x.toNat) items)) } }) :
  wpAny (model prog w) A (binaryOp .Mult (.ref q) (.int x u)) Q E s :=
 wpAny_binaryOp_repeat_ref (T := "list") (U := "int") (by decide) ⟨_,hl,rfl⟩ (fun s'=>typeIs_int s' x u) noFill_list_mul PySem.F.fills_int_mul PySem.F.slot_int_rmul repeat_list PySem.F.slot_int_index.lookup
  (call_meets PySem.F.slot_int_rmul (typeIs_int s x u) PySem.F.entry_int_rmul (PySem.F.args_int_rmul_2 _ _) (int___rmul___int_list x u q items n)
   ⟨hl,rfl,⟨_,hl,rfl⟩,call_meets PySem.F.slot_list_mul ⟨_,hl,rfl⟩ PySem.F.entry_list_mul (PySem.F.args_list_mul_2 _ _) (AutoListH.list___mul___list_int_3 q items n x u f1 f2 f3) ⟨hl,h⟩⟩)
theorem EvP.mulL {l r:PySem.Expr} {cs:List Value} {k:Nat} (C:Cx K env h₀ μ P) (hl:EvP (model prog w) A env P l (fun v h=>∃ a,v=.ref a/\LsAt h a cs)) (hz:cs.length=1) (hk:0<k/\k<=1000)
  (hrr:∀ v:Value,Ev (model prog w) A env (fun h=>(∃ a,v=.ref a/\LsAt h a cs)/\P h) r (I k)) :
  EvP (model prog w) A env P (.BinOp l .Mult r pos) (fun v h=>∃ a,v=.ref a/\New P a/\LsAt h a (List.replicate k (cs.getD 0 .none))):=fun s Q E p kk =>
 KZq (hl s _ E p fun v h1 tk1 x=>hrr (tk0 v) _ _ E ⟨x.1,x.2⟩ fun u h2 tk2 y=>by
  refine tkI y.1 fun t=>?_
  obtain ⟨⟨a,e1,⟨vs,⟨n,ho⟩,e2⟩⟩,p2⟩:=y.2
  refine sE (YZh e1) ?_
  have hp2:=C.lo _ p2
  refine J0 hp2 fun m F _=>?_;clear hp2
  obtain ⟨x0,rfl⟩:∃ x0,vs=[x0]:=by
   have h1:=congrArg List.length e2
   rw [List.length_map,hz] at h1
   exact ar1 vs h1 fun x0=>⟨x0,rfl⟩
  have hmul:(List.foldl (fun x1 x2=>x1++x2) (#[]:Array Value) (List.replicate (if ([x0].toArray:Array Value).isEmpty=true then 0 else ((k:Nat):Int).toNat) [x0].toArray))=(List.replicate k x0).toArray:=by
   refine sE (if_neg (by simp)) (sE (Int.toNat_natCast ..) ?_)
   have gen:∀ (n:Nat) (acc:List Value),List.foldl (fun x1 x2=>x1++x2) acc.toArray (List.replicate n ([x0].toArray:Array Value))=(acc++List.replicate n x0).toArray:=by
    intro n
    induction n with
    | zero=>intro acc;simp
    | succ n ih =>
     intro acc
     refine sE List.replicate_succ (sE List.foldl_cons (sE (List.append_toArray ..) (sE (ih ..) ?_)))
     simp [List.replicate_succ]
   exact gen k []
  have hsz:([x0].toArray:Array Value).size=1:=rfl
  generalize [x0].toArray=items at *
  have hf1:¬(!Builtin.List.listFitsIndex ((k:Nat):Int))=true:=by simp [Builtin.List.listFitsIndex];lia
  have hf2:¬ items.size*((k:Nat):Int).toNat > (2 ^ 63-1) / 8:=by refine sE hsz (sE (Int.toNat_natCast ..) ?_);lia
  have hf3:¬ Builtin.List.listTooLong (items.size*((k:Nat):Int).toNat)=true:=by refine sE hsz (sE (Int.toNat_natCast ..) ?_);simp [Builtin.List.listTooLong,sizeLine];lia
  refine YZb (mul_any ho hf1 hf2 hf3 ?_)
  refine sE hmul ?_
  refine kk _ _ _ ⟨⟨_,rfl,⟨_,p2,YZg _⟩,List.replicate k x0,⟨_,Heap.get?_push_size _ rfl⟩,?_⟩,C.grow _ _ (Grows.push _ _) p2⟩
  ·subst e2;refine sE List.map_replicate ?_;rfl)
end
noncomputable abbrev EntR:Str×Value->DictEntry->Prop:=fun p e=>(∃ t,e.key=.str p.1 t)/\tk0 e.val=p.2
inductive EntL:List (Str×Value)->List DictEntry->Prop
 | nil:EntL [] []
 | cons {p:Str×Value} {e:DictEntry} {ps:List (Str×Value)} {es:List DictEntry}:EntR p e->EntL ps es->EntL (p::ps) (e::es)
noncomputable def DictAt (ps:List (Str×Value)) (h:Heap) (dx:Addr):Prop:=∃ es n,h.get? dx=some (dictOf es n)/\EntL ps es
theorem DictAt.sf {W:List Addr} {ps:List (Str×Value)} {dx:Addr} (h:dx∉W):Sf W (fun h=>DictAt ps h dx):=fun h1 h2 k x=>J2 x fun es n e r=>⟨es,n,k _ _ h e,r⟩
theorem fa2_len:∀ {l:List (Str×Value)} {m:List DictEntry},EntL l m->l.length=m.length
 | _,_,.nil=>rfl
 | _,_,.cons _ t=>congrArg (·+1) (fa2_len t)
theorem NZo {a:Str×Value} {b:DictEntry} (x:EntR a b):∀ {l:List (Str×Value)} {m:List DictEntry},EntL l m->EntL (l++[a]) (m++[b])
 | _,_,.nil=>.cons x .nil
 | _,_,.cons y t=>.cons y (NZo x t)
theorem KZg:∀ {ps:List (Str×Value)} {es:List DictEntry},EntL ps es->es.any (·.refKey)=false
 | _,_,.nil=>rfl
 | _,_,.cons (p:=p) (e:=e) ⟨⟨t,h⟩,_⟩ r=>by
  refine sE List.any_cons (sE (KZg r) (sE (Bool.or_false ..) ?_))
  obtain ⟨hs,k,v⟩:=e
  dsimp only at h
  subst h;rfl
theorem DZx {name:Str}:∀ {ps:List (Str×Value)} {es:List DictEntry},EntL ps es->(∀ p∈ps,(p.1==name)=false)->∀ e∈es,e.key.isStr name=false
 | _,_,.nil,_=>fun _ h=>nomatch h
 | _,_,.cons (p:=p) (e:=e) ⟨⟨t,h⟩,_⟩ r,hn=>fun e' he=>by
  rcases mC he with rfl | he
  ·refine sE h ?_;exact hn p (List.mem_cons_self ..)
  ·exact DZx r (fun p hp=>hn p (List.mem_cons_of_mem _ hp)) e' he
theorem ent_get {name:Str} {c:Value}:∀ {ps:List (Str×Value)} {es:List DictEntry},EntL ps es->ps.find? (fun p=>p.1==name)=some (name,c)->∃ v,getL name es=some (some v)/\tk0 v=c
 | _,_,.nil,h=>nomatch h
 | _,_,.cons (p:=p) (e:=e) (ps:=ps) (es:=es) ⟨⟨t,h⟩,hv⟩ r,hf=>by
  rw [List.find?_cons] at hf
  have hk:e.key.isStr name=(p.1==name):=by refine sE h ?_;rfl
  cases hq:p.1==name with
  | true =>
   rw [hq] at hf
   cases hf
   refine ⟨e.val,?_,hv⟩
   unfold getL
   exact sE List.find?_cons (sE hk (sE hq rfl))
  | false =>
   rw [hq] at hf
   refine J0 (ent_get r hf) fun v h1 h2=>?_
   refine ⟨v,?_,h2⟩
   unfold getL at h1 ⊢
   refine sE List.find?_cons (sE hk (sE hq ?_))
   dsimp only
   cases hx:es.find? (·.key.isStr name) with
   | some y=>rw [hx] at h1;exact h1
   | none =>
    rw [hx] at h1
    dsimp only at h1
    split at h1 <;> cases h1
theorem ent_getN {name:Str} {ps:List (Str×Value)} {es:List DictEntry} (f:EntL ps es) (hn:∀ p∈ps,(p.1==name)=false):getL name es=some none:=by
 unfold getL
 refine sE (List.find?_eq_none.mpr fun e he=>by rw [DZx f hn e he];decide) ?_
 dsimp only
 refine sE (KZg f) ?_;rfl
section
variable {prog:Program} {w:World} {A:Around} {K:Frag} {C x dx:Addr} {E:Value->Shared->Prop} {s:Shared}
theorem set_ob {ps:List (Str×Value)} {name:Str} {v:Value} {Q:Unit->Shared->Prop} (X:K.In s.heap) (hx:s.heap.get? x=some (instObj C dx)) (hd:DictAt ps s.heap dx) (hn:∀ p∈ps,(p.1==name)=false) (hz:ps.length<=500)
  (hs:findIn K (.ref C) "__setattr__" = some (some (.builtin "object.__setattr__"))) (hp:plainOver K C=true) (ht:takerIn K C name=some none) (hh:hasDictIn K C=true)
  (h:∀ h' tk,DictAt (ps++[(name,tk0 v)]) h' dx->Heap.SameBut dx s.heap h'->Q () { s with heap:=h',toks:=tk }):wpAny (model prog w) A (setAttr (.ref x) name v) Q E s:=by
 refine J2 hd fun es n hdx f=>?_;clear hd
 have I0:InstAt s.heap x (instObj C dx) C (some (dictOf es n)):=⟨hx,rfl,rfl,hdx⟩
 refine set_plain X I0 hs (osa_open (s:={ s with toks:=s.toks+1 }) X I0 hp ht fun b=>?_)
 refine J0 (any_some hh) fun cd hc hd'=>?_
 refine wpAny_bind (wpAny_pure (wpAny_bind (wpAny_bind (wpAny_loadPart hx (wpAny_bind (Looks.here (s:={ s with toks:=s.toks+1 }) (looks_clsIn X hc) ?_))))))
 refine sE hd' ?_
 refine wpAny_pure (a:=some dx) (wpAny_bind (wpAny_pure (wpAny_bind ?_)))
 unfold nsSet
 refine wpAny_bind (wpAny_bind (wpAny_askSetting (wpAny_pure (wpAny_bind (wpAny_mkText (wpAny_bind (wpAny_loadPart hdx ?_)))))))
 dsimp only
 have c:(!es.toArray.any (·.key.isStr name)&&es.toArray.any (·.refKey))=false:=by
  exact sF Array.any_toList (sF Array.any_toList (sE (KZg f) (sE (Bool.and_false ..) rfl)))
 refine sE (aRefKeyMayBeTheName_at ..) (sE c ?_)
 refine wpAny_updatePart hdx ?_
 have e2:Obj.putName name (PyData.keyHash w.params name) (.str name (s.toks+1)) v (dictOf es n)=dictOf (es++[⟨PyData.keyHash w.params name,.str name (s.toks+1),v⟩]) (putN name es n):=by
  exact sE (putName_dict ..) (sE (putL_new (DZx f hn)) rfl)
 have hD:=Heap.get?_update_self (Obj.putName name (PyData.keyHash w.params name) (.str name (s.toks+1)) v) hdx (by refine sE e2 ?_;rfl)
 rw [e2] at hD
 have hle:=fa2_len f
 refine wpAny_bind (wpAny_lookBehind hD (pastItsLine_dict (by refine sE List.size_toArray (sE List.length_append (sE sizeLine_eq ?_));show es.length+1<=_;lia)) ?_)
 exact wpAny_pure (h _ _ ⟨_,_,hD,NZo ⟨⟨_,rfl⟩,rfl⟩ f⟩ (Heap.SameBut.update ..))
end
theorem DictAt.ob {h:Heap} {x dx:Addr} {C:Addr} {ps:List (Str×Value)} {no:List Str} (hx:h.get? x=some (instObj C dx)) (d:DictAt ps h dx) (ho:∀ p∈ps,ps.find? (fun q=>q.1==p.1)=some p) (hno:∀ q∈no,∀ p∈ps,(p.1==q)=false):ObAt C h x ps no:=by
 refine J2 d fun es n hd f=>?_;clear d
 exact ⟨dx,es,n,hx,hd,fun p hp=>ent_get f (ho p hp),fun q hq=>ent_getN f (hno q hq)⟩
end
section
open PySem.SeqAt
section
variable {P:Params}
theorem g_NOTHING:nsIn (KK P) mainGlobals "NOTHING" = some (some (.ref 251)):=by kernel_rfl
theorem g_Canvas:nsIn (KK P) mainGlobals "Canvas" = some (some (.ref 319)):=by kernel_rfl
theorem GZj:plainOver (KK P) 319=true:=by kernel_rfl
theorem KZ5:findIn (KK P) (.ref 319) "__setattr__" = some (some (.builtin "object.__setattr__")):=by kernel_rfl
theorem cv_t_width:takerIn (KK P) 319 "width" = some none:=by kernel_rfl
theorem BZ3:takerIn (KK P) 319 "height" = some none:=by kernel_rfl
theorem cv_t_left:takerIn (KK P) 319 "left" = some none:=by kernel_rfl
theorem cv_t_top:takerIn (KK P) 319 "top" = some none:=by kernel_rfl
theorem cv_t_cells:takerIn (KK P) 319 "cells" = some none:=by kernel_rfl
end
theorem Cm.as {prog:Program} {w:World} {A:Around} {op:CmpOp} {a b:Value} {d d':Bool} (h:Cm prog w A op a b d) (e:d=d'):Cm prog w A op a b d':=e▸h
section
variable {prog:Program} {w:World}
theorem fn_holds {cv:Addr} {x y wd ht:Nat} {own:List (Str×Value)} {no:List Str} (hw:(("width" : Str),I wd)∈own) (hh:(("height" : Str),I ht)∈own) (hl:(("left" : Str),I 0)∈own) (ht':(("top" : Str),I 0)∈own) (hx:x<wd) (hy:y<ht) :
  Fn prog w (KK w.params) 271 1 [.ref cv,I x,I y] (fun h=>ObAt 319 h cv own no) (fun v _ _=>v=.bool true):=by
 refine Fn.mk ["self", "x", "y"] [] (by exact rfl) (by kernel_rfl) (fun s args _ h=>ar3 args h fun _ _ _=>BindsTo.of_eq rfl) (fun h L A G hpre hL hA F hC=>?_)
 have hR:Sf [L] (fun _=>True):=Sf.const
 have hib:∀ {i:Int} (v:Value),tk0 v=I i->handedIn v=true:=fun v e=>by refine tkI e fun t=>?_;rfl
 refine Xs.retV (Ev.and2T (Ev.chainT (b:=I ((x:Int)-0)) (c:=I wd) Ev.ci (Ev.sub lv (Ev.attr (F.cx hR) lv (fun h p=>hpre.grow p.1.keep) hl hib HZ2 XZl HZ4 YZw)) (Ev.attr (F.cx hR) lv (fun h p=>hpre.grow p.1.keep) hw hib UZa XZl UZb YZw) (Cm.le.as (decide_eq_true (by exact Int.natCast_nonneg _))) (Cm.lt.as (decide_eq_true (by exact clN))))
  (Ev.chainT (b:=I ((y:Int)-0)) (c:=I ht) Ev.ci (Ev.sub lv (Ev.attr (F.cx hR) lv (fun h p=>hpre.grow p.1.keep) ht' hib NZs XZl NZt YZw)) (Ev.attr (F.cx hR) lv (fun h p=>hpre.grow p.1.keep) hh hib UZp XZl UZq YZw) (Cm.le.as (decide_eq_true (by exact Int.natCast_nonneg _))) (Cm.lt.as (decide_eq_true (by exact clN))))) fun h p=>⟨p.1.keep,rfl⟩
theorem ObAt.hide {h:Heap} {cv ra:Addr} {own:List (Str×Value)} {no:List Str} (o:ObAt 319 h cv own no) (s:Sq h ra):ObAt 319 (hideAll h [ra]) cv own no:=by
 refine Jc o fun dx es n hx hd r=>?_;clear o
 refine Jl s fun o2 ho its n2 hdd=>?_;clear s
 refine ⟨dx,es,n,hideAll_get _ hx fun q=>?_,hideAll_get _ hd fun q=>?_,r⟩
 ·rw [mS q,ho] at hx;cases hx;cases hdd
 ·rw [mS q,ho] at hd;cases hd;cases hdd
theorem LsAt.hide {h:Heap} {a ra:Addr} {cs:List Value} (l:LsAt h a cs) (hne:a≠ra):LsAt (hideAll h [ra]) a cs:=by
 refine J0 l fun vs z01 r=>?_;clear l;obtain ⟨n,e⟩:=z01
 exact ⟨vs,⟨n,hideAll_get _ e fun q=>hne (mS q)⟩,r⟩
theorem fn_put {cv ca ra:Addr} {x y wd ht:Nat} {own:List (Str×Value)} {no:List Str} {ras:List Addr} {cs:List Value} {c:Value} (hw:(("width" : Str),I wd)∈own) (hh:(("height" : Str),I ht)∈own) (hl:(("left" : Str),I 0)∈own) (ht':(("top" : Str),I 0)∈own) (hc:(("cells" : Str),Value.ref ca)∈own)
  (hno:("holds" : Str)∈no) (hx:x<wd) (hy:y<ht) (hrl:ras.length=ht) (hra:ras.getD y 0=ra) (hcl:cs.length=wd) (hne:ca≠ra) (hz:wd<=1000/\ht<=1000) :
  FnB prog w (KK w.params) 285 2 [.ref cv,I x,I y,c] [ra] (fun h=>ObAt 319 h cv own no/\LsAt h ca (ras.map Value.ref)/\LsAt h ra cs) (fun v h h'=>v=.none/\LsAt h' ra (cs.set x c)):=by
 refine FnB.mk ["self", "x", "y", "colour"] [] (by exact rfl) (by kernel_rfl) (fun s args _ h=>ar4 args h fun _ _ _ _=>BindsTo.of_eq rfl) (fun h L A G hpre hL hA F hC=>?_)
 refine J3 hpre fun hob0 hca0 hls=>?_;clear hpre
 have hob:=hob0.hide hls.sq
 have hca:=hca0.hide hne
 have hraL:ra≠L:=fun q=>by
  obtain ⟨o,ho⟩:=hls.live
  rw [hL ra (Nat.le_of_eq q.symm)] at ho;cases ho
 refine Xs.pre (P:=Pc _ (hideAll h [ra]) _ (fun h'=>LsAt h' ra cs)) ?_ (fun h' p=>⟨p.1,hls.grow p.2⟩)
 have hR:Sf [L] (fun h':Heap=>LsAt h' ra cs):=LsAt.sf (by simp;exact hraL)
 have hib:∀ {i:Int} (v:Value),tk0 v=I i->handedIn v=true:=fun v e=>by refine tkI e fun t=>?_;rfl
 refine Xs.iteF (Ist.as (Ist.neg (Ist.val (d:=true) (c:=.bool true) (Tr.post (EvP.meth (F.cx hR) (fn_holds hw hh hl ht' hx hy) (hA.mono (by decide)) lv (Evs.cons lv (Evs.cons lv Evs.nil)) (fun h p=>hob.grow p.1.keep) hno (fun h p=>hob.grow p.1.keep) cv_g_holds cv_f_holds (by kernel_rfl) (by kernel_rfl)) fun v h q=>⟨J1 q.1 fun _ _ _ e=>e,q.2⟩) (fun s Q E v e k=>by refine sE (VZp e) ?_;exact YZb (wpAny_truthy_bool (k _))))) rfl) ?_
 refine Xs.setL (a:=ra) (k:=x) (cs:=cs) (R':=fun h'=>LsAt h' ra (cs.set x c)) lv (Ev.itL (a:=ca) (k:=(y:Int)) (cs:=ras.map Value.ref) (Ev.attr (c:=.ref ca) (F.cx hR) lv (fun h p=>hob.grow p.1.keep) hc (fun v e=>by refine sE (YZh e) ?_;rfl) KZ6 XZl KZ7 YZw) (Tr.post (Ev.sub (i:=(y:Int)) (j:=0) lv (Ev.attr (F.cx hR) lv (fun h p=>hob.grow p.1.keep) ht' hib NZs XZl NZt YZw)) fun v h q=>⟨q.1.trans (congrArg I (by rfl)),q.2⟩) (fun h p=>hca.grow p.1.keep) (by exact Int.natCast_nonneg _) (by refine sE (List.length_map ..) ?_;lia) (by refine sE (List.length_map ..) ?_;lia) (by exact sE (Int.toNat_natCast ..) (sE (XZh (by lia)) (sE hra rfl))))
  (Tr.post (Ev.sub (i:=(x:Int)) (j:=0) lv (Ev.attr (F.cx hR) lv (fun h p=>hob.grow p.1.keep) hl hib HZ2 XZl HZ4 YZw)) fun v h q=>⟨q.1.trans (congrArg I (by rfl)),q.2⟩) (fun h p=>p.2) (by lia) (by lia) (Off.plain rfl hraL (hideAll_none _ (List.mem_singleton.mpr rfl))) (fun h1 h2 _ l _=>l) (Xs.nil fun h' p=>⟨p.1.keep,rfl,p.2⟩)
end
end
section
open PySem.SeqAt
section
variable {M:Model} {prog:Program} {w:World} {A:Around} {env:Env} {R R':HP} {h₀:Heap} {μ:Str->Option Value} {rest:List Stmt} {N:HP} {Rt X:Value->HP} {pos p1:Pos} {e o value:PySem.Expr} {attr:Str} {c2:Value} {V:Value->HP}
theorem Xs.setAP (hv:EvP (model prog w) A env (Pc env h₀ μ R) value V) (ho:∀ c,Ev (model prog w) A env (Pc env h₀ μ (fun h=>V c h/\R h)) o c2)
  (hset:∀ (s:Shared) (Q:Unit->Shared->Prop) E v ov,Pc env h₀ μ (fun h=>V (tk0 v) h/\R h) s.heap->tk0 ov=c2->(∀ h' tk,Pc env h₀ μ R' h'->Q () { s with heap:=h',toks:=tk })->wpAny (model prog w) A (setAttr ov attr v) Q E s)
  (hr:Xs (model prog w) A env (Pc env h₀ μ R') rest N Rt X) (hs:autoParam (swapsWith value (some (.Attribute o attr p1)) pos.line env=pure false) tR) :
  Xs (model prog w) A env (Pc env h₀ μ R) (.Assign [.Attribute o attr p1] value pos::rest) N Rt X:=fun s Q E p k1 k2 k3=>by
 refine YZk ?_
 refine sE (plainObj_exec_Assign_Attribute o attr p1 value pos hs) ?_
 refine YZa (YZd (YZa (hv s _ E p fun v h1 tk1 x=>?_)))
 refine sE (assign_Attribute ..) ?_
 refine YZa (YZa (YZe (ho (tk0 v) _ _ E ⟨x.2.1,x.1,x.2.2⟩ fun ov h2 tk2 y=>YZa (YZd (YZa (YZe (YZb (hset _ _ _ v ov y.2 y.1 fun h3 tk3 z=>?_))))))))
 refine VZn (YZc ?_)
 exact hr { s with heap:=h3,toks:=tk3 } Q E z k1 k2 k3
end
noncomputable def XZz (wd ht:Nat) (ca:Addr):List (Str×Value):=[("width", I wd),("height", I ht),("left", I 0),("top", I 0),("cells", .ref ca)]
noncomputable def XZs (wd ht:Nat) (ca:Addr) (ras:List Addr) (h:Heap):Prop:=LsAt h ca (ras.map Value.ref)/\∀ b∈ras,LsAt h b (List.replicate wd (.ref 251))
section
variable {prog:Program} {w:World}
theorem fn_init {x dx:Addr} {wd ht:Nat} (hw:0<wd/\wd<=100) (hh:0<ht/\ht<=100) (hxd:x≠dx) :
  FnB prog w (KK w.params) 264 3 [.ref x,I wd,I ht] [x,dx] (fun h=>h.get? x=some (instObj 319 dx)/\DictAt [] h dx)
   (fun v h h'=>v=.none/\∃ ca ras,(ras.length=ht/\ras.Nodup/\ca∉ras/\∀ b∈ca::ras,h.get? b=none)/\h'.get? x=some (instObj 319 dx)/\DictAt (XZz wd ht ca) h' dx/\XZs wd ht ca ras h'):=by
 refine FnB.mkC ["self", "width", "height", "left", "top"] [.int 0 562,.int 0 563] (by exact rfl) (by kernel_rfl) (fun s args G h=>ar3 args h fun _ _ _=>kp_binds G.inK (fun S=>rfl)) (fun h L A G hpre hL hA F ce=>?_) ?_ ?_ ?_
 ·obtain ⟨hx,hd⟩:=hpre
  have hdl:∃ o,h.get? dx=some o:=J2 hd fun _ _ e _=>⟨_,e⟩
  have nL:∀ {t:Addr},(∃ o,h.get? t=some o)->∀ k:Nat,t≠L+k:=fun {t} ho k q=>by
   obtain ⟨o,ho⟩:=ho
   rw [hL t (by refine sE q ?_;exact Nat.le_add_right _ _)] at ho;cases ho
  have hxL:x∉[L,L+1]:=by simp;exact ⟨nL ⟨_,hx⟩ 0,nL ⟨_,hx⟩ 1⟩
  have hdL:dx∉[L,L+1]:=by simp;exact ⟨nL hdl 0,nL hdl 1⟩
  have hd0:(hideAll h [x,dx]).get? dx=none:=hideAll_none _ (by exact mm1)
  have hoff:∀ {env:Env},env.locals=L->env.cells=[(("width" : Str),L+1)]->OffL env (hideAll h [x,dx]) [dx]:=fun {env} h1 h2=>⟨by refine sE h1 ?_;simp;exact Ne.symm (nL hdl 0),fun y c e q=>by
   rw [h2] at e
   have:=lk1 (n1 := "width") (a1:=L+1) e
   exact nL hdl 1 ((mS q).symm.trans this.2),fun b hb=>by refine sE (mS hb) ?_;exact hd0⟩
  have hRg:∀ ps,Sf [L,L+1] (fun h':Heap=>h'.get? x=some (instObj 319 dx)/\DictAt ps h' dx):=fun ps=>Sf.and (Sf.at hxL) (DictAt.sf hdL)
  refine Xs.pre (P:=Pc _ (hideAll h [x,dx]) _ (fun h'=>h'.get? x=some (instObj 319 dx)/\DictAt [] h' dx)) ?_ (fun h' p=>⟨p.1,p.2 _ _ hx,J2 hd fun es n e r=>⟨es,n,p.2 _ _ e,r⟩⟩)
  have hR:=hRg []
  refine Xs.iteF (Ist.as (Ist.bop (All.orC (Ist.cm Cm.lt (cv (L+1)) Ev.ci) fun _=>All.orC (Ist.cm Cm.lt lv Ev.ci) fun _=>All.orN)) (by simp;lia)) ?_
  have step:∀ {ps:List (Str×Value)} {μ:Str->Option Value} {name:Str} {c:Value} {env:Env} (hoff:OffL env (hideAll h [x,dx]) [dx]) (s:Shared) (Q:Unit->Shared->Prop) E (v ov:Value) (A:Around),Pc env (hideAll h [x,dx]) μ (fun h'=>h'.get? x=some (instObj 319 dx)/\DictAt ps h' dx) s.heap->tk0 v=c->tk0 ov=.ref x->(∀ p∈ps,(p.1==name)=false)->ps.length<=500->takerIn (KK w.params) 319 name=some none ->
    (∀ h' tk,Pc env (hideAll h [x,dx]) μ (fun h'=>h'.get? x=some (instObj 319 dx)/\DictAt (ps++[(name,c)]) h' dx) h'->Q () { s with heap:=h',toks:=tk })->wpAny (model prog w) A (setAttr ov name v) Q E s:=fun hoff s Q E v ov A p ec eo hn hz ht k=>by
   refine sE (YZh eo) ?_
   refine set_ob (G.inK.keeps p.1.keep) p.2.1 p.2.2 hn hz KZ5 GZj ht XZl fun h' tk d sb=>k h' tk ⟨hoff.sf _ _ _ (fun b o hb e=>(sb.2 b fun q=>hb (by simp [q])).trans e) p.1,(sb.2 x hxd).trans p.2.1,by refine sF ec ?_;exact d⟩
  refine Xs.setA (c:=I wd) (c2:=.ref x) (R':=fun h'=>h'.get? x=some (instObj 319 dx)/\DictAt [("width", I wd)] h' dx) (cv (L+1)) lv (fun s Q E v ov p ec eo k=>step (hoff rfl rfl) s Q E v ov _ p ec eo (fun _ h=>nomatch h) (by decide) cv_t_width k) ?_
  have hR1:=hRg [("width", I wd)]
  refine Xs.setA (c:=I ht) (c2:=.ref x) (R':=fun h'=>h'.get? x=some (instObj 319 dx)/\DictAt [("width", I wd),("height", I ht)] h' dx) lv lv (fun s Q E v ov p ec eo k=>step (hoff rfl rfl) s Q E v ov _ p ec eo (allL (by rfl) allN) (by show 1<=500;decide) BZ3 k) ?_
  have hR2:=hRg [("width", I wd),("height", I ht)]
  refine Xs.setA (c:=I 0) (c2:=.ref x) (R':=fun h'=>h'.get? x=some (instObj 319 dx)/\DictAt [("width", I wd),("height", I ht),("left", I 0)] h' dx) lv lv (fun s Q E v ov p ec eo k=>step (hoff rfl rfl) s Q E v ov _ p ec eo (allL (by rfl) (allL (by rfl) allN)) (by show 2<=500;decide) cv_t_left k) ?_
  have hR3:=hRg [("width", I wd),("height", I ht),("left", I 0)]
  refine Xs.setA (c:=I 0) (c2:=.ref x) (R':=fun h'=>h'.get? x=some (instObj 319 dx)/\DictAt [("width", I wd),("height", I ht),("left", I 0),("top", I 0)] h' dx) lv lv (fun s Q E v ov p ec eo k=>step (hoff rfl rfl) s Q E v ov _ p ec eo (allL (by rfl) (allL (by rfl) (allL (by rfl) allN))) (by show 3<=500;decide) cv_t_top k) ?_
  have hR4:=hRg [("width", I wd),("height", I ht),("left", I 0),("top", I 0)]
  have hold:∀ {b:Addr},(hideAll h [x,dx]).get? b=none->b∉[x,dx]->h.get? b=none:=fun {b} e hb=>by
   cases q:h.get? b with
   | none=>rfl
   | some o=>rw [hideAll_get _ q hb] at e;cases e
  refine Xs.setAP (R':=fun h'=>∃ ca ras,(ras.length=ht/\ras.Nodup/\ca∉ras/\∀ b∈ca::ras,h.get? b=none)/\h'.get? x=some (instObj 319 dx)/\DictAt (XZz wd ht ca) h' dx/\XZs wd ht ca ras h') (c2:=.ref x)
   (V:=fun v h'=>∃ ca ras,v=.ref ca/\((ras.length=ht/\ras.Nodup/\ca∉ras/\∀ b∈ca::ras,h.get? b=none)/\∀ b∈ca::ras,b∉[x,dx,L,L+1])/\XZs wd ht ca ras h')
   (Tr.post (Tr.comp (Y:=Addr) (V:=fun y v h=>v=.ref y/\RgAt h y (ht:Nat)) (ok:=fun env=>env.kindOf "row" = some .local) (ns:=["row"]) (cl:=[("width", L+1)]) F ⟨by rfl,fun _=>by rfl,by decide,by rfl,by decide,cl1a (by rfl),cl1b (by rfl)⟩ ce.cl [] (fun h p b hb=>nomatch hb) OffL.nil
    (Tr.post (EvP.range (k:=ht) (F.cx hR4) (bv XZi PyProof.Rows.boot_range) lv) fun v h q=>⟨dr q.1,q.2⟩) (fun _=>ht) (fun _ i μ=>up μ "row" (I (i:Int))) (fun y=>[y]) (fun y v h q p=>SrcW.rng hA.handled (by lia) q.1 q.2 p) (fun y c h q p b hb=>List.not_mem_nil) (fun _ _ _ _ _=>by refine sE sizeLine_eq ?_;lia)
    (fun y W i xs h'=>∃ ras:List Addr,(xs=ras.map Value.ref/\ras.length=i/\ras.Nodup/\(∀ b∈ras,h.get? b=none)/\∀ b∈ras,b∉x::dx::L::(L+1)::W)/\(h'.get? x=some (instObj 319 dx)/\DictAt [("width", I wd),("height", I ht),("left", I 0),("top", I 0)] h' dx)/\∀ b∈ras,LsAt h' b (List.replicate wd (.ref 251)))
    (fun y i xs W hW=>?_) (fun h h' g p=>hR4.grow g p) (fun _ _=>true) (fun y c h1 h2 q g p W hW=>⟨[],⟨rfl,rfl,List.nodup_nil,fun _ h=>(nomatch h),fun _ h=>(nomatch h)⟩,p,fun _ h=>nomatch h⟩) (fun y W hW i xs B C hC hF hi hB hB2 hlv hst=>?_) (fun y W hW i xs B C hC hF hi htb hB hB2 hlv hst=>?_) (fun y W i xs h hi e=>nomatch e)) fun v h1 q=>?_) (fun c=>?_) (fun s Q E v ov p eo k=>?_) (Xs.nil fun h' p=>?_)
  ·intro h1 h2 k q
   refine J1 q fun ras pu r ls=>?_;clear q
   have hxW:x∉W:=New.of_live hW fun h p=>⟨_,p.2.1⟩
   have hdW:dx∉W:=New.of_live hW fun h p=>J2 p.2.2 fun _ _ e _=>⟨_,e⟩
   exact ⟨ras,pu,⟨k _ _ hxW r.1,DictAt.sf hdW _ _ k r.2⟩,fun b hb=>LsAt.sf (fun q=>pu.2.2.2.2 b hb (by simp [q])) _ _ k (ls b hb)⟩
  ·exact fun s Q E p kk=>XZd (kk true s.heap s.toks ⟨rfl,p⟩)
  ·have hG:Sf [] (fun h'=>B h'/\∃ ras:List Addr,(xs=ras.map Value.ref/\ras.length=i/\ras.Nodup/\(∀ b∈ras,h.get? b=none)/\∀ b∈ras,b∉x::dx::L::(L+1)::W)/\(h'.get? x=some (instObj 319 dx)/\DictAt [("width", I wd),("height", I ht),("left", I 0),("top", I 0)] h' dx)/\∀ b∈ras,LsAt h' b (List.replicate wd (.ref 251))) :=
    Sf.and hB fun h1 h2 k q=>J1 q fun ras pu r ls=>⟨ras,pu,⟨k _ _ List.not_mem_nil r.1,DictAt.sf List.not_mem_nil _ _ k r.2⟩,fun b hb=>LsAt.sf List.not_mem_nil _ _ k (ls b hb)⟩
   refine Tr.post (EvP.mulL (cs:=[.ref 251]) (k:=wd) (hF.cx hG) (Tr.post (EvP.listP (hF.cx hG).grow (Evs.cons (c:=.ref 251) (gv g_NOTHING) Evs.nil) (by show 1<=sizeLine;decide)) fun v h q=>⟨dr q.1,q.2⟩) rfl (by lia) (fun v=>Ev.cel (x := "width") ((hF.cx hG).and fun h h' g q=>J0 q fun a e l=>⟨a,e,l.grow g⟩) (L+1) rfl)) fun v h1 q=>?_
   obtain ⟨⟨a,e,n,l⟩,lo,b,ras,pu,r,ls⟩:=q
   refine ⟨lo,b,ras++[a],?_,r,fun b' hb'=>?_⟩
   ·have nlv:∀ {b:Addr} {hh:Heap},(∀ h2,Pc _ _ _ (fun h'=>B h'/\∃ ras:List Addr,(xs=ras.map Value.ref/\ras.length=i/\ras.Nodup/\(∀ b∈ras,h.get? b=none)/\∀ b∈ras,b∉x::dx::L::(L+1)::W)/\(h'.get? x=some (instObj 319 dx)/\DictAt [("width", I wd),("height", I ht),("left", I 0),("top", I 0)] h' dx)/\∀ b∈ras,LsAt h' b (List.replicate wd (.ref 251))) h2->∃ o,h2.get? b=some o)->a≠b:=fun hl q=>by
     refine J0 n fun h3 p3 e3=>?_
     obtain ⟨o,ho⟩:=hl h3 p3
     rw [<- q,e3] at ho;cases ho
    have hax:a≠x:=nlv (hh:=h1) fun h2 p=>J1 p.2.2 fun _ _ r _=>⟨_,r.1⟩
    have had:a≠dx:=nlv (hh:=h1) fun h2 p=>J1 p.2.2 fun _ _ r _=>J2 r.2 fun _ _ e _=>⟨_,e⟩
    have haL:a≠L:=nlv (hh:=h1) fun h2 p=>(hB2 h2 p.2.1).loc_in
    have haL1:a≠L+1:=nlv (hh:=h1) fun h2 p=>(hB2 h2 p.2.1).cell_in (y := "width") rfl
    have haW:∀ b∈W,a≠b:=fun b hb=>nlv (hh:=h1) fun h2 p=>hlv h2 _ p.1 p.2.1 b hb
    have hao:h.get? a=none:=hold n.old (by simp;exact ⟨hax,had⟩)
    have har:a∉ras:=fun q=>by
     refine J0 n fun h3 p3 e3=>?_
     refine J1 p3.2.2 fun ras' pu' _ ls'=>?_
     have:ras'.map Value.ref=ras.map Value.ref:=pu'.1.symm.trans pu.1
     have hm:Value.ref a∈ras'.map Value.ref:=by refine sE this ?_;exact List.mem_map_of_mem q
     refine J0 (List.mem_map.mp hm) fun a' ha' ea=>?_
     cases ea
     obtain ⟨o,ho⟩:=(ls' a ha').live
     rw [e3] at ho;cases ho
    refine ⟨by refine sE List.map_append (sE pu.1 (sE e ?_));rfl,by refine sE List.length_append (sE pu.2.1 ?_);rfl,?_,?_,?_⟩
    ·exact List.nodup_append.mpr ⟨pu.2.2.1,by simp,fun u hu v hv e=>by rw [mS hv] at e;exact har (e▸hu)⟩
    ·intro b hb
     rcases mA hb with hb | hb
     ·exact pu.2.2.2.1 b hb
     ·refine sE (mS hb) ?_;exact hao
    ·intro b hb
     rcases mA hb with hb | hb
     ·exact pu.2.2.2.2 b hb
     ·refine sE (mS hb) ?_
      simp only [List.mem_cons,not_or]
      exact ⟨hax,had,haL,haL1,fun q=>haW a q rfl⟩
   ·rcases mA hb' with hb' | hb'
    ·exact ls b' hb'
    ·refine sE (mS hb') ?_;exact l
  ·obtain ⟨y,W,D,xs,e,hW,hD,lo,l,ras,pu,r,ls⟩:=q
   have nlv:∀ {b:Addr},(∀ h2,Pc _ _ _ (fun h'=>h'.get? x=some (instObj 319 dx)/\DictAt [("width", I wd),("height", I ht),("left", I 0),("top", I 0)] h' dx) h2->∃ o,h2.get? b=some o)->D≠b:=fun hl q=>by
    refine J0 hD fun h3 p3 e3=>?_
    obtain ⟨o,ho⟩:=hl h3 p3
    rw [<- q,e3] at ho;cases ho
   have hDx:D≠x:=nlv fun h2 p=>⟨_,p.2.1⟩
   have hDd:D≠dx:=nlv fun h2 p=>J2 p.2.2 fun _ _ e _=>⟨_,e⟩
   have hDr:D∉ras:=fun q=>by
    have h1:=ls D q
    rw [pu.1] at l
    refine J0 h1 fun us z01 f1=>?_;clear h1;obtain ⟨n1,e1⟩:=z01
    refine J0 l fun vs z01 f2=>?_;clear l;obtain ⟨n2,e2⟩:=z01
    rw [e1] at e2
    have e3:=congrArg (Option.map Obj.data) e2
    simp only [Option.map_some,Option.some.injEq,Data.seq.injEq] at e3
    have e4:us=vs:=by have:=congrArg Array.toList e3.1;simpa using this
    rw [e4,f2] at f1
    have hm:Value.ref D∈ras.map Value.ref:=List.mem_map_of_mem q
    rw [f1] at hm
    have:=List.eq_of_mem_replicate hm
    have h251:D=251:=by injection this
    have ho:=hD.old
    rw [h251] at ho
    have:=G.inK 251 _ (by exact rfl)
    rw [this] at ho;cases ho
   have hsep:∀ b∈D::ras,b∉[x,dx,L,L+1]:=by
    intro b hb
    rcases mC hb with rfl | hb
    ·simp only [List.mem_cons,List.not_mem_nil,or_false,not_or]
     exact ⟨hDx,hDd,fun q=>hD.ne_loc q.symm,fun q=>hD.ne_cell (y := "width") (c:=L+1) rfl q.symm⟩
    ·intro q
     refine pu.2.2.2.2 b hb ?_
     simp only [List.mem_cons,List.not_mem_nil,or_false] at q ⊢
     rcases q with q | q | q | q <;> simp [q]
   refine ⟨⟨D,ras,by refine sE e ?_;rfl,⟨⟨pu.2.1,pu.2.2.1,hDr,?_⟩,hsep⟩,by refine sF pu.1 ?_;exact l,ls⟩,lo,r⟩
   intro b hb
   rcases mC hb with rfl | hb
   ·exact hold hD.old (by simp;exact ⟨hDx,hDd⟩)
   ·exact pu.2.2.2.1 b hb
  ·have hRV:Sf [L,L+1] (fun h'=>(∃ ca ras,c=.ref ca/\((ras.length=ht/\ras.Nodup/\ca∉ras/\∀ b∈ca::ras,h.get? b=none)/\∀ b∈ca::ras,b∉[x,dx,L,L+1])/\XZs wd ht ca ras h')/\h'.get? x=some (instObj 319 dx)/\DictAt [("width", I wd),("height", I ht),("left", I 0),("top", I 0)] h' dx):=by
    refine Sf.and (fun h1 h2 k q=>?_) hR4
    refine J9 q fun ca ras e pu l ls=>?_;clear q
    have off:∀ b∈ca::ras,b∉[L,L+1]:=fun b hb q=>pu.2 b hb (by simp only [List.mem_cons,List.not_mem_nil,or_false] at q ⊢;rcases q with q | q <;> simp [q])
    exact ⟨ca,ras,e,pu,LsAt.sf (off ca (List.mem_cons_self ..)) _ _ k l,fun b hb=>LsAt.sf (off b (List.mem_cons_of_mem _ hb)) _ _ k (ls b hb)⟩
   exact lv
  ·refine sE (YZh eo) ?_
   refine J3 p fun lo z01 r=>?_;clear p;refine J9 z01 fun ca ras ev pu l ls=>?_;clear z01
   have offd:∀ b∈ca::ras,b∉[dx]:=fun b hb q=>pu.2 b hb (by refine sE (mS q) ?_;simp)
   refine set_ob (G.inK.keeps lo.keep) r.1 r.2 (allL (by rfl) (allL (by rfl) (allL (by rfl) (allL (by rfl) allN)))) (by show 4<=500;decide) KZ5 GZj cv_t_cells XZl fun h' tk d sb=>k h' tk ?_
   have kk:∀ b o,b∉[dx]->s.heap.get? b=some o->h'.get? b=some o:=fun b o hb e=>(sb.2 b fun q=>hb (by simp [q])).trans e
   refine ⟨(hoff rfl rfl).sf _ _ _ kk lo,ca,ras,pu.1,(sb.2 x hxd).trans r.1,by rw [ev] at d;exact d,LsAt.sf (offd ca (List.mem_cons_self ..)) _ _ kk l,fun b hb=>LsAt.sf (offd b (List.mem_cons_of_mem _ hb)) _ _ kk (ls b hb)⟩
  ·exact ⟨p.1.keep,rfl,p.2⟩
 ·exact fun L=>allL (.inl (by rfl)) (allL (.inr ⟨by rfl,by rfl⟩) (allL (.inl (by rfl)) (allL (.inl (by rfl)) (allL (.inl (by rfl)) allN))))
 ·intro L x c h
  refine sE (XZ3 (n := "width") (c:=L+1) x c h) ?_;rfl
 ·intro L x y c h1 h2
  exact sE (XZ3 (n := "width") (c:=L+1) x c h1) (sE (XZ3 (n := "width") (c:=L+1) y c h2) rfl)
end
end
section
open PySem.SeqAt
theorem Room.mk319 {n:Nat} {A:Around} {rest:List Value} (h:Room (n+1) A):Room n (A.under (.builtin "type.__call__" ⟨.ref 319::rest,[]⟩)):=by
 have e1:(Code.builtin "type.__call__" ⟨.ref 319::rest,[]⟩).weight=1:=by rfl
 have e2:(Code.builtin "type.__call__" ⟨.ref 319::rest,[]⟩).cUnits=1:=by rfl
 refine ⟨?_,?_,h.handled⟩
 ·show A.depth+_+n<_
  refine sE e1 ?_;have:=h.depth;lia
 ·show A.units+_+4*n+16<_
  refine sE e2 ?_;have:=h.units;lia
section
variable {prog:Program} {w:World} {A:Around} {E:Value->Shared->Prop} {Q:Value->Shared->Prop} {s:Shared}
theorem c_call319 {P:Params} {rest:List Value} (X:(KK P).In s.heap)
  (hi:∀ h' x dx,Grows s.heap h'->s.heap.get? x=none->s.heap.get? dx=none->x≠dx->h'.get? x=some (instObj 319 dx)->DictAt [] h' dx->wpC (model prog w) (A.under (.builtin "type.__call__" ⟨.ref 319::rest,[]⟩)) (PySem.call (.ref 264) (.ref x::rest)) (fun v s'=>v=.none/\Q (.ref x) s') E { s with heap:=h' }) :
  wpC (model prog w) A (PySem.call (.ref 319) rest) Q E s:=by
 have Y:=makes_of (M:=model prog w) X DZy
 have Y':=Y
 obtain ⟨⟨oc,od,cd,sl,hC,e1,e2,e4⟩,made,base,self,top,hcall,htyp⟩:=Y'
 refine YZy (YZm ?_)
 show wpC _ _ (callAny (.ref 319) _) _ _ _
 simp only [callAny]
 refine YZa (YZb (wpAny_load hC ?_))
 show wpC _ _ (callAny.viaDunder (.ref 319) _) _ _ _
 unfold callAny.viaDunder
 refine YZa (YZb (hcall.at ?_))
 dsimp only
 refine sE (tc_bind ..) ?_
 refine YZa (YZc (YZa (YZc ?_)))
 refine YZc (a:=Fin.again (.call (.builtin "type.__call__") ⟨.ref 319::rest,[]⟩)) (And.intro rfl ?_)
 refine YZm ?_
 show wpC _ _ (do checkBuiltinCall "type.__call__" ⟨.ref 319::rest,[]⟩;again (.builtin "type.__call__" ⟨.ref 319::rest,[]⟩)) _ _ _
 refine YZa (YZb (check_slot tc_kind tc_split htyp (tc_args _ _ _) ?_))
 refine YZc ⟨Code.quiet_builtin _ (by decide +kernel),XZe F.entry_type_call ?_ (by show YZ5.contains "type.__call__" = false;decide +kernel)⟩
 unfold Builtin.«type.__call__»
 have hm:Looks (model prog w) s.heap (mroOf (.ref 319)) cd.mro:=((Looks.ld (part:=none) hC).andThen .now).andThen .now
 dsimp only
 refine VZf rfl ?_
 refine YZa (YZb (hm.here ?_))
 refine VZf e4 ?_
 refine YZa (YZb (made.here ?_))
 dsimp only
 refine YZa (YZc ?_)
 obtain ⟨h,g,d,t,os⟩:=s
 refine YZa (YZe (YZb (wpAny_call (new_K (init:=.ref 264) Y (looks_findIn X HZ5) (.inl (by rfl)) ?_))))
 have g1:Grows h ((h.push emptyDict).push (instObj 319 h.objs.size)):=fun b o e=>Heap.get?_push_of_some _ (Heap.get?_push_of_some _ e)
 have hx:((h.push emptyDict).push (instObj 319 h.objs.size)).get? (h.objs.size+1)=some (instObj 319 h.objs.size):=by heap_get
 have hdx:((h.push emptyDict).push (instObj 319 h.objs.size)).get? h.objs.size=some emptyDict:=by heap_get
 have X1:=X.keeps g1
 have t1:Looks (model prog w) ((h.push emptyDict).push (instObj 319 h.objs.size)) (typeOf (.ref (h.objs.size+1))) (.ref 319):=(Looks.ld hx).andThen .now
 have hself:Looks (model prog w) ((h.push emptyDict).push (instObj 319 h.objs.size)) (isSubtype (.ref 319) (.ref 319)) true:=(makes_of (M:=model prog w) X1 DZy).self
 have hinit:Looks (model prog w) ((h.push emptyDict).push (instObj 319 h.objs.size)) (typeLookup (.ref 319) "__init__") (some (.ref 264)):=looks_findIn X1 HZ5
 have hb:=bind_fn (M:=model prog w) X1 (f:=264) (.ref (h.objs.size+1)) (by kernel_rfl)
 show wpC _ _ _ _ _ _
 have hinst:Looks (model prog w) ((h.push emptyDict).push (instObj 319 h.objs.size)) (isInstance (.ref (h.objs.size+1)) (.ref 319)) true:=by
  unfold isInstance;exact t1.andThen hself
 have hspec:Looks (model prog w) ((h.push emptyDict).push (instObj 319 h.objs.size)) (specialOf (.ref (h.objs.size+1)) "__init__") (some (.ref 264)):=by
  unfold specialOf;exact t1.andThen hinit
 refine YZa (YZb (hinst.here ?_))
 refine VZf rfl ?_
 refine YZa (YZe ?_)
 simp only [callSpecial?]
 refine YZa (YZb (hspec.here ?_))
 dsimp only
 refine YZe (YZa (YZb (hb.here ?_)))
 refine YZa (YZf (hi _ (h.objs.size+1) h.objs.size g1 (Heap.get?_none_of_le (Nat.le_succ _)) (Heap.get?_none_of_le (Nat.le_refl _)) (Nat.succ_ne_self _) hx ⟨[],0,hdx,.nil⟩) (fun v s2 q=>?_) fun _ _ q=>q)
 obtain ⟨rfl,q⟩:=q
 refine YZc ?_
 dsimp only
 refine VZf rfl ?_
 exact YZc q
end
structure CvP (h:Heap) (x dx ca:Addr) (ras:List Addr) (ht:Nat):Prop where
 len:ras.length=ht
 nd:ras.Nodup
 car:ca∉ras
 off:∀ b∈x::dx::ca::ras,h.get? b=none
 xd:x≠dx
section
variable {prog:Program} {w:World} {A:Around} {env:Env} {h₀:Heap} {μ:Str->Option Value} {P:HP} {pos fp:Pos} {e1 e2:PySem.Expr} {wd ht:Nat} {R:HP} {W:List Addr}
theorem EvP.canvas (F:Fx (KK w.params) env h₀) (hR:Sf W R) (hw:0<wd/\wd<=100) (hh:0<ht/\ht<=100) (hA:Room 4 A) (hf:Ev (model prog w) A env (Pc env h₀ μ R) (.Name "Canvas" fp) (.ref 319)) (h1:Ev (model prog w) A env (Pc env h₀ μ R) e1 (I wd)) (h2:Ev (model prog w) A env (Pc env h₀ μ R) e2 (I ht))
  (he:autoParam (eval (.Call (.Name "Canvas" fp) [e1,e2] [] pos) env=(do let f <- eval (.Name "Canvas" fp) env;callWith pos f [] (backTo pos (starEach [e1,e2] env)) [])) tR)
  (he2:autoParam (starEach [e1,e2] env=(false,eval e1 env)::starEach [e2] env) tR) (he3:autoParam (starEach [e2] env=(false,eval e2 env)::starEach [] env) tR) (hpl:autoParam ((backTo pos (starEach [e1,e2] env)).any (·.1)=false) tR) :
  EvP (model prog w) A env (Pc env h₀ μ R) (.Call (.Name "Canvas" fp) [e1,e2] [] pos) (fun v h'=>∃ x dx ca ras,v=.ref x/\(∃ h,Pc env h₀ μ R h/\CvP h x dx ca ras ht)/\h'.get? x=some (instObj 319 dx)/\DictAt (XZz wd ht ca) h' dx/\XZs wd ht ca ras h'):=fun s Q E p k=>by
 refine YZx (hf s _ E p fun v h1' tk1 q=>?_) he
 refine sE (YZh q.1) ?_
 refine VZx hpl ?_
 refine DZb (s:={ s with heap:=h1',toks:=tk1 }) (Evs.cons h1 (Evs.cons h2 Evs.nil he3) he2) q.2 (fun vs h2' tk2 ev y=>?_) he2
 have X:=F.gd.inK.keeps y.1.keep
 refine ⟨fun Q hq=>?_,?_⟩
 ·have Y:=makes_of (M:=model prog w) X DZy
  obtain ⟨⟨oc,od,cd,sl,hC,_⟩,_,_,_,_,hcall,_⟩:=Y
  unfold keeperOf
  refine wpAny_bind (wpAny_load hC ?_)
  exact wpAny_bind (Looks.here (s:={ s with heap:=h2',toks:=tk2 }) hcall (wpAny_pure hq))
 ·refine c_call319 (s:={ s with heap:=h2',toks:=tk2 }) X fun h3 x dx g hnx hnd hxd hx hd=>?_
  have hn0:∀ b∈[x,dx],h₀.get? b=none:=fun b hb=>by
   cases e:h₀.get? b with
   | none=>rfl
   | some o =>
    have:=y.1.keep b o e
    rcases mC hb with rfl | hb
    ·rw [hnx] at this;cases this
    ·rw [mS hb,hnd] at this;cases this
  have G2:Gd (KK w.params) (hideAll h3 [x,dx]):=F.gd.keeps (VZ1 (y.1.keep.trans g) hn0)
  refine YZy (fn_init hw hh hxd _ _ _ (.ref x::([]++vs)) (hA.mk319 (n:=3)) G2 ⟨hx,hd⟩ (by refine sE List.map_cons (sE (List.nil_append ..) (sE ev ?_));rfl) fun v' h4 tk4 g4 r=>?_)
  obtain ⟨e0,ca,ras,pu,hx4,hd4,hc4⟩:=r
  have keep:Grows h2' h4:=fun b o e=>g4 b o (hideAll_get _ (g b o e) fun hb=>by
   rcases mC hb with rfl | hb
   ·rw [hnx] at e;cases e
   ·rw [mS hb,hnd] at e;cases e)
  have back:∀ b,h3.get? b=none->h2'.get? b=none:=fun b e=>by
   cases q:h2'.get? b with
   | none=>rfl
   | some o=>rw [g b o q] at e;cases e
  refine ⟨UZj e0,k (.ref x) h4 tk4 ⟨⟨x,dx,ca,ras,rfl,⟨h2',y,⟨pu.1,pu.2.1,pu.2.2.1,?_,hxd⟩⟩,hx4,hd4,hc4⟩,(F.cx hR).grow _ _ keep y⟩⟩
  intro b hb
  rcases mC hb with rfl | hb
  ·exact hnx
  rcases mC hb with rfl | hb
  ·exact hnd
  ·exact back b (pu.2.2.2 b hb)
end
end
section
open PySem.SeqAt
noncomputable def colD (c:List Int):PyData:=.tuple (c.map .int)
noncomputable def rowD (r:List (List Int)):PyData:=.list (r.map colD)
noncomputable def imgD (wd ht:Nat) (rows:List (List (List Int))):PyData:=.tuple [.int wd,.int ht,.list (rows.map rowD)]
theorem NZu {α:Type} (f:α->PyData) (h:∀ x,(f x).canLay0=true):∀ l:List α,PyData.canLayAll0 (l.map f)=true
 | []=>by simp [PyData.canLayAll0]
 | a::l=>by refine sE List.map_cons ?_;unfold PyData.canLayAll0;refine sE (h ..) (sE (NZu f h l) ?_);rfl
theorem NZr {α:Type} (f:α->PyData) (n:Nat) (h:∀ x,(f x).depth<=n):∀ l:List α,PyData.depthAll (l.map f)<=n
 | []=>by simp [PyData.depthAll]
 | a::l=>by
  have h1:=h a
  have h2:=NZr f n h l
  refine sE List.map_cons ?_;unfold PyData.depthAll;lia
theorem can_int (i:Int):(PyData.int i).canLay0=true:=by unfold PyData.canLay0;rfl
theorem can_col (c:List Int):(colD c).canLay0=true:=by unfold colD PyData.canLay0;exact NZu _ can_int c
theorem can_row (r:List (List Int)):(rowD r).canLay0=true:=by unfold rowD PyData.canLay0;exact NZu _ can_col r
theorem dep_int (i:Int):(PyData.int i).depth<=2:=by unfold PyData.depth;exact Nat.zero_le _
theorem dep_col (c:List Int):(colD c).depth<=4:=by
 have:=NZr PyData.int 2 dep_int c
 unfold colD PyData.depth;exact tzN
theorem dep_row (r:List (List Int)):(rowD r).depth<=6:=by
 have:=NZr colD 4 dep_col r
 unfold rowD PyData.depth;exact tzN
theorem can_img (wd ht:Nat) (rows:List (List (List Int))):(imgD wd ht rows).canLay0=true:=by
 have h:=NZu rowD can_row rows
 unfold imgD
 simp only [PyData.canLay0,PyData.canLayAll0,h,Bool.and_true]
theorem VZ6 (wd ht:Nat) (rows:List (List (List Int))):shaped (imgD wd ht rows)=true:=by
 have h:=NZr rowD 6 dep_row rows
 have hd:(imgD wd ht rows).depth<=64:=by
  unfold imgD
  simp only [PyData.depth,PyData.depthAll]
  lia
 unfold shaped
 refine sE (can_img ..) (sE (decide_eq_true hd) ?_);rfl
theorem VZt {α:Type} (f:α->PyData) (h:∀ x,PyData.eqv (f x) (f x)=true):∀ l:List α,PyData.eqvAll (l.map f) (l.map f)=true
 | []=>by simp [PyData.eqvAll]
 | a::l=>by simp [PyData.eqvAll,h a,VZt f h l]
theorem eqv_int (i:Int):PyData.eqv (.int i) (.int i)=true:=by simp [PyData.eqv]
theorem eqv_col (c:List Int):PyData.eqv (colD c) (colD c)=true:=by
 have:=VZt PyData.int eqv_int c
 unfold colD;simp only [PyData.eqv,this]
theorem eqv_row (r:List (List Int)):PyData.eqv (rowD r) (rowD r)=true:=by
 have:=VZt colD eqv_col r
 unfold rowD;simp only [PyData.eqv,this]
theorem eqv_img (wd ht:Nat) (rows:List (List (List Int))):PyData.eqv (imgD wd ht rows) (imgD wd ht rows)=true:=by
 have:=VZt rowD eqv_row rows
 unfold imgD;simp [PyData.eqv,PyData.eqvAll,this]
theorem KZz {h:Heap}:∀ {vs:List Value} {ks:List Int},vs.map tk0=ks.map I->∃ as,ReadsAll h vs (ks.map PyData.int) as
 | [],[],_=>⟨_,.nil⟩
 | [],_::_,e=>by cases e
 | _::_,[],e=>by cases e
 | v::vs,k::ks,e=>by
  obtain ⟨e1,e2⟩:=List.cons.inj e
  obtain ⟨t,rfl⟩:=HZb e1
  obtain ⟨as,r⟩:=KZz e2
  exact ⟨_,.cons (.int k t) r⟩
theorem reads_col {h:Heap} {a:Addr} {c:List Int} (x:TpAt h a (c.map I)):∃ as,Reads h (.ref a) (colD c) as:=by
 refine J0 x fun vs z01 e=>?_;clear x;refine J7 z01 fun o ho hc n hd=>?_;clear z01
 obtain ⟨as,r⟩:=KZz (h:=h) e
 exact ⟨as,.tuple ho hc hd r⟩
theorem UZ4 {α:Type} {h:Heap} {f:α->PyData} (d0:α):∀ {as:List Addr} {l:List α},as.length=l.length->(∀ i,i<l.length->∃ bs,Reads h (.ref (as.getD i 0)) (f (l.getD i d0)) bs)->∃ bs,ReadsAll h (as.map Value.ref) (l.map f) bs
 | [],[],_,_=>⟨_,.nil⟩
 | [],_::_,e,_=>by cases e
 | _::_,[],e,_=>by cases e
 | a::as,x::l,e,hr=>by
  obtain ⟨b1,r1⟩:=hr 0 (Nat.succ_pos _)
  obtain ⟨b2,r2⟩:=UZ4 d0 (as:=as) (l:=l) (Nat.succ.inj e) fun i hi=>hr (i+1) (Nat.succ_lt_succ hi)
  exact ⟨_,.cons r1 r2⟩
theorem GZ1:∀ {vs:List Value} {as:List Addr},vs.map tk0=as.map Value.ref->vs=as.map Value.ref
 | [],[],_=>rfl
 | [],_::_,e=>by cases e
 | _::_,[],e=>by cases e
 | v::vs,a::as,e=>by
  obtain ⟨e1,e2⟩:=List.cons.inj e
  refine sE (YZh e1) (sE (GZ1 e2) ?_);rfl
theorem reads_row {h:Heap} {a:Addr} {r:List (List Int)} (x:RowAt h a r):∃ as,Reads h (.ref a) (rowD r) as:=by
 refine J1 x fun as z01 hn ht=>?_;clear x;refine J0 z01 fun vs z11 e=>?_;clear z01;obtain ⟨n,hl⟩:=z11
 obtain rfl:=GZ1 e
 obtain ⟨bs,rb⟩:=UZ4 (h:=h) (f:=colD) [] hn fun i hi=>reads_col (ht i hi)
 exact ⟨_,.list hl rfl rfl rb⟩
theorem UZs {h:Heap} {t r:Addr} {wd ht:Nat} {rows:List (List (List Int))} (x:TpAt h t [I wd,I ht,.ref r]) (y:RowsAt h r rows):∃ as,Reads h (.ref t) (imgD wd ht rows) as:=by
 refine J1 y fun as z01 hn hr=>?_;clear y;refine J0 z01 fun vs z11 e=>?_;clear z01;obtain ⟨n,hl⟩:=z11
 obtain rfl:=GZ1 e
 obtain ⟨bs,rb⟩:=UZ4 (h:=h) (f:=rowD) [] hn fun i hi=>reads_row (hr i hi)
 refine J0 x fun us z01 e2=>?_;clear x;refine J7 z01 fun o ho hc n2 hd=>?_;clear z01
 have hl3:us.length=3:=by have:=congrArg List.length e2;rw [List.length_map] at this;exact this
 revert e2 hd
 refine ar3 us hl3 fun u1 u2 u3 e2 hd=>?_
 ·obtain ⟨e0,e3⟩:=List.cons.inj e2
  obtain ⟨e1,e4⟩:=List.cons.inj e3
  have e5:=(List.cons.inj e4).1
  clear e2 e3 e4
  obtain ⟨t1,rfl⟩:=HZb e0
  obtain ⟨t2,rfl⟩:=HZb e1
  rw [YZh e5] at hd
  exact ⟨_,.tuple ho hc hd (.cons (.int _ t1) (.cons (.int _ t2) (.cons (.list hl rfl rfl rb) .nil)))⟩
section
variable {prog:Program} {w:World} {A:Around} {s:Shared} {E:Value->Shared->Prop} {t u r q:Addr} {wd ht:Nat} {rows:List (List (List Int))} {Q:Value->Shared->Prop}
theorem eq_img (x:TpAt s.heap t [I wd,I ht,.ref r]) (y:RowsAt s.heap r rows) (x':TpAt s.heap u [I wd,I ht,.ref q]) (y':RowsAt s.heap q rows) (hu:A.units+64<cLine) (h:Q (.bool true) s):wpAny (model prog w) A (compareOp .Eq (.ref t) (.ref u)) Q E s:=by
 obtain ⟨as,ra⟩:=UZs x y
 obtain ⟨bs,rb⟩:=UZs x' y'
 exact eq_dataH ra rb (VZ6 _ _ _) (VZ6 _ _ _) hu (by refine sE (eqv_img ..) ?_;exact h)
theorem ne_img (x:TpAt s.heap t [I wd,I ht,.ref r]) (y:RowsAt s.heap r rows) (x':TpAt s.heap u [I wd,I ht,.ref q]) (y':RowsAt s.heap q rows) (hu:A.units+64<cLine) (h:Q (.bool false) s):wpAny (model prog w) A (compareOp .NotEq (.ref t) (.ref u)) Q E s:=by
 obtain ⟨as,ra⟩:=UZs x y
 obtain ⟨bs,rb⟩:=UZs x' y'
 exact ne_dataH ra rb (VZ6 _ _ _) (VZ6 _ _ _) hu (by refine sE (eqv_img ..) ?_;exact h)
end
end
section
open PySem.SeqAt
theorem InB.set {l:List Int} {i:Nat} {v:Int} (h:InB l) (h0:0<=v) (h1:v<256):InB (l.set i v):=fun k hk=>by
 rcases List.mem_or_eq_of_mem_set hk with q | rfl
 ·exact h k q
 ·exact ⟨h0,h1⟩
theorem GZ7 {l:List Int} {i:Nat} {v:Int} (h:i<l.length):(l.set i v).getD i 0=v:=by
 refine sE List.getD_eq_getElem?_getD (sE (List.getElem?_set_self h) ?_);rfl
theorem BZn {l:List Int} {i j:Nat} {v:Int} (h:i≠j):(l.set i v).getD j 0=l.getD j 0:=by
 exact sE List.getD_eq_getElem?_getD (sE (List.getElem?_set_ne h) (sE List.getD_eq_getElem?_getD rfl))
theorem g32 {a b c d:Int} (ha:0<=a/\a<256) (hb:0<=b/\b<256) (hc:0<=c/\c<256) (hd:0<=d/\d<256):YZz [a,b,c,d] 0=((a*256+b)*256+c)*256+d:=by
 unfold YZz
 show Builtin.bitOr (Builtin.bitOr (Builtin.bitOr (a*2 ^ 24) (b*2 ^ 16)) (c*2 ^ 8)) d=_
 have e1:Builtin.bitOr (a*2 ^ 24) (b*2 ^ 16)=(a*256+b)*2 ^ 16:=by
  refine sE (VZr (by lia) (by lia) (by lia)) ?_;lia
 have e2:Builtin.bitOr ((a*256+b)*2 ^ 16) (c*2 ^ 8)=((a*256+b)*256+c)*2 ^ 8:=by
  refine sE (VZr (by lia) (by lia) (by lia)) ?_;lia
 refine sE e1 (sE e2 (sE (VZr (by lia) (by lia) (by lia)) ?_));lia
theorem g32_turn {c:List Int} {i:Nat} {v:Int} (hl:c.length=4) (hb:InB c) (hi:i<4) (h0:0<=v) (h1:v<256) (hv:v≠c.getD i 0):YZz (c.set i v) 0≠YZz c 0:=by
 obtain ⟨x,y,z,t,rfl⟩:∃ x y z t,c=[x,y,z,t]:=ar4 c hl fun x y z t=>⟨x,y,z,t,rfl⟩
 ·have hx:=hb x (by exact mm0);have hy:=hb y (by exact mm1);have hz:=hb z (by exact mm2);have ht:=hb t (by exact mm3)
  revert hv
  refine lt4 i hi ?_ ?_ ?_ ?_ <;> intro hv
  ·have hv:v≠x:=hv
   show YZz [v,y,z,t] 0≠_
   refine sE (g32 ⟨h0,h1⟩ hy hz ht) (sE (g32 hx hy hz ht) ?_);lia
  ·have hv:v≠y:=hv
   show YZz [x,v,z,t] 0≠_
   refine sE (g32 hx ⟨h0,h1⟩ hz ht) (sE (g32 hx hy hz ht) ?_);lia
  ·have hv:v≠z:=hv
   show YZz [x,y,v,t] 0≠_
   refine sE (g32 hx hy ⟨h0,h1⟩ ht) (sE (g32 hx hy hz ht) ?_);lia
  ·have hv:v≠t:=hv
   show YZz [x,y,z,v] 0≠_
   refine sE (g32 hx hy hz ⟨h0,h1⟩) (sE (g32 hx hy hz ht) ?_);lia
theorem seg_turn {g:Sg} {i:Nat} {v:Int} (hg:SgOk g) (hs:Sound g) (hi:i<g.1.length+4) (h0:0<=v) (h1:v<256) (hv:v≠(g.1++g.2).getD i 0) :
  ∃ g':Sg,(g.1++g.2).set i v=g'.1++g'.2/\g'.1.length=g.1.length/\SgOk g'/\¬ Sound g':=by
 obtain ⟨t,c⟩:=g
 obtain ⟨tb,cb,tl,tz,cl⟩:=hg
 dsimp only at *
 by_cases hit:i<t.length
 ·have hvt:v≠t.getD i 0:=by
   rw [List.getD_eq_getElem?_getD,List.getElem?_append_left hit,<- List.getD_eq_getElem?_getD] at hv;exact hv
  refine ⟨(t.set i v,c),by exact sE List.set_append (sE (if_pos hit) rfl),by simp,⟨tb.set h0 h1,cb,by simpa using tl,by simpa using tz,cl⟩,fun q=>?_⟩
  have e1:=Sound.eq q
  have e2:=Sound.eq hs
  refine crc_ne tb (tb.set (i:=i) h0 h1) (by simp) hit (fun e=>hvt ?_) (fun j hj=>(BZn (Ne.symm hj)).symm) (e2.symm.trans e1)
  rw [GZ7 hit] at e;exact e.symm
 ·have hvc:v≠c.getD (i-t.length) 0:=by
   rw [List.getD_eq_getElem?_getD,List.getElem?_append_right (by lia),<- List.getD_eq_getElem?_getD] at hv;exact hv
  refine ⟨(t,c.set (i-t.length) v),by exact sE List.set_append (sE (if_neg hit) rfl),rfl,⟨tb,cb.set h0 h1,tl,tz,by simpa using cl⟩,fun q=>?_⟩
  have e1:=Sound.eq q
  have e2:=Sound.eq hs
  exact g32_turn cl cb (by lia) h0 h1 hvc (e1.trans e2.symm)
theorem mem_plc {p n:Nat} {k:Int} (h:k∈plc p n):∃ i,i<n/\k=((p+i:Nat):Int):=by
 refine J0 (List.mem_map.mp h) ?_;rintro i hi rfl
 exact ⟨i,List.mem_range.mp hi,by lia⟩
theorem HZd:∀ {gs:List Sg} {p:Nat} {k:Int},(∀ g∈gs,SgOk g)->(∀ g∈gs,Sound g)->k∈VZe p gs ->
  ∃ n:Nat,k=((p+n:Nat):Int)/\n<(YZq gs).length/\∀ v:Int,0<=v->v<256->v≠(YZq gs).getD n 0->∃ gs',(YZq gs).set n v=YZq gs'/\(∀ g∈gs',SgOk g)/\gs'.length=gs.length/\¬ ∀ g∈gs',Sound g
 | [],_,_,_,_,h=>nomatch h
 | g::gs,p,k,hg,hs,h=>by
  have hgg:=hg g (List.mem_cons_self ..)
  have hgs:=hs g (List.mem_cons_self ..)
  have eo:YZq (g::gs)=sgO g++YZq gs:=rfl
  have hlen:=VZq hgg
  have h4:(YZp ((g.1.length:Int)-4)).length=4:=rfl
  have hcl:=hgg.cl
  rcases mA h with h | h
  ·refine J0 (mem_plc h) ?_;rintro i hi rfl
   refine ⟨4+i,by lia,by refine sE eo (sE List.length_append (sE hlen ?_));lia,fun v h0 h1 hv=>?_⟩
   have hin:4+i<(sgO g).length:=by refine sE hlen ?_;lia
   have hvi:v≠(g.1++g.2).getD i 0:=by
    have e:(YZq (g::gs)).getD (4+i) 0=(g.1++g.2).getD i 0:=by
     refine sE eo (sE List.getD_eq_getElem?_getD (sE (List.getElem?_append_left hin) ?_))
     unfold sgO
     exact sE (List.getElem?_append_right (by rw [h4];exact Nat.le_add_right _ _)) (sE h4 (sE (Nat.add_sub_cancel_left ..) (sF List.getD_eq_getElem?_getD rfl)))
    rw [e] at hv;exact hv
   refine J6 (seg_turn hgg hgs hi h0 h1 hvi) fun g' e1 e2 e3 e4=>?_
   refine ⟨g'::gs,?_,fun x hx=>?_,rfl,fun q=>e4 (q g' (List.mem_cons_self ..))⟩
   ·refine sE eo (sE List.set_append (sE (if_pos hin) ?_))
    show (YZp _++(g.1++g.2)).set (4+i) v++_=(YZp _++(g'.1++g'.2))++_
    refine sE List.set_append (sE (if_neg (by rw [h4];lia)) (sE h4 (sE (Nat.add_sub_cancel_left ..) (sE e1 (sE e2 ?_)))));rfl
   ·rcases mC hx with rfl | hx
    ·exact e3
    ·exact hg x (List.mem_cons_of_mem _ hx)
  ·refine J1 (HZd (gs:=gs) (fun x hx=>hg x (List.mem_cons_of_mem _ hx)) (fun x hx=>hs x (List.mem_cons_of_mem _ hx)) h) fun n e1 e2 e3=>?_
   refine ⟨(sgO g).length+n,by refine sE e1 (sE hlen ?_);lia,by rw [eo,List.length_append];lia,fun v h0 h1 hv=>?_⟩
   have hvi:v≠(YZq gs).getD n 0:=by
    rw [eo,List.getD_eq_getElem?_getD,List.getElem?_append_right (by exact Nat.le_add_right _ _),Nat.add_sub_cancel_left,<- List.getD_eq_getElem?_getD] at hv;exact hv
   refine J6 (e3 v h0 h1 hvi) fun gs' f1 f2 f3 f4=>?_
   refine ⟨g::gs',?_,fun x hx=>?_,by simp [f3],fun q=>f4 fun x hx=>q x (List.mem_cons_of_mem _ hx)⟩
   ·refine sE eo (sE List.set_append (sE (if_neg (by lia)) (sE (Nat.add_sub_cancel_left ..) (sE f1 ?_))));rfl
   ·rcases mC hx with rfl | hx
    ·exact hgg
    ·exact f2 x hx
theorem png_turn {gs:List Sg} {k:Int} (hg:∀ g∈gs,SgOk g) (hs:∀ g∈gs,Sound g) (hk:k∈XZo gs) :
  ∃ n:Nat,k=(n:Int)/\n<(sgZ++YZq gs).length/\∀ v:Int,0<=v->v<256->v≠(sgZ++YZq gs).getD n 0 ->
   ∃ sg' gs',(sgZ++YZq gs).set n v=sg'++YZq gs'/\InB sg'/\sg'.length=8/\(∀ g∈gs',SgOk g)/\gs'.length=gs.length/\¬ (sg'=sgZ/\∀ g∈gs',Sound g):=by
 have h8:sgZ.length=8:=rfl
 rcases mA hk with h | h
 ·refine J0 (mem_plc h) ?_;rintro i hi rfl
  refine ⟨i,by lia,by refine sE List.length_append (sE h8 ?_);lia,fun v h0 h1 hv=>⟨sgZ.set i v,gs,by exact sE List.set_append (sE (if_pos (by rw [h8];exact hi)) rfl),KZy.set h0 h1,by simp [h8],hg,rfl,fun q=>?_⟩⟩
  rw [List.getD_eq_getElem?_getD,List.getElem?_append_left (by refine sE h8 ?_;exact hi),<- List.getD_eq_getElem?_getD] at hv
  have e:=GZ7 (l:=sgZ) (i:=i) (v:=v) (by refine sE h8 ?_;exact hi)
  rw [q.1] at e
  exact hv e.symm
 ·refine J1 (HZd hg hs h) fun n e1 e2 e3=>?_
  refine ⟨8+n,e1,by refine sE List.length_append (sE h8 ?_);lia,fun v h0 h1 hv=>?_⟩
  have hvi:v≠(YZq gs).getD n 0:=by
   rw [List.getD_eq_getElem?_getD,List.getElem?_append_right (by refine sE h8 ?_;exact Nat.le_add_right _ _),h8,Nat.add_sub_cancel_left,<- List.getD_eq_getElem?_getD] at hv;exact hv
  refine J6 (e3 v h0 h1 hvi) fun gs' f1 f2 f3 f4=>?_
  exact ⟨sgZ,gs',by exact sE List.set_append (sE (if_neg (by rw [h8];lia)) (sE h8 (sE (Nat.add_sub_cancel_left ..) (sE f1 rfl)))),KZy,h8,f2,f3,fun q=>f4 q.2⟩
theorem bit_turn {x:Int} {b:Nat} (h0:0<=x) (h1:x<256) (hb:b<8):(0<=Builtin.bitXor x (2 ^ b)/\Builtin.bitXor x (2 ^ b)<256)/\Builtin.bitXor x (2 ^ b)≠x:=by
 obtain ⟨n,rfl⟩:=Int.eq_ofNat_of_zero_le h0
 have hn:n<256:=by lia
 have e:Builtin.bitXor (n:Int) (2 ^ b)=((n ^^^ 2 ^ b:Nat):Int):=by
  have:=xorN n (2 ^ b)
  refine sF this ?_;push_cast;rfl
 have hp:2 ^ b<2 ^ 8:=Nat.pow_lt_pow_right (by decide) hb
 have hx:n ^^^ 2 ^ b<2 ^ 8:=Nat.xor_lt_two_pow (n:=8) hn hp
 refine sE e ?_
 refine ⟨⟨by exact Int.natCast_nonneg _,by exact clN⟩,fun q=>?_⟩
 have q2:n ^^^ 2 ^ b=n:=by exact_mod_cast q
 have q3:n ^^^ 2 ^ b=n ^^^ 0:=by exact sE q2 (sE (Nat.xor_zero ..) rfl)
 have q4:=VZh q3
 have:0<2 ^ b:=Nat.pow_pos (by decide)
 lia
theorem DZh {l:List Int} {n:Nat} {v:Int} (h:n<l.length):l.take n++[v]++l.drop (n+1)=l.set n v:=by
 refine sE List.set_eq_take_append_cons_drop (sE (if_pos h) ?_);simp
end
section
open PySem.SeqAt
section
variable {prog:Program} {w:World} {A:Around} {env:Env} {K:Frag} {h₀:Heap} {μ:Str->Option Value} {P P':HP} {rest b1:List Stmt} {N:HP} {Rt X:Value->HP} {pos p1 fp ap:Pos} {e o l r:PySem.Expr} {es:List PySem.Expr} {R R':HP} {W:List Addr} {x:Str} {c:Addr} {i:Int} {cs:List Value} {a:Value} {f:Addr} {n:Nat} {Pre:HP} {Post:Value->Heap->Heap->Prop}
theorem EvP.addK {q:Int->Prop} (hl:Ev (model prog w) A env P l (I i)) (hr:EvP (model prog w) A env P r (fun v _=>∃ k,v=I k/\q k)):EvP (model prog w) A env P (.BinOp l .Add r pos) (fun v _=>∃ k,v=I (i+k)/\q k):=fun s Q E p k =>
 KZq (hl s _ E p fun v h1 tk1 x=>hr _ _ E x.2 fun u h2 tk2 y=>by
  refine tkI x.1 fun t=>?_
  obtain ⟨⟨k',e,hk⟩,p2⟩:=y
  refine tkI e fun t2=>?_
  exact YZb (add_int (k _ h2 _ ⟨⟨k',rfl,hk⟩,p2⟩)))
theorem Tr.eqK (hl:EvP (model prog w) A env P l (fun v _=>∃ k,v=I k)) (hr:Ev (model prog w) A env P r (I i)) (hm:autoParam (behindInMarks .Eq r=false) tW) :
  Tr (model prog w) A P (isTrue (.Compare l [.Eq] [r] pos) env (eval (.Compare l [.Eq] [r] pos) env)) (fun _ h=>P h):=fun s Q E p k =>
 XZf (hl s _ E p fun v h1 tk1 x=>hr _ _ E x.2 fun u h2 tk2 y=>by
  obtain ⟨⟨k',e⟩,_⟩:=x
  refine tkI e fun t=>?_
  refine tkI y.1 fun t2=>?_
  exact YZb (eq_int (YZb (wpAny_truthy_bool (k _ h2 _ y.2))))) hm
theorem Xs.iteA (ht:Tr (model prog w) A P (isTrue e env (eval e env)) (fun _ h=>P' h)) (h1:Xs (model prog w) A env P' b1 (fun _=>False) Rt X) (hr:Xs (model prog w) A env P' rest N Rt X):Xs (model prog w) A env P (.If e b1 [] pos::rest) N Rt X:=fun s Q E p k1 k2 k3=>by
 refine YZk (c_If (ht s _ E p fun v h' tk z=>?_))
 cases v with
 | true=>exact h1 _ _ E z (fun _ _ n=>n.elim) k2 k3
 | false=>exact YZb (wpAny_execs_nil (hr _ Q E z k1 k2 k3))
theorem Tr.methM {own:List (Str×Value)} {no:List Str} {C xx:Addr} {name:Str} (F:Fx K env h₀) (hF:FnB prog w K f n (.ref xx::cs) W Pre Post) (hO:OffL env h₀ W) (hr:Room n A) (hv:Ev (model prog w) A env (Pc env h₀ μ R) o (.ref xx)) (ha:Evs (model prog w) A env (Pc env h₀ μ R) pos (e::es) cs) (ho:∀ h,Pc env h₀ μ R h->ObAt C h xx own no) (hno:name∈no) (hp:∀ h,Pc env h₀ μ R h->Pre h)
  (hV:∀ v h h',Pc env h₀ μ R h->Grows (hideAll h W) h'->Post v h h'->R' h')
  (hg:plainGet K C name=true) (hf:findIn K (.ref C) name=some (some (.ref f))) (ht:isFn K (.ref f)=true) (hd:(match K.lookup f with | some ⟨_,_,.func _,_⟩=>true | _=>false)=true)
  (hbase:autoParam (attributeBase o name env (eval o env)=eval o env) tR) (hline:autoParam ((ap.endLine==pos.line)=true) tR) (hfew:autoParam (methodCallForm ((e::es).length+([]:List Keyword).length) (backTo pos (starEach (e::es) env)) (backToKw pos (keywordEach [] env))=true) tR)
  (he2:autoParam (starEach (e::es) env=(false,eval e env)::starEach es env) tR) (hpl:autoParam ((backTo pos (starEach (e::es) env)).any (·.1)=false) tR) :
  Tr (model prog w) A (Pc env h₀ μ R) (eval (.Call (.Attribute o name ap) (e::es) [] pos) env) (fun _ h=>Pc env h₀ μ R' h):=fun s Q E p k=>by
 refine J2 (HZ0 hd) fun ob fd hk hdt=>?_
 refine sE (arm_eval_Call ..) (sE hbase ?_)
 refine YZa (hv s _ E p fun ov h1 tk1 q=>?_)
 refine sE (YZh q.1) ?_
 refine YZa (YZd ?_)
 refine KZl (ob:=ob) (fd:=fd) (s:={ s with heap:=h1,toks:=tk1 }) (F.gd.inK.keeps q.2.1.keep) (ho _ q.2) hno hg hf ht hfew hline hpl ?_
 refine DZb (s:={ s with heap:=h1,toks:=tk1 }) ha q.2 (fun vs h2 tk2 ev y=>?_) he2
 have G2:Gd K (hideAll h2 W):=F.gd.keeps (VZ1 y.1.keep hO.old)
 refine ⟨⟨(F.gd.keeps y.1.keep).inK _ _ hk,hdt⟩,YZy (hF _ _ _ (.ref xx::vs) hr G2 (hp _ y) (by refine sE List.map_cons (sE ev ?_);rfl) fun v h3 tk3 g q=>?_)⟩
 exact k v h3 tk3 ⟨hO.sf μ _ _ (XZg g) y.1,hV _ _ _ y g q⟩
theorem Xs.retR {fx:Str} {PostR:Value->Prop} {base:Heap} {outer:List Env} (Cx':Cx K env h₀ μ (Pc env h₀ μ R)) (B:Bw A base env outer h₀) (Gb:Gd K base) (hF:FnR prog w K f n cs Pre PostR) (hr:Room n A) (hf:Ev (model prog w) A env (Pc env h₀ μ R) (.Name fx fp) (.ref f)) (ha:Evs (model prog w) A env (Pc env h₀ μ R) pos (e::es) cs) (hp:∀ h,Pc env h₀ μ R h->Pre h)
  (hv:∀ v h,base.StaysIn h->PostR v->Rt v h)
  (hd:(match K.lookup f with | some ⟨_,_,.func _,_⟩=>true | _=>false)=true) (he:autoParam (eval (.Call (.Name fx fp) (e::es) [] pos) env=(do let f <- eval (.Name fx fp) env;callWith pos f [] (backTo pos (starEach (e::es) env)) [])) tR)
  (he2:autoParam (starEach (e::es) env=(false,eval e env)::starEach es env) tR) (hpl:autoParam ((backTo pos (starEach (e::es) env)).any (·.1)=false) tR) :
  Xs (model prog w) A env (Pc env h₀ μ R) (.Return (some (.Call (.Name fx fp) (e::es) [] pos)) p1::rest) N Rt X:=fun s Q E p k1 k2 k3=>by
 refine J2 (HZ0 hd) fun o fd ho hd'=>?_
 refine YZk (UZ0 (YZx (hf s _ E p fun v h1 tk1 x=>?_) he))
 refine sE (YZh x.1) ?_
 refine YZn (o:=o) (fd:=fd) hpl ?_
 refine DZb (s:={ s with heap:=h1,toks:=tk1 }) ha x.2 (fun vs h2 tk2 ev y=>?_) he2
 exact ⟨⟨(Cx'.gdh y).inK _ _ ho,hd'⟩,YZy (hF _ _ _ vs base (env::outer) hr (Cx'.gdh y) Gb (B.below y.1) (hp _ y) ev fun v h3 tk3 st q=>k2 v h3 tk3 (hv _ _ st q))⟩
theorem EvP.cmpV {op:CmpOp} {d:Bool} {V1:Value->HP} (hl:EvP (model prog w) A env P l V1) (hr:∀ v,Ev (model prog w) A env (fun h=>V1 v h/\P h) r a)
  (ho:∀ (s:Shared) (Q:Value->Shared->Prop) E v u,P s.heap->V1 (tk0 v) s.heap->tk0 u=a->(∀ x tk,tk0 x=.bool d->Q x { s with toks:=tk })->wpC (model prog w) A (compareOp op v u) Q E s)
  (hm:autoParam (behindInMarks op r=false) tW):Ev (model prog w) A env P (.Compare l [op] [r] pos) (.bool d):=fun s Q E p k =>
 DZc (hl s _ E p fun v h1 tk1 x=>hr (tk0 v) _ _ E x fun u h2 tk2 y=>ho _ _ _ _ _ y.2.2 y.2.1 y.1 fun z tk e=>k z _ tk ⟨e,y.2.2⟩) hm
theorem Tr.ex {α β:Type} {M:Model} {P:β->HP} {t:Sem α} {V:α->HP} (h:∀ z,Tr M A (P z) t V):Tr M A (fun h=>∃ z,P z h) t V:=fun s Q E ⟨z,p⟩ k=>h z s Q E p k
end
end
section
open PySem.SeqAt
noncomputable def RowsL (Wz:List Addr) (f:Nat->List (List Int)) (z:List (Addr×List Addr)) (i:Nat) (h:Heap):Prop :=
 (z.length=i/\∀ p∈z,p.1∉Wz/\∀ b∈p.2,b∉Wz)/\∀ j,j<i->RowX h (z.getD j (0,[])).1 (z.getD j (0,[])).2 (f j)
theorem RowsL.sf {Wz W:List Addr} {f:Nat->List (List Int)} {z:List (Addr×List Addr)} {i:Nat} (h:∀ b∈W,b∈Wz):Sf W (RowsL Wz f z i):=fun h1 h2 k x =>
 ⟨x.1,fun j hj=>by
  have m:z.getD j (0,[])∈z:=YZr (by refine sE x.1.1 ?_;exact hj)
  exact RowX.sf (fun q=>(x.1.2 _ m).1 (h _ q)) (fun b hb q=>(x.1.2 _ m).2 b hb (h _ q)) _ _ k (x.2 j hj)⟩
theorem RowsL.live {Wz:List Addr} {f:Nat->List (List Int)} {z:List (Addr×List Addr)} {i:Nat} {h:Heap} (x:RowsL Wz f z i h):∀ p∈z,(∃ o,h.get? p.1=some o)/\∀ b∈p.2,∃ o,h.get? b=some o:=fun p hp=>by
 refine J0 (VZs hp (0,[])) ?_;rintro j hj rfl
 exact (x.2 j (by refine sF x.1.1 ?_;exact hj)).live
theorem RowsL.new {P:HP} {Wz W:List Addr} {f:Nat->List (List Int)} {z:List (Addr×List Addr)} {i:Nat} (hW:∀ b∈W,New P b) (hP:∀ h,P h->RowsL Wz f z i h):Sf W (RowsL Wz f z i):=fun h1 h2 k x =>
 ⟨x.1,fun j hj=>by
  have m:z.getD j (0,[])∈z:=YZr (by refine sE x.1.1 ?_;exact hj)
  exact RowX.sf (New.of_live hW fun h p=>((hP h p).live _ m).1) (fun b hb=>New.of_live hW fun h p=>((hP h p).live _ m).2 b hb) _ _ k (x.2 j hj)⟩
theorem RowsL.push {Wz:List Addr} {f:Nat->List (List Int)} {z:List (Addr×List Addr)} {i:Nat} {h:Heap} {D:Addr} {bs:List Addr} (x:RowsL Wz f z i h) (hD:D∉Wz) (hb:∀ b∈bs,b∉Wz) (r:RowX h D bs (f i)):RowsL Wz f (z++[(D,bs)]) (i+1) h:=by
 refine ⟨⟨by refine sE List.length_append (sE x.1.1 ?_);rfl,fun p hp=>?_⟩,fun j hj=>?_⟩
 ·rcases mA hp with hp | hp
  ·exact x.1.2 p hp
  ·refine sE (mS hp) ?_;exact ⟨hD,hb⟩
 ·by_cases e:j<i
  ·refine sE List.getD_eq_getElem?_getD (sE (List.getElem?_append_left (by rw [x.1.1];exact e)) (sF List.getD_eq_getElem?_getD ?_));exact x.2 j e
  ·obtain rfl:j=i:=by lia
   refine sE List.getD_eq_getElem?_getD (sE (List.getElem?_append_right (by rw [x.1.1];exact Nat.le_refl _)) (sE x.1.1 (sE (Nat.sub_self ..) ?_)));exact r
theorem RowsL.told {Wz:List Addr} {f:Nat->List (List Int)} {z:List (Addr×List Addr)} {n:Nat} {h:Heap} {D:Addr} (l:LsAt h D (z.map fun p=>Value.ref p.1)) (x:RowsL Wz f z n h):RowsE ((List.range n).map f) (D,z.map (·.1),z.map (·.2)) h:=by
 refine ⟨⟨by simp [x.1.1],by simp [x.1.1]⟩,by refine sE List.map_map ?_;exact l,fun i hi=>?_⟩
 simp only [List.length_map,List.length_range] at hi
 have:=x.2 i hi
 have hz:i<z.length:=by refine sE x.1.1 ?_;exact hi
 rw [List.getD_eq_getElem?_getD,List.getElem?_eq_getElem hz] at this
 simp only [List.getD_eq_getElem?_getD,List.getElem?_map,List.getElem?_eq_getElem hz,List.getElem?_range hi]
 exact this
section
variable {prog:Program} {w:World} {A:Around} {env:Env} {K:Frag} {h₀:Heap} {μ:Str->Option Value} {P:HP} {pos pos2 p1 p2 p3 p4:Pos} {elt iter:PySem.Expr} {scope1 scope2:Scope} {cl1 cl2:List (Str×Addr)} {rs:List (List (List Int))} {y:Yr} {φ:List Int->List Int}
theorem EvP.mapRows (F:Fx K env h₀) (O1:CompOk env scope1 cl1 (fun env=>env.kindOf "row" = some .local)) (hcl:Cl env) (hh:A.handled=none) (he:Ev (model prog w) A env (Pc env h₀ μ P) iter (.ref y.1)) (hrows:∀ h,P h->RowsE rs y h)
  (hP:∀ W,(∀ b∈W,New (Pc env h₀ μ P) b)->Sf W P) (hPg:Sf [] P) (hz:rs.length<=10/\∀ r∈rs,r.length<=10)
  (O2:∀ C,CompOk (compEnvC scope1 cl1 C env) scope2 cl2 (fun env=>env.kindOf "colour" = some .local)) (hcl2:∀ C,New (Pc env h₀ μ P) C->Cl (compEnvC scope1 cl1 C env))
  (helt:∀ C C2 i j (B:HP),i<rs.length->j<(rs.getD i []).length->Fx K (compEnvC scope2 cl2 C2 (compEnvC scope1 cl1 C env)) h₀->Sf [] B->(∀ h,B h->P h) ->
   EvP (model prog w) A (compEnvC scope2 cl2 C2 (compEnvC scope1 cl1 C env)) (Pc (compEnvC scope2 cl2 C2 (compEnvC scope1 cl1 C env)) h₀ (up (cmu cl2 (up (cmu cl1 μ) "row" (.ref (y.2.1.getD i 0)))) "colour" (.ref ((y.2.2.getD i []).getD j 0))) B) elt
    (fun v h=>∃ t,v=.ref t/\New (Pc (compEnvC scope2 cl2 C2 (compEnvC scope1 cl1 C env)) h₀ (up (cmu cl2 (up (cmu cl1 μ) "row" (.ref (y.2.1.getD i 0)))) "colour" (.ref ((y.2.2.getD i []).getD j 0))) B) t/\TpAt h t ((φ ((rs.getD i []).getD j [])).map I)))
  (hs:autoParam (∀ v,foldedSetIterable iter env v=pure v) tI) (hs2:autoParam (∀ C v,foldedSetIterable (.Name "row" p2) (compEnvC scope1 cl1 C env) v=pure v) tJ) :
  EvP (model prog w) A env (Pc env h₀ μ P) (.ListComp (.ListComp elt [⟨.Name "colour" p1,.Name "row" p2,[],0⟩] scope2 pos2) [⟨.Name "row" p3,iter,[],0⟩] scope1 pos) (fun v h=>∃ D,v=.ref D/\RowsAt h D (rs.map fun r=>r.map φ)):=by
 refine Tr.post (Tr.comp (Y:=Unit) (V:=fun _ c _=>c=.ref y.1) (ok:=fun env=>env.kindOf "row" = some .local) (ns:=["row"]) F O1 hcl [] (fun h p b hb=>nomatch hb) OffL.nil (Tr.post he fun v h q=>⟨⟨(),q.1⟩,q.2⟩) (fun _=>(y.2.1.map Value.ref).length) (fun _ i μ=>up μ "row" ((y.2.1.map Value.ref).getD i .none)) (fun _=>[y.1])
  (fun _ v h q p=>SrcW.nm (c:=.ref y.1) (by refine sE (YZh q) ?_;exact Src.list hh (hrows h p.2).2.1) p q (fun b e=>by cases e;exact (hrows h p.2).2.1.live)) (fun _ _ _ _ _ _ _=>List.not_mem_nil) (fun _ c h q p=>by refine sE (List.length_map ..) (sE ((hrows h p.2).1.1) (sE sizeLine_eq ?_));have:=hz.1;exact tdN)
  (fun _ W i xs h=>P h/\∃ z:List (Addr×List Addr),xs=z.map (fun p=>Value.ref p.1)/\RowsL W (fun j=>(rs.getD j []).map φ) z i h) (fun _ i xs W hW h1 h2 k q=>⟨hP W hW _ _ k q.1,J0 q.2 fun z e r=>⟨z,e,RowsL.sf (fun b hb=>hb) _ _ k r⟩⟩) (fun h h' g p=>hPg.grow g p) (fun _ _=>true)
  (fun _ c h h' q g p W hW=>⟨p,[],rfl,⟨rfl,fun _ h=>nomatch h⟩,fun j hj=>absurd hj (Nat.not_lt_zero _)⟩) (fun _ W hW i xs B C hC hF hi hB hB2 hlv hst=>fun s Q E p kk=>XZd (kk true s.heap s.toks ⟨rfl,p⟩)) (fun _ W hW i xs B C hC hF hi htb hB hB2 hlv hst=>?_) (fun _ W i xs h hi e=>nomatch e) hs) fun v h q=>?_
 ·refine Tr.pre (P:=fun h=>∃ z:List (Addr×List Addr),xs=z.map (fun p=>Value.ref p.1)/\Pc (compEnvC scope1 cl1 C env) h₀ (up (cmu cl1 μ) "row" ((y.2.1.map Value.ref).getD i .none)) (fun h=>B h/\P h/\RowsL W (fun j=>(rs.getD j []).map φ) z i h) h) (Tr.ex fun z=>?_) (fun h p=>let ⟨lo,b,pp,z,e,r⟩:=p;⟨z,e,lo,b,pp,r⟩)
  rw [List.length_map] at hi
  refine sE (XZh hi) ?_
  by_cases ez:xs=z.map fun p=>Value.ref p.1
  ·have hB':Sf [] (fun h=>B h/\P h/\RowsL W (fun j=>(rs.getD j []).map φ) z i h):=Sf.and hB (Sf.and hPg (RowsL.sf fun b hb=>nomatch hb))
   refine Tr.pre (P:=Pc (compEnvC scope1 cl1 C env) h₀ (up (cmu cl1 μ) "row" (.ref (y.2.1.getD i 0))) (fun h=>B h/\P h/\RowsL W (fun j=>(rs.getD j []).map φ) z i h)) ?_ (fun h p=>p.2)
   refine fun s Q E p0 kk=>?_
   have hy:=(hrows _ p0.2.2.1).1
   have hirs:i<rs.length:=by refine sF hy.1 ?_;exact hi
   have hbl:(y.2.2.getD i []).length=(rs.getD i []).length:=((hrows _ p0.2.2.1).2.2 i hirs).2.1
   refine (Tr.post (Tr.compG (Y:=Unit) (V:=fun _ c _=>c=.ref (y.2.1.getD i 0)) (ok:=fun env=>env.kindOf "colour" = some .local) (ns:=["colour"]) hF (O2 C) (hcl2 C hC) [] (fun h p b hb=>nomatch hb) OffL.nil
    (Tr.post (Ev.loc (hF.cx hB') (O1.ok C) (VZa)) fun v h q=>⟨⟨(),q.1⟩,q.2⟩) (fun _=>((y.2.2.getD i []).map Value.ref).length) (fun _ j μ=>up μ "colour" (((y.2.2.getD i []).map Value.ref).getD j .none)) (fun _=>[y.2.1.getD i 0])
    (fun _ v h q p=>SrcW.nm (c:=.ref (y.2.1.getD i 0)) (by refine sE (YZh q) ?_;exact Src.list hh ((hrows h p.2.2.1).2.2 i hirs).1) p q (fun b e=>by cases e;exact ((hrows h p.2.2.1).2.2 i hirs).1.live)) (fun _ _ _ _ _ _ _=>List.not_mem_nil) (fun _ c h q p=>by refine sE (List.length_map ..) (sE hbl (sE sizeLine_eq ?_));have:=hz.2 (rs.getD i []) (YZr hirs);exact tdN)
    (fun _ W' j v h=>∃ t,v=.ref t/\(t∉W'/\t∉W)/\TpAt h t ((φ ((rs.getD i []).getD j [])).map I)) (fun _ h=>B h/\P h/\RowsL W (fun j=>(rs.getD j []).map φ) z i h)
    (fun _ W' j v h1 h2 k q=>J1 q fun t e ht l=>⟨t,e,ht,TpAt.sf ht.1 _ _ k l⟩)
    (fun _ W' j v Wx hWx h1 h2 k q=>J1 q fun t e ht l=>⟨t,e,ht,TpAt.sf (fun m=>by
     rcases hWx t m with m | ⟨h3,⟨t3,e3,_,l3⟩,en⟩
     ·cases m
     ·rw [e] at e3;cases e3
      obtain ⟨o,ho⟩:=l3.live
      rw [en] at ho;cases ho) _ _ k l⟩)
    (fun _ W' hW'=>Sf.and (hst W' fun b hb=>.inr (J0 (hW' b hb) fun h p e=>⟨h,p.2.1,e⟩)) (Sf.and (hP W' fun b hb=>J0 (hW' b hb) fun h p e=>⟨h,⟨hB2 h p.2.1,p.2.2.1⟩,e⟩) (RowsL.new hW' fun h p=>p.2.2.2))) (fun h h' g p=>hB'.grow g p) (fun _ c h h' q g p=>p)
    (fun _ W' hW' j B2 C2 hC2 hF2 hj hB3 hB4 hlv2 hst2=>?_) (hs:=hs2 C)) fun v h q=>?_) s Q E p0 kk
   ·rw [List.length_map] at hj
    refine sE (XZh hj) ?_
    have hBB:Sf [] (fun h=>(B h/\P h/\RowsL W (fun j=>(rs.getD j []).map φ) z i h)/\B2 h):=Sf.and hB' hB3
    refine Tr.post (helt C C2 i j _ hirs (by refine sF hbl ?_;exact hj) hF2 hBB fun h q=>q.1.2.1) fun v h q=>⟨?_,q.2⟩
    refine Ja q fun z00 lo bb b2=>?_;clear q;refine J1 z00 fun t e nt l=>?_;clear z00
    refine ⟨t,e,⟨fun m=>?_,fun m=>?_⟩,l⟩
    ·refine J0 nt fun h3 p3 e3=>?_;clear nt
     obtain ⟨o,ho⟩:=hlv2 h3 _ p3.1 p3.2.2 t m
     rw [e3] at ho;cases ho
    ·refine J0 nt fun h3 p3 e3=>?_;clear nt
     obtain ⟨o,ho⟩:=hlv h3 _ (hB4 h3 p3.2.2) p3.2.1.1 t m
     rw [e3] at ho;cases ho
   ·obtain ⟨_,W',D,xs2,e,hW',hD,lo,l,hl,ht,jj⟩:=q
    rw [List.length_map] at hl ht
    have hDW:D∉W:=fun m=>by
     refine J0 hD fun h3 p3 e3=>?_;clear hD
     obtain ⟨o,ho⟩:=hlv h3 _ p3.1 p3.2.1 D m
     rw [e3] at ho;cases ho
    have rx:=BZk (W:=W) (ks:=fun j=>φ ((rs.getD i []).getD j [])) l hl fun j hj=>J1 (ht j hj) fun t e ht l=>⟨t,e,ht.2,l⟩
    have hcol:(List.range (y.2.2.getD i []).length).map (fun j=>φ ((rs.getD i []).getD j []))=(rs.getD i []).map φ:=by
     refine sE hbl ?_;exact VZi φ _
    rw [hcol] at rx
    refine ⟨lo,jj.1,jj.2.1,z++[(D,xs2.map adr)],by refine sE ez (sE e (sE List.map_append ?_));rfl,RowsL.push jj.2.2 hDW rx.1 rx.2⟩
  ·exact fun s Q E p kk=>absurd p.1 ez
 ·obtain ⟨_,W,D,xs,e,hW,hD,lo,l,pp,z,ez,r⟩:=q
  rw [List.length_map,(hrows h pp).1.1] at r
  rw [ez] at l
  have:=(RowsL.told l r).at
  refine ⟨⟨D,by refine sE e ?_;rfl,?_⟩,lo,pp⟩
  refine sF (VZi (fun r=>r.map φ) rs) ?_
  exact this
end
end
section
open PySem.SeqAt
theorem RowsL.congr {Wz:List Addr} {f g:Nat->List (List Int)} {z:List (Addr×List Addr)} {i:Nat} {h:Heap} (x:RowsL Wz f z i h) (e:∀ j,j<i->f j=g j):RowsL Wz g z i h:=⟨x.1,fun j hj=>e j hj▸x.2 j hj⟩
theorem pick_fun {n:Nat} {q:Nat->List Int->Prop} (h:∀ i,i<n->∃ c,q i c):∃ ks:Nat->List Int,∀ i,i<n->q i (ks i):=by
 classical
 exact ⟨fun i=>if hi:i<n then Classical.choose (h i hi) else [],fun i hi=>by dsimp only;refine sE (dif_pos hi) ?_;exact Classical.choose_spec (h i hi)⟩
theorem HZj {α:Type} {l:List α} {x d:α} {j:Nat}:(j<l.length->(l++[x]).getD j d=l.getD j d)/\(l++[x]).getD l.length d=x:=by
 refine ⟨fun h=>?_,?_⟩
 ·exact sE List.getD_eq_getElem?_getD (sE (List.getElem?_append_left h) (sE List.getD_eq_getElem?_getD rfl))
 ·refine sE List.getD_eq_getElem?_getD (sE (List.getElem?_append_right (Nat.le_refl _)) (sE (Nat.sub_self ..) ?_));rfl
section
variable {prog:Program} {w:World} {A:Around} {env:Env} {K:Frag} {h₀:Heap} {μ:Str->Option Value} {S:HP} {pos pos2 spos p0 p1 p2 p3 p4 p5 p6 p7:Pos} {elt he1 we1:PySem.Expr} {scope1 scope2:Scope} {cl1 cl2:List (Str×Addr)} {src:Addr} {wd ht:Nat} {Wz:List Addr} {rest:List Stmt} {N:HP} {Rt X:Value->HP}
theorem OffL.comp {scope:Scope} {cl:List (Str×Addr)} {C:Addr} {W:List Addr} (o:OffL env h₀ W) (hC:C∉W) (hs:∀ x c,cl.lookup x=some c->env.cells.lookup x=some c):OffL (compEnvC scope cl C env) h₀ W :=
 ⟨hC,fun y c e=>o.cel y c (hs y c e),o.old⟩
theorem Xs.drawRows (F:Fx K env h₀) (O1:CompOk env scope1 cl1 (fun env=>env.kindOf "y" = some .local)) (hcl:Cl env) (hh:A.handled=none) (hoff:OffL env h₀ [src]) (hL:Sf [env.locals] (fun h=>SrcOk src h/\S h)) (hSg:Sf [src] S)
  (hS:∀ Wx,(∀ b∈Wx,New (Pc env h₀ μ (fun h=>SrcOk src h/\S h)) b)->Sf Wx S) (hz:∀ h,Pc env h₀ μ (fun h=>SrcOk src h/\S h) h->∀ b∈Wz,∃ o,h.get? b=some o) (hsz:src∈Wz) (hlz:env.locals∈Wz)
  (hwd:wd<=100) (hht:ht<=100) (hf:Ev (model prog w) A env (Pc env h₀ μ (fun h=>SrcOk src h/\S h)) (.Name "range" p0) (.type "range")) (hhe:Ev (model prog w) A env (Pc env h₀ μ (fun h=>SrcOk src h/\S h)) he1 (I ht))
  (O2:∀ C,CompOk (compEnvC scope1 cl1 C env) scope2 cl2 (fun env=>env.kindOf "x" = some .local)) (hcl2:∀ C,New (Pc env h₀ μ (fun h=>SrcOk src h/\S h)) C->Cl (compEnvC scope1 cl1 C env))
  (hin:∀ C i (B:HP),Fx K (compEnvC scope1 cl1 C env) h₀->Sf [] B->Ev (model prog w) A (compEnvC scope1 cl1 C env) (Pc (compEnvC scope1 cl1 C env) h₀ (up (cmu cl1 μ) "y" (I (i:Nat))) B) (.Name "range" p1) (.type "range")/\Ev (model prog w) A (compEnvC scope1 cl1 C env) (Pc (compEnvC scope1 cl1 C env) h₀ (up (cmu cl1 μ) "y" (I (i:Nat))) B) we1 (I wd))
  (helt:∀ C C2 i j (B:HP),C≠src->C2≠src->Fx K (compEnvC scope2 cl2 C2 (compEnvC scope1 cl1 C env)) h₀->Sf [src] B ->
   EvP (model prog w) A (compEnvC scope2 cl2 C2 (compEnvC scope1 cl1 C env)) (Pc (compEnvC scope2 cl2 C2 (compEnvC scope1 cl1 C env)) h₀ (up (cmu cl2 (up (cmu cl1 μ) "y" (I (i:Nat)))) "x" (I (j:Nat))) (fun h=>SrcOk src h/\B h)) elt
    (fun v h=>∃ t c,v=.ref t/\New (Pc (compEnvC scope2 cl2 C2 (compEnvC scope1 cl1 C env)) h₀ (up (cmu cl2 (up (cmu cl1 μ) "y" (I (i:Nat)))) "x" (I (j:Nat))) (fun h=>SrcOk src h/\B h)) t/\TpAt h t (c.map I)/\Drawn c))
  (hr:∀ (yr:Yr) rs,rs.length=ht->(∀ r∈rs,r.length=wd/\∀ c∈r,Drawn c)->(∀ b∈adrs yr,b∉Wz)->Xs (model prog w) A env (Pc env h₀ (up μ "rows" (.ref yr.1)) (fun h=>RowsE rs yr h/\SrcOk src h/\S h)) rest N Rt X)
  (hx:autoParam (env.kindOf "rows" = some .local) tR) (hs:autoParam (∀ v,foldedSetIterable (.Call (.Name "range" p0) [he1] [] p2) env v=pure v) tI) (hs2:autoParam (∀ C v,foldedSetIterable (.Call (.Name "range" p1) [we1] [] p3) (compEnvC scope1 cl1 C env) v=pure v) tJ)
  (hsw:autoParam (swapsWith (.ListComp (.ListComp elt [⟨.Name "x" p4,.Call (.Name "range" p1) [we1] [] p3,[],0⟩] scope2 pos2) [⟨.Name "y" p5,.Call (.Name "range" p0) [he1] [] p2,[],0⟩] scope1 pos) (some (.Name "rows" p6)) spos.line env=pure true) tR)
  (he:autoParam (eval (.Call (.Name "range" p0) [he1] [] p2) env=(do let f <- eval (.Name "range" p0) env;callWith p2 f [] (backTo p2 (starEach [he1] env)) [])) tR)
  (he2:autoParam (starEach [he1] env=(false,eval he1 env)::starEach [] env) tR) (hpl:autoParam ((backTo p2 (starEach [he1] env)).any (·.1)=false) tR)
  (hi:autoParam (∀ C,eval (.Call (.Name "range" p1) [we1] [] p3) (compEnvC scope1 cl1 C env)=(do let f <- eval (.Name "range" p1) (compEnvC scope1 cl1 C env);callWith p3 f [] (backTo p3 (starEach [we1] (compEnvC scope1 cl1 C env))) [])) tI)
  (hi2:autoParam (∀ C,starEach [we1] (compEnvC scope1 cl1 C env)=(false,eval we1 (compEnvC scope1 cl1 C env))::starEach [] (compEnvC scope1 cl1 C env)) tI) (hpl2:autoParam (∀ C,(backTo p3 (starEach [we1] (compEnvC scope1 cl1 C env))).any (·.1)=false) tI) :
  Xs (model prog w) A env (Pc env h₀ μ (fun h=>SrcOk src h/\S h)) (.Assign [.Name "rows" p6] (.ListComp (.ListComp elt [⟨.Name "x" p4,.Call (.Name "range" p1) [we1] [] p3,[],0⟩] scope2 pos2) [⟨.Name "y" p5,.Call (.Name "range" p0) [he1] [] p2,[],0⟩] scope1 pos) spos::rest) N Rt X:=by
 have hPg:Sf [] (fun h=>SrcOk src h/\S h):=Sf.and (SrcOk.sf List.not_mem_nil) (hSg.mono fun b hb=>nomatch hb)
 refine Xs.comp (Y:=Addr) (V:=fun y v h=>v=.ref y/\RgAt h y (ht:Nat)) (ok:=fun env=>env.kindOf "y" = some .local) (ns:=["y"]) F O1 hcl [src] (fun h p b hb=>by refine sE (mS hb) ?_;exact p.2.1.live) hoff
  (Tr.post (EvP.range (k:=ht) (F.cx hPg) hf hhe he he2 hpl) fun v h q=>⟨dr q.1,q.2⟩) (fun _=>ht) (fun _ i μ=>up μ "y" (I (i:Int))) (fun y=>[y]) (fun y v h q p=>SrcW.rng hh (by exact tzN) q.1 q.2 p)
  (fun y c h q p b hb hb2=>q.2.ne_src p.2.1 ((mS hb).symm.trans (mS hb2))) (fun _ _ _ _ _=>by refine sE sizeLine_eq ?_;exact tdN)
  (fun _ W i xs h=>(SrcOk src h/\S h)/\∃ (z:List (Addr×List Addr)) (rs:List (List (List Int))),xs=z.map (fun p=>Value.ref p.1)/\(rs.length=i/\∀ r∈rs,r.length=wd/\∀ c∈r,Drawn c)/\RowsL (W++Wz) (fun j=>rs.getD j []) z i h)
  (fun _ i xs W hW h1 h2 k q=>⟨⟨SrcOk.sf (New.of_live hW fun h p=>p.2.1.live) _ _ k q.1.1,hS W hW _ _ k q.1.2⟩,J4 q.2 fun z rs e f r=>⟨z,rs,e,f,RowsL.sf (fun b hb=>List.mem_append_left _ hb) _ _ k r⟩⟩)
  (fun _ W i xs h1 h2 k q=>⟨hL _ _ k q.1,J4 q.2 fun z rs e f r=>⟨z,rs,e,f,RowsL.sf (fun b hb=>List.mem_append_right _ (by refine sE (mS hb) ?_;exact hlz)) _ _ k r⟩⟩)
  (fun h h' g p=>hPg.grow g p) (fun _ _=>true) (fun _ c h h' q g p W hW=>⟨p,[],[],rfl,⟨rfl,fun _ h=>nomatch h⟩,⟨rfl,fun _ h=>nomatch h⟩,fun j hj=>absurd hj (Nat.not_lt_zero _)⟩) (fun _ W hW i xs B C hC hF hi hB hB2 hlv hst=>fun s Q E p kk=>XZd (kk true s.heap s.toks ⟨rfl,p⟩))
  (fun _ W hW i xs B C hC hF hi' htb hB hB2 hlv hst=>?_) (fun _ W i xs h hi e=>nomatch e) (fun _ W D xs hW hD=>?_) hx hs hsw
 ·refine Tr.pre (P:=fun h=>∃ zr:List (Addr×List Addr)×List (List (List Int)),(xs=zr.1.map (fun p=>Value.ref p.1)/\zr.2.length=i/\∀ r∈zr.2,r.length=wd/\∀ c∈r,Drawn c)/\Pc (compEnvC scope1 cl1 C env) h₀ (up (cmu cl1 μ) "y" (I (i:Nat))) (fun h=>B h/\(SrcOk src h/\S h)/\RowsL (W++Wz) (fun j=>zr.2.getD j []) zr.1 i h) h) (Tr.ex fun zr=>?_) (fun h p=>let ⟨lo,b,pp,z,rs,e,f,r⟩:=p;⟨(z,rs),⟨e,f⟩,lo,b,pp,r⟩)
  obtain ⟨z,rs⟩:=zr
  refine fun s Q E p00 kk=>?_
  obtain ⟨⟨ez,erl,erd⟩,p0'⟩:=p00
  dsimp only at ez erl erd p0'
  have hCs:C≠src:=fun q=>by
   refine J0 hC fun h3 p3 e3=>?_;clear hC
   obtain ⟨o,ho⟩:=p3.2.1.live
   rw [<- q,e3] at ho;cases ho
  have hBs:Sf [src] B:=hB
  have hB':Sf [] (fun h=>B h/\(SrcOk src h/\S h)/\RowsL (W++Wz) (fun j=>rs.getD j []) z i h):=Sf.and (hBs.mono fun b hb=>nomatch hb) (Sf.and hPg (RowsL.sf fun b hb=>nomatch hb))
  obtain ⟨hin1,hin2⟩:=hin C i _ hF hB'
  refine (Tr.post (Tr.compG (Y:=Addr) (V:=fun y v h=>v=.ref y/\RgAt h y (wd:Nat)) (ok:=fun env=>env.kindOf "x" = some .local) (ns:=["x"]) hF (O2 C) (hcl2 C hC) [src] (fun h p b hb=>by refine sE (mS hb) ?_;exact p.2.2.1.1.live) (hoff.comp (by simp;exact hCs) O1.sub)
   (Tr.post (EvP.range (k:=wd) (hF.cx hB') hin1 hin2 (hi C) (hi2 C) (hpl2 C)) fun v h q=>⟨dr q.1,q.2⟩) (fun _=>wd) (fun _ j μ=>up μ "x" (I (j:Int))) (fun y=>[y]) (fun y v h q p=>SrcW.rng hh (by exact tzN) q.1 q.2 p)
   (fun y c h q p b hb hb2=>q.2.ne_src p.2.2.1.1 ((mS hb).symm.trans (mS hb2))) (fun _ _ _ _ _=>by refine sE sizeLine_eq ?_;exact tdN)
   (fun _ W' j v h=>∃ t c,v=.ref t/\(t∉W'/\t∉W++Wz)/\TpAt h t (c.map I)/\Drawn c) (fun _ h=>B h/\(SrcOk src h/\S h)/\RowsL (W++Wz) (fun j=>rs.getD j []) z i h)
   (fun _ W' j v h1 h2 k q=>J9 q fun t c e ht l d=>⟨t,c,e,ht,TpAt.sf ht.1 _ _ k l,d⟩)
   (fun _ W' j v Wx hWx h1 h2 k q=>J9 q fun t c e ht l d=>⟨t,c,e,ht,TpAt.sf (fun m=>by
    rcases hWx t m with m | ⟨h3,⟨t3,c3,e3,_,l3,_⟩,en⟩
    ·exact ht.2 (List.mem_append_right _ (by refine sE (mS m) ?_;exact hsz))
    ·rw [e] at e3;cases e3
     obtain ⟨o,ho⟩:=l3.live
     rw [en] at ho;cases ho) _ _ k l,d⟩)
   (fun _ W' hW'=>Sf.and (hst W' fun b hb=>.inr (J0 (hW' b hb) fun h p e=>⟨h,p.2.1,e⟩)) (Sf.and (Sf.and (SrcOk.sf (New.of_live hW' fun h p=>p.2.2.1.1.live)) (hS W' fun b hb=>J0 (hW' b hb) fun h p e=>⟨h,⟨hB2 h p.2.1,p.2.2.1⟩,e⟩)) (RowsL.new hW' fun h p=>p.2.2.2))) (fun h h' g p=>hB'.grow g p) (fun _ c h h' q g p=>p)
   (fun _ W' hW' j B2 C2 hC2 hF2 hj hB3 hB4 hlv2 hst2=>?_) (hs:=hs2 C)) fun v h q=>?_) s Q E p0' kk
  ·have hC2s:C2≠src:=fun q=>by
    refine J0 hC2 fun h3 p3 e3=>?_;clear hC2
    obtain ⟨o,ho⟩:=p3.2.2.1.1.live
    rw [<- q,e3] at ho;cases ho
   have hBx:Sf [src] (fun h=>B h/\S h/\RowsL (W++Wz) (fun j=>rs.getD j []) z i h/\B2 h):=Sf.and hBs (Sf.and hSg (Sf.and (RowsL.sf fun b hb=>List.mem_append_right _ (by refine sE (mS hb) ?_;exact hsz)) hB3))
   refine Tr.post (Tr.pre (helt C C2 i j _ hCs hC2s hF2 hBx) (fun h p=>⟨p.1,p.2.1.2.1.1,p.2.1.1,p.2.1.2.1.2,p.2.1.2.2,p.2.2⟩)) fun v h q=>⟨?_,q.2.1,⟨q.2.2.2.1,⟨q.2.2.1,q.2.2.2.2.1⟩,q.2.2.2.2.2.1⟩,q.2.2.2.2.2.2⟩
   obtain ⟨⟨t,c,e,nt,l,d⟩,lo,so,bb,ss,rr,b2⟩:=q
   refine ⟨t,c,e,⟨fun m=>?_,fun m=>?_⟩,l,d⟩
   ·refine J0 nt fun h3 p3 e3=>?_;clear nt
    obtain ⟨o,ho⟩:=hlv2 h3 _ p3.1 p3.2.2.2.2.2 t m
    rw [e3] at ho;cases ho
   ·refine J0 nt fun h3 p3 e3=>?_;clear nt
    rcases mA m with m | m
    ·obtain ⟨o,ho⟩:=hlv h3 _ (hB4 h3 p3.2.2.2.2.2) p3.2.2.1 t m
     rw [e3] at ho;cases ho
    ·obtain ⟨o,ho⟩:=hz h3 ⟨hB2 h3 p3.2.2.1,p3.2.1,p3.2.2.2.1⟩ t m
     rw [e3] at ho;cases ho
  ·obtain ⟨_,W',D,xs2,e,hW',hD,lo,l,hl,ht2,jj⟩:=q
   have hDW:D∉W++Wz:=fun m=>by
    refine J0 hD fun h3 p3 e3=>?_;clear hD
    rcases mA m with m | m
    ·obtain ⟨o,ho⟩:=hlv h3 _ p3.1 p3.2.1 D m
     rw [e3] at ho;cases ho
    ·obtain ⟨o,ho⟩:=hz h3 ⟨hB2 h3 p3.2.1,p3.2.2.1⟩ D m
     rw [e3] at ho;cases ho
   obtain ⟨ks,hks⟩:=pick_fun (n:=wd) (q:=fun j c=>∃ t,xs2.getD j .none=.ref t/\(t∉W'/\t∉W++Wz)/\TpAt h t (c.map I)/\Drawn c) fun j hj=>J5 (ht2 j hj) fun t c r=>⟨c,t,r⟩
   have rx:=BZk (W:=W++Wz) (ks:=ks) l hl fun j hj=>J6 (hks j hj) fun t e ht l _=>⟨t,e,ht.2,l⟩
   refine ⟨lo,jj.1,jj.2.1,z++[(D,xs2.map adr)],rs++[(List.range wd).map ks],by refine sE ez (sE e (sE List.map_append ?_));rfl,⟨by refine sE List.length_append (sE erl ?_);rfl,fun r hr=>?_⟩,?_⟩
   ·rcases mA hr with hr | hr
    ·exact erd r hr
    ·refine sE (mS hr) ?_
     refine ⟨by simp,fun c hc=>?_⟩
     refine J0 (List.mem_map.mp hc) ?_;rintro j hj rfl
     refine J6 (hks j (List.mem_range.mp hj)) fun t _ _ _ d=>?_
     exact d
   ·refine RowsL.push (RowsL.congr jj.2.2 fun j hj=>(HZj.1 (by refine sE erl ?_;exact hj)).symm) hDW rx.1 ?_
    have e9:(rs++[(List.range wd).map ks]).getD i []=(List.range wd).map ks:=by refine sF erl ?_;exact (HZj (j:=0)).2
    refine sE e9 ?_;exact rx.2
 ·refine fun s Q E p00 k1 k2 k3=>?_
  obtain ⟨lo,l,pp,z,rs,ez,⟨erl,erd⟩,r⟩:=p00
  have hDz:D∉Wz:=fun m=>by
   refine J0 hD fun h3 p3 e3=>?_;clear hD
   obtain ⟨o,ho⟩:=hz h3 p3 D m
   rw [e3] at ho;cases ho
  rw [ez] at l
  have rt:=RowsL.told l r
  have er:(List.range ht).map (fun j=>rs.getD j [])=rs:=by
   refine sF erl ?_
   apply List.ext_getElem
   ·simp
   ·intro k h1 h2
    simp only [List.length_map,List.length_range] at h1
    simp [h1]
  rw [er] at rt
  refine hr (D,z.map (·.1),z.map (·.2)) rs erl erd (fun b hb=>?_) s Q E ⟨lo,rt,pp⟩ k1 k2 k3
  rcases mC hb with rfl | hb
  ·exact hDz
  rcases mA hb with hb | hb
  ·refine J0 (List.mem_map.mp hb) ?_;rintro p hp rfl
   exact fun m=>(r.1.2 p hp).1 (List.mem_append_right _ m)
  ·refine J0 (List.mem_flatten.mp hb) fun bs hbs hb=>?_
   refine J0 (List.mem_map.mp hbs) ?_;rintro p hp rfl
   exact fun m=>(r.1.2 p hp).2 b hb (List.mem_append_right _ m)
end
end
section
open PySem.SeqAt
structure RSrc (src:Addr) (R:HP):Prop where
 has:∀ h,R h->SrcOk src h
 turn:∀ h h',(∀ b o,b∉[src]->h.get? b=some o->h'.get? b=some o)->SrcOk src h'->R h->R h'
theorem RSrc.base {src:Addr}:RSrc src (SrcOk src):=⟨fun _ r=>r,fun _ _ _ s _=>s⟩
theorem RSrc.and {src:Addr} {V R:HP} (hV:Sf [src] V) (r:RSrc src R):RSrc src (fun h=>V h/\R h):=⟨fun h q=>r.has h q.2,fun h h' k s q=>⟨hV _ _ k q.1,r.turn h h' k s q.2⟩⟩
section
variable {prog:Program} {w:World} {A:Around} {env:Env} {h₀:Heap} {μ:Str->Option Value} {R:HP} {pos p1 fp:Pos} {e:PySem.Expr} {W:List Addr} {src:Addr} {cs:List Value} {top:Int} {V:Value->HP}
theorem EvsP.sg (he:EvP (model prog w) A env (Pc env h₀ μ R) e V) (he2:autoParam (starEach [e] env=(false,eval e env)::starEach [] env) tR):EvsP (model prog w) A env (Pc env h₀ μ R) pos [e] (fun vs h=>∃ c,vs=[c]/\V c h):=fun s Q E p k =>
 YZ0 (he s _ E p fun v h' tk x=>YZb (wpAny_items_nil (k _ h' tk ⟨⟨tk0 v,rfl,x.1⟩,x.2⟩))) he2
theorem EvsP.consV {P:HP} {es:List PySem.Expr} {c:Value} {V2:List Value->HP} (h:Ev (model prog w) A env P e c) (hs:EvsP (model prog w) A env P pos es V2) (he:autoParam (starEach (e::es) env=(false,eval e env)::starEach es env) tR):EvsP (model prog w) A env P pos (e::es) (fun vs h=>∃ cs,vs=c::cs/\V2 cs h):=fun s Q E p k =>
 YZ0 (h s _ E p fun v h' tk x=>hs _ _ E x.2 fun vs h'' tk' y=>k _ h'' tk' ⟨⟨_,by exact sE List.map_cons (sE x.1 rfl),y.1⟩,y.2⟩) he
theorem EvP.one (F:Fx (KK w.params) env h₀) (hO:OffL env h₀ [src]) (hr:Room 3 A) (r:RSrc src R) (hf:Ev (model prog w) A env (Pc env h₀ μ R) (.Name "_law_one" fp) (.ref 344)) (hs:Ev (model prog w) A env (Pc env h₀ μ R) (.Name "source" p1) (.ref src)) (ha:EvP (model prog w) A env (Pc env h₀ μ R) e (fun v h=>∃ th,v=.ref th/\New (Pc env h₀ μ R) th/\LsAt h th cs)) (h0:0<cs.length) (h1:cs.length<=1000000)
  (he:autoParam (eval (.Call (.Name "_law_one" fp) [.Name "source" p1,e] [] pos) env=(do let f <- eval (.Name "_law_one" fp) env;callWith pos f [] (backTo pos (starEach [.Name "source" p1,e] env)) [])) tR)
  (he2:autoParam (starEach [.Name "source" p1,e] env=(false,eval (.Name "source" p1) env)::starEach [e] env) tR) (he3:autoParam (starEach [e] env=(false,eval e env)::starEach [] env) tR) (hpl:autoParam ((backTo pos (starEach [.Name "source" p1,e] env)).any (·.1)=false) tR) :
  EvP (model prog w) A env (Pc env h₀ μ R) (.Call (.Name "_law_one" fp) [.Name "source" p1,e] [] pos) (fun v _=>∃ i,i<cs.length/\v=cs.getD i .none) :=
 EvP.callMX (Y:=Addr) (W:=[src]) (cy:=fun th=>[.ref src,.ref th]) (VY:=fun th h=>th≠src/\LsAt h th cs) F (fun th h p vy=>NZl h0 h1 vy.1) hO hr hf
  (Tr.post (EvsP.two (c1:=.ref src) hs ha he2 he3) fun vs h q=>⟨Jf q.1 fun c2 e a ea n l=>⟨a,by exact sE e (sE ea rfl),fun q=>(by refine J0 n fun h3 p3 e3=>?_;clear n;obtain ⟨o,ho⟩:=(r.has _ p3.2).live;rw [<- q,e3] at ho;cases ho),l⟩,q.2⟩)
  (fun th h p vy=>⟨r.has _ p.2,vy.2⟩) (fun th v h1 h2 p vy g q=>⟨q.1,r.turn _ _ (XZg g) q.2 p.2⟩) (by kernel_rfl) he he2 hpl
theorem EvP.take (F:Fx (KK w.params) env h₀) (hO:OffL env h₀ [src]) (hr:Room 2 A) (r:RSrc src R) (hf:Ev (model prog w) A env (Pc env h₀ μ R) (.Name "_law_take" fp) (.ref 337)) (hs:Ev (model prog w) A env (Pc env h₀ μ R) (.Name "source" p1) (.ref src)) (ht:Ev (model prog w) A env (Pc env h₀ μ R) e (I top)) (h0:0<top) (h1:top<=1000000)
  (he:autoParam (eval (.Call (.Name "_law_take" fp) [.Name "source" p1,e] [] pos) env=(do let f <- eval (.Name "_law_take" fp) env;callWith pos f [] (backTo pos (starEach [.Name "source" p1,e] env)) [])) tR)
  (he2:autoParam (starEach [.Name "source" p1,e] env=(false,eval (.Name "source" p1) env)::starEach [e] env) tR) (he3:autoParam (starEach [e] env=(false,eval e env)::starEach [] env) tR) (hpl:autoParam ((backTo pos (starEach [.Name "source" p1,e] env)).any (·.1)=false) tR) :
  EvP (model prog w) A env (Pc env h₀ μ R) (.Call (.Name "_law_take" fp) [.Name "source" p1,e] [] pos) (fun v _=>∃ k,v=I k/\0<=k/\k<top) :=
 EvP.callM (W:=[src]) (cs:=[.ref src,I top]) F (fn_take h0 h1) hO hr hf (Evs.cons hs (Evs.cons ht Evs.nil he3) he2) (fun h p=>r.has _ p.2) (fun v h1 h2 p g q=>⟨q.1,r.turn _ _ (XZg g) q.2 p.2⟩) (by kernel_rfl) he he2 hpl
end
theorem cells3 {L:Addr} {y:Str} {c:Addr} (h:[(("ground" : Str),L+3),("width", L+2),("source", L+1)].lookup y=some c):c∈[L,L+1,L+2,L+3]:=by
 rcases lk3 h with ⟨_,rfl⟩ | ⟨_,rfl⟩ | ⟨_,rfl⟩ <;> simp
theorem off4 {env:Env} {L:Addr} {h₀ h:Heap} {μ:Str->Option Value} {b:Addr} (hl:env.locals=L) (hc:env.cells=[(("ground" : Str),L+3),("width", L+2),("source", L+1)]) (lo:Lo env h₀ μ h) (s:Sq h b):b∉[L,L+1,L+2,L+3]:=by
 have ns:=lo.ne_sq s
 rw [hl] at ns
 simp only [List.mem_cons,List.not_mem_nil,or_false,not_or]
 exact ⟨ns.1,ns.2 "source" (L+1) (by refine sE hc ?_;rfl),ns.2 "width" (L+2) (by refine sE hc ?_;rfl),ns.2 "ground" (L+3) (by refine sE hc ?_;rfl)⟩
theorem live4 {env:Env} {L:Addr} {h₀ h:Heap} {μ:Str->Option Value} (hl:env.locals=L) (hc:env.cells=[(("ground" : Str),L+3),("width", L+2),("source", L+1)]) (lo:Lo env h₀ μ h):∀ b∈[L,L+1,L+2,L+3],∃ o,h.get? b=some o:=by
 have l0:=lo.loc_in
 rw [hl] at l0
 exact allL l0 (allL (lo.cell_in (y := "source") (by refine sE hc ?_;rfl)) (allL (lo.cell_in (y := "width") (by refine sE hc ?_;rfl)) (allL (lo.cell_in (y := "ground") (by refine sE hc ?_;rfl)) allN)))
theorem offL4 {env:Env} {L:Addr} {h₀:Heap} {W:List Addr} (hl:env.locals=L) (hc:env.cells=[(("ground" : Str),L+3),("width", L+2),("source", L+1)]) (h:∀ b∈W,b∉[L,L+1,L+2,L+3]) (h0:∀ b∈W,h₀.get? b=none):OffL env h₀ W :=
 ⟨fun q=>h _ q (by refine sE hl ?_;simp),fun y c e q=>h _ q (cells3 (hc▸e)),h0⟩
theorem SrcOk.sq {src:Addr} {h:Heap} (x:SrcOk src h):Sq h src:=J4 x fun _ _ _ _ l=>l.sq
theorem New.none_of {P:HP} {a:Addr} {h:Heap} (n:New P a) (hg:∀ h',P h'->Grows h h'):h.get? a=none:=by
 refine J0 n fun h3 p3 e3=>?_;clear n
 cases q:h.get? a with
 | none=>rfl
 | some o=>rw [hg h3 p3 a o q] at e3;cases e3
noncomputable def cont (y:Yr) (wd i j r:Nat):List Value:=(List.range wd).map fun c=>if r<i∨(r=i/\c<j) then .ref ((y.2.2.getD r []).getD c 0) else .ref 251
theorem cont_len (y:Yr) (wd i j r:Nat):(cont y wd i j r).length=wd:=by simp [cont]
theorem cont_0 (y:Yr) (wd r:Nat):cont y wd 0 0 r=List.replicate wd (.ref 251):=by
 unfold cont
 apply List.ext_getElem
 ·simp
 ·intro k h1 h2;simp
theorem cont_row (y:Yr) (wd i r:Nat):cont y wd i wd r=cont y wd (i+1) 0 r:=by
 unfold cont
 apply List.ext_getElem
 ·simp
 ·intro k h1 h2
  simp only [List.length_map,List.length_range] at h1
  simp only [List.getElem_map,List.getElem_range]
  by_cases h:r<i∨(r=i/\k<wd)
  ·exact sE (if_pos h) (sE (if_pos (by lia)) rfl)
  ·exact sE (if_neg h) (sE (if_neg (by lia)) rfl)
theorem cont_other {y:Yr} {wd i j r:Nat} (h:r≠i):cont y wd i (j+1) r=cont y wd i j r:=by
 unfold cont
 apply List.map_congr_left
 intro c _
 by_cases q:r<i∨(r=i/\c<j)
 ·exact sE (if_pos q) (sE (if_pos (by lia)) rfl)
 ·exact sE (if_neg q) (sE (if_neg (by lia)) rfl)
theorem cont_set {y:Yr} {wd i j:Nat} (h:j<wd):(cont y wd i j i).set j (.ref ((y.2.2.getD i []).getD j 0))=cont y wd i (j+1) i:=by
 unfold cont
 apply List.ext_getElem
 ·simp
 ·intro k h1 h2
  simp only [List.length_map,List.length_range] at h2
  refine sE (List.getElem_set ..) ?_
  simp only [List.getElem_map,List.getElem_range,Nat.lt_irrefl,false_or,true_and]
  by_cases e:j=k
  ·exact sE (if_pos e) (sE (if_pos (by lia)) (sE e rfl))
  ·refine sE (if_neg e) ?_
   by_cases q:k<j
   ·exact sE (if_pos q) (sE (if_pos (by lia)) rfl)
   ·exact sE (if_neg q) (sE (if_neg (by lia)) rfl)
theorem cont_done {y:Yr} {wd ht r:Nat} (hr:r<ht) (hl:(y.2.2.getD r []).length=wd):cont y wd ht 0 r=(y.2.2.getD r []).map Value.ref:=by
 unfold cont
 apply List.ext_getElem
 ·exact sE (List.length_map ..) (sE List.length_range (sE (List.length_map ..) (sE hl rfl)))
 ·intro k h1 h2
  simp only [List.length_map,List.length_range] at h1
  simp only [List.getElem_map,List.getElem_range]
  rw [if_pos (by lia),List.getD_eq_getElem?_getD (l:=y.2.2.getD r []),List.getElem?_eq_getElem (by lia)];rfl
end
section
open PySem.SeqAt
noncomputable def Fix (wd ht:Nat) (rs:List (List (List Int))) (yr:Yr) (x dx ca:Addr) (ras:List Addr):HP:=fun h =>
 RowsE rs yr h/\(h.get? x=some (instObj 319 dx)/\DictAt (XZz wd ht ca) h dx)/\LsAt h ca (ras.map Value.ref)
noncomputable def CellsC (yr:Yr) (wd ht:Nat) (ras:List Addr) (i j:Nat):HP:=fun h=>∀ r,r<ht->LsAt h (ras.getD r 0) (cont yr wd i j r)
section
variable {wd ht i j:Nat} {rs:List (List (List Int))} {yr:Yr} {x dx ca:Addr} {ras W:List Addr} {h:Heap}
theorem DictAt.live {ps:List (Str×Value)} (d:DictAt ps h dx):∃ o,h.get? dx=some o:=J2 d fun _ _ e _=>⟨_,e⟩
theorem Fix.live (f:Fix wd ht rs yr x dx ca ras h):∀ b∈x::dx::ca::adrs yr,∃ o,h.get? b=some o :=
 allL ⟨_,f.2.1.1⟩ (allL f.2.1.2.live (allL f.2.2.live f.1.live))
theorem Fix.sf (hW:∀ b∈x::dx::ca::adrs yr,b∉W):Sf W (Fix wd ht rs yr x dx ca ras) :=
 Sf.and (RowsE.sf fun b hb=>hW b (by simp [hb])) (Sf.and (Sf.and (Sf.at (hW x (by exact mm0))) (DictAt.sf (hW dx (by exact mm1)))) (LsAt.sf (hW ca (by exact mm2))))
theorem CellsC.live (hl:ras.length=ht) (c:CellsC yr wd ht ras i j h):∀ b∈ras,∃ o,h.get? b=some o:=fun b hb=>by
 refine J0 (VZs hb 0) ?_;rintro r hr rfl
 exact (c r (by lia)).live
theorem CellsC.sf (hl:ras.length=ht) (hW:∀ b∈ras,b∉W):Sf W (CellsC yr wd ht ras i j):=fun h1 h2 k c r hr=>LsAt.sf (hW _ (YZr (by lia))) _ _ k (c r hr)
noncomputable def cvNo:List Str:=["put", "holds", "rows"]
theorem cv_ob (hx:h.get? x=some (instObj 319 dx)) (d:DictAt (XZz wd ht ca) h dx):ObAt 319 h x (XZz wd ht ca) cvNo :=
 d.ob hx (allL (by rfl) (allL (by rfl) (allL (by rfl) (allL (by rfl) (allL (by rfl) allN))))) (allL (allL (by rfl) (allL (by rfl) (allL (by rfl) (allL (by rfl) (allL (by rfl) allN))))) (allL (allL (by rfl) (allL (by rfl) (allL (by rfl) (allL (by rfl) (allL (by rfl) allN))))) (allL (allL (by rfl) (allL (by rfl) (allL (by rfl) (allL (by rfl) (allL (by rfl) allN))))) allN)))
theorem own_w:(("width" : Str),I wd)∈XZz wd ht ca:=by simp [XZz]
theorem own_h:(("height" : Str),I ht)∈XZz wd ht ca:=by simp [XZz]
theorem own_l:(("left" : Str),I 0)∈XZz wd ht ca:=by simp [XZz]
theorem own_t:(("top" : Str),I 0)∈XZz wd ht ca:=by simp [XZz]
theorem own_c:(("cells" : Str),Value.ref ca)∈XZz wd ht ca:=by simp [XZz]
theorem no_put:("put" : Str)∈cvNo:=by simp [cvNo]
theorem no_holds:("holds" : Str)∈cvNo:=by simp [cvNo]
theorem no_rows:("rows" : Str)∈cvNo:=by simp [cvNo]
theorem cells_done (hl:ras.length=rs.length) (hw:∀ r∈rs,r.length=wd) (f:Fix wd ht rs yr x dx ca ras h) (c:CellsC yr wd rs.length ras rs.length 0 h):RowsAt h ca rs :=
 ⟨ras,f.2.2,hl,fun r hr=>by
  have rx:=f.1.2.2 r hr
  have hbl:(yr.2.2.getD r []).length=wd:=rx.2.1.trans (hw _ (YZr hr))
  have:=c r hr
  rw [cont_done hr hbl] at this
  exact ⟨yr.2.2.getD r [],this,rx.2.1,rx.2.2⟩⟩
end
structure LawP (h:Heap) (L src:Addr) (wd:Nat) (rs:List (List (List Int))) (yr:Yr) (x dx ca:Addr) (ras:List Addr):Prop where
 hw:wd=1∨wd=2
 hh:rs.length=1∨rs.length=2
 sL:src∉[L,L+1,L+2,L+3]
 s0:h.get? src=none
 rl:ras.length=rs.length
 nd:ras.Nodup
 car:ca∉ras
 xd:x≠dx
 cv:∀ b∈x::dx::ca::ras,b∉src::[L,L+1,L+2,L+3]/\h.get? b=none
 yo:∀ b∈adrs yr,b∉src::[L,L+1,L+2,L+3]++(x::dx::ca::ras)
 rows:∀ r∈rs,r.length=wd/\∀ c∈r,Drawn c
section
variable {prog:Program} {w:World}
theorem put_step {h h1 h2:Heap} {L src:Addr} {wd:Nat} {rs:List (List (List Int))} {yr:Yr} {x dx ca:Addr} {ras:List Addr} {i j:Nat} (p:LawP h L src wd rs yr x dx ca ras) (hi:i<rs.length) (hj:j<wd)
  (c:CellsC yr wd rs.length ras i j h1) (g:∀ b o,b∉[ras.getD i 0]->h1.get? b=some o->h2.get? b=some o) (l:LsAt h2 (ras.getD i 0) ((cont yr wd i j i).set j (.ref ((yr.2.2.getD i []).getD j 0)))):CellsC yr wd rs.length ras i (j+1) h2:=fun r hr=>by
 by_cases e:r=i
 ·subst e;rw [cont_set hj] at l;exact l
 ·refine sE (cont_other e) ?_
  refine LsAt.sf (fun q=>e ?_) _ _ g (c r hr)
  have q:=mS q
  have hrl:=p.rl
  rw [List.getD_eq_getElem?_getD,List.getD_eq_getElem?_getD,List.getElem?_eq_getElem (by lia),List.getElem?_eq_getElem (by lia)] at q
  exact (List.getElem_inj p.nd).mp q
end
end
section
open PySem.SeqAt
theorem CompOk.clC {env:Env} {scope:Scope} {cl:List (Str×Addr)} {ok:Env->Prop} {h₀:Heap} {μ:Str->Option Value} {P:HP} {C:Addr} (O:CompOk env scope cl ok) (hC:New (Pc env h₀ μ P) C):Cl (compEnvC scope cl C env) :=
 fun x c e=>⟨fun q=>hC.ne_cell (O.sub x c e) q,O.notl x c e⟩
noncomputable def lawMu (a src:Addr) (wd ht:Nat) (x yr:Addr):Str->Option Value:=up (up (up (up (up (YZ9 ["script"] [.ref a]) "source" (.ref src)) "width" (I wd)) "height" (I ht)) "canvas" (.ref x)) "rows" (.ref yr)
theorem png_facts {wd:Nat} {rs:List (List (List Int))} {kf:Nat->Int} {most:Nat} (hc:∀ r∈rs,∀ c∈r,VZg c) (hw:∀ r∈rs,r.length=wd) (hwz:wd<=4) (hrz:rs.length<=4) (hk:∀ i,0<=kf i/\kf i<=4) (hm0:0<most) (hm1:most<=65535) :
  (∀ g∈gsOf wd rs kf most,SgOk g)/\(∀ g∈gsOf wd rs kf most,Sound g)/\(sgZ++YZq (gsOf wd rs kf most)).length<=100000:=by
 have hfl:=UZn (kf:=kf) hw rs.length (Nat.le_refl _)
 have hfz:rs.length*(1+4*wd)<=4*17:=Nat.mul_le_mul hrz (by lia)
 have hfb:=HZq (wd:=wd) (rs:=rs) hk rs.length
 have hstl:=UZk (o:=frN wd rs kf rs.length) hm0
 have hstb:=UZ3 hm0 hm1 (by lia) hfb
 have hgs:∀ g∈gsOf wd rs kf most,SgOk g:=allL (ck_ok asc3.1 rfl (VZb _ _) (by refine sE (XZb ..) ?_;decide)) (allL (ck_ok asc3.2.1 rfl hstb (by lia)) (allL (ck_ok asc3.2.2 rfl InB.nil (Nat.zero_le _)) allN))
 refine ⟨hgs,allL (UZd asc3.1 (VZb _ _)) (allL (UZd asc3.2.1 hstb) (allL (UZd asc3.2.2 InB.nil) allN)),?_⟩
 have h1:=VZq (hgs _ (List.mem_cons_self ..))
 have h2:=VZq (hgs _ (List.mem_cons_of_mem _ (List.mem_cons_self ..)))
 have h3:=VZq (hgs _ (List.mem_cons_of_mem _ (List.mem_cons_of_mem _ (List.mem_cons_self ..))))
 have e1:(ckS IHDR (VZk wd rs.length)).1.length=17:=by unfold ckS;refine sE List.length_append (sE (XZb ..) ?_);rfl
 have e2:(ckS IDAT (YZo (frN wd rs kf rs.length) most)).1.length=4+(YZo (frN wd rs kf rs.length) most).length:=by unfold ckS;refine sE List.length_append ?_;rfl
 have e3:(ckS IEND []).1.length=4:=rfl
 unfold YZq gsOf
 simp only [List.map_cons,List.map_nil,List.flatten_cons,List.flatten_nil,List.length_append,List.length_nil]
 refine sE h1 (sE h2 (sE h3 (sE e1 (sE e2 (sE e3 (sE (show sgZ.length=8 from rfl) ?_))))));lia
theorem KZ4 {c:List Int} (d:Drawn c):∃ r g b al,c=[r,g,b,al]/\0<=al/\al<256:=by
 refine Jk d fun al r g b e ha _=>?_;clear d
 refine ⟨r,g,b,al,e,?_⟩
 simp at ha;lia
theorem GZo {prog:Program} {w:World} {c:List Int} {ca:Addr} (d:Drawn c):Fn prog w (KK w.params) 356 3 [.ref ca] (fun h=>TpAt h ca (c.map I)) (fun v h h'=>∃ t,v=.ref t/\h.get? t=none/\TpAt h' t ((YZj c).map I)):=by
 refine sE ((NZq d).2) ?_
 refine Jk (KZ4 d) ?_;rintro r g b al rfl h0 h1
 exact KZe h0 h1
theorem HZy {prog:Program} {w:World} {c g:List Int} {ca ga:Addr} (d:Drawn c) (hg:g=[255,255,255]∨g=[0,128,7]):Fn prog w (KK w.params) 363 3 [.ref ca,.ref ga] (fun h=>TpAt h ca (c.map I)/\TpAt h ga (g.map I)) (fun v h h'=>∃ t,v=.ref t/\h.get? t=none/\TpAt h' t ((YZl c g).map I)):=by
 refine Jk (KZ4 d) ?_;rintro r gg b al rfl h0 h1
 rcases hg with rfl | rfl <;> exact BZ0 h0 h1
noncomputable abbrev W4 (L:Addr):List Addr:=[L,L+1,L+2,L+3]
section
variable {prog:Program} {w:World}
theorem fr_law {a:Addr} {ks:List Int} (hz:ks.length<=100):FnR prog w (KK w.params) 382 15 [.ref a] (fun h=>LsAt h a (ks.map I)) (fun v=>v=.bool true):=by
 refine FnR.mkC ["script"] [] (by exact rfl) (by kernel_rfl) (fun s args _ h=>ar1 args h fun _=>BindsTo.of_eq rfl) (fun h L A base outer G Gb hpre hL hA F ce B=>?_) ?_ ?_ ?_
 ·have hR:Sf (W4 L) (fun _=>True):=Sf.const
  have hWL:L∈(W4 L):=List.Mem.head _
  refine Xs.asg (W:=W4 L) (V:=fun v h'=>∃ s,v=.ref s/\(s∉(W4 L)/\h.get? s=none)/\SrcOk s h') (St1.cel F ce (c:=L+1) rfl (by exact mm1)) hR
   (Tr.post (EvP.call (F.cx hR) (fn_pool hz) (hA.mono (by decide)) (gv g_law_pool) (Evs.cons lv Evs.nil) (fun h p=>hpre.grow p.1.keep) (by kernel_rfl)) fun v h' q=>⟨?_,q.2⟩) (fun c h1 h2 k q=>J1 q fun s e pu so=>⟨s,e,pu,SrcOk.sf pu.1 _ _ k so⟩) (fun c=>?_)
  ·refine Jg q.1 fun h1 p1 g1 s e n so=>?_
   exact ⟨s,e,⟨off4 rfl rfl q.2.1 so.sq,New.none_of ⟨h1,p1,n⟩ fun _ p=>p.1.keep⟩,so⟩
  refine Xs.fact2 (q:=∃ s,c=.ref s/\s∉(W4 L)/\h.get? s=none) (fun h p=>J1 p.2.1 fun s e pu _=>⟨s,e,pu⟩) fun hs=>?_
  refine J1 hs ?_;clear hs;rintro src rfl hsL hs0
  refine Xs.pre (P:=Pc _ h _ (SrcOk src)) ?_ (fun h p=>⟨p.1,J1 p.2.1 fun s e _ so=>by cases e;exact so⟩)
  have hR1:Sf (W4 L) (SrcOk src):=SrcOk.sf hsL
  have hO:∀ {env:Env},env.locals=L->env.cells=[(("ground" : Str),L+3),("width", L+2),("source", L+1)]->OffL env h [src]:=fun h1 h2=>offL4 h1 h2 (allL hsL allN) (allL hs0 allN)
  refine Xs.unp (W:=W4 L) (Y:=Nat×Nat) (V:=fun y _=>(y.1=1∨y.1=2)/\(y.2=1∨y.2=2)) (cs:=fun y=>[I y.1,I y.2]) hA.handled (allL ⟨⟨_,_,rfl⟩,St1.cel F ce (c:=L+2) rfl (by exact mm2)⟩ (allL ⟨⟨_,_,rfl⟩,St1.loc F ce.cl hWL⟩ allN)) hR1 (fun _=>Sf.const)
   (Tr.post (EvP.tup1 (V2:=fun cs _=>∃ m n:Nat,(m=1∨m=2)/\(n=1∨n=2)/\cs=[I m,I n]) (F.cx hR1).grow (Tr.post (EvsP.cons2 (V1:=fun c _=>∃ m:Nat,(m=1∨m=2)/\c=I m) (V2:=fun cs _=>∃ n:Nat,(n=1∨n=2)/\cs=[I n]) hR1 (fun _=>Sf.const)
     (Tr.post (EvP.one F (hO rfl rfl) (hA.mono (by decide)) RSrc.base (gv XZ8) (cv (L+1)) (EvP.listP (F.cx hR1).grow (Evs.cons Ev.ci (Evs.cons Ev.ci (Evs.cons Ev.ci Evs.nil))) (by show 3<=sizeLine;decide)) (by show 0<3;decide) (by show 3<=1000000;decide)) fun v h' q=>⟨?_,q.2⟩)
     (fun c hRc=>Tr.post (EvsP.sg (EvP.addK Ev.ci (EvP.take F (hO rfl rfl) (hA.mono (by decide)) (RSrc.and Sf.const RSrc.base) (gv VZ9) (cv (L+1)) Ev.ci (by decide) (by decide)))) fun vs h' q=>⟨?_,q.2⟩)) fun vs h' q=>⟨?_,q.2⟩) (fun cs h h' g q=>q) (fun cs h q=>by refine J4 q ?_;clear q;rintro m n _ _ rfl;show 2<=sizeLine;decide)) fun v h' q=>⟨?_,q.2⟩) (fun _=>rfl) (fun wh=>?_)
  ·refine J0 q.1 fun i hi e=>?_
   revert e
   exact lt3 i hi (fun e=>⟨1,.inl rfl,e⟩) (fun e=>⟨1,.inl rfl,e⟩) (fun e=>⟨2,.inr rfl,e⟩)
  ·refine Jf q.1 fun c e k ek k0 k1=>?_
   exact ⟨(1+k).toNat,by omega,by exact sE e (sE ek (sE (Int.toNat_of_nonneg (by lia)) rfl))⟩
  ·refine Jh q.1 fun c cs e z03 n hn e2=>?_;refine J0 z03 fun m hm e1=>?_;clear z03
   exact ⟨m,n,hm,hn,by exact sE e (sE e1 (sE e2 rfl))⟩
  ·obtain ⟨a,cs,e,n,t,m,n',hm,hn,rfl⟩:=q.1
   exact ⟨(m,n'),⟨hm,hn⟩,a,e,t⟩
  obtain ⟨wd,ht⟩:=wh
  refine Xs.fact2 (q:=(wd=1∨wd=2)/\(ht=1∨ht=2)) (fun h p=>p.2.1) fun hwh=>?_
  obtain ⟨hw,hh⟩:=hwh
  refine Xs.pre (P:=Pc _ h _ (SrcOk src)) ?_ (fun h p=>⟨p.1,p.2.2⟩)
  refine Xs.asg (W:=W4 L) (V:=fun v h'=>∃ z:Addr×Addr×Addr×List Addr,v=.ref z.1/\((z.2.2.2.length=ht/\z.2.2.2.Nodup/\z.2.2.1∉z.2.2.2/\z.1≠z.2.1)/\∀ b∈z.1::z.2.1::z.2.2.1::z.2.2.2,b∉src::(W4 L)/\h.get? b=none)/\(h'.get? z.1=some (instObj 319 z.2.1)/\DictAt (XZz wd ht z.2.2.1) h' z.2.1)/\XZs wd ht z.2.2.1 z.2.2.2 h') (St1.loc F ce.cl hWL) hR1
   (Tr.post (EvP.canvas (wd:=wd) (ht:=ht) F hR1 (by lia) (by lia) (hA.mono (by decide)) (gv g_Canvas) (cv (L+2)) lv) fun v h' q=>⟨?_,q.2⟩) (fun c h1 h2 k q=>?_) (fun c=>?_)
  ·obtain ⟨x,dx,ca,ras,e,⟨h1,p1,cp⟩,hx,hd,hc⟩:=q.1
   refine ⟨(x,dx,ca,ras),e,⟨⟨cp.len,cp.nd,cp.car,cp.xd⟩,fun b hb=>?_⟩,⟨hx,hd⟩,hc⟩
   have e0:=cp.off b hb
   refine ⟨fun m=>?_,New.none_of ⟨h1,p1,e0⟩ fun _ p=>p.1.keep⟩
   rcases mC m with rfl | m
   ·obtain ⟨o,ho⟩:=p1.2.live
    rw [e0] at ho;cases ho
   ·obtain ⟨o,ho⟩:=live4 rfl rfl p1.1 b m
    rw [e0] at ho;cases ho
  ·refine J6 q ?_;clear q;rintro ⟨x,dx,ca,ras⟩ e pu r cn
   have off:∀ b∈x::dx::ca::ras,b∉(W4 L):=fun b hb m=>(pu.2 b hb).1 (List.mem_cons_of_mem _ m)
   exact ⟨(x,dx,ca,ras),e,pu,⟨k _ _ (off x (by exact mm0)) r.1,DictAt.sf (off dx (by exact mm1)) _ _ k r.2⟩,LsAt.sf (off ca (by exact mm2)) _ _ k cn.1,fun b hb=>LsAt.sf (off b (by simp [show b∈ras from hb])) _ _ k (cn.2 b hb)⟩
  refine Xs.pre (P:=fun h'=>∃ z:Addr×Addr×Addr×List Addr,(c=.ref z.1/\(z.2.2.2.length=ht/\z.2.2.2.Nodup/\z.2.2.1∉z.2.2.2/\z.1≠z.2.1)/\∀ b∈z.1::z.2.1::z.2.2.1::z.2.2.2,b∉src::(W4 L)/\h.get? b=none)/\Pc _ h _ (fun h'=>SrcOk src h'/\(h'.get? z.1=some (instObj 319 z.2.1)/\DictAt (XZz wd ht z.2.2.1) h' z.2.1)/\XZs wd ht z.2.2.1 z.2.2.2 h') h') (Xs.ex fun z=>Xs.fact fun hz'=>?_) (fun h p=>J6 p.2.1 fun z e pu r cn=>⟨z,⟨e,pu⟩,p.1,p.2.2,r,cn⟩)
  obtain ⟨x,dx,ca,ras⟩:=z
  refine J3 hz' fun ec z01 hoffc=>?_;clear hz';refine Ja z01 fun hrl hnd hcar hxd=>?_;clear z01
  dsimp only at ec hrl hnd hcar hxd hoffc
  subst ec
  have hoW:∀ b∈x::dx::ca::ras,b∉(W4 L):=fun b hb m=>(hoffc b hb).1 (List.mem_cons_of_mem _ m)
  have hoS:∀ b∈x::dx::ca::ras,b∉[src]:=fun b hb m=>(hoffc b hb).1 (by refine sE (mS m) ?_;simp)
  have hCv:∀ {W:List Addr},(∀ b∈x::dx::ca::ras,b∉W)->Sf W (fun h'=>(h'.get? x=some (instObj 319 dx)/\DictAt (XZz wd ht ca) h' dx)/\XZs wd ht ca ras h'):=fun hW =>
   Sf.and (Sf.and (Sf.at (hW x (by exact mm0))) (DictAt.sf (hW dx (by exact mm1)))) (Sf.and (LsAt.sf (hW ca (by exact mm2))) fun h1 h2 k q b hb=>LsAt.sf (hW b (by simp [hb])) _ _ k (q b hb))
  have hCl:∀ {h':Heap},((h'.get? x=some (instObj 319 dx)/\DictAt (XZz wd ht ca) h' dx)/\XZs wd ht ca ras h')->∀ b∈x::dx::ca::ras,∃ o,h'.get? b=some o:=fun q=>allL ⟨_,q.1.1⟩ (allL q.1.2.live (allL q.2.1.live fun b hb=>(q.2.2 b hb).live))
  have hR2:Sf (W4 L) (fun h'=>SrcOk src h'/\(h'.get? x=some (instObj 319 dx)/\DictAt (XZz wd ht ca) h' dx)/\XZs wd ht ca ras h'):=Sf.and hR1 (hCv hoW)
  refine Xs.drawRows (src:=src) (wd:=wd) (ht:=ht) (S:=fun h'=>(h'.get? x=some (instObj 319 dx)/\DictAt (XZz wd ht ca) h' dx)/\XZs wd ht ca ras h') (Wz:=src::(W4 L)++(x::dx::ca::ras)) (cl1:=[("width", L+2),("source", L+1)]) (cl2:=[("source", L+1)]) F ⟨by rfl,fun _=>by rfl,by decide,by rfl,by decide,cl2a (by rfl) (by rfl),cl2b (by rfl) (by rfl)⟩ ce.cl hA.handled (hO rfl rfl) (hR2.mono fun b hb=>by refine sE (mS hb) ?_;exact hWL) (hCv hoS)
   (fun Wx hWx=>hCv (New.off_all hWx fun h p=>hCl p.2.2)) (fun h p b hb=>?_) (by exact mm0) (by simp;exact .inr (.inl rfl)) (by lia) (by lia) (bv XZi PyProof.Rows.boot_range) lv (fun C=>⟨by rfl,fun _=>by rfl,by decide,by rfl,by decide,cl1a (by rfl),cl1b (by rfl)⟩)
   (fun C hC=>CompOk.clC (ok:=fun _=>True) ⟨by rfl,fun _=>trivial,by decide,by rfl,by decide,cl2a (by rfl) (by rfl),cl2b (by rfl) (by rfl)⟩ hC) (fun C i B hF hB=>⟨bv XZi PyProof.Rows.boot_range,cv (L+2)⟩) (fun C C2 i j B hC hC2 hF hB=>?_) (fun yr rs erl erd yo=>?_)
  ·rcases mA hb with hb | hb
   ·rcases mC hb with rfl | hb
    ·exact p.2.1.live
    ·exact live4 rfl rfl p.1 b hb
   ·exact hCl p.2.2 b hb
  ·have hSB:Sf [] (fun h=>SrcOk src h/\B h):=Sf.and (SrcOk.sf List.not_mem_nil) (hB.mono fun b hb=>nomatch hb)
   refine EvP.callM (W:=[src]) (cs:=[.ref src]) hF fn_colour (((hO rfl rfl).comp (by simp;exact hC) (cl2a (n1 := "width") (n2 := "source") (by rfl) (by rfl))).comp (by simp;exact hC2) (cl1a (by rfl))) (hA.mono (by decide)) (gv HZn) (Evs.cons (cv (L+1)) Evs.nil) (fun h p=>p.2.1) (fun v h1 h2 p g q=>⟨?_,q.2,hB _ _ (XZg g) p.2.2⟩) (by kernel_rfl)
   refine J9 q.1 fun t c e n tp d=>?_
   exact ⟨t,c,e,⟨h1,p,n.1⟩,tp,d⟩
  ·subst erl
   have LP:LawP h L src wd rs yr x dx ca ras:=⟨hw,hh,hsL,hs0,hrl,hnd,hcar,hxd,hoffc,yo,erd⟩
   refine Xs.pre (P:=Pc _ h (lawMu a src wd rs.length x yr.1) (fun h'=>Fix wd rs.length rs yr x dx ca ras h'/\CellsC yr wd rs.length ras 0 0 h'/\SrcOk src h')) ?_ (fun h p=>⟨p.1.cong ⟨by repeat (first | exact allN | refine allL rfl ?_),by repeat (first | exact allN | refine allL rfl ?_)⟩,⟨p.2.1,p.2.2.2.1,p.2.2.2.2.1⟩,fun r hr=>by refine sE (cont_0 ..) ?_;exact p.2.2.2.2.2 _ (YZr (by lia)),p.2.2.1⟩)
   refine Xs.fact2 (q:=x∉ras/\dx∉ras) (fun h p=>⟨fun m=>?_,fun m=>?_⟩) fun hxr=>?_
   ·refine J0 (VZs m 0) fun r hr e=>?_
    have l:=p.2.2.1 r (by lia)
    rw [e] at l
    refine J0 l fun vs z01 _=>?_;clear l;obtain ⟨n,e1⟩:=z01
    rw [p.2.1.2.1.1] at e1;cases e1
   ·refine J0 (VZs m 0) fun r hr e=>?_
    have l:=p.2.2.1 r (by lia)
    rw [e] at l
    refine J0 l fun vs z01 _=>?_;clear l;obtain ⟨n,e1⟩:=z01
    refine J2 p.2.1.2.1.2 fun es n2 e2 _=>?_
    rw [e2] at e1
    have:=congrArg (Option.map Obj.cls) e1
    simp at this
   have hFW:∀ b∈x::dx::ca::adrs yr,b∉(W4 L):=allL (hoW x (by exact mm0)) (allL (hoW dx (by exact mm1)) (allL (hoW ca (by exact mm2)) fun b hb m=>yo b hb (List.mem_append_left _ (List.mem_cons_of_mem _ m))))
   have hFS:∀ b∈x::dx::ca::adrs yr,b∉[src]:=allL (hoS x (by exact mm0)) (allL (hoS dx (by exact mm1)) (allL (hoS ca (by exact mm2)) fun b hb m=>yo b hb (by refine sE (mS m) ?_;simp)))
   have hFr:∀ b∈x::dx::ca::adrs yr,b∉ras:=allL hxr.1 (allL hxr.2 (allL hcar fun b hb m=>yo b hb (by simp [m])))
   have hrW:∀ b∈ras,b∉(W4 L):=fun b hb=>hoW b (by simp [hb])
   have hrS:∀ b∈ras,b∉[src]:=fun b hb=>hoS b (by simp [hb])
   have hr0:∀ b∈ras,h.get? b=none:=fun b hb=>(hoffc b (by simp [hb])).2
   have hrsrc:src∉ras:=fun m=>hrS src m (by exact mm0)
   have hwid:∀ r∈rs,r.length=wd:=fun r hr=>(erd r hr).1
   have hcol:∀ r∈rs,∀ c∈r,VZg c:=fun r hr c hc=>(NZq ((erd r hr).2 c hc)).1
   have hKW:∀ {i j:Nat},Sf (W4 L) (fun h'=>Fix wd rs.length rs yr x dx ca ras h'/\CellsC yr wd rs.length ras i j h'/\SrcOk src h'):=Sf.and (Fix.sf hFW) (Sf.and (CellsC.sf hrl hrW) hR1)
   have hKn:∀ {i j:Nat} {P:HP} {W:List Addr},(∀ b∈W,New P b)->(∀ h',P h'->Fix wd rs.length rs yr x dx ca ras h'/\(∃ i j,CellsC yr wd rs.length ras i j h')/\SrcOk src h')->Sf W (fun h'=>Fix wd rs.length rs yr x dx ca ras h'/\CellsC yr wd rs.length ras i j h'/\SrcOk src h'):=fun hW hP =>
    Sf.and (Fix.sf (New.off_all hW fun h p=>(hP h p).1.live)) (Sf.and (CellsC.sf hrl (New.off_all hW fun h p=>J5 ((hP h p).2.1) fun _ _ c=>c.live hrl)) (SrcOk.sf (New.of_live hW fun h p=>(hP h p).2.2.live)))
   have hKg:∀ {i j:Nat},Sf [] (fun h'=>Fix wd rs.length rs yr x dx ca ras h'/\CellsC yr wd rs.length ras i j h'/\SrcOk src h'):=hKW.mono fun b hb=>nomatch hb
   refine Xs.forR (n:=rs.length) (σ:=Unit) F ce.cl hA.handled (L::ras) (fun h p=>allL p.1.loc_in (p.2.2.1.live hrl)) (by lia) (bv XZi PyProof.Rows.boot_range (hR:=hKW)) (lv (hR:=hKW)) ["x"] (fun i _=>lawMu a src wd rs.length x yr.1)
    (fun W i _ h'=>Fix wd rs.length rs yr x dx ca ras h'/\CellsC yr wd rs.length ras i 0 h'/\SrcOk src h') (fun W hW i z=>hKn hW fun h p=>⟨p.2.1,⟨_,_,p.2.2.1⟩,p.2.2.2⟩) (fun W i z=>hKW.mono fun b hb=>by refine sE (mS hb) ?_;exact hWL) hKg () (fun h p W hW=>p) ⟨_,by refine sE (YZv ..) ?_;exact ⟨fun _ _=>rfl,fun _ _=>rfl⟩⟩ ?_ ?_
   ·intro W hW i _ S u hi hS hlv hst
    have hSL:Sf (W4 L) S->True:=fun _=>trivial
    have hS1:Sf [L] S:=hS.mono fun b hb=>by refine sE (mS hb) ?_;exact List.mem_cons_self ..
    have hKS:∀ {j:Nat},Sf [L] (fun h'=>(Fix wd rs.length rs yr x dx ca ras h'/\CellsC yr wd rs.length ras i j h'/\SrcOk src h')/\S h'):=Sf.and (hKW.mono fun b hb=>by refine sE (mS hb) ?_;exact hWL) hS1
    refine Xs.forR (n:=wd) (σ:=Unit) F ce.cl hA.handled (L::ras) (fun h p=>allL p.1.loc_in (p.2.1.2.1.live hrl)) (by lia) (bv XZi PyProof.Rows.boot_range (hR:=hKS)) (cv (L+2) (hR:=hKS)) [] (fun j _=>up (ovr (lawMu a src wd rs.length x yr.1) ["x"] u) "y" (I (i:Int)))
     (fun W' j _ h'=>(Fix wd rs.length rs yr x dx ca ras h'/\CellsC yr wd rs.length ras i j h'/\SrcOk src h')/\S h') (fun W' hW' j z=>Sf.and (hKn hW' fun h p=>⟨p.2.1.1,⟨_,_,p.2.1.2.1⟩,p.2.1.2.2⟩) (hst W' fun b hb=>.inr (J0 (hW' b hb) fun h p e=>⟨h,p.2.2,e⟩))) (fun W' j z=>hKS) (hKS.mono fun b hb=>nomatch hb) () (fun h p W hW=>p) ⟨_,by refine sE (YZv ..) ?_;exact ⟨fun _ _=>rfl,fun _ _=>rfl⟩⟩ ?_ ?_
    ·intro W' hW' j _ S' u' hj hS' hlv' hst'
     have hKS':Sf [L] (fun h'=>((Fix wd rs.length rs yr x dx ca ras h'/\CellsC yr wd rs.length ras i j h'/\SrcOk src h')/\S h')/\S' h'):=Sf.and hKS (hS'.mono fun b hb=>by refine sE (mS hb) ?_;exact List.mem_cons_self ..)
     have hra:ras.getD i 0∈ras:=YZr (by lia)
     have hyl:∀ {h':Heap},RowsE rs yr h'->LsAt h' yr.1 (yr.2.1.map Value.ref)/\LsAt h' (yr.2.1.getD i 0) ((yr.2.2.getD i []).map Value.ref)/\yr.2.1.length=rs.length/\(yr.2.2.getD i []).length=wd:=fun r=>⟨r.2.1,(r.2.2 i hi).1,r.1.1,(r.2.2 i hi).2.1.trans (hwid _ (YZr hi))⟩
     refine Xs.fact2 (q:=yr.2.1.length=rs.length/\(yr.2.2.getD i []).length=wd) (fun h p=>(hyl p.2.1.1.1.1).2.2) fun hyz=>?_
     refine Xs.expr' (Tr.methM (R':=fun h'=>((Fix wd rs.length rs yr x dx ca ras h'/\CellsC yr wd rs.length ras i (j+1) h'/\SrcOk src h')/\S h')/\S' h') (W:=[ras.getD i 0]) (own:=XZz wd rs.length ca) (no:=cvNo) (C:=319) (xx:=x) (cs:=[I j,I i,.ref ((yr.2.2.getD i []).getD j 0)]) F
      (fn_put (ca:=ca) (wd:=wd) (ht:=rs.length) (ras:=ras) (cs:=cont yr wd i j i) own_w own_h own_l own_t own_c no_holds hj hi hrl rfl (cont_len ..) (fun q=>hcar (q▸hra)) (by lia)) (offL4 rfl rfl (allL (hrW _ hra) allN) (allL (hr0 _ hra) allN)) (hA.mono (by decide)) (lv (hR:=hKS'))
      (Evs.cons (lv (hR:=hKS')) (Evs.cons (lv (hR:=hKS')) (Evs.cons (Ev.itL (a:=yr.2.1.getD i 0) (k:=(j:Int)) (cs:=(yr.2.2.getD i []).map Value.ref) (Ev.itemL (a:=yr.1) (k:=(i:Int)) (cs:=yr.2.1.map Value.ref) (lv (hR:=hKS')) (lv (hR:=hKS')) (fun h p=>(hyl p.2.1.1.1.1).1) (by exact Int.natCast_nonneg _) (by refine sE (List.length_map ..) ?_;lia) (by refine sE (List.length_map ..) ?_;lia) (by exact sE (Int.toNat_natCast ..) (sE (XZh (by lia)) rfl))) (lv (hR:=hKS')) (fun h p=>(hyl p.2.1.1.1.1).2.1) (by exact Int.natCast_nonneg _) (by refine sE (List.length_map ..) ?_;lia) (by refine sE (List.length_map ..) ?_;lia) (by exact sE (Int.toNat_natCast ..) (sE (XZh (by lia)) rfl))) Evs.nil)))
      (fun h p=>cv_ob p.2.1.1.1.2.1.1 p.2.1.1.1.2.1.2) no_put (fun h p=>⟨cv_ob p.2.1.1.1.2.1.1 p.2.1.1.1.2.1.2,p.2.1.1.1.2.2,p.2.1.1.2.1 i hi⟩) (fun v h1 h2 p g q=>?_) cv_g_put cv_f_put (by kernel_rfl) (by kernel_rfl)) ?_
     ·have kk:=XZg g
      have sub:∀ b∈[ras.getD i 0],b∈L::ras:=fun b hb=>by refine sE (mS hb) ?_;exact List.mem_cons_of_mem _ hra
      refine ⟨⟨⟨Fix.sf (fun b hb m=>hFr b hb (by refine sE (mS m) ?_;exact hra)) _ _ kk p.2.1.1.1,put_step LP hi hj p.2.1.1.2.1 kk q.2,SrcOk.sf (fun m=>hrsrc (by refine sE (mS m) ?_;exact hra)) _ _ kk p.2.1.1.2.2⟩,(hS.mono sub) _ _ kk p.2.1.2⟩,(hS'.mono sub) _ _ kk p.2.2⟩
     ·exact Xs.turnZ () ⟨by repeat (first | exact allN | refine allL rfl ?_),by repeat (first | exact allN | refine allL rfl ?_)⟩ fun h r=>r
    ·intro W' hW' u' _
     exact Xs.turnZ () ⟨by repeat (first | exact allN | refine allL rfl ?_),by repeat (first | exact allN | refine allL rfl ?_)⟩ fun h r=>⟨⟨r.1.1,fun q hq=>by refine sF (cont_row ..) ?_;exact r.1.2.1 q hq,r.1.2.2⟩,r.2⟩
   ·intro W hW u _
    obtain ⟨G6,hG6⟩:∃ G6:HP,∀ h',G6 h' ↔ (Fix wd rs.length rs yr x dx ca ras h'/\CellsC yr wd rs.length ras rs.length 0 h'):=⟨_,fun _=>Iff.rfl⟩
    refine Xs.pre (P:=Pc _ h (ovr (lawMu a src wd rs.length x yr.1) ["y", "x"] u) (fun h'=>G6 h'/\SrcOk src h')) ?_ (fun h p=>⟨p.1,(hG6 h).mpr ⟨p.2.1,p.2.2.1⟩,p.2.2.2⟩)
    have gSf:∀ {W:List Addr},(∀ b∈x::dx::ca::adrs yr,b∉W)->(∀ b∈ras,b∉W)->Sf W G6:=fun h1 h2 a b k q=>(hG6 b).mpr ((Sf.and (Fix.sf h1) (CellsC.sf hrl h2)) a b k ((hG6 a).mp q))
    have gW:Sf (W4 L) G6:=gSf hFW hrW
    have gS:Sf [src] G6:=gSf hFS hrS
    have gN:∀ {P:HP} {W:List Addr},(∀ b∈W,New P b)->(∀ h',P h'->G6 h')->Sf W G6:=fun hW hP=>gSf (New.off_all hW fun h p=>((hG6 h).mp (hP h p)).1.live) (New.off_all hW fun h p=>((hG6 h).mp (hP h p)).2.live hrl)
    have gOb:∀ {h'},G6 h'->ObAt 319 h' x (XZz wd rs.length ca) cvNo:=fun q=>cv_ob ((hG6 _).mp q).1.2.1.1 ((hG6 _).mp q).1.2.1.2
    have gRo:∀ {h'},G6 h'->RowsAt h' ca rs:=fun q=>cells_done hrl hwid ((hG6 _).mp q).1 ((hG6 _).mp q).2
    have gE:∀ {h'},G6 h'->RowsE rs yr h':=fun q=>((hG6 _).mp q).1.1
    clear hG6 gSf
    have hRS:RSrc src (fun h'=>G6 h'/\SrcOk src h'):=RSrc.and gS RSrc.base
    have hR6:Sf (W4 L) (fun h'=>G6 h'/\SrcOk src h'):=Sf.and gW hR1
    refine Xs.swp (W:=W4 L) (Y:=Option Int×Nat) (ns:=["kind", "most"]) (V:=fun y _=>(∀ k∈y.1,0<=k/\k<=4)/\0<y.2/\y.2<=65535) (cs:=fun y=>[kV y.1,I y.2]) hA.handled (fun n hn=>?_) hR6 (fun _=>Sf.const)
     (Tr.post (EvP.tup1 (V2:=fun cs _=>∃ (kd:Option Int) (m:Nat),(∀ k∈kd,0<=k/\k<=4)/\(0<m/\m<=65535)/\cs=[kV kd,I m]) (F.cx hR6).grow (Tr.post (EvsP.cons2 (V1:=fun c _=>∃ kd:Option Int,(∀ k∈kd,0<=k/\k<=4)/\c=kV kd) (V2:=fun cs _=>∃ m:Nat,(0<m/\m<=65535)/\cs=[I m]) hR6 (fun _=>Sf.const)
      (Tr.post (EvP.one F (hO rfl rfl) (hA.mono (by decide)) hRS (gv XZ8) (cv (L+1)) (EvP.listP (F.cx hR6).grow (Evs.cons Ev.cn (Evs.cons Ev.ci (Evs.cons Ev.ci (Evs.cons Ev.ci (Evs.cons Ev.ci (Evs.cons Ev.ci Evs.nil)))))) (by show 6<=sizeLine;decide)) (by show 0<6;decide) (by show 6<=1000000;decide)) fun v h' q=>⟨?_,q.2⟩)
      (fun c hRc=>Tr.post (EvsP.sg (EvP.one F (hO rfl rfl) (hA.mono (by decide)) (RSrc.and Sf.const hRS) (gv XZ8) (cv (L+1)) (EvP.listP (F.cx hRc).grow (Evs.cons Ev.ci (Evs.cons Ev.ci (Evs.cons Ev.ci Evs.nil))) (by show 3<=sizeLine;decide)) (by show 0<3;decide) (by show 3<=1000000;decide))) fun vs h' q=>⟨?_,q.2⟩)) fun vs h' q=>⟨?_,q.2⟩) (fun cs h h' g q=>q) (fun cs h q=>by refine J4 q ?_;clear q;rintro kd m _ _ rfl;show 2<=sizeLine;decide)) fun v h' q=>⟨?_,q.2⟩) (fun _=>rfl) (fun km=>?_)
    ·simp only [List.reverse_cons,List.reverse_nil,List.nil_append,List.singleton_append,List.cons_append,List.mem_cons,List.not_mem_nil,or_false] at hn
     rcases hn with rfl | rfl
     ·exact St1.locB F ce.cl hWL
     ·exact St1.locB F ce.cl hWL
    ·refine J0 q.1 fun i hi e=>?_
     revert e
     exact lt6 i hi (fun e=>⟨none,fun _ h=>(nomatch h),e⟩) (fun e=>⟨some 0,fun k h=>by cases h;decide,e⟩) (fun e=>⟨some 1,fun k h=>by cases h;decide,e⟩) (fun e=>⟨some 2,fun k h=>by cases h;decide,e⟩) (fun e=>⟨some 3,fun k h=>by cases h;decide,e⟩) (fun e=>⟨some 4,fun k h=>by cases h;decide,e⟩)
    ·refine J8 q.1 fun c e i hi ec=>?_
     revert ec
     exact lt3 i hi (fun ec=>⟨65535,by decide,by refine sE e (sE ec ?_);rfl⟩) (fun ec=>⟨5,by decide,by refine sE e (sE ec ?_);rfl⟩) (fun ec=>⟨1,by decide,by refine sE e (sE ec ?_);rfl⟩)
    ·refine Jh q.1 fun c cs e z03 m hm e2=>?_;refine J0 z03 fun kd hk e1=>?_;clear z03
     exact ⟨kd,m,hk,hm,by exact sE e (sE e1 (sE e2 rfl))⟩
    ·obtain ⟨a,cs,e,n,t,kd,m,hk,hm,rfl⟩:=q.1
     exact ⟨(kd,m),⟨hk,hm⟩,a,e,t⟩
    obtain ⟨kd,most⟩:=km
    refine Xs.fact2 (q:=(∀ k∈kd,0<=k/\k<=4)/\0<most/\most<=65535) (fun h p=>p.2.1) fun hkm=>?_
    refine J3 hkm fun hkd hm0 hm1=>?_;clear hkm
    refine Xs.pre (P:=Pc _ h _ (fun h'=>G6 h'/\SrcOk src h')) ?_ (fun h p=>⟨p.1,p.2.2⟩)
    refine Xs.asg (W:=W4 L) (V:=fun v _=>∃ kf:Nat->Int,(∀ i,0<=kf i/\kf i<=4)/\v=By (pngZ wd rs kf most)) (St1.loc F ce.cl hWL) hR6
     (Tr.post (EvP.call (F.cx hR6) (HZt (x:=x) (ca:=ca) (own:=XZz wd rs.length ca) (no:=cvNo) (wd:=wd) (rs:=rs) (kd:=kd) (most:=most) own_w own_h own_c no_rows hcol hwid (by lia) (by lia) hkd hm0 hm1) (hA.mono (by decide)) (gv BZp) (Evs.cons lv (Evs.cons lv (Evs.cons lv Evs.nil))) (fun h p=>⟨gOb p.2.1,gRo p.2.1⟩) (by kernel_rfl)) fun v h' q=>⟨J1 q.1 fun _ _ _ r=>r,q.2⟩) (fun _=>Sf.const) (fun c=>?_)
    refine Xs.fact2 (q:=∃ kf:Nat->Int,(∀ i,0<=kf i/\kf i<=4)/\c=By (pngZ wd rs kf most)) (fun h p=>p.2.1) fun hkf=>?_
    refine J0 hkf ?_;clear hkf;rintro kf hkf rfl
    refine Xs.pre (P:=Pc _ h _ (fun h'=>G6 h'/\SrcOk src h')) ?_ (fun h p=>⟨p.1,p.2.2⟩)
    refine J3 (png_facts (most:=most) hcol hwid (by lia) (by lia) hkf hm0 hm1) fun hsok hsnd hpz=>?_
    refine Xs.iteA (P':=Pc _ h _ (fun h'=>G6 h'/\SrcOk src h')) (Tr.eqK (Tr.post (EvP.take F (hO rfl rfl) (hA.mono (by decide)) hRS (gv VZ9) (cv (L+1)) Ev.ci (by decide) (by decide)) fun v h' q=>⟨J0 q.1 fun k e _=>⟨k,e⟩,q.2⟩) Ev.ci) ?_ ?_
    ·have hpl:=DZq (prog:=prog) (w:=w) KZy rfl hsok hpz
     rw [<- UZt] at hpl
     have hpb:InB (pngZ wd rs kf most):=by refine sE UZt ?_;exact KZy.app (GZv hsok)
     have hpz':(pngZ wd rs kf most).length<=100000:=by refine sE UZt ?_;exact hpz
     have hp8:0<(XZo (gsOf wd rs kf most)).length:=by unfold XZo;refine sE List.length_append (sE (DZl ..) ?_);lia
     have hpc:(XZo (gsOf wd rs kf most)).length<=1000000:=by
      unfold XZo
      have:=UZl (gsOf wd rs kf most) 8
      refine sE List.length_append (sE (DZl ..) ?_)
      rw [List.length_append] at hpz
      omega
     refine Xs.swp (W:=W4 L) (Y:=Int×Nat) (ns:=["place", "bit"]) (V:=fun y _=>y.1∈XZo (gsOf wd rs kf most)/\y.2<8) (cs:=fun y=>[I y.1,I y.2]) hA.handled (fun n hn=>?_) hR6 (fun _=>Sf.const)
      (Tr.post (EvP.tup1 (V2:=fun cs _=>∃ (k:Int) (b:Nat),k∈XZo (gsOf wd rs kf most)/\b<8/\cs=[I k,I b]) (F.cx hR6).grow (Tr.post (EvsP.cons2 (V1:=fun c _=>∃ k:Int,k∈XZo (gsOf wd rs kf most)/\c=I k) (V2:=fun cs _=>∃ b:Nat,b<8/\cs=[I b]) hR6 (fun _=>Sf.const)
       (Tr.post (EvP.one (cs:=(XZo (gsOf wd rs kf most)).map I) F (hO rfl rfl) (hA.mono (by decide)) hRS (gv XZ8) (cv (L+1)) (EvP.callN (F.cx hR6) hpl (hA.mono (by decide)) (gv HZm) (Evs.cons lv Evs.nil) (fun _ _=>trivial) (by kernel_rfl)) (by refine sE (List.length_map ..) ?_;exact hp8) (by refine sE (List.length_map ..) ?_;exact hpc)) fun v h' q=>⟨?_,q.2⟩)
       (fun c hRc=>Tr.post (EvsP.sg (EvP.take F (hO rfl rfl) (hA.mono (by decide)) (RSrc.and Sf.const hRS) (gv VZ9) (cv (L+1)) Ev.ci (by decide) (by decide))) fun vs h' q=>⟨?_,q.2⟩)) fun vs h' q=>⟨?_,q.2⟩) (fun cs h h' g q=>q) (fun cs h q=>by refine J4 q ?_;clear q;rintro k b _ _ rfl;show 2<=sizeLine;decide)) fun v h' q=>⟨?_,q.2⟩) (fun _=>rfl) (fun pb=>?_)
     ·simp only [List.reverse_cons,List.reverse_nil,List.nil_append,List.singleton_append,List.cons_append,List.mem_cons,List.not_mem_nil,or_false] at hn
      rcases hn with rfl | rfl
      ·exact St1.locB F ce.cl hWL
      ·exact St1.locB F ce.cl hWL
     ·refine J0 q.1 fun i hi e=>?_
      rw [List.length_map] at hi
      rw [XZc hi] at e
      exact ⟨_,YZr hi,e⟩
     ·refine Jf q.1 fun c e k ek k0 k1=>?_
      exact ⟨k.toNat,by (first | lia | omega),by exact sE e (sE ek (sE (Int.toNat_of_nonneg k0) rfl))⟩
     ·refine Jh q.1 fun c cs e z03 b hb e2=>?_;refine J0 z03 fun k hk e1=>?_;clear z03
      exact ⟨k,b,hk,hb,by exact sE e (sE e1 (sE e2 rfl))⟩
     ·obtain ⟨a,cs,e,n,t,k,b,hk,hb,rfl⟩:=q.1
      exact ⟨(k,b),⟨hk,hb⟩,a,e,t⟩
     obtain ⟨pl,bt⟩:=pb
     refine Xs.fact2 (q:=pl∈XZo (gsOf wd rs kf most)/\bt<8) (fun h p=>p.2.1) fun hpb2=>?_
     obtain ⟨hplm,hbt⟩:=hpb2
     refine Xs.pre (P:=Pc _ h _ (fun h'=>G6 h'/\SrcOk src h')) ?_ (fun h p=>⟨p.1,p.2.2⟩)
     refine J1 (png_turn hsok hsnd hplm) fun n en hn hturn=>?_
     rw [<- UZt] at hn hturn
     subst en
     obtain ⟨⟨hv0,hv1⟩,hvn⟩:=bit_turn (x:=(pngZ wd rs kf most).getD n 0) (b:=bt) (hpb.getD n).1 (hpb.getD n).2 hbt
     obtain ⟨sg',gs',eo,s1,s2,s3,s4,s5⟩:=hturn _ hv0 hv1 hvn
     have hz2:(pngZ wd rs kf most).length<=16777216:=by (first | lia | omega)
     have hbits:(Builtin.Int.intBits 2:Int)*(bt:Int)<=2 ^ 27:=by
      have h1:=bits256 (x:=2) (by decide) (by decide)
      have:(Builtin.Int.intBits 2:Int)*(bt:Int)<=64*8:=Int.mul_le_mul (by (first | lia | omega)) (by (first | lia | omega)) (by (first | lia | omega)) (by (first | lia | omega))
      (first | lia | omega)
     refine Xs.retR (F.cx hR6) B Gb (fr_refused s1 s2 s3 (by refine sE s4 ?_;show 3<=10;decide) (by refine sF eo (sE List.length_set ?_);exact hpz') s5) (hA.mono (by decide)) (gv GZn) (Evs.cons (Tr.post (Ev.addB (ks:=slZ (pngZ wd rs kf most) none (some (n:Int))++[Builtin.bitXor ((pngZ wd rs kf most).getD n 0) (2 ^ bt)]) (ls:=slZ (pngZ wd rs kf most) (some ((n:Int)+1)) none) ?_ (Ev.addB ?_ (Ev.sliceB (lo:=none) (hi:=some (n:Int)) (F.cx hR6) hpb hz2 lv EvO.no (EvO.yes lv))
       (Ev.bytesL (ls:=[Builtin.bitXor ((pngZ wd rs kf most).getD n 0) (2 ^ bt)]) (F.cx hR6) hA.handled (allL ⟨hv0,hv1⟩ allN) (by show 1<=sizeLine;decide) (bv XZj PyProof.Rows.boot_bytes) (Tr.post (Ev.list0 (F.cx hR6).grow (Evs.cons (Ev.bxor (Ev.itemB (ks:=pngZ wd rs kf most) (k:=(n:Int)) hpb hz2 (by (first | lia | omega)) (by (first | lia | omega)) lv lv) (Ev.pow (i:=2) (j:=(bt:Int)) (by (first | lia | omega)) (by (first | lia | omega)) (by decide) hbits Ev.ci lv)) Evs.nil) (by show 1<=sizeLine;decide)) fun v h q=>⟨dr q.1,q.2⟩)))
       (Ev.sliceB (lo:=some ((n:Int)+1)) (hi:=none) (F.cx hR6) hpb hz2 lv (EvO.yes (Ev.add lv Ev.ci)) EvO.no)) fun v h q=>⟨q.1.trans ?_,q.2⟩) Evs.nil) (fun _ _=>trivial) (fun v h st e=>⟨st,e⟩) (by kernel_rfl)
     ·have h1:=slZ_le (pngZ wd rs kf most) none (some (n:Int))
      have h2:=slZ_le (pngZ wd rs kf most) (some ((n:Int)+1)) none
      refine sE List.length_append (sE List.length_singleton ?_);(first | lia | omega)
     ·have h1:=slZ_le (pngZ wd rs kf most) none (some (n:Int))
      refine sE List.length_singleton ?_;(first | lia | omega)
     ·exact sE (NZf (by (first | lia | omega))) (sE (DZi (by (first | lia | omega))) (sE (Int.toNat_natCast ..) (sE (show ((n:Int)+1).toNat=n+1 by (first | lia | omega)) (sE (DZh hn) (sE eo rfl)))))
    ·refine Xs.asg (W:=W4 L) (V:=fun v h'=>∃ z:Addr×Yr,v=.ref z.1/\(z.1∉(W4 L)/\∀ b∈adrs z.2,b∉(W4 L))/\TpAt h' z.1 [I wd,I rs.length,.ref z.2.1]/\RowsE (rs.map fun (row:List (List Int))=>row.map YZj) z.2 h') (St1.loc F ce.cl hWL) hR6
      (Tr.post (EvP.call (F.cx hR6) (BZz hcol hwid (by (first | lia | omega)) (by (first | lia | omega)) hkf hm0 hm1) (hA.mono (by decide)) (gv KZ0) (Evs.cons lv Evs.nil) (fun _ _=>trivial) (by kernel_rfl)) fun v h' q=>⟨?_,q.2⟩) (fun c h1 h2 k q=>J6 q fun z e pu tp re=>⟨z,e,pu,TpAt.sf pu.1 _ _ k tp,RowsE.sf pu.2 _ _ k re⟩) (fun c=>?_)
     ·obtain ⟨h1,p1,g1,t,e,n,r,tp,ro⟩:=q.1
      refine J0 ro.told ?_;rintro y rfl re
      exact ⟨(t,y),e,⟨off4 rfl rfl q.2.1 tp.sq,fun b hb=>off4 rfl rfl q.2.1 (re.sqs b hb)⟩,tp,re⟩
     refine Xs.pre (P:=fun h'=>∃ z:Addr×Yr,(c=.ref z.1/\z.1∉(W4 L)/\∀ b∈adrs z.2,b∉(W4 L))/\Pc _ h _ (fun h'=>(TpAt h' z.1 [I wd,I rs.length,.ref z.2.1]/\RowsE (rs.map fun (row:List (List Int))=>row.map YZj) z.2 h')/\G6 h'/\SrcOk src h') h') (Xs.ex fun z=>Xs.fact fun hz2=>?_) (fun h p=>J1 p.2.1 fun z e pu r=>⟨z,⟨e,pu⟩,p.1,r,p.2.2⟩)
     obtain ⟨t,ty⟩:=z
     refine J3 hz2 fun ec htW htyW=>?_;clear hz2
     dsimp only at ec htW htyW
     subst ec
     have hrl10:rs.length<=10/\∀ r∈rs,r.length<=10:=⟨by (first | lia | omega),fun r hr=>by refine sE (hwid r hr) ?_;(first | lia | omega)⟩
     have hR7:Sf (W4 L) (fun h'=>(TpAt h' t [I wd,I rs.length,.ref ty.1]/\RowsE (rs.map fun (row:List (List Int))=>row.map YZj) ty h')/\G6 h'/\SrcOk src h'):=Sf.and (Sf.and (TpAt.sf htW) (RowsE.sf htyW)) hR6
     have hdr:∀ i j,i<rs.length->j<(rs.getD i []).length->Drawn ((rs.getD i []).getD j []):=fun i j hi hj=>(erd _ (YZr hi)).2 _ (YZr hj)
     refine Xs.iteF (Ist.cmpP (a:=.ref t) (V:=fun v h'=>∃ u q,v=.ref u/\TpAt h' u [I wd,I rs.length,.ref q]/\RowsAt h' q (rs.map fun (row:List (List Int))=>row.map YZj)) lv
      (Tr.post (EvP.tup1 (V2:=fun cs h'=>∃ q,cs=[I wd,I rs.length,.ref q]/\RowsAt h' q (rs.map fun (row:List (List Int))=>row.map YZj)) (F.cx hR7).grow (Tr.post (EvsP.consV (c:=I wd) (cv (L+2)) (EvsP.consV (c:=I rs.length) lv (EvsP.sg (EvP.mapRows (y:=yr) (rs:=rs) (φ:=YZj) (cl1:=[]) (cl2:=[]) F ⟨by rfl,fun _=>by rfl,by decide,by rfl,by decide,fun _ _ h=>(nomatch h),fun _ _ h=>(nomatch h)⟩ ce.cl hA.handled lv (fun h p=>gE p.2.1) (fun W hW=>Sf.and (Sf.and (TpAt.sf (New.of_live hW fun h p=>p.2.1.1.live)) (RowsE.sf (New.off_all hW fun h p=>p.2.1.2.live))) (Sf.and (gN hW fun h p=>p.2.2.1) (SrcOk.sf (New.of_live hW fun h p=>p.2.2.2.live)))) (hR7.mono fun b hb=>nomatch hb) hrl10
        (fun C=>⟨by rfl,fun _=>by rfl,by decide,by rfl,by decide,fun _ _ h=>(nomatch h),fun _ _ h=>(nomatch h)⟩) (fun C hC=>CompOk.clC (ok:=fun _=>True) ⟨by rfl,fun _=>trivial,by decide,by rfl,by decide,fun _ _ h=>(nomatch h),fun _ _ h=>(nomatch h)⟩ hC)
        (fun C C2 i j B2 hi hj hF2 hB2 hB3=>EvP.callN (G:=fun t h'=>TpAt h' t ((YZj ((rs.getD i []).getD j [])).map I)) (hF2.cx hB2) (GZo (hdr i j hi hj)) (hA.mono (by decide)) (gv KZs) (Evs.cons lv Evs.nil) (fun h p=>((gE (hB3 h p.2).2.1).2.2 i hi).2.2 j hj) (by kernel_rfl)))))) fun vs h' q=>⟨?_,q.2⟩) (fun cs h1 h2 g q=>J0 q fun r e ro=>⟨r,e,ro.grow g⟩) (fun cs h' q=>by refine J0 q ?_;clear q;rintro r rfl _;show 3<=sizeLine;decide)) fun v h' q=>⟨?_,q.2⟩)
      (fun s Q E v u p ev q k=>?_)) ?_
     ·obtain ⟨cs1,e1,cs2,e2,c3,e3,D,e4,ro⟩:=q.1
      exact ⟨D,by exact sE e1 (sE e2 (sE e3 (sE e4 rfl))),ro⟩
     ·refine Jn q.1 ?_;rintro u cs e n tp r rfl ro
      exact ⟨u,r,e,tp,ro⟩
     ·refine J4 q fun u2 r eu tp ro=>?_;clear q
      refine sE (YZh ev) (sE (YZh eu) ?_)
      exact YZb (ne_img p.2.1.1 p.2.1.2.at tp ro (by have:=hA.units;(first | lia | omega)) (k _ _ rfl))
     refine Xs.pre (P:=Pc _ h _ (fun h'=>G6 h'/\SrcOk src h')) ?_ (fun h p=>⟨p.1,p.2.2⟩)
     refine Xs.asg (W:=W4 L) (V:=fun v h'=>∃ z:Addr×List Int,v=.ref z.1/\(z.1∉(W4 L)/\(z.2=[255,255,255]∨z.2=[0,128,7]))/\TpAt h' z.1 (z.2.map I)) (St1.cel F ce (c:=L+3) rfl (by simp)) hR6
      (EvP.callMX (Y:=Addr×Addr×Addr) (W:=[src]) (cy:=fun y=>[.ref src,.ref y.1]) (VY:=fun y h'=>(y.1≠src/\LsAt h' y.1 [.ref y.2.1,.ref y.2.2])/\(y.2.1∉src::(W4 L)/\TpAt h' y.2.1 (([255,255,255]:List Int).map I))/\(y.2.2∉src::(W4 L)/\TpAt h' y.2.2 (([0,128,7]:List Int).map I))) F (fun y h' p vy=>NZl (by show 0<2;decide) (by show 2<=1000000;decide) vy.1.1) (hO rfl rfl) (hA.mono (by decide)) (gv XZ8)
       (Tr.post (EvsP.two (c1:=.ref src) (cv (L+1)) (EvP.list1 (V2:=fun cs h'=>∃ t1 t2,cs=[.ref t1,.ref t2]/\TpAt h' t1 (([255,255,255]:List Int).map I)/\TpAt h' t2 (([0,128,7]:List Int).map I)) (F.cx hR6).grow (Tr.post (EvsP.cons2 (V1:=fun c h'=>∃ t1,c=.ref t1/\TpAt h' t1 (([255,255,255]:List Int).map I)) (V2:=fun cs h'=>∃ t2,cs=[.ref t2]/\TpAt h' t2 (([0,128,7]:List Int).map I)) hR6 (fun c h1 h2 k q=>J0 q fun t1 e tp=>⟨t1,e,TpAt.sf List.not_mem_nil _ _ k tp⟩)
        (Tr.post (Ev.tup0 (F.cx hR6).grow (Evs.cons Ev.ci (Evs.cons Ev.ci (Evs.cons Ev.ci Evs.nil))) (by show 3<=sizeLine;decide)) fun v h' q=>⟨dr q.1,q.2⟩)
        (fun c hRc=>Tr.post (EvsP.sg (Ev.tup0 (F.cx hRc).grow (Evs.cons Ev.ci (Evs.cons Ev.ci (Evs.cons Ev.ci Evs.nil))) (by show 3<=sizeLine;decide))) fun vs h' q=>⟨Jf q.1 fun c e t2 e2 _ tp=>⟨t2,by exact sE e (sE e2 rfl),tp⟩,q.2⟩)) fun vs h' q=>⟨?_,q.2⟩) (fun cs h1 h2 g q=>J4 q fun t1 t2 e a1 a2=>⟨t1,t2,e,a1.grow g,a2.grow g⟩) (fun cs h' q=>by refine J2 q ?_;clear q;rintro t1 t2 rfl _;show 2<=sizeLine;decide))) fun vs h' q=>⟨?_,q.2⟩)
       (fun y h' p vy=>⟨p.2.2,vy.1.2⟩) (fun y v h1 h2 p vy g q=>?_) (by kernel_rfl)) (fun c h1 h2 k q=>J1 q fun z e pu tp=>⟨z,e,pu,TpAt.sf pu.1 _ _ k tp⟩) (fun c=>?_)
     ·refine Jh q.1 fun c cs e z03 t2 e2 a2=>?_;refine J0 z03 fun t1 e1 a1=>?_;clear z03
      exact ⟨t1,t2,by exact sE e (sE e1 (sE e2 rfl)),a1,a2⟩
     ·obtain ⟨c2,e,a,cs,ea,n,l,t1,t2,ecs,a1,a2⟩:=q.1
      subst ecs
      have so:=q.2.2.2
      have ofs:∀ {b:Addr} {ks:List Value},TpAt h' b ks->b∉src::(W4 L):=fun tp m=>by
       rcases mC m with rfl | m
       ·refine J4 so fun _ _ _ _ l=>?_;clear so
        exact tp.ne_ls l rfl
       ·exact off4 rfl rfl q.2.1 tp.sq m
      refine ⟨(a,t1,t2),by exact sE e (sE ea rfl),⟨fun m=>?_,l⟩,⟨ofs a1,a1⟩,⟨ofs a2,a2⟩⟩
      refine J0 n fun h3 p3 e3=>?_;clear n
      obtain ⟨o,ho⟩:=p3.2.2.live
      rw [<- show a=src from m,e3] at ho;cases ho
     ·obtain ⟨⟨i,hi,e⟩,so⟩:=q
      have kk:=XZg g
      have off1:∀ {b:Addr},b∉src::(W4 L)->b∉[src]/\b∉(W4 L):=fun hb=>⟨fun m=>hb (by refine sE (mS m) ?_;simp),fun m=>hb (List.mem_cons_of_mem _ m)⟩
      refine ⟨?_,gS _ _ kk p.2.1,so⟩
      revert e
      exact lt2 i hi (fun e=>⟨(y.2.1,[255,255,255]),e,⟨(off1 vy.2.1.1).2,.inl rfl⟩,TpAt.sf (off1 vy.2.1.1).1 _ _ kk vy.2.1.2⟩) (fun e=>⟨(y.2.2,[0,128,7]),e,⟨(off1 vy.2.2.1).2,.inr rfl⟩,TpAt.sf (off1 vy.2.2.1).1 _ _ kk vy.2.2.2⟩)
     refine Xs.pre (P:=fun h'=>∃ z:Addr×List Int,(c=.ref z.1/\z.1∉(W4 L)/\(z.2=[255,255,255]∨z.2=[0,128,7]))/\Pc _ h _ (fun h'=>TpAt h' z.1 (z.2.map I)/\G6 h'/\SrcOk src h') h') (Xs.ex fun z=>Xs.fact fun hz3=>?_) (fun h p=>J1 p.2.1 fun z e pu r=>⟨z,⟨e,pu⟩,p.1,r,p.2.2⟩)
     obtain ⟨ga,gd⟩:=z
     refine J3 hz3 fun ec hgW hgd=>?_;clear hz3
     dsimp only at ec hgW hgd
     subst ec
     have hg3:gd.length=3:=by rcases hgd with rfl | rfl <;> rfl
     have hgb:InB gd:=by rcases hgd with rfl | rfl <;> exact allL (by decide) (allL (by decide) (allL (by decide) allN))
     have hR8:Sf (W4 L) (fun h'=>TpAt h' ga (gd.map I)/\G6 h'/\SrcOk src h'):=Sf.and (TpAt.sf hgW) hR6
     refine Xs.asg (W:=W4 L) (V:=fun v h'=>∃ z:Addr×Yr,v=.ref z.1/\(z.1∉(W4 L)/\∀ b∈adrs z.2,b∉(W4 L))/\TpAt h' z.1 [I wd,I rs.length,.ref z.2.1]/\RowsE (rs.map fun (row:List (List Int))=>row.map fun (c:List Int)=>YZl c gd) z.2 h') (St1.loc F ce.cl hWL) hR8
      (Tr.post (EvP.tup1 (V2:=fun cs h'=>∃ q,cs=[I wd,I rs.length,.ref q]/\RowsAt h' q (rs.map fun (row:List (List Int))=>row.map fun (c:List Int)=>YZl c gd)) (F.cx hR8).grow (Tr.post (EvsP.consV (c:=I wd) (cv (L+2)) (EvsP.consV (c:=I rs.length) lv (EvsP.sg (EvP.mapRows (y:=yr) (rs:=rs) (φ:=fun c=>YZl c gd) (cl1:=[("ground", L+3)]) (cl2:=[("ground", L+3)]) F ⟨by rfl,fun _=>by rfl,by decide,by rfl,by decide,cl1a (by rfl),cl1b (by rfl)⟩ ce.cl hA.handled lv (fun h p=>gE p.2.1) (fun W hW=>Sf.and (TpAt.sf (New.of_live hW fun h p=>p.2.1.live)) (Sf.and (gN hW fun h p=>p.2.2.1) (SrcOk.sf (New.of_live hW fun h p=>p.2.2.2.live)))) (hR8.mono fun b hb=>nomatch hb) hrl10
        (fun C=>⟨by rfl,fun _=>by rfl,by decide,by rfl,by decide,cl1a (by rfl),cl1b (by rfl)⟩) (fun C hC=>CompOk.clC (ok:=fun _=>True) ⟨by rfl,fun _=>trivial,by decide,by rfl,by decide,cl1a (by rfl),cl1b (by rfl)⟩ hC)
        (fun C C2 i j B2 hi hj hF2 hB2 hB3=>EvP.callN (G:=fun t h'=>TpAt h' t ((YZl ((rs.getD i []).getD j []) gd).map I)) (hF2.cx hB2) (HZy (hdr i j hi hj) hgd) (hA.mono (by decide)) (gv g_law_laid) (Evs.cons lv (Evs.cons (cv (L+3)) Evs.nil)) (fun h p=>⟨((gE (hB3 h p.2).2.1).2.2 i hi).2.2 j hj,(hB3 h p.2).1⟩) (by kernel_rfl)))))) fun vs h' q=>⟨?_,q.2⟩) (fun cs h1 h2 g q=>J0 q fun r e ro=>⟨r,e,ro.grow g⟩) (fun cs h' q=>by refine J0 q ?_;clear q;rintro r rfl _;show 3<=sizeLine;decide)) fun v h' q=>⟨?_,q.2⟩) (fun c h1 h2 k q=>J6 q fun z e pu tp re=>⟨z,e,pu,TpAt.sf pu.1 _ _ k tp,RowsE.sf pu.2 _ _ k re⟩) (fun c=>?_)
     ·obtain ⟨cs1,e1,cs2,e2,c3,e3,D,e4,ro⟩:=q.1
      exact ⟨D,by exact sE e1 (sE e2 (sE e3 (sE e4 rfl))),ro⟩
     ·refine Jn q.1 ?_;rintro u cs e n tp r rfl ro
      refine J0 ro.told ?_;rintro y rfl re
      exact ⟨(u,y),e,⟨off4 rfl rfl q.2.1 tp.sq,fun b hb=>off4 rfl rfl q.2.1 (re.sqs b hb)⟩,tp,re⟩
     refine Xs.pre (P:=fun h'=>∃ z:Addr×Yr,(c=.ref z.1/\z.1∉(W4 L)/\∀ b∈adrs z.2,b∉(W4 L))/\Pc _ h _ (fun h'=>(TpAt h' z.1 [I wd,I rs.length,.ref z.2.1]/\RowsE (rs.map fun (row:List (List Int))=>row.map fun (c:List Int)=>YZl c gd) z.2 h')/\TpAt h' ga (gd.map I)/\G6 h'/\SrcOk src h') h') (Xs.ex fun z=>Xs.fact fun hz4=>?_) (fun h p=>J1 p.2.1 fun z e pu r=>⟨z,⟨e,pu⟩,p.1,r,p.2.2⟩)
     obtain ⟨du,dy⟩:=z
     refine J3 hz4 fun ec hdW hdyW=>?_;clear hz4
     dsimp only at ec hdW hdyW
     subst ec
     have hR9:Sf (W4 L) (fun h'=>(TpAt h' du [I wd,I rs.length,.ref dy.1]/\RowsE (rs.map fun (row:List (List Int))=>row.map fun (c:List Int)=>YZl c gd) dy h')/\TpAt h' ga (gd.map I)/\G6 h'/\SrcOk src h'):=Sf.and (Sf.and (TpAt.sf hdW) (RowsE.sf hdyW)) hR8
     refine Xs.retV (EvP.cmpV (a:=.ref du) (V1:=fun v h'=>∃ t r,v=.ref t/\TpAt h' t [I wd,I rs.length,.ref r]/\RowsAt h' r (rs.map fun (row:List (List Int))=>row.map fun (c:List Int)=>YZl c gd))
      (Tr.post (EvP.call (F.cx hR9) (BZy (wd:=wd) (rs:=rs) (g:=gd) hcol hwid hw hh hg3 hgb) (hA.mono (by decide)) (gv NZ9) (Evs.cons (Ev.call (F.cx hR9) (HZs (x:=x) (ca:=ca) (ga:=ga) (own:=XZz wd rs.length ca) (no:=cvNo) own_w own_h own_c no_rows hcol hwid (by (first | lia | omega)) (by (first | lia | omega)) hg3 hgb) (hA.mono (by decide)) (gv BZo) (Evs.cons lv (Evs.cons (cv (L+3)) Evs.nil)) (fun h p=>⟨gOb p.2.2.2.1,gRo p.2.2.2.1,p.2.2.1⟩) (by kernel_rfl)) Evs.nil) (fun _ _=>trivial) (by kernel_rfl)) fun v h' q=>⟨let ⟨_,_,_,t,e,_,r,tp,ro⟩:=q.1;⟨t,r,e,tp,ro⟩,q.2⟩)
      (fun v=>Ev.loc ((F.cx hR9).and fun h1 h2 g q=>J4 q fun t r e tp ro=>⟨t,r,e,tp.grow g,ro.grow g⟩)) (fun s Q E v u p q eu k=>?_)) (fun h' p=>⟨B.base p.1,rfl⟩)
     refine J4 q fun t2 r ev tp ro=>?_;clear q
     refine sE (YZh ev) (sE (YZh eu) ?_)
     exact YZb (eq_img tp ro p.2.1.1 p.2.1.2.at (by have:=hA.units;(first | lia | omega)) (k _ _ rfl))
 ·exact fun L=>allL (.inl (by rfl)) allN
 ·intro L x c h
  rcases lk3 (n1 := "ground") (n2 := "width") (n3 := "source") (a1:=L+3) (a2:=L+2) (a3:=L+1) h with ⟨rfl,_⟩ | ⟨rfl,_⟩ | ⟨rfl,_⟩ <;> rfl
 ·intro L x y c h1 h2
  rcases lk3 (n1 := "ground") (n2 := "width") (n3 := "source") (a1:=L+3) (a2:=L+2) (a3:=L+1) h1 with ⟨rfl,rfl⟩ | ⟨rfl,rfl⟩ | ⟨rfl,rfl⟩ <;> rcases lk3 (n1 := "ground") (n2 := "width") (n3 := "source") (a1:=L+3) (a2:=L+2) (a3:=L+1) h2 with ⟨rfl,e⟩ | ⟨rfl,e⟩ | ⟨rfl,e⟩ <;> first | rfl | exact addr_ne (by decide) e
end
end
theorem HZa {P:Params} {h:Heap}:∀ {vs:List Value} {ks:List Int},WellAll P h vs (ks.map .int)->vs.map tk0=ks.map I
 | _,[],W=>by cases W;rfl
 | _,k::ks,W=>by
  cases W with
  | cons w ws =>
   cases w
   refine sE List.map_cons (sE List.map_cons (sE (HZa ws) ?_));rfl
theorem true_ends {c:ClaimW} {cl:Str->Option Addr} {mean:ExcName->Option Value} {args:List WData} {s₁:Shared} {h':Heap} {tk:Nat} (hk:s₁.heap.StaysIn h') (hg:s₁.gens=#[]) (hr:∀ cls,c.raises args cls=false) (hp:c.post args (.bool true) args=true) :
  GoodWG c cl mean args s₁ (.ok (.ret (.bool true))) { s₁ with heap:=h',toks:=tk } :=
 ⟨.inl ⟨_,_,[],rfl,hr,ReadsW.bool true,hp,fun _=>⟨List.nodup_nil,fun _ hm=>(nomatch hm)⟩⟩,OldK.of_keep hk,rfl,AllBare.of_eq hg⟩
theorem tk_true {v:Value} (h:tk0 v=.bool true):v=.bool true:=by
 cases v <;> first | exact h | cases h
theorem g_law {P:Params}:nsIn (KK P) mainGlobals "law" = some (some (.ref 382)):=by kernel_rfl
set_option tactic.hygienic true in
set_option maxHeartbeats 8000000 in
theorem lastH:PySem.Challenge.rw_nu0031_01.Holds:=by
 refine MineH.hd fun dd kw hdef=>?_
 intro w s₀ s₁ mg mb G Y a o pm cd doc dV kV ha hd hcr hdf hmg hgens args vals as hpre hlay hrd hwell has
 obtain ⟨hsh,hcond⟩:=pre_splitW hpre
 refine J4 (hasAllW_cons hsh) ?_;rintro d r rfl hd1 hr
 obtain rfl:=hasAllW_nil hr
 refine J0 (hasW_list hd1) ?_;rintro xs rfl hi
 obtain ⟨ks,rfl⟩:=items_int hi
 have hks:ks.length<=63:=by
  have h1:WTm.holds [] (.not (.lt (.lit (.int 63)) (.len (.arg 0)))) { args:=[.list (ks.map .int)] }=true:=(holds_andW hcond).1
  by_cases q:ks.length<=63
  ·exact q
  ·exfalso
   w_cond h1
   have:=List.length_map (as:=ks) WData.int
   (first | lia | omega)
 obtain rfl:a=382:=by
  rw [defOf_name hdef] at hmg
  have:=(mg_of (K:=KK w.params) (kIn_of Y) G.T.g g_law).symm.trans hmg
  cases this;rfl
 cases hwell with
 | cons w1 w2 =>
  cases w2
  cases w1 with
  | list hl hv =>
   rename_i b vs
   have hgd:Gd (KK w.params) s₁.heap:=⟨kIn_of Y,⟨_,_,_,_,topRead_of G.T⟩,G.T.nodigits⟩
   refine YZy (fr_law (ks:=ks) (a:=b) (by (first | lia | omega)) callerA s₁ _ [.ref b] s₁.heap [] ⟨by decide,by decide,rfl⟩ hgd hgd (below_caller _) ⟨vs,⟨_,hl⟩,HZa hv⟩ rfl fun v h' tk st e=>?_)
   refine sE (tk_true e) ?_
   exact true_ends st hgens (fun _=>rfl) (by wrow_post)
end Mine
end
theorem PySem.Challenge.cw_nu0031_01_holds : PySem.Challenge.rw_nu0031_01.Holds := by
  exact Mine.lastH
