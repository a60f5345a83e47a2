import PyProof.Rows.All
import Wide.All
import OpenK.AllK
import Wide.FinOn
import KE.KRevIter
import KE.KBytesWalk
import KE.KSortTup
import KE.BitLaws
import Lean
import PySem.Challenge.RW_nz0423_01
set_option Elab.async false
set_option compiler.extract_closed false
set_option linter.all false
set_option tactic.hygienic false
set_option maxRecDepth 100000
set_option maxHeartbeats 8000000
set_option genSizeOf false
set_option genInjectivity false
local macro_rules | `(∅) => `(by kernel_rfl)
local macro_rules | `(⋯) => `(by decide)
open Lean in
local macro_rules | `(tactic| rw [$rs,*]) => do
 let t ← rs.getElems.foldlM (fun t r => do
  let e : Term := ⟨r.raw[1]⟩
  let n := mkIdent (if r.raw[0].isNone then `LR else `LP)
  `(tactic| ($t; first | with_reducible_and_instances refine $n ($e ..) ?_ | rewrite [$r]))) (← `(tactic| skip))
 `(tactic| ($t; try with_reducible rfl))
local macro_rules | `(tactic| omega) => `(tactic| first | lia | omega +splitNatSub)
open Lean in
local macro_rules (kind := Lean.Parser.Tactic.injections) | s => do
 let a := s[1].getArgs
 let h : Ident := ⟨a[1]!⟩
 let n : Ident := ⟨a[0]!⟩
 let xs : Array Term := ((a.extract 2 a.size).push h).map (⟨·⟩)
 `(tactic| (revert $h; refine fun hh => ?_; set_option smartUnfolding false in refine $n hh fun $xs* => ?_; clear hh))
open Lean in
local macro_rules | `(f! $s) => do
 let p (c : Name) (a : List Term) := Syntax.mkApp (mkCIdent (`Mine.Internal ++ c)) a.reverse.toArray
 let (S, n) := ((s.raw[0].isInterpolatedStrLit?.getD "").foldl (init := (([] : List Term), "")) fun (S, n) c =>
  if c.isDigit then (S, n.push c) else
  let S := if n == "" then S else Syntax.mkNumLit n :: S
  let q (c : Name) (i : Nat) := p c (S.take i) :: S.drop i
  (match c with
  | '.' => q `Lx.c 1
  | '+' => q `Lx.a 2
  | '*' => q `Lx.m 2
  | ':' => q `Lx.n 2
  | '<' => q `Lk.l 4
  | '>' => q `Lk.g 3
  | ' ' => S
  | 'z' => mkCIdent `Mine.Internal.Lk.z :: S
  | c => p `Lx.v [Syntax.mkNumLit (toString (c.toNat - 97))] :: S, ""))
 let h : Term := ⟨mkNode ``Parser.Term.hole #[mkAtom "_"]⟩
 let l := n.toNat!.repeat (fun t => Syntax.mkApp (mkCIdent ``List.cons) #[h, t]) (mkCIdent ``List.nil)
 return Syntax.mkApp (mkCIdent `Mine.Internal.fk) ((l :: S : List Term) ++ [(mkCIdent ``rfl : Term)]).toArray
namespace Mine.Internal
open PySem PySem.W PySem.Calls PyProof.Rows
abbrev V:=@Nat.le_of_eq
abbrev ac:=@List.length_map
abbrev af:=@Nat.le_trans
abbrev ag:=@Nat.lt_of_lt_of_le
abbrev ah:=@List.length_append
abbrev ai:=@Nat.sub_add_cancel
abbrev aj:=@Nat.lt_of_le_of_lt
abbrev al:=@wpAny_bind
abbrev aq:=@List.getElem?_eq_getElem
abbrev ay:=@of_decide_eq_true
abbrev aA:=@List.getElem?_eq_some_iff
abbrev aB:=@List.map_cons
abbrev aC:=@decide_eq_true
abbrev aG:=@Nat.le_of_not_gt
abbrev aH:=@Nat.le_of_ble_eq_true
abbrev aM:=@List.getD_eq_getElem?_getD
abbrev aO:=@wpAny_pure
abbrev aV:=@wpAny_mono
abbrev aX:=@Int.toNat_natCast
abbrev bd:=@Int.ofNat_lt
abbrev be:=@Nat.div_mul_le_self
abbrev bh:=@Int.natCast_nonneg
abbrev bk:=@List.map_append
abbrev bn:=@List.size_toArray
abbrev bo:=@List.mem_cons
abbrev bt:=@List.length_set
abbrev bu:=@List.mem_singleton
abbrev bw:=@List.sum_cons
abbrev bz:=@Nat.le_refl
abbrev bA:=@List.mem_cons_self
abbrev bB:=@Heap.get?_push_of_some
abbrev bE:=@List.length_range
abbrev bF:=@Nat.le_of_lt
abbrev bG:=@List.prefix_refl
abbrev bI:=@List.mem_cons_of_mem
abbrev bJ:=@List.map_congr_left
abbrev bP:=@wpAny_standAt
abbrev bQ:=@Option.some.inj
abbrev bU:=@List.mem_of_getElem?
abbrev bW:=@List.length_cons
abbrev bY:=@List.map_map
abbrev b9:=@List.length_singleton
abbrev ca:=@List.getElem?_eq_none
abbrev ch:=@Nat.ne_of_gt
abbrev ck:=@beq_eq_false_iff_ne
abbrev cy:=@Bool.and_eq_true
abbrev cA:=@wpAny_holding
abbrev cB:=@Heap.lt_size
abbrev cH:=@Option.map_eq_some_iff
abbrev cO:=@Nat.succ_ne_self
abbrev cR:=@Nat.two_pow_pos
abbrev cU:=@Option.bind_eq_some_iff
abbrev cZ:=@List.getElem?_set_ne
abbrev c5:=@List.append_assoc
abbrev c6:=@Bool.and_eq_true_iff
abbrev db:=@builtinLookup_eq_fast
abbrev dj:=@Nat.mul_comm
abbrev dv:=@beq_self_eq_true
abbrev dz:=@List.length_replicate
abbrev dE:=@Nat.ne_of_lt
abbrev dN:=@wpAny_of_eq
abbrev et:=@Nat.zero_le
abbrev ez:=@eq_of_beq
abbrev eA:=@Option.isSome_iff_exists
abbrev eC:=@Int.ofNat.inj
abbrev eH:=@List.mem_map
abbrev eJ:=@List.append_nil
abbrev eL:=@Int.ofNat_le
abbrev eS:=@Nat.sub_le
abbrev eT:=@List.filter_append
abbrev eZ:=@Nat.le_of_not_lt
abbrev fy:=@Nat.succ_le_of_lt
abbrev fA:=@List.mem_range
abbrev fB:=@List.getElem?_map
abbrev fC:=@List.foldl_append
abbrev fH:=@typeLookup_type
abbrev fJ:=@List.sum_append
abbrev fN:=@List.getElem?_append_left
abbrev fS:=@List.mem_iff_getElem?
abbrev fT:=@List.getElem?_toArray
abbrev fX:=@Nat.succ_le_succ
abbrev fY:=@Nat.lt_succ_self
abbrev fZ:=@Nat.lt_of_not_le
abbrev f0:=@List.pairwise_cons
abbrev f9:=@Ne.symm
abbrev gc:=@Nat.pow_succ
abbrev gh:=@Nat.pow_add
abbrev gE:=@Nat.le_antisymm
abbrev gF:=@List.mem_append
abbrev gG:=@List.foldl_cons
abbrev gL:=@Heap.get?_push_size
abbrev gM:=@Array.length_toList
abbrev gV:=@Nat.zero_add
abbrev hP:=@Nat.le_add_right
abbrev hU:=@List.ext_getElem
abbrev il:=@List.length_filter_le
abbrev iF:=@List.drop_eq_getElem_cons
abbrev iN:=@Nat.lt_trans
abbrev iO:=@List.nodup_append
abbrev iR:=@Nat.mul_assoc
abbrev ja:=@List.replicate_succ
abbrev jb:=@List.mem_map_of_mem
abbrev jf:=@List.not_mem_nil
abbrev jg:=@List.length_take
abbrev jo:=@Nat.le_succ
abbrev jp:=@Nat.add_mul
abbrev jt:=@wpAny_Call_Name_kw
abbrev ju:=@beq_iff_eq
abbrev jv:=@Nat.mod_lt
abbrev jw:=@List.prefix_append
abbrev jx:=@List.getElem?_set_self
abbrev jP:=@wpAny_specialOf
abbrev jQ:=@List.range_succ
abbrev jR:=@List.nodup_cons
abbrev jS:=@Bool.or_eq_true
abbrev jV:=@List.count_cons_of_ne
abbrev kt:=@decide_eq_true_eq
abbrev ku:=@List.take_add_one
abbrev kx:=@List.flatMap_cons
abbrev k5:=@Nat.succ_pos
abbrev k6:=@Nat.add_comm
abbrev k7:=@List.lookup_cons
abbrev k8:=@List.getElem_map
abbrev lF:=@List.pairwise_iff_getElem
abbrev lG:=@List.getElem?_eq_none_iff
abbrev lI:=@List.zipIdx_map_fst
abbrev lJ:=@Int.toNat_of_nonneg
abbrev mj:=@Nat.le_add_left
abbrev mo:=@List.map_singleton
abbrev mq:=@List.map_replicate
abbrev mr:=@List.getElem_range
abbrev mt:=@List.count_pos_iff
abbrev mu:=@Bool.false_eq_true
abbrev mZ:=@wpAny_assign_Name
abbrev m0:=@if_true
abbrev m3:=@if_false
abbrev m4:=@Nat.lt_of_succ_lt_succ
abbrev m5:=@Nat.div_div_eq_div_mul
abbrev m6:=@List.flatten_cons
abbrev m7:=@List.count_append
abbrev n5:=@Nat.div_lt_iff_lt_mul
abbrev n6:=@List.take_append_drop
section
open PySem.SeqAt
 def aT (t:Array Lean.Syntax):Lean.Syntax:=.node .none ``Lean.Parser.Tactic.tacticSeq #[.node .none ``Lean.Parser.Tactic.tacticSeq1Indented #[.node .none `null t]]
 def aF:Lean.Syntax:=.node .none ``Lean.Parser.Tactic.tacticRfl #[.atom .none "rfl"]
 def aR:Lean.Syntax:=aT #[aF]
 def aK:Lean.Syntax:=aT #[.node .none `tacticKernel_rfl #[.atom .none "kernel_rfl"]]
 def aI:Lean.Syntax:=aT #[.node .none ``Lean.Parser.Tactic.intros #[.atom .none "intros",.node .none `null #[]],.atom .none ";",aF]
 def aW:Lean.Syntax:=aT #[.node .none ``Lean.Parser.Tactic.withUnfoldingAll #[.atom .none "with_unfolding_all",aR]]
@[elab_as_elim] theorem LR {α:Sort _} {a b:α} {motive:α→Prop} (h:a=b) (k:motive b):motive a:=h▸k
@[elab_as_elim] theorem LP {α:Sort _} {a b:α} {motive:α→Prop} (h:b=a) (k:motive b):motive a:=h▸k
theorem Aw {α:Sort _} {a b:α}:(if false=true then a else b)=b:=rfl
theorem CV {α:Sort _} {a b:α}:(if(!true)=true then a else b)=b:=rfl
theorem nb {a b:Nat} (h:Nat.ble a b=true):a≤b:=aH h
inductive Lx where
 |v (i:Nat)|c (k:Nat)|a (x y:Lx)|m (k:Nat) (x:Lx)|n (x:Lx) (k:Nat)
inductive Lk where
 |z|g (k:Nat) (x y:Lx)|l (t:Lk) (k:Nat) (x y:Lx)
noncomputable def Le:List Nat→Nat→Nat
 | [],_=>0
 |x::_,0=>x
 |_::l,i+1=>Le l i
noncomputable def Lx.den (t:List Nat):Lx→Nat
 | .v i=>Le t i
 | .c k=>k
 | .a x y=>x.den t+y.den t
 | .m k x=>k*x.den t
 | .n x k=>x.den t*k
noncomputable def s9:List Int→List Int→List Int
 | [],q=>q
 |a::p,q=>List.casesOn q (a::p) λ b q=>(a+b)::s9 p q
noncomputable def Fs (i:Nat):List Int:=Nat.rec [1] (λ _ l=>0::l) i
noncomputable def Lx.lin:Lx→List Int
 | .v i=>0::Fs i
 | .c k=>[k]
 | .a x y=>s9 x.lin y.lin
 | .m k x=>x.lin.map ((k:Int)*·)
 | .n x k=>x.lin.map ((k:Int)*·)
noncomputable def pp:List Int→List Nat→Int
 | [],_=>0
 |a::p,t=>List.casesOn t 0 λ x t=>a*(x:Nat)+pp p t
noncomputable def wM (t:List Nat) (p:List Int):Int:=List.casesOn p 0 λ c p=>c+pp p t
noncomputable def Lk.sum:Lk→List Int
 | .z=>[]
 | .g k x y=>s9 ((s9 (s9 y.lin [1]) (x.lin.map (-1*·))).map ((k:Int)*·)) []
 | .l t k x y=>s9 ((s9 x.lin (y.lin.map (-1*·))).map ((k:Int)*·)) t.sum
noncomputable def Lk.imp (c:List Nat):Lk→Prop
 | .z=>False
 | .g _ x y=>x.den c≤y.den c
 | .l t _ x y=>x.den c≤y.den c→t.imp c
noncomputable def Lk.chk (k:Lk):Bool:=List.casesOn k.sum false λ c p=>decide (0<c)&&p.all (λ a=>decide (0≤a))
theorem Cw (a b c d:Int):a+b+(c+d)=a+c+(b+d):=by
 rw[Int.add_assoc,Int.add_assoc,Int.add_left_comm b]
theorem Fu (t:List Nat) (p q:List Int):pp (s9 p q) t=pp p t+pp q t:=by
 induction p generalizing q t with
 |nil=>exact(Int.zero_add _).symm
 |cons a p ih=>cases q with
  |nil=>exact(Int.add_zero _).symm
  |cons b q=>cases t with
   |nil=>rfl
   |cons x t=>
    show(a+b)*x+pp (s9 p q) t=(a*x+pp p t)+(b*x+pp q t)
    rw[ih,Int.add_mul];exact Cw _ _ _ _
theorem vB (t:List Nat) (p q:List Int):wM t (s9 p q)=wM t p+wM t q:=by
 cases p with
 |nil=>exact(Int.zero_add _).symm
 |cons a p=>cases q with
  |nil=>exact(Int.add_zero _).symm
  |cons b q=>
   show(a+b)+pp (s9 p q) t=(a+pp p t)+(b+pp q t)
   rw[Fu];exact Cw _ _ _ _
theorem Ft (k:Int) (t:List Nat) (p:List Int):pp (p.map (k*·)) t=k*pp p t:=by
 induction p generalizing t with
 |nil=>exact(Int.mul_zero _).symm
 |cons a p ih=>cases t with
  |nil=>exact(Int.mul_zero _).symm
  |cons x t=>
   show k*a*x+pp (p.map (k*·)) t=k*(a*x+pp p t)
   rw[ih,Int.mul_add,Int.mul_assoc]
theorem se (k:Int) (t:List Nat) (p:List Int):wM t (p.map (k*·))=k*wM t p:=by
 cases p with
 |nil=>exact(Int.mul_zero _).symm
 |cons a p=>exact(congrArg (k*a+·) (Ft k t p)).trans (Int.mul_add k a _).symm
theorem Ef (t:List Nat) (i:Nat):pp (Fs i) t=(Le t i:Nat):=by
 induction i generalizing t with
 |zero=>cases t with
  |nil=>rfl
  |cons x t=>exact(Int.add_zero _).trans (Int.one_mul _)
 |succ i ih=>cases t with
  |nil=>rfl
  |cons x t=>exact(congrArg (·+pp (Fs i) t) (Int.zero_mul (x:Int))).trans ((Int.zero_add _).trans (ih t))
theorem CL (t:List Nat) (e:Lx):wM t e.lin=(e.den t:Nat):=by
 induction e with
 |v i=>exact(Int.zero_add _).trans (Ef t i)
 |c k=>exact Int.add_zero _
 |a x y h1 h2=>exact(vB _ _ _).trans (h1.symm▸h2.symm▸rfl)
 |m k x h=>exact(se _ _ _).trans (h.symm▸rfl)
 |n x k h=>exact(se _ _ _).trans (h.symm▸congrArg Int.ofNat (dj _ _))
theorem Kk (t:List Nat) (k:Lk):∀q:Int,q≤0→0<q+wM t k.sum→k.imp t:=by
 have st:∀(k:Nat) (x y:Lx) (r:List Int) (q:Int),q≤0→x.den t≤y.den t→0<q+wM t (s9 ((s9 x.lin (y.lin.map (-1*·))).map ((k:Int)*·)) r)→∃q:Int,q≤0∧0<q+wM t r:=by
  intro k x y r q h1 h h2
  refine⟨q+(k:Int)*((x.den t:Nat)+ -1*(y.den t:Nat)),Int.add_le_add h1 (Int.mul_le_mul_of_nonneg_left (c:=k) (b:=0) ?_ (bh k)),?_⟩
  ·rw[Int.neg_one_mul];exact Int.sub_nonpos_of_le (eL.mpr h)
  ·rw[←CL,←CL,←se,←vB,←se,Int.add_assoc,←vB];exact h2
 have z:∀q:Int,q≤0→0<q+wM t []→False:=λ q h1 h2=>Int.lt_irrefl _ (Int.lt_of_lt_of_le h2 (Int.le_trans (Int.le_of_eq (Int.add_zero q)) h1))
 induction k with
 |z=>exact z
 |g k x y=>exact λ q h1 h2=>eZ λ h=>let⟨q,a,b⟩:=st k (.a y (.c 1)) x [] q h1 h h2;z q a b
 |l r k x y ih=>exact λ q h1 h2 h=>let⟨q,a,b⟩:=st k x y r.sum q h1 h h2;ih q a b
theorem He (t:List Nat) (p:List Int) (h:(p.all λ a=>decide (0≤a))=true):0≤pp p t:=by
 induction p generalizing t with
 |nil=>exact Int.le_refl _
 |cons a p ih=>cases t with
  |nil=>exact Int.le_refl _
  |cons x t=>
   have h:=c6.mp h
   exact Int.add_nonneg (Int.mul_nonneg (ay h.1) (bh x)) (ih t h.2)
theorem fk (t:List Nat) (k:Lk) (h:k.chk=true):k.imp t:=by
 refine Kk t k 0 (Int.le_refl _) ?_
 unfold Lk.chk at h
 revert h
 generalize k.sum=p
 intro h
 cases p with
 |nil=>exact Bool.noConfusion h
 |cons c p=>
  have h:=c6.mp h
  rw[Int.zero_add]
  exact Int.add_pos_of_pos_of_nonneg (ay h.1) (He t p h.2)
theorem LJ {a b:Nat} (h:b<a→False):a≤b:=eZ h
theorem L2 {a b:Nat} (h:b≤a→False):a<b:=fZ h
theorem jm {a b:Nat} (h1:a≤b) (h2:b≤a):a=b:=gE h1 h2
theorem sA (a b:Nat):a≤a-b+b:=Nat.le_add_of_sub_le (bz _)
theorem dA (a:Nat) {k:Nat} (h:1≤k):a<a / k*k+k:=Nat.lt_div_mul_add h
theorem dq {α:Type} {a:α} {P:Prop} (h:none=some a):P:=nomatch h
theorem IG {α:Type} {a:α} {P:Prop} (h:some a=none):P:=nomatch h
theorem rp {α β:Type} {o:Option α} {f:α→Option β} {r:β} {P:Prop} (h:(match o with|some a=>f a|none=>none)=some r) (k:∀a,o=some a→f a=some r→P):P:=by cases o;exact dq h;exact k _ rfl h
theorem lY {β:Type} {c:Prop} [Decidable c] {a:Option β} {r:β} {P:Prop} (h:(if c then a else none)=some r) (k:c→a=some r→P):P:=by by_cases q:c;exact k q ((if_pos q).symm.trans h);exact dq ((if_neg q).symm.trans h)
theorem Ae {α γ β:Type} {o:Option (α×γ)} {f:α×γ→Option β} {r:β} {P:Prop} (h:(match o with|some a=>f a|none=>none)=some r) (k:∀a b,o=some (a,b)→f (a,b)=some r→P):P:=by rcases o with _|⟨a,b⟩;exact dq h;exact k _ _ rfl h
theorem LU {α β:Type} {o:Option (Option α)} {f:α→Option β} {r:β} {P:Prop} (h:(match o with|some (some a)=>f a|_=>none)=some r) (k:∀a,o=some (some a)→f a=some r→P):P:=by rcases o with _|_|a;exact dq h;exact dq h;exact k _ rfl h
theorem lH {α β:Type} {a b:α} {s t:β} {P:Prop} (h:some (a,s)=some (b,t)) (k:b=a→s=t→P):P:=k (Prod.mk.inj (bQ h)).1.symm (Prod.mk.inj (bQ h)).2
theorem sk {α:Type} {a b:α} {P:Prop} (h:some a=some b) (k:a=b→P):P:=k (bQ h)
@[elab_as_elim] theorem ir {α β:Type} {a b:α} {s t:β} {P:α→β→Prop} (h:some (a,s)=some (b,t)) (k:P a s):P b t:=lH h λ e1 e2=>e1▸e2▸k
@[elab_as_elim] theorem wH {α:Type} {a b:α} {P:α→Prop} (h:some a=some b) (k:P a):P b:=sk h λ e=>e▸k
theorem dL {p0 p1:Prop} {P:Prop} (h:p0∧p1) (k:p0→p1→P):P:=k h.1 h.2
theorem gX {dW:Sort _} {p0:dW→Prop} {P:Prop} (h:∃a,p0 a) (k:∀a,p0 a→P):P:=h.elim λ a h=>k a h
theorem iH {p0 p1 p2:Prop} {P:Prop} (h:p0∧p1∧p2) (k:p0→p1→p2→P):P:=k h.1 h.2.1 h.2.2
theorem bM {dW:Sort _} {p0 p1:dW→Prop} {P:Prop} (h:∃a,p0 a∧p1 a) (k:∀a,p0 a→p1 a→P):P:=h.elim λ a h=>k a h.1 h.2
theorem uu {dW:Sort _} {gv:Sort _} {p0:dW→gv→Prop} {P:Prop} (h:∃a b,p0 a b) (k:∀a b,p0 a b→P):P:=h.elim λ a h=>h.elim λ b h=>k a b h
theorem oW {p0 p1 p2 p3:Prop} {P:Prop} (h:p0∧p1∧p2∧p3) (k:p0→p1→p2→p3→P):P:=k h.1 h.2.1 h.2.2.1 h.2.2.2
theorem dU {dW:Sort _} {p0 p1 p2:dW→Prop} {P:Prop} (h:∃a,p0 a∧p1 a∧p2 a) (k:∀a,p0 a→p1 a→p2 a→P):P:=h.elim λ a h=>k a h.1 h.2.1 h.2.2
theorem ce {dW:Sort _} {gv:Sort _} {p0 p1:dW→gv→Prop} {P:Prop} (h:∃a b,p0 a b∧p1 a b) (k:∀a b,p0 a b→p1 a b→P):P:=h.elim λ a h=>h.elim λ b h=>k a b h.1 h.2
theorem J1 {dW:Sort _} {gv:Sort _} {jW:Sort _} {p0:dW→gv→jW→Prop} {P:Prop} (h:∃a b c,p0 a b c) (k:∀a b c,p0 a b c→P):P:=h.elim λ a h=>h.elim λ b h=>h.elim λ c h=>k a b c h
theorem vN {p0 p1 p2 p3 p4:Prop} {P:Prop} (h:p0∧p1∧p2∧p3∧p4) (k:p0→p1→p2→p3→p4→P):P:=k h.1 h.2.1 h.2.2.1 h.2.2.2.1 h.2.2.2.2
theorem ry {dW:Sort _} {p0 p1 p2 p3:dW→Prop} {P:Prop} (h:∃a,p0 a∧p1 a∧p2 a∧p3 a) (k:∀a,p0 a→p1 a→p2 a→p3 a→P):P:=h.elim λ a h=>k a h.1 h.2.1 h.2.2.1 h.2.2.2
theorem bK {dW:Sort _} {gv:Sort _} {p0 p1 p2:dW→gv→Prop} {P:Prop} (h:∃a b,p0 a b∧p1 a b∧p2 a b) (k:∀a b,p0 a b→p1 a b→p2 a b→P):P:=h.elim λ a h=>h.elim λ b h=>k a b h.1 h.2.1 h.2.2
theorem tj {dW:Sort _} {gv:Sort _} {jW:Sort _} {p0 p1:dW→gv→jW→Prop} {P:Prop} (h:∃a b c,p0 a b c∧p1 a b c) (k:∀a b c,p0 a b c→p1 a b c→P):P:=h.elim λ a h=>h.elim λ b h=>h.elim λ c h=>k a b c h.1 h.2
theorem Li {dW:Sort _} {gv:Sort _} {jW:Sort _} {qm:Sort _} {p0:dW→gv→jW→qm→Prop} {P:Prop} (h:∃a b c d,p0 a b c d) (k:∀a b c d,p0 a b c d→P):P:=h.elim λ a h=>h.elim λ b h=>h.elim λ c h=>h.elim λ d h=>k a b c d h
theorem K1 {p0 p1 p2 p3 p4 p5:Prop} {P:Prop} (h:p0∧p1∧p2∧p3∧p4∧p5) (k:p0→p1→p2→p3→p4→p5→P):P:=k h.1 h.2.1 h.2.2.1 h.2.2.2.1 h.2.2.2.2.1 h.2.2.2.2.2
theorem CP {dW:Sort _} {p0 p1 p2 p3 p4:dW→Prop} {P:Prop} (h:∃a,p0 a∧p1 a∧p2 a∧p3 a∧p4 a) (k:∀a,p0 a→p1 a→p2 a→p3 a→p4 a→P):P:=h.elim λ a h=>k a h.1 h.2.1 h.2.2.1 h.2.2.2.1 h.2.2.2.2
theorem ft {dW:Sort _} {gv:Sort _} {p0 p1 p2 p3:dW→gv→Prop} {P:Prop} (h:∃a b,p0 a b∧p1 a b∧p2 a b∧p3 a b) (k:∀a b,p0 a b→p1 a b→p2 a b→p3 a b→P):P:=h.elim λ a h=>h.elim λ b h=>k a b h.1 h.2.1 h.2.2.1 h.2.2.2
theorem kb {dW:Sort _} {gv:Sort _} {jW:Sort _} {p0 p1 p2:dW→gv→jW→Prop} {P:Prop} (h:∃a b c,p0 a b c∧p1 a b c∧p2 a b c) (k:∀a b c,p0 a b c→p1 a b c→p2 a b c→P):P:=h.elim λ a h=>h.elim λ b h=>h.elim λ c h=>k a b c h.1 h.2.1 h.2.2
theorem Hn {dW:Sort _} {gv:Sort _} {jW:Sort _} {qm:Sort _} {p0 p1:dW→gv→jW→qm→Prop} {P:Prop} (h:∃a b c d,p0 a b c d∧p1 a b c d) (k:∀a b c d,p0 a b c d→p1 a b c d→P):P:=h.elim λ a h=>h.elim λ b h=>h.elim λ c h=>h.elim λ d h=>k a b c d h.1 h.2
theorem mS {dW:Sort _} {gv:Sort _} {jW:Sort _} {qm:Sort _} {Cb:Sort _} {p0:dW→gv→jW→qm→Cb→Prop} {P:Prop} (h:∃a b c d f,p0 a b c d f) (k:∀a b c d f,p0 a b c d f→P):P:=h.elim λ a h=>h.elim λ b h=>h.elim λ c h=>h.elim λ d h=>h.elim λ f h=>k a b c d f h
theorem FG {p0 p1 p2 p3 p4 p5 p6:Prop} {P:Prop} (h:p0∧p1∧p2∧p3∧p4∧p5∧p6) (k:p0→p1→p2→p3→p4→p5→p6→P):P:=k h.1 h.2.1 h.2.2.1 h.2.2.2.1 h.2.2.2.2.1 h.2.2.2.2.2.1 h.2.2.2.2.2.2
theorem vM {dW:Sort _} {p0 p1 p2 p3 p4 p5:dW→Prop} {P:Prop} (h:∃a,p0 a∧p1 a∧p2 a∧p3 a∧p4 a∧p5 a) (k:∀a,p0 a→p1 a→p2 a→p3 a→p4 a→p5 a→P):P:=h.elim λ a h=>k a h.1 h.2.1 h.2.2.1 h.2.2.2.1 h.2.2.2.2.1 h.2.2.2.2.2
theorem pN {dW:Sort _} {gv:Sort _} {p0 p1 p2 p3 p4:dW→gv→Prop} {P:Prop} (h:∃a b,p0 a b∧p1 a b∧p2 a b∧p3 a b∧p4 a b) (k:∀a b,p0 a b→p1 a b→p2 a b→p3 a b→p4 a b→P):P:=h.elim λ a h=>h.elim λ b h=>k a b h.1 h.2.1 h.2.2.1 h.2.2.2.1 h.2.2.2.2
theorem nV {dW:Sort _} {gv:Sort _} {jW:Sort _} {p0 p1 p2 p3:dW→gv→jW→Prop} {P:Prop} (h:∃a b c,p0 a b c∧p1 a b c∧p2 a b c∧p3 a b c) (k:∀a b c,p0 a b c→p1 a b c→p2 a b c→p3 a b c→P):P:=h.elim λ a h=>h.elim λ b h=>h.elim λ c h=>k a b c h.1 h.2.1 h.2.2.1 h.2.2.2
theorem JZ {dW:Sort _} {gv:Sort _} {jW:Sort _} {qm:Sort _} {p0 p1 p2:dW→gv→jW→qm→Prop} {P:Prop} (h:∃a b c d,p0 a b c d∧p1 a b c d∧p2 a b c d) (k:∀a b c d,p0 a b c d→p1 a b c d→p2 a b c d→P):P:=h.elim λ a h=>h.elim λ b h=>h.elim λ c h=>h.elim λ d h=>k a b c d h.1 h.2.1 h.2.2
theorem JY {dW:Sort _} {gv:Sort _} {jW:Sort _} {qm:Sort _} {Cb:Sort _} {p0 p1:dW→gv→jW→qm→Cb→Prop} {P:Prop} (h:∃a b c d f,p0 a b c d f∧p1 a b c d f) (k:∀a b c d f,p0 a b c d f→p1 a b c d f→P):P:=h.elim λ a h=>h.elim λ b h=>h.elim λ c h=>h.elim λ d h=>h.elim λ f h=>k a b c d f h.1 h.2
theorem JL {p0 p1 p2 p3 p4 p5 p6 p7:Prop} {P:Prop} (h:p0∧p1∧p2∧p3∧p4∧p5∧p6∧p7) (k:p0→p1→p2→p3→p4→p5→p6→p7→P):P:=k h.1 h.2.1 h.2.2.1 h.2.2.2.1 h.2.2.2.2.1 h.2.2.2.2.2.1 h.2.2.2.2.2.2.1 h.2.2.2.2.2.2.2
theorem xJ {dW:Sort _} {p0 p1 p2 p3 p4 p5 p6:dW→Prop} {P:Prop} (h:∃a,p0 a∧p1 a∧p2 a∧p3 a∧p4 a∧p5 a∧p6 a) (k:∀a,p0 a→p1 a→p2 a→p3 a→p4 a→p5 a→p6 a→P):P:=h.elim λ a h=>k a h.1 h.2.1 h.2.2.1 h.2.2.2.1 h.2.2.2.2.1 h.2.2.2.2.2.1 h.2.2.2.2.2.2
theorem Ew {dW:Sort _} {gv:Sort _} {p0 p1 p2 p3 p4 p5:dW→gv→Prop} {P:Prop} (h:∃a b,p0 a b∧p1 a b∧p2 a b∧p3 a b∧p4 a b∧p5 a b) (k:∀a b,p0 a b→p1 a b→p2 a b→p3 a b→p4 a b→p5 a b→P):P:=h.elim λ a h=>h.elim λ b h=>k a b h.1 h.2.1 h.2.2.1 h.2.2.2.1 h.2.2.2.2.1 h.2.2.2.2.2
theorem iE {dW:Sort _} {gv:Sort _} {jW:Sort _} {p0 p1 p2 p3 p4:dW→gv→jW→Prop} {P:Prop} (h:∃a b c,p0 a b c∧p1 a b c∧p2 a b c∧p3 a b c∧p4 a b c) (k:∀a b c,p0 a b c→p1 a b c→p2 a b c→p3 a b c→p4 a b c→P):P:=h.elim λ a h=>h.elim λ b h=>h.elim λ c h=>k a b c h.1 h.2.1 h.2.2.1 h.2.2.2.1 h.2.2.2.2
theorem fq {dW:Sort _} {gv:Sort _} {jW:Sort _} {qm:Sort _} {p0 p1 p2 p3:dW→gv→jW→qm→Prop} {P:Prop} (h:∃a b c d,p0 a b c d∧p1 a b c d∧p2 a b c d∧p3 a b c d) (k:∀a b c d,p0 a b c d→p1 a b c d→p2 a b c d→p3 a b c d→P):P:=h.elim λ a h=>h.elim λ b h=>h.elim λ c h=>h.elim λ d h=>k a b c d h.1 h.2.1 h.2.2.1 h.2.2.2
theorem jN {dW:Sort _} {gv:Sort _} {jW:Sort _} {qm:Sort _} {Cb:Sort _} {p0 p1 p2:dW→gv→jW→qm→Cb→Prop} {P:Prop} (h:∃a b c d f,p0 a b c d f∧p1 a b c d f∧p2 a b c d f) (k:∀a b c d f,p0 a b c d f→p1 a b c d f→p2 a b c d f→P):P:=h.elim λ a h=>h.elim λ b h=>h.elim λ c h=>h.elim λ d h=>h.elim λ f h=>k a b c d f h.1 h.2.1 h.2.2
theorem dF {p0 p1:Prop} (h0:p0) (h1:p1):p0∧p1:=⟨h0,h1⟩
theorem si {dW:Sort _} {p0:dW→Prop} (a:dW) (h0:p0 a):∃a,p0 a:=⟨a,h0⟩
theorem lO {p0 p1 p2:Prop} (h0:p0) (h1:p1) (h2:p2):p0∧p1∧p2:=⟨h0,h1,h2⟩
theorem fV {dW:Sort _} {p0 p1:dW→Prop} (a:dW) (h0:p0 a) (h1:p1 a):∃a,p0 a∧p1 a:=⟨a,h0,h1⟩
theorem En {dW:Sort _} {gv:Sort _} {p0:dW→gv→Prop} (a:dW) (b:gv) (h0:p0 a b):∃a b,p0 a b:=⟨a,b,h0⟩
theorem lv {p0 p1 p2 p3:Prop} (h0:p0) (h1:p1) (h2:p2) (h3:p3):p0∧p1∧p2∧p3:=⟨h0,h1,h2,h3⟩
theorem Aj {dW:Sort _} {p0 p1 p2:dW→Prop} (a:dW) (h0:p0 a) (h1:p1 a) (h2:p2 a):∃a,p0 a∧p1 a∧p2 a:=⟨a,h0,h1,h2⟩
theorem vE {dW:Sort _} {gv:Sort _} {p0 p1:dW→gv→Prop} (a:dW) (b:gv) (h0:p0 a b) (h1:p1 a b):∃a b,p0 a b∧p1 a b:=⟨a,b,h0,h1⟩
theorem LH {dW:Sort _} {gv:Sort _} {jW:Sort _} {p0:dW→gv→jW→Prop} (a:dW) (b:gv) (c:jW) (h0:p0 a b c):∃a b c,p0 a b c:=⟨a,b,c,h0⟩
theorem II {p0 p1 p2 p3 p4:Prop} (h0:p0) (h1:p1) (h2:p2) (h3:p3) (h4:p4):p0∧p1∧p2∧p3∧p4:=⟨h0,h1,h2,h3,h4⟩
theorem th {dW:Sort _} {p0 p1 p2 p3:dW→Prop} (a:dW) (h0:p0 a) (h1:p1 a) (h2:p2 a) (h3:p3 a):∃a,p0 a∧p1 a∧p2 a∧p3 a:=⟨a,h0,h1,h2,h3⟩
theorem c9 {dW:Sort _} {gv:Sort _} {p0 p1 p2:dW→gv→Prop} (a:dW) (b:gv) (h0:p0 a b) (h1:p1 a b) (h2:p2 a b):∃a b,p0 a b∧p1 a b∧p2 a b:=⟨a,b,h0,h1,h2⟩
theorem IH {dW:Sort _} {gv:Sort _} {jW:Sort _} {p0 p1:dW→gv→jW→Prop} (a:dW) (b:gv) (c:jW) (h0:p0 a b c) (h1:p1 a b c):∃a b c,p0 a b c∧p1 a b c:=⟨a,b,c,h0,h1⟩
theorem Lg {dW:Sort _} {gv:Sort _} {jW:Sort _} {qm:Sort _} {p0:dW→gv→jW→qm→Prop} (a:dW) (b:gv) (c:jW) (d:qm) (h0:p0 a b c d):∃a b c d,p0 a b c d:=⟨a,b,c,d,h0⟩
theorem KY {p0 p1 p2 p3 p4 p5:Prop} (h0:p0) (h1:p1) (h2:p2) (h3:p3) (h4:p4) (h5:p5):p0∧p1∧p2∧p3∧p4∧p5:=⟨h0,h1,h2,h3,h4,h5⟩
theorem yH {dW:Sort _} {p0 p1 p2 p3 p4:dW→Prop} (a:dW) (h0:p0 a) (h1:p1 a) (h2:p2 a) (h3:p3 a) (h4:p4 a):∃a,p0 a∧p1 a∧p2 a∧p3 a∧p4 a:=⟨a,h0,h1,h2,h3,h4⟩
theorem CD {dW:Sort _} {gv:Sort _} {p0 p1 p2 p3:dW→gv→Prop} (a:dW) (b:gv) (h0:p0 a b) (h1:p1 a b) (h2:p2 a b) (h3:p3 a b):∃a b,p0 a b∧p1 a b∧p2 a b∧p3 a b:=⟨a,b,h0,h1,h2,h3⟩
theorem Hg {dW:Sort _} {gv:Sort _} {jW:Sort _} {p0 p1 p2:dW→gv→jW→Prop} (a:dW) (b:gv) (c:jW) (h0:p0 a b c) (h1:p1 a b c) (h2:p2 a b c):∃a b c,p0 a b c∧p1 a b c∧p2 a b c:=⟨a,b,c,h0,h1,h2⟩
theorem KW {dW:Sort _} {gv:Sort _} {jW:Sort _} {qm:Sort _} {p0 p1:dW→gv→jW→qm→Prop} (a:dW) (b:gv) (c:jW) (d:qm) (h0:p0 a b c d) (h1:p1 a b c d):∃a b c d,p0 a b c d∧p1 a b c d:=⟨a,b,c,d,h0,h1⟩
theorem CC {dW:Sort _} {gv:Sort _} {jW:Sort _} {qm:Sort _} {Cb:Sort _} {p0:dW→gv→jW→qm→Cb→Prop} (a:dW) (b:gv) (c:jW) (d:qm) (f:Cb) (h0:p0 a b c d f):∃a b c d f,p0 a b c d f:=⟨a,b,c,d,f,h0⟩
theorem JX {p0 p1 p2 p3 p4 p5 p6:Prop} (h0:p0) (h1:p1) (h2:p2) (h3:p3) (h4:p4) (h5:p5) (h6:p6):p0∧p1∧p2∧p3∧p4∧p5∧p6:=⟨h0,h1,h2,h3,h4,h5,h6⟩
theorem JW {dW:Sort _} {p0 p1 p2 p3 p4 p5:dW→Prop} (a:dW) (h0:p0 a) (h1:p1 a) (h2:p2 a) (h3:p3 a) (h4:p4 a) (h5:p5 a):∃a,p0 a∧p1 a∧p2 a∧p3 a∧p4 a∧p5 a:=⟨a,h0,h1,h2,h3,h4,h5⟩
theorem Ai {dW:Sort _} {gv:Sort _} {p0 p1 p2 p3 p4:dW→gv→Prop} (a:dW) (b:gv) (h0:p0 a b) (h1:p1 a b) (h2:p2 a b) (h3:p3 a b) (h4:p4 a b):∃a b,p0 a b∧p1 a b∧p2 a b∧p3 a b∧p4 a b:=⟨a,b,h0,h1,h2,h3,h4⟩
theorem Fz {dW:Sort _} {gv:Sort _} {jW:Sort _} {p0 p1 p2 p3:dW→gv→jW→Prop} (a:dW) (b:gv) (c:jW) (h0:p0 a b c) (h1:p1 a b c) (h2:p2 a b c) (h3:p3 a b c):∃a b c,p0 a b c∧p1 a b c∧p2 a b c∧p3 a b c:=⟨a,b,c,h0,h1,h2,h3⟩
theorem JV {dW:Sort _} {gv:Sort _} {jW:Sort _} {qm:Sort _} {p0 p1 p2:dW→gv→jW→qm→Prop} (a:dW) (b:gv) (c:jW) (d:qm) (h0:p0 a b c d) (h1:p1 a b c d) (h2:p2 a b c d):∃a b c d,p0 a b c d∧p1 a b c d∧p2 a b c d:=⟨a,b,c,d,h0,h1,h2⟩
theorem JU {dW:Sort _} {gv:Sort _} {jW:Sort _} {qm:Sort _} {Cb:Sort _} {p0 p1:dW→gv→jW→qm→Cb→Prop} (a:dW) (b:gv) (c:jW) (d:qm) (f:Cb) (h0:p0 a b c d f) (h1:p1 a b c d f):∃a b c d f,p0 a b c d f∧p1 a b c d f:=⟨a,b,c,d,f,h0,h1⟩
theorem JK {p0 p1 p2 p3 p4 p5 p6 p7:Prop} (h0:p0) (h1:p1) (h2:p2) (h3:p3) (h4:p4) (h5:p5) (h6:p6) (h7:p7):p0∧p1∧p2∧p3∧p4∧p5∧p6∧p7:=⟨h0,h1,h2,h3,h4,h5,h6,h7⟩
theorem Eo {dW:Sort _} {p0 p1 p2 p3 p4 p5 p6:dW→Prop} (a:dW) (h0:p0 a) (h1:p1 a) (h2:p2 a) (h3:p3 a) (h4:p4 a) (h5:p5 a) (h6:p6 a):∃a,p0 a∧p1 a∧p2 a∧p3 a∧p4 a∧p5 a∧p6 a:=⟨a,h0,h1,h2,h3,h4,h5,h6⟩
theorem JJ {dW:Sort _} {gv:Sort _} {p0 p1 p2 p3 p4 p5:dW→gv→Prop} (a:dW) (b:gv) (h0:p0 a b) (h1:p1 a b) (h2:p2 a b) (h3:p3 a b) (h4:p4 a b) (h5:p5 a b):∃a b,p0 a b∧p1 a b∧p2 a b∧p3 a b∧p4 a b∧p5 a b:=⟨a,b,h0,h1,h2,h3,h4,h5⟩
theorem nR {dW:Sort _} {gv:Sort _} {jW:Sort _} {p0 p1 p2 p3 p4:dW→gv→jW→Prop} (a:dW) (b:gv) (c:jW) (h0:p0 a b c) (h1:p1 a b c) (h2:p2 a b c) (h3:p3 a b c) (h4:p4 a b c):∃a b c,p0 a b c∧p1 a b c∧p2 a b c∧p3 a b c∧p4 a b c:=⟨a,b,c,h0,h1,h2,h3,h4⟩
theorem Em {dW:Sort _} {gv:Sort _} {jW:Sort _} {qm:Sort _} {p0 p1 p2 p3:dW→gv→jW→qm→Prop} (a:dW) (b:gv) (c:jW) (d:qm) (h0:p0 a b c d) (h1:p1 a b c d) (h2:p2 a b c d) (h3:p3 a b c d):∃a b c d,p0 a b c d∧p1 a b c d∧p2 a b c d∧p3 a b c d:=⟨a,b,c,d,h0,h1,h2,h3⟩
theorem El {dW:Sort _} {gv:Sort _} {jW:Sort _} {qm:Sort _} {Cb:Sort _} {p0 p1 p2:dW→gv→jW→qm→Cb→Prop} (a:dW) (b:gv) (c:jW) (d:qm) (f:Cb) (h0:p0 a b c d f) (h1:p1 a b c d f) (h2:p2 a b c d f):∃a b c d f,p0 a b c d f∧p1 a b c d f∧p2 a b c d f:=⟨a,b,c,d,f,h0,h1,h2⟩
noncomputable def pM:Code→Bool
 | .builtin id _=>id=="type.__call__"|| (id=="bytearray.__init__"|| (id=="bytearray.append"||id=="claim.caller"))
 |_=>true
noncomputable def zc (l:List (Code×Pos)):Prop:=∀x∈l,pM x.1=true
noncomputable def GO (Γ:PySem.Ctx):Prop:=pM Γ.code=true∧zc Γ.below
noncomputable def gg (bb:Bool) {α:Type} (M:Model) (A:Around) (t:Sem α) (Q:α→Shared→Prop) (s:Shared):Prop:=
 ∀Γ p,Γ.In A→(bb=true→GO Γ)→Sem.wp M Γ t (λ a z s'=>Q a s') (λ z z z=>False) p s
noncomputable def i4 (bb:Bool) (M:Model) (A:Around) (c:Code) (R:Result→Shared→Prop) (s:Shared):Prop:=
 ∀Γ p,Γ.code=c→Γ.Below A→(bb=true→zc Γ.below)→wpCode M Γ R p s
namespace O
section
variable{bb:Bool} {α β:Type} {M:Model} {A:Around} {s:Shared}
theorem any {t:Sem α} {Q:α→Shared→Prop} {E:Value→Shared→Prop} (h:wpAny M A t Q E s) (he:∀e s,E e s→False:=by exact λ z z x=>x):gg bb M A t Q s:=
 λ Γ p oY z=>Sem.wp_mono M Γ t (λ z z z h'=>h') (λ e z s' h'=>he e s' h') p s (h Γ p oY)
theorem any0 {t:Sem α} {Q:α→Shared→Prop} (h:wpAny M A t Q (λ z z=>False) s):gg bb M A t Q s:=λ Γ p oY z=>h Γ p oY
theorem to_any {t:Sem α} {Q:α→Shared→Prop} (h:gg false M A t Q s):wpAny M A t Q (λ z z=>False) s:=λ Γ p oY=>h Γ p oY nofun
theorem code_to {c:Code} {R:Result→Shared→Prop} (h:i4 false M A c R s):codeAny M A c R s:=λ Γ p hc oY=>h Γ p hc oY nofun
theorem mono {t:Sem α} {Q Q':α→Shared→Prop} (h:gg bb M A t Q s) (hQ:∀a s,Q a s→Q' a s):gg bb M A t Q' s:=
 λ Γ p oY hc=>Sem.wp_mono M Γ t (λ a z s=>hQ a s) (λ z z z h=>h) p s (h Γ p oY hc)
theorem pure {a:α} {Q:α→Shared→Prop} (h:Q a s):gg bb M A (Pure.pure a) Q s:=λ z z z z=>h
theorem bind {m:Sem α} {f:α→Sem β} {Q:β→Shared→Prop} (h:gg bb M A m (λ a s'=>gg bb M A (f a) Q s') s):gg bb M A (m>>=f) Q s:=λ Γ p oY hc=>by
 rw[Sem.wp_bind']
 exact Sem.wp_mono M Γ m (λ a p' s' h'=>h' Γ p' oY hc) (λ z z z h'=>h') p s (h Γ p oY hc)
theorem step {m:Sem α} {f:α→Sem β} {Q:β→Shared→Prop} (h:wpAny M A m (λ a s'=>gg bb M A (f a) Q s') (λ z z=>False) s):gg bb M A (m>>=f) Q s:=bind (any h)
theorem holding {vs:List Value} {m:Sem α} {Q:α→Shared→Prop} (h:gg bb M A m Q s):gg bb M A (PySem.holding vs m) Q s:=λ Γ p oY hc=>by rw[Sem.wp_holding];exact h Γ p oY hc
theorem onRaise {m:Sem α} {k:Value→Sem Unit} {Q:α→Shared→Prop} (h:gg bb M A m Q s):gg bb M A (m.onRaise k) Q s:=λ Γ p oY hc=>by
 rw[Sem.wp_onRaise]
 exact Sem.wp_mono M Γ m (λ z z z h'=>h') (λ z z z h'=>h'.elim) p s (h Γ p oY hc)
theorem Ld {t:Sem α} {Q:α→Shared→Prop} (h:gg bb M A.in1 t Q s):gg bb M A t Q s:=λ Γ p oY hc=>h Γ p ⟨oY.1,oY.2.1,oY.2.2.1,oY.2.2.2.1,Nat.le_succ_of_le oY.2.2.2.2⟩ hc
theorem keep {vs:List Value} {m:Sem α} {Q:α→Shared→Prop} (h:gg bb M A m Q s):gg bb M A (m.keep vs) Q s:=λ Γ p oY hc=>by rw[Sem.wp_keep];exact h Γ p oY hc
theorem of_eq {m:Sem α} {a:α} {Q:α→Shared→Prop} (e:m=Pure.pure a) (h:Q a s):gg bb M A m Q s:=by rw[e];exact pure h
theorem code_any {c:Code} {R:Result→Shared→Prop} (h:codeAny M A c R s):i4 bb M A c R s:=λ Γ p hc oY z=>h Γ p hc oY
theorem code_mono {c:Code} {R R':Result→Shared→Prop} (h:i4 bb M A c R s) (hR:∀r s,R r s→R' r s):i4 bb M A c R' s:=λ Γ p hc oY hl=>wpCode_mono hR (h Γ p hc oY hl)
theorem uc {Γ:PySem.Ctx} {c:Code} {h:Option Value} {p:Pos} (hc:GO Γ):zc (Γ.enter c h p).below:=λ x hx=>by
 rcases bo.mp (show x∈(Γ.code,p)::Γ.below from hx) with rfl|hx
 ·exact hc.1
 ·exact hc.2 x hx
theorem run {c:Code} {Q:Flow→Shared→Prop} {R:Result→Shared→Prop} (hc:i4 bb M A c R s) (hR:∀r s',R r s'→∃f,r= .ok f∧Q f s'):gg bb M A (PySem.run c none) Q s:=λ Γ p oY hcl=>by
 rw[Sem.wp_run]
 refine wpCode_mono (λ r s' hr=>?_) (hc _ p rfl (oY.enter c none p (by intro x;cases x)) (λ e=>uc (hcl e)))
 refine bM (hR r s' hr) λ f uu0 hq=>?_;clear hr;subst uu0
 exact hq
theorem runValue {c:Code} {Q:Value→Shared→Prop} {R:Result→Shared→Prop} (hc:i4 bb M A c R s) (hR:∀r s',R r s'→∃v,r= .ok (.ret v)∧Q v s'):gg bb M A (PySem.runValue c) Q s:=λ Γ p oY hcl=>by
 rw[Sem.wp_runValue]
 refine wpCode_mono (λ r s' hr=>?_) (hc _ p rfl (oY.enter c none p (by intro x;cases x)) (λ e=>uc (hcl e)))
 refine bM (hR r s' hr) λ f uu0 hq=>?_;clear hr;subst uu0
 exact hq
theorem call {f:Value} {pos:List Value} {kw:List (Str×Value)} {Q:Value→Shared→Prop} {R:Result→Shared→Prop} (hc:i4 bb M A (.call f ⟨pos,kw⟩) R s) (hR:∀r s',R r s'→∃v,r= .ok (.ret v)∧Q v s'):gg bb M A (PySem.call f pos kw) Q s:=runValue hc hR
theorem runOwn {c:Code} {env:Env} {Q:Flow→Shared→Prop} {R:Result→Shared→Prop} (hc:i4 bb M A c R s) (hR:∀r s',R r s'→∃f,r= .ok f∧Q f s'):gg bb M A (PySem.runOwn c env none) Q s:=by
 unfold PySem.runOwn
 exact onRaise (run hc hR)
noncomputable def JI (bb:Bool) (M:Model) (A:Around) (R:Result→Shared→Prop) (fin:PySem.Fin) (s':Shared):Prop:=match fin with
 | .done f=>R (.ok f) s'
 | .again c'=>c'.quiet=true∧i4 bb M A c' R s'
theorem of_tree {c:Code} {R:Result→Shared→Prop} (hok:pM c=true) (h:gg bb M (A.under c) (M.den c) (JI bb M A R) s):i4 bb M A c R s:=λ Γ p hc oY hl=>by
 rw[wpCode_iff_wp,hc]
 refine Sem.wp_mono M Γ _ (λ fin p' s' h'=>?_) (λ z z z h'=>h'.elim) p s (h Γ p (hc▸oY.in) λ e=>⟨by rw[hc];exact hok,hl e⟩)
 cases fin with
 |done f=>exact h'
 |again c'=>exact dF h'.1 (h'.2 (Γ.goto c') p' rfl (oY.goto c') hl)
theorem loop {c:Code} {R:Result→Shared→Prop} (hok:pM c=true) (hq:c.quiet=true) (I:Nat→Shared→Prop)
  (turn:∀n s,I n s→gg bb M (A.under c) (M.den c) (λ fin s'=>match fin with| .done f=>R (.ok f) s'| .again c'=>(c'=c∧∃m,m<n∧I m s')∨(c'.quiet=true∧i4 bb M A c' R s')) s)
  (n:Nat) (h:I n s):i4 bb M A c R s:=by
 induction n using Nat.strongRecOn generalizing s with
 |ind n ih=>
  refine of_tree hok (mono (turn n s h) λ fin s' hf=>?_)
  cases fin with
  |done f=>exact hf
  |again c'=>
   rcases hf with⟨rfl,m,hm,hI⟩|hf
   ·exact dF hq (ih m hm hI)
   ·exact hf
end
section
variable{bb:Bool} {prog:Program} {w:World} {A:Around} {s:Shared} {R:Result→Shared→Prop}
theorem builtin {id:String} {args:Args} {b:Builtin} (hok:pM (.builtin id args)=true) (hb:entryFor table id=some b) (h:gg bb (model prog w) (A.under (.builtin id args)) (b args) (JI bb (model prog w) A R) s):i4 bb (model prog w) A (.builtin id args) R s:=by
 refine of_tree hok ?_
 show gg _ _ _ (match entryFor table id with|some b=>b args|none=>unsupported ((withoutEnding? id "#data").getD id)) _ s
 rw[hb];exact h
theorem call_builtin {id:String} {args:Args} {b:Builtin} (hok:pM (.builtin id args)=true) (hq:plainId id=true) (hb:entryFor table id=some b)
  (h:wpAny (model prog w) A.in1 (checkBuiltinCall id args) (λ z aZ=>gg bb (model prog w) A.in1 (b args) (JI bb (model prog w) A R) aZ) (λ z z=>False) s):i4 bb (model prog w) A (.call (.builtin id) args) R s:=by
 refine of_tree rfl ?_
 show gg _ _ A.in1 (do checkBuiltinCall id args;again (.builtin id args)) _ s
 refine step (aV h (λ z aZ aN=>pure (And.intro (plainId_quiet hq args) (builtin hok hb ?_))) λ z z h'=>h')
 rw[Around.under_plainId hq args];exact aN
theorem func {body:List Stmt} {env:Env} (h:gg bb (model prog w) (A.deeper env) (execs body env) (λ f s'=>R (.ok (.ret (match f with| .ret v=>v|_=>.none))) s') s):i4 bb (model prog w) A (.func body env) R s:=by
 refine of_tree rfl ?_
 show gg _ _ (A.deeper env) (do point;match←(execs body env).onRaise (leaving env) with| .ret v=>PySem.ret v|_=>PySem.ret .none) _ s
 refine step (wpAny_point (bind (onRaise (mono h λ f s' h'=>?_))))
 cases f<;>exact pure h'
theorem w5 {a:Addr} {args:Args} {o:Obj} {fd:FuncData} {body:List Stmt} (hroom:A.depth<recursionLimit) (ho:s.heap.get? a=some o)
  (hd':o.data= .func fd) (hco:fd.scope.isCoroutine=false) (hgen:fd.scope.isGenerator=false) (hbody:fd.body= .stmts body) (hcd:s.heap.CodeRec fd.code fd.qualname)
  (h:wpAny (model prog w) A.in1 (bindArgs fd args) (λ binds aZ=>
   wpAny (model prog w) A.in1 (newFunctionEnv fd.scope fd.globals fd.closure binds (fd.qualname++".<locals>.") (some a) fd.code none fd.builtins)
    (λ env ey=>ey.heap.NoLimit∧i4 bb (model prog w) A (.func body env) R ey) (λ z z=>False) aZ) (λ z z=>False) s):
  i4 bb (model prog w) A (.call (.ref a) args) R s:=by
 refine of_tree rfl ?_
 show gg _ _ A.in1 (callAny (.ref a) args) _ s
 refine step (m:=load a) (wpAny_load ho ?_)
 refine fq hcd λ c oc vs tq hc hoc hdc hq=>?_;clear hcd
 rw[hd']
 dsimp only
 unfold callFunction
 rw[hco,hgen,hbody,hc]
 rw[hc] at h
 refine step (m:=field (.ref c) 1) (wpAny_field hoc hdc hq (step (aO ?_)))
 refine step (aV h (λ binds aZ aN=>step (aV aN (λ env ey bT=>step (wpAny_enterFrame bT.1 hroom (pure (And.intro rfl bT.2)))) λ z z h'=>h')) λ z z h'=>h')
theorem call_cells {a:Addr} {o:Obj} {fd:FuncData} {body:List Stmt} {vals:List Value} {binds:List (Str×Value)}
  (hroom:A.depth<recursionLimit) (ho:s.heap.get? a=some o) (hdata:o.data= .func fd) (hlim:s.heap.NoLimit) (hcd:s.heap.CodeRec fd.code fd.qualname)
  (hbody:fd.body= .stmts body) (hbind:bindArgs fd ⟨vals,[]⟩=Pure.pure binds) (hclo:fd.closure=[])
  (hkind:∀x∈binds,fd.scope.names.lookup x.1=some .local∨(fd.scope.names.lookup x.1=some .cell∧((cellsFrom (s.heap.objs.size+1) fd.scope.names []).lookup x.1).isSome=true))
  (h:∀aZ,InCallC s (callEnvC fd s.heap.objs.size a).locals (bindL (callEnvC fd s.heap.objs.size a).kindOf binds λ z=>none) (callEnvC fd s.heap.objs.size a).cells
    (bindC (callEnvC fd s.heap.objs.size a).kindOf binds λ z=>none) aZ→
   gg bb (model prog w) (A.deeper (callEnvC fd s.heap.objs.size a)) (execs body (callEnvC fd s.heap.objs.size a)) (λ f s'=>R (.ok (.ret (match f with| .ret v=>v|_=>.none))) s') aZ)
  (hco:autoParam (fd.scope.isCoroutine=false) aR) (hgen:autoParam (fd.scope.isGenerator=false) aR) (hk:autoParam (fd.scope.kind= .function) aR):
  i4 bb (model prog w) A (.call (.ref a) ⟨vals,[]⟩) R s:=by
 refine w5 hroom ho hdata hco hgen hbody hcd ?_
 rw[hbind,hclo]
 refine aO (wpAny_newFunctionEnv_cells hk hkind λ env he s' x=>?_)
 subst he
 exact dF (hlim.keeps x.toInCall.keep) (func (h s' x))
end
end O
end
noncomputable abbrev HE:PySem.Ctx:=⟨.builtin "claim.caller" {},none,none,[],none⟩
theorem I8:GO HE:=⟨by decide+kernel,λ x hx=>by cases hx⟩
theorem EG {prog:Program} {w:World} {t:Sem Fin} {s:Shared} {R:Result→Shared→Prop} (hreg:s.asleep)
  (h:gg true (model prog w) callerA t (λ fin s'=>∃f,fin= .done f∧R (.ok f) s'∧leftWithCleanup s'.gens=false) s):
  ∃n r s' s'',runN (denote table) prog w n s ⟨t,.builtin "claim.caller" {},default,[]⟩= .halted (outcomeOf r) s'∧
   schedN (denote table) prog w n (.single s ⟨t,.builtin "claim.caller" {},default,[]⟩)= .halted (outcomeOf r) s'∧s'.forget=s''.forget∧R r s'':=by
 have k:Sem.wp (model prog w) HE t (Sem.finPost (model prog w) HE λ r s'=>R r s'∧leftWithCleanup s'.gens=false) (λ e z s'=>R (.error e) s'∧leftWithCleanup s'.gens=false) default s:=by
  refine Sem.wp_mono _ _ t (λ fin p' s' h'=>?_) (λ z z z h'=>h'.elim) default s (h HE default caller_in λ z=>I8)
  refine bM h' λ f uu0 hf=>?_;clear h';subst uu0
  exact hf
 refine fq (wp_halts_full (M:=model prog w) (R:=R) hreg k) λ n r aZ ey hs hn hfo hR=>?_
 exact Em n r ey aZ hn hs hfo hR
theorem BZ {c:ClaimW} {tree:List Value→Sem Fin} {w:World} {s:Shared} {free:Addr→Prop} {gens:Prop} {kept:Heap→Prop} (hz:s.asleep) (hgens:s.gens= #[])
  (hspec:∀args,c.pre args=true→WData.layableAll args=true→∀ord:List DictEntry→List DictEntry,(∀l,(ord l).Perm l)→
   ∃vs aZ,layAllW c.records (classAt s.heap) w.params ord args s=some (vs,aZ)∧
    gg true (model c.prog w) callerA (tree vs) (λ fin s'=>∃f,fin= .done f∧(c.Ends s args vs aZ (.ok f) s'∧s'.os=s.os∧AllBare s'.gens∧kept s'.heap)) aZ):
  c.CallFrom (λ vs=>⟨tree vs,.builtin "claim.caller" {},default,[]⟩) w free gens kept s:=by
 intro args hpre hlay ord hord
 refine ce (hspec args hpre hlay ord hord) λ vs aZ hl hcode=>?_
 have rest:=layAllW_rest _ _ _ hl
 refine fq (EG (R:=λ r s'=>c.Ends s args vs aZ r s'∧s'.os=s.os∧kept s'.heap) (Shared.asleep_of_life rest.2.2.2 hz)
  (O.mono hcode λ fin s' ⟨f,e,h1,h2,h3,h4⟩=>⟨f,e,⟨h1,h2,h4⟩,leftWithCleanup_false_of_bare h3⟩)) λ k r s' s'' hrun hsched hfo hE=>?_
 refine iH hE λ hcase hos hkp=>?_;clear hE
 refine vN (Shared.forget_eq hfo) λ eh z z eo z=>?_
 replace hcase:=ClaimW.Ends.congr eh hcase
 rw[←eo] at hos
 rw[←eh] at hkp
 have hlife:s'.heap.life=s.heap.life:=(runN_life _ _ _ hrun).trans rest.2.2.2
 refine⟨vs,aZ,hl,k,_,s',hsched,?_,(λ z i x hx=>by rw[hgens] at hx;simp at hx),hkp,by rw[hlife],Shared.rest_eq hos⟩
 rcases hcase with⟨v,rfl,d1,d2,d3,d4,d5⟩|⟨e,ob,cls,rfl,d1,d2,d3,d4,d5⟩
 ·exact .inl ⟨v,rfl,d1,d2,d3,λ b o y z=>d4 b o y,d5⟩
 ·exact .inr ⟨e,ob,cls,rfl,d1,d2,d3,d4,λ b o y z=>d5 b o y⟩
noncomputable abbrev Jm (q:Program) (loose:List Str) (XP:(Str→Option Value)→Heap→Prop) (YP:World→Heap→Prop) (r:RowW) (d:DefRec) (kwd:List (Str×Expr)):Prop:=
 ∀(w:World) (Bh aZ:Shared) (mg mb:Str→Option Value),Ground q loose r.records XP w Bh mg mb aZ.heap→YP w aZ.heap→∀(a:Addr) (o:Obj) (pm cd doc dV kV:Value),aZ.heap.get? a=some o→
  o.data= .func {docDef d.name d.params d.body d.scope pm cd doc with defaults:=dV,kwdefaults:=kV}→aZ.heap.CodeRec cd d.name→Dflts mg aZ.heap d.params kwd dV kV→mg d.name=some (.ref a)→aZ.gens= #[]→
  ∀(args:List WData) (vals:List Value) (as:List Addr),r.claim.pre args=true→WData.layableAll args=true→ReadsAllW r.records (classAt Bh.heap) aZ.heap vals args as→WellAll w.params aZ.heap vals args→(∀a∈as,(a==sysModules)=false)→
   gg true (model r.prog w) callerA (PySem.call (.ref a) vals) (λ v s'=>GoodWG r.claim (classAt Bh.heap) (ExcName.means Bh.heap) args aZ (.ok (.ret v)) s') aZ
end Mine.Internal
namespace Mine.Internal.H
open PySem PySem.W PySem.Calls PyProof.Rows Mine.Internal
theorem PySem.W.holds_open {r:OpenRow} {q:Program} {loose:List Str} {Xt:Shared→Bool} {XP:(Str→Option Value)→Heap→Prop} {α:Type} {Yf:Shared→α} {Ya:World→α} {YP:World→Heap→Prop} {d:DefRec} {kwd:List (Str×Expr)} {N:Nat}
  (left:LeftO r.prog q loose Xt Yf Ya N) (hY:∀w s,Yf s=Ya w→YP w s.heap) (hYk:∀w h h',YP w h→(∀b o,h.get? b=some o→h'.get? b=some o)→YP w h')
  (hX:∀s,Xt s=true→XP (s.heap.nsMap mainGlobals) s.heap) (hXk:∀mg h h',XP mg h→(∀b o,h.get? b=some o→h'.get? b=some o)→XP mg h')
  (hdef:defOf q r.name=some (d,kwd)) (hp:r.prog.theDef r.name=some (d.params,d.body,d.scope)) (hk:kwWritten? d.params.kwonlyargs d.params.kw_defaults=some kwd) (hRf:∀s,Xt s=true→RecFacts r.records s.heap) (hwr:(!r.writes||r.records.isEmpty)=true)
  (k1:r.wellSaid=true) (ok:(chainsOk q&&opensWell r.prog&&(frees r.toRowW&&r.within.isEmpty))=true) (hb:r.prog.bare) (hw:r.toRowW.promised)
  (call:Jm q loose XP YP r.toRowW d kwd):r.Holds:=by
 refine dL (c6.mp ok) λ ok f1=>?_
 refine dL (c6.mp ok) λ hch o1=>?_
 refine dL (c6.mp f1) λ f1 f2=>?_
 refine vN (frees_parts f1) λ hsame hu ha hap hm=>?_
 refine⟨k1,hw,⟨hb,o1,by show r.toRowW.makers.map _=[];rw[hm];rfl⟩,hw.witness,λ w=>⟨(left.behind hX hch w).1,λ s' hs'=>?_⟩⟩
 refine dU ((left.behind (XP:=λ mg h=>XP mg h∧RecFacts r.records h) (λ s hs=>⟨hX s hs,hRf s hs⟩) hch w).2 s' hs') λ Bh hf hg0 y=>?_;revert y;refine λ yy=>vM yy λ s hT hz hgens hg tE y=>?_;clear yy
 have G1:Ground q loose [] XP w s (s.heap.nsMap mainGlobals) (s.heap.nsMap builtinsNs) s.heap:=⟨tE.T,tE.B,tE.D,tE.TE,tE.TD,tE.W,tE.X.1,tE.cls,tE.has,tE.apart,tE.once,tE.K⟩
 have RF:=tE.X.2
 have G:Ground q loose r.records XP w s _ _ s.heap:=RF.ground G1
 have hgens:s.gens= #[]:=Array.eq_empty_of_size_eq_zero (ju.mp hgens)
 refine⟨Bh,hf,hg0,s,hT,λ n hn=>?_,RF.1,RF.2.1,?_⟩
 ·obtain rfl:n=r.name:=by split at hn<;>simp_all
  exact pinned_of_view hg G1 hdef hp hk
 refine BZ (c:=r.toRowW.claim) hz hgens λ args hpre hlay ord hord=>?_
 obtain⟨⟨vs,aZ⟩,hl⟩:=eA.mp (layAllW_isSome (P:=w.params) (ord:=ord) G.has args r.toRowW.args s (pre_splitW hpre).1)
 have keeps:=layAllW_keeps _ _ _ hl
 have rest:=layAllW_rest _ _ _ hl
 refine dU (reads_layAllW hord _ _ _ hl hlay aZ.heap (λ u u e=>e)) λ as hrd hin hold=>?_
 have L:Laid r.records w s aZ args vs as:=⟨⟨ord,hord,hl⟩,hrd,hin,hold,keeps,rest.1.trans hgens,rest.2.2.1⟩
 have JH:=G.keeps hXk keeps
 refine mS (JH.fn hdef) λ a o pm cd doc y=>?_;refine pN y λ dV kV h1 h2 h3 h4 h5=>?_;clear y
 have h:=call w s aZ _ _ JH (hYk _ _ _ (hY w s y) keeps) a o pm cd doc dV kV h2 h3 h4 h5 (defOf_name hdef▸h1) L.gens args vs as hpre hlay L.reads L.well (L.low G.low)
 have hi:=ident_freeW hu ha hap
 have hwi:r.toRowW.claim.within=[]:=List.isEmpty_iff.mp f2
 refine⟨vs,aZ,hl,O.step (wpAny_nsGet JH.T.g ?_)⟩
 rw[h1]
 refine O.bind (O.mono h λ v s' g=>O.pure ⟨_,rfl,?_⟩)
 have z:=g.laid (c:=r.toRowW.claim) hsame hwi hi L
 exact lv z.1 z.2.1 z.2.2 (λ q=>⟨namesKept_of hT hg _ keeps g.2.1.old,noTable hwr q⟩)
end Mine.Internal.H
namespace Mine.Internal
open PySem PySem.W PySem.Calls PyProof.Rows
inductive AV where
 |none|bool (b:Bool)|int (i:Int)|str (s:Str)|bytes (b:Array UInt8)|tup (l:List AV)|ref (n:Nat)
inductive AO where
 |list (vs:List AV)|flist (vs:List AV)|inst (c:Addr) (fs:List (Nat×AV))|dict (es:List (Str×AV))|barr (b:Array UInt8)
section
variable{α:Type} {v:AV} {r:α} {P:Prop} {A:Type}
theorem Do {f:Nat→Option α} (h:(match v with| .ref n=>f n|_=>none)=some r) (k:∀n,v= .ref n→f n=some r→P):P:=by cases v<;>first|exact k _ rfl h|exact dq h
theorem zd {f:Int→Option α} (h:(match v with| .int n=>f n|_=>none)=some r) (k:∀n,v= .int n→f n=some r→P):P:=by cases v<;>first|exact k _ rfl h|exact dq h
theorem Lz {f:Str→Option α} (h:(match v with| .str n=>f n|_=>none)=some r) (k:∀n,v= .str n→f n=some r→P):P:=by cases v<;>first|exact k _ rfl h|exact dq h
theorem L3 {f:List AV→Option α} (h:(match v with| .tup n=>f n|_=>none)=some r) (k:∀n,v= .tup n→f n=some r→P):P:=by cases v<;>first|exact k _ rfl h|exact dq h
theorem Mc {f:Bool→Option α} (h:(match v with| .bool n=>f n|_=>none)=some r) (k:∀n,v= .bool n→f n=some r→P):P:=by cases v<;>first|exact k _ rfl h|exact dq h
theorem LK {f:Array UInt8→Option α} (h:(match v with| .bytes n=>f n|_=>none)=some r) (k:∀n,v= .bytes n→f n=some r→P):P:=by cases v<;>first|exact k _ rfl h|exact dq h
theorem KZ {l:List A} {f:A→Option α} (h:(match l with| [x]=>f x|_=>none)=some r) (k:∀n,l=[n]→f n=some r→P):P:=by rcases l with _|⟨x,_|⟨y,z⟩⟩;exact dq h;exact k _ rfl h;exact dq h
theorem Ly {f:List AV→Option α} {g:Nat→Option α} (h:(match v with| .tup n=>f n| .ref n=>g n|_=>none)=some r) (k1:∀n,v= .tup n→f n=some r→P) (k2:∀n,v= .ref n→g n=some r→P):P:=by cases v<;>first|exact dq h|exact k1 _ rfl h|exact k2 _ rfl h
theorem Kv {f:Int→Option α} {g:Str→Option α} (h:(match v with| .int n=>f n| .str n=>g n|_=>none)=some r) (k1:∀n,v= .int n→f n=some r→P) (k2:∀n,v= .str n→g n=some r→P):P:=by cases v<;>first|exact dq h|exact k1 _ rfl h|exact k2 _ rfl h
theorem Ku {f:Str→Option α} {g:Nat→Option α} (h:(match v with| .str n=>f n| .ref n=>g n|_=>none)=some r) (k1:∀n,v= .str n→f n=some r→P) (k2:∀n,v= .ref n→g n=some r→P):P:=by cases v<;>first|exact dq h|exact k1 _ rfl h|exact k2 _ rfl h
theorem L0 {l:List A} {f:A→Option α} {g:A→A→Option α} (h:(match l with| [x]=>f x| [x,y]=>g x y|_=>none)=some r) (k1:∀x,l=[x]→f x=some r→P) (k2:∀x y,l=[x,y]→g x y=some r→P):P:=by rcases l with _|⟨x,_|⟨y,_|⟨z,t⟩⟩⟩<;>first|exact dq h|exact k1 _ rfl h|exact k2 _ _ rfl h
theorem L1 {l:List A} {f:Option α} (h:(match l with| []=>f|_=>none)=some r) (k:l=[]→f=some r→P):P:=by cases l;exact k rfl h;exact dq h
theorem IK {l:List AV} {f:Nat→Option α} (h:(match l with| [.ref n]=>f n|_=>none)=some r) (k:∀n,l=[.ref n]→f n=some r→P):P:=by rcases l with _|⟨x,_|⟨y,z⟩⟩;exact dq h;(cases x<;>first|exact k _ rfl h|exact dq h);(cases x<;>exact dq h)
theorem Lh {l:List AV} {f:Int→Option α} (h:(match l with| [.int n]=>f n|_=>none)=some r) (k:∀n,l=[.int n]→f n=some r→P):P:=by rcases l with _|⟨x,_|⟨y,z⟩⟩;exact dq h;(cases x<;>first|exact k _ rfl h|exact dq h);(cases x<;>exact dq h)
theorem Mb {l:List AV} {f:Str→Option α} (h:(match l with| [.str n]=>f n|_=>none)=some r) (k:∀n,l=[.str n]→f n=some r→P):P:=by rcases l with _|⟨x,_|⟨y,z⟩⟩;exact dq h;(cases x<;>first|exact k _ rfl h|exact dq h);(cases x<;>exact dq h)
theorem LZ {l:List AV} {f:Bool→Option α} (h:(match l with| [.bool n]=>f n|_=>none)=some r) (k:∀n,l=[.bool n]→f n=some r→P):P:=by rcases l with _|⟨x,_|⟨y,z⟩⟩;exact dq h;(cases x<;>first|exact k _ rfl h|exact dq h);(cases x<;>exact dq h)
end
theorem ID {α β γ:Type} {o:Option α} {p:Option β} {f:α→β→Option γ} {r:γ} {P:Prop} (h:(match o,p with|some a,some b=>f a b|_,_=>none)=some r) (k:∀a b,o=some a→p=some b→f a b=some r→P):P:=by cases o;exact dq h;cases p;exact dq h;exact k _ _ rfl rfl h
theorem LV {α β:Type} {o:Option α} {f:α→Option β} {r:β} {P:Prop} (h:(match o with|some a=>f a|_=>none)=some r) (k:∀a,o=some a→f a=some r→P):P:=by cases o;exact dq h;exact k _ rfl h
theorem KU {α β:Type} {o:Option α} {f:α→Option β} {g:Option β} {r:β} {P:Prop} (h:(match o with|some a=>f a|none=>g)=some r) (k1:∀a,o=some a→f a=some r→P) (k2:o=none→g=some r→P):P:=by cases o;exact k2 rfl h;exact k1 _ rfl h
theorem LD {α β:Type} {o:Option (Option α)} {f:α→Option β} {g:Option β} {r:β} {P:Prop} (h:(match o with|none=>none|some none=>g|some (some a)=>f a)=some r) (k1:o=some none→g=some r→P) (k2:∀a,o=some (some a)→f a=some r→P):P:=by rcases o with _|_|a;exact dq h;exact k1 rfl h;exact k2 _ rfl h
section
variable{o:Option AO} {P:Prop}
theorem oL {r:List AV} (h:(match o with|some (.list vs)=>some vs|some (.flist vs)=>some vs|_=>none)=some r) (k1:o=some (.list r)→P) (k2:o=some (.flist r)→P):P:=by
 rcases o with _|_|_|_|_|_<;>first|exact dq h|exact k1 (congrArg (λ x=>some (AO.list x)) (bQ h))|exact k2 (congrArg (λ x=>some (AO.flist x)) (bQ h))
theorem oM {r:List AV} (h:(match o with|some (.list vs)=>some vs|_=>none)=some r):o=some (.list r):=by
 rcases o with _|_|_|_|_|_<;>first|exact dq h|exact congrArg (λ x=>some (AO.list x)) (bQ h)
theorem oI {c:Addr} {fs:List (Nat×AV)} (h:(match o with|some (.inst c fs)=>some (c,fs)|_=>none)=some (c,fs)):o=some (.inst c fs):=by
 rcases o with _|_|_|_|_|_<;>first|exact dq h|exact congrArg (λ x=>some (AO.inst x.1 x.2)) (bQ h)
theorem oB {r:Array UInt8} (h:(match o with|some (.barr b)=>some b|_=>none)=some r):o=some (.barr r):=by
 rcases o with _|_|_|_|_|_<;>first|exact dq h|exact congrArg (λ x=>some (AO.barr x)) (bQ h)
theorem LX {α:Type} {f:List (Str×AV)→Option α} {g:Option α} {r:α} (h:(match o with|some (.dict b)=>f b|_=>g)=some r) (k1:∀es,o=some (.dict es)→f es=some r→P) (k2:g=some r→P):P:=by
 rcases o with _|_|_|_|_|_<;>first|exact k2 h|exact k1 _ rfl h
theorem oD {α:Type} {f:List (Str×AV)→Option α} {r:α} (h:(match o with|some (.dict b)=>f b|_=>none)=some r) (k:∀es,o=some (.dict es)→f es=some r→P):P:=by
 rcases o with _|_|_|_|_|_<;>first|exact dq h|exact k _ rfl h
end
structure St where
 l:List (Option AV)
 h:List AO
inductive Own where
 |obj (n:Nat)|fld (n:Nat)|ns|cell|fz|amb
noncomputable abbrev bj:=Addr→Option (Own×Obj)
noncomputable def bj.set (Λ:bj) (a:Addr) (x:Own×Obj):bj:=λ b=>if b=a then some x else Λ b
theorem bj.set_self (Λ:bj) (a:Addr) (x:Own×Obj):Λ.set a x a=some x:=if_pos rfl
theorem bj.set_ne (Λ:bj) {a b:Addr} (x:Own×Obj) (h:b≠a):Λ.set a x b=Λ b:=if_neg h
noncomputable abbrev EM (α:Type):=St→Option (α×St)
noncomputable def ae {α β:Type} (m:EM α) (f:α→EM β):EM β:=λ σ=>match m σ with|some (a,bc)=>f a bc|none=>none
noncomputable def ret {α:Type} (a:α):EM α:=λ σ=>some (a,σ)
theorem br {α β:Type} {m:EM α} {f:α→EM β} {σ bc:St} {b:β} (h:ae m f σ=some (b,bc)):∃a az,m σ=some (a,az)∧f a az=some (b,bc):=by
 unfold ae at h
 injections rp h _ _
 exact vE _ _ (by assumption) h
structure Cx where
 prog:Program
 w:World
 base:Heap
 K:Frag
 p:Program
 loose:List Str
 mg:Str→Option Value
 mb:Str→Option Value
 gens:Array GenState
 drawn:Drawn
 os:OsState
 fname:Nat→Str
noncomputable abbrev Cx.M (C:Cx):Model:=model C.prog C.w
structure Cx.Ok (C:Cx):Prop where
 X:C.K.In C.base
 T:TopRead C.p C.loose C.mg C.mb C.base
structure Rm (A:Around) (k:Nat):Prop where
 hd:A.handled= .none
 depth:A.depth+3*k≤960
 units:A.units+20*k≤9800
theorem Rm.lt {A:Around} {k:Nat} (r:Rm A k):A.depth<recursionLimit:=by have:=r.depth;unfold recursionLimit;exact f!"1a1.+1000.>1a3b*+960.<2" this
theorem Rm.mono {A:Around} {k j:Nat} (r:Rm A k) (h:j≤k):Rm A j:=⟨r.hd,by have:=r.depth;exact f!"1c3a*+960.>1c3b*+960.<3ab<3" h this,by have:=r.units;exact f!"1c20a*+9800.>1c20b*+9800.<20ab<3" h this⟩
structure Core (C:Cx) (Λ:bj) (s:Shared):Prop where
 keep:∀b o,C.base.get? b=some o→s.heap.get? b=some o
 here:∀a w o,Λ a=some (w,o)→s.heap.get? a=some o∧C.base.get? a=none
 two:∃o,C.base.get? cStatics=some o
 low:∀a x,Λ a=some x→cStatics<a
 gens:s.gens=C.gens
 drawn:s.drawn=C.drawn
 os:s.os=C.os
section core
variable{C:Cx} {Λ:bj} {s:Shared}
theorem Core.vac (D:Core C Λ s):Λ s.heap.objs.size=none:=by
 cases h:Λ s.heap.objs.size with
 |none=>rfl
 |some x=>obtain⟨w,o⟩:=x;exact absurd (cB (D.here _ _ _ h).1) (Nat.lt_irrefl _)
theorem Core.ne (D:Core C Λ s) {a:Addr} {x:Own×Obj} (h:Λ a=some x):a≠s.heap.objs.size:=λ e=>by rw[e,D.vac] at h;exact dq h
theorem Core.tok (D:Core C Λ s) (t:Nat):Core C Λ {s with toks:=t}:=⟨D.keep,D.here,D.two,D.low,D.gens,D.drawn,D.os⟩
theorem Core.keeps (D:Core C Λ s) {h':Heap} (k:∀b o,s.heap.get? b=some o→h'.get? b=some o):Core C Λ {s with heap:=h'}:=
 ⟨λ b o e=>k b o (D.keep b o e),λ a w o e=>⟨k a o (D.here a w o e).1,(D.here a w o e).2⟩,D.two,D.low,D.gens,D.drawn,D.os⟩
theorem Core.baseNone (D:Core C Λ s):C.base.get? s.heap.objs.size=none:=by
 cases q:C.base.get? s.heap.objs.size with
 |none=>rfl
 |some o'=>exact absurd (cB (D.keep _ _ q)) (Nat.lt_irrefl _)
theorem Core.alloc (D:Core C Λ s) {o:Obj} (w:Own) (hf:o.isFreed=false):Core C (Λ.set s.heap.objs.size (w,o)) {s with heap:=s.heap.push o}:=by
 refine⟨λ b o' e=>bB _ (D.keep b o' e),λ a w' o' e=>?_,D.two,λ a x e=>?_,D.gens,D.drawn,D.os⟩
 rotate_left
 ·by_cases h:a=s.heap.objs.size
  ·refine gX D.two λ Eg bT=>?_
   rw[h];exact cB (D.keep _ _ bT)
  ·rw[bj.set_ne _ _ h] at e;exact D.low a x e
 by_cases h:a=s.heap.objs.size
 ·subst h
  rw[bj.set_self] at e
  refine ir e ?_;clear e
  exact dF (gL _ hf) D.baseNone
 ·rw[bj.set_ne _ _ h] at e
  exact dF (bB _ (D.here _ _ _ e).1) ((D.here _ _ _ e).2)
theorem Core.change (D:Core C Λ s) {a:Addr} {w w':Own} {o o':Obj} {h':Heap} (ha:Λ a=some (w,o)) (hs:∀b,b≠a→∀x,s.heap.get? b=some x→h'.get? b=some x) (ho:h'.get? a=some o'):
  Core C (Λ.set a (w',o')) {s with heap:=h'}:=by
 refine⟨λ b x e=>hs b (λ q=>?_) x (D.keep b x e),λ b ph x e=>?_,D.two,λ b x e=>?_,D.gens,D.drawn,D.os⟩
 rotate_right
 ·by_cases h:b=a
  ·rw[h];exact D.low _ _ ha
  ·rw[bj.set_ne _ _ h] at e;exact D.low b x e
 ·rw[q,(D.here _ _ _ ha).2] at e;exact dq e
 ·by_cases h:b=a
  ·clear hs;subst h
   rw[bj.set_self] at e;refine ir e ?_;clear e
   exact dF ho ((D.here _ _ _ ha).2)
  ·rw[bj.set_ne _ _ h] at e
   exact dF (hs b h x (D.here _ _ _ e).1) ((D.here _ _ _ e).2)
theorem Core.sub (D:Core C Λ s) {bp:bj} (h:∀a w o,bp a=some (w,o)→∃w',Λ a=some (w',o)):Core C bp s:=
 ⟨D.keep,λ a w o e=>let⟨_,q⟩:=h a w o e;D.here a _ o q,D.two,λ a x e=>let⟨_,q⟩:=h a x.1 x.2 e;D.low a _ q,D.gens,D.drawn,D.os⟩
end core
noncomputable abbrev lL (vs:List Value):Obj:={cls:=.type "tuple",data:=.seq vs.toArray}
noncomputable abbrev b8 (vs:List Value) (k:Nat):Obj:={cls:=.type "list",data:=.seq vs.toArray k}
mutual
inductive VR (φ:List Addr) (Λ:bj):AV→Value→Prop
 |none:VR φ Λ .none .none
 |bool (b:Bool):VR φ Λ (.bool b) (.bool b)
 |int (i:Int) (t:Tok):VR φ Λ (.int i) (.int i t)
 |str (x:Str) (t:Tok):VR φ Λ (.str x) (.str x t)
 |bytes (x:Array UInt8) (t:Tok):VR φ Λ (.bytes x) (.bytes x t)
 |ref {n:Nat} {a:Addr} (h:φ[n]? =some a):VR φ Λ (.ref n) (.ref a)
 |tup {a:Addr} {l:List AV} {vs:List Value} (h:Λ a=some (.fz,lL vs)) (r:VRs φ Λ l vs):VR φ Λ (.tup l) (.ref a)
inductive VRs (φ:List Addr) (Λ:bj):List AV→List Value→Prop
 |nil:VRs φ Λ [] []
 |cons {a:AV} {v:Value} {l:List AV} {vs:List Value} (h:VR φ Λ a v) (r:VRs φ Λ l vs):VRs φ Λ (a::l) (v::vs)
end
section
variable{φ:List Addr} {Λ:bj} {v:Value} {vs:List Value} {P:Prop}
theorem VR.qnone (h:VR φ Λ .none v) (k:v= .none→P):P:=by cases h;exact k rfl
theorem VR.qbool {b:Bool} (h:VR φ Λ (.bool b) v) (k:v= .bool b→P):P:=by cases h;exact k rfl
theorem VR.qint {i:Int} (h:VR φ Λ (.int i) v) (k:∀t,v= .int i t→P):P:=by cases h;exact k _ rfl
theorem VR.qstr {i:Str} (h:VR φ Λ (.str i) v) (k:∀t,v= .str i t→P):P:=by cases h;exact k _ rfl
theorem VR.qbytes {i:Array UInt8} (h:VR φ Λ (.bytes i) v) (k:∀t,v= .bytes i t→P):P:=by cases h;exact k _ rfl
theorem VR.qref {n:Nat} (h:VR φ Λ (.ref n) v) (k:∀a,φ[n]? =some a→v= .ref a→P):P:=by cases h;exact k _ (by assumption) rfl
theorem VR.qtup {l:List AV} (h:VR φ Λ (.tup l) v) (k:∀a vs,Λ a=some (.fz,lL vs)→VRs φ Λ l vs→v= .ref a→P):P:=by cases h;exact k _ _ (by assumption) (by assumption) rfl
@[elab_as_elim] theorem VR.enone {P:Value→Prop} (h:VR φ Λ .none v) (k:P .none):P v:=VR.qnone h λ e=>e▸k
@[elab_as_elim] theorem VR.ebool {P:Value→Prop} {b:Bool} (h:VR φ Λ (.bool b) v) (k:P (.bool b)):P v:=VR.qbool h λ e=>e▸k
@[elab_as_elim] theorem VR.eint {P:Value→Prop} {i:Int} (h:VR φ Λ (.int i) v) (k:∀t,P (.int i t)):P v:=VR.qint h λ t e=>e▸k t
@[elab_as_elim] theorem VR.estr {P:Value→Prop} {i:Str} (h:VR φ Λ (.str i) v) (k:∀t,P (.str i t)):P v:=VR.qstr h λ t e=>e▸k t
@[elab_as_elim] theorem VR.ebytes {P:Value→Prop} {i:Array UInt8} (h:VR φ Λ (.bytes i) v) (k:∀t,P (.bytes i t)):P v:=VR.qbytes h λ t e=>e▸k t
@[elab_as_elim] theorem VR.eref {P:Value→Prop} {n:Nat} (h:VR φ Λ (.ref n) v) (k:∀a,φ[n]? =some a→P (.ref a)):P v:=VR.qref h λ a h e=>e▸k a h
@[elab_as_elim] theorem VR.etup {P:Value→Prop} {l:List AV} (h:VR φ Λ (.tup l) v) (k:∀a vs,Λ a=some (.fz,lL vs)→VRs φ Λ l vs→P (.ref a)):P v:=VR.qtup h λ a vs h r e=>e▸k a vs h r
theorem VRs.qnil (h:VRs φ Λ [] vs) (k:vs=[]→P):P:=by cases h;exact k rfl
theorem VRs.qcons {a:AV} {l:List AV} (h:VRs φ Λ (a::l) vs) (k:∀v r,VR φ Λ a v→VRs φ Λ l r→vs=v::r→P):P:=by cases h;exact k _ _ (by assumption) (by assumption) rfl
@[elab_as_elim] theorem VRs.enil {P:List Value→Prop} (h:VRs φ Λ [] vs) (k:P []):P vs:=VRs.qnil h λ e=>e▸k
@[elab_as_elim] theorem VRs.econs {P:List Value→Prop} {a:AV} {l:List AV} (h:VRs φ Λ (a::l) vs) (k:∀v r,VR φ Λ a v→VRs φ Λ l r→P (v::r)):P vs:=VRs.qcons h λ v r h q e=>e▸k v r h q
end
theorem VRs.ind {φ:List Addr} {Λ:bj} {P:List AV→List Value→Prop} {l:List AV} {vs:List Value} (h:VRs φ Λ l vs) (hn:P [] []) (hc:∀{a v l vs},VR φ Λ a v→VRs φ Λ l vs→P l vs→P (a::l) (v::vs)):P l vs:=
 VRs.rec (motive_1:=λ z z z=>True) (motive_2:=λ l vs z=>P l vs) trivial (λ z=>trivial) (λ z z=>trivial) (λ z z=>trivial) (λ z z=>trivial) (λ z=>trivial) (λ z z z=>trivial) hn (λ h r z ih=>hc h r ih) h
structure ExtV (φ:List Addr) (Λ:bj) (cF:List Addr) (bp:bj):Prop where
 pre:φ<+:cF
 fz:∀a o,Λ a=some (.fz,o)→bp a=some (.fz,o)
theorem iW {α:Type} {l l':List α} (h:l<+:l') {n:Nat} {a:α} (e:l[n]? =some a):l'[n]? =some a:=by
 refine gX h λ t uu0=>?_;clear h;subst uu0
 refine gX (aA.mp e) λ hn z=>?_
 rw[fN hn];exact e
theorem VR.mono {φ cF:List Addr} {Λ bp:bj} (x:ExtV φ Λ cF bp) {a:AV} {v:Value} (h:VR φ Λ a v):VR cF bp a v:=
 VR.rec (motive_1:=λ a v z=>VR cF bp a v) (motive_2:=λ l vs z=>VRs cF bp l vs) .none .bool .int .str .bytes (λ h=>.ref (iW x.pre h)) (λ h z r=>.tup (x.fz _ _ h) r) .nil (λ z z h r=>.cons h r) h
theorem VRs.mono {φ cF:List Addr} {Λ bp:bj} (x:ExtV φ Λ cF bp) {a:List AV} {v:List Value} (h:VRs φ Λ a v):VRs cF bp a v:=h.ind .nil λ h z r=>.cons (h.mono x) r
structure ExtS (φ:List Addr) (Λ:bj) (cF:List Addr) (bp:bj):Prop extends ExtV φ Λ cF bp where
 amb:∀a o,Λ a=some (.amb,o)→bp a=some (.amb,o)
structure ExtE (φ:List Addr) (Λ:bj) (cF:List Addr) (bp:bj):Prop extends ExtS φ Λ cF bp where
 ns:∀a o,Λ a=some (.ns,o)→bp a=some (.ns,o)
 cell:∀a o,Λ a=some (.cell,o)→bp a=some (.cell,o)
theorem ExtV.refl (φ:List Addr) (Λ:bj):ExtV φ Λ φ Λ:=⟨bG _,λ z z e=>e⟩
theorem ExtS.refl (φ:List Addr) (Λ:bj):ExtS φ Λ φ Λ:=⟨.refl _ _,λ z z e=>e⟩
theorem ExtE.refl (φ:List Addr) (Λ:bj):ExtE φ Λ φ Λ:=⟨.refl _ _,λ z z e=>e,λ z z e=>e⟩
theorem ExtV.trans {φ aJ cD:List Addr} {Λ ar bH:bj} (x:ExtV φ Λ aJ ar) (y:ExtV aJ ar cD bH):ExtV φ Λ cD bH:=⟨x.pre.trans y.pre,λ a o e=>y.fz a o (x.fz a o e)⟩
theorem ExtS.trans {φ aJ cD:List Addr} {Λ ar bH:bj} (x:ExtS φ Λ aJ ar) (y:ExtS aJ ar cD bH):ExtS φ Λ cD bH:=⟨x.toExtV.trans y.toExtV,λ a o e=>y.amb a o (x.amb a o e)⟩
theorem ExtE.trans {φ aJ cD:List Addr} {Λ ar bH:bj} (x:ExtE φ Λ aJ ar) (y:ExtE aJ ar cD bH):ExtE φ Λ cD bH:=⟨x.toExtS.trans y.toExtS,λ a o e=>y.ns a o (x.ns a o e),λ a o e=>y.cell a o (x.cell a o e)⟩
theorem ExtE.new {φ:List Addr} {Λ:bj} {a:Addr} (h:Λ a=none) (x:Own×Obj):ExtE φ Λ φ (Λ.set a x):=by
 have k:∀b w o,Λ b=some (w,o)→Λ.set a x b=some (w,o):=λ b w o e=>(bj.set_ne _ _ λ q=>by rw[q,h] at e;exact dq e).trans e
 exact⟨⟨⟨bG _,λ b o e=>k b _ o e⟩,λ b o e=>k b _ o e⟩,λ b o e=>k b _ o e,λ b o e=>k b _ o e⟩
theorem ExtE.push {φ:List Addr} {Λ bp:bj} {cF:List Addr} (x:ExtE φ Λ cF bp) (a:Addr):ExtE φ Λ (cF++[a]) bp:=⟨⟨⟨x.pre.trans (jw _ _),x.fz⟩,x.amb⟩,x.ns,x.cell⟩
theorem ExtE.at {φ:List Addr} {Λ:bj} {a:Addr} {w:Own} {o:Obj} (h:Λ a=some (w,o)) (hw:w≠.fz∧w≠.amb∧w≠.ns∧w≠.cell) (x:Own×Obj):ExtE φ Λ φ (Λ.set a x):=by
 have k:∀b ph e5,ph≠w→Λ b=some (ph,e5)→Λ.set a x b=some (ph,e5):=λ b ph e5 hn e=>(bj.set_ne _ _ λ q=>by rw[q,h] at e;refine lH e λ e1 e2=>?_;clear e hw h;subst e1 e2;exact hn rfl).trans e
 exact⟨⟨⟨bG _,λ b o e=>k b _ o (f9 hw.1) e⟩,λ b o e=>k b _ o (f9 hw.2.1) e⟩,λ b o e=>k b _ o (f9 hw.2.2.1) e,λ b o e=>k b _ o (f9 hw.2.2.2) e⟩
inductive FRs (C:Cx) (φ:List Addr) (Λ:bj):List (Nat×AV)→List DictEntry→Prop
 |nil:FRs C φ Λ [] []
 |cons {f:Nat} {t:Tok} {av:AV} {v:Value} {fs:List (Nat×AV)} {es:List DictEntry} (h:VR φ Λ av v) (r:FRs C φ Λ fs es):
  FRs C φ Λ ((f,av)::fs) (⟨PyData.keyHash C.w.params (C.fname f),.str (C.fname f) t,v⟩::es)
inductive DRs (φ:List Addr) (Λ:bj):List (Str×AV)→List (Str×Value)→Prop
 |nil:DRs φ Λ [] []
 |cons {f:Str} {av:AV} {v:Value} {fs:List (Str×AV)} {es:List (Str×Value)} (h:VR φ Λ av v) (r:DRs φ Λ fs es):DRs φ Λ ((f,av)::fs) ((f,v)::es)
theorem FRs.mono {C:Cx} {φ cF:List Addr} {Λ bp:bj} (x:ExtV φ Λ cF bp) {a:List (Nat×AV)} {v:List DictEntry} (h:FRs C φ Λ a v):FRs C cF bp a v:=by
 induction h with
 |nil=>exact .nil
 |cons h _ ih=>exact .cons (h.mono x) ih
theorem DRs.mono {φ cF:List Addr} {Λ bp:bj} (x:ExtV φ Λ cF bp) {a:List (Str×AV)} {v:List (Str×Value)} (h:DRs φ Λ a v):DRs cF bp a v:=by
 induction h with
 |nil=>exact .nil
 |cons h _ ih=>exact .cons (h.mono x) ih
noncomputable abbrev du (b:Array UInt8) (e:Nat):Obj:={cls:=.type "bytearray",data:=.bytearray b e}
noncomputable def OR (C:Cx) (φ:List Addr) (Λ:bj) (n:Nat) (a:Addr):AO→Prop
 | .list vs=>∃rvs k,Λ a=some (.obj n,b8 rvs k)∧VRs φ Λ vs rvs
 | .flist vs=>∃rvs,C.base.IsList a (List.toArray rvs)∧VRs φ Λ vs rvs
 | .inst c fs=>∃dx es k,Λ a=some (.obj n,instObj c dx)∧Λ dx=some (.fld n,dictOf es k)∧FRs C φ Λ fs es
 | .dict es=>∃o kvs,Λ a=some (.obj n,o)∧o.IsDictOf (strKind C.prog C.w) kvs∧DRs φ Λ es kvs
 | .barr b=>Λ a=some (.obj n,du b 0)
structure RepH (C:Cx) (h:List AO) (φ:List Addr) (Λ:bj) (s:Shared):Prop where
 core:Core C Λ s
 inj:φ.Nodup
 len:φ.length=h.length
 objs:∀n ao,h[n]? =some ao→∃a,φ[n]? =some a∧OR C φ Λ n a ao
theorem OR.mono {C:Cx} {φ cF:List Addr} {Λ bp:bj} {n:Nat} {a:Addr} {ao:AO} (x:ExtV φ Λ cF bp) (k:∀b o,Λ b=some (.obj n,o)∨Λ b=some (.fld n,o)→bp b=Λ b) (h:OR C φ Λ n a ao):OR C cF bp n a ao:=by
 cases ao with
 |list vs=>refine ce h λ rvs j h1 h2=>?_;clear h;exact vE rvs j ((k _ _ (.inl h1)).trans h1) (h2.mono x)
 |flist vs=>refine bM h λ rvs h1 h2=>?_;clear h;exact fV rvs h1 (h2.mono x)
 |inst c fs=>refine kb h λ dx es j h1 h2 h3=>?_;clear h;exact Hg dx es j ((k _ _ (.inl h1)).trans h1) ((k _ _ (.inr h2)).trans h2) (h3.mono x)
 |dict es=>refine bK h λ o kvs h1 h2 h3=>?_;clear h;exact c9 o kvs ((k _ _ (.inl h1)).trans h1) h2 (h3.mono x)
 |barr b=>exact(k _ _ (.inl h)).trans h
section reph
variable{C:Cx} {h:List AO} {φ:List Addr} {Λ:bj} {s:Shared}
theorem RepH.tok (R:RepH C h φ Λ s) (t:Nat):RepH C h φ Λ {s with toks:=t}:=⟨R.core.tok t,R.inj,R.len,R.objs⟩
theorem RepH.keeps (R:RepH C h φ Λ s) {h':Heap} (k:∀b o,s.heap.get? b=some o→h'.get? b=some o):RepH C h φ Λ {s with heap:=h'}:=⟨R.core.keeps k,R.inj,R.len,R.objs⟩
theorem RepH.get (R:RepH C h φ Λ s) {n:Nat} {ao:AO} (e:h[n]? =some ao) {a:Addr} (ha:φ[n]? =some a):OR C φ Λ n a ao:=by
 refine bM (R.objs n ao e) λ a' h1 h2=>?_
 rw[ha] at h1;refine sk h1 λ e1=>?_;clear h1;subst e1;exact h2
theorem RepH.ref {n:Nat} {v:Value} {φ:List Addr} {Λ:bj} (h:VR φ Λ (.ref n) v):∃a,v= .ref a∧φ[n]? =some a:=by cases h;exact fV _ rfl (by assumption)
theorem OR.there {n:Nat} {a:Addr} {ao:AO} (D:Core C Λ s) (h:OR C φ Λ n a ao):∃o,s.heap.get? a=some o:=by
 cases ao with
 |list vs=>refine ce h λ rvs j h1 h2=>?_;clear h;exact si _ ((D.here _ _ _ h1).1)
 |flist vs=>refine bM h λ rvs vv0 h2=>?_;clear h;refine bM vv0 λ o h1 z=>?_;clear vv0;exact si o (D.keep _ _ h1)
 |inst c fs=>refine kb h λ dx es j h1 h2 h3=>?_;clear h;exact si _ ((D.here _ _ _ h1).1)
 |dict es=>refine bK h λ o kvs h1 h2 h3=>?_;clear h;exact si _ ((D.here _ _ _ h1).1)
 |barr b=>exact si _ ((D.here _ _ _ h).1)
theorem RepH.there (R:RepH C h φ Λ s) {n:Nat} {a:Addr} (ha:φ[n]? =some a):∃o,s.heap.get? a=some o:=by
 have hn:n<h.length:=by rw[←R.len];exact(aA.mp ha).1
 refine bM (R.objs n h[n] (aq hn)) λ b h1 h2=>?_
 rw[ha] at h1;refine sk h1 λ e1=>?_;clear h1;subst e1
 exact h2.there R.core
theorem RepH.new_inj (R:RepH C h φ Λ s):(φ++[s.heap.objs.size]).Nodup:=by
 refine iO.mpr ⟨R.inj,jR.mpr ⟨jf,List.nodup_nil⟩,λ a ha b hb e=>?_⟩
 refine gX (List.mem_iff_getElem.mp ha) λ n y=>?_;refine gX y λ hn uu0=>?_;clear y ha;subst uu0
 refine gX (R.there (aq hn)) λ o ho=>?_
 have:b=s.heap.objs.size:=by simpa using hb
 exact absurd (cB ho) (by rw[e,this];exact Nat.lt_irrefl _)
theorem RepH.side (R:RepH C h φ Λ s) {o:Obj} (w:Own) (hf:o.isFreed=false):RepH C h φ (Λ.set s.heap.objs.size (w,o)) {s with heap:=s.heap.push o}:=by
 have x:ExtE φ Λ φ (Λ.set s.heap.objs.size (w,o)):=.new R.core.vac _
 refine⟨R.core.alloc w hf,R.inj,R.len,λ n ao e=>?_⟩
 refine bM (R.objs n ao e) λ a h1 h2=>?_
 exact fV a h1 (h2.mono x.toExtV λ b o' q=>bj.set_ne _ _ λ z=>by rcases q with q|q<;>exact R.core.ne q z)
theorem RepH.new (R:RepH C h φ Λ s) {o:Obj} {ao:AO} (hf:o.isFreed=false)
  (ho:OR C (φ++[s.heap.objs.size]) (Λ.set s.heap.objs.size (.obj h.length,o)) h.length s.heap.objs.size ao):
  RepH C (h++[ao]) (φ++[s.heap.objs.size]) (Λ.set s.heap.objs.size (.obj h.length,o)) {s with heap:=s.heap.push o}:=by
 have x:ExtE φ Λ (φ++[s.heap.objs.size]) (Λ.set s.heap.objs.size (.obj h.length,o)):=(ExtE.new R.core.vac _).push _
 refine⟨R.core.alloc _ hf,R.new_inj,by simp[R.len],λ n ao' e=>?_⟩
 by_cases hn:n<h.length
 ·rw[fN hn] at e
  refine bM (R.objs n ao' e) λ a h1 h2=>?_
  refine⟨a,iW x.pre h1,h2.mono x.toExtV λ b o' q=>bj.set_ne _ _ λ z=>by rcases q with q|q<;>exact R.core.ne q z⟩
 ·have hl:=(aA.mp e).1
  have hn':n=h.length:=by simp at hl;exact jm (f!"1ab>1a1.+b1.+<2" hl)<|f!"1ab>1ab<2" (aG hn)
  subst hn'
  have:ao'=ao:=by simpa using e.symm
  clear hl e;subst this
  exact fV _ (by rw[←R.len];simp) ho
theorem RepH.set (R:RepH C h φ Λ s) {n:Nat} {a d:Addr} {w:Own} {o o':Obj} {ao:AO} {h':Heap} (ha:φ[n]? =some a) (hd:Λ d=some (w,o)) (hw:w= .obj n∨w= .fld n)
  (hs:∀b,b≠d→∀x,s.heap.get? b=some x→h'.get? b=some x) (ho:h'.get? d=some o') (hr:OR C φ (Λ.set d (w,o')) n a ao):
  RepH C (h.set n ao) φ (Λ.set d (w,o')) {s with heap:=h'}:=by
 have x:ExtE φ Λ φ (Λ.set d (w,o')):=.at hd (by rcases hw with rfl|rfl<;>(refine⟨?_,?_,?_,?_⟩<;>intro q<;>cases q)) _
 refine⟨R.core.change hd hs ho,R.inj,by simp[R.len],λ m ao' e=>?_⟩
 by_cases hm:m=n
 ·clear hw;subst hm
  have hl:m<h.length:=by have:=(aA.mp e).1;simpa using this
  rw[jx hl] at e
  refine sk e λ e1=>?_;clear e;subst e1
  exact fV a ha hr
 ·rw[cZ (f9 hm)] at e
  refine bM (R.objs m ao' e) λ b h1 h2=>?_
  refine⟨b,h1,h2.mono x.toExtV λ c e5 q=>bj.set_ne _ _ λ z=>?_⟩
  clear ho hs;subst z
  rcases q with q|q<;>(rw[hd] at q;refine lH q λ e1 e2=>?_;clear q;subst e1 e2;rcases hw with hw|hw<;>cases hw;exact hm rfl)
end reph
inductive Stor where
 |ns (a:Addr) (x:Str)|cell (a:Addr)|none
noncomputable def Dv (o:Obj) (m:Str→Option Value):Prop:=∃es ep,o.data= .dict es ep∧StrKeys es∧∀name,nsFind es name=m name
theorem Dv.ns {h:Heap} {a:Addr} {o:Obj} {m:Str→Option Value} (x:Dv o m) (e:h.get? a=some o):h.Ns a m:=let⟨es,ep,a1,a2,a3⟩:=x;⟨o,es,ep,e,a1,a2,a3⟩
theorem Dv.of {h:Heap} {a:Addr} {m:Str→Option Value} (x:h.Ns a m):∃o,h.get? a=some o∧Dv o m:=let⟨o,es,ep,e,a1,a2,a3⟩:=x;⟨o,e,es,ep,a1,a2,a3⟩
noncomputable def rb (φ:List Addr) (Λ:bj) (ov:Option AV):Stor→Prop
 | .ns a x=>∃o m,Λ a=some (.ns,o)∧Dv o m∧(∀av,ov=some av→∃v,m x=some v∧VR φ Λ av v)
 | .cell a=>∃o v,Λ a=some (.cell,o)∧o.data= .cell v∧(∀av,ov=some av→∃v',v=some v'∧VR φ Λ av v')
 | .none=>ov= .none
structure RepS (C:Cx) (stor:Nat→Stor) (σ:St) (φ:List Addr) (Λ:bj) (s:Shared):Prop extends RepH C σ.h φ Λ s where
 slots:∀i av,σ.l[i]? =some av→rb φ Λ av (stor i)
 uniq:∀i j,i<σ.l.length→j<σ.l.length→stor i=stor j→stor i≠.none→i=j
theorem rb.mono {φ cF:List Addr} {Λ bp:bj} {av:Option AV} {st:Stor} (x:ExtE φ Λ cF bp) (h:rb φ Λ av st):rb cF bp av st:=by
 cases st with
 |ns a y=>refine bK h λ o m h1 h2 h3=>?_;clear h;exact c9 o m (x.ns _ _ h1) h2 (λ av q=>let⟨v,e,r⟩:=h3 av q;⟨v,e,r.mono x.toExtV⟩)
 |cell a=>refine bK h λ o v h1 h2 h3=>?_;clear h;exact c9 o v (x.cell _ _ h1) h2 (λ av q=>let⟨v,e,r⟩:=h3 av q;⟨v,e,r.mono x.toExtV⟩)
 |none=>exact h
theorem RepS.heap {C:Cx} {stor:Nat→Stor} {σ:St} {φ cF:List Addr} {Λ bp:bj} {s s':Shared} {h':List AO} (R:RepS C stor σ φ Λ s) (R':RepH C h' cF bp s') (x:ExtE φ Λ cF bp):RepS C stor ⟨σ.l,h'⟩ cF bp s':=
 ⟨R',λ i av e=>(R.slots i av e).mono x,R.uniq⟩
theorem RepS.tok {C:Cx} {stor:Nat→Stor} {σ:St} {φ:List Addr} {Λ:bj} {s:Shared} (R:RepS C stor σ φ Λ s) (t:Nat):RepS C stor σ φ Λ {s with toks:=t}:=⟨R.toRepH.tok t,R.slots,R.uniq⟩
theorem RepS.keeps {C:Cx} {stor:Nat→Stor} {σ:St} {φ:List Addr} {Λ:bj} {s:Shared} (R:RepS C stor σ φ Λ s) {h':Heap} (k:∀b o,s.heap.get? b=some o→h'.get? b=some o):RepS C stor σ φ Λ {s with heap:=h'}:=⟨R.toRepH.keeps k,R.slots,R.uniq⟩
noncomputable def fQ (C:Cx) (stor:Nat→Stor) (φ:List Addr) (Λ:bj) (av:AV) (bc:St):Value→Shared→Prop:=λ v s'=>∃cF bp,RepS C stor bc cF bp s'∧ExtE φ Λ cF bp∧VR cF bp av v
noncomputable def cE (C:Cx) (k:Nat) (stor:Nat→Stor) (t:Sem Value) (f:EM AV):Prop:=
 ∀A,Rm A k→∀σ av bc,f σ=some (av,bc)→∀φ Λ s,RepS C stor σ φ Λ s→wpAny C.M A t (fQ C stor φ Λ av bc) (λ z z=>False) s
noncomputable def KO (C:Cx) (stor:Nat→Stor) (φ:List Addr) (Λ:bj) (av:List AV) (bc:St):List Value→Shared→Prop:=λ v s'=>∃cF bp,RepS C stor bc cF bp s'∧ExtE φ Λ cF bp∧VRs cF bp av v
noncomputable def KK (C:Cx) (k:Nat) (stor:Nat→Stor) (t:Sem (List Value)) (f:EM (List AV)):Prop:=
 ∀A,Rm A k→∀σ av bc,f σ=some (av,bc)→∀φ Λ s,RepS C stor σ φ Λ s→wpAny C.M A t (KO C stor φ Λ av bc) (λ z z=>False) s
noncomputable def Du (C:Cx) (stor:Nat→Stor) (φ:List Addr) (Λ:bj) (b:Bool) (bc:St):Bool→Shared→Prop:=λ v s'=>∃cF bp,RepS C stor bc cF bp s'∧ExtE φ Λ cF bp∧v=b
noncomputable def kR (C:Cx) (k:Nat) (stor:Nat→Stor) (t:Sem Bool) (f:EM Bool):Prop:=
 ∀A,Rm A k→∀σ av bc,f σ=some (av,bc)→∀φ Λ s,RepS C stor σ φ Λ s→wpAny C.M A t (Du C stor φ Λ av bc) (λ z z=>False) s
inductive AF where
 |next|brk|cont|ret (v:AV)
noncomputable def Ma (φ:List Addr) (Λ:bj):AF→Flow→Prop
 | .next,.next=>True
 | .brk,.brk=>True
 | .cont,.cont=>True
 | .ret a,.ret v=>VR φ Λ a v
 |_,_=>False
noncomputable def rc (C:Cx) (stor:Nat→Stor) (φ:List Addr) (Λ:bj) (fl:AF) (bc:St):Flow→Shared→Prop:=λ v s'=>∃cF bp,RepS C stor bc cF bp s'∧ExtS φ Λ cF bp∧Ma cF bp fl v
noncomputable def jn (bb:Bool) (C:Cx) (k:Nat) (stor:Nat→Stor) (t:Sem Flow) (f:EM AF):Prop:=
 ∀A,Rm A k→∀σ fl bc,f σ=some (fl,bc)→∀φ Λ s,RepS C stor σ φ Λ s→gg bb C.M A t (rc C stor φ Λ fl bc) s
noncomputable abbrev mI:=jn false
noncomputable abbrev GI:=jn true
noncomputable def KN (C:Cx) (stor:Nat→Stor) (φ:List Addr) (Λ:bj) (bc:St):Unit→Shared→Prop:=λ z s'=>∃cF bp,RepS C stor bc cF bp s'∧ExtS φ Λ cF bp
noncomputable def ES (C:Cx) (k:Nat) (stor:Nat→Stor) (t:Value→Sem Unit) (f:AV→EM Unit):Prop:=
 ∀A,Rm A k→∀σ av bc,f av σ=some ((),bc)→∀φ Λ s v,RepS C stor σ φ Λ s→VR φ Λ av v→wpAny C.M A (t v) (KN C stor φ Λ bc) (λ z z=>False) s
noncomputable abbrev fR:=List AV→List AO→Option (AV×List AO)
noncomputable def b7 (C:Cx) (k:Nat) (f:Addr) (G:fR):Prop:=
 ∀A,Rm A k→∀args h av h',G args h=some (av,h')→∀φ Λ s rvs,RepH C h φ Λ s→VRs φ Λ args rvs→
  codeAny C.M A (.call (.ref f) ⟨rvs,[]⟩) (λ r s'=>∃v,r= .ok (.ret v)∧∃cF bp,RepH C h' cF bp s'∧ExtE φ Λ cF bp∧VR cF bp av v) s
section
variable{C:Cx} {k:Nat} {stor:Nat→Stor} {env:Env}
theorem RepS.ext {σ:St} {φ cF:List Addr} {Λ bp:bj} {s s':Shared} {h':List AO} (R:RepS C stor σ φ Λ s) (R':RepH C h' cF bp s') (x:ExtE φ Λ cF bp):RepS C stor {σ with h:=h'} cF bp s':=R.heap R' x
theorem bi {σ:St} {φ:List Addr} {Λ:bj} {s:Shared} {av:AV} {v:Value} (R:RepS C stor σ φ Λ s) (h:VR φ Λ av v):fQ C stor φ Λ av σ v s:=⟨φ,Λ,R,.refl _ _,h⟩
theorem fQ.trans {σ:St} {φ cF:List Addr} {Λ bp:bj} {s:Shared} {av:AV} {v:Value} (x:ExtE φ Λ cF bp) (h:fQ C stor cF bp av σ v s):fQ C stor φ Λ av σ v s:=
 let⟨a,b,c,d,e⟩:=h;⟨a,b,c,x.trans d,e⟩
theorem Du.trans {σ:St} {φ cF:List Addr} {Λ bp:bj} {s:Shared} {av v:Bool} (x:ExtE φ Λ cF bp) (h:Du C stor cF bp av σ v s):Du C stor φ Λ av σ v s:=
 let⟨a,b,c,d,e⟩:=h;⟨a,b,c,x.trans d,e⟩
theorem rc.trans {σ:St} {φ cF:List Addr} {Λ bp:bj} {s:Shared} {av:AF} {v:Flow} (x:ExtS φ Λ cF bp) (h:rc C stor cF bp av σ v s):rc C stor φ Λ av σ v s:=
 let⟨a,b,c,d,e⟩:=h;⟨a,b,c,x.trans d,e⟩
theorem dC {P:Value→Shared→Prop}:∀e s,(λ(z:Value) (_:Shared)=>False) e s→P e s:=λ z z x=>x.elim
noncomputable def tD (C:Cx) (k:Nat) (stor:Nat→Stor) (t:Value→Value→Sem Value) (g:AV→AV→EM AV):Prop:=
 ∀A,Rm A k→∀σ a b av bc,g a b σ=some (av,bc)→∀φ Λ s va vb,RepS C stor σ φ Λ s→VR φ Λ a va→VR φ Λ b vb→wpAny C.M A (t va vb) (fQ C stor φ Λ av bc) (λ z z=>False) s
noncomputable def LM (C:Cx) (k:Nat) (stor:Nat→Stor) (t:Value→Sem Value) (g:AV→EM AV):Prop:=
 ∀A,Rm A k→∀σ a av bc,g a σ=some (av,bc)→∀φ Λ s va,RepS C stor σ φ Λ s→VR φ Λ a va→wpAny C.M A (t va) (fQ C stor φ Λ av bc) (λ z z=>False) s
theorem ak (i:Int) (j:Nat) (pos:Pos):cE C k stor (eval (.Constant (.int i) j pos) env) (ret (.int i)):=by
 intro A r σ av bc h φ Λ s R
 refine ir h ?_;clear h
 exact wpAny_Constant_int (bi (R.tok _) (.int _ _))
theorem rZ (i:Str) (j:Nat) (pos:Pos):cE C k stor (eval (.Constant (.str i) j pos) env) (ret (.str i)):=by
 intro A r σ av bc h φ Λ s R
 refine ir h ?_;clear h
 exact Constant_str (bi (R.tok _) (.str _ _))
theorem r6 (i:Bool) (j:Nat) (pos:Pos):cE C k stor (eval (.Constant (.bool i) j pos) env) (ret (.bool i)):=by
 intro A r σ av bc h φ Λ s R
 refine ir h ?_;clear h
 exact aO (bi R (.bool _))
theorem iq (j:Nat) (pos:Pos):cE C k stor (eval (.Constant .none j pos) env) (ret .none):=by
 intro A r σ av bc h φ Λ s R
 refine ir h ?_;clear h
 exact aO (bi R .none)
structure NameAt (env:Env) (stor:Nat→Stor) (x:Str) (i:Nat):Prop where
 kind:env.scope.kind= .function
 at_:(env.kindOf x=some .local∧stor i= .ns env.locals x)∨((env.kindOf x=some .cell∨env.kindOf x=some .free)∧∃c,env.cells.lookup x=some c∧stor i= .cell c)
 nd:(x==("__debug__":Str))=false
 nc:(x==("__classdict__":Str))=false
noncomputable def rd (i:Nat):EM AV:=λ σ=>match σ.l[i]? with|some (some a)=>some (a,σ)|_=>none
theorem Cu {i:Nat} {σ bc:St} {av:AV} (h:rd i σ=some (av,bc)):σ.l[i]? =some (some av)∧bc=σ:=by
 unfold rd at h
 injections LU h _ _
 refine ir h ?_;clear h;exact dF (by assumption) rfl
theorem CK {A:Around} {x:Str} {i:Nat} (n:NameAt env stor x i) {σ:St} {av:AV} (h:σ.l[i]? =some (some av)) {φ:List Addr} {Λ:bj} {s:Shared} (R:RepS C stor σ φ Λ s) {Q:Value→Shared→Prop} {E:Value→Shared→Prop}
  (q:∀v,VR φ Λ av v→Q v s):wpAny C.M A (loadName env x) Q E s:=by
 have S:=R.slots i _ h
 rcases n.at_ with⟨hk,hs⟩|⟨hk,c,hc,hs⟩
 ·rw[hs] at S
  refine bK S λ o m h1 h2 h3=>?_;clear S
  refine bM (h3 _ rfl) λ v e r=>?_
  exact wpAny_loadName_local n.kind hk (h2.ns (R.core.here _ _ _ h1).1) e (q v r)
 ·rw[hs] at S
  refine bK S λ o JO h1 h2 h3=>?_;clear S
  refine bM (h3 _ rfl) λ v uu0 r=>?_;clear h3;subst uu0
  have hcell:s.heap.IsCell c (some v):=⟨o,(R.core.here _ _ _ h1).1,h2⟩
  rcases hk with hk|hk
  ·exact wpAny_loadName_cell n.kind hk hc hcell (q v r)
  ·exact wpAny_loadName_free n.kind hk hc hcell (q v r) n.nc
theorem aa {x:Str} {i:Nat} (n:NameAt env stor x i) (pos:Pos):cE C k stor (eval (.Name x pos) env) (rd i):=by
 intro A r σ av bc h φ Λ s R
 refine dL (Cu h) λ h uu0=>?_;subst uu0
 exact wpAny_Name (CK n h R λ v hv=>bi R hv) n.nd
structure GlobAt (C:Cx) (env:Env) (x:Str) (v:Value):Prop where
 kind:env.scope.kind= .function
 gl:env.globals=mainGlobals
 bl:env.builtins=builtinsNs
 at_:env.kindOf x=some .globalImplicit
 val:C.mg x=some v∨(C.mg x=none∧C.mb x=some v)
 nd:(x==("__debug__":Str))=false
theorem kg (H:C.Ok) {A:Around} {x:Str} {v:Value} (n:GlobAt C env x v) {Λ:bj} {s:Shared} (D:Core C Λ s) {Q:Value→Shared→Prop} {E:Value→Shared→Prop} {pos:Pos} (q:Q v s):wpAny C.M A (eval (.Name x pos) env) Q E s:=by
 refine Name_function_global n.kind n.at_ ?_ n.nd
 rcases n.val with h|⟨h1,h2⟩
 ·exact loadGlobal_global (by rw[n.gl];exact H.T.g.keeps D.keep) h q
 ·exact loadGlobal_builtin (by rw[n.gl];exact H.T.g.keeps D.keep) h1 (by rw[n.bl];exact H.T.b.keeps D.keep) h2 q
theorem Ff (H:C.Ok) {x:Str} {i:Int} {t:Tok} (n:GlobAt C env x (.int i t)) (pos:Pos):cE C k stor (eval (.Name x pos) env) (ret (.int i)):=by
 intro A r σ av bc h φ Λ s R
 refine ir h ?_;clear h
 exact kg H n R.core (bi R (.int _ _))
theorem cT {t:Sem Value} {f:EM AV} (hf:cE C k stor t f) {α:Type} {g:AV→EM α} {A:Around} (r:Rm A k) {σ bc:St} {b:α} (h:ae f g σ=some (b,bc)) {φ:List Addr} {Λ:bj} {s:Shared} (R:RepS C stor σ φ Λ s)
  {Q:Value→Shared→Prop} {E:Value→Shared→Prop}
  (q:∀a az v aZ aJ ar,g a az=some (b,bc)→RepS C stor az aJ ar aZ→ExtE φ Λ aJ ar→VR aJ ar a v→Q v aZ):wpAny C.M A t Q E s:=by
 refine ce (br h) λ a az h1 h2=>?_
 refine aV (hf A r σ a az h1 φ Λ s R) (λ v aZ p=>?_) dC
 refine bK p λ aJ ar bD x hv=>?_;clear p
 exact q a az v aZ aJ ar h2 bD x hv
theorem mx {t:Sem Bool} {f:EM Bool} (hf:kR C k stor t f) {α:Type} {g:Bool→EM α} {A:Around} (r:Rm A k) {σ bc:St} {b:α} (h:ae f g σ=some (b,bc)) {φ:List Addr} {Λ:bj} {s:Shared} (R:RepS C stor σ φ Λ s)
  {Q:Bool→Shared→Prop} {E:Value→Shared→Prop}
  (q:∀a az aZ aJ ar,g a az=some (b,bc)→RepS C stor az aJ ar aZ→ExtE φ Λ aJ ar→Q a aZ):wpAny C.M A t Q E s:=by
 refine ce (br h) λ a az h1 h2=>?_
 refine aV (hf A r σ a az h1 φ Λ s R) (λ v aZ p=>?_) dC
 refine bK p λ aJ ar bD x uu0=>?_;clear p h1;subst uu0
 exact q v az aZ aJ ar h2 bD x
theorem lc {t:Sem (List Value)} {f:EM (List AV)} (hf:KK C k stor t f) {α:Type} {g:List AV→EM α} {A:Around} (r:Rm A k) {σ bc:St} {b:α} (h:ae f g σ=some (b,bc)) {φ:List Addr} {Λ:bj} {s:Shared} (R:RepS C stor σ φ Λ s)
  {Q:List Value→Shared→Prop} {E:Value→Shared→Prop}
  (q:∀a az v aZ aJ ar,g a az=some (b,bc)→RepS C stor az aJ ar aZ→ExtE φ Λ aJ ar→VRs aJ ar a v→Q v aZ):wpAny C.M A t Q E s:=by
 refine ce (br h) λ a az h1 h2=>?_
 refine aV (hf A r σ a az h1 φ Λ s R) (λ v aZ p=>?_) dC
 refine bK p λ aJ ar bD x hv=>?_;clear p
 exact q a az v aZ aJ ar h2 bD x hv
theorem Ck {l r:Sem Value} {fl fr:EM AV} {t:Value→Value→Sem Value} {g:AV→AV→EM AV} (hl:cE C k stor l fl) (hr:cE C k stor r fr) (ho:tD C k stor t g) {whole:Sem Value}
  (hw:∀(A:Around) (Q:Value→Shared→Prop) (E:Value→Shared→Prop) (s:Shared),wpAny C.M A l (λ a aZ=>wpAny C.M A r (λ b ey=>wpAny C.M A (t a b) Q E ey) E aZ) E s→wpAny C.M A whole Q E s):
  cE C k stor whole (ae fl λ a=>ae fr λ b=>g a b):=by
 intro A rm σ av bc h φ Λ s R
 refine hw _ _ _ _ (cT hl rm h R λ a az va aZ aJ ar aN bD bq hva=>cT hr rm aN bD λ b cG vb ey cD bH bT cX cL hvb=>?_)
 exact aV (ho A rm cG a b av bc bT cD bH ey va vb cX (hva.mono cL.toExtV) hvb) (λ z z p=>p.trans (bq.trans cL)) dC
theorem Hb {l:Sem Value} {fl:EM AV} {t:Value→Sem Value} {g:AV→EM AV} (hl:cE C k stor l fl) (ho:LM C k stor t g) {whole:Sem Value}
  (hw:∀(A:Around) (Q:Value→Shared→Prop) (E:Value→Shared→Prop) (s:Shared),wpAny C.M A l (λ a aZ=>wpAny C.M A (t a) Q E aZ) E s→wpAny C.M A whole Q E s):
  cE C k stor whole (ae fl g):=by
 intro A rm σ av bc h φ Λ s R
 refine hw _ _ _ _ (cT hl rm h R λ a az va aZ aJ ar aN bD bq hva=>?_)
 exact aV (ho A rm az a av bc aN aJ ar aZ va bD hva) (λ z z p=>p.trans bq) dC
theorem aE {l r:Expr} {op:Operator} {pos:Pos} {fl fr:EM AV} {g:AV→AV→EM AV} (hl:cE C k stor (eval l env) fl) (hr:cE C k stor (eval r env) fr) (ho:tD C k stor (binaryOp op) g):
  cE C k stor (eval (.BinOp l op r pos) env) (ae fl λ a=>ae fr λ b=>g a b):=
 Ck hl hr ho λ z z z z h=>wpAny_BinOp h
theorem qp {l r:Expr} {op:CmpOp} {pos:Pos} {fl fr:EM AV} {g:AV→AV→EM AV} (hl:cE C k stor (eval l env) fl) (hr:cE C k stor (eval r env) fr) (ho:tD C k stor (compareOp op) g) (hm:autoParam (behindInMarks op r=false) aW):
  cE C k stor (eval (.Compare l [op] [r] pos) env) (ae fl λ a=>ae fr λ b=>g a b):=
 Ck hl hr ho λ z z z z h=>wpAny_Compare1 h hm
noncomputable def tr (a:AV):EM Bool:=λ σ=>match a with
 | .bool b=>some (b,σ)
 | .int i=>some (i !=0,σ)
 | .none=>some (false,σ)
 |_=>none
theorem gq {A:Around} {σ bc:St} {a:AV} {b:Bool} (h:tr a σ=some (b,bc)) {φ:List Addr} {Λ:bj} {v:Value} (hv:VR φ Λ a v) {s:Shared} {Q:Bool→Shared→Prop} {E:Value→Shared→Prop} (q:Q b s):bc=σ∧wpAny C.M A (truthy v) Q E s:=by
 cases hv<;>first|exact dq h|skip
 ·refine lH h λ e1 e2=>?_;clear h;subst e1 e2;exact dF rfl (truthy_none q)
 ·refine lH h λ e1 e2=>?_;clear h;subst e1 e2;exact dF rfl (wpAny_truthy_bool q)
 ·refine lH h λ e1 e2=>?_;clear h;subst e1 e2;exact dF rfl (truthy_int q)
theorem mz {e:Expr} {f:EM AV} (hf:cE C k stor (eval e env) f) (he:autoParam (isTrue e env (eval e env)=(do let v←eval e env;standAt e.pos;holding [v] (truthy v))) aR):
  kR C k stor (isTrue e env (eval e env)) (ae f tr):=by
 intro A rm σ av bc h φ Λ s R
 refine isTrue_plain (cT hf rm h R λ a az va aZ aJ ar aN bD bq hva=>?_) he
 have yV:=(gq (C:=C) (A:=A) (s:=aZ) (Q:=λ z z=>True) (E:=λ z z=>True) aN hva trivial).1
 subst yV
 exact(gq aN hva ⟨aJ,ar,bD,bq,rfl⟩).2
theorem ax {l r:Expr} {op:CmpOp} {pos:Pos} {whole:Sem Value} {fl fr:EM AV} {g:AV→AV→EM AV} (hl:cE C k stor (eval l env) fl) (hr:cE C k stor (eval r env) fr) (ho:tD C k stor (compareOp op) g) (hm:autoParam (behindInMarks op r=false) aW):
  kR C k stor (isTrue (.Compare l [op] [r] pos) env whole) (ae fl λ a=>ae fr λ b=>ae (g a b) tr):=by
 intro A rm σ av bc h φ Λ s R
 refine wpAny_isTrue_Compare1 (cT hl rm h R λ a az va aZ aJ ar aN bD bq hva=>cT hr rm aN bD λ b cG vb ey cD bH bT cX cL hvb=>?_) hm
 refine ce (br bT) λ c dM h3 h4=>?_
 refine aV (ho A rm cG a b c dM h3 cD bH ey va vb cX (hva.mono cL.toExtV) hvb) (λ v io p=>?_) dC
 refine bK p λ iS gw f6 gi hc=>?_;clear p
 have yV:=(gq (C:=C) (A:=A) (s:=io) (Q:=λ z z=>True) (E:=λ z z=>True) h4 hc trivial).1
 clear h3;subst yV
 exact(gq h4 hc ⟨iS,gw,f6,bq.trans (cL.trans gi),rfl⟩).2
theorem dc {l m r:Expr} {op op':CmpOp} {pos:Pos} {whole:Sem Value} {fl fm fr:EM AV} {g g':AV→AV→EM AV} (hl:cE C k stor (eval l env) fl) (hm':cE C k stor (eval m env) fm) (hr:cE C k stor (eval r env) fr)
  (ho:tD C k stor (compareOp op) g) (ho':tD C k stor (compareOp op') g') (hm:autoParam (lastMarks [op,op'] [m,r]=false) aW):
  kR C k stor (isTrue (.Compare l [op,op'] [m,r] pos) env whole) (ae fl λ a=>ae fm λ b=>ae (g a b) λ c=>ae (tr c) λ t=>if t then ae fr λ d=>ae (g' b d) tr else ret false):=by
 intro A rm σ av bc h φ Λ s R
 refine isTrue_chain (cT hl rm h R λ a az va aZ aJ ar aN bD bq hva=>?_) hm
 show wpAny C.M A (do
  let rv←holding [va] (eval m env)
  standAt pos
  let c←holding [va,rv] (compareOp op va rv)
  release [va,rv] [c]
  if←holding [c,rv] (truthy c) then testChain pos rv [op'] [eval r env] else pure false) _ _ aZ
 refine al (cA (cT hm' rm aN bD λ b cG vb ey cD bH bT cX cL hvb=>al (bP (al (cA ?_)))))
 refine ce (br bT) λ c dM h3 h4=>?_
 refine aV (ho A rm cG a b c dM h3 cD bH ey va vb cX (hva.mono cL.toExtV) hvb) (λ v io p=>?_) dC
 refine bK p λ iS gw f6 gi hc=>?_;clear p
 refine ce (br h4) λ t mv h5 h6=>?_
 refine al (wpAny_release' (al (cA ?_)))
 have yV:=(gq (C:=C) (A:=A) (s:=io) (Q:=λ z z=>True) (E:=λ z z=>True) h5 hc trivial).1
 clear h4 h3;subst yV
 refine(gq h5 hc ?_).2
 cases t with
 |false=>
  refine ir h6 ?_;clear h6
  exact aO ⟨iS,gw,f6,bq.trans (cL.trans gi),rfl⟩
 |true=>
  show wpAny C.M A (do
   let rv←holding [vb] (eval r env)
   standAt pos
   let c←operate [vb,rv] (compareOp op' vb rv)
   holding [c] (truthy c)) _ _ io
  refine al (cA (cT hr rm h6 f6 λ d oK vd zO oJ pD FU mM k9 hvd=>al (bP (al (wpAny_operate' ?_)))))
  refine ce (br FU) λ e zC h8 h9=>?_
  refine aV (ho' A rm oK b d e zC h8 oJ pD zO vb vd mM ((hvb.mono gi.toExtV).mono k9.toExtV) hvd) (λ v E9 p=>?_) dC
  refine bK p λ zA oO uy uk he=>?_;clear p
  have yV:=(gq (C:=C) (A:=A) (s:=E9) (Q:=λ z z=>True) (E:=λ z z=>True) h9 he trivial).1
  clear h8;subst yV
  exact cA (gq h9 he ⟨zA,oO,uy,bq.trans (cL.trans (gi.trans (k9.trans uk))),rfl⟩).2
theorem ff {e:Expr} {pos:Pos} {whole:Sem Value} {f:EM Bool} (hf:kR C k stor (isTrue e env (eval e env)) f):kR C k stor (isTrue (.UnaryOp .Not e pos) env whole) (ae f λ b=>ret (!b)):=by
 intro A rm σ av bc h φ Λ s R
 refine isTrue_not (mx hf rm h R λ a az aZ aJ ar aN bD bq=>?_)
 refine ir aN ?_;clear aN
 exact c9 aJ ar bD bq rfl
theorem uq {a b:Expr} {pos:Pos} {whole:Sem Value} {f g:EM Bool} (hf:kR C k stor (isTrue a env (eval a env)) f) (hg:kR C k stor (isTrue b env (eval b env)) g):
  kR C k stor (isTrue (.BoolOp .And [a,b] pos) env whole) (ae f λ t=>if t then g else ret false):=by
 intro A rm σ av bc h φ Λ s R
 refine isTrue_and (mx hf rm h R λ t az aZ aJ ar aN bD bq=>?_)
 cases t with
 |false=>refine ir aN ?_;clear aN;exact c9 aJ ar bD bq rfl
 |true=>
  refine isTrue_and (aV (hg A rm az av bc aN aJ ar aZ bD) (λ c ey p=>?_) dC)
  refine bK p λ cD bH cX cL uu0=>?_;clear p;subst uu0
  cases c with
  |false=>exact c9 cD bH cX (bq.trans cL) rfl
  |true=>exact isTrue_and_nil ⟨cD,bH,cX,bq.trans cL,rfl⟩
theorem fc {a b:Expr} {pos:Pos} {whole:Sem Value} {f g:EM Bool} (hf:kR C k stor (isTrue a env (eval a env)) f) (hg:kR C k stor (isTrue b env (eval b env)) g):
  kR C k stor (isTrue (.BoolOp .Or [a,b] pos) env whole) (ae f λ t=>if t then ret true else g):=by
 intro A rm σ av bc h φ Λ s R
 refine isTrue_or (mx hf rm h R λ t az aZ aJ ar aN bD bq=>?_)
 cases t with
 |true=>refine ir aN ?_;clear aN;exact c9 aJ ar bD bq rfl
 |false=>
  refine isTrue_or (aV (hg A rm az av bc aN aJ ar aZ bD) (λ c ey p=>?_) dC)
  refine bK p λ cD bH cX cL uu0=>?_;clear p;subst uu0
  cases c with
  |true=>exact c9 cD bH cX (bq.trans cL) rfl
  |false=>exact isTrue_or_nil ⟨cD,bH,cX,bq.trans cL,rfl⟩
theorem j6 {a b c:Expr} {pos:Pos} {whole:Sem Value} {f g e:EM Bool} (hf:kR C k stor (isTrue a env (eval a env)) f) (hg:kR C k stor (isTrue b env (eval b env)) g) (he:kR C k stor (isTrue c env (eval c env)) e):
  kR C k stor (isTrue (.BoolOp .Or [a,b,c] pos) env whole) (ae f λ t=>if t then ret true else ae g λ t=>if t then ret true else e):=by
 intro A rm σ av bc h φ Λ s R
 refine isTrue_or (mx hf rm h R λ t az aZ aJ ar aN bD bq=>?_)
 cases t with
 |true=>refine ir aN ?_;clear aN;exact c9 aJ ar bD bq rfl
 |false=>
  exact aV (fc (pos:=pos) (whole:=whole) hg he A rm az av bc aN aJ ar aZ bD) (λ c ey p=>p.trans bq) dC
theorem jK {test body orelse:Expr} {pos:Pos} {f:EM Bool} {g e:EM AV} (hf:kR C k stor (isTrue test env (eval test env)) f) (hg:cE C k stor (eval body env) g) (he:cE C k stor (eval orelse env) e):
  cE C k stor (eval (.IfExp test body orelse pos) env) (ae f λ t=>if t then g else e):=by
 intro A rm σ av bc h φ Λ s R
 refine IfExp_ (mx hf rm h R λ t az aZ aJ ar aN bD bq=>?_)
 cases t with
 |true=>exact aV (hg A rm az av bc aN aJ ar aZ bD) (λ c ey p=>p.trans bq) dC
 |false=>exact aV (he A rm az av bc aN aJ ar aZ bD) (λ c ey p=>p.trans bq) dC
theorem Ha {a b:Expr} {pos:Pos} {f g:EM AV} (hf:cE C k stor (eval a env) f) (hg:cE C k stor (eval b env) g):
  cE C k stor (eval (.BoolOp .Or [a,b] pos) env) (ae f λ v=>ae (tr v) λ t=>if t then ret v else g):=by
 intro A rm σ av bc h φ Λ s R
 show wpAny C.M A (do
  let v←eval a env
  standAt pos
  let t←holding [v] (truthy v)
  match BoolOp.Or,t with
  | .And,false| .Or,true=>pure v
  |_,_=>boolOp pos .Or [eval b env]) _ _ s
 refine al (cT hf rm h R λ v az va aZ aJ ar aN bD bq hva=>al (bP (al (cA ?_))))
 refine ce (br aN) λ t cG h2 h3=>?_
 have yV:=(gq (C:=C) (A:=A) (s:=aZ) (Q:=λ z z=>True) (E:=λ z z=>True) h2 hva trivial).1
 clear aN;subst yV
 refine(gq h2 hva ?_).2
 cases t with
 |true=>refine ir h3 ?_;clear h3;exact aO ⟨aJ,ar,bD,bq,hva⟩
 |false=>exact aV (hg A rm cG av bc h3 aJ ar aZ bD) (λ c ey p=>p.trans bq) dC
theorem Fh {a b:Expr} {pos:Pos} {f g:EM AV} (hf:cE C k stor (eval a env) f) (hg:cE C k stor (eval b env) g):
  cE C k stor (eval (.BoolOp .And [a,b] pos) env) (ae f λ v=>ae (tr v) λ t=>if t then g else ret v):=by
 intro A rm σ av bc h φ Λ s R
 show wpAny C.M A (do
  let v←eval a env
  standAt pos
  let t←holding [v] (truthy v)
  match BoolOp.And,t with
  | .And,false| .Or,true=>pure v
  |_,_=>boolOp pos .And [eval b env]) _ _ s
 refine al (cT hf rm h R λ v az va aZ aJ ar aN bD bq hva=>al (bP (al (cA ?_))))
 refine ce (br aN) λ t cG h2 h3=>?_
 have yV:=(gq (C:=C) (A:=A) (s:=aZ) (Q:=λ z z=>True) (E:=λ z z=>True) h2 hva trivial).1
 clear aN;subst yV
 refine(gq h2 hva ?_).2
 cases t with
 |false=>refine ir h3 ?_;clear h3;exact aO ⟨aJ,ar,bD,bq,hva⟩
 |true=>exact aV (hg A rm cG av bc h3 aJ ar aZ bD) (λ c ey p=>p.trans bq) dC
noncomputable def bN:List (EM AV)→EM (List AV)
 | []=>ret []
 |f::r=>ae f λ a=>ae (bN r) λ l=>ret (a::l)
inductive SndEach (C:Cx) (k:Nat) (stor:Nat→Stor) (env:Env):List Expr→List (EM AV)→Prop
 |nil:SndEach C k stor env [] []
 |cons {e:Expr} {es:List Expr} {f:EM AV} {fs:List (EM AV)} (h:cE C k stor (eval e env) f) (r:SndEach C k stor env es fs)
   (hs:autoParam (starEach (e::es) env=(false,eval e env)::starEach es env) aR):SndEach C k stor env (e::es) (f::fs)
theorem iT {pos:Pos} {es:List Expr} {fs:List (EM AV)} (h:SndEach C k stor env es fs):KK C k stor (spliced (backTo pos (starEach es env))) (bN fs):=by
 induction h with
 |nil=>
  intro A rm σ av bc h φ Λ s R
  refine ir h ?_;clear h
  exact aO ⟨φ,Λ,R,.refl _ _,.nil⟩
 | @cons e es f fs h r hs ih=>
  intro A rm σ av bc hh φ Λ s R
  rw[hs]
  show wpAny C.M A (do
   let v←eval e env
   let here←(pure [v]:Sem (List Value))
   return here++(←holding here (spliced (backTo pos (starEach es env))))) _ _ s
  refine al (cT h rm hh R λ a az va aZ aJ ar aN bD bq hva=>al (aO (al (cA (lc ih rm aN bD λ l cG vl ey cD bH bT cX cL hvl=>?_)))))
  refine ir bT ?_;clear bT
  exact aO ⟨cD,bH,cX,bq.trans cL,.cons (hva.mono cL.toExtV) hvl⟩
theorem VRs.length {φ:List Addr} {Λ:bj} {l:List AV} {vs:List Value} (h:VRs φ Λ l vs):l.length=vs.length:=h.ind (P:=λ l vs=>l.length=vs.length) rfl λ z z r=>congrArg (·+1) r
noncomputable def iJ (n:Nat):Bool:=decide (n≤1000000)
theorem js {n:Nat} (h:iJ n=true):n≤sizeLine:=by have:=ay h;unfold sizeLine;exact f!"1a16777216.>1a1000000.<1" this
noncomputable def gH (vs:List AV):EM AV:=λ σ=>if iJ vs.length then some (.ref σ.h.length,{σ with h:=σ.h++[.list vs]}) else none
noncomputable def mm (vs:List AV):EM AV:=λ σ=>if iJ vs.length then some (.tup vs,σ) else none
theorem BF {A:Around} {σ bc:St} {vs:List AV} {av:AV} (h:gH vs σ=some (av,bc)) {φ:List Addr} {Λ:bj} {s:Shared} (R:RepS C stor σ φ Λ s) {rvs:List Value} (hv:VRs φ Λ vs rvs):
  wpAny C.M A (newList rvs) (fQ C stor φ Λ av bc) (λ z z=>False) s:=by
 unfold gH at h
 injections lY h hf
 refine ir h ?_;clear h
 have x:ExtE φ Λ φ (Λ.set s.heap.objs.size (.obj σ.h.length,b8 rvs 0)):=.new R.core.vac _
 refine wpAny_newList ?_ (js (by rw[←hv.length];exact hf))
 refine⟨φ++[s.heap.objs.size],Λ.set s.heap.objs.size (.obj σ.h.length,b8 rvs 0),R.ext (R.toRepH.new rfl ⟨rvs,0,bj.set_self ..,hv.mono (x.push _).toExtV⟩) (x.push _),x.push _,.ref ?_⟩
 rw[←R.len];simp
theorem tX {A:Around} {σ bc:St} {vs:List AV} {av:AV} (h:mm vs σ=some (av,bc)) {φ:List Addr} {Λ:bj} {s:Shared} (R:RepS C stor σ φ Λ s) {rvs:List Value} (hv:VRs φ Λ vs rvs):
  wpAny C.M A (newTuple rvs) (fQ C stor φ Λ av bc) (λ z z=>False) s:=by
 unfold mm at h
 injections lY h hf
 refine ir h ?_;clear h
 have x:ExtE φ Λ φ (Λ.set s.heap.objs.size (.fz,lL rvs)):=.new R.core.vac _
 refine wpAny_newObj_type ?_ (by show rvs.toArray.size≤sizeLine;rw[bn];exact js (by rw[←hv.length];exact hf))
 exact c9 φ _ (R.ext (R.toRepH.side .fz rfl) x) x (.tup (bj.set_self ..) (hv.mono x.toExtV))
theorem da {es:List Expr} {fs:List (EM AV)} {pos:Pos} (h:SndEach C k stor env es fs):cE C k stor (eval (.List es pos) env) (ae (bN fs) gH):=by
 intro A rm σ av bc hh φ Λ s R
 exact List_ (lc (iT h) rm hh R λ l az vl aZ aJ ar aN bD bq hvl=>aV (BF aN bD hvl) (λ z z p=>p.trans bq) dC)
theorem bV {es:List Expr} {fs:List (EM AV)} {j:Nat} {pos:Pos} (h:SndEach C k stor env es fs):cE C k stor (eval (.Tuple es j pos) env) (ae (bN fs) mm):=by
 intro A rm σ av bc hh φ Λ s R
 exact Tuple_ (lc (iT h) rm hh R λ l az vl aZ aJ ar aN bD bq hvl=>aV (tX aN bD hvl) (λ z z p=>p.trans bq) dC)
end
section
open PySem.SeqAt
noncomputable def getL (h:List AO) (n:Nat):Option (List AV):=match h[n]? with
 |some (.list vs)=>some vs
 |some (.flist vs)=>some vs
 |_=>none
section
variable{C:Cx} {h:List AO} {φ:List Addr} {Λ:bj} {s:Shared}
theorem fM (R:RepH C h φ Λ s) {n:Nat} {vs:List AV} (e:getL h n=some vs) {a:Addr} (ha:φ[n]? =some a):∃rvs:List Value,s.heap.IsList a rvs.toArray∧VRs φ Λ vs rvs:=by
 refine oL e (λ q=>?_) λ q=>?_
 ·refine ce (R.get q ha) λ rvs k h1 h2=>?_
  exact fV rvs ⟨_,(R.core.here _ _ _ h1).1,rfl,k,rfl⟩ h2
 ·refine bM (R.get q ha) λ rvs h1 h2=>?_
  exact fV rvs (stays_list R.core.keep h1) h2
theorem xE {α:Type} {l:List α} (hn:l.Nodup) {i j:Nat} {a:α} (hi:l[i]? =some a) (hj:l[j]? =some a):i=j:=by
 refine gX (aA.mp hi) λ h1 e1=>?_
 refine gX (aA.mp hj) λ h2 e2=>?_
 have key:=lF.mp hn
 rcases Nat.lt_trichotomy i j with q|q|q
 ·exact absurd (e1.trans e2.symm) (key i j h1 h2 q)
 ·exact q
 ·exact absurd (e2.trans e1.symm) (key j i h2 h1 q)
theorem OR.not_fz (R:RepH C h φ Λ s) {n:Nat} {a:Addr} (ha:φ[n]? =some a) {o:Obj} (e:Λ a=some (.fz,o)):False:=by
 have hn:n<h.length:=by rw[←R.len];exact(aA.mp ha).1
 have z:=R.get (aq hn) ha
 generalize h[n]=ao at z
 cases ao with
 |list vs=>refine ce z λ rvs j h1 h2=>?_;clear z;rw[e] at h1;cases h1
 |flist vs=>
  refine bM z λ rvs vv0 h2=>?_;clear z;refine bM vv0 λ o' h1 u=>?_;clear vv0
  rw[(R.core.here _ _ _ e).2] at h1;exact dq h1
 |inst c fs=>refine kb z λ dx es j h1 h2 h3=>?_;clear z;rw[e] at h1;cases h1
 |dict es=>refine bK z λ o' kvs h1 h2 h3=>?_;clear z;rw[e] at h1;cases h1
 |barr b=>have:Λ a=_:=z;rw[e] at this;cases this
theorem VR.back {φ:List Addr} {Λ:bj} {b:AV} {v:Value} (y:VR φ Λ b v):match v with
  | .none=>b= .none| .bool c=>b= .bool c| .int i _=>b= .int i| .str c _=>b= .str c| .bytes c _=>b= .bytes c
  | .ref a=>(∃n,φ[n]? =some a∧b= .ref n)∨∃l vs,Λ a=some (.fz,lL vs)∧VRs φ Λ l vs∧b= .tup l
  |_=>True:=match y with
 | .none| .bool _| .int _ _| .str _ _| .bytes _ _=>rfl
 | .ref h=>.inl ⟨_,h,rfl⟩
 | .tup h r=>.inr ⟨_,_,h,r,rfl⟩
theorem Iw {vs ws:List Value} {P:Prop} (h:some (Own.fz,lL vs)=some (Own.fz,lL ws)) (k:vs=ws→P):P:=by
 injection h with h
 injection h with _ h
 injection h with _ _ h _
 injection h with h _
 exact k (congrArg Array.toList h)
theorem VRs.back {φ:List Addr} {Λ:bj} {m:List AV} {vs:List Value} (y:VRs φ Λ m vs):match vs with
  | []=>m=[]
  |v::vs=>∃b k,VR φ Λ b v∧VRs φ Λ k vs∧m=b::k:=match y with
 | .nil=>rfl
 | .cons h r=>⟨_,_,h,r,rfl⟩
theorem VR.inj (R:RepH C h φ Λ s) {a b:AV} {v:Value} (x:VR φ Λ a v) (y:VR φ Λ b v):a=b:=
 VR.rec (motive_1:=λ a v z=>∀b,VR φ Λ b v→a=b) (motive_2:=λ l vs z=>∀m,VRs φ Λ m vs→l=m) (λ z y=>y.back.symm) (λ z z y=>y.back.symm) (λ z z z y=>y.back.symm) (λ z z z y=>y.back.symm) (λ z z z y=>y.back.symm)
  (λ h1 b y=>y.back.elim (λ⟨_,h2,e⟩=>e▸congrArg AV.ref (xE R.inj h1 h2)) λ⟨_,_,h2,_,_⟩=>(OR.not_fz R h1 h2).elim)
  (λ h1 z ih b y=>y.back.elim (λ⟨_,h2,_⟩=>(OR.not_fz R h2 h1).elim) λ⟨m,ws,h2,r2,e⟩=>Iw (h1.symm.trans h2) λ q=>e▸congrArg AV.tup (ih m (q▸r2)))
  (λ m y=>y.back.symm) (λ z z i1 i2 m y=>y.back.elim λ b x=>x.elim λ k x=>x.2.2.symm▸i1 b x.1▸i2 k x.2.1▸rfl) x b y
theorem m9 (R:RepH C h φ Λ s) {a:Addr} {vs:List Value} (e:Λ a=some (.fz,lL vs)):s.heap.IsTuple a vs.toArray:=⟨_,(R.core.here _ _ _ e).1,rfl,0,rfl⟩
noncomputable def nw (f:AV→AV→Option Bool):List AV→List AV→Option Bool
 | [],[]=>some true
 |a::l,b::m=>match f a b,nw f l m with
  |some x,some y=>some (x&&y)
  |_,_=>none
 |_,_=>none
noncomputable def pw:Nat→List AO→AV→AV→Option Bool
 |0,_,_,_=>none
 |d+1,h,a,b=>match a,b with
  | .int x,.int y=>some (x==y)
  | .bool x,.bool y=>some (x==y)
  | .str x,.str y=>some (x==y)
  | .tup l,.tup m=>if l.length=m.length then nw (pw d h) l m else none
  | .ref m,.ref n=>match getL h m,getL h n with
   |some l,some r=>if l.length=r.length then nw (pw d h) l r else some false
   |_,_=>none
  |_,_=>none
theorem C9 {f:AV→AV→Option Bool} {A:Around} (hf:∀a b v u c,VR φ Λ a v→VR φ Λ b u→f a b=some c→EqAt A s v u c) {l m:List AV} {vl vm:List Value} {c:Bool} (hl:VRs φ Λ l vl):VRs φ Λ m vm→nw f l m=some c→
  vl.length=vm.length∧∃e:Nat→Bool,(∀j (h1:j<vl.length) (h2:j<vm.length),EqAt A s vl[j] vm[j] (e j))∧(List.range vl.length).all e=c:=
 hl.ind (P:=λ l vl=>∀m vm c,VRs φ Λ m vm→nw f l m=some c→vl.length=vm.length∧∃e:Nat→Bool,(∀j (h1:j<vl.length) (h2:j<vm.length),EqAt A s vl[j] vm[j] (e j))∧(List.range vl.length).all e=c)
  (λ m vm c hm h=>by
   cases m with
   |nil=>exact VRs.enil (P:=λ vm=>[].length=vm.length∧_) hm (sk h λ e=>⟨rfl,λ z=>true,λ j h1=>(Nat.not_lt_zero _ h1).elim,e⟩)
   |cons=>exact dq h)
  (λ{a v l vl} h1 r1 ih m vm c hm h=>by
   cases m with
   |nil=>exact dq h
   |cons b m=>
    refine VRs.econs hm λ u vm h2 r2=>?_
    have h:(match f a b,nw f l m with|some x,some y=>some (x&&y)|_,_=>none)=some c:=h
    cases q1:f a b with
    |none=>rw[q1] at h;exact dq h
    |some x=>
     cases q2:nw f l m with
     |none=>rw[q1,q2] at h;exact dq h
     |some y=>
      rw[q1,q2] at h
      refine dL (ih m vm y r2 q2) λ hl y=>?_;refine bM y λ e he hc=>?_;clear y
      refine⟨congrArg (·+1) hl,λ j=>match j with|0=>x|j+1=>e j,λ j g1 g2=>?_,?_⟩
      ·cases j with
       |zero=>exact hf _ _ _ _ _ h1 h2 q1
       |succ j=>exact he j (m4 g1) (m4 g2)
      ·rw[bW,List.range_succ_eq_map,List.all_cons,List.all_map]
       show(x&&(List.range _).all e)=_
       rw[hc];exact bQ h) m vm c
theorem tw {f:AV→AV→Option Bool}:∀{l:List AV} {c:Bool},(∀a∈l,∀c,f a a=some c→c=true)→nw f l l=some c→c=true
 | [],_,_,h=>by refine wH h ?_;clear h;rfl
 |a::l,c,hf,h=>by
  have h:(match f a a,nw f l l with|some x,some y=>some (x&&y)|_,_=>none)=some c:=h
  injections ID h x y q1 q2
  refine wH h ?_;clear h
  rw[hf a (.head _) x q1,tw (λ b hb=>hf b (.tail _ hb)) q2];rfl
theorem v6:∀(d:Nat) (a:AV) (c:Bool),pw d h a a=some c→c=true
 |0,_,_,e=>by exact dq e
 |d+1,a,c,e=>by
  cases a with
  |bool x=>exact(bQ e).symm.trans (dv x)
  |int x=>exact(bQ e).symm.trans (dv x)
  |str x=>exact(bQ e).symm.trans (dv x)
  |tup l=>exact tw (λ a z c=>v6 d a c) ((if_pos (t:=nw (pw d h) l l) rfl).symm.trans e)
  |ref m=>
   have e:(match getL h m,getL h m with
     |some l,some r=>if l.length=r.length then nw (pw d h) l r else some false
     |_,_=>none)=some c:=e
   injections ID e l r q1 q2
   have q:=bQ (q1.symm.trans q2)
   subst q
   exact tw (λ a z c=>v6 d a c) ((if_pos rfl).symm.trans e)
  |_=>exact dq e
theorem y8 (R:RepH C h φ Λ s):∀(d:Nat) (A:Around),A.units+d<cLine→∀(a b:AV) (v u:Value) (c:Bool),VR φ Λ a v→VR φ Λ b u→pw d h a b=some c→RcAt A s v u c∧RcNeAt A s v u (!c)∧EqAt A s v u c
 |0,_,_,_,_,_,_,_,_,_,e=>by exact dq e
 |d+1,A,hu,a,b,v,u,c,hv,hu',e=>by
  have ih:=y8 R d A.in1 (by show A.units+1+_<_;exact f!"1a1.+b+1.+c>1ab1.++1.+c<3" hu)
  have hul:A.units<cLine:=by exact f!"1a1.+c>1ab1.++1.+c<3" hu
  have elt:∀a b v u c,VR φ Λ a v→VR φ Λ b u→pw d h a b=some c→EqAt A.in1 s v u c:=λ a b v u c h1 h2 h3=>(ih a b v u c h1 h2 h3).2.2
  have fin:∀{x y:Addr},v= .ref x→u= .ref y→RcAt A s v u c→EqAt A s v u c:=by
   intro x y ev eu q
   by_cases hxy:x=y
   ·have hvu:v=u:=ev.trans (hxy▸eu.symm)
    have hab:=VR.inj R hv (hvu▸hu')
    rw[v6 (d+1) a c (show pw (d+1) _ a a=some c by rw[←hab] at e;exact e),hvu]
    exact EqAt.same _
   ·rw[ev,eu] at q⊢;exact EqAt.of_refs hxy q
  cases a with
  |int x=>cases b with
   |int y=>refine wH e ?_;refine VR.eint hv λ t=>?_;refine VR.eint hu' λ t'=>?_;exact lO (.int_int _ _ _ _) (.int_int _ _ _ _) (.int_int _ _ _ _)
   |_=>exact dq e
  |bool x=>cases b with
   |bool y=>refine wH e ?_;refine VR.ebool hv ?_;refine VR.ebool hu' ?_;exact lO (.bool_bool _ _) (.bool_bool _ _) (.bool_bool _ _)
   |_=>exact dq e
  |str x=>cases b with
   |str y=>refine wH e ?_;refine VR.estr hv λ t=>?_;refine VR.estr hu' λ t'=>?_;exact lO (.str_str _ _ _ _) (.str_str _ _ _ _) (.str_str _ _ _ _)
   |_=>exact dq e
  |ref m=>cases b with
   |ref n=>
    have e:(match getL h m,getL h n with
     |some l,some r=>if l.length=r.length then nw (pw d h) l r else some false
     |_,_=>none)=some c:=e
    refine VR.qref hv λ x h1 ev=>VR.qref hu' λ y h2 eu=>?_
    cases q1:getL h m with
    |none=>rw[q1] at e;exact dq e
    |some l=>cases q2:getL h n with
     |none=>rw[q1,q2] at e;exact dq e
     |some r=>
      rw[q1,q2] at e
      refine bM (fM R q1 h1) λ rl i1 r1=>?_
      refine bM (fM R q2 h2) λ rr i2 r2=>?_
      have k:RcAt A s (.ref x) (.ref y) c∧RcNeAt A s (.ref x) (.ref y) (!c)→RcAt A s v u c∧RcNeAt A s v u (!c)∧EqAt A s v u c:=λ q=>by rw[←ev,←eu] at q;exact lO q.1 q.2 (fin ev eu q.1)
      refine k ?_
      by_cases hll:l.length=r.length
      ·refine dL (C9 elt r1 r2 ((if_pos hll).symm.trans e)) λ hl y=>?_;refine bM y λ f hf hc=>?_;clear y
       exact hc▸⟨RcAt.lists i1 i2 hl hul hf,RcNeAt.lists i1 i2 hl hul hf⟩
      ·have hsz:(rl.toArray.size !=rr.toArray.size)=true:=bne_iff_ne.mpr λ q=>hll (r1.length.trans (Eq.trans q r2.length.symm))
       exact sk ((if_neg hll).symm.trans e) λ e=>e▸⟨RcAt.lists_lengths i1 i2 hsz hul,RcNeAt.lists_lengths i1 i2 hsz hul⟩
   |_=>exact dq e
  |tup l=>cases b with
   |tup m=>
    have e:(if l.length=m.length then nw (pw d h) l m else none)=some c:=e
    refine VR.qtup hv λ x vl h1 r1 ev=>VR.qtup hu' λ y vm h2 r2 eu=>?_
    by_cases hll:l.length=m.length
    ·refine dL (C9 elt r1 r2 ((if_pos hll).symm.trans e)) λ hl y=>?_;refine bM y λ f hf hc=>?_;clear y
     have hc':((List.range (min vl.toArray.size vm.toArray.size)).all f&&vl.toArray.size==vm.toArray.size)=c:=by
      show((List.range (min vl.length vm.length)).all f&&vl.length==vm.length)=c
      rw[←hl,Nat.min_self,dv,Bool.and_true];exact hc
     have q:RcAt A s (.ref x) (.ref y) c∧RcNeAt A s (.ref x) (.ref y) (!c):=hc'▸⟨RcAt.tuples (m9 R h1) (m9 R h2) hul hf,RcNeAt.tuples (m9 R h1) (m9 R h2) hul hf⟩
     rw[←ev,←eu] at q
     exact lO q.1 q.2 (fin ev eu q.1)
    ·exact dq ((if_neg hll).symm.trans e)
   |_=>exact dq e
  |_=>exact dq e
noncomputable def De (h:List AO) (x:AV):List AV→Option (List Bool)
 | []=>some []
 |y::l=>match pw 4 h y x,De h x l with
  |some b,some r=>some (b::r)
  |_,_=>none
theorem Dd (R:RepH C h φ Λ s) {x a:AV} {v:Value} {b:Bool} (h1:VR φ Λ a v) (q1:pw 4 h a x=some b) {e:Value→Bool}:∀{l:List AV} {vs:List Value} {r:List Bool},VRs φ Λ l vs→De h x l=some r→v∈vs→vs.map e=r→e v=b
 |_,_,_,.nil,_,hv,_=>(nomatch hv)
 |_,_,_,.cons h1' r1',q,hv,hm=>by
  have q:(match pw 4 h _ x,De h x _ with|some b,some r=>some (b::r)|_,_=>none)=some _:=q
  injections ID q b' r' p1 p2
  refine sk q λ e1=>?_;clear q;subst e1
  rw[aB] at hm
  injection hm with m1 m2
  rcases bo.mp hv with rfl|hv
  ·have:=VR.inj R h1 h1'
   clear h1';subst this
   rw[q1] at p1;refine sk p1 λ e1=>?_;clear p1 q;subst e1
   exact m1
  ·exact Dd R h1 q1 r1' p2 hv m2
theorem v7 (R:RepH C h φ Λ s) {A:Around} (hu:A.units+10<cLine) {x:AV} {u:Value} (hx:VR φ Λ x u):∀{l:List AV} {vs:List Value} {bs:List Bool},VRs φ Λ l vs→De h x l=some bs→
  ∃e:Value→Bool,(∀y∈vs,EqAt A.in1 s y u (e y))∧vs.map e=bs
 |_,_,_,.nil,h=>by refine wH h ?_;clear h;exact fV (λ Z=>false) (λ Z hy=>(nomatch hy)) rfl
 |_,_,bs,.cons (a:=a) (v:=v) (l:=l) (vs:=vs) h1 r1,h=>by
  have h:(match pw 4 _ a x,De _ x l with|some b,some r=>some (b::r)|_,_=>none)=some bs:=h
  injections ID h b r q1 q2
  refine wH h ?_;clear h
  refine bM (v7 R hu hx r1 q2) λ e he hm=>?_
  have hb:=(y8 R 4 A.in1 (by show A.units+1+_<_;exact f!"1a1.+4.+1.+b>1a11.+b<2" hu) a x v u b h1 hx q1).2.2
  by_cases hmem:v∈vs
  ·
   refine⟨e,λ y hy=>?_,?_⟩
   ·rcases bo.mp hy with rfl|hy
    ·exact he _ hmem
    ·exact he _ hy
   ·rw[aB,hm,Dd R h1 q1 r1 q2 hmem hm]
  ·refine⟨λ y=>if y=v then b else e y,λ y hy=>?_,?_⟩
   ·rcases bo.mp hy with rfl|hy
    ·simpa using hb
    ·have:y≠v:=λ q=>hmem (q▸hy)
     simpa[this] using he _ hy
   ·rw[aB,if_pos rfl]
    congr 1
    rw[←hm]
    refine bJ λ y hy=>?_
    have:y≠v:=λ q=>hmem (q▸hy)
    simp[this]
end
end
section
open PySem.SeqAt
noncomputable def EW (h:List AO) (a b:AV):Option Bool:=match b with
 | .str x=>match a with
  | .str y=>some (!(Builtin.Str.occurrences x y 0 x.length 1).isEmpty)
  |_=>none
 | .ref n=>match h[n]? with
  |some (.dict es)=>match a with
   | .str y=>some (es.any λ e=>e.1==y)
   |_=>none
  |_=>match getL h n with
   |some l=>(De h a l).map λ bs=>bs.any id
   |none=>none
 |_=>none
noncomputable def xD (σ:St):Option Bool→Option (AV×St)
 |some b=>some (.bool b,σ)
 |none=>none
noncomputable def LI:AV→AV→Option Bool
 | .none,.none=>some true
 | .int _,.none=>some false
 | .str _,.none=>some false
 |_,_=>none
noncomputable def b6 (op:CmpOp) (a b:AV):EM AV:=λ σ=>match op with
 | .Eq=>xD σ (pw 5 σ.h a b)
 | .NotEq=>xD σ ((pw 5 σ.h a b).map not)
 | .Lt=>match a,b with| .int x,.int y=>some (.bool (decide (x<y)),σ)|_,_=>none
 | .LtE=>match a,b with| .int x,.int y=>some (.bool (decide (x≤y)),σ)|_,_=>none
 | .Gt=>match a,b with| .int x,.int y=>some (.bool (decide (y<x)),σ)|_,_=>none
 | .GtE=>match a,b with| .int x,.int y=>some (.bool (decide (y≤x)),σ)|_,_=>none
 | .Is=>xD σ (LI a b)
 | .In=>xD σ (EW σ.h a b)
 | .NotIn=>xD σ ((EW σ.h a b).map not)
 |_=>none
theorem oq {σ bc:St} {x:Option Bool} {av:AV} (h:xD σ x=some (av,bc)):∃b,x=some b∧av= .bool b∧bc=σ:=by
 cases x
 ·exact dq h
 ·refine ir h ?_;clear h;exact Aj _ rfl rfl rfl
section
variable{C:Cx} {k:Nat} {stor:Nat→Stor}
theorem Gk {φ:List Addr} {Λ:bj} {y:Str} {es:List (Str×AV)} {kvs:List (Str×Value)} (hh:DRs φ Λ es kvs):(valueAt kvs y).isSome=es.any λ e=>e.1==y:=by
 induction hh with
 |nil=>rfl
 | @cons f _ _ _ _ h r ih=>
  unfold valueAt at ih⊢
  rw[List.find?_cons,List.any_cons]
  dsimp only
  by_cases hb:f=y
  ·simp[hb]
  ·have h1:(f==y)=false:=ck.mpr hb
   rw[h1,Bool.false_or,←ih]
   simp[hb]
theorem HB {φ:List Addr} {Λ:bj} {y:Str} {av:AV} {es:List (Str×AV)} {kvs:List (Str×Value)} (hh:DRs φ Λ es kvs):(es.find? λ e=>e.1==y).map (·.2)=some av→∃v,valueAt kvs y=some v∧VR φ Λ av v:=by
 induction hh with
 |nil=>exact λ h=>dq h
 | @cons f a v _ _ h r ih=>
  intro e
  unfold valueAt
  rw[List.find?_cons] at e⊢
  dsimp only at e⊢
  by_cases hb:f=y
  ·clear ih;subst hb
   simp only[dv] at e
   refine wH e ?_;clear e
   exact fV v (by simp) h
  ·have h1:(f==y)=false:=ck.mpr hb
   rw[h1] at e
   refine bM (ih e) λ v' g1 g2=>?_
   unfold valueAt at g1
   exact fV v' (by simpa[hb] using g1) g2
theorem v8 {h:List AO} {φ:List Addr} {Λ:bj} {s:Shared} (R:RepH C h φ Λ s) {n:Nat} {es:List (Str×AV)} (e:h[n]? =some (.dict es)) {a:Addr} (ha:φ[n]? =some a):
  ∃(o:Obj) (kvs:List (Str×Value)),Λ a=some (.obj n,o)∧DRs φ Λ es kvs∧s.heap.DictOf (strKind C.prog C.w) a kvs∧(a==sysModules)=false:=by
 refine bK (R.get e ha) λ o kvs h1 vv0 h3=>?_;refine uu vv0 λ es' ep h2=>?_;clear vv0
 refine⟨o,kvs,h1,h3,⟨o,es',ep,(R.core.here _ _ _ h1).1,h2⟩,?_⟩
 have:sysModules<a:=iN ⋯ (R.core.low _ _ h1)
 exact ck.mpr (ch this)
theorem rG {vs:List Value} {e:Value→Bool} {bs:List Bool} (h:vs.map e=bs):vs.toArray.any e=bs.any id:=by
 subst h;simp[List.any_map,Function.comp_def]
theorem FK {h:List AO} {a b:AV} {c:Bool} {P:Prop} (e:EW h a b=some c) (k1:∀y x,a= .str y→b= .str x→(!(Builtin.Str.occurrences x y 0 x.length 1).isEmpty)=c→P)
  (k2:∀n es y,b= .ref n→h[n]? =some (.dict es)→a= .str y→(es.any λ e=>e.1==y)=c→P) (k3:∀n l,b= .ref n→getL h n=some l→(De h a l).map (λ bs=>bs.any id)=some c→P):P:=by
 unfold EW at e
 set_option smartUnfolding false in refine Ku e (λ x e1 e=>?_) λ n e1 e=>?_
 ·injections Lz e y e2
  exact k1 y x e2 e1 (bQ e)
 ·set_option smartUnfolding false in refine LX e (λ es h1 e=>?_) λ e=>?_
  ·injections Lz e y e2
   exact k2 n es y e1 h1 e2 (bQ e)
  ·injections rp e l hl
   exact k3 n l e1 hl e
theorem J2 {σ:St} {a b:AV} {c:Bool} (h:EW σ.h a b=some c) {φ:List Addr} {Λ:bj} {s:Shared} {va vb:Value} (R:RepS C stor σ φ Λ s) (ha:VR φ Λ a va) (hb:VR φ Λ b vb) {A:Around} (hu:A.units+10<cLine)
  {E:Value→Shared→Prop} {Q:Value→Shared→Prop}:
  ((∀t,Q (.bool c) {s with toks:=t})→wpAny C.M A (compareOp .In va vb) Q E s)∧((∀t,Q (.bool (!c)) {s with toks:=t})→(∀y x,¬(a= .str y∧b= .str x))→(∀n es,¬(b= .ref n∧σ.h[n]? =some (.dict es)))→wpAny C.M A (compareOp .NotIn va vb) Q E s):=by
 refine FK h (λ y x uu0 uu1 e=>?_) (λ n es y uu0 hd uu1 e=>?_) λ n l uu0 hl e=>?_<;>clear h<;>subst uu0
 ·subst uu1 e
  refine VR.estr ha λ _=>?_;clear ha;refine VR.estr hb λ _=>?_;clear hb
  exact dF (λ q=>PySem.P.in_str (q s.toks)) (λ _ q=>(q _ _ ⟨rfl,rfl⟩).elim)
 ·subst uu1 e
  refine VR.eref hb λ ad had=>?_;clear hb
  refine⟨λ q=>?_,λ _ _ q=>(q _ _ ⟨rfl,hd⟩).elim⟩
  refine VR.estr ha λ _=>?_;clear ha
  rename_i t
  refine ft (v8 R.toRepH hd had) λ o kvs h1 h2 h3 h4=>?_
  refine wpAny_in_of (strKind_is C.prog C.w y t) h4 h3.mapOf ?_
  rw[Gk h2]
  exact q _
 ·refine VR.eref hb λ ad had=>?_;clear hb
  refine bM (cH.mp e) λ bs hbs uu0=>?_;subst uu0
  refine bM (fM R.toRepH hl had) λ rvs hL hr=>?_
  refine bM (v7 R.toRepH hu ha hr hbs) λ e he hm=>?_
  have he':∀y,y∈rvs.toArray→EqAt A.in1 s y va (e y):=λ y hy=>he y (by simpa using hy)
  exact dF (λ q=>in_listAt e hL he' (by rw[rG hm];exact q _)) (λ q _ _=>notIn_listAt e hL he' (by rw[rG hm];exact q _))
theorem xB:tD C k stor (compareOp .In) (b6 .In):=by
 intro A rm σ a b av bc h φ Λ s va vb R ha hb
 refine dU (oq h) λ c h1 uu0 uu1=>?_;subst uu0;clear h;subst uu1
 exact(J2 h1 R ha hb (by have:=rm.units;unfold cLine;exact f!"1a10.+1.+9900.>1a20b*+9800.<2" this)).1 λ t=>bi (R.tok _) (.bool _)
noncomputable def td (a b:AV):EM AV:=λ σ=>match b with
 | .ref n=>match getL σ.h n with
  |some l=>match De σ.h a l with
   |some bs=>some (.bool (!bs.any id),σ)
   |none=>none
  |none=>none
 |_=>none
theorem sf:tD C k stor (compareOp .NotIn) td:=by
 intro A rm σ a b av bc h φ Λ s va vb R ha hb
 unfold td at h
 injections Do h n e;subst e
 injections rp h l hl
 injections rp h bs hbs
 refine ir h ?_;clear h
 refine VR.eref hb λ ad had=>?_;clear hb
 refine bM (fM R.toRepH hl had) λ rvs hL hr=>?_
 refine bM (v7 R.toRepH (A:=A) (by have:=rm.units;unfold cLine;exact f!"1a10.+1.+9900.>1a20b*+9800.<2" this) ha hr hbs) λ e he hm=>?_
 exact notIn_listAt e hL (λ y hy=>he y (by simpa using hy)) (by rw[rG hm];exact bi R (.bool _))
theorem dT:tD C k stor (compareOp .Eq) (b6 .Eq):=by
 intro A rm σ a b av bc h φ Λ s va vb R ha hb
 refine dU (oq h) λ c h1 uu0 uu1=>?_;subst uu0;clear h;subst uu1
 exact(y8 R.toRepH 5 A (by have:=rm.units;unfold cLine;exact f!"1a5.+1.+9900.>1a20b*+9800.<2" this) a b va vb c ha hb h1).1 _ _ _ _ (bi R (.bool _))
theorem fj:tD C k stor (compareOp .NotEq) (b6 .NotEq):=by
 intro A rm σ a b av bc h φ Λ s va vb R ha hb
 refine dU (oq h) λ c h1 uu0 uu1=>?_;subst uu0 uu1
 refine bM (cH.mp h1) λ c' h2 uu0=>?_;clear h h1;subst uu0
 exact(y8 R.toRepH 5 A (by have:=rm.units;unfold cLine;exact f!"1a5.+1.+9900.>1a20b*+9800.<2" this) a b va vb c' ha hb h2).2.1 _ _ _ _ (bi R (.bool _))
theorem FJ {a b:AV} {c:Bool} {P:Prop} (e:LI a b=some c) (k1:a= .none→b= .none→c=true→P) (k2:∀i,a= .int i→b= .none→c=false→P) (k3:∀i,a= .str i→b= .none→c=false→P):P:=by
 cases b<;>first| (cases a<;>first|exact dq e|exact k1 rfl rfl (bQ e).symm|exact k2 _ rfl rfl (bQ e).symm|exact k3 _ rfl rfl (bQ e).symm)
theorem qs:tD C k stor (compareOp .Is) (b6 .Is):=by
 intro A rm σ a b av bc h φ Λ s va vb R ha hb
 refine dU (oq h) λ c h1 uu0 uu1=>?_;subst uu0 uu1
 refine FJ h1 (λ e1 e2 e=>?_) (λ i e1 e2 e=>?_) λ i e1 e2 e=>?_<;>clear h1 h<;>subst e1<;>subst e2<;>subst e<;>(first| (refine VR.eint ha λ z=>?_;clear ha)| (refine VR.estr ha λ z=>?_;clear ha)| (refine VR.enone ha ?_;clear ha))<;>refine VR.enone hb ?_<;>clear hb
 ·exact is_none_none (bi R (.bool _))
 ·exact is_int_none (bi R (.bool _))
 ·exact is_str_none (bi R (.bool _))
theorem cN:tD C k stor (compareOp .Lt) (b6 .Lt):=by
 intro A rm σ a b av bc h φ Λ s va vb R ha hb
 unfold b6 at h
 dsimp only at h
 injections zd h _ e;subst e
 injections zd h _ e;subst e
 refine ir h ?_;clear h;refine VR.eint ha λ z=>?_;clear ha;refine VR.eint hb λ z=>?_;clear hb;exact PyProof.Rows.lt_int (bi R (.bool _))
theorem eV:tD C k stor (compareOp .LtE) (b6 .LtE):=by
 intro A rm σ a b av bc h φ Λ s va vb R ha hb
 unfold b6 at h
 dsimp only at h
 injections zd h _ e;subst e
 injections zd h _ e;subst e
 refine ir h ?_;clear h;refine VR.eint ha λ z=>?_;clear ha;refine VR.eint hb λ z=>?_;clear hb;exact PyProof.Rows.le_int (bi R (.bool _))
theorem fU:tD C k stor (compareOp .Gt) (b6 .Gt):=by
 intro A rm σ a b av bc h φ Λ s va vb R ha hb
 unfold b6 at h
 dsimp only at h
 injections zd h _ e;subst e
 injections zd h _ e;subst e
 refine ir h ?_;clear h;refine VR.eint ha λ z=>?_;clear ha;refine VR.eint hb λ z=>?_;clear hb;exact PyProof.Rows.gt_int (bi R (.bool _))
theorem Eh:tD C k stor (compareOp .GtE) (b6 .GtE):=by
 intro A rm σ a b av bc h φ Λ s va vb R ha hb
 unfold b6 at h
 dsimp only at h
 injections zd h _ e;subst e
 injections zd h _ e;subst e
 refine ir h ?_;clear h;refine VR.eint ha λ z=>?_;clear ha;refine VR.eint hb λ z=>?_;clear hb;exact PyProof.Rows.ge_int (bi R (.bool _))
noncomputable def small (x:Int):Bool:=decide (x.natAbs<2^60)
noncomputable def IQ (op:Operator) (a b:Int):Option Int:=match op with
 | .Add=>some (a+b)
 | .Sub=>some (a-b)
 | .Mult=>if small a||small b then some (a*b) else none
 | .FloorDiv=>if b≠0∧b.natAbs<1073741824 then some (a.fdiv b) else none
 | .Mod=>if b≠0 then some (a.fmod b) else none
 | .Pow=>if 0≤b∧b≤1000000∧a.natAbs<2^64 then some (a^b.toNat) else none
 | .LShift=>if 0≤b∧b≤1000000∧a.natAbs<2^64 then some (a*2^b.toNat) else none
 | .RShift=>if 0≤b then some (a.fdiv (2^b.toNat)) else none
 | .BitAnd=>some (Builtin.bitAnd a b)
 | .BitOr=>some (Builtin.bitOr a b)
 |_=>none
noncomputable def bX (op:Operator) (a b:AV):EM AV:=λ σ=>match a,b with
 | .int x,.int y=>match IQ op x y with|some z=>some (.int z,σ)|none=>none
 |_,_=>none
theorem vq {x:Int} (h:small x=true):Builtin.Int.intBits x≤64:=by
 have h:=ay h
 exact intBits_le_64 (by omega+splitNatSub) (by omega+splitNatSub)
theorem ap (op:Operator):tD C k stor (binaryOp op) (bX op):=by
 intro A rm σ a b av bc h φ Λ s va vb R ha hb
 unfold bX at h
 injections zd h x e;subst e
 injections zd h y e;subst e
 injections rp h z q
 refine lH h λ e1 e2=>?_;clear h;subst e1 e2;refine VR.eint ha λ u=>?_;clear ha;refine VR.eint hb λ u=>?_;clear hb
 have fin:fQ C stor φ Λ (.int z) σ (.int z s.toks) {s with toks:=s.toks+1}:=bi (R.tok _) (.int _ _)
 cases op<;>first|exact dq q|skip
 ·refine sk q λ e1=>?_;clear q;subst e1;exact PyProof.Rows.add_int fin
 ·refine sk q λ e1=>?_;clear q;subst e1;exact PyProof.Rows.sub_int fin
 ·injections lY q hs
  refine sk q λ e1=>?_;clear q;subst e1
  refine PyProof.Rows.mul_int fin ?_
  rcases Bool.or_eq_true_iff.mp hs with hs|hs
  ·exact .of_left (vq hs)
  ·exact .of_right (vq hs)
 ·injections lY q hs
  refine sk q λ e1=>?_;clear q;subst e1;exact PyProof.Rows.mod_int hs fin
 ·injections lY q hs
  refine sk q λ e1=>?_;clear q;subst e1;exact PyProof.Rows.pow_int_small hs.1 hs.2.1 hs.2.2 fin
 ·injections lY q hs
  refine sk q λ e1=>?_;clear q;subst e1;exact PyProof.Rows.lshift_int_small hs.1 hs.2.1 hs.2.2 fin
 ·injections lY q hs
  refine sk q λ e1=>?_;clear q;subst e1;exact PyProof.Rows.rshift_int hs fin
 ·refine sk q λ e1=>?_;clear q;subst e1;exact PyProof.Rows.or_int fin
 ·refine sk q λ e1=>?_;clear q;subst e1;exact PyProof.Rows.and_int fin
 ·injections lY q hs
  refine sk q λ e1=>?_;clear q;subst e1;exact PyProof.Rows.floordiv_int hs.1 fin (.inl (PyProof.noPylong_small hs.2))
noncomputable def Lq:Operator→Bool
 | .Add| .Sub| .BitOr| .RShift=>true
 |_=>false
noncomputable def iL (op:Operator) (a b:AV):EM AV:=λ σ=>if Lq op then bX op a b σ else none
theorem cz (op:Operator):tD C k stor (inplaceOp op) (iL op):=by
 intro A rm σ a b av bc h φ Λ s va vb R ha hb
 unfold iL at h
 injections lY h hop
 unfold bX at h
 injections zd h x e;subst e
 injections zd h y e;subst e
 injections rp h z q
 refine lH h λ e1 e2=>?_;clear h;subst e1 e2;refine VR.eint ha λ u=>?_;clear ha;refine VR.eint hb λ u=>?_;clear hb
 have fin:fQ C stor φ Λ (.int z) σ (.int z s.toks) {s with toks:=s.toks+1}:=bi (R.tok _) (.int _ _)
 cases op<;>first| (cases hop;done)|skip
 ·refine sk q λ e1=>?_;clear q;subst e1;exact PyProof.Rows.iadd_int fin
 ·refine sk q λ e1=>?_;clear q;subst e1;exact PyProof.Rows.isub_int fin
 ·injections lY q hs
  refine sk q λ e1=>?_;clear q;subst e1;exact PyProof.Rows.irshift_int hs fin
 ·refine sk q λ e1=>?_;clear q;subst e1;exact PyProof.Rows.ior_int fin
theorem VRs.append {φ:List Addr} {Λ:bj} {l m:List AV} {vl vm:List Value} (h:VRs φ Λ l vl) (g:VRs φ Λ m vm):VRs φ Λ (l++m) (vl++vm):=h.ind (P:=λ l vl=>VRs φ Λ (l++m) (vl++vm)) g λ a z r=>.cons a r
noncomputable def pv (h:List AO) (n:Nat):Option (List AV):=match h[n]? with
 |some (.list vs)=>some vs
 |_=>none
theorem mW {h:List AO} {φ:List Addr} {Λ:bj} {s:Shared} (R:RepH C h φ Λ s) {n:Nat} {vs:List AV} (e:pv h n=some vs) {a:Addr} (ha:φ[n]? =some a):
  ∃(rvs:List Value) (j:Nat),Λ a=some (.obj n,b8 rvs j)∧IsL s.heap a rvs.toArray j∧VRs φ Λ vs rvs∧h[n]? =some (.list vs):=by
 have q:=oM e
 refine ce (R.get q ha) λ rvs k h1 h2=>?_
 exact CD rvs k h1 ((R.core.here _ _ _ h1).1) h2 q
theorem te {σ bc:St} {vs:List AV} {av:AV} (h:gH vs σ=some (av,bc)) {φ:List Addr} {Λ:bj} {s:Shared} (R:RepS C stor σ φ Λ s) {rvs:List Value} {items:Array Value} (hi:items=rvs.toArray) (hv:VRs φ Λ vs rvs):
  iJ vs.length=true∧fQ C stor φ Λ av bc (.ref s.heap.objs.size) {s with heap:=s.heap.push {cls:=.type "list",data:=.seq items}}:=by
 subst hi
 unfold gH at h
 injections lY h hf
 refine ir h ?_;clear h
 have x:ExtE φ Λ φ (Λ.set s.heap.objs.size (.obj σ.h.length,b8 rvs 0)):=.new R.core.vac _
 refine⟨hf,φ++[s.heap.objs.size],Λ.set s.heap.objs.size (.obj σ.h.length,b8 rvs 0),R.ext (R.toRepH.new rfl ⟨rvs,0,bj.set_self ..,hv.mono (x.push _).toExtV⟩) (x.push _),x.push _,.ref ?_⟩
 rw[←R.len];simp
noncomputable def AW (a b:AV):EM AV:=λ σ=>match a,b with
 | .ref m,.ref n=>match pv σ.h m,pv σ.h n with
  |some l,some r=>gH (l++r) σ
  |_,_=>none
 |_,_=>none
theorem yF:tD C k stor (binaryOp .Add) AW:=by
 intro A rm σ a b av bc h φ Λ s va vb R ha hb
 unfold AW at h
 injections Do h m e;subst e
 injections Do h n e;subst e
 injections ID h l r hl hr
 refine VR.eref ha λ x hx=>?_;clear ha
 refine VR.eref hb λ y hy=>?_;clear hb
 refine ft (mW R.toRepH hl hx) λ rl j1 z i1 r1 z=>?_
 refine ft (mW R.toRepH hr hy) λ rr j2 z i2 r2 z=>?_
 refine dL (te h R (items:=rl.toArray++rr.toArray) (by simp) (r1.append r2)) λ hf hp=>?_
 refine PySem.P.add_list i1 i2 hp ?_
 have:=js hf
 simp only[ah] at this
 rw[bn,bn,←r1.length,←r2.length];exact this
end
end
section
open PySem.SeqAt
noncomputable def shut (Λ:bj):bj:=λ a=>match Λ a with
 |some (.ns,o)=>some (.amb,o)
 |some (.cell,o)=>some (.amb,o)
 |x=>x
theorem qq {Λ:bj} {a:Addr} {w:Own} {o:Obj} (h:shut Λ a=some (w,o)):∃w',Λ a=some (w',o):=by
 unfold shut at h
 generalize Λ a=z at h⊢
 rcases z with _|⟨ph,e5⟩
 ·exact dq h
 ·cases ph<;>exact ir h ⟨_,rfl⟩
theorem r7 {Λ:bj} {a:Addr} {w:Own} {o:Obj} (h:Λ a=some (w,o)) (h1:w≠.ns) (h2:w≠.cell):shut Λ a=some (w,o):=by
 unfold shut
 rw[h]
 cases w<;>first|rfl|exact absurd rfl h1|exact absurd rfl h2
noncomputable def reopen (Λ bp:bj):bj:=λ a=>match Λ a with
 |some (.ns,o)=>some (.ns,o)
 |some (.cell,o)=>some (.cell,o)
 |_=>match bp a with
  |some (.ns,_)=>none
  |some (.cell,_)=>none
  |x=>x
theorem Ct {z:Option (Own×Obj)} {w:Own} {o:Obj} (h:(match z with|some (.ns,_)=>none|some (.cell,_)=>none|x=>x)=some (w,o)):z=some (w,o):=by
 rcases z with _|⟨ph,e5⟩
 ·exact dq h
 ·cases ph<;>first|exact dq h|exact h
theorem Aa {Λ bp:bj} {φ cF:List Addr} (x:ExtS φ (shut Λ) cF bp) {a:Addr} {w:Own} {o:Obj} (h:reopen Λ bp a=some (w,o)):∃w',bp a=some (w',o):=by
 unfold reopen at h
 have am:∀o,shut Λ a=some (.amb,o)→bp a=some (.amb,o):=x.amb a
 unfold shut at am
 revert h am
 generalize Λ a=z
 intro h am
 rcases z with _|⟨ph,e5⟩
 ·exact si _ (Ct h)
 ·cases ph<;>first|exact ir h ⟨_,am _ rfl⟩|exact si _ (Ct h)
theorem qr {Λ bp:bj} {φ cF:List Addr} (x:ExtS φ (shut Λ) cF bp) {a:Addr} {w:Own} {o:Obj} (h:bp a=some (w,o)) (h1:w≠.ns) (h2:w≠.cell) (h3:w≠.amb):reopen Λ bp a=some (w,o):=by
 unfold reopen
 have am:∀o',shut Λ a≠some (.amb,o'):=λ o' q=>lH ((x.amb a _ q).symm.trans h) λ e u=>h3 e
 unfold shut at am
 revert am
 generalize Λ a=z
 intro am
 have k:(match bp a with|some (.ns,_)=>none|some (.cell,_)=>none|x=>x)=some (w,o):=by
  rw[h]
  cases w<;>first|rfl|exact absurd rfl h1|exact absurd rfl h2
 rcases z with _|⟨ph,e5⟩
 ·exact k
 ·cases ph<;>first|exact k|exact absurd rfl (am _)
section
variable{C:Cx} {h h':List AO} {φ cF:List Addr} {Λ bp:bj} {s:Shared}
theorem RepH.shut (R:RepH C h φ Λ s):RepH C h φ (shut Λ) s:=by
 refine⟨R.core.sub λ a w o e=>qq e,R.inj,R.len,λ n ao e=>?_⟩
 refine bM (R.objs n ao e) λ a h1 h2=>?_
 refine⟨a,h1,h2.mono ⟨bG _,λ a o q=>r7 q nofun nofun⟩ λ b o q=>?_⟩
 rcases q with q|q<;>rw[q]<;>exact r7 q nofun nofun
theorem ExtV.shut:ExtV φ Λ φ (shut Λ):=⟨bG _,λ a o q=>r7 q nofun nofun⟩
theorem RepH.reopen (R:RepH C h' cF bp s) (x:ExtS φ (Mine.Internal.shut Λ) cF bp):RepH C h' cF (reopen Λ bp) s:=by
 refine⟨R.core.sub λ a w o e=>Aa x e,R.inj,R.len,λ n ao e=>?_⟩
 refine bM (R.objs n ao e) λ a h1 h2=>?_
 refine⟨a,h1,h2.mono ⟨bG _,λ a o q=>qr x q nofun nofun nofun⟩ λ b o q=>?_⟩
 rcases q with q|q<;>rw[q]<;>exact qr x q nofun nofun nofun
theorem ExtV.reopen (x:ExtS φ (Mine.Internal.shut Λ) cF bp):ExtV cF bp cF (reopen Λ bp):=⟨bG _,λ a o q=>qr x q nofun nofun nofun⟩
theorem ExtE.reopen (x:ExtS φ (Mine.Internal.shut Λ) cF bp):ExtE φ Λ cF (reopen Λ bp):=by
 refine⟨⟨⟨x.pre,λ a o q=>qr x (x.fz a o (r7 q nofun nofun)) nofun nofun nofun⟩,λ a o q=>?_⟩,λ a o q=>?_,λ a o q=>?_⟩
 ·unfold Mine.Internal.reopen
  rw[q]
  dsimp only
  rewrite[x.amb a o (r7 q nofun nofun)];rfl
 ·unfold Mine.Internal.reopen;rw[q]
 ·unfold Mine.Internal.reopen;rw[q]
end
noncomputable def rg (fd:FuncData) (L:Addr) (names:List Str):Nat→Stor:=λ i=>match names[i]? with
 |none=>.none
 |some x=>match fd.scope.names.lookup x with
  |some .cell=>match(cellsFrom (L+1) fd.scope.names []).lookup x with
   |some c=>.cell c
   |none=>.none
  |some .local=>.ns L x
  |_=>.none
theorem ue {kindOf:Str→Option NameKind} {x:Str}:∀(l:List (Str×Value)) (m:Str→Option Value),x∉l.map (·.1)→bindL kindOf l m x=m x
 | [],_,_=>rfl
 | (n,v)::r,m,h=>by
  rw[aB,bo,not_or] at h
  unfold bindL
  rw[ue r _ h.2]
  split
  ·dsimp only;rw[if_neg h.1]
  ·rfl
theorem xY {kindOf:Str→Option NameKind} {x:Str} {v:Value}:∀(l:List (Str×Value)) (m:Str→Option Value),(l.map (·.1)).Nodup→(x,v)∈l→kindOf x=some .local→bindL kindOf l m x=some v
 | (n,u)::r,m,hn,hm,hk=>by
  rw[aB,jR] at hn
  unfold bindL
  rcases bo.mp hm with e|hm
  ·cases e
   rw[ue r _ hn.1,if_pos hk];simp
  ·exact xY r _ hn.2 hm hk
theorem uf {kindOf:Str→Option NameKind} {x:Str}:∀(l:List (Str×Value)) (m:Str→Option Value),x∉l.map (·.1)→bindC kindOf l m x=m x
 | [],_,_=>rfl
 | (n,v)::r,m,h=>by
  rw[aB,bo,not_or] at h
  unfold bindC
  rw[uf r _ h.2]
  split
  ·rfl
  ·dsimp only;rw[if_neg h.1]
theorem xZ {kindOf:Str→Option NameKind} {x:Str} {v:Value}:∀(l:List (Str×Value)) (m:Str→Option Value),(l.map (·.1)).Nodup→(x,v)∈l→kindOf x=some .cell→bindC kindOf l m x=some v
 | (n,u)::r,m,hn,hm,hk=>by
  rw[aB,jR] at hn
  unfold bindC
  rcases bo.mp hm with e|hm
  ·cases e
   rw[uf r _ hn.1,if_neg (by rw[hk];decide)];simp
  ·exact xZ r _ hn.2 hm hk
theorem VRs.at {φ:List Addr} {Λ:bj} {l:List AV} {vs:List Value} {i:Nat} {a:AV} (h:VRs φ Λ l vs):l[i]? =some a→∃v,vs[i]? =some v∧VR φ Λ a v:=
 h.ind (P:=λ l vs=>∀i,l[i]? =some a→∃v,vs[i]? =some v∧VR φ Λ a v) (λ z e=>dq e) (λ{_ v _ _} h _ ih i=>match i with|0=>λ e=>⟨v,rfl,bQ e▸h⟩|i+1=>ih i) i
noncomputable def dS (n p:Nat) (F:EM AF):fR:=λ args h=>if args.length=p then match F ⟨args.map some++List.replicate (n-p) none,h⟩ with
 |some (.ret v,σ)=>some (v,σ.h)
 |some (.next,σ)=>some (.none,σ.h)
 |_=>none else none
structure FnOk (C:Cx) (f:Addr) (fd:FuncData) (body:List Stmt) (params names:List Str):Prop where
 obj:∃oc od osl,C.K.lookup f=some ⟨oc,od,.func fd,osl⟩
 code:codeIn C.K fd.code fd.qualname=true
 body:fd.body= .stmts body
 clo:fd.closure=[]
 gl:fd.globals=mainGlobals
 bl:fd.builtins=builtinsNs
 co:fd.scope.isCoroutine=false
 gen:fd.scope.isGenerator=false
 kind:fd.scope.kind= .function
 bind:∀rvs:List Value,rvs.length=params.length→bindArgs fd ⟨rvs,[]⟩=pure (params.zip rvs)
 pre:params<+:names
 nd:names.Nodup
 kinds:∀x∈names,fd.scope.names.lookup x=some .local∨(fd.scope.names.lookup x=some .cell∧((cellsFrom 0 fd.scope.names []).lookup x).isSome=true)
theorem uw {x:Str} (names:List (Str×NameKind)) (n:Nat) (h:((cellsFrom 0 names []).lookup x).isSome=true):((cellsFrom n names []).lookup x).isSome=true:=by
 have key:∀(l l':List (Str×Addr)),l.map (·.1)=l'.map (·.1)→(l.lookup x).isSome=(l'.lookup x).isSome:=by
  intro l
  induction l with
  |nil=>intro l' e;cases l' with|nil=>rfl|cons _ _=>cases e
  |cons a l ih=>
   intro l' e
   cases l' with
   |nil=>cases e
   |cons b l'=>
    obtain⟨a1,a2⟩:=a
    obtain⟨b1,b2⟩:=b
    rw[aB,aB] at e
    injection e with e1 e2
    have e1:a1=b1:=e1
    subst e1
    rw[k7,k7]
    cases hb:x==a1 with
    |true=>rfl
    |false=>exact ih l' e2
 rw[key _ _ (cellsFrom_names names n 0 [] [] rfl)];exact h
noncomputable def L9 (C:Cx) (φ:List Addr) (Λ:bj) (h':List AO) (av:AV) (f:Flow) (s':Shared):Prop:=∃v,(Except.ok (Flow.ret (match f with| .ret v=>v|_=>.none)):Result)= .ok (.ret v)∧∃cF bp,RepH C h' cF bp s'∧ExtE φ Λ cF bp∧VR cF bp av v
theorem DW {n p:Nat} {F:EM AF} {args:List AV} {h h':List AO} {av:AV} (e:dS n p F args h=some (av,h')) {P:Prop}
  (k:args.length=p→∀fl σ,F ⟨args.map some++List.replicate (n-p) none,h⟩=some (fl,σ)→(fl= .ret av∨fl= .next∧av= .none)→h'=σ.h→P):P:=by
 unfold dS at e
 injections lY e hl
 replace k:=k hl
 revert k e
 generalize F ⟨args.map some++List.replicate (n-p) none,h⟩=o
 intro e k
 rcases o with _|⟨fl,σ⟩
 ·exact dq e
 ·cases fl<;>first|exact dq e|exact lH e λ e1 e2=>k _ _ rfl (.inl (e1▸rfl)) e2.symm|exact lH e λ e1 e2=>k _ _ rfl (.inr ⟨rfl,e1⟩) e2.symm
theorem Hx {C:Cx} (H:C.Ok) {f:Addr} {fd:FuncData} {body:List Stmt} {params names:List Str} {F:EM AF} {k:Nat} (O:FnOk C f fd body params names) (extra:Nat) {A:Around} (rm:Rm A (k+1)) {args:List AV} {h h':List AO} {av:AV}
  (hG:dS (names.length+extra) params.length F args h=some (av,h')) {φ:List Addr} {Λ:bj} {s:Shared} {rvs:List Value} (R:RepH C h φ Λ s) (hargs:VRs φ Λ args rvs) {P:Prop}
  (go:∀oc od osl,s.heap.get? f=some ⟨oc,od,.func fd,osl⟩→s.heap.NoLimit→s.heap.CodeRec fd.code fd.qualname→bindArgs fd ⟨rvs,[]⟩=pure (params.zip rvs)→
   (∀x∈params.zip rvs,fd.scope.names.lookup x.1=some .local∨(fd.scope.names.lookup x.1=some .cell∧((cellsFrom (s.heap.objs.size+1) fd.scope.names []).lookup x.1).isSome=true))→
   (∀aZ,InCallC s (callEnvC fd s.heap.objs.size f).locals (bindL (callEnvC fd s.heap.objs.size f).kindOf (params.zip rvs) λ u=>none) (callEnvC fd s.heap.objs.size f).cells
     (bindC (callEnvC fd s.heap.objs.size f).kindOf (params.zip rvs) λ u=>none) aZ→
    ∃σ fl bc ar,F σ=some (fl,bc)∧RepS C (rg fd s.heap.objs.size names) σ φ ar aZ∧Rm (A.deeper (callEnvC fd s.heap.objs.size f)) k∧
     ∀f s',rc C (rg fd s.heap.objs.size names) φ ar fl bc f s'→L9 C φ Λ h' av f s')→P):P:=by
 refine DW hG λ hlen fl σ hF hfl uu0=>?_;subst uu0;clear hG
 refine J1 O.obj λ oc od osl hobj=>?_
 have hpl:rvs.length=params.length:=by rw[←hargs.length,hlen]
 have hpn:params.Nodup:=by refine gX O.pre λ t ht=>?_;have:=O.nd;rw[←ht] at this;exact(iO.mp this).1
 have hzip:(params.zip rvs).map (·.1)=params:=List.map_fst_zip (by exact V hpl.symm)
 have keepK:=H.X.keeps R.core.keep
 have hlim:s.heap.NoLimit:=H.T.nolimit.keeps R.core.keep
 have kinds':∀x∈names,fd.scope.names.lookup x=some .local∨(fd.scope.names.lookup x=some .cell∧((cellsFrom (s.heap.objs.size+1) fd.scope.names []).lookup x).isSome=true):=
  λ x hx=>(O.kinds x hx).imp id λ q=>⟨q.1,uw _ _ q.2⟩
 refine go oc od osl (keepK _ _ hobj) hlim (codeRec_of keepK O.code) (O.bind rvs hpl) ?_ (λ aZ x=>?_)
 ·intro x hx
  have:x.1∈params:=by rw[←hzip];exact jb hx
  exact kinds' x.1 (O.pre.subset this)
 ·
  refine uu x.toInCall.same λ aN tk uu0=>?_;subst uu0
  have hkeep:∀b o,s.heap.get? b=some o→aN.get? b=some o:=x.toInCall.keep
  refine bM (Dv.of x.toInCall.ns) λ oL hoL nsL=>?_
  generalize hcells:cellsFrom (s.heap.objs.size+1) fd.scope.names []=cells at kinds'
  have ecells:(callEnvC fd s.heap.objs.size f).cells=cells:=hcells
  have eloc:(callEnvC fd s.heap.objs.size f).locals=s.heap.objs.size:=rfl
  have ekind:∀y,(callEnvC fd s.heap.objs.size f).kindOf y=fd.scope.names.lookup y:=λ u=>rfl
  have xcell:=x.cell
  have xapart:=x.apart
  have xabove:=x.above
  rw[ecells] at xcell xapart xabove
  let ar:bj:=λ a=>if a=s.heap.objs.size then some (.ns,oL) else if(cells.any λ c=>decide (c.2=a))=true then(aN.get? a).map λ o=>(.cell,o) else Mine.Internal.shut Λ a
  have Kj:ar s.heap.objs.size=some (.ns,oL):=if_pos rfl
  have anyC:∀n c,(n,c)∈cells→(cells.any λ d=>decide (d.2=c))=true:=λ n c hm=>List.any_eq_true.mpr ⟨(n,c),hm,by simp⟩
  have freshC:∀c,(cells.any λ d=>decide (d.2=c))=true→s.heap.objs.size<c:=λ c hc=>by
   obtain⟨⟨n,d⟩,hm,hd⟩:=List.any_eq_true.mp hc
   have hd:d=c:=ay hd
   exact hd▸xabove n d hm
  have IE:∀a z,Λ a=some z→ar a=Mine.Internal.shut Λ a:=λ a z e=>by
   have hlt:a<s.heap.objs.size:=cB (R.core.here a z.1 z.2 e).1
   show(if a=s.heap.objs.size then _ else _)=_
   rw[if_neg (dE hlt),if_neg λ q=>Nat.lt_asymm hlt (freshC a q)]
  have yu:∀a z,Mine.Internal.shut Λ a=some z→ar a=some z:=λ a z e=>by
   refine gX (qq (w:=z.1) (o:=z.2) e) λ w' q=>?_
   rw[IE a _ q];exact e
  have bq:ExtS φ (Mine.Internal.shut Λ) φ ar:=⟨⟨bG _,λ a o e=>yu a _ e⟩,λ a o e=>yu a _ e⟩
  have HF:Core C ar {s with heap:=aN,toks:=tk}:=by
   have D:=(R.core.keeps hkeep).tok tk
   refine⟨D.keep,λ a w o e=>?_,D.two,λ a z e=>?_,D.gens,D.drawn,D.os⟩
   ·have e:(if a=s.heap.objs.size then some (Own.ns,oL) else if(cells.any λ c=>decide (c.2=a))=true then(aN.get? a).map λ o=>(Own.cell,o) else Mine.Internal.shut Λ a)=some (w,o):=e
    split at e
    ·rename_i q;refine lH e λ e1 e2=>?_;clear e;subst e1 e2 q;exact dF hoL R.core.baseNone
    ·split at e
     ·rename_i hc
      refine bM (cH.mp e) λ o' ho' q=>?_
      cases q
      refine⟨ho',?_⟩
      cases qb:C.base.get? a with
      |none=>rfl
      |some o''=>exact(Nat.lt_asymm (cB (R.core.keep _ _ qb)) (freshC a hc)).elim
     ·refine gX (qq e) λ w' q=>?_
      exact D.here a w' o q
   ·have e:(if a=s.heap.objs.size then some (Own.ns,oL) else if(cells.any λ c=>decide (c.2=a))=true then(aN.get? a).map λ o=>(Own.cell,o) else Mine.Internal.shut Λ a)=some z:=e
    have hs:cStatics<s.heap.objs.size:=by refine gX R.core.two λ Eg bT=>?_;exact cB (R.core.keep _ _ bT)
    split at e
    ·rename_i q;rw[q];exact hs
    ·split at e
     ·rename_i hc;exact iN hs (freshC a hc)
     ·refine gX (qq (w:=z.1) (o:=z.2) e) λ w' q=>?_
      exact R.core.low a _ q
  have bD:RepH C h φ ar {s with heap:=aN,toks:=tk}:=by
   refine⟨HF,R.inj,R.len,λ n ao e=>?_⟩
   refine bM (R.shut.objs n ao e) λ a h1 h2=>?_
   exact fV a h1 (h2.mono bq.toExtV λ b o q=>by rcases q with q|q<;>rw[q]<;>exact yu b _ q)
  have FY:VRs φ ar args rvs:=(hargs.mono ExtV.shut).mono bq.toExtV
  have RS:RepS C (rg fd s.heap.objs.size names) ⟨args.map some++List.replicate (names.length+extra-params.length) none,h⟩ φ ar {s with heap:=aN,toks:=tk}:=by
   refine⟨bD,λ i ov e=>?_,λ i j hi hj e ne=>?_⟩
   ·
    have e:(args.map some++List.replicate (names.length+extra-params.length) none)[i]? =some ov:=e
    have argv:∀av,ov=some av→i<params.length∧∃v,rvs[i]? =some v∧VR φ ar av v:=λ av hav=>by
     subst hav
     by_cases hi:i<args.length
     ·rw[fN (by simpa using hi),fB] at e
      refine bM (cH.mp e) λ a ha hq=>?_
      refine sk hq λ e1=>?_;clear hq;subst e1
      exact dF (by exact ag hi (V hlen)) (FY.at ha)
     ·rw[List.getElem?_append_right (by simp;exact aG hi)] at e
      have:=bU e
      have:=(List.mem_replicate.mp this).2
      exact IG this
    have mem:∀x v,names[i]? =some x→i<params.length→rvs[i]? =some v→(x,v)∈params.zip rvs:=λ x v hx hi hv=>by
     have hp:params[i]? =some x:=by
      rw[aq hi]
      have:=iW O.pre (aq hi)
      rw[hx] at this
      exact this.symm
     exact bU (i:=i) (List.getElem?_zip_eq_some.mpr ⟨hp,hv⟩)
    unfold rg
    cases hx:names[i]? with
    |none=>
     dsimp only
     cases ov with
     |none=>rfl
     |some av=>
      refine dL (argv av rfl) λ hi u=>?_
      have:=O.pre.length_le
      rw[lG] at hx;omega+splitNatSub
    |some x=>
     dsimp only
     rcases kinds' x (bU hx) with hk|⟨hk,hc⟩
     ·rw[hk]
      refine⟨oL,_,Kj,nsL,λ av hav=>?_⟩
      refine dL (argv av hav) λ hi y=>?_;refine bM y λ v hv hr=>?_;clear y
      exact fV v (xY _ _ (by rw[hzip];exact hpn) (mem x v hx hi hv) ((ekind x).trans hk)) hr
     ·rw[hk]
      dsimp only
      refine gX (eA.mp hc) λ c hc=>?_
      rw[hcells,hc]
      dsimp only
      refine bM (xcell x c hc) λ oc' hoc' hdc'=>?_
      have hne:c≠s.heap.objs.size:=ch (xabove x c (mem_of_lookup hc))
      refine⟨oc',_,?_,hdc',λ av hav=>?_⟩
      ·show(if c=s.heap.objs.size then _ else if _ then _ else _)=_
       rw[if_neg hne,if_pos (anyC x c (mem_of_lookup hc)),show aN.get? c=some oc' from hoc'];rfl
      ·refine dL (argv av hav) λ hi y=>?_;refine bM y λ v hv hr=>?_;clear y
       exact fV v (xZ _ _ (by rw[hzip];exact hpn) (mem x v hx hi hv) ((ekind x).trans hk)) hr
   ·
    unfold rg at e ne
    cases hxi:names[i]? with
    |none=>rw[hxi] at ne;exact(ne rfl).elim
    |some x=>
     cases hxj:names[j]? with
     |none=>rw[hxj] at e;rw[e] at ne;exact(ne rfl).elim
     |some y=>
      rw[hxi] at e ne
      rw[hxj] at e
      dsimp only at e ne
      have fin:x=y→i=j:=λ q=>xE O.nd hxi (q▸hxj)
      rcases kinds' x (bU hxi) with hk|⟨hk,hc⟩
      ·rcases kinds' y (bU hxj) with hk'|⟨hk',hc'⟩
       ·rw[hk,hk'] at e
        injection e with _ e
        exact fin e
       ·refine gX (eA.mp hc') λ c' hc'=>?_
        rw[hk,hk',hcells,hc'] at e
        cases e
      ·refine gX (eA.mp hc) λ c hc=>?_
       rcases kinds' y (bU hxj) with hk'|⟨hk',hc'⟩
       ·rw[hk,hk',hcells,hc] at e
        cases e
       ·refine gX (eA.mp hc') λ c' hc'=>?_
        rw[hk,hk',hcells,hc,hc'] at e
        injection e with e
        subst e
        exact fin (name_of_addr xapart (mem_of_lookup hc) (mem_of_lookup hc'))
  have rm':Rm (A.deeper (callEnvC fd s.heap.objs.size f)) k:=⟨rm.hd,by have:=rm.depth;show A.depth+1+_≤_;exact f!"1a1.+3b*+960.>1a3b1.+*+960.<2" this,by have:=rm.units;show A.units+3+_≤_;exact f!"1a3.+20b*+9800.>1a20b1.+*+9800.<2" this⟩
  refine⟨_,fl,σ,ar,hF,RS,rm',λ f s' p=>?_⟩
  refine bK p λ cD bH cX cL hf=>?_;clear p
  have gi:ExtS φ (Mine.Internal.shut Λ) cD bH:=bq.trans cL
  refine⟨_,rfl,cD,Mine.Internal.reopen Λ bH,cX.toRepH.reopen gi,ExtE.reopen gi,?_⟩
  rcases hfl with q|q
  ·subst q;cases f<;>first|exact VR.mono (ExtV.reopen gi) hf|exact hf.elim
  ·refine dL q λ e1 e2=>?_;clear q;subst e1 e2;cases f<;>first|exact .none|exact hf.elim
end
section
open PySem.SeqAt
section
variable{C:Cx} {k:Nat} {stor:Nat→Stor} {env:Env}
theorem kP {pos:Pos} {es:List Expr} {fs:List (EM AV)} (h:SndEach C k stor env es fs):(backTo pos (starEach es env)).any (·.1)=false:=by
 induction h with
 |nil=>rfl
 |cons h r hs ih=>rw[hs];show(false||_)=false;rw[Bool.false_or];exact ih
theorem nA (H:C.Ok) {f:Value} (hk:keepIn C.K f=true) {pos:Pos} {first:List Value} {es:List Expr} {fs:List (EM AV)} (hE:SndEach C k stor env es fs) {α:Type} {g:List AV→EM α} {A:Around} (rm:Rm A k) {σ bc:St} {b:α}
  (h:ae (bN fs) g σ=some (b,bc)) {φ:List Addr} {Λ:bj} {s:Shared} (R:RepS C stor σ φ Λ s) {Q:Value→Shared→Prop} {E:Value→Shared→Prop}
  (q:∀l az vs aZ aJ ar,g l az=some (b,bc)→RepS C stor az aJ ar aZ→ExtE φ Λ aJ ar→VRs aJ ar l vs→wpAny C.M A (call f (first++vs)) Q E aZ):
  wpAny C.M A (callWith pos f first (backTo pos (starEach es env)) []) Q E s:=by
 cases hE with
 |nil=>exact callWith_K0 (H.X.keeps R.core.keep) hk (by
   refine ce (br h) λ a az h1 h2=>?_
   refine lH h1 λ e1 e2=>?_;clear h1;subst e1 e2
   exact q [] σ [] s φ Λ h2 R (.refl _ _) .nil)
 |cons hd tl hs=>
  refine callWith_K (H.X.keeps R.core.keep) hk ?_ hs (kP tl)
  exact lc (iT (.cons hd tl hs)) rm h R λ l az vs aZ aJ ar aN bD bq hv=>⟨H.X.keeps bD.core.keep,q l az vs aZ aJ ar aN bD bq hv⟩
@[irreducible] noncomputable def cr (G:fR) (args:List AV):EM AV:=λ σ=>match G args σ.h with
 |some (v,h')=>some (v,{σ with h:=h'})
 |none=>none
theorem xS {f:Addr} {G:fR} (hf:b7 C k f G) {A:Around} (rm:Rm A k) {σ bc:St} {args:List AV} {av:AV} (h:cr G args σ=some (av,bc)) {φ:List Addr} {Λ:bj} {s:Shared} (R:RepS C stor σ φ Λ s)
  {vs:List Value} (hv:VRs φ Λ args vs):wpAny C.M A (call (.ref f) vs) (fQ C stor φ Λ av bc) (λ z z=>False) s:=by
 unfold cr at h
 injections Ae h v h' hG
 refine lH h λ e1 e2=>?_;clear h;subst e1 e2
 refine wpAny_call (codeAny_mono (hf A rm args σ.h av h' hG φ Λ s vs R.toRepH hv) λ r s' p=>?_)
 refine bM p λ v uu0 y=>?_;refine bK y λ cF bp R' x hr=>?_;clear y p;subst uu0
 exact c9 cF bp (R.ext R' x) x hr
theorem cQ (H:C.Ok) {x:Str} {p pos:Pos} {f:Addr} {G:fR} {es:List Expr} {fs:List (EM AV)} (n:GlobAt C env x (.ref f)) (hk:keepIn C.K (.ref f)=true) (hf:b7 C k f G) (hE:SndEach C k stor env es fs):
  cE C k stor (eval (.Call (.Name x p) es [] pos) env) (ae (bN fs) (cr G)):=by
 intro A rm σ av bc h φ Λ s R
 refine jt (kg H n R.core ?_)
 exact nA H hk hE rm h R λ l az vs aZ aJ ar aN bD bq hv=>aV (xS hf rm aN bD hv) (λ z z p=>p.trans bq) dC
theorem Cr {A:Around} (rm:Rm A (k+1)) (c:Addr) (vals:List Value):Rm (A.under (.builtin "type.__call__" ⟨.ref c::vals,[]⟩)) k:=by
 refine⟨rm.hd,?_,?_⟩
 ·have:=rm.depth;rw[depth_under_make];exact f!"1a1.+3b*+960.>1a3b1.+*+960.<2" this
 ·have:=rm.units
  show A.units+1+_≤_
  exact f!"1a1.+20b*+9800.>1a20b1.+*+9800.<2" this
@[irreducible] noncomputable def pt (c:Addr) (G:fR) (args:List AV):EM AV:=λ σ=>match G (.ref σ.h.length::args) (σ.h++[.inst c []]) with
 |some (.none,h')=>some (.ref σ.h.length,{σ with h:=h'})
 |_=>none
noncomputable def Ej (c:Addr):EM AV:=λ σ=>some (.ref σ.h.length,{σ with h:=σ.h++[.inst c []]})
theorem BE {c:Addr} {h:List AO} {φ:List Addr} {Λ:bj} {s:Shared} (R:RepH C h φ Λ s):
  ∃ar,RepH C (h++[.inst c []]) (φ++[s.heap.objs.size+1]) ar {s with heap:=(s.heap.push emptyDict).push (instObj c s.heap.objs.size)}∧ExtE φ Λ (φ++[s.heap.objs.size+1]) ar:=by
 have hL:Λ s.heap.objs.size=none:=R.core.vac
 have bD:RepH C h φ (Λ.set s.heap.objs.size (.fld h.length,emptyDict)) {s with heap:=s.heap.push emptyDict}:=R.side (.fld h.length) rfl
 have hsz:(s.heap.push emptyDict).objs.size=s.heap.objs.size+1:=Heap.size_push ..
 have bq:ExtE φ Λ φ (Λ.set s.heap.objs.size (.fld h.length,emptyDict)):=.new hL _
 have hne:s.heap.objs.size≠(s.heap.push emptyDict).objs.size:=by rw[hsz];exact dE (fY _)
 have cL:ExtE φ (Λ.set s.heap.objs.size (.fld h.length,emptyDict)) φ ((Λ.set s.heap.objs.size (.fld h.length,emptyDict)).set (s.heap.push emptyDict).objs.size (.obj h.length,instObj c s.heap.objs.size)):=.new bD.core.vac _
 have cX:=bD.new (o:=instObj c s.heap.objs.size) (ao:=.inst c []) rfl ⟨s.heap.objs.size,[],0,bj.set_self ..,(bj.set_ne _ _ hne).trans (bj.set_self ..),.nil⟩
 refine⟨_,?_,(bq.trans cL).push _⟩
 have f6:RepH C (h++[.inst c []]) (φ++[(s.heap.push emptyDict).objs.size]) _ {s with heap:=(s.heap.push emptyDict).push (instObj c s.heap.objs.size)}:=cX
 rw[hsz] at f6
 rw[hsz]
 exact f6
structure ClsOk (C:Cx) (c:Addr):Prop where
 makes:makesIn C.K c=true
 keep:keepIn C.K (.ref c)=true
@[elab_as_elim] theorem Fv {c:Addr} {G:fR} {args:List AV} {σ bc:St} {av:AV} {P:AV→St→Prop} (e:pt c G args σ=some (av,bc)) (k:∀h',G (.ref σ.h.length::args) (σ.h++[.inst c []])=some (.none,h')→P (.ref σ.h.length) {σ with h:=h'}):P av bc:=by
 unfold pt at e
 revert e k
 generalize G (.ref σ.h.length::args) (σ.h++[.inst c []])=o
 intro e k
 rcases o with _|⟨v,h'⟩
 ·exact dq e
 ·cases v<;>first|exact dq e|exact ir e (k _ rfl)
theorem yq (H:C.Ok) {x:Str} {p pos:Pos} {c fI:Addr} {G:fR} {es:List Expr} {fs:List (EM AV)} (n:GlobAt C env x (.ref c)) (hc:ClsOk C c) (hi:findIn C.K (.ref c) "__init__"=some (some (.ref fI)))
  (ht:typeIn C.K (.ref fI)=some (.type "function")) (hf:b7 C k fI G) (hE:SndEach C (k+1) stor env es fs):
  cE C (k+1) stor (eval (.Call (.Name x p) es [] pos) env) (ae (bN fs) (pt c G)):=by
 intro A rm σ av bc h φ Λ s R
 refine jt (kg H n R.core ?_)
 refine nA H hc.keep hE rm h R λ l az vs aZ aJ ar aN bD bq hv=>wpAny_call ?_
 refine Fv aN λ h' hG=>?_;clear aN
 have X:=H.X.keeps bD.core.keep
 refine bM (BE (c:=c) bD.toRepH) λ bH cX cL=>?_
 have hself:VR (aJ++[aZ.heap.objs.size+1]) bH (.ref az.h.length) (.ref (aZ.heap.objs.size+1)):=.ref (by rw[←bD.len];simp)
 obtain⟨hh,g,d,t,os⟩:=aZ
 refine make_core (makes_of X hc.makes) (looks_findIn X hi) (λ self=>bind_fn X self ht) (.inl rfl) ?_
 refine codeAny_mono (hf _ (Cr rm c vs) (.ref az.h.length::l) _ _ _ hG _ bH _ (.ref (hh.objs.size+1)::vs) cX (.cons hself (hv.mono cL.toExtV))) λ r s' q=>?_
 refine bM q λ v uu0 y=>?_;refine bK y λ cF bp R' x' hr=>?_;clear y q;subst uu0
 refine VR.enone hr ?_;clear hr
 exact dF rfl (c9 cF bp (bD.ext R' (cL.trans x')) (bq.trans (cL.trans x')) (hself.mono x'.toExtV))
theorem Fe (H:C.Ok) {x:Str} {p pos:Pos} {c:Addr} (n:GlobAt C env x (.ref c)) (hc:ClsOk C c) (hi:findIn C.K (.ref c) "__init__"=some (some (.builtin "object.__init__"))):
  cE C k stor (eval (.Call (.Name x p) [] [] pos) env) (Ej c):=by
 intro A rm σ av bc h φ Λ s R
 refine jt (kg H n R.core ?_)
 refine callWith_K0 (H.X.keeps R.core.keep) hc.keep (wpAny_call ?_)
 refine ir h ?_;clear h
 have X:=H.X.keeps R.core.keep
 refine bM (BE (c:=c) R.toRepH) λ bH cX cL=>?_
 have hself:VR (φ++[s.heap.objs.size+1]) bH (.ref σ.h.length) (.ref (s.heap.objs.size+1)):=.ref (by rw[←R.len];simp)
 obtain⟨hh,g,d,t,os⟩:=s
 have Y:=makes_of (M:=C.M) X hc.makes
 refine make_core Y (looks_findIn X hi) (λ self=>Looks.of_pure (oi_bind self)) (.inr ⟨rfl,rfl⟩) ?_
 have hx:((hh.push emptyDict).push (instObj c hh.objs.size)).get? (hh.objs.size+1)=some (instObj c hh.objs.size):=by
  have:=gL (hh.push emptyDict) (o:=instObj c hh.objs.size) rfl
  rwa [Heap.size_push] at this
 have t1:Looks C.M ((hh.push emptyDict).push (instObj c hh.objs.size)) (typeOf (.ref (hh.objs.size+1))) (.ref c):=(Looks.ld hx).andThen .now
 have t2:Looks C.M ((hh.push emptyDict).push (instObj c hh.objs.size)) (isInstance (.ref (hh.objs.size+1)) (.type "object")) true:=t1.andThen (Y.top.keeps λ b o e=>bB _ (bB _ e))
 refine codeAny_call_builtin oi_plain entry_oi (@check_slot C.M _ _ _ "object.__init__" "object" "__init__" (.ref (hh.objs.size+1)) [] [] _ oi_kind oi_split t2 (oi_args (.ref (hh.objs.size+1))) ?_)
 show wpAny _ _ (Builtin.«object.__init__» ⟨[.ref (hh.objs.size+1)],[]⟩) _ _ _
 rw[oi_run]
 exact aO (And.intro rfl ⟨_,bH,R.ext cX cL,cL,hself⟩)
theorem Gc {φ:List Addr} {Λ:bj} {name:Str} (hn:∀i,C.fname i≠name) {fs:List (Nat×AV)} {es:List DictEntry} (hh:FRs C φ Λ fs es):es.find? (·.key.isStr name)=none∧es.any (·.refKey)=false:=by
 induction hh with
 |nil=>exact dF rfl rfl
 | @cons f t _ _ _ _ h r ih=>
  refine dL ih λ h1 h2=>?_;clear ih
  have e:(Value.str (C.fname f) t).isStr name=false:=by
   show(C.fname f==name)=false
   exact ck.mpr (hn f)
  exact dF (by rw[List.find?_cons];dsimp only;rw[e];exact h1) (by rw[List.any_cons,h2];rfl)
theorem q6 {φ:List Addr} {Λ:bj} {name:Str} (hn:∀i,C.fname i≠name) {fs:List (Nat×AV)} {es:List DictEntry} (h:FRs C φ Λ fs es):W.getL name es=some none:=by
 refine dL (Gc hn h) λ h1 h2=>?_
 unfold W.getL
 rw[h1,h2];rfl
noncomputable def GN (C:Cx) (f:Nat):Prop:=∀g,C.fname g=C.fname f→g=f
theorem Hw {φ:List Addr} {Λ:bj} {f:Nat} (hf:GN C f) {fs:List (Nat×AV)} {es:List DictEntry} (hh:FRs C φ Λ fs es):
  (∀av,fs.lookup f=some av→∃e,es.find? (·.key.isStr (C.fname f))=some e∧VR φ Λ av e.val)∧(fs.lookup f=none→es.find? (·.key.isStr (C.fname f))=none)∧es.any (·.refKey)=false:=by
 induction hh with
 |nil=>exact lO (λ z h=>dq h) (λ z=>rfl) rfl
 | @cons g t a v _ _ h r ih=>
  refine iH ih λ h1 h2 h3=>?_;clear ih
  have e:(Value.str (C.fname g) t).isStr (C.fname f)=(C.fname g==C.fname f):=rfl
  refine⟨λ av hl=>?_,λ hl=>?_,by rw[List.any_cons,h3];rfl⟩
  ·rw[List.find?_cons]
   dsimp only
   rw[e]
   rw[k7] at hl
   by_cases hfg:f=g
   ·clear e;subst hfg
    simp only[dv] at hl⊢
    refine wH hl ?_;clear hl
    exact fV _ rfl h
   ·have:(C.fname g==C.fname f)=false:=ck.mpr λ q=>hfg (hf g q).symm
    rw[this]
    rw[ck.mpr hfg] at hl
    exact h1 av hl
  ·rw[List.find?_cons]
   dsimp only
   rw[e]
   rw[k7] at hl
   by_cases hfg:f=g
   ·clear e;subst hfg;simp at hl
   ·have:(C.fname g==C.fname f)=false:=ck.mpr λ q=>hfg (hf g q).symm
    rw[this]
    rw[ck.mpr hfg] at hl
    exact h2 hl
theorem Gd {φ:List Addr} {Λ:bj} {f:Nat} (hf:GN C f) {fs:List (Nat×AV)} {es:List DictEntry} (h:FRs C φ Λ fs es):
  (∀av,fs.lookup f=some av→∃v,W.getL (C.fname f) es=some (some v)∧VR φ Λ av v)∧(fs.lookup f=none→W.getL (C.fname f) es=some none):=by
 refine iH (Hw hf h) λ h1 h2 h3=>?_
 refine⟨λ av hl=>?_,λ hl=>?_⟩
 ·refine bM (h1 av hl) λ e he hr=>?_
  exact fV e.val (by unfold W.getL;rw[he]) hr
 ·unfold W.getL;rw[h2 hl,h3];rfl
noncomputable def yB (f:Nat) (av:AV):List (Nat×AV)→List (Nat×AV)
 | []=>[(f,av)]
 | (g,a)::r=>if g=f then(g,av)::r else(g,a)::yB f av r
theorem tV (f:Nat) (av:AV):∀fs:List (Nat×AV),(yB f av fs).length≤fs.length+1
 | []=>bz _
 | (g,a)::r=>by
  unfold yB
  split
  ·simp
  ·have:=tV f av r;simp only[bW];exact fX this
theorem Hv {φ:List Addr} {Λ:bj} {f:Nat} (hf:GN C f) {av:AV} {v:Value} {t:Tok} (hv:VR φ Λ av v) {fs:List (Nat×AV)} {es:List DictEntry} (hh:FRs C φ Λ fs es):
  FRs C φ Λ (yB f av fs) (putL (C.fname f) (PyData.keyHash C.w.params (C.fname f)) (.str (C.fname f) t) v es):=by
 induction hh with
 |nil=>exact .cons hv .nil
 | @cons g u _ _ _ _ h r ih=>
  have e:(Value.str (C.fname g) u).isStr (C.fname f)=(C.fname g==C.fname f):=rfl
  unfold yB putL
  dsimp only
  rw[e]
  by_cases hfg:g=f
  ·clear e ih hf;subst hfg
   simp only[dv,m0]
   exact .cons hv r
  ·have:(C.fname g==C.fname f)=false:=ck.mpr λ q=>hfg (hf g q)
   rw[this,if_neg hfg,if_neg ⋯]
   exact .cons h ih
theorem BS {φ:List Addr} {Λ:bj} {fs:List (Nat×AV)} {es:List DictEntry} (h:FRs C φ Λ fs es):es.length=fs.length:=by
 induction h with
 |nil=>rfl
 |cons _ _ ih=>exact congrArg (·+1) ih
theorem I4 {φ:List Addr} {Λ:bj} {fs:List (Nat×AV)} {es:List DictEntry} (h:FRs C φ Λ fs es):es.any (·.refKey)=false:=by
 induction h with
 |nil=>rfl
 |cons _ _ ih=>exact ih
noncomputable def BP (h:List AO) (n:Nat):Option (Addr×List (Nat×AV)):=match h[n]? with
 |some (.inst c fs)=>some (c,fs)
 |_=>none
theorem uO {h:List AO} {φ:List Addr} {Λ:bj} {s:Shared} (R:RepH C h φ Λ s) {n:Nat} {c:Addr} {fs:List (Nat×AV)} (e:BP h n=some (c,fs)) {a:Addr} (ha:φ[n]? =some a):
  ∃dx es j,Λ a=some (.obj n,instObj c dx)∧Λ dx=some (.fld n,dictOf es j)∧FRs C φ Λ fs es∧InstAt s.heap a (instObj c dx) c (some (dictOf es j))∧h[n]? =some (.inst c fs):=by
 have q:=oI e
 refine kb (R.get q ha) λ dx es j h1 h2 h3=>?_
 exact nR dx es j h1 h2 h3 ⟨(R.core.here _ _ _ h1).1,rfl,rfl,(R.core.here _ _ _ h2).1⟩ q
structure AtOk (C:Cx) (c:Addr) (name:Str):Prop where
 get:plainGet C.K c name=true
 dict:hasDictIn C.K c=true
 none:∃attr,findIn C.K (.ref c) name=some attr∧noGet C.K attr=true
structure AtCls (C:Cx) (c:Addr) (name:Str) (i:Int):Prop where
 get:plainGet C.K c name=true
 dict:hasDictIn C.K c=true
 val:∃t,findIn C.K (.ref c) name=some (some (.int i t))∧specialIn C.K (.int i t) "__get__"=some Option.none
 copied:copiedNames.contains name=false
noncomputable def cK (cls:List Addr) (cc:List (Addr×Int)) (f:Nat) (o:AV):EM AV:=λ σ=>match o with
 | .ref n=>match BP σ.h n with
  |some (c,fs)=>match fs.lookup f with
   |some v=>if cls.contains c then some (v,σ) else none
   |none=>match cc.lookup c with
    |some i=>some (.int i,σ)
    |none=>none
  |none=>none
 |_=>none
theorem VR.handed {φ:List Addr} {Λ:bj} {a:AV} {v:Value} (h:VR φ Λ a v):handedIn v=true:=by cases h<;>rfl
theorem dI {α β:Type} [BEq α] [LawfulBEq α]:∀{l:List (α×β)} {a:α} {b:β},l.lookup a=some b→(a,b)∈l
 | (x,y)::l,a,b,h=>by
  rw[k7] at h
  cases hb:a==x with
  |true=>rw[hb] at h;refine wH h ?_;clear h;rw[ez hb];exact .head _
  |false=>rw[hb] at h;exact .tail _ (dI h)
theorem Cy (H:C.Ok) {cls:List Addr} {cc:List (Addr×Int)} {f:Nat} {b:Bool} (hf:GN C f) (hc:∀c∈cls,AtOk C c (C.fname f)) (hcc:∀p∈cc,AtCls C p.1 (C.fname f) p.2):
  LM C k stor (λ v=>getAttr v (C.fname f) b) (cK cls cc f):=by
 intro A rm σ a av bc h φ Λ s va R ha
 unfold cK at h
 injections Do h n e;subst e
 refine VR.eref ha λ ad had=>?_;clear ha
 have X:=H.X.keeps R.core.keep
 injections Ae h c fs hI
 refine iE (uO R.toRepH hI had) λ dx es j h1 h2 h3 I z=>?_
 refine dL (Gd hf h3) λ g1 g2=>?_
 set_option smartUnfolding false in refine KU h (λ v hl hh=>?_) λ hl hh=>?_<;>clear h
 ·injections lY hh hcl
  refine ir hh ?_;clear hh
  have hc:=hc c (by simpa using hcl)
  refine bM hc.none λ attr ha1 ha2=>?_
  refine bM (g1 _ hl) λ rv e r=>?_
  exact get_value X I (plainGet_of hc.get).1 (findObj_own hc.dict ha1 ha2 (by rw[lookIn_dict];exact e)) r.handed (bi (R.tok _) r)
 ·injections rp hh i hl'
  refine ir hh ?_;clear hh
  have hc:=hcc _ (dI hl')
  refine bM hc.val λ t e1 e2=>?_
  exact get_value X I (plainGet_of hc.get).1 (findObj_cls hc.dict e1 e2 rfl hc.copied (by rw[lookIn_dict];exact g2 hl)) rfl (bi (R.tok _) (.int _ _))
theorem bL (H:C.Ok) {e:Expr} {pos:Pos} {fe:EM AV} {cls:List Addr} {cc:List (Addr×Int)} {f:Nat} (he:cE C k stor (eval e env) fe) (hf:GN C f) (hc:∀c∈cls,AtOk C c (C.fname f)) (hcc:∀p∈cc,AtCls C p.1 (C.fname f) p.2)
  {x:Str} (hx:x=C.fname f) (hn:autoParam (eval (.Attribute e x pos) env=(do
   let o←eval e env
   standAt pos.atName
   let r←holding [o] (getAttr o x true)
   letTemporaryGo e o r
   pure r)) aR):cE C k stor (eval (.Attribute e x pos) env) (ae fe (cK cls cc f)):=by
 subst hx
 exact Hb he (Cy (b:=true) H hf hc hcc) λ z z z z h=>Attribute_any_ h hn
structure StOk (C:Cx) (c:Addr) (name:Str):Prop where
 set:findIn C.K (.ref c) "__setattr__"=some (some (.builtin "object.__setattr__"))
 plain:plainOver C.K c=true
 taker:takerIn C.K c name=some none
 dict:(clsIn C.K c).any (·.hasDict)=true
noncomputable def ll (cls:List Addr) (f:Nat) (o v:AV):EM Unit:=λ σ=>match o with
 | .ref n=>match BP σ.h n with
  |some (c,fs)=>if cls.contains c&&decide (fs.length≤100) then some ((),{σ with h:=σ.h.set n (.inst c (yB f v fs))}) else none
  |none=>none
 |_=>none
theorem Cp (H:C.Ok) {cls:List Addr} {f:Nat} (hf:GN C f) (hc:∀c∈cls,StOk C c (C.fname f)) {A:Around} {σ bc:St} {o v:AV} (h:ll cls f o v σ=some ((),bc)) {φ:List Addr} {Λ:bj} {s:Shared} {vo vv:Value}
  (R:RepS C stor σ φ Λ s) (ho:VR φ Λ o vo) (hv:VR φ Λ v vv) {E:Value→Shared→Prop} {Q:Unit→Shared→Prop}
  (q:∀bp s',RepS C stor bc φ bp s'→ExtE φ Λ φ bp→Q () s'):wpAny C.M A (setAttr vo (C.fname f) vv) Q E s:=by
 unfold ll at h
 injections Do h n e;subst e
 refine VR.eref ho λ ad had=>?_;clear ho
 have X:=H.X.keeps R.core.keep
 injections Ae h c fs hI
 injections lY h hcl
 cases h
 refine dL (c6.mp hcl) λ hcl hlen=>?_
 have hlen:fs.length≤100:=ay hlen
 have hc:=hc c (by simpa using hcl)
 refine iE (uO R.toRepH hI had) λ dx es j h1 h2 h3 I hn=>?_
 refine set_plain X I hc.set ?_
 have bD:=R.tok (s.toks+1)
 have HS:InstAt ({s with toks:=s.toks+1}:Shared).heap ad (instObj c dx) c (some (dictOf es j)):=I
 refine osa_open (s:={s with toks:=s.toks+1}) X HS hc.plain hc.taker λ b=>?_
 refine bM (any_some hc.dict) λ cd hcd hd'=>?_
 have D:=(R.core.here _ _ _ h2).1
 refine al (aO (al (al (wpAny_loadPart (R.core.here _ _ _ h1).1 (al (Looks.here (s:={s with toks:=s.toks+1}) (looks_clsIn X hcd) ?_))))))
 rw[hd']
 refine aO (a:=some dx) (al (aO (al ?_)))
 unfold nsSet
 refine al (al (wpAny_askSetting (aO (al (wpAny_mkText (al (wpAny_loadPart D ?_)))))))
 dsimp only
 have nk:(!(es.toArray.any (·.key.isStr (C.fname f)))&&es.toArray.any (·.refKey))=false:=by
  have:es.toArray.any (·.refKey)=false:=by simpa using I4 h3
  rw[this,Bool.and_false]
 rw[aRefKeyMayBeTheName_at,nk]
 have hput:=putName_dict (C.fname f) (PyData.keyHash C.w.params (C.fname f)) (.str (C.fname f) (s.toks+1)) vv es j
 refine wpAny_updatePart D ?_
 have ho':(s.heap.update dx (Obj.putName (C.fname f) (PyData.keyHash C.w.params (C.fname f)) (.str (C.fname f) (s.toks+1)) vv)).get? dx=some (dictOf (putL (C.fname f) (PyData.keyHash C.w.params (C.fname f)) (.str (C.fname f) (s.toks+1)) vv es) (putN (C.fname f) es j)):=by
  have:=Heap.get?_update_self (Obj.putName (C.fname f) (PyData.keyHash C.w.params (C.fname f)) (.str (C.fname f) (s.toks+1)) vv) D (by rw[hput];rfl)
  rw[hput] at this;exact this
 have hfrs:=Hv (t:=s.toks+1) hf hv h3
 refine al (wpAny_lookBehind ho' ?_ ?_)
 ·refine pastItsLine_dict ?_
  rw[bn,BS hfrs]
  have:=tV f v fs
  unfold sizeLine;omega
 ·have hne:ad≠dx:=λ e=>by rw[e,h2] at h1;cases h1
  have x:ExtE φ Λ φ (Λ.set dx (.fld n,dictOf (putL (C.fname f) (PyData.keyHash C.w.params (C.fname f)) (.str (C.fname f) (s.toks+1)) vv es) (putN (C.fname f) es j))):=.at h2 ⟨nofun,nofun,nofun,nofun⟩ _
  have cX:=bD.toRepH.set (n:=n) (ao:=.inst c (yB f v fs)) had h2 (.inr rfl) (λ b hb x e=>(Heap.get?_update_other _ _ (f9 hb)).trans e) ho'
   ⟨dx,_,_,(bj.set_ne _ _ hne).trans h1,bj.set_self ..,hfrs.mono x.toExtV⟩
  exact aO (q _ _ ((bD.ext cX x).tok _) x)
end
end
section
open PySem.SeqAt
section
variable{C:Cx} {k:Nat} {stor:Nat→Stor} {env:Env}
structure MethOk (C:Cx) (k:Nat) (c:Addr) (name:Str) (G:fR):Prop where
 ga:findIn C.K (.ref c) "__getattribute__"=some (some (.builtin "object.__getattribute__"))
 gk:findIn C.K (.ref c) "__getattr__"=some none
 fn:∃f,findIn C.K (.ref c) name=some (some (.ref f))∧typeIn C.K (.ref f)=some (.type "function")∧keepIn C.K (.ref f)=true∧b7 C k f G
noncomputable def eY (D:List (Addr×fR)) (o:AV) (fs:List (EM AV)):EM AV:=λ σ=>match o with
 | .ref n=>match BP σ.h n with
  |some (c,_)=>match D.lookup c with
   |some G=>ae (bN fs) (λ l=>cr G (.ref n::l)) σ
   |none=>none
  |none=>none
 |_=>none
theorem e9 (H:C.Ok) {o:Expr} {name:Str} {apos pos:Pos} {es:List Expr} {fo:EM AV} {fs:List (EM AV)} {D:List (Addr×fR)} {pl:Sem Bool} (hn:∀i,C.fname i≠name) (hD:∀p∈D,MethOk C k p.1 name p.2)
  (ho:cE C k stor (eval o env) fo) (hE:SndEach C k stor env es fs)
  (he:autoParam (eval (.Call (.Attribute o name apos) es [] pos) env=(do
   let ov←eval o env
   standAt apos.atName
   let(f,first)←holding [ov] (getMethod ov name pl)
   callWith pos f first (backTo pos (starEach es env)) (backToKw pos (keywordEach [] env)))) aR):
  cE C k stor (eval (.Call (.Attribute o name apos) es [] pos) env) (ae fo λ v=>eY D v fs):=by
 intro A rm σ av bc h φ Λ s R
 refine methodCall_KW (pl:=pl) (cT ho rm h R λ a az va aZ aJ ar aN bD bq ha=>?_) he
 unfold eY at aN
 injections Do aN n e;subst e
 refine bM (RepH.ref ha) λ ad uu0 had=>?_;subst uu0
 injections Ae aN c fs' hI
 injections rp aN G hG
 have hM:=hD _ (dI hG)
 refine ry hM.fn λ f e1 e2 e3 e4=>?_
 refine iE (uO bD.toRepH hI had) λ dx es' j g1 g2 g3 I z=>?_
 refine method_fn (H.X.keeps bD.core.keep) I hM.ga hM.gk e1 e2 ?_ ?_
 ·show(lookIn name (dictOf es' j)).map _=_
  rw[lookIn_dict,q6 hn g3];rfl
 ·show wpAny C.M A (callWith pos (.ref f) [.ref ad] (backTo pos (starEach es env)) []) _ _ aZ
  refine nA H e3 hE rm aN bD λ l cG vs ey cD bH bT cX cL hv=>?_
  exact aV (xS e4 rm bT cX (.cons (ha.mono cL.toExtV) hv)) (λ z z p=>p.trans (bq.trans cL)) dC
noncomputable def m8 (h:List AO):AV→Option String
 | .int _=>some "int"
 | .str _=>some "str"
 | .ref n=>match h[n]? with
  |some (.list _)=>some "list"
  |some (.barr _)=>some "bytearray"
  |_=>none
 |_=>none
@[elab_as_elim] theorem E6 {h:List AO} {n:Nat} {T:String} {P:String→Prop} (e:m8 h (.ref n)=some T) (k1:∀vs,h[n]? =some (.list vs)→P "list") (k2:∀b,h[n]? =some (.barr b)→P "bytearray"):P T:=by
 have e:(match h[n]? with|some (.list _)=>some "list"|some (.barr _)=>some "bytearray"|_=>none)=some T:=e
 revert k1 k2 e
 generalize h[n]? =o
 intro k1 k2 e
 rcases o with _|_|_|_|_|_<;>first|exact dq e|exact wH e (k1 _ rfl)|exact wH e (k2 _ rfl)
theorem yf {h:List AO} {φ:List Addr} {Λ:bj} {s:Shared} (R:RepH C h φ Λ s) {o:AV} {T:String} (e:m8 h o=some T) {v:Value} (hv:VR φ Λ o v):
  s.TypeIs v T∧∀a,v= .ref a→∃ob,s.heap.get? a=some ob∧ob.dict=none:=by
 cases o<;>first|exact dq e|skip
 ·refine wH e ?_;clear e;cases hv;exact dF (typeIs_int _ _ _) nofun
 ·refine wH e ?_;clear e;cases hv;exact dF (typeIs_str _ _ _) nofun
 ·refine VR.eref hv λ ad had=>?_;clear hv
  refine E6 e (λ vs q=>?_) (λ b q=>?_)<;>clear e
  ·refine ce (R.get q had) λ rvs j h1 h2=>?_
   have g:=(R.core.here _ _ _ h1).1
   exact dF ⟨_,g,rfl⟩ (λ a ha=>by cases ha;exact fV _ g rfl)
  ·have h1:Λ ad=_:=R.get q had
   have g:=(R.core.here _ _ _ h1).1
   exact dF ⟨_,g,rfl⟩ (λ a ha=>by cases ha;exact fV _ g rfl)
noncomputable def BM (C:Cx) (k:Nat) (stor:Nat→Stor) (id:String) (B:Builtin) (g:AV→List AV→EM AV):Prop:=
 ∀A,Rm A k→∀σ o args av bc,g o args σ=some (av,bc)→∀φ Λ s vo vs,RepS C stor σ φ Λ s→VR φ Λ o vo→VRs φ Λ args vs→
  argsOk id ⟨vo::vs,[]⟩∧∃S,Meets (B ⟨vo::vs,[]⟩) S∧S A (wants (fQ C stor φ Λ av bc) (λ z z=>False)) s
noncomputable def mH (T:String) (g:AV→List AV→EM AV) (o:AV) (fs:List (EM AV)):EM AV:=λ σ=>if m8 σ.h o=some T then ae (bN fs) (λ l σ=>if m8 σ.h o=some T then g o l σ else none) σ else none
theorem nP {o:Expr} {name:Str} {apos pos:Pos} {es:List Expr} {fo:EM AV} {fs:List (EM AV)} {T id:String} {B:Builtin} {g:AV→List AV→EM AV} (slot:Slot T name id) (pa:PlainAttrs T) (hty:typeOf (.builtin id)=pure (.type "method_descriptor"))
  (entry:entryFor table id=some B) (hg:BM C k stor id B g) (ho:cE C k stor (eval o env) fo) (hE:SndEach C k stor env es fs) (hbase:autoParam (attributeBase o name env (eval o env)=eval o env) aR)
  (hfew:autoParam (((backTo pos (starEach es env)).all (λ x=> !x.1)&&(backToKw pos (keywordEach [] env)).all (λ x=>x.1.isSome)
   &&decide (es.length+([]:List Keyword).length+(if([]:List Keyword).isEmpty then 0 else 1)<30))=true) aR)
  (hline:autoParam ((apos.endLine==pos.line)=true) aR):
  cE C k stor (eval (.Call (.Attribute o name apos) es [] pos) env) (ae fo λ v=>mH T g v fs):=by
 intro A rm σ av bc h φ Λ s R
 refine wpAny_Call_method hbase hfew hline pa slot hty (cT ho rm h R λ a az va aZ aJ ar aN bD bq ha=>?_)
 unfold mH at aN
 injections lY aN hT
 refine dL (yf bD.toRepH hT ha) λ t1 t2=>?_
 refine⟨t1,t2,method_meets slot entry (kP hE) ?_⟩
 have fin:∀l cG vs ey cD bH,(if m8 cG.h a=some T then g a l cG else none)=some (av,bc)→RepS C stor cG cD bH ey→ExtE aJ ar cD bH→VRs cD bH l vs→
   ([]:List (Str×Value))=[]∧ey.TypeIs va T∧argsOk id ⟨va::vs,[]⟩∧∃S,Meets (B ⟨va::vs,[]⟩) S∧S A (wants (fQ C stor φ Λ av bc) λ u u=>False) ey:=λ l cG vs ey cD bH bT cX cL hv=>by
  injections lY bT hT'
  have ha':=ha.mono cL.toExtV
  refine dL (hg A rm cG a l av bc bT cD bH ey va vs cX ha' hv) λ b1 y=>?_;refine bM y λ S b2 b3=>?_;clear y
  refine⟨rfl,(yf cX.toRepH hT' ha').1,b1,λ A R s=>S A (wants (fQ C stor cD bH av bc) λ u u=>False) s∧∀r s',wants (fQ C stor cD bH av bc) (λ u u=>False) r s'→R r s',?_,b3,λ r s' q=>?_⟩
  ·intro prog w A' R' s' hs
   refine aV (b2 prog w A' _ s' hs.1) (λ fin s'' z=>?_) λ e s'' z=>hs.2 _ _ z
   cases fin with
   |done f=>exact hs.2 _ _ z
   |again c=>exact dF z.1 (codeAny_mono z.2 λ r s3 q=>hs.2 _ _ q)
  ·cases r with
   |error=>exact q
   |ok f=>cases f<;>first|exact q|exact fQ.trans (bq.trans cL) q
 cases hE with
 |nil=>
  refine ce (br aN) λ l cG h2 h3=>?_
  refine lH h2 λ e1 e2=>?_;clear h2;subst e1 e2
  exact PySem.evalArgs_none (fin [] az [] aZ aJ ar h3 bD (.refl _ _) .nil)
 |cons hd tl hs=>
  rw[hs]
  refine evalArgs_plain ?_
  have:=lc (iT (pos:=pos) (.cons hd tl hs)) rm aN bD (Q:=λ vs ey=>([]:List (Str×Value))=[]∧ey.TypeIs va T∧argsOk id ⟨va::vs,[]⟩∧∃S,Meets (B ⟨va::vs,[]⟩) S∧S A (wants (fQ C stor φ Λ av bc) λ u u=>False) ey) (E:=λ u u=>False) fin
  rw[hs] at this
  exact this
noncomputable def lE (o:AV) (args:List AV):EM AV:=λ σ=>match o,args with
 | .ref n,[x]=>match pv σ.h n with
  |some vs=>if iJ vs.length then some (.none,{σ with h:=σ.h.set n (.list (vs++[x]))}) else none
  |none=>none
 |_,_=>none
theorem An (rvs:List Value) (j:Nat) (f:Array Value→Array Value) (us:List Value) (h:f rvs.toArray=us.toArray):∃j',Obj.mapSeq f (b8 rvs j)=b8 us j':=by
 have e:Obj.mapSeq f (b8 rvs j)=⟨.type "list",none,.seq (f rvs.toArray) (if(f rvs.toArray).size==rvs.toArray.size then j else j+1),#[]⟩:=rfl
 rw[e,h]
 exact si _ rfl
theorem RepS.setL {σ:St} {φ:List Addr} {Λ:bj} {s:Shared} (R:RepS C stor σ φ Λ s) {n:Nat} {vs:List AV} {ad:Addr} {rvs us:List Value} {j:Nat} {f:Array Value→Array Value} (had:φ[n]? =some ad) (h1:Λ ad=some (.obj n,b8 rvs j))
  (hf:f rvs.toArray=us.toArray) (hv:VRs φ Λ vs us):∃bp,RepS C stor {σ with h:=σ.h.set n (.list vs)} φ bp {s with heap:=s.heap.update ad (Obj.mapSeq f)}∧ExtE φ Λ φ bp:=by
 refine gX (An rvs j f us hf) λ j' hj=>?_
 have x:ExtE φ Λ φ (Λ.set ad (.obj n,b8 us j')):=.at h1 ⟨nofun,nofun,nofun,nofun⟩ _
 have D:=(R.core.here _ _ _ h1).1
 have ho:(s.heap.update ad (Obj.mapSeq f)).get? ad=some (b8 us j'):=by
  have:=Heap.get?_update_self (Obj.mapSeq f) D (by rw[hj];rfl)
  rw[hj] at this;exact this
 exact fV _ (R.ext (R.toRepH.set had h1 (.inl rfl) (λ b hb x e=>(Heap.get?_update_other _ _ (f9 hb)).trans e) ho ⟨us,j',bj.set_self ..,hv.mono x.toExtV⟩) x) x
theorem EL:BM C k stor "list.append" Builtin.«list.append» lE:=by
 intro A rm σ o args av bc h φ Λ s vo vs R ho hv
 unfold lE at h
 injections Do h n e;subst e
 injections KZ h x e;subst e
 injections rp h ws hw
 injections lY h hf
 refine ir h ?_;clear h
 refine VR.eref ho λ ad had=>?_;clear ho
 refine ft (mW R.toRepH hw had) λ rvs j h1 i1 r1 _=>?_
 refine VRs.econs hv λ _ _ hx hnil=>?_;clear hv
 cases hnil
 rename_i xv
 refine⟨F.args_list_append_2 _ _,_,AutoListH.list_append_list_val_0 ad rvs.toArray j xv (by rw[bn,←r1.length];exact js hf),i1,?_⟩
 refine bM (R.setL (vs:=ws++[x]) (us:=rvs++[xv]) (f:=λ x1=>x1.push xv) had h1 (by simp) (r1.append (.cons hx .nil))) λ bp R' x'=>?_
 exact c9 φ bp R' x' .none
noncomputable def oy (o:AV) (args:List AV):EM AV:=λ σ=>match o,args with
 | .ref n,[x]=>match pv σ.h n with
  |some vs=>match De σ.h x vs with
   |some bs=>some (.int (bs.countP id:Nat),σ)
   |none=>none
  |none=>none
 |_,_=>none
theorem Gr:BM C k stor "list.count" Builtin.«list.count» oy:=by
 intro A rm σ o args av bc h φ Λ s vo vs R ho hv
 unfold oy at h
 injections Do h n e;subst e
 injections KZ h x e;subst e
 injections rp h ws hw
 injections rp h bs hbs
 refine ir h ?_;clear h
 refine VR.eref ho λ ad had=>?_;clear ho
 refine ft (mW R.toRepH hw had) λ rvs j h1 i1 r1 _=>?_
 refine VRs.econs hv λ _ _ hx hnil=>?_;clear hv
 cases hnil
 rename_i xv
 refine bM (v7 R.toRepH (A:=A) (by have:=rm.units;unfold cLine;exact f!"1a10.+1.+9900.>1a20b*+9800.<2" this) hx r1 hbs) λ e he hm=>?_
 refine⟨F.args_list_count_2 _ _,_,list_countAt ad rvs.toArray j none #[] xv e,i1,λ y hy=>he y (by simpa using hy),?_⟩
 have:rvs.toArray.toList.countP e=bs.countP id:=by clear hbs;subst hm;simp[List.countP_map,Function.comp_def]
 rw[this]
 exact bi (R.tok _) (.int _ _)
noncomputable def rB (o:AV) (args:List AV):EM AV:=λ σ=>match o,args with
 | .ref n,[x]=>match pv σ.h n with
  |some vs=>match De σ.h x vs with
   |some bs=>match bs.findIdx? id with
    |some j=>if iJ j then some (.int (j:Nat),σ) else none
    |none=>none
   |none=>none
  |none=>none
 |_,_=>none
theorem Gq:BM C k stor "list.index" Builtin.«list.index» rB:=by
 intro A rm σ o args av bc h φ Λ s vo vs R ho hv
 unfold rB at h
 injections Do h n e;subst e
 injections KZ h x e;subst e
 injections rp h ws hw
 injections rp h bs hbs
 injections rp h j hj
 injections lY h hfit
 refine ir h ?_;clear h
 refine VR.eref ho λ ad had=>?_;clear ho
 refine ft (mW R.toRepH hw had) λ rvs jj h1 i1 r1 _=>?_
 refine VRs.econs hv λ _ _ hx hnil=>?_;clear hv
 cases hnil
 rename_i xv
 refine bM (v7 R.toRepH (A:=A) (by have:=rm.units;unfold cLine;exact f!"1a10.+1.+9900.>1a20b*+9800.<2" this) hx r1 hbs) λ e he hm=>?_
 refine bM (List.findIdx?_eq_some_iff_getElem.mp hj) λ hjl g1 g2=>?_
 have hl:bs.length=rvs.length:=by rw[←hm,ac]
 have at_:∀m (h1:m<bs.length) (h2:m<rvs.length),bs[m]=e rvs[m]:=λ m h1 h2=>by clear hl g2 g1 hj hbs;subst hm;simp
 refine⟨F.args_list_index_2 _ _,_,list_indexAt ad rvs.toArray jj none #[] xv e j (by simp;exact ag hjl (V hl)) ?_ ?_ (λ m hm' hlt=>?_),i1,λ y hy=>he y (by simpa using hy),?_⟩
 ·have:=ay hfit;omega
 ·have:=at_ j hjl (by exact ag hjl (V hl));simp only[id] at g1;rw[this] at g1;simpa using g1
 ·have:=g2 m hlt
  simp only[id] at this
  rw[at_ m (by exact iN hlt hjl) (by simp at hm';with_unfolding_all exact L2 λ z=>f!"z1ba<1a1.+b<2" hm' z)] at this
  simpa using this
 ·exact bi (R.tok _) (.int _ _)
end
end
section
open PySem.SeqAt
section
variable{C:Cx} {k:Nat} {stor:Nat→Stor} {env:Env}
theorem Dv.same {o:Obj} {m m':Str→Option Value} (x:Dv o m) (y:Dv o m'):m=m':=by
 refine bK x λ es ep a1 z a3=>?_;clear x
 refine bK y λ es' ep' b1 z b3=>?_;clear y
 rw[a1] at b1;cases b1
 funext n;rw[←a3,b3]
theorem RepS.slot {σ:St} {φ:List Addr} {Λ:bj} {s:Shared} (R:RepS C stor σ φ Λ s) {i:Nat} {ov:Option AV} {av:AV} (hi:σ.l[i]? =some ov) {a:Addr} {w:Own} {o o':Obj} {h':Heap} (ha:Λ a=some (w,o)) (hw:w= .ns∨w= .cell)
  (hs:Heap.SameBut a s.heap h') (ho:h'.get? a=some o') (self:∀bp,ExtV φ Λ φ bp→bp a=some (w,o')→rb φ bp (some av) (stor i))
  (other:∀j ov',σ.l[j]? =some ov'→j≠i→∀bp,ExtV φ Λ φ bp→bp a=some (w,o')→(∀b,b≠a→bp b=Λ b)→rb φ bp ov' (stor j)):
  ∃bp,RepS C stor {σ with l:=σ.l.set i (some av)} φ bp {s with heap:=h'}∧ExtS φ Λ φ bp∧∀b,b≠a→bp b=Λ b:=by
 have kn:∀b ph e5,ph≠w→Λ b=some (ph,e5)→Λ.set a (w,o') b=some (ph,e5):=λ b ph e5 hn e=>(bj.set_ne _ _ λ q=>by rw[q,ha] at e;refine lH e λ e1 e2=>?_;clear e other self hw ha;subst e1 e2;exact hn rfl).trans e
 have xv:ExtV φ Λ φ (Λ.set a (w,o')):=⟨bG _,λ b e5 e=>kn b _ _ (by rcases hw with rfl|rfl<;>nofun) e⟩
 have R':RepH C σ.h φ (Λ.set a (w,o')) {s with heap:=h'}:=by
  refine⟨R.core.change ha (λ b hb x e=>(hs.2 b hb).trans e) ho,R.inj,R.len,λ n ao e=>?_⟩
  refine bM (R.objs n ao e) λ b h1 h2=>?_
  exact fV b h1 (h2.mono xv λ b e5 q=>by rcases q with q|q<;>rw[q]<;>exact kn b _ _ (by rcases hw with rfl|rfl<;>nofun) q)
 refine⟨_,⟨R',λ j ov' e=>?_,λ i' j h1 h2=>R.uniq i' j (by simpa using h1) (by simpa using h2)⟩,⟨xv,λ b e5 e=>kn b _ _ (by rcases hw with rfl|rfl<;>nofun) e⟩,λ b hb=>bj.set_ne _ _ hb⟩
 by_cases hj:j=i
 ·clear other;subst hj
  have hl:j<σ.l.length:=(aA.mp hi).1
  have e:(σ.l.set j (some av))[j]? =some ov':=e
  rw[jx hl] at e
  refine sk e λ e1=>?_;clear e;clear e;subst e1
  exact self _ xv (bj.set_self ..)
 ·have e:(σ.l.set i (some av))[j]? =some ov':=e
  rw[cZ (f9 hj)] at e
  exact other j ov' e hj _ xv (bj.set_self ..) λ b hb=>bj.set_ne _ _ hb
noncomputable def wr (i:Nat) (av:AV):EM Unit:=λ σ=>match σ.l[i]? with
 |some _=>some ((),{σ with l:=σ.l.set i (some av)})
 |none=>none
noncomputable def Stor.at:Stor→Addr→Prop
 | .ns a _,b=>a=b
 | .cell a,b=>a=b
 | .none,_=>False
theorem nK {A:Around} {x:Str} {i:Nat} (n:NameAt env stor x i) {σ bc:St} {av:AV} {v:Value} (h:wr i av σ=some ((),bc)) {φ:List Addr} {Λ:bj} {s:Shared} (R:RepS C stor σ φ Λ s) (hv:VR φ Λ av v)
  {Q:Unit→Shared→Prop} {E:Value→Shared→Prop} (q:∀bp s',RepS C stor bc φ bp s'→ExtS φ Λ φ bp→(∀b,¬(stor i).at b→bp b=Λ b)→Q () s'):wpAny C.M A (storeName env x v) Q E s:=by
 unfold wr at h
 injections rp h ov hi
 cases h
 have hlt:i<σ.l.length:=(aA.mp hi).1
 have S:=R.slots i _ hi
 rcases n.at_ with⟨hk,hs⟩|⟨hk,c,hc,hs⟩
 ·rw[hs] at S
  refine bK S λ o m h1 h2 h3=>?_;clear S
  refine wpAny_storeName_local hk (h2.ns (R.core.here _ _ _ h1).1) (λ h' hns hsb=>?_) (by rw[n.kind];rfl)
  refine bM (Dv.of hns) λ o' ho' no'=>?_
  refine dU (R.slot hi (av:=av) h1 (.inl rfl) hsb ho' (λ bp xv e=>by rw[hs];exact c9 o' _ e no' (λ av' q=>by refine wH q ?_;clear q;exact fV v (if_pos rfl) (hv.mono xv)))
   (λ j ov' hj hne bp xv e eo=>by
    have T:=R.slots j _ hj
    have hlj:j<σ.l.length:=(aA.mp hj).1
    cases hsj:stor j with
    |none=>rw[hsj] at T;exact T
    |cell b=>
     rw[hsj] at T
     refine bK T λ ob vb t1 t2 t3=>?_;clear T
     have hb:b≠env.locals:=λ q=>by rw[q,h1] at t1;cases t1
     exact c9 ob vb ((eo b hb).trans t1) t2 (λ av' q=>let⟨v',e1,e2⟩:=t3 av' q;⟨v',e1,e2.mono xv⟩)
    |ns b y=>
     rw[hsj] at T
     refine bK T λ ob mb t1 t2 t3=>?_;clear T
     by_cases hb:b=env.locals
     ·subst hb
      rw[h1] at t1;cases t1
      have hm:=h2.same t2
      clear t2;subst hm
      have hy:y≠x:=λ q=>hne (R.uniq i j hlt hlj (by rw[hs,hsj,q]) (by rw[hs];nofun)).symm
      exact c9 o' _ e no' (λ av' q=>let⟨v',e1,e2⟩:=t3 av' q;⟨v',(if_neg hy).trans e1,e2.mono xv⟩)
     ·exact c9 ob mb ((eo b hb).trans t1) t2 (λ av' q=>let⟨v',e1,e2⟩:=t3 av' q;⟨v',e1,e2.mono xv⟩))) λ bp R' x' oo=>?_
  exact q bp _ (R'.tok _) x' λ b hb=>oo b λ e=>hb (by rw[hs,e];exact rfl)
 ·rw[hs] at S
  refine bK S λ o JO h1 h2 h3=>?_;clear S
  have hcell:s.heap.IsCell c JO:=⟨o,(R.core.here _ _ _ h1).1,h2⟩
  have fin:∀h',h'.IsCell c (some v)→Heap.SameBut c s.heap h'→Q () {s with heap:=h'}:=λ h' hcl hsb=>by
   refine bM hcl λ o' ho' hd'=>?_;clear hcl
   refine dU (R.slot hi (av:=av) h1 (.inr rfl) hsb ho' (λ bp xv e=>by rw[hs];exact c9 o' _ e hd' (λ av' q=>by refine wH q ?_;clear q;exact fV v rfl (hv.mono xv)))
    (λ j ov' hj hne bp xv e eo=>by
     have T:=R.slots j _ hj
     have hlj:j<σ.l.length:=(aA.mp hj).1
     cases hsj:stor j with
     |none=>rw[hsj] at T;exact T
     |cell b=>
      rw[hsj] at T
      refine bK T λ ob vb t1 t2 t3=>?_;clear T
      have hb:b≠c:=λ q=>hne (R.uniq i j hlt hlj (by rw[hs,hsj,q]) (by rw[hs];nofun)).symm
      exact c9 ob vb ((eo b hb).trans t1) t2 (λ av' q=>let⟨v',e1,e2⟩:=t3 av' q;⟨v',e1,e2.mono xv⟩)
     |ns b y=>
      rw[hsj] at T
      refine bK T λ ob mb t1 t2 t3=>?_;clear T
      have hb:b≠c:=λ q=>by rw[q,h1] at t1;cases t1
      exact c9 ob mb ((eo b hb).trans t1) t2 (λ av' q=>let⟨v',e1,e2⟩:=t3 av' q;⟨v',e1,e2.mono xv⟩))) λ bp R' x' oo=>?_
   exact q bp _ R' x' λ b hb=>oo b λ e=>hb (by rw[hs,e];exact rfl)
  rcases hk with hk|hk
  ·exact wpAny_storeName_cell n.kind hk hc hcell fin
  ·unfold storeName
   rw[n.kind,hk]
   exact al (wpAny_cellOf hc (wpAny_cellSet hcell fin))
theorem rQ {A:Around} {x:Str} {i:Nat} (n:NameAt env stor x i) {σ bc:St} {av:AV} {v:Value} (h:wr i av σ=some ((),bc)) {φ:List Addr} {Λ:bj} {s:Shared} (R:RepS C stor σ φ Λ s) (hv:VR φ Λ av v)
  {Q:Unit→Shared→Prop} {E:Value→Shared→Prop} (q:∀bp s',RepS C stor bc φ bp s'→ExtS φ Λ φ bp→Q () s'):wpAny C.M A (storeName env x v) Q E s:=
 nK n h R hv λ bp s' R' x z=>q bp s' R' x
noncomputable def wl (C:Cx) (k:Nat) (stor:Nat→Stor) (is:List Nat) (t:Value→Sem Unit) (f:AV→EM Unit):Prop:=
 ∀A,Rm A k→∀σ av bc,f av σ=some ((),bc)→∀φ Λ s v,RepS C stor σ φ Λ s→VR φ Λ av v→wpAny C.M A (t v) (λ z s'=>∃bp,RepS C stor bc φ bp s'∧ExtS φ Λ φ bp∧∀b,(∀i∈is,¬(stor i).at b)→bp b=Λ b) (λ z z=>False) s
theorem dr {x:Str} {i:Nat} (n:NameAt env stor x i) (pos:Pos):wl C k stor [i] (assign (.Name x pos) env) (wr i):=by
 intro A rm σ av bc h φ Λ s v R hv
 exact mZ (nK n h R hv λ bp s' R' x o=>⟨bp,R',x,λ b hb=>o b (hb i (List.mem_singleton_self i))⟩)
theorem cV {x:Str} {i:Nat} (n:NameAt env stor x i) (pos:Pos):ES C k stor (assign (.Name x pos) env) (wr i):=by
 intro A rm σ av bc h φ Λ s v R hv
 exact mZ (rQ n h R hv λ bp s' R' x=>⟨φ,bp,R',x⟩)
noncomputable def wq:List Nat→List AV→EM Unit
 | [],[]=>ret ()
 |i::is,a::l=>ae (wr i a) λ z=>wq is l
 |_,_=>λ z=>none
inductive NamesAt (env:Env) (stor:Nat→Stor):List Expr→List Nat→Prop
 |nil:NamesAt env stor [] []
 |cons {x:Str} {pos:Pos} {i:Nat} {es:List Expr} {is:List Nat} (n:NameAt env stor x i) (r:NamesAt env stor es is):NamesAt env stor (.Name x pos::es) (i::is)
theorem NamesAt.length {es:List Expr} {is:List Nat} (h:NamesAt env stor es is):(assignEach es env).length=is.length:=by
 induction h with
 |nil=>rfl
 |cons n r ih=>show(_::assignEach _ env).length=_;rw[bW,ih];rfl
theorem NamesAt.plain {es:List Expr} {is:List Nat} (h:NamesAt env stor es is):(assignEach es env).findIdx? (·.1)=none:=by
 induction h with
 |nil=>rfl
 |cons n r ih=>show(_::assignEach _ env).findIdx? _=_;rw[List.findIdx?_cons,ih];rfl
theorem Cd {A:Around} {es:List Expr} {is:List Nat} (h:NamesAt env stor es is):∀{l:List AV} {vs:List Value} {σ bc:St},wq is l σ=some ((),bc)→∀{φ:List Addr} {Λ:bj} {s:Shared},RepS C stor σ φ Λ s→VRs φ Λ l vs→
  ∀{Q:Unit→Shared→Prop} {E:Value→Shared→Prop},(∀bp s',RepS C stor bc φ bp s'→ExtS φ Λ φ bp→(∀b,(∀i∈is,¬(stor i).at b)→bp b=Λ b)→Q () s')→wpAny C.M A (assignInOrder ((assignEach es env).map (·.2)) vs) Q E s:=by
 induction h with
 |nil=>
  intro l vs σ bc h φ Λ s R hv Q E q
  cases hv with
  |nil=>cases h;exact aO (q Λ s R (.refl _ _) λ z z=>rfl)
  |cons=>exact dq h
 |cons n r ih=>
  intro l vs σ bc h φ Λ s R hv Q E q
  cases hv with
  |nil=>exact dq h
  |cons hv hr=>
   refine ce (br h) λ z az h1 h2=>?_
   refine al (cA (mZ (nK n h1 R hv λ ar aZ bD bq e5=>?_)))
   exact ih h2 bD (hr.mono bq.toExtV) λ bp s' R' x' o'=>q bp s' R' (bq.trans x') λ b hb=>(o' b λ i hi=>hb i (bI _ hi)).trans (e5 b (hb _ bA))
theorem Iu {A:Around} {es:List Expr} {is:List Nat} (h:NamesAt env stor es is) {l:List AV} {vs:List Value} {σ bc:St} (hw:wq is l σ=some ((),bc)) {φ:List Addr} {Λ:bj} {s:Shared} (R:RepS C stor σ φ Λ s) (hv:VRs φ Λ l vs)
  {Q:Unit→Shared→Prop} {E:Value→Shared→Prop} (q:∀bp s',RepS C stor bc φ bp s'→ExtS φ Λ φ bp→Q () s'):wpAny C.M A (assignInOrder ((assignEach es env).map (·.2)) vs) Q E s:=
 Cd h hw R hv λ bp s' R' x z=>q bp s' R' x
noncomputable def pi (is:List Nat) (v:AV):EM Unit:=match v with
 | .tup l=>if l.length=is.length then wq is l else λ z=>none
 |_=>λ z=>none
theorem zI {is:List Nat} {v:AV} {σ:St} {r:Unit×St} (e:pi is v σ=some r) {P:Prop} (k:∀l,v= .tup l→l.length=is.length→wq is l σ=some r→P):P:=by
 cases v<;>first|exact dq e|skip
 by_cases q:l.length=is.length
 ·exact k l rfl q ((congrFun (if_pos (t:=wq is l) (e:=λ z=>none) q).symm σ).trans e)
 ·exact dq ((congrFun (if_neg (t:=wq is l) (e:=λ z=>none) q).symm σ).trans e)
theorem j5 {es:List Expr} {is:List Nat} (n:NamesAt env stor es is) (j:Nat) (pos:Pos):ES C k stor (assign (.Tuple es j pos) env) (pi is):=by
 intro A rm σ av bc h φ Λ s v R hv
 refine zI h λ l e hl hh=>?_;clear h;subst e
 refine VR.etup hv λ _ _ hL hr=>?_;clear hv
 rename_i a vs
 have hlen:=hr.length
 refine wpAny_assign_Tuple rm.hd (m9 R.toRepH hL) (by rw[n.length,bn,←hlen,hl]) n.plain λ h' he=>?_
 have hk:∀b o,s.heap.get? b=some o→h'.get? b=some o:=λ b o e=>he b o (dE (cB e)) e
 exact Iu n hh (R.keeps hk) hr λ bp s' R' x=>⟨φ,bp,R',x⟩
theorem kZ {es:List Expr} {is:List Nat} (n:NamesAt env stor es is) (j:Nat) (pos:Pos):wl C k stor is (assign (.Tuple es j pos) env) (pi is):=by
 intro A rm σ av bc h φ Λ s v R hv
 refine zI h λ l e hl hh=>?_;clear h;subst e
 refine VR.etup hv λ _ _ hL hr=>?_;clear hv
 rename_i a vs
 have hlen:=hr.length
 refine wpAny_assign_Tuple rm.hd (m9 R.toRepH hL) (by rw[n.length,bn,←hlen,hl]) n.plain λ h' he=>?_
 have hk:∀b o,s.heap.get? b=some o→h'.get? b=some o:=λ b o e=>he b o (dE (cB e)) e
 exact Cd n hh (R.keeps hk) hr λ bp s' R' x o=>⟨bp,R',x,o⟩
noncomputable def bm (f g:EM AF):EM AF:=ae f λ fl=>match fl with
 | .next=>g
 |fl=>ret fl
theorem cP:mI C k stor (execs [] env) (Mine.Internal.ret .next):=by
 intro A rm σ fl bc h φ Λ s R
 refine O.any0 ?_
 refine ir h ?_;clear h
 exact wpAny_execs_nil ⟨φ,Λ,R,.refl _ _,trivial⟩
theorem aQ {e:Expr} {pos:Pos} {f:EM AV} (hf:cE C k stor (eval e env) f):mI C k stor (exec (.Return (some e) pos) env) (ae f λ v=>Mine.Internal.ret (.ret v)):=by
 intro A rm σ fl bc h φ Λ s R
 refine O.any0 ?_
 refine wpAny_Return_some (cT hf rm h R λ a az v aZ aJ ar aN bD bq hv=>?_)
 refine ir aN ?_;clear aN
 exact c9 aJ ar bD bq.toExtS hv
theorem uo {pos:Pos}:mI C k stor (exec (.Return none pos) env) (Mine.Internal.ret (.ret .none)):=by
 intro A rm σ fl bc h φ Λ s R
 refine O.any0 ?_
 refine ir h ?_;clear h
 exact wpAny_Return_none ⟨φ,Λ,R,.refl _ _,.none⟩
theorem yt {pos:Pos}:mI C k stor (exec (.Continue pos) env) (Mine.Internal.ret .cont):=by
 intro A rm σ fl bc h φ Λ s R
 refine O.any0 ?_
 refine ir h ?_;clear h
 show wpAny C.M A (do standAt pos;pure Flow.cont) _ _ s
 exact al (bP (aO ⟨φ,Λ,R,.refl _ _,trivial⟩))
noncomputable def sE:EM AF:=λ z=>none
theorem li (t:Sem Flow):mI C k stor t sE:=by intro A rm σ fl bc h;exact dq h
noncomputable def er (v:AV):EM AF:=match v with
 | .none=>Mine.Internal.ret .next
 |_=>λ z=>none
theorem aS {x:Str} {px pos:Pos} {e:Expr} {i:Nat} {f:EM AV} (n:NameAt env stor x i) (hf:cE C k stor (eval e env) f) (hs:autoParam (swapsWith e (some (.Name x px)) pos.line env=pure false) aR):
  mI C k stor (exec (.Assign [.Name x px] e pos) env) (ae f λ v=>ae (wr i v) λ z=>Mine.Internal.ret .next):=by
 intro A rm σ fl bc h φ Λ s R
 refine O.any0 ?_
 refine wpAny_Assign_Name (cT hf rm h R λ a az v aZ aJ ar aN bD bq hv=>?_) hs
 refine ce (br aN) λ z cG h2 h3=>?_
 refine ir h3 ?_;clear h3
 exact rQ n h2 bD hv λ bp s' R' x'=>⟨aJ,bp,R',bq.toExtS.trans x',trivial⟩
inductive StrsAt (env:Env) (stor:Nat→Stor):List Str→List Nat→Prop
 |nil:StrsAt env stor [] []
 |cons {x:Str} {i:Nat} {es:List Str} {is:List Nat} (n:NameAt env stor x i) (r:StrsAt env stor es is):StrsAt env stor (x::es) (i::is)
theorem Gs {A:Around} {xs:List Str} {is:List Nat} (h:StrsAt env stor xs is):∀{l:List AV} {vs:List Value} {σ bc:St},wq is l σ=some ((),bc)→∀{φ:List Addr} {Λ:bj} {s:Shared},RepS C stor σ φ Λ s→VRs φ Λ l vs→
  ∀{Q:Unit→Shared→Prop} {E:Value→Shared→Prop},(∀bp s',RepS C stor bc φ bp s'→ExtS φ Λ φ bp→Q () s')→wpAny C.M A (assignInOrder (xs.map λ n=>bindName env n) vs) Q E s:=by
 induction h with
 |nil=>
  intro l vs σ bc h φ Λ s R hv Q E q
  cases hv with
  |nil=>cases h;exact aO (q Λ s R (.refl _ _))
  |cons=>exact dq h
 |cons n r ih=>
  intro l vs σ bc h φ Λ s R hv Q E q
  cases hv with
  |nil=>exact dq h
  |cons hv hr=>
   refine ce (br h) λ z az h1 h2=>?_
   refine al (cA (wpAny_bindName (rQ n h1 R hv λ ar aZ bD bq=>?_)))
   exact ih h2 bD (hr.mono bq.toExtV) λ bp s' R' x'=>q bp s' R' (bq.trans x')
theorem VRs.reverse {φ:List Addr} {Λ:bj} {l:List AV} {vs:List Value} (h:VRs φ Λ l vs):VRs φ Λ l.reverse vs.reverse:=h.ind (P:=λ l vs=>VRs φ Λ l.reverse vs.reverse) .nil λ a z r=>by rw[List.reverse_cons,List.reverse_cons];exact r.append (.cons a .nil)
noncomputable def yd (is:List Nat) (v:AV):EM Unit:=match v with
 | .tup l=>if l.length=is.length then wq is l.reverse else λ z=>none
 |_=>λ z=>none
theorem EZ {is:List Nat} {v:AV} {σ:St} {r:Unit×St} (e:yd is v σ=some r) {P:Prop} (k:∀l,v= .tup l→l.length=is.length→wq is l.reverse σ=some r→P):P:=by
 cases v<;>first|exact dq e|skip
 by_cases q:l.length=is.length
 ·exact k l rfl q ((congrFun (if_pos (t:=wq is l.reverse) (e:=λ z=>none) q).symm σ).trans e)
 ·exact dq ((congrFun (if_neg (t:=wq is l.reverse) (e:=λ z=>none) q).symm σ).trans e)
theorem ed {x:Str} {px pos:Pos} {op:Operator} {e:Expr} {i:Nat} {f:EM AV} {g:AV→AV→EM AV} (n:NameAt env stor x i) (hf:cE C k stor (eval e env) f) (hg:tD C k stor (inplaceOp op) g):
  mI C k stor (exec (.AugAssign (.Name x px) op e pos) env) (ae (rd i) λ o=>ae f λ v=>ae (g o v) λ r=>ae (wr i r) λ z=>Mine.Internal.ret .next):=by
 intro A rm σ fl bc h φ Λ s R
 refine O.any0 ?_
 refine ce (br h) λ o az h1 h2=>?_
 refine dL (Cu h1) λ h1 uu0=>?_;subst uu0
 refine wpAny_AugAssign_Name (CK n h1 R λ vo hvo=>cT hf rm h2 R λ v cG vv ey cD bH bT cX cL hv=>?_)
 refine ce (br bT) λ r dM h3 h4=>?_
 refine aV (hg A rm cG o v r dM h3 cD bH ey vo vv cX (hvo.mono cL.toExtV) hv) (λ vr io p=>?_) dC
 refine bK p λ iS gw f6 gi hr=>?_;clear p
 refine ce (br h4) λ z mv h5 h6=>?_
 refine ir h6 ?_;clear h6
 exact rQ n h5 f6 hr λ bp s' R' x'=>⟨iS,bp,R',(cL.trans gi).toExtS.trans x',trivial⟩
theorem j7 (H:C.Ok) {o e:Expr} {x:Str} {px pos:Pos} {op:Operator} {cls cls':List Addr} {f:Nat} {fe fo:EM AV} {g:AV→AV→EM AV} (hx:x=C.fname f) (hf:GN C f) (hc:∀c∈cls,AtOk C c (C.fname f)) (hc':∀c∈cls',StOk C c (C.fname f))
  (he:cE C k stor (eval e env) fe) (ho:cE C k stor (eval o env) fo) (hg:tD C k stor (inplaceOp op) g):
  mI C k stor (exec (.AugAssign (.Attribute o x px) op e pos) env) (ae fo λ o=>ae (cK cls [] f o) λ a=>ae fe λ v=>ae (g a v) λ r=>ae (ll cls' f o r) λ z=>Mine.Internal.ret .next):=by
 subst hx
 intro A rm σ fl bc h φ Λ s R
 refine O.any0 ?_
 rw[arm_exec_AugAssign_2]
 refine al (bP (al (cT ho rm h R λ ov az vo aZ aJ ar aN bD bq hvo=>?_)))
 refine al (cA (al (bP (al ?_))))
 refine ce (br aN) λ a cG h2 h3=>?_
 refine aV (Cy (b:=true) H hf hc (λ p hp=>by cases hp) A rm az ov a cG h2 aJ ar aZ vo bD hvo) (λ va ey p=>?_) dC
 refine bK p λ cD bH cX cL ha=>?_;clear p
 refine al (cA (cT he rm h3 cX λ v dM vv io iS gw iQ f6 gi hv=>al (bP (wpAny_operate' ?_))))
 refine ce (br iQ) λ r mv h4 h5=>?_
 refine aV (hg A rm dM a v r mv h4 iS gw io va vv f6 (ha.mono gi.toExtV) hv) (λ vr yg p=>?_) dC
 refine bK p λ zB uV oA ul hr=>?_;clear p
 refine ce (br h5) λ z oK h6 h7=>?_
 refine ir h7 ?_;clear h7
 refine al (bP (al (cA ?_)))
 exact Cp H hf hc' h6 oA (((hvo.mono cL.toExtV).mono gi.toExtV).mono ul.toExtV) hr λ bp s' R' x'=>al (wpAny_release' (aO ⟨zB,bp,R',(bq.trans (cL.trans (gi.trans (ul.trans x')))).toExtS,trivial⟩))
end
end
section
open PySem.SeqAt PySem.Builtin.Str PySem.Builtin
section
variable{C:Cx} {k:Nat} {stor:Nat→Stor} {env:Env}
noncomputable def at_ (vs:List AV) (i:Int):Option AV:=if 0≤i∧i<2^62 then vs[i.toNat]? else none
noncomputable def BC (σ:St):Option AV→Option (AV×St)
 |some a=>some (a,σ)
 |none=>none
theorem tc {σ bc:St} {x:Option AV} {a:AV} (h:BC σ x=some (a,bc)):x=some a∧bc=σ:=by
 cases x with
 |none=>exact dq h
 |some b=>refine ir h ?_;clear h;exact dF rfl rfl
noncomputable def de (o i:AV):EM AV:=λ σ=>match o with
 | .tup l=>match i with
  | .int j=>BC σ (at_ l j)
  |_=>none
 | .ref n=>match i with
  | .int j=>match getL σ.h n with
   |some l=>BC σ (at_ l j)
   |none=>none
  | .str y=>match σ.h[n]? with
   |some (.dict es)=>BC σ ((es.find? λ e=>e.1==y).map (·.2))
   |_=>none
  |_=>none
 |_=>none
theorem ED {σ bc:St} {o i av:AV} {P:Prop} (e:de o i σ=some (av,bc)) (k1:∀l j,o= .tup l→i= .int j→BC σ (at_ l j)=some (av,bc)→P)
  (k2:∀n j l,o= .ref n→i= .int j→getL σ.h n=some l→BC σ (at_ l j)=some (av,bc)→P)
  (k3:∀n y es,o= .ref n→i= .str y→σ.h[n]? =some (.dict es)→BC σ ((es.find? λ e=>e.1==y).map (·.2))=some (av,bc)→P):P:=by
 unfold de at e
 set_option smartUnfolding false in refine Ly e (λ l e1 e=>?_) λ n e1 e=>?_
 ·injections zd e j e2
  exact k1 l j e1 e2 e
 ·set_option smartUnfolding false in refine Kv e (λ j e2 e=>?_) λ y e2 e=>?_
  ·injections rp e l hl
   exact k2 n j l e1 e2 hl e
  ·injections oD e es hd
   exact k3 n y es e1 e2 hd e
theorem C6 {σ bc:St} {o i av:AV} (h:de o i σ=some (av,bc)) {φ:List Addr} {Λ:bj} {s:Shared} {vo vi:Value} (R:RepS C stor σ φ Λ s) (ho:VR φ Λ o vo) (hi:VR φ Λ i vi):
  ∃T id,s.TypeIs vo T∧typeLookup (.type T) "__getitem__"=pure (some (.builtin id))∧∀A,wpAny C.M A (getItem vo vi) (fQ C stor φ Λ av bc) (λ _ _=>False) s:=by
 refine ED h (λ l j e1 e2 hh=>?_) (λ n j l e1 e2 hl hh=>?_) λ n y es e1 e2 hd hh=>?_<;>clear h<;>subst e1<;>subst e2
 ·refine dL (tc hh) λ h1 uu0=>?_;subst uu0;clear hh
  unfold at_ at h1
  injections lY h1 hj
  refine VR.etup ho λ _ _ hL hr=>?_;clear ho
  refine VR.eint hi λ _=>?_;clear hi
  rename_i a vs t
  refine bM (hr.at h1) λ v e r=>?_
  have hT:=m9 R.toRepH hL
  have hlen:j.toNat<vs.length:=(aA.mp e).1
  refine⟨"tuple",_,let⟨o,g1,g2,_⟩:=hT;⟨o,g1,g2⟩,slot_tuple_getitem.lookup,λ A=>getItem_tuple (j:=j.toNat) hT (by omega) (by omega) ?_ (by simpa using e) (bi R r)⟩
  unfold seqIndex?
  simp only[bn]
  have h0:¬j<0:=by exact Int.not_lt_of_ge hj.1
  simp only[h0,m3]
  simp
  omega
 ·refine dL (tc hh) λ h1 uu0=>?_;subst uu0;clear hh
  unfold at_ at h1
  injections lY h1 hj
  refine VR.eref ho λ ad had=>?_;clear ho
  refine VR.eint hi λ _=>?_;clear hi
  refine bM (fM R.toRepH hl had) λ rvs hL hr=>?_
  refine bM (hr.at h1) λ v e r=>?_
  exact c9 ("list") _ hL.typeIs slot_list_getitem.lookup (λ A=>wpAny_getItem_list hL (by exact hj.1) (by omega) (by simpa using e) (bi R r))
 ·refine dL (tc hh) λ h1 uu0=>?_;subst uu0;clear hh
  refine VR.eref ho λ ad had=>?_;clear ho
  refine VR.estr hi λ _=>?_;clear hi
  rename_i t
  refine ft (v8 R.toRepH hd had) λ o kvs g1 g2 g3 _=>?_
  refine bM (HB g2 h1) λ v e r=>?_
  exact c9 ("dict") _ g3.typeIs slot_dict_getitem.lookup (λ A=>wpAny_getItem_of (strKind_is C.prog C.w y t) g3.mapOf e (bi (R.tok _) r))
theorem BD:tD C k stor getItem de:=by
 intro A rm σ a b av bc h φ Λ s va vb R ha hb
 refine bK (C6 h R ha hb) λ T id z z q=>?_
 exact q A
theorem bR {value slice:Expr} {pos:Pos} {fv fi:EM AV} (hv:cE C k stor (eval value env) fv) (hi:cE C k stor (eval slice env) fi) (hs:autoParam (∀o i,subscripted slice false o i=operate [o,i] (getItem o i)) aI):
  cE C k stor (eval (.Subscript value slice pos) env) (ae fv λ o=>ae fi λ i=>de o i):=by
 intro A rm σ av bc h φ Λ s R
 refine Subscript_ (cT hv rm h R λ o az vo aZ aJ ar aN bD bq ho=>cT hi rm aN bD λ i cG vi ey cD bH bT cX cL hi=>?_)
 refine bK (C6 bT cX (ho.mono cL.toExtV) hi) λ T id t1 t2 q=>?_
 exact tail_any t1 t2 (aV (q A) (λ z z p=>p.trans (bq.trans cL)) dC) (hs _ _)
noncomputable def zx (n:Nat):Option Int→Nat
 |some b=>b.toNat
 |none=>n
noncomputable def cut {α:Type} (l:List α) (lo hi:Option Int):List α:=(l.drop (lo.getD 0).toNat).take (zx l.length hi-(lo.getD 0).toNat)
noncomputable def jM (lo hi:Option Int):Bool:=(match lo with|some a=>decide (0≤a)|none=>true)&&(match hi with|some b=>decide (0≤b)|none=>true)
theorem Dj (a b:Nat):((min a b:Nat):Int)=min (a:Int) b:=by
 by_cases q:a≤b
 ·rw[Nat.min_eq_left q,Int.min_eq_left (eL.mpr q)]
 ·rw[Nat.min_eq_right (Nat.le_of_not_le q),Int.min_eq_right (eL.mpr (Nat.le_of_not_le q))]
theorem vt (lo hi:Option Int) (n:Nat) (h:jM lo hi=true):
  sliceBounds lo hi none n=(((min (lo.getD 0).toNat n:Nat):Int),((min (zx n hi) n:Nat):Int),1):=by
 unfold jM at h
 refine dL (c6.mp h) λ h1 h2=>?_
 unfold sliceBounds
 simp only[Option.getD_none]
 refine Prod.ext ?_ (Prod.ext ?_ rfl)
 ·cases lo with
  |none=>simp
  |some a=>
   have h1:(0:Int)≤a:=ay h1
   simp only[Option.getD_some]
   obtain⟨m,rfl⟩:=Int.eq_ofNat_of_zero_le h1
   have:¬(m:Int)<0:=Int.not_lt.mpr h1
   simp only[this,m3,show((1:Int)>0)=True from by simp,m0]
   rewrite[aX,Dj]
   exact Int.max_eq_right (Int.le_min.mpr ⟨h1,bh n⟩)
 ·cases hi with
  |none=>simp[zx]
  |some b=>
   have h2:(0:Int)≤b:=ay h2
   obtain⟨m,rfl⟩:=Int.eq_ofNat_of_zero_le h2
   have:¬(m:Int)<0:=Int.not_lt.mpr h2
   simp only[zx,this,m3,show((1:Int)>0)=True from by simp,m0]
   rewrite[aX,Dj]
   exact Int.max_eq_right (Int.le_min.mpr ⟨h2,bh n⟩)
theorem wy {α:Type} (l:List α) (a b:Nat):(l.drop (min a l.length)).take (min b l.length-min a l.length)=(l.drop a).take (b-a):=by
 apply List.ext_getElem?
 intro i
 simp only[List.getElem?_take,List.getElem?_drop]
 by_cases h:a≤l.length
 ·rw[Nat.min_eq_left h]
  by_cases hb:b≤l.length
  ·rw[Nat.min_eq_left hb]
  ·rw[Nat.min_eq_right (by exact bF (fZ hb))]
   by_cases hi:i<l.length-a
   ·rw[if_pos hi,if_pos (by with_unfolding_all exact f!"1c1.+e>1df+a<1bef+<1c1.+d<1a1.+b<6" (fZ hb) hi (sA _ _) (V (ai (f!"1ab>1ab<2" h))))]
   ·rw[if_neg hi]
    split
    ·rw[ca (by with_unfolding_all exact f!"1dcb+>1dac+<1ab<4" (aG hi) (sA _ _))]
    ·rfl
 ·rw[Nat.min_eq_right (a:=a) (by exact bF (fZ h))]
  rw[if_neg (by omega+splitNatSub)]
  split
  ·rw[ca (by with_unfolding_all exact f!"1abc+>1a1.+b<3" (fZ h))]
  ·rfl
theorem wG (rvs:List Value) (lo hi:Option Int) (h:jM lo hi=true):slicePick rvs.toArray lo hi none=(cut rvs lo hi).toArray:=by
 unfold slicePick
 rw[show rvs.toArray.size=rvs.length from bn ..,vt lo hi rvs.length h]
 dsimp only
 rw[sliceRange_one]
 unfold cut
 rw[←wy]
 have key:∀(a m:Nat),a+m≤rvs.length→((List.range m).map (a+·)).filterMap (rvs.toArray[·]?)=(rvs.drop a).take m:=by
  intro a m
  induction m with
  |zero=>intro _;simp
  |succ m ih=>
   intro hm
   rw[jQ,bk,List.filterMap_append,ih (by with_unfolding_all exact f!"1ab+c>1ab1.++c<3" hm),ku]
   congr 1
   have e:rvs.toArray[a+m]? =some rvs[a+m]:=by simp
   simp only[aB,List.map_nil,List.filterMap_cons,List.filterMap_nil,e,List.getElem?_drop]
   rw[aq (by with_unfolding_all exact f!"1ab+1.+c>1ab1.++c<3" hm)]
   rfl
 rw[key _ _ (by omega+splitNatSub)]
theorem VRs.drop {φ:List Addr} {Λ:bj} (n:Nat) {l:List AV} {vs:List Value} (h:VRs φ Λ l vs):VRs φ Λ (l.drop n) (vs.drop n):=h.ind (P:=λ l vs=>∀n,VRs φ Λ (l.drop n) (vs.drop n)) (λ n=>by rw[List.drop_nil,List.drop_nil];exact .nil) (λ a r ih n=>match n with|0=>.cons a r|n+1=>ih n) n
theorem VRs.take {φ:List Addr} {Λ:bj} (n:Nat) {l:List AV} {vs:List Value} (h:VRs φ Λ l vs):VRs φ Λ (l.take n) (vs.take n):=h.ind (P:=λ l vs=>∀n,VRs φ Λ (l.take n) (vs.take n)) (λ n=>by rw[List.take_nil,List.take_nil];exact .nil) (λ a r ih n=>match n with|0=>.nil|n+1=>.cons a (ih n)) n
theorem VRs.cut {φ:List Addr} {Λ:bj} {l:List AV} {vs:List Value} (h:VRs φ Λ l vs) (lo hi:Option Int):VRs φ Λ (Mine.Internal.cut l lo hi) (Mine.Internal.cut vs lo hi):=by
 unfold Mine.Internal.cut
 rw[h.length]
 exact(h.drop _).take _
noncomputable def part:AV→Option (Option Int)
 | .none=>some none
 | .int i=>some (some i)
 |_=>none
theorem Cv {φ:List Addr} {Λ:bj} {a:AV} {v:Value} (h:VR φ Λ a v) {x:Option Int} (e:part a=some x):IsPart v x∧∃p:Option (Int×Tok),v=partValue p∧p.map (·.1)=x:=by
 cases h<;>first|exact dq e|skip
 ·refine wH e ?_;clear e;exact dF .none (fV none rfl rfl)
 ·refine wH e ?_;clear e;exact dF (.int _ _) (fV (some (i,t)) rfl rfl)
noncomputable def i3:Option (EM AV)→EM AV
 |some f=>f
 |none=>ret .none
inductive SndP (C:Cx) (k:Nat) (stor:Nat→Stor) (env:Env):Option Expr→Option (EM AV)→Prop
 |none:SndP C k stor env none none
 |some {e:Expr} {f:EM AV} (h:cE C k stor (eval e env) f):SndP C k stor env (some e) (some f)
theorem SndP.snd {o:Option Expr} {f:Option (EM AV)} (h:SndP C k stor env o f):cE C k stor (evalPart o env) (i3 f):=by
 cases h with
 |none=>
  intro A rm σ av bc h φ Λ s R
  refine ir h ?_;clear h
  exact aO (bi R .none)
 |some h=>exact h
noncomputable def wZ (x:Str) (lo hi:Option Int):Str:=⟨(cut x.cps.toList lo hi).toArray⟩
noncomputable def nq (x:Str) (lo hi:Option Int):Bool:=jM lo hi&&decide ((lo.getD 0).toNat≤zx x.length hi)&&decide (zx x.length hi≤x.length)
noncomputable def wu (o lo hi:AV):EM AV:=λ σ=>match part lo,part hi with
 |some a,some b=>match o with
  | .ref n=>match getL σ.h n with
   |some l=>if jM a b&&iJ l.length then gH (cut l a b) σ else none
   |none=>none
  | .str x=>if nq x a b&&iJ x.length then some (.str (wZ x a b),σ) else none
  |_=>none
 |_,_=>none
theorem I7 {α:Type} (l:List α) (lo hi:Option Int):(cut l lo hi).length≤l.length:=by
 unfold cut
 rw[jg,List.length_drop];omega
theorem pG (x:Str) (a b:Option Int) (h0:jM a b=true):strSliceIndices a b 1 x.length=strSliceIndices (some ((a.getD 0).toNat:Int)) (some ((zx x.length b:Nat):Int)) 1 x.length:=by
 unfold jM at h0
 cases a with
 |none=>cases b with
  |none=>unfold strSliceIndices;simp[zx];congr 1<;>omega
  |some b=>
   have h2:0≤b:=by simpa using h0
   simp only[zx,Option.getD_none,lJ h2]
   unfold strSliceIndices;simp;congr 1
 |some a=>cases b with
  |none=>
   have h1:0≤a:=by simpa using h0
   simp only[zx,Option.getD_some,lJ h1]
   unfold strSliceIndices;simp;congr 1;omega
  |some b=>
   have h1:0≤a∧0≤b:=by simpa using h0
   simp only[zx,Option.getD_some,lJ h1.1,lJ h1.2]
theorem zQ (x:Str) (a b:Option Int) (h:nq x a b=true):(strSliceIndices a b 1 x.length).filterMap (x.cps[·]?)=cut x.cps.toList a b:=by
 unfold nq at h
 simp only[cy,kt] at h
 refine dL h λ vv0 h2=>?_;clear h;refine dL vv0 λ h0 h1=>?_;clear vv0
 have hl:x.cps.toList.length=x.length:=rfl
 have hsz:x.cps.size=x.length:=rfl
 rw[pG x a b h0,StrLaws.sliced_plain x h1 h2]
 rfl
theorem jI {value:Expr} {lower upper:Option Expr} {p pos:Pos} {fv:EM AV} {fl fu:Option (EM AV)} (hv:cE C k stor (eval value env) fv) (hl:SndP C k stor env lower fl) (hu:SndP C k stor env upper fu)
  (ht:autoParam (∀o r,letTemporaryGo value o r=pure ()) aI):
  cE C k stor (eval (.Subscript value (.Slice lower upper none p) pos) env) (ae fv λ o=>ae (i3 fl) λ a=>ae (i3 fu) λ b=>wu o a b):=by
 intro A rm σ av bc h φ Λ s R
 have main:∀o az vo aZ aJ ar,VR aJ ar o vo→RepS C stor az aJ ar aZ→ExtE φ Λ aJ ar→ae (i3 fl) (λ a=>ae (i3 fu) λ b=>wu o a b) az=some (av,bc)→∀(Q:Value→Value→Shared→Prop),(∀vl vu io a b iS gw dM,IsPart vl a→IsPart vu b→(∃p,vl=partValue p∧p.map (·.1)=a)→(∃p,vu=partValue p∧p.map (·.1)=b)→VR iS gw o vo→RepS C stor dM iS gw io→ExtE φ Λ iS gw→
    (∀n,o= .ref n→∃l,getL dM.h n=some l∧jM a b=true∧iJ l.length=true∧gH (cut l a b) dM=some (av,bc))→
    (∀x,o= .str x→nq x a b=true∧iJ x.length=true∧av= .str (wZ x a b)∧bc=dM)→((∃n,o= .ref n)∨∃x,o= .str x)→Q vl vu io)→
   wpAny C.M A (evalPart lower env) (λ vl ey=>wpAny C.M A (evalPart upper env) (λ vu io=>Q vl vu io) (λ _ _=>False) ey) (λ _ _=>False) aZ:=by
  intro o az vo aZ aJ ar ho bD bq aN Q q
  refine cT hl.snd rm aN bD λ a cG va ey cD bH bT cX cL ha=>cT hu.snd rm bT cX λ b dM vb io iS gw iQ f6 gi hb=>?_
  unfold wu at iQ
  injections ID iQ a' b' ea eb
  refine dL (Cv (ha.mono gi.toExtV) ea) λ p1 p2=>?_
  refine dL (Cv hb eb) λ p3 p4=>?_
  refine q va vb io a' b' iS gw dM p1 p3 p2 p4 ((ho.mono cL.toExtV).mono gi.toExtV) f6 (bq.trans (cL.trans gi)) (λ n hn=>?_) (λ x hx=>?_) ?_
  ·clear bT q aN ho;subst hn
   dsimp only at iQ
   injections rp iQ l hl
   injections lY iQ hok
   refine dL (c6.mp hok) λ k1 k2=>?_
   exact th l hl k1 k2 iQ
  ·clear bT q aN ho;subst hx
   dsimp only at iQ
   injections lY iQ hok
   refine dL (c6.mp hok) λ k1 k2=>?_
   refine ir iQ ?_;clear iQ
   exact lv k1 k2 rfl rfl
  ·cases o<;>first|exact .inl ⟨_,rfl⟩|exact .inr ⟨_,rfl⟩|exact dq iQ
 refine ce (br h) λ o az h1 h2=>?_
 have hfst:=hv A rm σ o az h1 φ Λ s R
 cases o with
 |ref n=>
  refine wpAny_Subscript_list_slice (aV hfst (λ vo aZ p=>?_) dC) ht
  refine bK p λ aJ ar bD bq ho=>?_;clear p
  refine main (.ref n) az vo aZ aJ ar ho bD bq h2 _ λ vl vu io a b iS gw dM p1 p2 p3 p4 ho' f6 gi c1 _ _=>?_
  refine ry (c1 n rfl) λ l hl k1 k2 k3=>?_
  refine VR.eref ho' λ ad had=>?_;clear ho'
  refine bM (fM f6.toRepH hl had) λ rvs hL hr=>?_
  refine⟨ad,rvs.toArray,a,b,rfl,hL,by rw[bn,←hr.length];exact js k2,p1,p2,?_⟩
  have oA:=f6.keeps (h':=io.heap.push {cls:=.type "slice",data:=.fields #[vl,vu,.none]}) λ b o e=>bB _ e
  refine dL (te k3 oA (wG rvs a b k1) (hr.cut a b)) λ _ hp=>?_
  have hsz:(io.heap.push {cls:=.type "slice",data:=.fields #[vl,vu,.none]}).objs.size=io.heap.objs.size+1:=Heap.size_push ..
  rw[hsz] at hp
  exact hp.trans gi
 |str x=>
  refine wpAny_Subscript_str_slice (aV hfst (λ vo aZ p=>?_) dC) ht
  refine bK p λ aJ ar bD bq ho=>?_;clear p
  refine main (.str x) az vo aZ aJ ar ho bD bq h2 _ λ vl vu io a b iS gw dM p1 p2 p3 p4 ho' f6 gi _ c2 _=>?_
  refine oW (c2 x rfl) λ k1 k2 uu0 uu1=>?_;clear h2 main h;subst uu0;clear c2;subst uu1
  refine bM p3 λ pl uu0 ea=>?_;clear p3 p1;subst uu0
  refine bM p4 λ pu uu0 eb=>?_;clear p4 p2;subst uu0
  refine VR.estr ho' λ _=>?_;clear ho'
  rename_i t
  refine⟨x,t,pl,pu,rfl,rfl,rfl,?_⟩
  have oA:=f6.keeps (h':=io.heap.push {cls:=.type "slice",data:=.fields #[partValue pl,partValue pu,.none]}) λ b o e=>bB _ e
  have hpick:(slicePicked x pl pu none).filterMap (x.cps[·]?)=cut x.cps.toList a b:=by
   unfold slicePicked
   rw[ea,eb]
   exact zQ x a b k1
  unfold sliceMade
  split
  ·rename_i hfull
   have hfull:(slicePicked x pl pu none).length=x.length:=by simpa using hfull
   have hidx:slicePicked x pl pu none=strSliceIndices a b 1 x.length:=by unfold slicePicked;rw[ea,eb];rfl
   have e:wZ x a b=x:=by
    unfold nq at k1
    simp only[cy,kt] at k1
    refine dL k1 λ vv0 h2=>?_;clear k1;refine dL vv0 λ h0 h1=>?_;clear vv0
    rw[hidx,pG x a b h0,StrLaws.strSliceIndices_plain h1 h2,ac,bE] at hfull
    unfold wZ cut
    have hl:x.cps.toList.length=x.length:=rfl
    rw[hl,show(a.getD 0).toNat=0 from by with_unfolding_all exact jm (f!"1d0.>1bd+c<1ca<1ab<4" (V hfull.symm) h2 (V (ai (f!"1ab>1ab<2" h1)))) f!"1 0.a>1",show zx x.length b=x.length from by with_unfolding_all exact jm (f!"1ab>1ab<2" h2)<|f!"1ac>1bc<1ab<3" (V hfull.symm) (eS _ _),List.drop_zero,Nat.sub_zero,←hl,List.take_length]
   rw[e]
   exact fQ.trans gi (bi oA (.str _ _))
  ·rw[hpick]
   refine⟨?_,fQ.trans gi (bi (oA.tok _) (.str _ _))⟩
   have:=I7 x.cps.toList a b
   have:=js k2
   show(cut x.cps.toList a b).toArray.size≤_
   rw[bn]
   have hl:x.cps.toList.length=x.length:=rfl
   omega
 |_=>
  exfalso
  refine ce (br h2) λ a cG _ h3=>?_
  refine ce (br h3) λ b dM _ h4=>?_
  unfold wu at h4
  injections ID h4 x y e1 e2
  exact dq h4
theorem zV {A:Around} {E:Value→Shared→Prop} {s:Shared} {l:Addr} {items:Array Value} {n:Nat} {i:Int} {t:Tok} {v:Value} {Q:Unit→Shared→Prop} (hl:IsL s.heap l items n) (h0:0≤i) (hfit:i<2^63) (hn:i<items.size)
  (q:Q () {s with heap:=s.heap.update l (Obj.mapSeq (·.setIfInBounds i.toNat v))}):wpAny C.M A (setItem (.ref l) (.int i t) v) Q E s:=by
 have hL:s.heap.IsList l items:=⟨_,hl,rfl,n,rfl⟩
 unfold setItem
 refine cA (al (wpAny_sequenceKey hL.typeIs ⋯ ?_))
 refine al (wpAny_callSpecial?_slot (name:=Str.ofString "__setitem__") hL.typeIs slot_list_setitem (wpAny_call_entry slot_list_setitem hL.typeIs entry_list_setitem ?_ (args_list_setitem _ _ _)))
 show wpAny _ _ (Builtin.List.listSubscript? (.int i t)>>=_) _ _ s
 refine al (wpAny_listSubscript_int (fitsIndex_of h0 hfit) ?_)
 clear hfit
 refine gX (Int.eq_ofNat_of_zero_le h0) λ j uu0=>?_;clear h0;subst uu0
 have hj:j<items.size:=by omega
 show wpAny _ _ ((seqItemAt l j>>=λ r=>pure (r.map (j,·)))>>=_) _ _ s
 refine al (al (wpAny_seqItemAt hl rfl (aO ?_)))
 rw[Array.getElem?_eq_getElem hj]
 show wpAny _ _ (setSeqItemAt l j v>>=_) _ _ s
 refine al (wpAny_setSeqItemAt hl rfl ?_)
 first
  |exact al (aO (aO ⟨.none,rfl,aO q⟩))
  |exact aO ⟨.none,rfl,aO q⟩
theorem VRs.set {φ:List Addr} {Λ:bj} {a:AV} {v:Value} (hv:VR φ Λ a v) {l:List AV} {vs:List Value} (i:Nat) (h:VRs φ Λ l vs):VRs φ Λ (l.set i a) (vs.set i v):=h.ind (P:=λ l vs=>∀i,VRs φ Λ (l.set i a) (vs.set i v)) (λ z=>.nil) (λ h r ih i=>match i with|0=>.cons hv r|i+1=>.cons h (ih i)) i
noncomputable def ur (y:Str) (a:AV) (es:List (Str×AV)):List (Str×AV):=if es.any (λ e=>e.1==y) then es.map (λ e=>if e.1=y then(e.1,a) else e) else es++[(y,a)]
theorem HC {φ:List Addr} {Λ:bj} {y:Str} {es:List (Str×AV)} {kvs:List (Str×Value)} (h:DRs φ Λ es kvs):(kvs.any λ kv=>kv.1=y)=es.any λ e=>e.1==y:=by
 induction h with
 |nil=>rfl
 |cons _ _ ih=>rw[List.any_cons,List.any_cons,ih];rfl
theorem DRs.append {φ:List Addr} {Λ:bj} {l m:List (Str×AV)} {vl vm:List (Str×Value)} (h:DRs φ Λ l vl) (g:DRs φ Λ m vm):DRs φ Λ (l++m) (vl++vm):=by
 induction h with
 |nil=>exact g
 |cons a _ ih=>exact .cons a ih
theorem HA {φ:List Addr} {Λ:bj} {y:Str} {a:AV} {v:Value} (hv:VR φ Λ a v) {es:List (Str×AV)} {kvs:List (Str×Value)} (hh:DRs φ Λ es kvs):DRs φ Λ (es.map (λ e=>if e.1=y then(e.1,a) else e)) (kvs.map (λ kv=>if kv.1=y then(kv.1,v) else kv)):=by
 induction hh with
 |nil=>exact .nil
 | @cons f _ _ _ _ h r ih=>
  rw[aB,aB]
  dsimp only
  by_cases hf:f=y
  ·rw[if_pos hf,if_pos hf];exact .cons hv ih
  ·rw[if_neg hf,if_neg hf];exact .cons h ih
theorem Hz {φ:List Addr} {Λ:bj} {y:Str} {a:AV} {v:Value} (hv:VR φ Λ a v) {es:List (Str×AV)} {kvs:List (Str×Value)} (h:DRs φ Λ es kvs):DRs φ Λ (ur y a es) (stored kvs y v):=by
 unfold ur stored
 rw[HC h]
 split
 ·exact HA hv h
 ·exact h.append (.cons hv .nil)
theorem BX {φ:List Addr} {Λ:bj} {es:List (Str×AV)} {kvs:List (Str×Value)} (h:DRs φ Λ es kvs):es.length=kvs.length:=by
 induction h with
 |nil=>rfl
 |cons _ _ ih=>exact congrArg (·+1) ih
noncomputable def nh (o i v:AV):EM Unit:=λ σ=>match o with
 | .ref n=>match i with
  | .int j=>match pv σ.h n with
   |some l=>if 0≤j∧j<l.length∧j<2^62 then some ((),{σ with h:=σ.h.set n (.list (l.set j.toNat v))}) else none
   |none=>none
  | .str y=>match σ.h[n]? with
   |some (.dict es)=>if iJ es.length then some ((),{σ with h:=σ.h.set n (.dict (ur y v es))}) else none
   |_=>none
  |_=>none
 |_=>none
theorem DL {σ bc:St} {o i v:AV} {P:Prop} (e:nh o i v σ=some ((),bc))
  (k1:∀n j l,o= .ref n→i= .int j→pv σ.h n=some l→0≤j∧j<l.length∧j<2^62→{σ with h:=σ.h.set n (.list (l.set j.toNat v))}=bc→P)
  (k2:∀n y es,o= .ref n→i= .str y→σ.h[n]? =some (.dict es)→iJ es.length=true→{σ with h:=σ.h.set n (.dict (ur y v es))}=bc→P):P:=by
 unfold nh at e
 injections Do e n e1
 set_option smartUnfolding false in refine Kv e (λ j e2 e=>?_) λ y e2 e=>?_
 ·injections rp e l hl
  injections lY e h3
  exact k1 n j l e1 e2 hl h3 (Prod.mk.inj (bQ e)).2
 ·injections oD e es hd
  injections lY e h3
  exact k2 n y es e1 e2 hd h3 (Prod.mk.inj (bQ e)).2
theorem Co {A:Around} {σ bc:St} {o i v:AV} (h:nh o i v σ=some ((),bc)) {φ:List Addr} {Λ:bj} {s:Shared} {vo vi vv:Value} (R:RepS C stor σ φ Λ s) (ho:VR φ Λ o vo) (hi:VR φ Λ i vi) (hv:VR φ Λ v vv)
  {E:Value→Shared→Prop} {Q:Unit→Shared→Prop} (q:∀bp s',RepS C stor bc φ bp s'→ExtE φ Λ φ bp→Q () s'):wpAny C.M A (setItem vo vi vv) Q E s:=by
 refine DL h (λ n j l e1 e2 hl hj e=>?_) (λ n y es e1 e2 hd hf e=>?_)<;>clear h<;>subst e<;>subst e1<;>subst e2
 ·refine VR.eref ho λ ad had=>?_;clear ho
  refine VR.eint hi λ _=>?_;clear hi
  refine ft (mW R.toRepH hl had) λ rvs jj h1 i1 r1 _=>?_
  refine bM (R.setL (vs:=l.set j.toNat v) (us:=rvs.set j.toNat vv) (f:=(·.setIfInBounds j.toNat vv)) had h1 (by simp) (r1.set hv j.toNat)) λ bp R' x'=>?_
  exact zV i1 hj.1 (by omega) (by rw[bn,←r1.length];exact hj.2.1) (q bp _ R' x')
 ·refine VR.eref ho λ ad had=>?_;clear ho
  refine VR.estr hi λ _=>?_;clear hi
  rename_i t
  refine ft (v8 R.toRepH hd had) λ ob kvs g1 g2 g3 _=>?_
  refine wpAny_setItem_pairs (strKind_is C.prog C.w y t) g3 (λ h' hd' hs'=>?_) (js (by rw[←BX g2];exact hf))
  refine tj hd' λ o' es' ep ho' r'=>?_;clear hd'
  have x:ExtE φ Λ φ (Λ.set ad (.obj n,o')):=.at g1 ⟨nofun,nofun,nofun,nofun⟩ _
  have R':=R.toRepH.set (n:=n) (ao:=.dict (ur y v es)) had g1 (.inl rfl) (λ b hb x e=>(hs'.2 b hb).trans e) ho' ⟨o',_,bj.set_self ..,⟨es',ep,r'⟩,(Hz hv g2).mono x.toExtV⟩
  exact q _ _ ((R.ext R' x).tok _) x
theorem iU {o i e:Expr} {px pos:Pos} {fe fo fi:EM AV} (he:cE C k stor (eval e env) fe) (ho:cE C k stor (eval o env) fo) (hi:cE C k stor (eval i env) fi) (hs:autoParam (swapsWith e (some (.Subscript o i px)) pos.line env=pure false) aR):
  mI C k stor (exec (.Assign [.Subscript o i px] e pos) env) (ae fe λ v=>ae fo λ o=>ae fi λ i=>ae (nh o i v) λ z=>Mine.Internal.ret .next):=by
 intro A rm σ fl bc h φ Λ s R
 refine O.any0 ?_
 refine wpAny_Assign_Subscript (cT he rm h R λ v az vv aZ aJ ar aN bD bq hv=>cT ho rm aN bD λ ov cG vo ey cD bH bT cX cL hvo=>cT hi rm bT cX λ iv dM vi io iS gw iQ f6 gi hvi=>?_) hs
 refine ce (br iQ) λ z mv h4 h5=>?_
 refine ir h5 ?_;clear h5
 exact Co h4 f6 (hvo.mono gi.toExtV) hvi ((hv.mono cL.toExtV).mono gi.toExtV) λ bp s' R' x'=>⟨iS,bp,R',(bq.trans (cL.trans (gi.trans x'))).toExtS,trivial⟩
theorem jL {o i e:Expr} {px pos:Pos} {op:Operator} {fe fo fi:EM AV} {g:AV→AV→EM AV} (he:cE C k stor (eval e env) fe) (ho:cE C k stor (eval o env) fo) (hi:cE C k stor (eval i env) fi) (hg:tD C k stor (inplaceOp op) g)
  (ha:autoParam (∀ov iv new,augStore i ov iv new=(do holding [new,ov,iv] (setItem ov iv new);release [new,ov,iv] [];pure .next)) aI):
  mI C k stor (exec (.AugAssign (.Subscript o i px) op e pos) env) (ae fo λ o=>ae fi λ i=>ae (de o i) λ a=>ae fe λ v=>ae (g a v) λ r=>ae (nh o i r) λ z=>Mine.Internal.ret .next):=by
 intro A rm σ fl bc h φ Λ s R
 refine O.any0 ?_
 refine wpAny_AugAssign_Subscript_any (cT ho rm h R λ ov az vo aZ aJ ar aN bD bq hvo=>cT hi rm aN bD λ iv cG vi ey cD bH bT cX cL hvi=>?_) ha
 refine ce (br bT) λ a dM h3 h4=>?_
 refine aV (BD A rm cG ov iv a dM h3 cD bH ey vo vi cX (hvo.mono cL.toExtV) hvi) (λ va io p=>?_) dC
 refine bK p λ iS gw f6 gi hva=>?_;clear p
 refine cT he rm h4 f6 λ v mv vv yg zB uV vP oA ul hv=>?_
 refine ce (br vP) λ r oK h5 h6=>?_
 refine aV (hg A rm mv a v r oK h5 zB uV yg va vv oA (hva.mono ul.toExtV) hv) (λ vr zO p=>?_) dC
 refine bK p λ oJ pD mM k9 hvr=>?_;clear p
 refine ce (br h6) λ z zC h7 h8=>?_
 refine ir h8 ?_;clear h8
 have xx:=gi.trans (ul.trans k9)
 exact Co h7 mM ((hvo.mono cL.toExtV).mono xx.toExtV) (hvi.mono xx.toExtV) hvr λ bp s' R' x'=>⟨oJ,bp,R',(bq.trans (cL.trans (xx.trans x'))).toExtS,trivial⟩
noncomputable def LG:EM AV:=λ σ=>some (.ref σ.h.length,{σ with h:=σ.h++[.dict []]})
theorem Fg (pos:Pos):cE C k stor (eval (.Dict [] [] pos) env) LG:=by
 intro A rm σ av bc h φ Λ s R
 refine ir h ?_;clear h
 refine wpAny_Dict_empty ?_
 have x:ExtE φ Λ φ (Λ.set s.heap.objs.size (.obj σ.h.length,emptyDict)):=.new R.core.vac _
 refine⟨_,_,R.ext (R.toRepH.new rfl ⟨emptyDict,[],bj.set_self ..,⟨#[],0,⟨rfl,rfl,rfl⟩,rfl,λ z he=>by simp at he,Pairs.nil,List.nodup_nil⟩,.nil⟩) (x.push _),x.push _,.ref ?_⟩
 rw[←R.len];simp
end
end
section
open PySem.SeqAt
theorem RepS.ambs {C:Cx} {stor:Nat→Stor} {σ:St} {φ:List Addr} {Λ bp:bj} {s s':Shared} {h':Heap} {tk:Nat} (R:RepS C stor σ φ Λ s)
  (same:∀a w o,w≠.amb→Λ a=some (w,o)→bp a=some (w,o)∧h'.get? a=some o)
  (back:∀a w o,bp a=some (w,o)→(Λ a=some (w,o)∧w≠.amb)∨(h'.get? a=some o∧C.base.get? a=none∧cStatics<a))
  (keep:∀b o,C.base.get? b=some o→h'.get? b=some o):RepS C stor σ φ bp {s with heap:=h',toks:=tk}:=by
 have xw:ExtV φ Λ φ bp:=⟨bG _,λ a o e=>(same a .fz o nofun e).1⟩
 refine⟨⟨⟨keep,λ a w o e=>?_,R.core.two,λ a x e=>?_,R.core.gens,R.core.drawn,R.core.os⟩,R.inj,R.len,λ n ao e=>?_⟩,λ i ov e=>?_,R.uniq⟩
 ·rcases back a w o e with⟨h1,h2⟩|⟨h1,h2,h3⟩
  ·exact dF ((same a w o h2 h1).2) ((R.core.here a w o h1).2)
  ·exact dF h1 h2
 ·rcases back a x.1 x.2 e with⟨h1,h2⟩|⟨h1,h2,h3⟩
  ·exact R.core.low a _ h1
  ·exact h3
 ·refine bM (R.objs n ao e) λ a h1 h2=>?_
  exact fV a h1 (h2.mono xw λ b o q=>by rcases q with q|q<;>rw[q]<;>exact(same b _ o (λ z=>by cases z) q).1)
 ·have S:=R.slots i ov e
  cases hs:stor i with
  |ns a x=>rw[hs] at S;refine bK S λ o m h1 h2 h3=>?_;clear S;exact c9 o m ((same a .ns o nofun h1).1) h2 (λ av q=>let⟨v,e,r⟩:=h3 av q;⟨v,e,r.mono xw⟩)
  |cell a=>rw[hs] at S;refine bK S λ o v h1 h2 h3=>?_;clear S;exact c9 o v ((same a .cell o nofun h1).1) h2 (λ av q=>let⟨v,e,r⟩:=h3 av q;⟨v,e,r.mono xw⟩)
  |none=>rw[hs] at S;exact S
noncomputable def Io (cJ Λ bp:bj):Prop:=∀a x y,cJ a=some x→Λ a=some y→bp a=some y
theorem ExtS.off {φ cF:List Addr} {cJ Λ bp:bj} (x:ExtS φ cJ cF Λ) (o:Io cJ Λ bp):ExtS φ cJ cF bp:=
 ⟨⟨x.pre,λ a q e=>o a _ _ e (x.fz a q e)⟩,λ a q e=>o a _ _ e (x.amb a q e)⟩
theorem ExtE.off {φ cF:List Addr} {cJ Λ bp:bj} (x:ExtE φ cJ cF Λ) (o:Io cJ Λ bp):ExtE φ cJ cF bp:=
 ⟨x.toExtS.off o,λ a q e=>o a _ _ e (x.ns a q e),λ a q e=>o a _ _ e (x.cell a q e)⟩
noncomputable def bj.del (Λ:bj) (a:Addr):bj:=λ b=>if b=a then none else Λ b
theorem j9 {cJ Λ:bj} {a:Addr} {x:Own×Obj} (h:cJ a=none):Io cJ Λ (Λ.set a x):=λ b y z e f=>(bj.set_ne _ _ λ q=>by rw[q,h] at e;exact dq e).trans f
theorem lX {cJ Λ:bj} {a:Addr} (h:cJ a=none):Io cJ Λ (Λ.del a):=λ b y z e f=>(if_neg λ q=>by rw[q,h] at e;exact dq e).trans f
section
variable{C:Cx} {stor:Nat→Stor} {σ:St} {φ:List Addr} {Λ:bj} {s:Shared}
theorem RepS.ambSet (R:RepS C stor σ φ Λ s) {d:Addr} {o o':Obj} {h':Heap} {tk:Nat} (hd:Λ d=some (.amb,o)) (hs:Heap.ExtBut d s.heap h') (ho:h'.get? d=some o'):
  RepS C stor σ φ (Λ.set d (.amb,o')) {s with heap:=h',toks:=tk}:=by
 refine R.ambs (s':=s) (λ a w e5 hw e=>?_) (λ a w e5 e=>?_) (λ b e5 e=>hs b e5 (λ q=>?_) (R.core.keep b e5 e))
 ·have hne:a≠d:=λ q=>by rw[q,hd] at e;refine lH e λ e1 e2=>?_;clear e;subst e1 e2;exact hw rfl
  exact dF ((bj.set_ne _ _ hne).trans e) (hs a e5 hne (R.core.here _ _ _ e).1)
 ·by_cases h:a=d
  ·clear hs;subst h;rw[bj.set_self] at e;refine lH e λ e1 e2=>?_;clear e;subst e1 e2
   exact .inr ⟨ho,(R.core.here _ _ _ hd).2,R.core.low _ _ hd⟩
  ·rw[bj.set_ne _ _ h] at e
   by_cases hw:w= .amb
   ·exact .inr ⟨hs a e5 h (R.core.here _ _ _ e).1,(R.core.here _ _ _ e).2,R.core.low _ _ e⟩
   ·exact .inl ⟨e,hw⟩
 ·rw[q,(R.core.here _ _ _ hd).2] at e;exact dq e
theorem RepS.ambDel (R:RepS C stor σ φ Λ s) {d:Addr} {o:Obj} {h':Heap} (hd:Λ d=some (.amb,o)) (hs:Heap.ExtBut d s.heap h'):
  RepS C stor σ φ (Λ.del d) {s with heap:=h'}:=by
 refine R.ambs (s':=s) (tk:=s.toks) (λ a w e5 hw e=>?_) (λ a w e5 e=>?_) (λ b e5 e=>hs b e5 (λ q=>?_) (R.core.keep b e5 e))
 ·have hne:a≠d:=λ q=>by rw[q,hd] at e;refine lH e λ e1 e2=>?_;clear e;subst e1 e2;exact hw rfl
  exact dF ((if_neg hne).trans e) (hs a e5 hne (R.core.here _ _ _ e).1)
 ·by_cases h:a=d
  ·clear hs hd;subst h;have e:Λ.del a a=_:=e;rw[bj.del,if_pos rfl] at e;exact dq e
  ·have e:Λ.del d a=_:=e;rw[bj.del,if_neg h] at e
   by_cases hw:w= .amb
   ·exact .inr ⟨hs a e5 h (R.core.here _ _ _ e).1,(R.core.here _ _ _ e).2,R.core.low _ _ e⟩
   ·exact .inl ⟨e,hw⟩
 ·rw[q,(R.core.here _ _ _ hd).2] at e;exact dq e
theorem RepS.side (R:RepS C stor σ φ Λ s) {o:Obj} (w:Own) (hf:o.isFreed=false):RepS C stor σ φ (Λ.set s.heap.objs.size (w,o)) {s with heap:=s.heap.push o}:=
 R.heap (R.toRepH.side w hf) (.new R.core.vac _)
end
inductive IT where
 |list (n:Nat)|enum (n:Nat)|rev (n:Nat) (len:Nat)|range (x left step:Int)|bytes (b:Array UInt8)|tup (l:List AV)
noncomputable def lP (it:IT) (i:Nat) (h:List AO):Option (Option AV):=match it with
 | .list n=>(getL h n).map λ vs=>vs[i]?
 | .enum n=>(getL h n).map λ vs=>vs[i]?.map λ v=>.tup [.int i,v]
 | .rev n len=>(getL h n).bind λ vs=>if vs.length=len then some (if i<len then vs[len-1-i]? else none) else none
 | .range x left step=>some (if(i:Int)<left then some (.int (x+i*step)) else none)
 | .bytes b=>some (b[i]?.map λ c=>.int c.toNat)
 | .tup l=>some l[i]?
noncomputable def pe (cJ Λ:bj) (a:Addr) (cls:String) (fs:Array Value):Prop:=cJ a=none∧∃o,Λ a=some (.amb,o)∧o.cls= .type cls∧o.data= .fields fs
theorem pe.mono {cJ Λ bp:bj} {φ cF:List Addr} {a:Addr} {c:String} {fs:Array Value} (x:ExtS φ Λ cF bp) (h:pe cJ Λ a c fs):pe cJ bp a c fs:=
 let⟨h0,o,h1,h2⟩:=h;⟨h0,o,x.amb _ _ h1,h2⟩
noncomputable def zm (it:IT) (φ:List Addr) (cJ Λ:bj) (i:Nat) (a:Addr):Prop:=match it with
 | .list n=>∃l,φ[n]? =some l∧pe cJ Λ a "list_iterator" #[.ref l,.int i 0]
 | .enum n=>∃l j old,φ[n]? =some l∧pe cJ Λ j "list_iterator" #[.ref l,.int i 0]∧cJ a=none∧a≠j∧
   Λ a=some (.amb,{cls:=.type "enumerate",dict:=none,data:=.fields #[.none,.bool false,.ref j,rawInt i,.none,old],slots:=#[]})
 | .rev n len=>∃l,φ[n]? =some l∧i≤len∧pe cJ Λ a "list_reverseiterator" #[.ref l,rawInt ((len:Int)-1-i)]
 | .range x left step=>(i:Int)≤max left 0∧cJ a=none∧Λ a=some (.amb,{cls:=.type "range_iterator",dict:=none,data:=.fields #[rawInt (x+i*step),rawInt (left-i),rawInt step],slots:=#[]})
 | .bytes b=>∃t,pe cJ Λ a "bytes_iterator" #[.bytes b t,.int i 0]
 | .tup l=>∃ta vs,Λ ta=some (.fz,lL vs)∧VRs φ Λ l vs∧pe cJ Λ a "tuple_iterator" #[.ref ta,.int i 0]
theorem zm.mono {it:IT} {φ cF:List Addr} {cJ Λ bp:bj} {i:Nat} {a:Addr} (x:ExtS φ Λ cF bp) (h:zm it φ cJ Λ i a):zm it cF cJ bp i a:=by
 cases it with
 |list n=>refine bM h λ l h1 h2=>?_;clear h;exact fV l (iW x.pre h1) (h2.mono x)
 |enum n=>refine iE h λ l j old h1 h2 h3 h4 h5=>?_;clear h;exact nR l j old (iW x.pre h1) (h2.mono x) h3 h4 (x.amb _ _ h5)
 |rev n len=>refine dU h λ l h1 h2 h3=>?_;clear h;exact Aj l (iW x.pre h1) h2 (h3.mono x)
 |range p q r=>refine iH h λ h0 h1 h2=>?_;clear h;exact lO h0 h1 (x.amb _ _ h2)
 |bytes b=>revert h;refine λ yy=>gX yy λ t h=>?_;clear yy;exact si t (h.mono x)
 |tup l=>refine bK h λ ta vs h1 h2 h3=>?_;clear h;exact c9 ta vs (x.fz _ _ h1) (h2.mono x.toExtV) (h3.mono x)
noncomputable def Ix:Expr→Bool
 | .Tuple .. =>true
 |_=>false
noncomputable def HY:Expr→Bool
 | .Name .. =>true
 |_=>false
noncomputable def kz (target:Expr):IT→Bool
 | .enum _=>Ix target
 |_=>Ix target||HY target
theorem ly {prog:Program} {w:World} {A:Around} {E:Value→Shared→Prop} {s:Shared} {target:Expr} {it:Addr} {v:Value} {o:Obj} {T:String} {fs:Array Value} {Q:Unit→Shared→Prop} (ht:(Ix target||HY target)=true)
  (ho:s.heap.get? it=some o) (hc:o.cls= .type T) (hd:o.data= .fields fs) (hT:["enumerate","zip","dict_itemiterator","dict_reverseitemiterator","odict_iterator","itertools.zip_longest","itertools.pairwise"].contains T=false) (q:Q () s):wpAny (model prog w) A (letOwnedTupleGo target (.ref it) v) Q E s:=by
 cases target<;>first| (exfalso;exact Bool.noConfusion ht)|skip
 case Tuple=>
  unfold letOwnedTupleGo
  cases v<;>first|exact aO q|skip
  refine al (wpAny_load ho ?_)
  obtain⟨cls,dict,data,slots⟩:=o
  subst hc;clear ho;subst hd
  simp only[hT,Bool.false_and,mu,m3]
  exact aO q
 case Name=>exact aO q
section
variable{C:Cx} {stor:Nat→Stor} {σ:St} {φ:List Addr} {Λ cJ:bj} {s:Shared} {A:Around} {E:Value→Shared→Prop}
theorem kE {a b:Addr} {o o':Obj} {w:Own} (h:Λ a=some (.amb,o)) (h':Λ b=some (w,o')) (hw:w≠.amb):b≠a:=λ q=>by rw[q,h] at h';refine lH h' λ e1 e2=>?_;clear h';subst e1 e2;exact hw rfl
theorem uN (R:RepH C σ.h φ Λ s) {n:Nat} {l a:Addr} {o:Obj} (hl:φ[n]? =some l) (ha:Λ a=some (.amb,o)):l≠a:=by
 intro q
 subst q
 have hn:n<σ.h.length:=by rw[←R.len];exact(aA.mp hl).1
 refine bM (R.objs n σ.h[n] (aq hn)) λ b h1 h2=>?_
 rw[hl] at h1;refine sk h1 λ e1=>?_;clear h1;subst e1
 cases hao:σ.h[n] with
 |list vs=>rw[hao] at h2;refine ce h2 λ z z h3 z=>?_;clear h2;rw[ha] at h3;cases h3
 |flist vs=>rw[hao] at h2;refine bM h2 λ z vv0 z=>?_;clear h2;refine bM vv0 λ o' h3 z=>?_;clear vv0;rw[(R.core.here _ _ _ ha).2] at h3;exact dq h3
 |inst c fs=>rw[hao] at h2;refine tj h2 λ z z z h3 z=>?_;clear h2;rw[ha] at h3;cases h3
 |dict es=>rw[hao] at h2;refine ce h2 λ z z h3 z=>?_;clear h2;rw[ha] at h3;cases h3
 |barr b=>rw[hao] at h2;have h2:Λ l=_:=h2;rw[ha] at h2;cases h2
noncomputable def L8 (C:Cx) (stor:Nat→Stor) (σ:St) (φ:List Addr) (cJ Λ:bj) (Q:Shared→Prop):Prop:=∀bp s',RepS C stor σ φ bp s'→Io cJ Λ bp→ExtV φ Λ φ bp→Q s'
noncomputable def L7 (C:Cx) (stor:Nat→Stor) (σ:St) (φ:List Addr) (cJ Λ:bj) (A:Around) (target:Expr) (a:Addr) (it:IT) (i:Nat) (av:AV) (v:Value) (aZ:Shared):Prop:=∀{Q':Unit→Shared→Prop} {E':Value→Shared→Prop},(∀bp s',RepS C stor σ φ bp s'→Io cJ Λ bp→ExtV φ Λ φ bp→VR φ bp av v→zm it φ cJ bp (i+1) a→Q' () s')→wpAny C.M A (letOwnedTupleGo target (.ref a) v) Q' E' aZ
theorem uF (hh:A.handled=none) (it:IT) {i:Nat} {a:Addr} {target:Expr} (ht:kz target it=true) {r:Option AV} (h:lP it i σ.h=some r) (R:RepS C stor σ φ Λ s) (I:zm it φ cJ Λ i a) {Q:Option Value→Shared→Prop}
  (qe:r=none→L8 C stor σ φ cJ Λ (Q none))
  (qi:∀av v aZ,r=some av→L7 C stor σ φ cJ Λ A target a it i av v aZ→Q (some v) aZ):
  wpAny C.M A (pyNext (.ref a)) Q E s:=by
 have fzOf:∀{d:Addr} {o o':Obj},Λ d=some (.amb,o)→ExtV φ Λ φ (Λ.set d (.amb,o')):=λ{d o o'} hd=>⟨bG _,λ b e5 e=>(bj.set_ne _ _ (kE hd e nofun)).trans e⟩
 have fzDel:∀{d:Addr} {o:Obj},Λ d=some (.amb,o)→ExtV φ Λ φ (Λ.del d):=λ{d o} hd=>⟨bG _,λ b e5 e=>(if_neg (kE hd e nofun)).trans e⟩
 cases it with
 |list n=>
  refine dU I λ l h1 h2 y=>?_;refine dU y λ o h3 h4 h5=>?_;clear y I
  have hne:l≠a:=uN R.toRepH h1 h3
  simp only[lP] at h
  cases hg:getL σ.h n with
  |none=>rw[hg] at h;exact dq h
  |some vs=>
   rw[hg] at h
   refine bM (fM R.toRepH hg h1) λ rvs hl hv=>?_
   refine sk h λ e1=>?_;clear h
   have hit:s.heap.IsListIter a l i:=⟨o,(R.core.here _ _ _ h3).1,h4,h5⟩
   cases hx:vs[i]? with
   |none=>
    refine wpAny_pyNext_list_end hh hit hl (by rw[fT];exact ca (by rw[←hv.length];exact lG.mp hx)) λ h' he=>?_
    exact qe (e1.symm.trans hx) _ _ (R.ambDel h3 he) (lX h2) (fzDel h3)
   |some av=>
    refine bM (hv.at hx) λ v hv1 hv2=>?_
    refine wpAny_pyNext_list_item hit hl (x:=v) (by rw[fT];exact hv1) λ h' hit' hs'=>?_
    refine dU hit' λ o' k1 k2 k3=>?_;clear hit'
    refine qi av v _ (e1.symm.trans hx) λ{Q'} {E'} q=>ly ht k1 k2 k3 (by decide+kernel) ?_
    exact q _ _ (R.ambSet (tk:=s.toks) h3 hs'.extBut k1) (j9 h2) (fzOf h3) (hv2.mono (fzOf h3)) ⟨l,h1,h2,o',bj.set_self ..,k2,k3⟩
 |enum n=>
  refine iE I λ l j old h1 vv0 h6 h7 h8=>?_;clear I;refine dL vv0 λ h2 y=>?_;refine dU y λ o h3 h4 h5=>?_;clear y vv0
  have hne:l≠j:=uN R.toRepH h1 h3
  simp only[lP] at h
  cases hg:getL σ.h n with
  |none=>rw[hg] at h;exact dq h
  |some vs=>
   rw[hg] at h
   refine bM (fM R.toRepH hg h1) λ rvs hl hv=>?_
   refine sk h λ e1=>?_;clear h
   have hit:s.heap.IsListIter j l i:=⟨o,(R.core.here _ _ _ h3).1,h4,h5⟩
   have he:IsEnum s.heap a j (i:Int) old:=(R.core.here _ _ _ h8).1
   cases hx:vs[i]? with
   |none=>
    refine wpAny_pyNext_enum_end hh he hit hl (by rw[fT];exact ca (by rw[←hv.length];exact lG.mp hx)) λ h' he=>?_
    exact qe (e1.symm.trans (by simp[hx])) _ _ (R.ambDel h3 he) (lX h2) (fzDel h3)
   |some av=>
    refine bM (hv.at hx) λ v hv1 hv2=>?_
    refine wpAny_pyNext_enum_item he hit hl (x:=v) (by rw[fT];exact hv1) h7 λ h' ho' hit' ht' hz hk=>?_
    have hsz:=R.core.vac
    have ha:a≠s.heap.objs.size:=R.core.ne h8
    have hj:j≠s.heap.objs.size:=R.core.ne h3
    refine qi (.tup [.int i,av]) (.ref s.heap.objs.size) _ (e1.symm.trans (by simp[hx])) λ{Q'} {E'} q=>?_
    cases target<;>first| (exfalso;exact Bool.noConfusion ht)|skip
    refine wpAny_letOwnedTupleGo_enum ho' λ h'' he'' hs''=>?_
    replace hs'':Heap.SameBut a h' h'':=hs''
    refine dU hit' λ o' k1 k2 k3=>?_;clear hit'
    have k1':h''.get? j=some o':=(hs''.2 j (f9 h7)).trans k1
    have t1:h''.get? s.heap.objs.size=some (lL [.int i s.toks,v]):=(hs''.2 _ (f9 ha)).trans ht'
    have kk:∀b o,b≠a→b≠j→s.heap.get? b=some o→h''.get? b=some o:=λ b o q1 q2 e=>(hs''.2 b q1).trans (hk b o q1 q2 e)
    have nb:∀b o,C.base.get? b=some o→b≠a∧b≠j:=λ b o e=>⟨λ q=>(by rw[q,(R.core.here _ _ _ h8).2] at e;exact dq e),λ q=>(by rw[q,(R.core.here _ _ _ h3).2] at e;exact dq e)⟩
    have R':RepS C stor σ φ ((((Λ.set s.heap.objs.size (.fz,lL [.int i s.toks,v])).set j (.amb,o')).set a (.amb,{cls:=.type "enumerate",dict:=none,data:=.fields #[.none,.bool false,.ref j,rawInt ((i:Int)+1),.none,v],slots:=#[]}))) {s with heap:=h'',toks:=s.toks+1}:=by
     refine R.ambs (s':=s) (λ b w e5 hw e=>?_) (λ b w e5 e=>?_) (λ b e5 e=>kk b e5 (nb b e5 e).1 (nb b e5 e).2 (R.core.keep b e5 e))
     ·have n1:=kE h8 e hw
      have n2:=kE h3 e hw
      exact dF (by rw[bj.set_ne _ _ n1,bj.set_ne _ _ n2,bj.set_ne _ _ (R.core.ne e)];exact e) (kk b e5 n1 n2 (R.core.here _ _ _ e).1)
     ·by_cases q1:b=a
      ·clear nb kk hs'' qi q ha hk ho' he h7 h6;subst q1;rw[bj.set_self] at e;refine lH e λ e1 e2=>?_;clear e;subst e1 e2
       exact .inr ⟨he'',(R.core.here _ _ _ h8).2,R.core.low _ _ h8⟩
      rw[bj.set_ne _ _ q1] at e
      by_cases q2:b=j
      ·clear nb kk k1 he'' hj hk ho' he hit hne h2 h8 h7;subst q2;rw[bj.set_self] at e;refine lH e λ e1 e2=>?_;clear e;subst e1 e2
       exact .inr ⟨k1',(R.core.here _ _ _ h3).2,R.core.low _ _ h3⟩
      rw[bj.set_ne _ _ q2] at e
      by_cases q3:b=s.heap.objs.size
      ·clear q2 q1;subst q3;rw[bj.set_self] at e;refine lH e λ e1 e2=>?_;clear e;subst e1 e2
       refine .inr ⟨t1,R.core.baseNone,?_⟩
       refine gX R.core.two λ Eg bT=>?_
       exact cB (R.core.keep _ _ bT)
      rw[bj.set_ne _ _ q3] at e
      by_cases hw:w= .amb
      ·exact .inr ⟨kk b e5 q1 q2 (R.core.here _ _ _ e).1,(R.core.here _ _ _ e).2,R.core.low _ _ e⟩
      ·exact .inl ⟨e,hw⟩
    have hsn:Λ s.heap.objs.size=none:=R.core.vac
    have xv:ExtV φ Λ φ ((((Λ.set s.heap.objs.size (.fz,lL [.int i s.toks,v])).set j (.amb,o')).set a (.amb,{cls:=.type "enumerate",dict:=none,data:=.fields #[.none,.bool false,.ref j,rawInt ((i:Int)+1),.none,v],slots:=#[]}))):=
     ⟨bG _,λ b e5 e=>by rewrite[bj.set_ne _ _ (kE h8 e nofun),bj.set_ne _ _ (kE h3 e nofun),bj.set_ne _ _ (R.core.ne e)];exact e⟩
    refine q _ _ R' ?_ xv (.tup (vs:=[.int i s.toks,v]) ?_ (.cons (.int _ _) (.cons (hv2.mono xv) .nil))) ⟨l,j,v,h1,⟨h2,o',?_,k2,k3⟩,h6,h7,bj.set_self ..⟩
    ·intro b y z e f
     have n1:b≠a:=λ q=>by rw[q,h6] at e;exact dq e
     have n2:b≠j:=λ q=>by rw[q,h2] at e;exact dq e
     rw[bj.set_ne _ _ n1,bj.set_ne _ _ n2,bj.set_ne _ _ (R.core.ne f)];exact f
    ·rw[bj.set_ne _ _ (f9 ha),bj.set_ne _ _ (f9 hj),bj.set_self]
    ·rw[bj.set_ne _ _ (f9 h7),bj.set_self]
 |rev n len=>
  refine ry I λ l h1 hi h2 y=>?_;refine dU y λ o h3 h4 h5=>?_;clear y I
  have hne:l≠a:=uN R.toRepH h1 h3
  simp only[lP] at h
  cases hg:getL σ.h n with
  |none=>rw[hg] at h;exact dq h
  |some vs=>
   rw[hg] at h
   refine bM (fM R.toRepH hg h1) λ rvs hl hv=>?_
   simp only[Option.bind_some] at h
   injections lY h hlen
   refine sk h λ e1=>?_;clear h
   by_cases hlt:i<len
   ·have hx:vs[len-1-i]? =some (vs[len-1-i]'(by exact f!"1c1.+b>1d1.+a<1cd<1ab<4" (V hlen.symm) (eS _ _) (V (ai (f!"1 1.b>1a1.+b<2" hlt))))):=aq _
    refine bM (hv.at hx) λ v hv1 hv2=>?_
    have ei:(len:Int)-1-i=((len-1-i:Nat):Int):=by omega
    have hit:s.heap.IsRevIter a l ((len-1-i:Nat):Int):=⟨o,(R.core.here _ _ _ h3).1,h4,by rw[h5,ei]⟩
    refine wpAny_pyNext_rev_item hit hl (x:=v) (by rw[fT];exact hv1) λ h' hit' hs'=>?_
    refine dU hit' λ o' k1 k2 k3=>?_;clear hit'
    refine qi _ v _ (e1.symm.trans ((if_pos hlt).trans hx)) λ{Q'} {E'} q=>ly ht k1 k2 k3 (by decide+kernel) ?_
    exact q _ _ (R.ambSet (tk:=s.toks) h3 hs'.extBut k1) (j9 h2) (fzOf h3) (hv2.mono (fzOf h3)) ⟨l,h1,hlt,h2,o',bj.set_self ..,k2,by rw[k3,←ei];exact congrArg (λ z=>Data.fields #[.ref l,rawInt z]) (by omega)⟩
   ·have hit:s.heap.IsRevIter a l (-1):=⟨o,(R.core.here _ _ _ h3).1,h4,by rw[h5];exact congrArg (λ z=>Data.fields #[.ref l,rawInt z]) (by omega)⟩
    exact wpAny_pyNext_rev_end hh hit λ h' he=>qe (e1.symm.trans (if_neg hlt)) _ _ (R.ambDel h3 he) (lX h2) (fzDel h3)
 |range x left step=>
  refine iH I λ h0 h2 h3=>?_;clear I
  refine sk h λ e1=>?_;clear h
  have hit:IsRangeIter s.heap a (x+i*step) (left-i) step:=(R.core.here _ _ _ h3).1
  by_cases hlt:(i:Int)<left
  ·refine wpAny_pyNext_range_item hit (by omega) λ h' hit' hs'=>?_
   refine qi _ _ _ (e1.symm.trans (if_pos hlt)) λ{Q'} {E'} q=>ly ht hit' rfl rfl (by decide+kernel) ?_
   refine q _ _ (R.ambSet (tk:=s.toks+1) h3 hs'.extBut hit') (j9 h2) (fzOf h3) (.int _ _) ⟨by omega,h2,?_⟩
   rw[bj.set_self]
   have e1:x+((i+1:Nat):Int)*step=x+i*step+step:=by rw[Int.natCast_add,Int.add_mul];simp[Int.add_assoc]
   have e2:left-((i+1:Nat):Int)=left-i-1:=by omega
   rw[e1,e2]
  ·exact wpAny_pyNext_range_end hh hit (by omega) λ h' he=>qe (e1.symm.trans (if_neg hlt)) _ _ (R.ambDel h3 he) (lX h2) (fzDel h3)
 |bytes b=>
  refine bM I λ t h2 y=>?_;refine dU y λ o h3 h4 h5=>?_;clear y I
  refine sk h λ e1=>?_;clear h
  have hit:KBw.IsBytesIter s.heap a b t i:=⟨o,(R.core.here _ _ _ h3).1,h4,h5⟩
  cases hx:b[i]? with
  |none=>exact KBw.next_end hh hit hx λ h' he=>qe (e1.symm.trans (by simp[hx])) _ _ (R.ambDel h3 he) (lX h2) (fzDel h3)
  |some c=>
   refine KBw.next_item hit hx λ h' hit' hs'=>?_
   refine dU hit' λ o' k1 k2 k3=>?_;clear hit'
   refine qi (.int c.toNat) _ _ (e1.symm.trans (by simp[hx])) λ{Q'} {E'} q=>ly ht k1 k2 k3 (by decide+kernel) ?_
   exact q _ _ (R.ambSet (tk:=s.toks+1) h3 hs'.extBut k1) (j9 h2) (fzOf h3) (.int _ _) ⟨t,h2,o',bj.set_self ..,k2,k3⟩
 |tup l=>
  refine ft I λ ta vs h0 hv h2 y=>?_;refine dU y λ o h3 h4 h5=>?_;clear y I
  refine sk h λ e1=>?_;clear h
  have htu:=m9 R.toRepH h0
  have hit:s.heap.IsTupleIter a ta i:=⟨o,(R.core.here _ _ _ h3).1,h4,h5⟩
  cases hx:l[i]? with
  |none=>exact wpAny_pyNext_tuple_end hh hit htu (by rw[fT];exact ca (by rw[←hv.length];exact lG.mp hx)) λ h' he=>qe (e1.symm.trans hx) _ _ (R.ambDel h3 he) (lX h2) (fzDel h3)
  |some av=>
   refine bM (hv.at hx) λ v hv1 hv2=>?_
   refine wpAny_pyNext_tuple_item hit htu (x:=v) (by rw[fT];exact hv1) λ h' hit' hs'=>?_
   refine dU hit' λ o' k1 k2 k3=>?_;clear hit'
   refine qi av v _ (e1.symm.trans hx) λ{Q'} {E'} q=>ly ht k1 k2 k3 (by decide+kernel) ?_
   exact q _ _ (R.ambSet (tk:=s.toks) h3 hs'.extBut k1) (j9 h2) (fzOf h3) (hv2.mono (fzOf h3)) ⟨ta,vs,(fzOf h3).fz _ _ h0,hv.mono (fzOf h3),h2,o',bj.set_self ..,k2,k3⟩
end
noncomputable def zj (C:Cx) (k:Nat) (stor:Nat→Stor) (env:Env) (iter:Expr) (g:EM IT):Prop:=
 ∀A,Rm A k→∀σ it bc,g σ=some (it,bc)→∀φ Λ s,RepS C stor σ φ Λ s→∀Q:Value→Shared→Prop,(∀a cF ar bp s',RepS C stor bc cF bp s'→ExtE φ Λ cF ar→ExtE cF ar cF bp→zm it cF ar bp 0 a→Q (.ref a) s')→
  wpAny C.M A (eval iter env) (λ x aZ=>wpAny C.M A (pyIter x) Q (λ z z=>False) aZ) (λ z z=>False) s
noncomputable def v0 (it:IT) (asg:AV→EM Unit) (body:EM AF):Nat→Nat→EM AF
 |0,_=>λ z=>none
 |n+1,i=>λ σ=>match lP it i σ.h with
  |none=>none
  |some none=>some (.next,σ)
  |some (some v)=>ae (asg v) (λ z=>ae body λ fl=>match fl with
   | .next=>v0 it asg body n (i+1)
   | .cont=>v0 it asg body n (i+1)
   | .brk=>ret .next
   | .ret v=>ret (.ret v)) σ
noncomputable def pO (it:IT) (h:List AO):Nat:=match it with
 | .list n=>((getL h n).getD []).length
 | .enum n=>((getL h n).getD []).length
 | .rev _ len=>len
 | .range _ left _=>left.toNat
 | .bytes b=>b.size
 | .tup l=>l.length
@[irreducible] noncomputable def jU (tgt:IT→Bool) (g:EM IT) (asg:AV→EM Unit) (body:EM AF):EM AF:=ae g λ it σ=>if tgt it then v0 it asg body (pO it σ.h+1) 0 σ else none
noncomputable def Bc (t:EM Bool) (body:EM AF):Nat→EM AF
 |0=>λ z=>none
 |n+1=>ae t λ b=>if b then ae body (λ fl=>match fl with
   | .next=>Bc t body n
   | .cont=>Bc t body n
   | .brk=>ret .next
   | .ret v=>ret (.ret v)) else ret .next
@[irreducible] noncomputable def jX (t:EM Bool) (body:EM AF) (n:Nat):EM AF:=Bc t body n
theorem E0 (t:EM Bool) (body:EM AF) (σ:St):jX t body 0 σ=none:=by rw[jX];rfl
theorem zJ (t:EM Bool) (body:EM AF) (n:Nat):jX t body (n+1)=ae t λ b=>if b then ae body (λ fl=>match fl with
   | .next=>jX t body n
   | .cont=>jX t body n
   | .brk=>ret .next
   | .ret v=>ret (.ret v)) else ret .next:=by unfold jX;rfl
section
variable{C:Cx} {k:Nat} {stor:Nat→Stor} {env:Env}
end
end
section
open PySem.SeqAt
section
variable{C:Cx} {k:Nat} {stor:Nat→Stor} {env:Env}
noncomputable def Ez:Value→Bool
 | .type _=>true
 | .builtin _=>true
 |_=>false
theorem pZ {f:Value} (hf:Ez f=true) {pos:Pos} {es:List Expr} {fs:List (EM AV)} (hE:SndEach C k stor env es fs) {α:Type} {g:List AV→EM α} {A:Around} (rm:Rm A k) {σ bc:St} {b:α}
  (h:ae (bN fs) g σ=some (b,bc)) {φ:List Addr} {Λ:bj} {s:Shared} (R:RepS C stor σ φ Λ s) {Q:Value→Shared→Prop} {E:Value→Shared→Prop}
  (q:∀l az vs aZ aJ ar,g l az=some (b,bc)→RepS C stor az aJ ar aZ→ExtE φ Λ aJ ar→VRs aJ ar l vs→wpAny C.M A (call f vs) Q E aZ):
  wpAny C.M A (callWith pos f [] (backTo pos (starEach es env)) []) Q E s:=by
 have key:∀f:Value,wpAny C.M A (evalArgs f true (backTo pos (starEach es env)) []) (λ a aZ=>a.kw=[]∧∃l az aJ ar,g l az=some (b,bc)∧RepS C stor az aJ ar aZ∧ExtE φ Λ aJ ar∧VRs aJ ar l a.pos) E s:=by
  intro f
  cases hE with
  |nil=>
   refine ce (br h) λ a az h1 h2=>?_
   refine lH h1 λ e1 e2=>?_;clear h1;subst e1 e2
   exact evalArgs_nil3 ⟨rfl,[],σ,φ,Λ,h2,R,.refl _ _,.nil⟩
  |cons hd tl hs=>
   rw[hs]
   refine evalArgs_plain ?_
   have:=lc (iT (pos:=pos) (.cons hd tl hs)) rm h R (Q:=λ vs aZ=>(⟨vs,[]⟩:Args).kw=[]∧∃l az aJ ar,g l az=some (b,bc)∧RepS C stor az aJ ar aZ∧ExtE φ Λ aJ ar∧VRs aJ ar l vs) (E:=E) λ l az vs aZ aJ ar aN bD bq hv=>⟨rfl,l,az,aJ,ar,aN,bD,bq,hv⟩
   rw[hs] at this
   exact this
 cases f<;>first| (exfalso;exact Bool.noConfusion hf)|skip
 case type=>
  refine PySem.callWith_type (kP hE) (aV (key _) (λ a aZ p=>?_) λ z z x=>x)
  refine dL p λ hk y=>?_;refine fq y λ l az aJ ar aN bD bq hv=>?_;clear y p
  rw[hk]
  exact q l az a.pos aZ aJ ar aN bD bq hv
 case builtin=>
  refine Calls.callWith_builtin (kP hE) (aV (key _) (λ a aZ p=>?_) λ z z x=>x)
  refine dL p λ hk y=>?_;refine fq y λ l az aJ ar aN bD bq hv=>?_;clear y p
  rw[hk]
  exact q l az a.pos aZ aJ ar aN bD bq hv
noncomputable def CB (C:Cx) (k:Nat) (stor:Nat→Stor) (f:Value) (g:List AV→EM AV):Prop:=
 ∀A,Rm A k→∀σ l av bc,g l σ=some (av,bc)→∀φ Λ s vs,RepS C stor σ φ Λ s→VRs φ Λ l vs→wpAny C.M A (call f vs) (fQ C stor φ Λ av bc) (λ z z=>False) s
theorem bg (H:C.Ok) {x:Str} {p pos:Pos} {f:Value} {g:List AV→EM AV} {es:List Expr} {fs:List (EM AV)} (n:GlobAt C env x f) (hg:CB C k stor f g) (hE:SndEach C k stor env es fs) (hf:autoParam (Ez f=true) aR):
  cE C k stor (eval (.Call (.Name x p) es [] pos) env) (ae (bN fs) g):=by
 intro A rm σ av bc h φ Λ s R
 refine jt (kg H n R.core ?_)
 exact pZ hf hE rm h R λ l az vs aZ aJ ar aN bD bq hv=>aV (hg A rm az l av bc aN aJ ar aZ vs bD hv) (λ z z p=>p.trans bq) dC
noncomputable def GK (C:Cx) (stor:Nat→Stor) (φ:List Addr) (Λ:bj) (it:IT) (bc:St) (Q:Value→Shared→Prop):Prop:=
 ∀a cF ar bp s',RepS C stor bc cF bp s'→ExtE φ Λ cF ar→ExtE cF ar cF bp→zm it cF ar bp 0 a→Q (.ref a) s'
noncomputable def CI (C:Cx) (k:Nat) (stor:Nat→Stor) (f:Value) (g:List AV→EM IT):Prop:=
 ∀A,Rm A k→∀σ l it bc,g l σ=some (it,bc)→∀φ Λ s vs,RepS C stor σ φ Λ s→VRs φ Λ l vs→∀Q:Value→Shared→Prop,GK C stor φ Λ it bc Q→
  wpAny C.M A (call f vs) (λ x aZ=>wpAny C.M A (pyIter x) Q (λ z z=>False) aZ) (λ z z=>False) s
theorem dR (H:C.Ok) {x:Str} {p pos:Pos} {f:Value} {g:List AV→EM IT} {es:List Expr} {fs:List (EM AV)} (n:GlobAt C env x f) (hg:CI C k stor f g) (hE:SndEach C k stor env es fs) (hf:autoParam (Ez f=true) aR):
  zj C k stor env (.Call (.Name x p) es [] pos) (ae (bN fs) g):=by
 intro A rm σ it bc h φ Λ s R Q hq
 refine jt (kg H n R.core ?_)
 exact pZ hf hE rm h R λ l az vs aZ aJ ar aN bD bq hv=>hg A rm az l it bc aN aJ ar aZ vs bD hv Q λ a cF bH bp s' R' cL gi I=>hq a cF bH bp s' R' (bq.trans cL) gi I
noncomputable def jB (v:AV):EM IT:=λ σ=>match v with
 | .ref n=>match getL σ.h n with
  |some _=>some (.list n,σ)
  |none=>none
 | .bytes b=>some (.bytes b,σ)
 | .tup l=>some (.tup l,σ)
 |_=>none
theorem Ex {v:AV} {σ bc:St} {it:IT} {P:Prop} (e:jB v σ=some (it,bc)) (k1:∀n vs,v= .ref n→getL σ.h n=some vs→it= .list n→σ=bc→P) (k2:∀b,v= .bytes b→it= .bytes b→σ=bc→P) (k3:∀l,v= .tup l→it= .tup l→σ=bc→P):P:=by
 cases v with
 |ref n=>refine rp (o:=getL σ.h n) (f:=λ z=>some (IT.list n,σ)) ?_ λ l h1 h2=>lH h2 λ e1 e2=>k1 n l rfl h1 e1 e2;set_option smartUnfolding false in exact e
 |bytes b=>exact lH e λ e1 e2=>k2 b rfl e1 e2
 |tup b=>exact lH e λ e1 e2=>k3 b rfl e1 e2
 |_=>exact dq e
theorem Hp {A:Around} {σ bc:St} {v:AV} {it:IT} (h:jB v σ=some (it,bc)) {φ:List Addr} {Λ:bj} {s:Shared} {rv:Value} (R:RepS C stor σ φ Λ s) (hv:VR φ Λ v rv) {Q:Value→Shared→Prop} (q:GK C stor φ Λ it bc Q):
  wpAny C.M A (pyIter rv) Q (λ _ _=>False) s:=by
 refine Ex h (λ n vs e hg e1 e2=>?_) (λ b e e1 e2=>?_) (λ l e e1 e2=>?_)<;>clear h<;>subst e<;>subst e1<;>subst e2
 ·refine VR.eref hv λ a ha=>?_;clear hv
  refine bM (fM R.toRepH hg ha) λ rvs hl hvs=>?_
  exact wpAny_pyIter_list hl (q _ φ Λ _ _ (R.side .amb rfl) (.refl _ _) (.new R.core.vac _) ⟨a,ha,R.core.vac,_,bj.set_self ..,rfl,rfl⟩)
 ·refine VR.ebytes hv λ _=>?_;clear hv
  exact KBw.pyIter_bytes (q _ φ Λ _ _ (R.side .amb rfl) (.refl _ _) (.new R.core.vac _) ⟨_,R.core.vac,_,bj.set_self ..,rfl,rfl⟩)
 ·refine VR.etup hv λ _ _ hL hr=>?_;clear hv
  rename_i ta rvs
  have x:ExtE φ Λ φ _:=.new R.core.vac (.amb,{cls:=.type "tuple_iterator",data:=.fields #[.ref ta,.int 0 0]})
  exact wpAny_pyIter_tuple (m9 R.toRepH hL) (q _ φ Λ _ _ (R.side .amb rfl) (.refl _ _) x ⟨_,_,x.fz _ _ hL,hr.mono x.toExtV,R.core.vac,_,bj.set_self ..,rfl,rfl⟩)
theorem dw {iter:Expr} {f:EM AV} (hf:cE C k stor (eval iter env) f):zj C k stor env iter (ae f jB):=by
 intro A rm σ it bc h φ Λ s R Q q
 exact cT hf rm h R λ a az v aZ aJ ar aN bD bq hv=>Hp aN bD hv λ a cF bH bp s' R' cL gi I=>q a cF bH bp s' R' (bq.trans cL) gi I
noncomputable def sF (l:List AV):EM IT:=λ σ=>match l with
 | [.ref n]=>match pv σ.h n with
  |some _=>some (.enum n,σ)
  |none=>none
 |_=>none
theorem uQ:CI C k stor (.type "enumerate") sF:=by
 intro A rm σ l it bc h φ Λ s vs R hv Q q
 unfold sF at h
 injections IK h n e;subst e
 refine VRs.econs hv λ z z ha hr=>?_;clear hv
 refine VRs.enil hr ?_;clear hr
 refine VR.eref ha λ a had=>?_;clear ha
 injections rp h ws hg
 refine lH h λ e1 e2=>?_;clear h;subst e1 e2
 refine bK (mW R.toRepH hg had) λ rvs j h1 h2 hvs=>?_
 have hl:=(R.core.here _ _ _ h1).1
 refine call_enumerate_1 hl λ h' he hit hz hk=>wpAny_pyIter_enum he ?_
 refine dU hit λ o k1 k2 k3=>?_;clear hit
 have lt:∀{b:Addr} {x:Own×Obj},Λ b=some x→b≠s.heap.objs.size∧b≠s.heap.objs.size+1:=λ{b x} e=>by
  obtain⟨w,o'⟩:=x
  have:=cB (R.core.here _ _ _ e).1
  exact dF (dE this) (dE (Nat.lt_succ_of_lt this))
 have hz1:Λ (s.heap.objs.size+1)=none:=by
  cases e:Λ (s.heap.objs.size+1) with
  |none=>rfl
  |some x=>exact absurd rfl (lt e).2
 have hlow:cStatics<s.heap.objs.size:=by
  refine gX R.core.two λ Eg bT=>?_
  exact cB (R.core.keep _ _ bT)
 have hb:∀b,s.heap.objs.size≤b→C.base.get? b=none:=λ b hb=>by
  cases e:C.base.get? b with
  |none=>rfl
  |some o'=>exact absurd (cB (R.core.keep _ _ e)) (Nat.not_lt.mpr hb)
 have R':RepS C stor σ φ ((Λ.set s.heap.objs.size (.amb,o)).set (s.heap.objs.size+1) (.amb,{cls:=.type "enumerate",dict:=none,data:=.fields #[.none,.bool false,.ref s.heap.objs.size,rawInt 0,.none,.none],slots:=#[]})) {s with heap:=h'}:=by
  refine R.ambs (s':=s) (tk:=s.toks) (λ b w e5 hw e=>?_) (λ b w e5 e=>?_) (λ b e5 e=>hk b e5 (R.core.keep b e5 e))
  ·exact dF (by rw[bj.set_ne _ _ (lt e).2,bj.set_ne _ _ (lt e).1];exact e) (hk b e5 (R.core.here _ _ _ e).1)
  ·by_cases q1:b=s.heap.objs.size+1
   ·subst q1;rw[bj.set_self] at e;refine lH e λ e1 e2=>?_;clear e;subst e1 e2
    exact .inr ⟨he,hb _ (jo _),Nat.lt_succ_of_lt hlow⟩
   rw[bj.set_ne _ _ q1] at e
   by_cases q2:b=s.heap.objs.size
   ·clear q1;subst q2;rw[bj.set_self] at e;refine lH e λ e1 e2=>?_;clear e;subst e1 e2
    exact .inr ⟨k1,hb _ (bz _),hlow⟩
   rw[bj.set_ne _ _ q2] at e
   by_cases hw:w= .amb
   ·exact .inr ⟨hk b e5 (R.core.here _ _ _ e).1,(R.core.here _ _ _ e).2,R.core.low _ _ e⟩
   ·exact .inl ⟨e,hw⟩
 have xk:∀b w e5,Λ b=some (w,e5)→((Λ.set s.heap.objs.size (.amb,o)).set (s.heap.objs.size+1) (.amb,{cls:=.type "enumerate",dict:=none,data:=.fields #[.none,.bool false,.ref s.heap.objs.size,rawInt 0,.none,.none],slots:=#[]})) b=some (w,e5):=λ b w e5 e=>by
  rw[bj.set_ne _ _ (lt e).2,bj.set_ne _ _ (lt e).1];exact e
 refine q _ φ Λ _ _ R' (.refl _ _) ⟨⟨⟨bG _,λ b o e=>xk b _ o e⟩,λ b o e=>xk b _ o e⟩,λ b o e=>xk b _ o e,λ b o e=>xk b _ o e⟩ ⟨a,s.heap.objs.size,.none,had,⟨R.core.vac,o,?_,k2,k3⟩,hz1,(cO _),bj.set_self ..⟩
 rw[bj.set_ne _ _ (f9 (cO _)),bj.set_self]
noncomputable def D8 (l:List AV):EM IT:=λ σ=>match l with
 | [.ref n]=>match getL σ.h n with
  |some vs=>some (.rev n vs.length,σ)
  |none=>none
 |_=>none
theorem I9:CI C k stor (.type "reversed") D8:=by
 intro A rm σ l it bc h φ Λ s vs R hv Q q
 unfold D8 at h
 injections IK h n e;subst e
 refine VRs.econs hv λ z z ha hr=>?_;clear hv
 refine VRs.enil hr ?_;clear hr
 refine VR.eref ha λ a had=>?_;clear ha
 injections rp h ws hg
 refine lH h λ e1 e2=>?_;clear h;subst e1 e2
 refine bM (fM R.toRepH hg had) λ rvs hl hvs=>?_
 refine call_reversed_list hl (wpAny_pyIter_revIter (l:=a) (i:=(rvs.toArray.size:Int)-1) ⟨_,gL _ rfl,rfl,rfl⟩ ?_)
 exact q _ φ Λ _ _ (R.side .amb rfl) (.refl _ _) (.new R.core.vac _) ⟨a,had,et _,R.core.vac,_,bj.set_self ..,rfl,by
  show Data.fields #[.ref a,rawInt ((rvs.toArray.size:Int)-1)]=_
  rw[bn,←hvs.length];simp⟩
noncomputable def kJ:List AV→Option (List Int)
 | []=>some []
 | .int i::l=>(kJ l).map (i::·)
 |_=>none
theorem pP {φ:List Addr} {Λ:bj} {l:List AV} {vs:List Value} {ns:List Int} (h:VRs φ Λ l vs):kJ l=some ns→IntsAre vs ns:=
 h.ind (P:=λ l vs=>∀{ns},kJ l=some ns→IntsAre vs ns) (λ e=>sk e λ e=>e▸.nil) λ{a v l vs} h r ih ns e=>by
  cases a with
  |int i=>
   refine VR.qint h λ t ev=>?_
   clear h;subst ev
   refine bM (cH.mp e) λ ms e1 uu0=>?_;clear e;subst uu0
   exact .cons _ _ (ih e1)
  |_=>exact dq e
noncomputable def K8:List Int→Option (Int×Int×Int)
 | [b]=>some (0,b,1)
 | [a,b]=>some (a,b,1)
 | [a,b,c]=>if c≠0∧(b-a).natAbs<2^29∧c.natAbs<2^29 then some (a,b,c) else none
 |_=>none
@[irreducible] noncomputable def f4 (l:List AV):EM IT:=λ σ=>((kJ l).bind K8).bind λ p=>if Builtin.Range.small p.1 p.2.1 p.2.2 then some (.range p.1 (Builtin.Range.rangeSize p.1 p.2.1 p.2.2) p.2.2,σ) else none
theorem As {α:Type} {c:Prop} [Decidable c] {x y:α} (h:(if c then some x else none)=some y):c∧x=y:=by
 by_cases q:c
 ·rw[if_pos q] at h;exact⟨q,bQ h⟩
 ·rw[if_neg q] at h;exact dq h
theorem vA {A:Around} {σ:St} {φ:List Addr} {Λ:bj} {s:Shared} (R:RepS C stor σ φ Λ s) {a b c:Int} {t u v:Tok} {tk:Nat} (hs:Builtin.Range.small a b c=true) {Q:Value→Shared→Prop}
  (q:GK C stor φ Λ (.range a (Builtin.Range.rangeSize a b c) c) σ Q):wpAny C.M A (pyIter (.ref s.heap.objs.size)) Q (λ z z=>False) {s with heap:=s.heap.push {cls:=.type "range",data:=.fields #[.int a t,.int b u,.int c v]},toks:=tk}:=by
 have hk:∀b' o,s.heap.get? b'=some o→(s.heap.push {cls:=.type "range",data:=.fields #[.int a t,.int b u,.int c v]}).get? b'=some o:=λ b' o e=>bB _ e
 have R':=(R.keeps hk).tok tk
 refine wpAny_pyIter_range (gL _ rfl) hs (q _ φ Λ _ _ (R'.side .amb rfl) (.refl _ _) (.new R'.core.vac _) ⟨?_,R'.core.vac,?_⟩)
 ·show(0:Int)≤_
  omega
 ·rw[bj.set_self];simp
theorem iw:CI C k stor (.type "range") f4:=by
 intro A rm σ l it bc h φ Λ s vs R hv Q q
 unfold f4 at h
 refine bM (cU.mp h) λ p hp h2=>?_
 refine bM (cU.mp hp) λ ns hn h3=>?_
 refine dL (As h2) λ hs e=>?_
 have I:=pP hv hn
 clear h h2 hp hn hv
 cases e
 cases I with
 |nil=>exact dq h3
 |cons a t I=>
  cases I with
  |nil=>cases h3;exact call_range_1 (vA R hs q)
  |cons b u I=>
   cases I with
   |nil=>cases h3;exact call_range_2 (vA R hs q)
   |cons c v I=>
    cases I with
    |nil=>
     refine dL (As h3) λ hc e=>?_
     cases e
     exact call_range_3 hc.1 (vA (tk:=s.toks) R hs q) (.inl (PyProof.noPylong_small (by exact f!"1a1.+1073741824.>1a1.+536870912.<1" hc.2.2)))
    |cons=>exact dq h3
end
end
section
open PySem.SeqAt
noncomputable def q9 (it:IT) (asg:AV→EM Unit) (test:EM Bool) (fe:EM AV):Nat→Nat→EM (List AV)
 |0,_=>λ z=>none
 |n+1,i=>λ σ=>match lP it i σ.h with
  |none=>none
  |some none=>some ([],σ)
  |some (some v)=>ae (asg v) (λ z=>ae test λ b=>if b then ae fe (λ x=>ae (q9 it asg test fe n (i+1)) λ l=>ret (x::l)) else q9 it asg test fe n (i+1)) σ
noncomputable def lK (is:List Nat) (l:List (Option AV)):List (Option AV):=is.foldl (λ l i=>l.set i none) l
@[irreducible] noncomputable def pW (is:List Nat) (tgt:IT→Bool) (g:EM IT) (asg:AV→EM Unit) (test:EM Bool) (fe:EM AV):EM (List AV):=ae g λ it σ=>
 if tgt it=true∧∀i∈is,i<σ.l.length then match q9 it asg test fe (pO it σ.h+1) 0 σ with
  |some (l,bc)=>if bc.l.length=σ.l.length∧iJ l.length=true then some (l,{bc with l:=lK is bc.l}) else none
  |none=>none else none
@[irreducible] noncomputable def fg (is:List Nat) (tgt:IT→Bool) (g:EM IT) (asg:AV→EM Unit) (test:EM Bool) (fe:EM AV):EM AV:=ae (pW is tgt g asg test fe) gH
theorem mO:∀(is:List Nat) (l:List (Option AV)),(lK is l).length=l.length
 | [],_=>rfl
 |i::is,l=>(mO is (l.set i none)).trans (by simp)
theorem Cf:∀(is:List Nat) (l:List (Option AV)) (j:Nat),j∈is→j<l.length→(lK is l)[j]? =some none
 |i::is,l,j,h,hl=>by
  show(lK is (l.set i none))[j]? =_
  by_cases hj:j∈is
  ·exact Cf is _ j hj (by simpa using hl)
  ·have e:j=i:=by rcases bo.mp h with h|h;exact h;exact absurd h hj
   subst e
   have key:∀(is:List Nat) (l:List (Option AV)),j∉is→(lK is l)[j]? =l[j]? :=by
    intro is
    induction is with
    |nil=>intro l _;rfl
    |cons a t ih=>intro l hn;show(lK t (l.set a none))[j]? =_;rw[ih _ λ q=>hn (bI _ q),cZ (show a≠j from λ q=>hn (by rw[q];exact bA))]
   rw[key is _ hj,jx hl]
theorem rN:∀(is:List Nat) (l:List (Option AV)) (j:Nat),j∉is→(lK is l)[j]? =l[j]?
 | [],_,_,_=>rfl
 |a::t,l,j,hn=>by
  show(lK t (l.set a none))[j]? =_
  rw[rN t _ j λ q=>hn (bI _ q),cZ (show a≠j from λ q=>hn (by rw[q];exact bA))]
noncomputable def eX (stor:Nat→Stor) (m:Nat→Option Stor):Nat→Stor:=λ i=>match m i with
 |some st=>st
 |none=>stor i
section
variable{C:Cx} {stor:Nat→Stor} {σ:St} {φ:List Addr} {Λ:bj} {s:Shared}
theorem Stor.at_of {st:Stor} (h:st≠.none):∃b,st.at b:=by
 cases st with
 |ns a x=>exact si a rfl
 |cell a=>exact si a rfl
 |none=>exact absurd rfl h
theorem rb.there {ov:Option AV} {st:Stor} (h:rb φ Λ ov st) {b:Addr} (hb:st.at b):∃w o,Λ b=some (w,o)∧(w= .ns∨w= .cell):=by
 cases st with
 |ns a x=>refine ce h λ o m h1 z=>?_;clear h;subst hb;exact vE _ o h1 (.inl rfl)
 |cell a=>refine ce h λ o v h1 z=>?_;clear h;subst hb;exact vE _ o h1 (.inr rfl)
 |none=>exact hb.elim
theorem RepS.enter (R:RepS C stor σ φ Λ s) {bp:bj} {s':Shared} {m:Nat→Option Stor} (R':RepH C σ.h φ bp s') (x:ExtE φ Λ φ bp)
  (hm:∀i st,m i=some st→stor i= .none∧st≠.none∧rb φ bp none st∧∀b,st.at b→Λ b=none) (hu:∀i j st,m i=some st→m j=some st→i=j):RepS C (eX stor m) σ φ bp s':=by
 have clash:∀{i j:Nat} {st:Stor},m i=some st→m j=none→j<σ.l.length→st=stor j→False:=λ{i j st} hi hj hl e=>by
  refine gX (Stor.at_of (hm i st hi).2.1) λ b hb=>?_
  refine ce ((R.slots j _ (aq hl)).there (e▸hb)) λ w o h1 z=>?_
  rw[(hm i st hi).2.2.2 b hb] at h1;exact dq h1
 refine⟨R',λ i av e=>?_,λ i j hi hj e hn=>?_⟩
 ·show rb φ bp av (match m i with|some st=>st|none=>stor i)
  have S:=R.slots i av e
  cases hi:m i with
  |some st=>
   refine oW (hm i st hi) λ h1 h2 h3 z=>?_
   rw[h1] at S
   have S:av=none:=S
   clear e;subst S
   exact h3
  |none=>exact S.mono x
 ·have ei:eX stor m i=match m i with|some st=>st|none=>stor i:=rfl
  have ej:eX stor m j=match m j with|some st=>st|none=>stor j:=rfl
  cases hmi:m i with
  |some st=>cases hmj:m j with
   |some st'=>rw[ei,ej,hmi,hmj] at e;have e:st=st':=e;subst e;exact hu i j st hmi hmj
   |none=>rw[ei,ej,hmi,hmj] at e;exact(clash hmi hmj hj e).elim
  |none=>cases hmj:m j with
   |some st'=>rw[ei,ej,hmi,hmj] at e;exact(clash hmj hmi hi e.symm).elim
   |none=>rw[ei,ej,hmi,hmj] at e;rw[ei,hmi] at hn;exact R.uniq i j hi hj e hn
theorem RepS.leave {m:Nat→Option Stor} {is:List Nat} (R:RepS C (eX stor m) σ φ Λ s) {L:Addr} {o:Obj} {h':Heap} (hL:Λ L=some (.ns,o)) (hs:Heap.SameBut L s.heap h') (hin:∀i,i∈is↔∃st,m i=some st)
  (hnone:∀i∈is,stor i= .none) (hne:∀i,i∉is→i<σ.l.length→¬(stor i).at L):RepS C stor {σ with l:=lK is σ.l} φ (Λ.del L) {s with heap:=h'}:=by
 have k:∀a w o,a≠L→Λ a=some (w,o)→Λ.del L a=some (w,o):=λ a w o hn e=>(if_neg hn).trans e
 have nl:∀a w o,w≠.ns→Λ a=some (w,o)→a≠L:=λ a w o hw e q=>by rw[q,hL] at e;refine lH e λ e1 e2=>?_;clear e;subst e1 e2;exact hw rfl
 have xv:ExtV φ Λ φ (Λ.del L):=⟨bG _,λ a o e=>k a _ o (nl a .fz o nofun e) e⟩
 have hk:∀b o,b≠L→s.heap.get? b=some o→h'.get? b=some o:=λ b o hn e=>(hs.2 b hn).trans e
 refine⟨⟨⟨λ b o e=>hk b o (λ q=>?_) (R.core.keep b o e),λ a w o e=>?_,R.core.two,λ a x e=>?_,R.core.gens,R.core.drawn,R.core.os⟩,R.inj,R.len,λ n ao e=>?_⟩,λ i ov e=>?_,λ i j hi hj e hn=>?_⟩
 ·rw[q,(R.core.here _ _ _ hL).2] at e;exact dq e
 ·by_cases q:a=L
  ·have e:Λ.del L a=_:=e;rw[bj.del,if_pos q] at e;exact dq e
  ·have e:Λ.del L a=_:=e;rw[bj.del,if_neg q] at e;exact dF (hk a o q (R.core.here _ _ _ e).1) ((R.core.here _ _ _ e).2)
 ·by_cases q:a=L
  ·have e:Λ.del L a=_:=e;rw[bj.del,if_pos q] at e;exact dq e
  ·have e:Λ.del L a=_:=e;rw[bj.del,if_neg q] at e;exact R.core.low _ _ e
 ·refine bM (R.objs n ao e) λ a h1 h2=>?_
  exact fV a h1 (h2.mono xv λ b o q=>by rcases q with q|q<;>rw[q]<;>exact k b _ o (nl b _ o (λ z=>by cases z) q) q)
 ·have e:(lK is σ.l)[i]? =some ov:=e
  by_cases hi:i∈is
  ·have hl:i<σ.l.length:=by have:=(aA.mp e).1;rwa [mO] at this
   rw[Cf is _ i hi hl] at e;refine sk e λ e1=>?_;clear e;clear e;subst e1
   rw[hnone i hi];rfl
  ·rw[rN is _ i hi] at e
   have hl:i<σ.l.length:=(aA.mp e).1
   have hm:m i=none:=by cases q:m i with|none=>rfl|some st=>exact absurd ((hin i).mpr ⟨st,q⟩) hi
   have S:=R.slots i ov e
   have ei:eX stor m i=stor i:=by unfold eX;rw[hm]
   rw[ei] at S
   have hL':=hne i hi hl
   cases hst:stor i with
   |ns a y=>
    rw[hst] at S hL'
    refine bK S λ ob mb h1 h2 h3=>?_;clear S
    exact c9 ob mb (k a _ _ (λ q=>hL' q) h1) h2 (λ av q=>let⟨v,e1,e2⟩:=h3 av q;⟨v,e1,e2.mono xv⟩)
   |cell a=>
    rw[hst] at S hL'
    refine bK S λ ob mb h1 h2 h3=>?_;clear S
    exact c9 ob mb (k a _ _ (λ q=>hL' q) h1) h2 (λ av q=>let⟨v,e1,e2⟩:=h3 av q;⟨v,e1,e2.mono xv⟩)
   |none=>rw[hst] at S;exact S
 ·have hi:i<σ.l.length:=by have hi:i<(lK is σ.l).length:=hi;rwa [mO] at hi
  have hj:j<σ.l.length:=by have hj:j<(lK is σ.l).length:=hj;rwa [mO] at hj
  have nn:∀i,stor i≠.none→eX stor m i=stor i:=λ i hn=>by
   unfold eX
   cases q:m i with
   |none=>rfl
   |some st=>exact absurd (hnone i ((hin i).mpr ⟨st,q⟩)) hn
  exact R.uniq i j hi hj (by rw[nn i hn,nn j (e▸hn),e]) (by rw[nn i hn];exact hn)
theorem RepS.adopt (R:RepS C stor σ φ Λ s) {D:Addr} {vs:List AV} {rvs:List Value} {j:Nat} (hD:Λ D=some (.amb,b8 rvs j)) (hv:VRs φ Λ vs rvs):
  RepS C stor {σ with h:=σ.h++[.list vs]} (φ++[D]) (Λ.set D (.obj σ.h.length,b8 rvs j)) s:=by
 have kn:∀a w o,w≠.amb→Λ a=some (w,o)→Λ.set D (.obj σ.h.length,b8 rvs j) a=some (w,o):=λ a w o hw e=>(bj.set_ne _ _ λ q=>by rw[q,hD] at e;refine lH e λ e1 e2=>?_;clear e;subst e1 e2;exact hw rfl).trans e
 have xv:ExtV φ Λ (φ++[D]) (Λ.set D (.obj σ.h.length,b8 rvs j)):=⟨jw _ _,λ a o e=>kn a _ o nofun e⟩
 have I2:∀n:Nat,φ[n]?≠some D:=λ n q=>uN R.toRepH q hD rfl
 refine⟨⟨⟨R.core.keep,λ a w o e=>?_,R.core.two,λ a x e=>?_,R.core.gens,R.core.drawn,R.core.os⟩,?_,by simp[R.len],λ n ao e=>?_⟩,λ i ov e=>?_,R.uniq⟩
 ·by_cases q:a=D
  ·clear I2 xv kn;subst q;rw[bj.set_self] at e;refine lH e λ e1 e2=>?_;clear e;subst e1 e2;exact R.core.here _ _ _ hD
  ·rw[bj.set_ne _ _ q] at e;exact R.core.here _ _ _ e
 ·by_cases q:a=D
  ·clear e I2 xv kn;subst q;exact R.core.low _ _ hD
  ·rw[bj.set_ne _ _ q] at e;exact R.core.low _ _ e
 ·refine iO.mpr ⟨R.inj,jR.mpr ⟨jf,List.nodup_nil⟩,λ a ha b hb e=>?_⟩
  refine gX (List.mem_iff_getElem.mp ha) λ n y=>?_;refine gX y λ hn uu0=>?_;clear y ha;subst uu0
  have:b=D:=by simpa using hb
  clear hb xv kn hD;subst this
  exact I2 n ((aq hn).trans (congrArg some e))
 ·by_cases hn:n<σ.h.length
  ·have e:(σ.h++[AO.list vs])[n]? =some ao:=e
   rw[fN hn] at e
   refine bM (R.objs n ao e) λ a h1 h2=>?_
   exact fV a (iW xv.pre h1) (h2.mono xv λ b o q=>by rcases q with q|q<;>rw[q]<;>exact kn b _ o (λ z=>by cases z) q)
  ·have hl:=(aA.mp e).1
   have hn':n=σ.h.length:=by simp at hl;exact jm (f!"1ab>1a1.+b1.+<2" hl)<|f!"1ab>1ab<2" (aG hn)
   subst hn'
   have:ao= .list vs:=by simpa using e.symm
   clear e;subst this
   exact fV D (by rw[←R.len];simp) (vE rvs j (bj.set_self ..) (hv.mono xv))
 ·have S:=R.slots i ov e
  cases hs:stor i with
  |ns a x=>rw[hs] at S;refine bK S λ o m h1 h2 h3=>?_;clear S;exact c9 o m (kn a .ns o nofun h1) h2 (λ av q=>let⟨v,e,r⟩:=h3 av q;⟨v,e,r.mono xv⟩)
  |cell a=>rw[hs] at S;refine bK S λ o v h1 h2 h3=>?_;clear S;exact c9 o v (kn a .cell o nofun h1) h2 (λ av q=>let⟨v,e,r⟩:=h3 av q;⟨v,e,r.mono xv⟩)
  |none=>rw[hs] at S;exact S
end
theorem zm.more {it:IT} {φ:List Addr} {cJ Λ uW:bj} {i:Nat} {a:Addr} (hn:∀b x,Λ b=some x→cJ b=none→uW b=none) (h:zm it φ cJ Λ i a):zm it φ uW Λ i a:=by
 have am:∀{a c fs},pe cJ Λ a c fs→pe uW Λ a c fs:=λ{a c fs} q=>by refine dL q λ h0 y=>?_;refine bM y λ o h1 h2=>?_;clear y q;exact dF (hn _ _ h1 h0) (fV o h1 h2)
 cases it with
 |list n=>refine bM h λ l h1 h2=>?_;clear h;exact fV l h1 (am h2)
 |enum n=>refine iE h λ l j old h1 h2 h3 h4 h5=>?_;clear h;exact nR l j old h1 (am h2) (hn _ _ h5 h3) h4 h5
 |rev n len=>refine dU h λ l h1 h2 h3=>?_;clear h;exact Aj l h1 h2 (am h3)
 |range p q r=>refine iH h λ h0 h1 h2=>?_;clear h;exact lO h0 (hn _ _ h2 h1) h2
 |bytes b=>revert h;refine λ yy=>gX yy λ t h=>?_;clear yy;exact si t (am h)
 |tup l=>refine bK h λ ta vs h1 h2 h3=>?_;clear h;exact c9 ta vs h1 h2 (am h3)
theorem zm.setOther {it:IT} {φ:List Addr} {cJ Λ:bj} {i:Nat} {a D:Addr} {x y:Own×Obj} {o:Obj} (hD:cJ D=some y) (hDa:Λ D=some (.amb,o)) (h:zm it φ cJ Λ i a):zm it φ cJ (Λ.set D x) i a:=by
 have ne:∀{b},cJ b=none→b≠D:=λ{b} e q=>by rw[q,hD] at e;exact IG e
 have am:∀{a c fs},pe cJ Λ a c fs→pe cJ (Λ.set D x) a c fs:=λ{a c fs} q=>by refine dL q λ h0 y=>?_;refine bM y λ o h1 h2=>?_;clear y q;exact dF h0 (fV o ((bj.set_ne _ _ (ne h0)).trans h1) h2)
 have fz:∀b o',Λ b=some (.fz,o')→(Λ.set D x) b=some (.fz,o'):=λ b o' e=>(bj.set_ne _ _ λ q=>by rw[q,hDa] at e;cases e).trans e
 cases it with
 |list n=>refine bM h λ l h1 h2=>?_;clear h;exact fV l h1 (am h2)
 |enum n=>refine iE h λ l j old h1 h2 h3 h4 h5=>?_;clear h;exact nR l j old h1 (am h2) h3 h4 ((bj.set_ne _ _ (ne h3)).trans h5)
 |rev n len=>refine dU h λ l h1 h2 h3=>?_;clear h;exact Aj l h1 h2 (am h3)
 |range p q r=>refine iH h λ h0 h1 h2=>?_;clear h;exact lO h0 h1 ((bj.set_ne _ _ (ne h1)).trans h2)
 |bytes b=>revert h;refine λ yy=>gX yy λ t h=>?_;clear yy;exact si t (am h)
 |tup l=>refine bK h λ ta vs h1 h2 h3=>?_;clear h;exact c9 ta vs (fz _ _ h1) (h2.mono ⟨bG _,fz⟩) (am h3)
end
section
open PySem.SeqAt
section
variable{C:Cx} {k:Nat} {stor:Nat→Stor} {σ:St} {φ:List Addr} {Λ cJ:bj} {s:Shared} {A:Around} {E:Value→Shared→Prop} {env:Env}
theorem CS (it:IT) {i:Nat} {a:Addr} (R:RepS C stor σ φ Λ s) (I:zm it φ cJ Λ i a) {Q:Value→Shared→Prop} (q:Q (.ref a) s):wpAny C.M A (pyIter (.ref a)) Q E s:=by
 cases it with
 |list n=>refine dU I λ l h1 h2 y=>?_;refine dU y λ o h3 h4 h5=>?_;clear y I;exact wpAny_pyIter_listiter (l:=l) (i:=i) ⟨o,(R.core.here _ _ _ h3).1,h4,h5⟩ q
 |enum n=>refine iE I λ l j old h1 h2 h3 h4 h5=>?_;clear I;exact wpAny_pyIter_enum (R.core.here _ _ _ h5).1 q
 |rev n len=>refine ry I λ l h1 h2 h0 y=>?_;refine dU y λ o h3 h4 h5=>?_;clear y I;exact wpAny_pyIter_revIter (l:=l) ⟨o,(R.core.here _ _ _ h3).1,h4,h5⟩ q
 |range x y z=>refine iH I λ h0 h1 h2=>?_;clear I;exact wpAny_pyIter_rangeiter (R.core.here _ _ _ h2).1 q
 |bytes b=>refine bM I λ t h2 y=>?_;refine dU y λ o h3 h4 h5=>?_;clear y I;exact KBw.pyIter_self (b:=b) (t:=t) (i:=i) ⟨o,(R.core.here _ _ _ h3).1,h4,h5⟩ q
 |tup l=>refine ft I λ ta vs h1 h2 h0 y=>?_;refine dU y λ o h3 h4 h5=>?_;clear y I;exact wpAny_pyIter_tupleiter (t:=ta) (i:=i) ⟨o,(R.core.here _ _ _ h3).1,h4,h5⟩ q
noncomputable abbrev fP (ifs:List Expr) (env:Env):Sem Bool:=forIn ifs true λ c r=>if r=true then do let ok←isTrue c env (eval c env);pure (ForInStep.yield ok) else pure (ForInStep.yield r)
theorem dp:kR C k stor (fP [] env) (ret true):=by
 intro A rm σ av bc h φ Λ s R
 refine ir h ?_;clear h
 exact wpAny_tests_nil ⟨φ,Λ,R,.refl _ _,rfl⟩
theorem iA {c:Expr} {f:EM Bool} (h:kR C k stor (isTrue c env (eval c env)) f):kR C k stor (fP [c] env) f:=by
 intro A rm σ av bc h' φ Λ s R
 exact wpAny_tests_one (h A rm σ av bc h' φ Λ s R)
theorem pY {prog:Program} {w:World} {A:Around} {R:Result→Shared→Prop} {s:Shared} {elt target iter:Expr} {ifs:List Expr} {scope:Scope} {pos:Pos} {it acc:Value} {env:Env} (I:Nat→Shared→Prop)
  (turn:∀n s,I n s→wpAny (model prog w) A (pyNext it) (λ r aZ=>match r with
   |none=>R (.ok .next) aZ
   |some v=>wpAny (model prog w) A (letOwnedTupleGo target it v) (λ z HU=>wpAny (model prog w) A (assign target env v) (λ z ey=>
     wpAny (model prog w) A (fP ifs env) (λ ok io=>
      if ok=true then wpAny (model prog w) A (eval elt env) (λ x yg=>
       wpAny (model prog w) A (call (.builtin "list.append") [acc,x]) (λ z zO=>∃m,m<n∧I m zO) (notedBy (model prog w) A env λ e s'=>R (.error e) s') yg) (notedBy (model prog w) A env λ e s'=>R (.error e) s') io
      else∃m,m<n∧I m io) (notedBy (model prog w) A env λ e s'=>R (.error e) s') ey) (notedBy (model prog w) A env λ e s'=>R (.error e) s') HU) (notedBy (model prog w) A env λ e s'=>R (.error e) s') aZ) (notedBy (model prog w) A env λ e s'=>R (.error e) s') s)
  (n:Nat) (h:I n s):
  codeAny (model prog w) A (.compLoop (.ListComp elt [⟨target,iter,ifs,0⟩] scope pos) 0 it acc env) R s:=by
 refine codeAny_loop rfl I (λ n s hI=>?_) n h
 show wpAny _ A ((compTurn (.ListComp elt [⟨target,iter,ifs,0⟩] scope pos) 0 it acc env).onRaise (λ x=>do noteFrame x env;theTreesLotGoes x)) _ _ s
 refine wpAny_noted ?_
 rw[compTurn_list]
 refine al (bP (al (aV (turn n s hI) (λ r aZ aN=>?_) λ z z h'=>h')))
 cases r with
 |none=>exact aO aN
 |some v=>
  refine al (aV aN (λ z HU Kg=>?_) λ z z h'=>h')
  refine al (aV Kg (λ z ey bT=>al (aV bT (λ ok io iQ=>?_) λ z z h'=>h')) λ z z h'=>h')
  cases ok with
  |false=>exact aO ⟨rfl,iQ⟩
  |true=>
   exact al (al (aV iQ (λ x yg vP=>al (aV vP (λ z zO ot=>aO (aO ⟨rfl,ot⟩)) λ z z h'=>h')) λ z z h'=>h'))
theorem xR {stor':Nat→Stor} {cenv:Env} {elt target iter:Expr} {ifs:List Expr} {scope:Scope} {pos:Pos} {asg:AV→EM Unit} {test:EM Bool} {fe:EM AV} {is:List Nat} {ar:bj} {aJ:List Addr}
  (ha:wl C k stor' is (assign target cenv) asg) (ht:kR C k stor' (fP ifs cenv) test) (he:cE C k stor' (eval elt cenv) fe) {A:Around} (rm:Rm A k) {it:IT} (hok:kz target it=true) {a D:Addr} {R:Result→Shared→Prop} {y:Own×Obj}
  (hfr:∀i∈is,∀b,(stor' i).at b→ar b=none) (h0D:cJ D=some y) (h1D:ar D=none) (h01:∀b x,ar b=some x→∃x',cJ b=some x') {az:St} {all:List AV} (hsz:all.length≤sizeLine)
  (hR:∀cF bp s' rvs j,RepS C stor' az cF bp s'→ExtE aJ ar cF bp→bp D=some (.amb,b8 rvs j)→VRs cF bp all rvs→R (.ok .next) s')
  {N i:Nat} {l vs:List AV} {rvs:List Value} {j:Nat} (hl:vs++l=all) (h:q9 it asg test fe N i σ=some (l,az)) (KL:RepS C stor' σ φ Λ s) (x:ExtE aJ ar φ Λ) (I:zm it φ cJ Λ i a) (hD:Λ D=some (.amb,b8 rvs j)) (hv:VRs φ Λ vs rvs):
  codeAny C.M A (.compLoop (.ListComp elt [⟨target,iter,ifs,0⟩] scope pos) 0 (.ref a) (.ref D) cenv) R s:=by
 have off1:∀{Λ bp:bj},Io cJ Λ bp→Io ar Λ bp:=λ o b x z e f=>let⟨x',e'⟩:=h01 b x e;o b x' z e' f
 refine pY (λ n s'=>∃i cG cD bH l vs rvs j,vs++l=all∧q9 it asg test fe n i cG=some (l,az)∧RepS C stor' cG cD bH s'∧ExtE aJ ar cD bH∧zm it cD cJ bH i a∧bH D=some (.amb,b8 rvs j)∧VRs cD bH vs rvs) ?_ N
  ⟨i,σ,φ,Λ,l,vs,rvs,j,hl,h,KL,x,I,hD,hv⟩
 clear hl h KL x I hD hv
 intro n aZ ww0;refine mS ww0 λ i cG cD bH l y=>?_;refine iE y λ vs rvs j hl h cX cL y=>?_;refine iH y λ KQ hD hv=>?_;clear y;clear y ww0
 cases n with
 |zero=>exact dq h
 |succ n=>
  rw[q9] at h
  dsimp only at h
  set_option smartUnfolding false in refine LD h (λ hit hh=>?_) λ av hit hh=>?_<;>clear h
  ·refine lH hh λ e1 e2=>?_;clear hh;subst e1 e2
   refine uF rm.hd it hok hit cX KQ (λ u gw io f6 yE E2=>?_) λ av v io q=>by exact dq q
   have AA:=yE D _ _ h0D hD
   refine hR cD gw io rvs j f6 (cL.off (off1 yE)) AA ?_
   rw[←hl,eJ]
   exact hv.mono E2
  ·refine uF rm.hd it hok hit cX KQ (λ q=>by exact IG q) λ av' v io q go=>?_
   refine sk q λ e1=>?_;clear q;subst e1
   refine go λ gw io f6 yE E2 hva JG=>?_
   refine ce (br hh) λ u mv h3 h4=>?_
   refine aV (ha A rm cG av mv h3 cD gw io v f6 hva) (λ u yg p=>?_) λ u u x=>x.elim
   refine dU p λ uV oA ul K9=>?_;clear p
   have x14:ExtE aJ ar cD uV:=(cL.off (off1 yE)).off λ b z w e f=>(K9 b λ i hi hb=>by rw[hfr i hi b hb] at e;exact dq e).trans f
   have H5:=ul.amb _ _ (yE D _ _ h0D hD)
   have H1:=(hv.mono E2).mono ul.toExtV
   have A0:=JG.mono ul
   refine ce (br h4) λ b oK h5 h6=>?_
   refine aV (ht A rm mv b oK h5 cD uV yg oA) (λ ok zO p=>?_) λ u u x=>x.elim
   refine bK p λ oJ pD mM k9 uu0=>?_;clear p;subst uu0
   cases ok with
   |false=>
    exact fV n (fY n) (CC (i+1) oK oJ pD l (nR vs rvs j hl h6 mM (x14.trans k9) (lO (A0.mono k9.toExtS) (k9.amb _ _ H5) (H1.mono k9.toExtV))))
   |true=>
    refine ce (br h6) λ e zC h7 h8=>?_
    refine ce (br h8) λ l' LC h9 h10=>?_
    refine lH h10 λ e1 e2=>?_;clear h10;subst e1;clear h8 h6 h4 hh hR;subst e2
    refine aV (he A rm oK e zC h7 oJ pD zO mM) (λ ve E9 p=>?_) λ u u x=>x.elim
    refine bK p λ zA oO uy uk hve=>?_;clear p
    have C4:=uk.amb _ _ (k9.amb _ _ H5)
    have Kh:=(H1.mono k9.toExtV).mono uk.toExtV
    have hlen:rvs.length≤sizeLine:=by
     rw[←hv.length]
     have:vs.length≤all.length:=by rw[←hl,ah];exact hP _ _
     exact af this hsz
    refine wpAny_list_append_plain ⟨j,(uy.core.here _ _ _ C4).1⟩ (λ h' hp hs'=>?_) (by rw[bn];exact hlen)
    refine gX hp λ j' hj'=>?_;clear hp
    have hj':h'.get? D=some (b8 (rvs++[ve]) j'):=by rw[hj'];simp
    have GJ:=uy.ambSet (tk:=E9.toks) C4 hs'.extBut hj'
    have K7:ExtV zA oO zA (oO.set D (.amb,b8 (rvs++[ve]) j')):=⟨bG _,λ b o e=>(bj.set_ne _ _ (kE C4 e nofun)).trans e⟩
    refine⟨n,fY n,i+1,zC,zA,_,l',vs++[e],rvs++[ve],j',by rw[←hl];simp,h9,GJ,((x14.trans k9).trans uk).off (j9 h1D),((A0.mono k9.toExtS).mono uk.toExtS).setOther h0D C4,bj.set_self ..,?_⟩
    exact(Kh.append (.cons hve .nil)).mono K7
end
end
section
open PySem.SeqAt
noncomputable def vm (vars:List (Nat×Str)) (L:Addr):Nat→Option Stor:=λ i=>(vars.lookup i).map λ x=>.ns L x
theorem uB {vars:List (Nat×Str)} {L:Addr} {i:Nat} {st:Stor} (h:vm vars L i=some st):∃x,vars.lookup i=some x∧st= .ns L x:=by
 refine bM (cH.mp h) λ x h1 h2=>?_
 exact fV x h1 h2.symm
theorem iD {β:Type}:∀{l:List (Nat×β)} {i:Nat},i∈l.map (·.1)→∃x,l.lookup i=some x
 | (j,b)::l,i,h=>by
  rw[k7]
  by_cases q:i==j
  ·rw[q];exact si b rfl
  ·have q':(i==j)=false:=by simpa using q
   rw[q']
   refine iD ?_
   rcases bo.mp h with h|h
   ·exact absurd (by simpa using h) q
   ·exact h
theorem u0 {iy:Nat} {a:Option AV}:∀(is:List Nat) (l:List (Option AV)),iy∉is→lK is (l.set iy a)=(lK is l).set iy a
 | [],_,_=>rfl
 |i::is,l,h=>by
  have hne:iy≠i:=λ q=>h (by rw[q];exact bA)
  show lK is ((l.set iy a).set i none)=(lK is (l.set i none)).set iy a
  rw[List.set_comm _ _ hne,u0 is _ λ q=>h (bI _ q)]
section
variable{C:Cx} {k:Nat} {stor:Nat→Stor} {env:Env}
noncomputable def bj.only (ar bp:bj):bj:=λ b=>match bp b with
 |none=>none
 |some _=>ar b
theorem ex {ar bp:bj} {b:Addr} {x:Own×Obj} (h:bj.only ar bp b=some x):ar b=some x∧∃y,bp b=some y:=by
 unfold bj.only at h
 revert h
 generalize bp b=z
 intro h
 cases z
 ·exact dq h
 ·exact dF h ⟨_,rfl⟩
theorem gQ {ar bp:bj} {b:Addr} {x y:Own×Obj} (h:ar b=some x) (h':bp b=some y):bj.only ar bp b=some x:=by
 unfold bj.only;rw[h'];exact h
theorem iC {ar bp:bj} {b:Addr} (h:bp b=none):bj.only ar bp b=none:=by unfold bj.only;rw[h]
theorem kD {ar bp:bj} {b:Addr} (h:ar b=none):bj.only ar bp b=none:=by unfold bj.only;cases bp b;rfl;exact h
structure CompAt (C:Cx) (k:Nat) (stor:Nat→Stor) (env:Env) (elt target iter:Expr) (ifs:List Expr) (scope:Scope) (vars:List (Nat×Str)) (cl:List (Str×Addr)) (g:EM IT) (asg:AV→EM Unit) (test:EM Bool) (fe:EM AV):Prop where
 it:zj C k stor env iter g
 clos:closureFor scope env=pure cl
 nocell:∀y∈scope.names,y.2≠.cell
 kind:scope.kind= .function
 names:∀x∈scope.names,x.2= .local→scope.names.lookup x.1=some .local
 slots:∀p∈vars,stor p.1= .none
 nd:(vars.map (·.2)).Nodup
 ne:vars≠[]
 asg:∀L,wl C k (eX stor (vm vars L)) (vars.map (·.1)) (assign target (compEnvC scope cl L env)) asg
 test:∀L,kR C k (eX stor (vm vars L)) (fP ifs (compEnvC scope cl L env)) test
 elt:∀L,cE C k (eX stor (vm vars L)) (eval elt (compEnvC scope cl L env)) fe
theorem Iv {vars:List (Nat×Str)} (hnd:(vars.map (·.2)).Nodup) {L:Addr} {i j:Nat} {st:Stor} (hi:vm vars L i=some st) (hj:vm vars L j=some st):i=j:=by
 refine bM (uB hi) λ x h1 uu0=>?_;subst uu0
 refine bM (uB hj) λ y h2 e=>?_
 cases e
 have m1:=dI h1
 have m2:=dI h2
 clear hi hj h1 h2
 induction vars with
 |nil=>cases m1
 |cons p l ih=>
  have hnd':=jR.mp hnd
  rcases bo.mp m1 with e1|m1
  ·rcases bo.mp m2 with e2|m2
   ·rw[←e1] at e2;exact(congrArg Prod.fst e2).symm
   ·exact absurd (by have h:=jb (f:=Prod.snd) m2;rw[←e1];exact h) hnd'.1
  ·rcases bo.mp m2 with e2|m2
   ·exact absurd (by have h:=jb (f:=Prod.snd) m1;rw[←e2];exact h) hnd'.1
   ·exact ih hnd'.2 m1 m2
theorem AQ {elt target iter:Expr} {ifs:List Expr} {scope:Scope} {pos ipos:Pos} {vars:List (Nat×Str)} {cl:List (Str×Addr)} {g:EM IT} {asg:AV→EM Unit} {test:EM Bool} {fe:EM AV}
  (X:CompAt C k stor env elt target iter ifs scope vars cl g asg test fe) (hs:∀x,foldedSetIterable iter env x=pure x) {use:Option (Value→Sem Unit)} {A:Around} (rm:Rm A k) {σ bc:St} {l:List AV}
  (h:pW (vars.map (·.1)) (kz target) g asg test fe σ=some (l,bc)) {φ:List Addr} {Λ:bj} {s:Shared} (R:RepS C stor σ φ Λ s) {Q:Value→Shared→Prop} {E:Value→Shared→Prop}
  (q:∀cF ar bp s' az D L o m rvs j,bc={az with l:=lK (vars.map (·.1)) az.l}→RepS C (eX stor (vm vars L)) az cF bp s'→ExtE φ Λ cF ar→ExtE cF ar cF bp→ar D=none→ar L=none→bp D=some (.amb,b8 rvs j)→VRs cF bp l rvs→iJ l.length=true→
   bp L=some (.ns,o)→Dv o m→(∀i,i∉vars.map (·.1)→i<az.l.length→¬(stor i).at L)→compPost C.M A E use Q (.ref D) L (.ok .next) s'):
  wpAny C.M A (comprehension (.ListComp elt [⟨target,iter,ifs,0⟩] scope pos) scope env ipos (newList []) false (eval iter env) use) Q E s:=by
 rw[pW] at h
 refine ce (br h) λ it pC h1 h2=>?_
 injections lY h2 hok
 injections Ae h2 Hi az hg
 injections lY h2 hfin
 refine lH h2 λ e1 e2=>?_;clear h2;subst e1;clear h;subst e2
 refine wpAny_comprehension_free rfl hs X.clos X.kind X.names (aV (X.it A rm σ it pC h1 φ Λ s R _ λ a cF ar bp s' R' bq x' I=>?_) (λ x aZ p=>aV p (λ u u q=>q) λ u u x=>x.elim) λ u u x=>x.elim)
 refine wpAny_newObj_type (wpAny_newFunctionEnv X.nocell (by intro y hy;cases hy) (λ aN vS vR=>?_) X.kind) (by size_fits)
 dsimp only at vS vR⊢
 have cX:RepS C stor pC cF (bp.set s'.heap.objs.size (.amb,b8 [] 0)) {s' with heap:=s'.heap.push {cls:=.type "list",dict:=none,data:=.seq ([]:List Value).toArray}}:=R'.side .amb rfl
 generalize hH2:s'.heap.push {cls:=.type "list",dict:=none,data:=.seq ([]:List Value).toArray}=H2 at vS vR cX⊢
 have hDn:bp s'.heap.objs.size=none:=R'.core.vac
 generalize hD:s'.heap.objs.size=D at cX hDn⊢
 have hLv:(bp.set D (.amb,b8 [] 0)) H2.objs.size=none:=cX.core.vac
 have hLb:C.base.get? H2.objs.size=none:=cX.core.baseNone
 have hLlow:cStatics<H2.objs.size:=by
  refine gX cX.core.two λ Eg bT=>?_
  exact cB (cX.core.keep _ _ bT)
 have old:∀b o,H2.get? b=some o→aN.get? b=some o:=λ b o e=>vR.extBut b o (dE (cB e)) (bB _ e)
 generalize hL:H2.objs.size=L at vS vR hLv hLb hLlow⊢
 refine bM (Dv.of vS) λ oL hoL nsL=>?_
 generalize lQ:bp.set D (.amb,b8 [] 0)=bH at cX hLv
 have hLD:L≠D:=λ q=>by rw[q,←lQ,bj.set_self] at hLv;exact IG hLv
 have hLn:bp L=none:=by rw[←lQ,bj.set_ne _ _ hLD] at hLv;exact hLv
 have cL:ExtE cF bp cF bH:=by rw[←lQ];exact .new hDn _
 have gi:ExtE cF bH cF (bH.set L (.ns,oL)):=.new hLv _
 have f6:RepS C stor pC cF (bH.set L (.ns,oL)) {s' with heap:=aN,toks:=s'.toks+([]:List (Str×Value)).length}:=by
  refine cX.ambs (s':=s') (λ a w o hw e=>?_) (λ a w o e=>?_) (λ b o e=>old b o (cX.core.keep b o e))
  ·exact dF ((bj.set_ne _ _ λ q=>by rw[q,hLv] at e;exact dq e).trans e) (old _ _ (cX.core.here _ _ _ e).1)
  ·by_cases q:a=L
   ·clear gi hLn hLD hLv vR vS hL;subst q;rw[bj.set_self] at e;refine lH e λ e1 e2=>?_;clear e;subst e1 e2;exact .inr ⟨hoL,hLb,hLlow⟩
   ·rw[bj.set_ne _ _ q] at e
    by_cases hw:w= .amb
    ·exact .inr ⟨old _ _ (cX.core.here _ _ _ e).1,(cX.core.here _ _ _ e).2,cX.core.low _ _ e⟩
    ·exact .inl ⟨e,hw⟩
 have oA:RepS C (eX stor (vm vars L)) pC cF (bH.set L (.ns,oL)) {s' with heap:=aN,toks:=s'.toks+([]:List (Str×Value)).length}:=by
  refine cX.enter f6.toRepH gi (λ i st hi=>?_) (λ i j st hi hj=>Iv X.nd hi hj)
  refine bM (uB hi) λ x hx uu0=>?_;clear hi;subst uu0
  exact lv (X.slots _ (dI hx)) nofun ⟨oL,_,bj.set_self ..,nsL,λ av q=>by exact dq q⟩ (λ b hb=>by subst hb;exact hLv)
 have x1':ExtE φ Λ cF (bj.only ar bp):=⟨⟨⟨bq.pre,λ b o e=>gQ (bq.fz b o e) (x'.fz b o (bq.fz b o e))⟩,λ b o e=>gQ (bq.amb b o e) (x'.amb b o (bq.amb b o e))⟩,λ b o e=>gQ (bq.ns b o e) (x'.ns b o (bq.ns b o e)),λ b o e=>gQ (bq.cell b o e) (x'.cell b o (bq.cell b o e))⟩
 have x2':ExtE cF (bj.only ar bp) cF bp:=⟨⟨⟨bG _,λ b o e=>x'.fz b o (ex e).1⟩,λ b o e=>x'.amb b o (ex e).1⟩,λ b o e=>x'.ns b o (ex e).1,λ b o e=>x'.cell b o (ex e).1⟩
 have A0:zm it cF ((bj.only ar bp).set D (.amb,b8 [] 0)) (bH.set L (.ns,oL)) 0 a:=by
  refine((I.more (uW:=(bj.only ar bp).set D (.amb,b8 [] 0)) λ b x e e0=>?_).mono cL.toExtS).mono gi.toExtS
  rw[bj.set_ne _ _ λ q=>by rw[q,hDn] at e;exact dq e]
  exact kD e0
 have AA:(bH.set L (.ns,oL)) D=some (.amb,b8 [] 0):=by rw[bj.set_ne _ _ (f9 hLD),←lQ,bj.set_self]
 have run:codeAny C.M A (.compLoop (.ListComp elt [⟨target,iter,ifs,0⟩] scope pos) 0 (.ref a) (.ref D) (compEnvC scope cl L env)) (compPost C.M A E use Q (.ref D) L) {s' with heap:=aN,toks:=s'.toks+([]:List (Str×Value)).length}:=by
  refine xR (X.asg L) (X.test L) (X.elt L) rm hok.1 (cJ:=(bj.only ar bp).set D (.amb,b8 [] 0)) (ar:=bj.only ar bp) (aJ:=cF) (y:=(.amb,b8 [] 0)) (λ i hi b hb=>?_) (bj.set_self ..) (iC hDn) (λ b x e=>?_) (az:=az) (all:=l) (js hfin.2) ?_
   (l:=l) (vs:=[]) (rvs:=[]) (j:=0) rfl hg oA ((x2'.trans cL).trans gi) A0 AA .nil
  ·refine gX (iD hi) λ x hx=>?_
   have:eX stor (vm vars L) i= .ns L x:=by unfold eX vm;rw[hx];rfl
   rw[this] at hb
   subst hb
   exact iC hLn
  ·exact si x ((bj.set_ne _ _ λ q=>by rw[q,iC hDn] at e;exact dq e).trans e)
  ·intro x9 wv s'' rvs j mM k9 FZ FV
   cases hvars:vars with
   |nil=>exact absurd hvars X.ne
   |cons p rest=>
    have hp:p.1∈vars.map (·.1):=by rw[hvars];exact jb bA
    refine gX (iD hp) λ x hx=>?_
    have est:eX stor (vm vars L) p.1= .ns L x:=by unfold eX vm;rw[hx];rfl
    have hlt:p.1<az.l.length:=by rw[hfin.1];exact hok.2 p.1 hp
    have S:=mM.slots p.1 _ (aq hlt)
    rw[est] at S
    refine bK S λ o m s1 s2 u=>?_;clear S
    have y1:ExtE φ Λ x9 (bj.only (bj.only ar bp) wv):=by
     have z:=x1'.trans k9
     exact⟨⟨⟨z.pre,λ b o e=>gQ (x1'.fz b o e) (z.fz b o e)⟩,λ b o e=>gQ (x1'.amb b o e) (z.amb b o e)⟩,λ b o e=>gQ (x1'.ns b o e) (z.ns b o e),λ b o e=>gQ (x1'.cell b o e) (z.cell b o e)⟩
    have y2:ExtE x9 (bj.only (bj.only ar bp) wv) x9 wv:=⟨⟨⟨bG _,λ b o e=>k9.fz b o (ex e).1⟩,λ b o e=>k9.amb b o (ex e).1⟩,λ b o e=>k9.ns b o (ex e).1,λ b o e=>k9.cell b o (ex e).1⟩
    refine q x9 _ wv s'' az D L o m rvs j rfl mM y1 y2 (kD (iC hDn)) (kD (iC hLn)) FZ FV hfin.2 s1 s2 λ i hi hl hb=>?_
    refine ce ((cX.slots i _ (aq (by rw[←hfin.1];exact hl))).there hb) λ w o' h3 u=>?_
    rw[hLv] at h3;exact dq h3
 exact codeAny_compStart_list run (CS it oA A0 run)
theorem E4 {vars:List (Nat×Str)} {L:Addr} (i:Nat):i∈vars.map (·.1)↔∃st,vm vars L i=some st:=by
 constructor
 ·intro h
  refine gX (iD h) λ x hx=>?_
  exact si (.ns L x) (by unfold vm;rw[hx];rfl)
 ·intro ww0;refine gX ww0 λ st h=>?_;clear ww0
  refine bM (uB h) λ x hx z=>?_
  exact jb (f:=Prod.fst) (dI hx)
theorem yr {elt target iter:Expr} {ifs:List Expr} {scope:Scope} {pos:Pos} {vars:List (Nat×Str)} {cl:List (Str×Addr)} {g:EM IT} {asg:AV→EM Unit} {test:EM Bool} {fe:EM AV}
  (X:CompAt C k stor env elt target iter ifs scope vars cl g asg test fe) (hs:autoParam (∀x,foldedSetIterable iter env x=pure x) aI):
  cE C k stor (eval (.ListComp elt [⟨target,iter,ifs,0⟩] scope pos) env) (fg (vars.map (·.1)) (kz target) g asg test fe):=by
 intro A rm σ av bc h φ Λ s R
 rw[fg] at h
 refine ce (br h) λ l cG h1 h2=>?_
 rw[eval_ListComp]
 refine AQ X hs (use:=none) rm h1 R λ cF ar bp s' az D L o m rvs j e R' bq x' hD1 hL1 hD hv hf hL nsL hne=>?_
 clear h1;subst e
 unfold gH at h2
 rw[if_pos hf] at h2
 refine ir h2 ?_;clear h2
 refine⟨m,nsL.ns (R'.core.here _ _ _ hL).1,λ h' hs'=>?_⟩
 have mM:=R'.adopt hD hv
 have hLD:L≠D:=λ q=>by rw[q,hD] at hL;cases hL
 have uy:=mM.leave (is:=vars.map (·.1)) ((bj.set_ne _ _ hLD).trans hL) hs' E4 (λ i hi=>by refine gX (iD hi) λ x hx=>?_;exact X.slots _ (dI hx)) hne
 refine⟨cF++[D],_,uy,(bq.trans ((x'.off (j9 hD1)).off (lX hL1))).push D,.ref ?_⟩
 rw[←R'.len];simp
theorem qD {elt target iter:Expr} {ifs:List Expr} {scope:Scope} {pos py spos:Pos} {y:Str} {iy:Nat} {vars:List (Nat×Str)} {cl:List (Str×Addr)} {g:EM IT} {asg:AV→EM Unit} {test:EM Bool} {fe:EM AV}
  (n:NameAt env stor y iy) (hiy:iy∉vars.map (·.1)) (X:CompAt C k stor env elt target iter ifs scope vars cl g asg test fe)
  (hsw:swapsWith (.ListComp elt [⟨target,iter,ifs,0⟩] scope pos) (some (.Name y py)) spos.line env=pure true) (hs:autoParam (∀x,foldedSetIterable iter env x=pure x) aI):
  mI C k stor (exec (.Assign [.Name y py] (.ListComp elt [⟨target,iter,ifs,0⟩] scope pos) spos) env) (ae (fg (vars.map (·.1)) (kz target) g asg test fe) λ v=>ae (wr iy v) λ _=>Mine.Internal.ret .next):=by
 intro A rm σ fl bc h φ Λ s R
 refine O.any0 ?_
 refine ce (br h) λ v dM h1 h2=>?_
 rw[fg] at h1
 refine ce (br h1) λ l cG h3 h4=>?_
 refine ce (br h2) λ _ mv h5 h6=>?_
 cases (h6)
 rw[exec_Assign_Name_used _ _ _ _ hsw]
 refine al (bP (al ?_))
 show wpAny _ A (do let _←comprehension (.ListComp elt [⟨target,iter,ifs,0⟩] scope pos) scope env _ (newList []) false (eval iter env) (some (assign (.Name y py) env))) _ _ s
 refine al (aV (AQ X hs (use:=some (assign (.Name y py) env)) (Q:=λ _ s'=>rc C stor φ Λ .next bc .next s') (E:=λ _ _=>False) rm h3 R ?_) (λ _ s' hq=>aO (aO hq)) λ _ _ e=>e)
 intro cF ar bp s' az D L o m rvs j e R' bq x' hD1 hL1 hD hv hf hL nsL hne
 clear h3;subst e
 unfold gH at h4
 rw[if_pos hf] at h4
 refine lH h4 λ e1 e2=>?_;clear h4;subst e1;clear h1;subst e2
 have mM:=R'.adopt hD hv
 have hLD:L≠D:=λ q=>by rw[q,hD] at hL;cases hL
 have hLs:(bp.set D (.obj az.h.length,b8 rvs j)) L=some (.ns,o):=(bj.set_ne _ _ hLD).trans hL
 have est:eX stor (vm vars L) iy=stor iy:=by
  unfold eX
  cases q:vm vars L iy with
  |none=>rfl
  |some st=>exact absurd ((E4 iy).mpr ⟨st,q⟩) hiy
 have n':NameAt env (eX stor (vm vars L)) y iy:=⟨n.kind,by rw[est];exact n.at_,n.nd,n.nc⟩
 have hw:wr iy (.ref az.h.length) {az with h:=az.h++[.list l]}=some ((),{l:=az.l.set iy (some (.ref az.h.length)),h:=az.h++[.list l]})∧iy<az.l.length∧bc={l:=lK (vars.map (·.1)) (az.l.set iy (some (.ref az.h.length))),h:=az.h++[.list l]}:=by
  unfold wr at h5⊢
  dsimp only at h5⊢
  rw[rN _ _ _ hiy] at h5
  split at h5
  ·rename_i ov hov
   cases h5
   exact lO rfl ((aA.mp hov).1) (by rw[u0 _ _ hiy])
  ·exact dq h5
 refine iH hw λ hw1 hw2 uu0=>?_;clear hw h5 h2 h;subst uu0
 show wpAny C.M A (assign (.Name y py) env (.ref D)) _ _ s'
 refine mZ (nK n' hw1 mM (.ref (by rw[←R'.len];simp)) λ oO E9 uy uk IB=>?_)
 have Az:oO L=some (.ns,o):=(IB L (by rw[est];exact hne iy hiy hw2)).trans hLs
 refine⟨m,nsL.ns (uy.core.here _ _ _ Az).1,λ h' hs'=>?_⟩
 have GJ:=uy.leave (is:=vars.map (·.1)) Az hs' E4 (λ i hi=>by refine gX (iD hi) λ x hx=>?_;exact X.slots _ (dI hx)) λ i hi hl=>hne i hi (by simpa using hl)
 refine⟨cF++[D],_,GJ,?_,trivial⟩
 have z:ExtS φ Λ (cF++[D]) oO:=((bq.toExtS.trans ((x'.off (j9 hD1)).push D).toExtS).trans uk)
 have z':ExtS cF ar (cF++[D]) oO:=(((x'.off (j9 hD1)).push D).toExtS).trans uk
 exact bq.toExtS.trans (z'.off (lX hL1))
end
end
section
open PySem.SeqAt
noncomputable def cm (i0:Nat) (c:Addr):Nat→Option Stor:=λ i=>if i=i0 then some (.cell c) else none
theorem uP {i0:Nat} {c:Addr} {i:Nat} {st:Stor} (h:cm i0 c i=some st):i=i0∧st= .cell c:=by
 unfold cm at h
 injections lY h _
 refine wH h ?_;clear h;exact dF (by assumption) rfl
theorem H8 {i0:Nat} {c:Addr} (i:Nat):i∈[i0]↔∃st,cm i0 c i=some st:=by
 constructor
 ·intro h
  rw[bu.mp h]
  exact si (.cell c) (if_pos rfl)
 ·intro ww0;refine gX ww0 λ st h=>?_;clear ww0
  rw[(uP h).1];exact List.mem_singleton_self _
section
variable{C:Cx} {k:Nat} {stor:Nat→Stor} {env:Env}
structure CompAtC (C:Cx) (k:Nat) (stor:Nat→Stor) (env:Env) (elt target iter:Expr) (ifs:List Expr) (scope:Scope) (i0:Nat) (x0:Str) (cl:List (Str×Addr)) (g:EM IT) (asg:AV→EM Unit) (test:EM Bool) (fe:EM AV):Prop where
 it:zj C k stor env iter g
 clos:closureFor scope env=pure cl
 cells:∀n,cellsFrom n scope.names cl=(x0,n)::cl
 push:∀h,pushCells h scope.names=h.push {cls:=.type "cell",data:=.cell none}
 kind:scope.kind= .function
 names:∀x∈scope.names,x.2= .local→scope.names.lookup x.1=some .local
 slots:stor i0= .none
 asg:∀L c,wl C k (eX stor (cm i0 c)) [i0] (assign target (compEnvC scope ((x0,c)::cl) L env)) asg
 test:∀L c,kR C k (eX stor (cm i0 c)) (fP ifs (compEnvC scope ((x0,c)::cl) L env)) test
 elt:∀L c,cE C k (eX stor (cm i0 c)) (eval elt (compEnvC scope ((x0,c)::cl) L env)) fe
theorem EI {elt target iter:Expr} {ifs:List Expr} {scope:Scope} {pos ipos:Pos} {i0:Nat} {x0:Str} {cl:List (Str×Addr)} {g:EM IT} {asg:AV→EM Unit} {test:EM Bool} {fe:EM AV}
  (X:CompAtC C k stor env elt target iter ifs scope i0 x0 cl g asg test fe) (hs:∀x,foldedSetIterable iter env x=pure x) {use:Option (Value→Sem Unit)} {A:Around} (rm:Rm A k) {σ bc:St} {l:List AV}
  (h:pW ([i0]) (kz target) g asg test fe σ=some (l,bc)) {φ:List Addr} {Λ:bj} {s:Shared} (R:RepS C stor σ φ Λ s) {Q:Value→Shared→Prop} {E:Value→Shared→Prop}
  (q:∀cF ar bp s' az D L c o m rvs j,bc={az with l:=lK ([i0]) az.l}→RepS C (eX stor (cm i0 c)) az cF bp s'→ExtE φ Λ cF ar→ExtE cF ar cF bp→ar D=none→ar L=none→bp D=some (.amb,b8 rvs j)→VRs cF bp l rvs→iJ l.length=true→
   bp L=some (.ns,o)→Dv o m→(∀i,i∉[i0]→i<az.l.length→¬(stor i).at L)→compPost C.M A E use Q (.ref D) L (.ok .next) s'):
  wpAny C.M A (comprehension (.ListComp elt [⟨target,iter,ifs,0⟩] scope pos) scope env ipos (newList []) false (eval iter env) use) Q E s:=by
 rw[pW] at h
 refine ce (br h) λ it pC h1 h2=>?_
 injections lY h2 hok
 injections Ae h2 Hi az hg
 injections lY h2 hfin
 refine lH h2 λ e1 e2=>?_;clear h2;subst e1 e2
 refine wpAny_comprehension_free rfl hs X.clos X.kind X.names (aV (X.it A rm σ it pC h1 φ Λ s R _ λ a cF ar bp s' R' bq x' I=>?_) (λ x aZ p=>aV p (λ u u q=>q) λ u u x=>x.elim) λ u u x=>x.elim)
 refine wpAny_newObj_type ?_ (by size_fits)
 have cX:RepS C stor pC cF (bp.set s'.heap.objs.size (.amb,b8 [] 0)) {s' with heap:=s'.heap.push {cls:=.type "list",dict:=none,data:=.seq ([]:List Value).toArray}}:=R'.side .amb rfl
 generalize hH2:s'.heap.push {cls:=.type "list",dict:=none,data:=.seq ([]:List Value).toArray}=H2 at cX⊢
 have hDn:bp s'.heap.objs.size=none:=R'.core.vac
 generalize hD:s'.heap.objs.size=D at cX hDn⊢
 have hLv:(bp.set D (.amb,b8 [] 0)) H2.objs.size=none:=cX.core.vac
 have f6:=cX.side (o:={cls:=.type "dict",data:=.dict #[]}) .ns rfl
 have hcv:=f6.core.vac
 have ui:=f6.side (o:={cls:=.type "cell",data:=.cell none}) .cell rfl
 dsimp only at f6 hcv ui
 simp only[newFunctionEnv,Option.isSome_some,m0]
 refine al (wpAny_alloc ?_)
 refine al (wpAny_layCells _ (λ name kind cells=>by cases hkc:kind==NameKind.cell<;>simp[hkc]) _ _ _ _ ?_)
 rw[X.cells,X.push]
 refine al ?_
 rw[List.forIn_nil]
 refine aO (aO ?_)
 dsimp only
 have nsL:Dv {cls:=.type "dict",data:=.dict #[]} (λ u=>none):=by
  refine nV (Heap.Ns.new H2 (.type "dict")) λ o es ep e a1 a2 a3=>?_
  rw[gL _ rfl] at e
  refine sk e λ e1=>?_;clear e;subst e1
  exact c9 es ep a1 a2 a3
 generalize hoL:({cls:=.type "dict",data:=.dict #[]}:Obj)=oL at f6 hcv ui nsL⊢
 have hcL:(H2.push oL).objs.size≠H2.objs.size:=by rw[Heap.size_push];exact cO _
 generalize hL:H2.objs.size=L at f6 hcv ui hLv hcL⊢
 generalize hc:(H2.push oL).objs.size=c at hcv ui hcL⊢
 generalize hH4:(H2.push oL).push {cls:=.type "cell",data:=.cell none}=H4 at ui⊢
 generalize lQ:bp.set D (.amb,b8 [] 0)=bH at cX f6 ui hcv hLv
 have hLD:L≠D:=λ q=>by rw[q,←lQ,bj.set_self] at hLv;exact IG hLv
 have hLn:bp L=none:=by rw[←lQ,bj.set_ne _ _ hLD] at hLv;exact hLv
 have vU:bH c=none:=by rw[bj.set_ne _ _ hcL] at hcv;exact hcv
 have hcD:c≠D:=λ q=>by rw[q,←lQ,bj.set_self] at vU;exact IG vU
 have hcn:bp c=none:=by rw[←lQ,bj.set_ne _ _ hcD] at vU;exact vU
 have cL:ExtE cF bp cF bH:=by rw[←lQ];exact .new hDn _
 have gi:ExtE cF bH cF ((bH.set L (.ns,oL)).set c (.cell,{cls:=.type "cell",data:=.cell none})):=(ExtE.new hLv _).trans (.new hcv _)
 have oA:RepS C (eX stor (cm i0 c)) pC cF ((bH.set L (.ns,oL)).set c (.cell,{cls:=.type "cell",data:=.cell none})) {s' with heap:=H4}:=by
  refine cX.enter ui.toRepH gi (λ i st hi=>?_) (λ i j st hi hj=>by rw[(uP hi).1,(uP hj).1])
  refine dL (uP hi) λ uu0 uu1=>?_;clear q h hok;subst uu0;clear hi;subst uu1
  exact lv X.slots nofun ⟨_,none,bj.set_self ..,rfl,λ av q=>by exact dq q⟩ (λ b hb=>by subst hb;exact vU)
 have x1':ExtE φ Λ cF (bj.only ar bp):=⟨⟨⟨bq.pre,λ b o e=>gQ (bq.fz b o e) (x'.fz b o (bq.fz b o e))⟩,λ b o e=>gQ (bq.amb b o e) (x'.amb b o (bq.amb b o e))⟩,λ b o e=>gQ (bq.ns b o e) (x'.ns b o (bq.ns b o e)),λ b o e=>gQ (bq.cell b o e) (x'.cell b o (bq.cell b o e))⟩
 have x2':ExtE cF (bj.only ar bp) cF bp:=⟨⟨⟨bG _,λ b o e=>x'.fz b o (ex e).1⟩,λ b o e=>x'.amb b o (ex e).1⟩,λ b o e=>x'.ns b o (ex e).1,λ b o e=>x'.cell b o (ex e).1⟩
 have x3':ExtE cF ((bj.only ar bp).set L (.ns,oL)) cF ((bH.set L (.ns,oL)).set c (.cell,{cls:=.type "cell",data:=.cell none})):=by
  have kk:∀b w o,((bj.only ar bp).set L (.ns,oL)) b=some (w,o)→(w= .fz∨w= .amb∨w= .ns∨w= .cell)→((bH.set L (.ns,oL)).set c (.cell,{cls:=.type "cell",data:=.cell none})) b=some (w,o):=λ b w o e hw=>by
   by_cases q:b=L
   ·clear oA gi hLn hLD hLv hcv ui f6 hL;subst q
    rw[bj.set_self] at e;refine lH e λ e1 e2=>?_;clear e hw;subst e1 e2
    rw[bj.set_ne _ _ (f9 hcL),bj.set_self]
   ·rw[bj.set_ne _ _ q] at e
    have z:bp b=some (w,o):=by
     rcases hw with rfl|rfl|rfl|rfl
     ·exact x2'.fz _ _ e
     ·exact x2'.amb _ _ e
     ·exact x2'.ns _ _ e
     ·exact x2'.cell _ _ e
    have hbc:b≠c:=λ q=>by rw[q,hcn] at z;exact dq z
    have hbD:b≠D:=λ q=>by rw[q,hDn] at z;exact dq z
    rw[bj.set_ne _ _ hbc,bj.set_ne _ _ q,←lQ,bj.set_ne _ _ hbD];exact z
  exact⟨⟨⟨bG _,λ b o e=>kk b _ o e (.inl rfl)⟩,λ b o e=>kk b _ o e (.inr (.inl rfl))⟩,λ b o e=>kk b _ o e (.inr (.inr (.inl rfl))),λ b o e=>kk b _ o e (.inr (.inr (.inr rfl)))⟩
 have x4':ExtE cF (bj.only ar bp) cF ((bj.only ar bp).set L (.ns,oL)):=.new (iC hLn) _
 have hD1:((bj.only ar bp).set L (.ns,oL)) D=none:=by rw[bj.set_ne _ _ (f9 hLD)];exact iC hDn
 have hc1:((bj.only ar bp).set L (.ns,oL)) c=none:=by rw[bj.set_ne _ _ hcL];exact iC hcn
 have A0:zm it cF (((bj.only ar bp).set L (.ns,oL)).set D (.amb,b8 [] 0)) ((bH.set L (.ns,oL)).set c (.cell,{cls:=.type "cell",data:=.cell none})) 0 a:=by
  refine((I.more (uW:=((bj.only ar bp).set L (.ns,oL)).set D (.amb,b8 [] 0)) λ b x e e0=>?_).mono cL.toExtS).mono gi.toExtS
  have q1:b≠D:=λ q=>by rw[q,hDn] at e;exact dq e
  have q2:b≠L:=λ q=>by rw[q,hLn] at e;exact dq e
  rw[bj.set_ne _ _ q1,bj.set_ne _ _ q2]
  exact kD e0
 have AA:((bH.set L (.ns,oL)).set c (.cell,{cls:=.type "cell",data:=.cell none})) D=some (.amb,b8 [] 0):=by rw[bj.set_ne _ _ (f9 hcD),bj.set_ne _ _ (f9 hLD),←lQ,bj.set_self]
 have run:codeAny C.M A (.compLoop (.ListComp elt [⟨target,iter,ifs,0⟩] scope pos) 0 (.ref a) (.ref D) (compEnvC scope ((x0,c)::cl) L env)) (compPost C.M A E use Q (.ref D) L) {s' with heap:=H4}:=by
  refine xR (X.asg L c) (X.test L c) (X.elt L c) rm hok.1 (cJ:=((bj.only ar bp).set L (.ns,oL)).set D (.amb,b8 [] 0)) (ar:=(bj.only ar bp).set L (.ns,oL)) (aJ:=cF) (y:=(.amb,b8 [] 0)) (λ i hi b hb=>?_) (bj.set_self ..) hD1 (λ b x e=>?_) (az:=az) (all:=l) (js hfin.2) ?_
   (l:=l) (vs:=[]) (rvs:=[]) (j:=0) rfl hg oA x3' A0 AA .nil
  ·have:eX stor (cm i0 c) i= .cell c:=by unfold eX cm;rw[if_pos (bu.mp hi)]
   rw[this] at hb
   subst hb
   exact hc1
  ·exact si x ((bj.set_ne _ _ λ q=>by rw[q,hD1] at e;exact dq e).trans e)
  ·intro x9 wv s'' rvs j mM k9 FZ FV
   have Ki:wv L=some (.ns,oL):=k9.ns _ _ (bj.set_self ..)
   have z:=(x1'.trans x4').trans k9
   have y1:ExtE φ Λ x9 (bj.only (bj.only ar bp) wv):=
    ⟨⟨⟨z.pre,λ b o e=>gQ (x1'.fz b o e) (z.fz b o e)⟩,λ b o e=>gQ (x1'.amb b o e) (z.amb b o e)⟩,λ b o e=>gQ (x1'.ns b o e) (z.ns b o e),λ b o e=>gQ (x1'.cell b o e) (z.cell b o e)⟩
   have x6:=x4'.trans k9
   have y2:ExtE x9 (bj.only (bj.only ar bp) wv) x9 wv:=⟨⟨⟨bG _,λ b o e=>x6.fz b o (ex e).1⟩,λ b o e=>x6.amb b o (ex e).1⟩,λ b o e=>x6.ns b o (ex e).1,λ b o e=>x6.cell b o (ex e).1⟩
   refine q x9 _ wv s'' az D L c oL _ rvs j rfl mM y1 y2 (kD (iC hDn)) (kD (iC hLn)) FZ FV hfin.2 Ki nsL λ i hi hl hb=>?_
   refine ce ((cX.slots i _ (aq (by rw[←hfin.1];exact hl))).there hb) λ w o' h3 u=>?_
   rw[hLv] at h3;exact dq h3
 exact codeAny_compStart_list run (CS it oA A0 run)
theorem pJ {elt target iter:Expr} {ifs:List Expr} {scope:Scope} {pos py spos:Pos} {y:Str} {iy:Nat} {i0:Nat} {x0:Str} {cl:List (Str×Addr)} {g:EM IT} {asg:AV→EM Unit} {test:EM Bool} {fe:EM AV}
  (n:NameAt env stor y iy) (hiy:iy∉[i0]) (X:CompAtC C k stor env elt target iter ifs scope i0 x0 cl g asg test fe)
  (hsw:swapsWith (.ListComp elt [⟨target,iter,ifs,0⟩] scope pos) (some (.Name y py)) spos.line env=pure true) (hs:autoParam (∀x,foldedSetIterable iter env x=pure x) aI):
  mI C k stor (exec (.Assign [.Name y py] (.ListComp elt [⟨target,iter,ifs,0⟩] scope pos) spos) env) (ae (fg ([i0]) (kz target) g asg test fe) λ v=>ae (wr iy v) λ _=>Mine.Internal.ret .next):=by
 intro A rm σ fl bc h φ Λ s R
 refine O.any0 ?_
 refine ce (br h) λ v dM h1 h2=>?_
 rw[fg] at h1
 refine ce (br h1) λ l cG h3 h4=>?_
 refine ce (br h2) λ _ mv h5 h6=>?_
 cases (h6)
 rw[exec_Assign_Name_used _ _ _ _ hsw]
 refine al (bP (al ?_))
 show wpAny _ A (do let _←comprehension (.ListComp elt [⟨target,iter,ifs,0⟩] scope pos) scope env _ (newList []) false (eval iter env) (some (assign (.Name y py) env))) _ _ s
 refine al (aV (EI X hs (use:=some (assign (.Name y py) env)) (Q:=λ _ s'=>rc C stor φ Λ .next bc .next s') (E:=λ _ _=>False) rm h3 R ?_) (λ _ s' hq=>aO (aO hq)) λ _ _ e=>e)
 intro cF ar bp s' az D L c o m rvs j e R' bq x' hD1 hL1 hD hv hf hL nsL hne
 clear h3;subst e
 unfold gH at h4
 rw[if_pos hf] at h4
 refine lH h4 λ e1 e2=>?_;clear h4;subst e1;clear h1;subst e2
 have mM:=R'.adopt hD hv
 have hLD:L≠D:=λ q=>by rw[q,hD] at hL;cases hL
 have hLs:(bp.set D (.obj az.h.length,b8 rvs j)) L=some (.ns,o):=(bj.set_ne _ _ hLD).trans hL
 have est:eX stor (cm i0 c) iy=stor iy:=by
  unfold eX
  cases q:cm i0 c iy with
  |none=>rfl
  |some st=>exact absurd ((H8 iy).mpr ⟨st,q⟩) hiy
 have n':NameAt env (eX stor (cm i0 c)) y iy:=⟨n.kind,by rw[est];exact n.at_,n.nd,n.nc⟩
 have hw:wr iy (.ref az.h.length) {az with h:=az.h++[.list l]}=some ((),{l:=az.l.set iy (some (.ref az.h.length)),h:=az.h++[.list l]})∧iy<az.l.length∧bc={l:=lK ([i0]) (az.l.set iy (some (.ref az.h.length))),h:=az.h++[.list l]}:=by
  unfold wr at h5⊢
  dsimp only at h5⊢
  rw[rN _ _ _ hiy] at h5
  split at h5
  ·rename_i ov hov
   cases h5
   exact lO rfl ((aA.mp hov).1) (by rw[u0 _ _ hiy])
  ·exact dq h5
 refine iH hw λ hw1 hw2 uu0=>?_;clear hw h5 h2 h;subst uu0
 show wpAny C.M A (assign (.Name y py) env (.ref D)) _ _ s'
 refine mZ (nK n' hw1 mM (.ref (by rw[←R'.len];simp)) λ oO E9 uy uk IB=>?_)
 have Az:oO L=some (.ns,o):=(IB L (by rw[est];exact hne iy hiy hw2)).trans hLs
 refine⟨m,nsL.ns (uy.core.here _ _ _ Az).1,λ h' hs'=>?_⟩
 have GJ:=uy.leave (is:=[i0]) Az hs' H8 (λ i hi=>by rw[bu.mp hi];exact X.slots) λ i hi hl=>hne i hi (by simpa using hl)
 refine⟨cF++[D],_,GJ,?_,trivial⟩
 have z:ExtS φ Λ (cF++[D]) oO:=((bq.toExtS.trans ((x'.off (j9 hD1)).push D).toExtS).trans uk)
 have z':ExtS cF ar (cF++[D]) oO:=(((x'.off (j9 hD1)).push D).toExtS).trans uk
 exact bq.toExtS.trans (z'.off (lX hL1))
end
end
section
open PySem.SeqAt
namespace BA
theorem slot_len:Slot "bytearray" "__len__" "bytearray.__len__":=
 .of (owner:="bytearray") (n:="__len__") (by rw[fH,db];kernel_rfl) (by decide+kernel) (by decide+kernel) (by decide+kernel)
  (by first|exact .inl (by decide+kernel)|exact .inr (by decide+kernel)) (by rw[isSubtype_type];kernel_rfl)
theorem entry_len:entryFor table "bytearray.__len__"=some Builtin.«bytearray.__len__»:=by first|exact entryFor_of_fast ∅|exact entryFor_of_tree ∅
theorem args_len (a:Value):argsOk "bytearray.__len__" ⟨[a],[]⟩:=by unfold argsOk;kernel_rfl
theorem slot_append:Slot "bytearray" "append" "bytearray.append":=
 .of (owner:="bytearray") (n:="append") (by rw[fH,db];kernel_rfl) (by decide+kernel) (by decide+kernel) (by decide+kernel)
  (by first|exact .inl (by decide+kernel)|exact .inr (by decide+kernel)) (by rw[isSubtype_type];kernel_rfl)
theorem entry_append:entryFor table "bytearray.append"=some Builtin.«bytearray.append»:=by first|exact entryFor_of_fast ∅|exact entryFor_of_tree ∅
theorem args_append (a b:Value):argsOk "bytearray.append" ⟨[a,b],[]⟩:=by unfold argsOk;kernel_rfl
theorem type_append:typeOf (.builtin "bytearray.append")=pure (.type "method_descriptor"):=by show builtinType _=_;rw[builtinType_eq_fast];kernel_rfl
theorem mro:mroOf (.type "bytearray")=pure [.type "bytearray",.type "object"]:=by rw[mroOf_type];kernel_rfl
theorem BH:typeLookup (.type "bytearray") "__new__"=pure (some (.builtin "bytearray.__new__")):=by rw[fH,db];kernel_rfl
theorem slot_init:Slot "bytearray" "__init__" "bytearray.__init__":=
 .of (owner:="bytearray") (n:="__init__") (by rw[fH,db];kernel_rfl) (by decide+kernel) (by decide+kernel) (by decide+kernel)
  (by first|exact .inl (by decide+kernel)|exact .inr (by decide+kernel)) (by rw[isSubtype_type];kernel_rfl)
theorem called:TypeCalled "bytearray" "bytearray.__new__" "bytearray.__init__":=
 ⟨by decide+kernel,by decide+kernel,⟨_,_,mro⟩,madeBy_type mro BH (by decide+kernel),by decide+kernel,by rw[isSubtype_type];kernel_rfl,slot_init⟩
theorem typeCall_0:checkTypeCall "bytearray" ⟨[],[]⟩=pure ():=by kernel_rfl
theorem newCall_0:checkBuiltinCall "bytearray.__new__" ⟨[.type "bytearray"],[]⟩=pure ():=by kernel_rfl
theorem entry_init:entryFor table "bytearray.__init__"=some Builtin.«bytearray.__init__»:=by first|exact entryFor_of_fast ∅|exact entryFor_of_tree ∅
theorem args_init_1 (a:Value):argsOk "bytearray.__init__" ⟨[a],[]⟩:=by unfold argsOk;kernel_rfl
theorem plain_new:plainId "bytearray.__new__"=true:=by decide+kernel
theorem entry_new:entryFor table "bytearray.__new__"=some Builtin.«list.__new__»:=
 entryFor_alias (id':="list.__new__") ∅ (by first|rfl|decide+kernel| (unfold String.splitOn;simp+decide [String.splitOnAux])) (by decide+kernel) ∅
set_option maxRecDepth 1000000 in
set_option maxHeartbeats 4000000 in
theorem owner_new:("bytearray.__new__".splitOn ".__new__").headD ""="bytearray":=by simp+decide [String.splitOn,String.splitOnAux]
theorem bind_0:Builtin.Bytes.bindOptional "bytearray.__init__" "bytearray" ["source","encoding","errors"] [] []=pure [none,none,none]:=by kernel_rfl
theorem plain_attrs:PlainAttrs "bytearray":=⟨⟨"bytearray.__getattribute__",by rw[fH,db];kernel_rfl,by decide+kernel⟩,by rw[fH,db];kernel_rfl⟩
theorem no_release:typeLookup (.type "bytearray") "__release_buffer__"=pure (some (.builtin "bytearray.__release_buffer__")):=by rw[fH,db];kernel_rfl
theorem buffer:typeLookup (.type "bytearray") "__buffer__"=pure (some (.builtin "bytearray.__buffer__")):=by rw[fH,db];kernel_rfl
theorem no_bytes:typeLookup (.type "bytearray") "__bytes__"=pure none:=by rw[fH,db];kernel_rfl
theorem noIndex:typeLookup (.type "bytearray") "__index__"=pure none:=by rw[fH,db];kernel_rfl
theorem sub_self:isSubtype (.type "bytearray") (.type "bytearray")=pure true:=by rw[isSubtype_type];kernel_rfl
end BA
end
section
open PySem.SeqAt
theorem VRs.of_ints {φ:List Addr} {Λ:bj} {vs:List Value} {ns:List Int} (h:IntsAre vs ns):VRs φ Λ (ns.map .int) vs:=by
 induction h with
 |nil=>exact .nil
 |cons n t _ ih=>exact .cons (.int n t) ih
section
variable{C:Cx} {k:Nat} {stor:Nat→Stor} {env:Env}
theorem om {σ:St} {φ:List Addr} {Λ:bj} {s:Shared} {av:AV} {v:Value} (R:RepS C stor σ φ Λ s) {h':Heap} {tk:Nat} (hk:∀b o,s.heap.get? b=some o→h'.get? b=some o) (hv:VR φ Λ av v):
  fQ C stor φ Λ av σ v {s with heap:=h',toks:=tk}:=⟨φ,Λ,(R.keeps hk).tok tk,.refl _ _,hv⟩
theorem s8 {σ:St} {φ:List Addr} {Λ:bj} {s:Shared} (R:RepS C stor σ φ Λ s) {h':Heap} {tk:Nat} (hk:∀b o,s.heap.get? b=some o→h'.get? b=some o) {D:Addr} (hD:s.heap.objs.size≤D) {rvs:List Value} {j:Nat} (ho:h'.get? D=some (b8 rvs j))
  {vs:List AV} (hv:VRs φ Λ vs rvs):fQ C stor φ Λ (.ref σ.h.length) {σ with h:=σ.h++[.list vs]} (.ref D) {s with heap:=h',toks:=tk}:=by
 have vac:Λ D=none:=by
  cases e:Λ D with
  |none=>rfl
  |some x=>exact absurd (cB (R.core.here _ x.1 x.2 e).1) (Nat.not_lt.mpr hD)
 have hb:C.base.get? D=none:=by
  cases e:C.base.get? D with
  |none=>rfl
  |some o'=>exact absurd (cB (R.core.keep _ _ e)) (Nat.not_lt.mpr hD)
 have hlow:cStatics<D:=by
  refine gX R.core.two λ Eg bT=>?_
  exact ag (cB (R.core.keep _ _ bT)) hD
 have x:ExtE φ Λ φ (Λ.set D (.amb,b8 rvs j)):=.new vac _
 have R':RepS C stor σ φ (Λ.set D (.amb,b8 rvs j)) {s with heap:=h',toks:=tk}:=by
  refine R.ambs (s':=s) (λ a w o hw e=>?_) (λ a w o e=>?_) (λ b o e=>hk b o (R.core.keep b o e))
  ·exact dF ((bj.set_ne _ _ λ q=>by rw[q,vac] at e;exact dq e).trans e) (hk _ _ (R.core.here _ _ _ e).1)
  ·by_cases q:a=D
   ·clear x vac hD;subst q;rw[bj.set_self] at e;refine ir e ?_;clear e;exact .inr ⟨ho,hb,hlow⟩
   ·rw[bj.set_ne _ _ q] at e
    by_cases hw:w= .amb
    ·exact .inr ⟨hk _ _ (R.core.here _ _ _ e).1,(R.core.here _ _ _ e).2,R.core.low _ _ e⟩
    ·exact .inl ⟨e,hw⟩
 have R'':=R'.adopt (bj.set_self ..) (hv.mono x.toExtV)
 refine⟨φ++[D],_,R'',?_,.ref (by rw[←R.len];simp)⟩
 have kk:∀b w o,Λ b=some (w,o)→((Λ.set D (.amb,b8 rvs j)).set D (.obj σ.h.length,b8 rvs j)) b=some (w,o):=λ b w o e=>by
  have q:b≠D:=λ q=>by rw[q,vac] at e;exact dq e
  rw[bj.set_ne _ _ q,bj.set_ne _ _ q];exact e
 exact⟨⟨⟨jw _ _,λ b o e=>kk b _ o e⟩,λ b o e=>kk b _ o e⟩,λ b o e=>kk b _ o e,λ b o e=>kk b _ o e⟩
noncomputable def wY (h:List AO) (n:Nat):Option (Array UInt8):=match h[n]? with
 |some (.barr b)=>some b
 |_=>none
theorem y6 {h:List AO} {φ:List Addr} {Λ:bj} {s:Shared} (R:RepH C h φ Λ s) {n:Nat} {b:Array UInt8} (e:wY h n=some b) {a:Addr} (ha:φ[n]? =some a):Λ a=some (.obj n,du b 0)∧s.heap.get? a=some (du b 0):=by
 have z:Λ a=some (.obj n,du b 0):=R.get (oB e) ha
 exact dF z ((R.core.here _ _ _ z).1)
noncomputable def gI (l:List AV):EM AV:=λ σ=>match l with
 | [v]=>match v with
  | .str x=>if iJ x.length then some (.int x.length,σ) else none
  | .ref n=>match getL σ.h n with
   |some vs=>if iJ vs.length then some (.int vs.length,σ) else none
   |none=>match wY σ.h n with
    |some b=>if iJ b.size then some (.int b.size,σ) else none
    |none=>none
  |_=>none
 |_=>none
theorem FB {prog:Program} {w:World} {A:Around} {E:Value→Shared→Prop} {s:Shared} {a:Addr} {b:Array UInt8} {Q:Value→Shared→Prop} (h:s.heap.get? a=some (du b 0)) (hf:(b.size:Int)<2^63) (q:∀t tk,Q (.int b.size t) {s with toks:=tk}):
  wpAny (model prog w) A (call (.builtin "len") [.ref a]) Q E s:=by
 refine PyProof.Rows.call_len_slot ⟨_,h,rfl⟩ BA.slot_len (λ Q' q'=>?_) (n:=b.size) (by omega) (by omega) (q _ _)
 refine wpAny_call_entry BA.slot_len ⟨_,h,rfl⟩ BA.entry_len ?_ (BA.args_len _)
 unfold Builtin.«bytearray.__len__»
 refine al (dN (a:=(Value.ref a,[])) rfl ?_)
 dsimp only
 refine al ?_
 unfold Builtin.Bytes.payload Builtin.Bytes.payload?
 refine al (al (wpAny_load h (aO ?_)))
 exact aO (al (wpAny_mkInt (aO ⟨_,rfl,q'⟩)))
theorem Es {l:List AV} {σ bc:St} {av:AV} {P:Prop} (e:gI l σ=some (av,bc)) (k1:∀n vs,l=[.ref n]→getL σ.h n=some vs→iJ vs.length=true→AV.int vs.length=av→σ=bc→P)
  (k2:∀n b,l=[.ref n]→wY σ.h n=some b→iJ b.size=true→AV.int b.size=av→σ=bc→P) (k3:∀x,l=[.str x]→iJ x.length=true→AV.int x.length=av→σ=bc→P):P:=by
 unfold gI at e
 injections KZ e v e0;subst e0
 set_option smartUnfolding false in refine Ku e (λ x e1 e=>?_) λ n e1 e=>?_
 ·injections lY e h1
  exact lH e λ e2 e3=>k3 x (e1▸rfl) h1 e2.symm e3
 ·set_option smartUnfolding false in refine KU e (λ vs hl e=>?_) λ z e=>?_
  ·injections lY e h1
   exact lH e λ e2 e3=>k1 n vs (e1▸rfl) hl h1 e2.symm e3
  ·injections rp e b hb
   injections lY e h1
   exact lH e λ e2 e3=>k2 n b (e1▸rfl) hb h1 e2.symm e3
theorem dY:CB C k stor (.builtin "len") gI:=by
 intro A rm σ l av bc h φ Λ s vs R hv
 refine Es h (λ n ws e hg hf e1 e2=>?_) (λ n b e hg hf e1 e2=>?_) (λ x e hf e1 e2=>?_)<;>clear h<;>subst e<;>subst e1<;>subst e2<;>have hf':=ay hf<;>refine VRs.econs hv λ v r ha hr=>VRs.enil hr ?_<;>clear hr hv
 ·refine VR.eref ha λ a had=>?_;clear ha
  refine bM (fM R.toRepH hg had) λ rvs hl hvs=>?_
  refine call_len_list hl (by rw[bn,←hvs.length];omega) ?_
  rw[bn,←hvs.length]
  exact bi (R.tok _) (.int _ _)
 ·refine VR.eref ha λ a had=>?_;clear ha
  exact FB (y6 R.toRepH hg had).2 (by omega) λ t tk=>bi (R.tok _) (.int _ _)
 ·refine VR.estr ha λ z=>?_;clear ha
  exact PyProof.Rows.len_str (by omega) (bi (R.tok _) (.int _ _))
noncomputable def Jl (l:List AV):EM AV:=λ σ=>match l with
 | [.int i]=>some (.int (if i<0 then-i else i),σ)
 |_=>none
theorem Jb:CB C k stor (.builtin "abs") Jl:=by
 intro A rm σ l av bc h φ Λ s vs R hv
 unfold Jl at h
 injections Lh h _ e;subst e
 refine ir h ?_;clear h
 refine VRs.econs hv λ z z ha hr=>?_;clear hv
 refine VRs.enil hr ?_;clear hr;refine VR.eint ha λ z=>?_;clear ha;exact call_abs_int λ u tk=>bi (R.tok _) (.int _ _)
noncomputable def Hq (l:List AV):EM AV:=λ σ=>match l with
 | [.bool b]=>some (.int (if b then 1 else 0),σ)
 |_=>none
theorem Go:CB C k stor (.type "int") Hq:=by
 intro A rm σ l av bc h φ Λ s vs R hv
 unfold Hq at h
 injections LZ h _ e;subst e
 refine ir h ?_;clear h
 refine VRs.econs hv λ z z ha hr=>?_;clear hv
 refine VRs.enil hr ?_;clear hr;refine VR.ebool ha ?_;clear ha;exact call_int_bool (bi (R.tok _) (.int _ _))
noncomputable def DC (l:List AV):EM AV:=λ σ=>match l with
 | [.int i]=>if small i then some (.str (Str.ofString (toString i)),σ) else none
 |_=>none
theorem Gn:CB C k stor (.type "str") DC:=by
 intro A rm σ l av bc h φ Λ s vs R hv
 unfold DC at h
 injections Lh h _ e;subst e
 split at h
 ·rename_i i hs
  refine ir h ?_;clear h
  refine VRs.econs hv λ z z ha hr=>?_;clear hv
  refine VRs.enil hr ?_;clear hr;refine VR.eint ha λ z=>?_;clear ha
  refine PySem.P.str_of_int ?_ (bi (R.tok _) (.str _ _))
  have:=ay hs
  by_cases h0:i.natAbs=0
  ·rw[h0];decide
  ·exact iN (Nat.log2_lt h0|>.mpr this) ⋯
 ·exact dq h
noncomputable def qF:List Int→Int→Int
 | [],m=>m
 |a::l,m=>qF l (if a>m then a else m)
theorem Al:∀(l:List Int) (m:Int),qF l m=m∨qF l m∈l
 | [],m=>.inl rfl
 |a::l,m=>by
  rcases Al l (if a>m then a else m) with h|h
  ·by_cases q:a>m
   ·rw[if_pos q] at h;exact .inr (by rw[show qF (a::l) m=qF l (if a>m then a else m) from rfl,if_pos q,h];exact bA)
   ·rw[if_neg q] at h;exact .inl (by rw[show qF (a::l) m=qF l (if a>m then a else m) from rfl,if_neg q,h])
  ·exact .inr (bI _ h)
theorem CF:∀(l:List Int) (m:Int),m≤qF l m∧∀a∈l,a≤qF l m
 | [],m=>⟨Int.le_refl _,λ z h=>by cases h⟩
 |a::l,m=>by
  refine dL (CF l (if a>m then a else m)) λ h1 h2=>?_
  have e:qF (a::l) m=qF l (if a>m then a else m):=rfl
  rw[e]
  by_cases q:a>m
  ·rw[if_pos q] at h1 h2⊢
   refine⟨by exact Int.le_of_lt (Int.lt_of_lt_of_le q h1),λ b hb=>?_⟩
   rcases bo.mp hb with rfl|hb
   ·exact h1
   ·exact h2 b hb
  ·rw[if_neg q] at h1 h2⊢
   refine⟨h1,λ b hb=>?_⟩
   rcases bo.mp hb with rfl|hb
   ·exact Int.le_trans (Int.le_of_not_gt q) h1
   ·exact h2 b hb
noncomputable def vF (l:List AV):EM AV:=λ σ=>match l with
 | [v]=>match v with
  | .ref n=>match(getL σ.h n).bind kJ with
   |some l=>match l with
    |a::ns=>some (.int (qF ns a),σ)
    | []=>none
   |none=>none
  |_=>none
 | [v,u]=>match v with
  | .int a=>match u with
   | .int b=>some (.int (if b>a then b else a),σ)
   |_=>none
  |_=>none
 |_=>none
theorem Ep {l:List AV} {σ bc:St} {av:AV} {P:Prop} (e:vF l σ=some (av,bc)) (k1:∀n a ns,l=[.ref n]→(getL σ.h n).bind kJ=some (a::ns)→AV.int (qF ns a)=av→σ=bc→P)
  (k2:∀a b,l=[.int a,.int b]→AV.int (if b>a then b else a)=av→σ=bc→P):P:=by
 unfold vF at e
 set_option smartUnfolding false in refine L0 e (λ v e0 e=>?_) λ v u e0 e=>?_
 ·injections Do e n e1
  injections rp e l hl
  cases l
  ·exact dq e
  ·exact lH e λ e2 e3=>k1 n _ _ (e1▸e0) hl e2.symm e3
 ·injections zd e a e1
  injections zd e b e2
  exact lH e λ e3 e4=>k2 a b (e1▸e2▸e0) e3.symm e4
theorem tB:CB C k stor (.builtin "max") vF:=by
 intro A rm σ l av bc h φ Λ s vs R hv
 refine Ep h (λ n a ns e hg e1 e2=>?_) (λ a b e e1 e2=>?_)<;>clear h<;>subst e<;>subst e1<;>subst e2<;>refine VRs.econs hv λ v r ha hr=>?_<;>clear hv
 ·refine VRs.enil hr ?_;clear hr
  refine bM (cU.mp hg) λ ws hw hi=>?_
  refine VR.eref ha λ ad had=>?_;clear ha
  refine bM (fM R.toRepH hw had) λ rvs hl hvs=>?_
  have hI:=pP hvs hi
  refine gX hI.allInts.items λ xs e=>?_
  have hns:a::ns=xs.toList.map (·.1):=by rw[←hI.numsOf,←nums_intItems,←e]
  have hsz:0<xs.size:=by
   have h3:0<(a::ns).length:=k5 _
   rw[hns,ac,gM] at h3;exact h3
  rw[e] at hl
  refine max_intList rm.hd hl hsz λ v h' tk hv hk=>?_
  refine gX (intItems_at hv) λ t uu0=>?_;clear hv;subst uu0
  refine dL (argBest_gt (numAt xs) (xs.size-1)) λ h1 h2=>?_
  have m1:numAt xs (argBest (λ i j=>decide (numAt xs i>numAt xs j)) (xs.size-1))∈a::ns:=by
   rw[hns,numAt_eq];exact getD_mem (by rw[ac,gM];exact f!"1a1.+c>1b1.+c<1ab<3" h1 (V (ai (f!"1 1.a>1 1.a<1" hsz))))
  have m2:∀b∈a::ns,b≤numAt xs (argBest (λ i j=>decide (numAt xs i>numAt xs j)) (xs.size-1)):=λ b hb=>by
   rw[hns] at hb
   refine bM (mem_getD hb) λ j hj uu0=>?_;clear hb;subst uu0
   rw[ac,gM] at hj
   rw[←numAt_eq];exact h2 j (by exact f!"1ac>1bc1.+<1a1.+b<3" hj (sA _ _))
  have ee:numAt xs (argBest (λ i j=>decide (numAt xs i>numAt xs j)) (xs.size-1))=qF ns a:=by
   have q1:=CF ns a
   refine Int.le_antisymm ?_ ?_
   ·rcases bo.mp m1 with q|q
    ·rw[q];exact q1.1
    ·exact q1.2 _ q
   ·rcases Al ns a with q|q
    ·rw[q];exact m2 a bA
    ·exact m2 _ (bI _ q)
  rw[ee]
  exact om R hk (.int _ _)
 ·refine VRs.econs hr λ u r hb hr'=>VRs.enil hr' ?_;clear hr hr'
  refine VR.eint ha λ y=>?_;clear ha;refine VR.eint hb λ y=>?_;clear hb
  refine max_two_ints rm.hd λ h' tk hk=>?_
  split<;>exact om R hk (.int _ _)
noncomputable def yi:List Int→Int
 | []=>0
 |a::l=>a+yi l
noncomputable def wA (l:List AV):EM AV:=λ σ=>match l with
 | [.ref n]=>match(getL σ.h n).bind kJ with
  |some ns=>some (.int (yi ns),σ)
  |_=>none
 |_=>none
theorem Eb (xs:List Int):∀(ys:List Int) (val:Nat→Int),(∀j,j<ys.length→val j=ys.getD j 0)→preSum val ys.length=yi ys:=by
 intro ys
 clear xs
 have key:∀(val:Nat→Int) (ys:List Int) (i:Nat),(∀j,j<ys.length→val (i+j)=ys.getD j 0)→preSum val (i+ys.length)=preSum val i+yi ys:=by
  intro val ys
  induction ys with
  |nil=>intro i _;simp[yi]
  |cons a l ih=>
   intro i h
   have h0:=h 0 (k5 _)
   have:=ih (i+1) λ j hj=>by
    have:=h (j+1) (Nat.succ_lt_succ hj)
    rw[show i+1+j=i+(j+1) by exact Nat.add_right_comm _ _ _,this];rfl
   rw[show i+(a::l).length=i+1+l.length by simp;with_unfolding_all exact jm (f!"1ab1.++a1.+b+>2") f!"1a1.+b+ab1.++>2",this,preSum]
   have e:val i=a:=by simpa using h0
   rw[e,yi];omega
 intro val h
 have:=key val ys 0 λ j hj=>by rw[gV];exact h j hj
 rw[gV] at this
 rw[this,preSum];omega
theorem tA:CB C k stor (.builtin "sum") wA:=by
 intro A rm σ l av bc h φ Λ s vs R hv
 unfold wA at h
 injections IK h n e;subst e
 injections LV h ns hg
 refine ir h ?_;clear h
 refine bM (cU.mp hg) λ ws hw hi=>?_
 refine VRs.econs hv λ z z ha hr=>?_;clear hv
 refine VRs.enil hr ?_;clear hr
 refine VR.eref ha λ ad had=>?_;clear ha
 refine bM (fM R.toRepH hw had) λ rvs hl hvs=>?_
 have hI:=pP hvs hi
 refine gX hI.allInts.items λ xs e=>?_
 have hns:ns=xs.toList.map (·.1):=by rw[←hI.numsOf,←nums_intItems,←e]
 rw[e] at hl
 refine call_sum_walkG (iter_intList hl λ ey e st hfp hlI=>?_)
 subst e
 refine⟨_,_,_,_,_,_,numAt xs,rfl,Walks.list (A:=A.in1) rm.hd _ ad hlI (intItems xs),st,hfp,(λ z z=>intItems_at),λ h' tk t' hk=>?_⟩
 have ee:preSum (numAt xs) (intItems xs).size=yi ns:=by
  have h1:(intItems xs).size=ns.length:=by rw[hns];simp[intItems]
  rw[h1]
  exact Eb ns ns _ λ j hj=>by rw[hns,numAt_eq]
 rw[ee]
 exact om (s:=s) R (old_kept hk) (.int _ _)
noncomputable def qR (l:List AV):EM AV:=λ σ=>match l with
 | [.ref n]=>match getL σ.h n with
  |some vs=>gH vs σ
  |none=>none
 |_=>none
theorem uR:CB C k stor (.type "list") qR:=by
 intro A rm σ l av bc h φ Λ s vs R hv
 unfold qR at h
 injections IK h n e;subst e
 injections rp h ws hg
 refine VRs.econs hv λ z z ha hr=>?_;clear hv
 refine VRs.enil hr ?_;clear hr
 refine VR.eref ha λ ad had=>?_;clear ha
 refine bM (fM R.toRepH hg had) λ rvs hl hvs=>?_
 unfold gH at h
 injections lY h hf
 refine ir h ?_;clear h
 refine dU hl λ o ho hc y=>?_;refine gX y λ j hd=>?_;clear y hl
 refine call_list_seq ad (.inl rfl) ho hc hd (λ h' c' hk hnew=>?_) (by rw[bn,←hvs.length];exact js hf)
 exact s8 (tk:=s.toks) R hk (bz _) hnew hvs
end
end
section
open PySem.SeqAt
namespace O
section
variable{prog:Program} {w:World} {A:Around} {s:Shared} {R:Result→Shared→Prop}
@[elab_as_elim] theorem JS {motive:String→Prop} {id:String} (h:(id=="type.__call__"|| (id=="bytearray.__init__"|| (id=="bytearray.append"||id=="claim.caller")))=true) (h1:motive "type.__call__") (h2:motive "bytearray.__init__") (h3:motive "bytearray.append") (h4:motive "claim.caller"):motive id:=
 ((jS _ _).mp h).elim (λ e=>(ez e).symm▸h1) λ h=>((jS _ _).mp h).elim (λ e=>(ez e).symm▸h2) λ h=>((jS _ _).mp h).elim (λ e=>(ez e).symm▸h3) λ e=>(ez e).symm▸h4
theorem EP {Γ:PySem.Ctx} {p:Pos} {f:Code×Pos→Bool} {Q:Bool→Shared→Prop} (hc:pM Γ.code=true∧zc Γ.below) (hf:∀c q,pM c=true→f (c,q)=false) (h:Q false s):
  Sem.wp (model prog w) Γ (stack>>=λ l=>Pure.pure (l.any f)) (λ a z s'=>Q a s') (λ z z z=>False) p s:=by
 rw[Sem.wp_bind']
 unfold stack
 rw[Sem.wp_stack]
 have e:((Γ.code,p)::Γ.below).any f=false:=List.any_eq_false.mpr λ x hx=>by
  rw[hf x.1 x.2 ((bo.mp hx).elim (λ e=>e▸hc.1) (hc.2 x))]
  exact Bool.noConfusion
 show Q (((Γ.code,p)::Γ.below).any f) s
 rw[e]
 exact h
theorem exported {a:Addr} {Q:Bool→Shared→Prop} (h:Q false s):gg true (model prog w) A (Builtin.Bytes.exported (.ref a)) Q s:=λ Γ p oY hc=>
 EP (hc rfl) (λ c q hk=>by
  cases c with
  |builtin id args=>
   obtain⟨pos,kw⟩:=args
   refine JS hk ?_ ?_ ?_ ?_<;>exact match pos with| []=>rfl|_::_=>Bool.and_false _
  |_=>rfl) h
end
end O
end
section
open PySem.SeqAt
namespace O
section
variable{α β:Type} {M:Model} {A:Around} {Q:α→Shared→Prop} {s:Shared}
theorem nd_pure {a:α} (h:Q a s):gg true M A (.pure a) Q s:=λ z z z z=>h
theorem nd_rule {tag:String} {k:Unit→Sem α} (h:gg true M A (k ()) Q s):gg true M A (.rule tag k) Q s:=h
theorem nd_point {l:List Value} {k:Unit→Sem α} (h:gg true M A (k ()) Q s):gg true M A (.point l k) Q s:=h
theorem nd_ask {k:Setting→Sem α} (h:gg true M A (k ⟨M.prog,M.w.params⟩) Q s):gg true M A (.ask k) Q s:=h
theorem nd_load {a:Addr} {p:Option Value} {k:Obj→Sem α} {o:Obj} (ho:s.heap.get? a=some o) (h:gg true M A (k o) Q s):gg true M A (.load a p k) Q s:=λ Γ q oY hc=>⟨o,ho,h Γ q oY hc⟩
theorem nd_fresh {k:Tok→Sem α} (h:gg true M A (k s.toks) Q {s with toks:=s.toks+1}):gg true M A (.fresh k) Q s:=h
theorem nd_alloc {o:Obj} {k:Addr→Sem α} (h:gg true M A (k s.heap.objs.size) Q {s with heap:=s.heap.push o}):gg true M A (.alloc o k) Q s:=h
theorem nd_bind {m:Sem β} {f:β→Sem α} (h:gg true M A m (λ a s'=>gg true M A (f a) Q s') s):gg true M A (m.bind f) Q s:=bind h
theorem looks {t:Sem α} {r:α} {h:Heap} {g d tk os} (x:Looks M h t r) (q:Q r ⟨h,g,d,tk,os⟩):gg true M A t Q ⟨h,g,d,tk,os⟩:=any (x A Q (λ z z=>False) _ (λ z z e=>e) q)
end
end O
namespace O
section
variable{prog:Program} {w:World} {A:Around} {C:Addr} {R:Result→Shared→Prop} {h:Heap} {g:Array GenState} {d:Drawn} {t:Nat} {os:OsState}
theorem make {rest:List Value} {init:Value} (Y:Makes (model prog w) h C) (hi:Looks (model prog w) h (typeLookup (.ref C) "__init__") (some init))
  (hb:∀self,Looks (model prog w) h (bindSpecial init self) (init,[self])) (hne:(some init !=some (Value.builtin "object.__init__"))=true)
  (hq:i4 true (model prog w) (A.under (.builtin "type.__call__" ⟨.ref C::rest,[]⟩)) (.call init ⟨.ref (h.objs.size+1)::rest,[]⟩) (λ r s'=>r= .ok (.ret .none)∧R (.ok (.ret (.ref (h.objs.size+1)))) s') ⟨(h.push emptyDict).push (instObj C h.objs.size),g,d,t,os⟩):
  i4 true (model prog w) A (.call (.ref C) ⟨rest,[]⟩) R ⟨h,g,d,t,os⟩:=by
 have Y':=Y
 obtain⟨⟨oc,od,cd,sl,hC,e1,e2,e4⟩,made,base,self,top,call,typ⟩:=Y
 refine of_tree rfl ?_
 show gg _ _ _ (callAny (.ref C) _) _ _
 refine nd_load hC ?_
 show gg _ _ _ (callAny.viaDunder (.ref C) _) _ _
 unfold callAny.viaDunder
 refine bind (looks call ?_)
 dsimp only
 rw[tc_bind]
 refine bind (pure (bind (pure ?_)))
 refine pure (a:=Fin.again (.call (.builtin "type.__call__") ⟨.ref C::rest,[]⟩)) (And.intro rfl ?_)
 refine of_tree rfl ?_
 show gg _ _ A.in1 (do checkBuiltinCall "type.__call__" ⟨.ref C::rest,[]⟩;again (.builtin "type.__call__" ⟨.ref C::rest,[]⟩)) _ _
 refine step (check_slot tc_kind tc_split typ (tc_args _ _ _) (pure (And.intro (Code.quiet_builtin _ (by decide+kernel)) (builtin rfl entry_typeCall ?_))))
 unfold Builtin.«type.__call__»
 have hm:Looks (model prog w) h (mroOf (.ref C)) cd.mro:=((Looks.ld (part:=none) hC).andThen .now).andThen .now
 repeat (first|simp only[e4,mu,m3]| (with_reducible refine any (wpAny_call ?_))|with_reducible refine O.looks (by assumption) ?_|with_reducible refine O.keep ?_|with_reducible refine O.bind ?_|with_reducible refine O.nd_bind ?_|with_reducible refine O.holding ?_|with_reducible refine O.onRaise ?_| (refine O.nd_load (by assumption) ?_;try dsimp only)| (refine O.nd_pure ?_;try dsimp only)| (refine O.nd_rule ?_;try dsimp only)| (refine O.nd_point ?_;try dsimp only)| (refine O.nd_ask ?_;try dsimp only)| (refine O.nd_fresh ?_;try dsimp only)| (refine O.nd_alloc ?_;try dsimp only))
 refine new_K Y' hi (.inl hne) ?_
 have k:∀b o,h.get? b=some o→((h.push emptyDict).push (instObj C h.objs.size)).get? b=some o:=λ b o e=>bB _ (bB _ e)
 have hx:((h.push emptyDict).push (instObj C h.objs.size)).get? (h.objs.size+1)=some (instObj C h.objs.size):=by heap_get
 have t1:Looks (model prog w) ((h.push emptyDict).push (instObj C h.objs.size)) (typeOf (.ref (h.objs.size+1))) (.ref C):=(Looks.ld hx).andThen .now
 have s1:=self.keeps k
 have i1:=hi.keeps k
 have b1:=(hb (.ref (h.objs.size+1))).keeps k
 show gg _ _ _ _ _ _
 unfold isInstance callSpecial? specialOf
 repeat (first|refine O.call hq ?_|with_reducible refine O.looks (by assumption) ?_|with_reducible refine O.keep ?_|with_reducible refine O.bind ?_|with_reducible refine O.nd_bind ?_|with_reducible refine O.holding ?_|with_reducible refine O.onRaise ?_| (refine O.nd_load (by assumption) ?_;try dsimp only)| (refine O.nd_pure ?_;try dsimp only)| (refine O.nd_rule ?_;try dsimp only)| (refine O.nd_point ?_;try dsimp only)| (refine O.nd_ask ?_;try dsimp only)| (refine O.nd_fresh ?_;try dsimp only)| (refine O.nd_alloc ?_;try dsimp only))
 intro r s' ww0;refine dL ww0 λ uu0 z=>?_;clear ww0;subst uu0
 exact fV _ rfl (pure (pure z))
end
end O
end
section
open PySem.SeqAt
noncomputable def wk (bb:Bool) (C:Cx) (k:Nat) (stor:Nat→Stor) (t:Sem Value) (f:EM AV):Prop:=
 ∀A,Rm A k→∀σ av bc,f σ=some (av,bc)→∀φ Λ s,RepS C stor σ φ Λ s→gg bb C.M A t (fQ C stor φ Λ av bc) s
noncomputable abbrev uh:=wk true
noncomputable def Dw (bb:Bool) (C:Cx) (k:Nat) (f:Addr) (G:fR):Prop:=
 ∀A,Rm A k→∀args h av h',G args h=some (av,h')→∀φ Λ s rvs,RepH C h φ Λ s→VRs φ Λ args rvs→
  i4 bb C.M A (.call (.ref f) ⟨rvs,[]⟩) (λ r s'=>∃v,r= .ok (.ret v)∧∃cF bp,RepH C h' cF bp s'∧ExtE φ Λ cF bp∧VR cF bp av v) s
noncomputable abbrev gU:=Dw true
section
variable{bb:Bool} {C:Cx} {k:Nat} {stor:Nat→Stor} {env:Env}
theorem jn.o {t:Sem Flow} {f:EM AF} (h:mI C k stor t f):jn bb C k stor t f:=λ A rm σ av bc e φ Λ s R=>O.any0 (O.to_any (h A rm σ av bc e φ Λ s R))
theorem cE.e {t:Sem Value} {f:EM AV} (h:cE C k stor t f):wk bb C k stor t f:=λ A rm σ av bc e φ Λ s R=>O.any0 (h A rm σ av bc e φ Λ s R)
theorem rO {t:Sem Value} {f:EM AV} (hf:wk bb C k stor t f) {α:Type} {g:AV→EM α} {A:Around} (r:Rm A k) {σ bc:St} {b:α} (h:ae f g σ=some (b,bc)) {φ:List Addr} {Λ:bj} {s:Shared} (R:RepS C stor σ φ Λ s)
  {Q:Value→Shared→Prop}
  (q:∀a az v aZ aJ ar,g a az=some (b,bc)→RepS C stor az aJ ar aZ→ExtE φ Λ aJ ar→VR aJ ar a v→Q v aZ):gg bb C.M A t Q s:=by
 refine ce (br h) λ a az h1 h2=>?_
 refine O.mono (hf A r σ a az h1 φ Λ s R) λ v aZ p=>?_
 refine bK p λ aJ ar bD x hv=>?_;clear p
 exact q a az v aZ aJ ar h2 bD x hv
theorem an {st:Stmt} {rest:List Stmt} {f g:EM AF} (hf:jn bb C k stor (exec st env) f) (hg:jn bb C k stor (execs rest env) g):jn bb C k stor (execs (st::rest) env) (bm f g):=by
 intro A rm σ fl bc h φ Λ s R
 refine ce (br h) λ H7 az h1 h2=>?_
 rw[execs_cons]
 refine O.bind (O.mono (hf A rm σ H7 az h1 φ Λ s R) λ v aZ p=>?_)
 refine bK p λ aJ ar bD bq hr=>?_;clear p
 cases H7 with
 |next=>
  cases v<;>first|exact hr.elim|exact O.mono (hg A rm az fl bc h2 aJ ar aZ bD) (λ z z p=>p.trans bq)
 |brk=>refine ir h2 ?_;clear h2;cases v<;>first|exact hr.elim|exact O.pure ⟨aJ,ar,bD,bq,hr⟩
 |cont=>refine ir h2 ?_;clear h2;cases v<;>first|exact hr.elim|exact O.pure ⟨aJ,ar,bD,bq,hr⟩
 |ret w=>refine ir h2 ?_;clear h2;cases v<;>first|exact hr.elim|exact O.pure ⟨aJ,ar,bD,bq,hr⟩
theorem aw {st:Stmt} {f:EM AF} (hf:jn bb C k stor (exec st env) f):jn bb C k stor (execs [st] env) f:=by
 intro A rm σ fl bc h φ Λ s R
 rw[execs_cons]
 refine O.bind (O.mono (hf A rm σ fl bc h φ Λ s R) λ v aZ p=>?_)
 cases v<;>first|exact O.any (wpAny_execs_nil (E:=λ z z=>False) p)|exact O.pure p
theorem c7 {test:Expr} {body orelse:List Stmt} {pos:Pos} {f:EM Bool} {g e:EM AF} (hf:kR C k stor (isTrue test env (eval test env)) f) (hg:jn bb C k stor (execs body env) g) (he:jn bb C k stor (execs orelse env) e):
  jn bb C k stor (exec (.If test body orelse pos) env) (ae f λ t=>if t then g else e):=by
 intro A rm σ fl bc h φ Λ s R
 rw[exec_If]
 refine O.step (bP (O.step (mx hf rm h R λ t az aZ aJ ar aN bD bq=>?_)))
 cases t with
 |true=>exact O.mono (hg A rm az fl bc aN aJ ar aZ bD) (λ c ey p=>p.trans bq.toExtS)
 |false=>exact O.mono (he A rm az fl bc aN aJ ar aZ bD) (λ c ey p=>p.trans bq.toExtS)
@[elab_as_elim] theorem HD {v:AV} {σ bc:St} {fl:AF} {P:AV→AF→St→Prop} (e:er v σ=some (fl,bc)) (k:P .none .next σ):P v fl bc:=by
 cases v<;>first|exact dq e|exact ir (P:=λ fl bc=>P .none fl bc) e k
theorem gW {e:Expr} {pos:Pos} {f:EM AV} (hf:wk bb C k stor (eval e env) f) (hi:autoParam (interactive env=false) aR) (hs:autoParam (swapsWith e none pos.line env=pure false) aR):
  jn bb C k stor (exec (.Expr e pos) env) (ae f er):=by
 intro A rm σ fl bc h φ Λ s R
 rw[exec_Expr env e pos hi hs]
 refine O.step (bP (O.bind (rO hf rm h R λ a az v aZ aJ ar aN bD bq hv=>?_)))
 revert hv
 refine HD aN λ hv=>?_;clear aN
 refine VR.enone hv ?_;clear hv
 rw[dropValue_plain (λ a e=>by cases e)]
 exact O.pure ⟨aJ,ar,bD,bq.toExtS,trivial⟩
theorem mQ {es:List Expr} {j:Nat} {tp pos:Pos} {e:Expr} {is:List Nat} {f:EM AV} (n:NamesAt env stor es is) (hf:wk bb C k stor (eval e env) f) (hs:autoParam (swapsWithSole [.Tuple es j tp] e pos.line env=pure false) aR)
  (hw:autoParam (swappedStores [.Tuple es j tp] e env=pure none) aR):
  jn bb C k stor (exec (.Assign [.Tuple es j tp] e pos) env) (ae f λ v=>ae (pi is v) λ z=>Mine.Internal.ret .next):=by
 intro A rm σ fl bc h φ Λ s R
 rw[exec_Assign]
 refine O.step (bP ?_)
 rw[hs]
 refine O.bind (O.pure ?_)
 rw[if_neg ⋯]
 refine O.bind (rO hf rm h R λ a az v aZ aJ ar aN bD bq hv=>?_)
 rw[hw]
 refine O.bind (O.pure ?_)
 show gg bb C.M A (do assignAll v [assign (.Tuple es j tp) env];Pure.pure Flow.next) _ aZ
 refine ce (br aN) λ z cG h2 h3=>?_
 refine ir h3 ?_;clear h3
 refine O.step (aV (j5 (k:=k) n j tp A rm az a _ h2 aJ ar aZ v bD hv) (λ z ey p=>?_) dC)
 refine ce p λ cD bH cX cL=>?_;clear p
 exact O.pure ⟨cD,bH,cX,bq.toExtS.trans cL,trivial⟩
theorem lS {es:List Expr} {j:Nat} {tp pos:Pos} {e:Expr} {names:List Str} {is:List Nat} {f:EM AV} (n:StrsAt env stor names.reverse is) (hf:wk bb C k stor (eval e env) f) (hw:swappedStores [.Tuple es j tp] e env=pure (some names))
  (hlen:autoParam (names.length=is.length) aR) (hs:autoParam (swapsWithSole [.Tuple es j tp] e pos.line env=pure false) aR):
  jn bb C k stor (exec (.Assign [.Tuple es j tp] e pos) env) (ae f λ v=>ae (yd is v) λ _=>Mine.Internal.ret .next):=by
 intro A rm σ fl bc h φ Λ s R
 rw[exec_Assign]
 refine O.step (bP ?_)
 rw[hs]
 refine O.bind (O.pure ?_)
 rw[if_neg ⋯]
 refine O.bind (rO hf rm h R λ a az v aZ aJ ar aN bD bq hv=>?_)
 rw[hw]
 refine O.bind (O.pure ?_)
 show gg bb C.M A (do rule "assign.swapped-stores";let items←unpackItems v names.length none;assignInOrder (names.reverse.map λ n=>bindName env n) items.reverse;Pure.pure Flow.next) _ aZ
 refine ce (br aN) λ _ cG h2 h3=>?_
 refine ir h3 ?_;clear h3
 refine EZ h2 λ l e hl hh=>?_;clear h2 aN;subst e
 refine VR.etup hv λ _ _ hL hr=>?_;clear hv
 rename_i ad vs
 have e:names.length=vs.toArray.size:=by rw[bn,←hr.length,hl,hlen]
 rw[e]
 refine O.step (wpAny_rule (O.step (wpAny_unpackItems_tuple rm.hd (m9 bD.toRepH hL) λ h' he=>?_)))
 have hk:∀b o,aZ.heap.get? b=some o→h'.get? b=some o:=λ b o e=>he b o (dE (cB e)) e
 exact O.step (Gs n hh (bD.keeps hk) hr.reverse λ bp s' R' x'=>O.pure ⟨aJ,bp,R',bq.toExtS.trans x',trivial⟩)
theorem nQ (H:C.Ok) {o e:Expr} {x:Str} {px pos:Pos} {cls:List Addr} {f:Nat} {fe fo:EM AV} (hx:x=C.fname f) (hf:GN C f) (hc:∀c∈cls,StOk C c (C.fname f)) (he:wk bb C k stor (eval e env) fe) (ho:cE C k stor (eval o env) fo)
  (hs:autoParam (swapsWith e (some (.Attribute o x px)) pos.line env=pure false) aR):
  jn bb C k stor (exec (.Assign [.Attribute o x px] e pos) env) (ae fe λ v=>ae fo λ o=>ae (ll cls f o v) λ z=>Mine.Internal.ret .next):=by
 subst hx
 intro A rm σ fl bc h φ Λ s R
 rw[plainObj_exec_Assign_Attribute o _ px e pos hs]
 refine O.step (bP (O.bind (rO he rm h R λ v az vv aZ aJ ar aN bD bq hv=>?_)))
 rw[assign_Attribute]
 refine O.step (al (cA (cT ho rm aN bD λ ov cG vo ey cD bH bT cX cL hvo=>al (bP (al (cA ?_))))))
 refine ce (br bT) λ z dM h3 h4=>?_
 refine ir h4 ?_;clear h4
 exact Cp H hf hc h3 cX hvo (hv.mono cL.toExtV) λ bp s' R' x'=>wpAny_release' (O.pure ⟨cD,bp,R',(bq.trans (cL.trans x')).toExtS,trivial⟩)
theorem di {e:Expr} {pos:Pos} {f:EM AV} (hf:cE C k stor (eval e env) f) (hi:autoParam (interactive env=false) aR) (hs:autoParam (swapsWith e none pos.line env=pure false) aR):
  mI C k stor (exec (.Expr e pos) env) (ae f er):=gW hf.e hi hs
theorem cw {es:List Expr} {j:Nat} {tp pos:Pos} {e:Expr} {is:List Nat} {f:EM AV} (n:NamesAt env stor es is) (hf:cE C k stor (eval e env) f) (hs:autoParam (swapsWithSole [.Tuple es j tp] e pos.line env=pure false) aR)
  (hw:autoParam (swappedStores [.Tuple es j tp] e env=pure none) aR):
  mI C k stor (exec (.Assign [.Tuple es j tp] e pos) env) (ae f λ v=>ae (pi is v) λ z=>Mine.Internal.ret .next):=mQ n hf.e hs hw
theorem c8 {es:List Expr} {j:Nat} {tp pos:Pos} {e:Expr} {names:List Str} {is:List Nat} {f:EM AV} (n:StrsAt env stor names.reverse is) (hf:cE C k stor (eval e env) f) (hw:swappedStores [.Tuple es j tp] e env=pure (some names))
  (hlen:autoParam (names.length=is.length) aR) (hs:autoParam (swapsWithSole [.Tuple es j tp] e pos.line env=pure false) aR):
  mI C k stor (exec (.Assign [.Tuple es j tp] e pos) env) (ae f λ v=>ae (yd is v) λ z=>Mine.Internal.ret .next):=lS n hf.e hw hlen hs
theorem cM (H:C.Ok) {o e:Expr} {x:Str} {px pos:Pos} {cls:List Addr} {f:Nat} {fe fo:EM AV} (hx:x=C.fname f) (hf:GN C f) (hc:∀c∈cls,StOk C c (C.fname f)) (he:cE C k stor (eval e env) fe) (ho:cE C k stor (eval o env) fo)
  (hs:autoParam (swapsWith e (some (.Attribute o x px)) pos.line env=pure false) aR):
  mI C k stor (exec (.Assign [.Attribute o x px] e pos) env) (ae fe λ v=>ae fo λ o=>ae (ll cls f o v) λ z=>Mine.Internal.ret .next):=nQ H hx hf hc he.e ho hs
theorem nO {test:Expr} {body:List Stmt} {pos:Pos} {t:EM Bool} {b:EM AF} (N:Nat) (ht:kR C k stor (isTrue test env (eval test env)) t) (hb:jn bb C k stor (execs body env) b):
  jn bb C k stor (exec (.While test body [] pos) env) (jX t b N):=by
 intro A rm σ fl bc h φ Λ s R
 rw[exec_While]
 refine O.step (bP (O.runOwn (R:=λ r s'=>∃f,r= .ok f∧rc C stor φ Λ fl bc f s') ?_ λ r s' h=>h))
 refine O.loop rfl rfl (λ n s'=>∃az aJ ar,jX t b n az=some (fl,bc)∧RepS C stor az aJ ar s'∧ExtS φ Λ aJ ar) ?_ N ⟨σ,φ,Λ,h,R,.refl _ _⟩
 intro n aZ ww0;refine kb ww0 λ az aJ ar aN bD bq=>?_;clear ww0
 show gg bb C.M A ((whileTurn test body [] env).onRaise (λ x=>do noteFrame x env;theTreesLotGoes x)) _ aZ
 refine O.onRaise ?_
 simp only[whileTurn]
 cases n with
 |zero=>rw[E0] at aN;exact dq aN
 |succ n=>
  rw[zJ] at aN
  refine O.step (mx ht rm aN bD λ c cG ey cD bH bT cX cL=>?_)
  cases c with
  |false=>
   refine ir bT ?_;clear bT
   exact O.step (wpAny_execs_nil (O.pure ⟨_,rfl,cD,bH,cX,bq.trans cL.toExtS,trivial⟩))
  |true=>
   refine ce (br bT) λ fb dM h3 h4=>?_
   refine O.bind (O.mono (hb A rm cG fb dM h3 cD bH ey cX) λ f io p=>?_)
   refine bK p λ iS gw f6 gi hf=>?_;clear p
   have xx:=bq.trans (cL.toExtS.trans gi)
   cases fb with
   |next=>cases f<;>first|exact hf.elim|exact O.pure (.inl ⟨rfl,n,fY n,dM,iS,gw,h4,f6,xx⟩)
   |cont=>cases f<;>first|exact hf.elim|exact O.pure (.inl ⟨rfl,n,fY n,dM,iS,gw,h4,f6,xx⟩)
   |brk=>refine ir h4 ?_;clear h4;cases f<;>first|exact hf.elim|exact O.pure ⟨_,rfl,iS,gw,f6,xx,trivial⟩
   |ret v=>refine ir h4 ?_;clear h4;cases f<;>first|exact hf.elim|exact O.pure ⟨_,rfl,iS,gw,f6,xx,hf⟩
theorem O.block {prog:Program} {w:World} {A:Around} {R:Result→Shared→Prop} {s:Shared} {stmts:List Stmt} {env:Env} (h:gg bb (model prog w) A (execs stmts env) (λ f s'=>R (.ok f) s') s):i4 bb (model prog w) A (.block stmts env) R s:=by
 refine O.of_tree rfl ?_
 show gg _ _ _ (do return PySem.Fin.done (←(execs stmts env).onRaise (λ x=>do noteFrame x env;theTreesLotGoes x))) _ s
 exact O.bind (O.onRaise (O.mono h λ f s' h'=>O.pure h'))
theorem Cl {target iter:Expr} {body:List Stmt} {pos:Pos} {g:EM IT} {asg:AV→EM Unit} {b:EM AF} (hi:zj C k stor env iter g) (ha:ES C k stor (assign target env) asg) (hb:jn bb C k stor (execs body env) b)
  (hs:autoParam (∀x,foldedSetIterable iter env x=pure x) aI):
  jn bb C k stor (exec (.For target iter body [] pos) env) (jU (kz target) g asg b):=by
 intro A rm σ fl bc h φ Λ s R
 rw[jU] at h
 refine ce (br h) λ it pC h1 h2=>?_
 injections lY h2 hok
 rw[exec_For]
 refine O.step (bP (O.step (aV (hi A rm σ it pC h1 φ Λ s R (λ it ey=>gg bb C.M A (runOwn (.forLoop target it body [] env) env) (rc C stor φ Λ fl bc) ey) λ a cF ar bp s' R' bq x' I=>?_) (λ x aZ p=>?_) λ z z x=>x)))
 rotate_left
 ·rw[hs]
  exact O.bind (O.pure (O.step (bP (O.bind (O.holding (O.any p))))))
 refine O.runOwn (R:=λ r s'=>∃f,r= .ok f∧rc C stor φ Λ fl bc f s') ?_ λ r s' h=>h
 refine O.loop rfl rfl (λ n s'=>∃i az aJ bH,v0 it asg b n i az=some (fl,bc)∧RepS C stor az aJ bH s'∧ExtS cF ar aJ bH∧zm it aJ ar bH i a) ?_ _ ⟨0,pC,cF,bp,h2,R',x'.toExtS,I⟩
 intro n aZ ww0;refine fq ww0 λ i az aJ bH aN bD cL HS=>?_;clear ww0
 show gg bb C.M A ((forTurn target (.ref a) body [] env).onRaise (λ x=>do noteFrame x env;theTreesLotGoes x)) _ aZ
 refine O.onRaise ?_
 simp only[forTurn]
 refine O.step (bP (O.bind (O.onRaise (O.any (E:=λ z z=>False) ?_))))
 cases n with
 |zero=>exact dq aN
 |succ n=>
  rw[v0] at aN
  dsimp only at aN
  set_option smartUnfolding false in refine LD aN (λ hit hh=>?_) λ av hit hh=>?_<;>clear aN
  ·refine lH hh λ e1 e2=>?_;clear hh;subst e1;clear h2 h;subst e2
   refine uF rm.hd it hok hit bD HS (λ z gw io f6 yE E2=>?_) λ av v io q=>by exact dq q
   exact O.pure (.inr ⟨rfl,O.block (O.any (wpAny_execs_nil (E:=λ z z=>False) ⟨_,rfl,aJ,gw,f6,bq.toExtS.trans (cL.off yE),trivial⟩))⟩)
  ·refine uF rm.hd it hok hit bD HS (λ q=>by exact IG q) λ av' v io q go=>?_
   refine sk q λ e1=>?_;clear q;subst e1
   refine O.step (go λ gw io f6 yE E2 hv JG=>?_)
   refine ce (br hh) λ z mv h3 h4=>?_
   refine O.step (aV (ha A rm az av mv h3 aJ gw io v f6 hv) (λ z yg p=>?_) λ z z x=>x)
   refine ce p λ zB uV oA ul=>?_;clear p
   refine ce (br h4) λ fb oK h5 h6=>?_
   refine O.bind (O.mono (hb A rm mv fb oK h5 zB uV yg oA) λ f zO p=>?_)
   refine bK p λ oJ pD mM k9 hf=>?_;clear p
   have xx:ExtS cF ar oJ pD:=(cL.off yE).trans (ul.trans k9)
   have KP:=(JG.mono ul).mono k9
   cases fb with
   |next=>cases f<;>first|exact hf.elim|exact O.pure (.inl ⟨rfl,n,fY n,i+1,oK,oJ,pD,h6,mM,xx,KP⟩)
   |cont=>cases f<;>first|exact hf.elim|exact O.pure (.inl ⟨rfl,n,fY n,i+1,oK,oJ,pD,h6,mM,xx,KP⟩)
   |brk=>refine lH h6 λ e1 e2=>?_;clear h6;subst e1;clear h4 hh h2 h;subst e2;cases f<;>first|exact hf.elim|exact O.pure ⟨_,rfl,oJ,pD,mM,bq.toExtS.trans xx,trivial⟩
   |ret v=>refine lH h6 λ e1 e2=>?_;clear h6;subst e1;clear h4 hh h2 h;subst e2;cases f<;>first|exact hf.elim|exact O.pure ⟨_,rfl,oJ,pD,mM,bq.toExtS.trans xx,hf⟩
end
end
section
open PySem.SeqAt
theorem lA {bb:Bool} {C:Cx} (H:C.Ok) {f:Addr} {fd:FuncData} {body:List Stmt} {params names:List Str} {F:EM AF} {k:Nat} (O:FnOk C f fd body params names) (extra:Nat)
  (hS:∀L,jn bb C k (rg fd L names) (execs body (callEnvC fd L f)) F):Dw bb C (k+1) f (dS (names.length+extra) params.length F):=λ A rm args h av h' hG φ Λ s rvs R hargs=>
 Hx H O extra rm hG R hargs λ oc od osl h1 h2 h3 h4 h5 h6=>Mine.Internal.O.call_cells rm.lt h1 rfl h2 h3 O.body h4 O.clo h5 (λ aZ x=>(h6 aZ x).elim λ σ y=>y.elim λ fl y=>y.elim λ bc y=>y.elim λ ar y=>
  Mine.Internal.O.mono (hS _ _ y.2.2.1 _ fl bc y.1 φ ar _ y.2.1) y.2.2.2) O.co O.gen O.kind
theorem bZ {C:Cx} (H:C.Ok) {f:Addr} {fd:FuncData} {body:List Stmt} {params names:List Str} {F:EM AF} {k:Nat} (O:FnOk C f fd body params names) (extra:Nat)
  (hS:∀L,mI C k (rg fd L names) (execs body (callEnvC fd L f)) F):b7 C (k+1) f (dS (names.length+extra) params.length F):=λ A rm args h av h' hG φ Λ s rvs R hargs=>Mine.Internal.O.code_to (lA H O extra hS A rm args h av h' hG φ Λ s rvs R hargs)
section
variable{C:Cx} {k:Nat} {stor:Nat→Stor} {env:Env}
theorem O.callWith_of {M:Model} {A:Around} {s:Shared} {pos:Pos} {f:Value} {first:List Value} {Q:Value→Shared→Prop} {P:Heap→Prop} {args:List (Bool×Sem Value)} (hplain:args.any (·.1)=false)
  (hk:∀h,P h→∃k,(k=Keeper.frame∨k=Keeper.machine∨k=Keeper.boundFrame)∧Looks M h (keeperOf f) k)
  (h:wpAny M A (evalArgs f true args []) (λ a aZ=>P aZ.heap∧gg true M A (PySem.call f (first++a.pos) a.kw) Q aZ) (λ z z=>False) s):gg true M A (callWith pos f first args []) Q s:=by
 unfold callWith
 refine O.bind (O.holding (O.any (aV h (λ a aZ aN=>O.step (bP ?_)) λ z z x=>x)))
 refine bM (hk _ aN.1) λ k hk' L=>?_
 rw[List.any_nil,Bool.or_false,hplain]
 refine O.step (L.here ?_)
 have tail:∀{t:Sem Value},gg true M A t Q aZ→gg true M A (t>>=λ r=>PySem.holding [r] PySem.point>>=λ z=>Pure.pure r) Q aZ:=
  λ ht=>O.bind (O.mono ht λ r ey hr=>O.bind (O.holding (O.any (wpAny_point (E:=λ z z=>False) (O.pure hr)))))
 have marked (mk:Value):gg true M A (callMarked mk f (first++a.pos) a.kw) Q aZ:=by unfold callMarked;exact O.keep aN.2
 rcases hk' with rfl|rfl|rfl<;>dsimp only<;>first|exact tail aN.2| (split<;>first|exact tail aN.2|exact tail (marked _))
theorem O.callWith_bi {M:Model} {A:Around} {s:Shared} {pos:Pos} {f:Value} (hf:Ez f=true) {first:List Value} {Q:Value→Shared→Prop} {args:List (Bool×Sem Value)} (hplain:args.any (·.1)=false)
  (h:wpAny M A (evalArgs f true args []) (λ a aZ=>gg true M A (PySem.call f (first++a.pos) a.kw) Q aZ) (λ z z=>False) s):gg true M A (callWith pos f first args []) Q s:=by
 unfold callWith
 refine O.bind (O.holding (O.any (aV h (λ a aZ aN=>O.step (bP ?_)) λ z z x=>x)))
 rw[List.any_nil,Bool.or_false,hplain]
 have tail:∀{t:Sem Value},gg true M A t Q aZ→gg true M A (t>>=λ r=>PySem.holding [r] PySem.point>>=λ z=>Pure.pure r) Q aZ:=
  λ ht=>O.bind (O.mono ht λ r ey hr=>O.bind (O.holding (O.any (wpAny_point (E:=λ z z=>False) (O.pure hr)))))
 cases f<;>first| (exfalso;exact Bool.noConfusion hf)|exact O.bind (O.pure (tail aN))
theorem q7 {f:Value} {pos:Pos} {es:List Expr} {fs:List (EM AV)} (hE:SndEach C k stor env es fs) {α:Type} {g:List AV→EM α} {A:Around} (rm:Rm A k) {σ bc:St} {b:α}
  (h:ae (bN fs) g σ=some (b,bc)) {φ:List Addr} {Λ:bj} {s:Shared} (R:RepS C stor σ φ Λ s) {E:Value→Shared→Prop}:
  wpAny C.M A (evalArgs f true (backTo pos (starEach es env)) []) (λ a aZ=>a.kw=[]∧∃l az aJ ar,g l az=some (b,bc)∧RepS C stor az aJ ar aZ∧ExtE φ Λ aJ ar∧VRs aJ ar l a.pos) E s:=by
 cases hE with
 |nil=>
  refine ce (br h) λ a az h1 h2=>?_
  refine lH h1 λ e1 e2=>?_;clear h1;subst e1 e2
  exact evalArgs_nil3 ⟨rfl,[],σ,φ,Λ,h2,R,.refl _ _,.nil⟩
 |cons hd tl hs=>
  rw[hs]
  refine evalArgs_plain ?_
  have:=lc (iT (pos:=pos) (.cons hd tl hs)) rm h R (Q:=λ vs aZ=>(⟨vs,[]⟩:Args).kw=[]∧∃l az aJ ar,g l az=some (b,bc)∧RepS C stor az aJ ar aZ∧ExtE φ Λ aJ ar∧VRs aJ ar l vs) (E:=E) λ l az vs aZ aJ ar aN bD bq hv=>⟨rfl,l,az,aJ,ar,aN,bD,bq,hv⟩
  rw[hs] at this
  exact this
theorem mG (H:C.Ok) {f:Value} (hk:keepIn C.K f=true) {pos:Pos} {first:List Value} {es:List Expr} {fs:List (EM AV)} (hE:SndEach C k stor env es fs) {α:Type} {g:List AV→EM α} {A:Around} (rm:Rm A k) {σ bc:St} {b:α}
  (h:ae (bN fs) g σ=some (b,bc)) {φ:List Addr} {Λ:bj} {s:Shared} (R:RepS C stor σ φ Λ s) {Q:Value→Shared→Prop}
  (q:∀l az vs aZ aJ ar,g l az=some (b,bc)→RepS C stor az aJ ar aZ→ExtE φ Λ aJ ar→VRs aJ ar l vs→gg true C.M A (PySem.call f (first++vs)) Q aZ):
  gg true C.M A (callWith pos f first (backTo pos (starEach es env)) []) Q s:=by
 refine O.callWith_of (P:=C.K.In) (kP hE) (keeps_K hk) (aV (q7 hE rm h R) (λ a aZ p=>?_) dC)
 refine dL p λ hk y=>?_;refine fq y λ l az aJ ar aN bD bq hv=>?_;clear y p
 rw[hk]
 exact dF (H.X.keeps bD.core.keep) (q l az a.pos aZ aJ ar aN bD bq hv)
theorem we {f:Addr} {G:fR} (hf:gU C k f G) {A:Around} (rm:Rm A k) {σ bc:St} {args:List AV} {av:AV} (h:cr G args σ=some (av,bc)) {φ:List Addr} {Λ:bj} {s:Shared} (R:RepS C stor σ φ Λ s)
  {rvs:List Value} (hv:VRs φ Λ args rvs):gg true C.M A (PySem.call (.ref f) rvs) (fQ C stor φ Λ av bc) s:=by
 unfold cr at h
 injections Ae h a h' hG
 refine ir h ?_;clear h
 refine O.call (hf A rm args _ _ _ hG φ Λ s rvs R.toRepH hv) λ r s' q=>?_
 refine bM q λ v uu0 y=>?_;refine bK y λ cF bp R' x' hr=>?_;clear y q;subst uu0
 exact fV v rfl (c9 cF bp (R.ext R' x') x' hr)
theorem xn (H:C.Ok) {x:Str} {p pos:Pos} {f:Addr} {G:fR} {es:List Expr} {fs:List (EM AV)} (n:GlobAt C env x (.ref f)) (hk:keepIn C.K (.ref f)=true) (hf:gU C k f G) (hE:SndEach C k stor env es fs):
  uh C k stor (eval (.Call (.Name x p) es [] pos) env) (ae (bN fs) (cr G)):=by
 intro A rm σ av bc h φ Λ s R
 rw[arm_eval_Call_Name']
 refine O.step (kg H n R.core ?_)
 exact mG H hk hE rm h R λ l az vs aZ aJ ar aN bD bq hv=>O.mono (we hf rm aN bD hv) (λ z z p=>p.trans bq)
theorem Fd (H:C.Ok) {x:Str} {p pos:Pos} {c fI:Addr} {G:fR} {es:List Expr} {fs:List (EM AV)} (n:GlobAt C env x (.ref c)) (hc:ClsOk C c) (hi:findIn C.K (.ref c) "__init__"=some (some (.ref fI)))
  (ht:typeIn C.K (.ref fI)=some (.type "function")) (hf:gU C k fI G) (hE:SndEach C (k+1) stor env es fs):
  uh C (k+1) stor (eval (.Call (.Name x p) es [] pos) env) (ae (bN fs) (pt c G)):=by
 intro A rm σ av bc h φ Λ s R
 rw[arm_eval_Call_Name']
 refine O.step (kg H n R.core ?_)
 refine mG H hc.keep hE rm h R λ l az vs aZ aJ ar aN bD bq hv=>?_
 refine Fv aN λ h' hG=>?_;clear aN
 have X:=H.X.keeps bD.core.keep
 refine bM (BE (c:=c) bD.toRepH) λ bH cX cL=>?_
 have hself:VR (aJ++[aZ.heap.objs.size+1]) bH (.ref az.h.length) (.ref (aZ.heap.objs.size+1)):=.ref (by rw[←bD.len];simp)
 obtain⟨hh,g,d,t,os⟩:=aZ
 refine O.call (R:=λ r s'=>∃v,r= .ok (.ret v)∧fQ C stor φ Λ (.ref az.h.length) {az with h:=h'} v s') (O.make (makes_of X hc.makes) (looks_findIn X hi) (λ self=>bind_fn X self ht) rfl ?_) λ r s' q=>q
 refine O.code_mono (hf _ (Cr rm c vs) (.ref az.h.length::l) _ _ _ hG _ bH _ (.ref (hh.objs.size+1)::vs) cX (.cons hself (hv.mono cL.toExtV))) λ r s' q=>?_
 refine bM q λ v uu0 y=>?_;refine bK y λ cF bp R' x' hr=>?_;clear y q;subst uu0
 refine VR.enone hr ?_;clear hr
 exact dF rfl (fV _ rfl (c9 cF bp (bD.ext R' (cL.trans x')) (bq.trans (cL.trans x')) (hself.mono x'.toExtV)))
structure MethOkO (C:Cx) (k:Nat) (c:Addr) (name:Str) (G:fR):Prop where
 ga:findIn C.K (.ref c) "__getattribute__"=some (some (.builtin "object.__getattribute__"))
 gk:findIn C.K (.ref c) "__getattr__"=some none
 fn:∃f,findIn C.K (.ref c) name=some (some (.ref f))∧typeIn C.K (.ref f)=some (.type "function")∧keepIn C.K (.ref f)=true∧gU C k f G
theorem jJ (H:C.Ok) {o:Expr} {name:Str} {apos pos:Pos} {es:List Expr} {fo:EM AV} {fs:List (EM AV)} {D:List (Addr×fR)} {pl:Sem Bool} (hn:∀i,C.fname i≠name) (hD:∀p∈D,MethOkO C k p.1 name p.2)
  (ho:cE C k stor (eval o env) fo) (hE:SndEach C k stor env es fs)
  (he:autoParam (eval (.Call (.Attribute o name apos) es [] pos) env=(do
   let ov←eval o env
   standAt apos.atName
   let(f,first)←holding [ov] (getMethod ov name pl)
   callWith pos f first (backTo pos (starEach es env)) (backToKw pos (keywordEach [] env)))) aR):
  uh C k stor (eval (.Call (.Attribute o name apos) es [] pos) env) (ae fo λ v=>eY D v fs):=by
 intro A rm σ av bc h φ Λ s R
 rw[he]
 refine O.step (cT ho rm h R λ a az va aZ aJ ar aN bD bq ha=>O.step (bP ?_))
 unfold eY at aN
 injections Do aN n e;subst e
 refine bM (RepH.ref ha) λ ad uu0 had=>?_;subst uu0
 injections Ae aN c fs' hI
 injections rp aN G hG
 have hM:=hD _ (dI hG)
 refine ry hM.fn λ f e1 e2 e3 e4=>?_
 refine iE (uO bD.toRepH hI had) λ dx es' j g1 g2 g3 I z=>?_
 refine O.step (cA (method_fn (H.X.keeps bD.core.keep) I hM.ga hM.gk e1 e2 ?_ ?_))
 ·show(lookIn name (dictOf es' j)).map _=_
  rw[lookIn_dict,q6 hn g3];rfl
 ·show gg true C.M A (callWith pos (.ref f) [.ref ad] (backTo pos (starEach es env)) []) _ aZ
  refine mG H e3 hE rm aN bD λ l cG vs ey cD bH bT cX cL hv=>?_
  exact O.mono (we e4 rm bT cX (.cons (ha.mono cL.toExtV) hv)) (λ z z p=>p.trans (bq.trans cL))
end
end
section
open PySem.SeqAt
section
variable{prog:Program} {w:World} {A:Around} {s:Shared} {R:Result→Shared→Prop}
theorem zL {a:Addr} {b:Array UInt8} {e:Nat} {f:Array UInt8→Array UInt8} {Q:Unit→Shared→Prop} (h:s.heap.get? a=some (du b e)) (hf:(f b).size≤sizeLine)
  (q:∀h',Heap.SameBut a s.heap h'→h'.get? a=some (du (f b) e)→Q () {s with heap:=h'}):wpAny (model prog w) A (Builtin.Bytes.write (.ref a) f) Q (λ z z=>False) s:=by
 show wpAny _ _ (updateBytearray a f) _ _ _
 unfold updateBytearray
 refine al (wpAny_load h ?_)
 show wpAny _ _ (update a (Obj.mapBytearray f)>>=λ z=>lookBehind a) _ _ _
 refine al (wpAny_update h ?_)
 have bT:(s.heap.update a (Obj.mapBytearray f)).get? a=some (du (f b) e):=Heap.get?_update_self (Obj.mapBytearray f) h rfl
 refine wpAny_lookBehind bT ?_ (q _ (Heap.SameBut.update ..) bT)
 show(if(f b).size>sizeLine then some "bytearray:memory" else none)=none
 rw[if_neg (Nat.not_lt.mpr hf)]
theorem xF {a:Addr} {b:Array UInt8} {Q:Bool→Shared→Prop} (h:s.heap.get? a=some (du b 0)) (q:Q false s):
  gg true (model prog w) A (Builtin.Bytes.exported (.ref a)<||>(do return(←Builtin.Bytes.exportsOf (.ref a))>0)) Q s:=by
 unfold orM
 refine O.bind (O.exported ?_)
 show gg _ _ _ (Builtin.Bytes.exportsOf (.ref a)>>=λ n=>Pure.pure (decide (n>0))) _ _
 refine O.bind ?_
 unfold Builtin.Bytes.exportsOf
 exact O.any (al (E:=λ z z=>False) (wpAny_load h (aO (O.pure q))))
theorem tW {E:Value→Shared→Prop} {A:Around} {s:Shared} {a:Addr} {b:Array UInt8} {Q:Bool→Shared→Prop} (h:s.heap.get? a=some (du b 0)) (q:Q false s):wpAny (model prog w) A (Builtin.Bytes.ownRelease (.ref a)) Q E s:=by
 have hT:s.TypeIs (.ref a) "bytearray":=⟨_,h,rfl⟩
 unfold Builtin.Bytes.ownRelease Builtin.Bytes.slotIsOwn
 refine al (al (jP hT BA.no_release ?_))
 dsimp only
 have e1:("bytearray.__release_buffer__":String).endsWith ("."++"__release_buffer__")=true:=by decide+kernel
 have e2:("bytearray.__release_buffer__":String).dropRight ("__release_buffer__".length+1)="bytearray":=by decide+kernel
 rw[e1,e2]
 rw[CV]
 exact wpAny_isInstance (T:="bytearray") (b:=true) hT BA.sub_self (aO q)
theorem Jg {A:Around} {s:Shared} {R:Result→Shared→Prop} (h:R (.ok (.ret (.ref s.heap.objs.size))) {s with heap:=s.heap.push (du #[] 0)}):
  i4 true (model prog w) A (.call (.builtin "bytearray.__new__") ⟨[.type "bytearray"],[]⟩) R s:=by
 refine O.code_any (codeAny_of_tree ?_)
 show wpAny _ A.in1 (do checkBuiltinCall "bytearray.__new__" ⟨[.type "bytearray"],[]⟩;again (.builtin "bytearray.__new__" ⟨[.type "bytearray"],[]⟩)) _ _ s
 refine al (dN BA.newCall_0 (aO ⟨plainId_quiet BA.plain_new _,codeAny_builtin_stack BA.entry_new rfl λ p st=>?_⟩))
 rw[Around.under_plainId BA.plain_new _]
 have hsub:=BA.sub_self
 have hown:=BA.owner_new
 obtain⟨hp,g,d,tk,os⟩:=s
 simp only[hown]
 wp_walk
 exact h
theorem HK {A:Around} {s:Shared} {a:Addr} {Q:PySem.Fin→Shared→Prop} (h:s.heap.get? a=some (du #[] 0)) (q:∀h',(∀b o,s.heap.get? b=some o→h'.get? b=some o)→Q (.done (.ret .none)) {s with heap:=h'}):
  gg true (model prog w) A (Builtin.«bytearray.__init__» ⟨[.ref a],[]⟩) Q s:=by
 unfold Builtin.«bytearray.__init__»
 dsimp only
 refine O.step (tW h ?_)
 rw[Aw]
 refine O.step (dN BA.bind_0 ?_)
 dsimp only
 refine O.step (dN (a:=()) rfl (O.step (dN (a:=()) rfl ?_)))
 refine O.bind (xF h ?_)
 rw[Aw]
 refine O.step (zL h (et _) λ h' hs he=>?_)
 refine O.step (aO (O.pure (q h' λ b o e=>?_)))
 by_cases hb:b=a
 ·clear hs;subst hb;rw[h] at e;refine wH e ?_;clear e;exact he
 ·exact hs.extBut b o hb e
theorem HL {A:Around} {s:Shared} {Q:Value→Shared→Prop} (h:∀h',(∀b o,s.heap.get? b=some o→h'.get? b=some o)→h'.get? s.heap.objs.size=some (du #[] 0)→Q (.ref s.heap.objs.size) {s with heap:=h'}):
  gg true (model prog w) A (call (.type "bytearray") []) Q s:=by
 refine O.call (R:=λ r s'=>∃v,r= .ok (.ret v)∧Q v s') (O.of_tree rfl ?_) λ r s' h=>h
 show gg _ _ _ (callAny (.type "bytearray") _) _ _
 refine O.pure (And.intro (Code.quiet_builtin _ (by decide+kernel)) (O.builtin rfl F.entry_type_call ?_))
 unfold Builtin.«type.__call__»
 dsimp only
 rw[if_neg ⋯,if_neg (λ q=>Bool.noConfusion ((BA.called.canCreate).symm.trans q))]
 refine O.step (dN BA.typeCall_0 (O.step (dN BA.mro ?_)))
 rw[if_neg ⋯]
 refine O.step (dN BA.called.made ?_)
 dsimp only
 refine O.bind (O.pure (O.bind (O.holding (O.call (R:=λ r s'=>r= .ok (.ret (.ref s.heap.objs.size))∧s'={s with heap:=s.heap.push (du #[] 0)}) (Jg ⟨rfl,rfl⟩) ?_))))
 intro r s' ww0;refine dL ww0 λ uu0 uu1=>?_;clear ww0;subst uu0 uu1
 refine⟨_,rfl,?_⟩
 have ho:(s.heap.push (du #[] 0)).get? s.heap.objs.size=some (du #[] 0):=gL _ rfl
 have hT:({s with heap:=s.heap.push (du #[] 0)}:Shared).TypeIs (.ref s.heap.objs.size) "bytearray":=⟨_,ho,rfl⟩
 refine O.step (wpAny_isInstance hT BA.sub_self ?_)
 rw[CV]
 refine O.bind (O.holding ?_)
 unfold callSpecial?
 refine O.step (jP hT BA.slot_init.lookup ?_)
 dsimp only
 rw[BA.slot_init.bind]
 refine O.holding (O.bind (O.pure (O.bind ?_)))
 refine O.call (R:=λ r s'=>∃h',r= .ok (.ret .none)∧s'={s with heap:=h'}∧∀b o,(s.heap.push (du #[] 0)).get? b=some o→h'.get? b=some o) (O.call_builtin rfl BA.slot_init.plain BA.entry_init
  (BA.slot_init.check _ _ _ _ _ _ _ _ hT (BA.args_init_1 _) (HK ho λ h' hk=>⟨h',rfl,rfl,hk⟩))) ?_
 intro r s' ww0;refine dU ww0 λ h' uu0 uu1 hk=>?_;clear ww0;subst uu0 uu1
 exact fV _ rfl (O.pure (O.pure ⟨_,rfl,h h' (λ b o e=>hk b o (bB _ e)) (hk _ _ ho)⟩))
end
end
section
open PySem.SeqAt
section
variable{prog:Program} {w:World} {A:Around} {s:Shared}
theorem EN {a:Addr} {b:Array UInt8} {i:Int} {t:Tok} {Q:Value→Shared→Prop} (h:s.heap.get? a=some (du b 0)) (hi:0≤i∧i<256) (hb:b.size+1≤sizeLine)
  (q:∀h',Heap.SameBut a s.heap h'→h'.get? a=some (du (b.push i.toNat.toUInt8) 0)→Q .none {s with heap:=h'}):
  gg true (model prog w) A (call (.builtin "bytearray.append") [.ref a,.int i t]) Q s:=by
 have hT:s.TypeIs (.ref a) "bytearray":=⟨_,h,rfl⟩
 refine O.call (R:=λ r s'=>∃v,r= .ok (.ret v)∧Q v s') (O.call_builtin rfl BA.slot_append.plain BA.entry_append (BA.slot_append.check _ _ _ _ _ _ _ _ hT (BA.args_append _ _) ?_)) λ r s' h=>h
 unfold Builtin.«bytearray.append»
 refine O.step (dN (a:=(Value.ref a,Value.int i t)) rfl ?_)
 dsimp only
 refine O.step ?_
 unfold Builtin.Bytes.byteValue
 refine al (dN (rfl:asIndex (.int i t)=pure i) ?_)
 have hc:(decide (i<0)||decide (i≥256))=false:=by simp only[Bool.or_eq_false_iff,decide_eq_false_iff_not];omega
 rw[hc]
 rw[Aw]
 refine aO (O.bind ?_)
 unfold Builtin.Bytes.checkResize
 refine O.bind (xF h ?_)
 rw[Aw]
 refine O.pure (O.step (zL h (by rw[Array.size_push];exact hb) λ h' hs he=>?_))
 exact O.pure ⟨_,rfl,q h' hs he⟩
end
section
variable{C:Cx} {k:Nat} {stor:Nat→Stor} {env:Env}
theorem wE (H:C.Ok) {x:Str} {p pos:Pos} (n:GlobAt C env x (.type "bytearray")):uh C k stor (eval (.Call (.Name x p) [] [] pos) env) (λ σ=>some (.ref σ.h.length,{σ with h:=σ.h++[.barr #[]]})):=by
 intro A rm σ av bc h φ Λ s R
 refine ir h ?_;clear h
 rw[arm_eval_Call_Name']
 refine O.step (kg H n R.core ?_)
 refine O.callWith_bi rfl rfl (evalArgs_nil3 ?_)
 refine HL λ h' hk ho=>?_
 have vac:=R.core.vac
 have x:ExtE φ Λ φ (Λ.set s.heap.objs.size (.amb,du #[] 0)):=.new vac _
 have hb:=R.core.baseNone
 have hlow:cStatics<s.heap.objs.size:=by
  refine gX R.core.two λ Eg bT=>?_
  exact cB (R.core.keep _ _ bT)
 have kn:∀a y,Λ a=some y→a≠s.heap.objs.size:=λ a y e q=>by rw[q,vac] at e;exact dq e
 have hnew:s.heap.objs.size∉φ:=λ hm=>by
  refine gX (List.mem_iff_getElem.mp hm) λ n y=>?_;refine gX y λ hn e=>?_;clear y
  refine gX (R.toRepH.there (aq hn)) λ o ho=>?_
  rw[e] at ho
  exact Nat.lt_irrefl _ (cB ho)
 have kk:∀a w o,Λ a=some (w,o)→(Λ.set s.heap.objs.size (.obj σ.h.length,du #[] 0)) a=some (w,o):=λ a w o e=>(bj.set_ne _ _ (kn _ _ e)).trans e
 have xe:ExtE φ Λ (φ++[s.heap.objs.size]) (Λ.set s.heap.objs.size (.obj σ.h.length,du #[] 0)):=(ExtE.new vac _).push _
 have R':RepH C (σ.h++[.barr #[]]) (φ++[s.heap.objs.size]) (Λ.set s.heap.objs.size (.obj σ.h.length,du #[] 0)) {s with heap:=h'}:=by
  refine⟨⟨λ b o e=>hk b o (R.core.keep b o e),λ a w o e=>?_,R.core.two,λ a y e=>?_,R.core.gens,R.core.drawn,R.core.os⟩,R.toRepH.new_inj,by simp[R.len],λ n ao e=>?_⟩
  ·by_cases q:a=s.heap.objs.size
   ·subst q;rw[bj.set_self] at e;refine ir e ?_;clear e;exact dF ho hb
   ·rw[bj.set_ne _ _ q] at e;exact dF (hk _ _ (R.core.here _ _ _ e).1) ((R.core.here _ _ _ e).2)
  ·by_cases q:a=s.heap.objs.size
   ·rw[q];exact hlow
   ·rw[bj.set_ne _ _ q] at e;exact R.core.low _ _ e
  ·by_cases hn:n<σ.h.length
   ·rw[fN hn] at e
    refine bM (R.objs n ao e) λ a h1 h2=>?_
    exact fV a (iW xe.pre h1) (h2.mono xe.toExtV λ b o q=>by rcases q with q|q<;>rw[q]<;>exact kk _ _ _ q)
   ·have hl:=(aA.mp e).1
    have hn':n=σ.h.length:=by simp at hl;exact jm (f!"1ab>1a1.+b1.+<2" hl)<|f!"1ab>1ab<2" (aG hn)
    subst hn'
    have:ao= .barr #[]:=by simpa using e.symm
    clear e;subst this
    exact fV _ (by rw[←R.len];simp) (bj.set_self ..)
 exact c9 _ _ (R.ext R' xe) xe (.ref (by rw[←R.len];simp))
noncomputable def Ks (o:AV) (args:List AV):EM AV:=λ σ=>match o,args with
 | .ref n,[.int i]=>match wY σ.h n with
  |some b=>if(0≤i∧i<256)∧iJ b.size=true then some (.none,{σ with h:=σ.h.set n (.barr (b.push i.toNat.toUInt8))}) else none
  |none=>none
 |_,_=>none
theorem wF {o:Expr} {name:Str} {apos pos:Pos} {es:List Expr} {fo:EM AV} {fs:List (EM AV)} (hname:name=("append":Str)) (ho:cE C k stor (eval o env) fo) (hE:SndEach C k stor env es fs) (hbase:autoParam (attributeBase o name env (eval o env)=eval o env) aR)
  (hfew:autoParam (((backTo pos (starEach es env)).all (λ x=> !x.1)&&(backToKw pos (keywordEach [] env)).all (λ x=>x.1.isSome)
   &&decide (es.length+([]:List Keyword).length+(if([]:List Keyword).isEmpty then 0 else 1)<30))=true) aR)
  (hline:autoParam ((apos.endLine==pos.line)=true) aR):
  uh C k stor (eval (.Call (.Attribute o name apos) es [] pos) env) (ae fo λ v=>mH "bytearray" Ks v fs):=by
 subst hname
 intro A rm σ av bc h φ Λ s R
 rw[arm_eval_Call,hbase]
 refine O.step (cT ho rm h R λ a az va aZ aJ ar aN bD bq ha=>O.step (bP ?_))
 unfold mH at aN
 injections lY aN hT
 refine dL (yf bD.toRepH hT ha) λ t1 t2=>?_
 have hform:methodCallForm (es.length+([]:List Keyword).length) (backTo pos (starEach es env)) (backToKw pos (keywordEach [] env))=true:=hfew
 have hpos:methodCallPos true o env apos pos=pure pos:=by unfold methodCallPos;simp[hline]
 unfold methodCall
 rw[hform]
 refine O.step (cA (getMethod_builtin t1 BA.plain_attrs BA.slot_append BA.type_append t2 ?_))
 refine O.step (dN hpos ?_)
 show gg true C.M A (callWith pos (.builtin "bytearray.append") [va] (backTo pos (starEach es env)) []) _ aZ
 refine O.callWith_bi rfl (kP hE) (aV (q7 hE rm aN bD) (λ x ey p=>?_) dC)
 refine dL p λ hk y=>?_;refine fq y λ l cG cD bH bT cX cL hv=>?_;clear y p
 rw[hk]
 injections lY bT hT2
 unfold Ks at bT
 injections Do bT n e;clear hT2 aN hT;subst e
 injections Lh bT i e;subst e
 injections rp bT b hb
 injections lY bT hc
 refine ir bT ?_;clear bT
 have H3:=ha.mono cL.toExtV
 refine VR.eref H3 λ ad had=>?_;clear H3
 refine dL (y6 cX.toRepH hb had) λ g1 g2=>?_
 generalize hxp:x.pos=xp at hv
 refine VRs.econs hv λ z z hx hnil=>?_;clear hv
 cases hnil
 cases hx
 have hf:=ay hc.2
 refine EN g2 hc.1 (by rw[sizeLine_eq];exact fy (aj hf (nb rfl))) λ h' hs he=>?_
 have x3:ExtE cD bH cD (bH.set ad (.obj n,du (b.push i.toNat.toUInt8) 0)):=.at g1 ⟨nofun,nofun,nofun,nofun⟩ _
 have f6:=cX.toRepH.set (ao:=.barr (b.push i.toNat.toUInt8)) had g1 (.inl rfl) (λ c hc y e=>(hs.2 c hc).trans e) he (bj.set_self ..)
 exact c9 _ _ (cX.ext f6 x3) (bq.trans (cL.trans x3)) .none
end
end
section
open PySem.SeqAt
theorem AS {prog:Program} {w:World} {A:Around} {E:Value→Shared→Prop} {s:Shared} {a:Addr} {b:Array UInt8} {Q:Option (Array UInt8)→Shared→Prop} (h:s.heap.get? a=some (du b 0)) (full:Bool) (id:String) (q:Q (some b) s):
  wpAny (model prog w) A (Builtin.Bytes.buffer? id (.ref a) full) Q E s:=by
 have hT:s.TypeIs (.ref a) "bytearray":=⟨_,h,rfl⟩
 unfold Builtin.Bytes.buffer?
 refine al (jP hT BA.buffer ?_)
 dsimp only
 refine al ?_
 unfold Builtin.Bytes.slotIsOwn
 refine al (jP hT BA.buffer ?_)
 dsimp only
 have e1:("bytearray.__buffer__":String).endsWith ("."++"__buffer__")=true:=by decide+kernel
 have e2:("bytearray.__buffer__":String).dropRight ("__buffer__".length+1)="bytearray":=by decide+kernel
 rw[e1,e2]
 rw[CV]
 refine wpAny_isInstance (T:="bytearray") (b:=true) hT BA.sub_self ?_
 rw[CV]
 refine al (jP hT BA.buffer ?_)
 refine al (tW h ?_)
 rw[Aw]
 refine al ?_
 unfold Builtin.Bytes.payload Builtin.Bytes.payload?
 refine al (al (wpAny_load h (aO ?_)))
 exact aO (aO q)
theorem B0 {prog:Program} {w:World} {A:Around} {E:Value→Shared→Prop} {s:Shared} {a:Addr} {b:Array UInt8} {Q:Value→Shared→Prop} (h:s.heap.get? a=some (du b 0)) (hb:b.size≤sizeLine) (q:∀t tk,Q (.bytes b t) {s with toks:=tk}):
  wpAny (model prog w) A (call (.type "bytes") [.ref a]) Q E s:=by
 have hT:s.TypeIs (.ref a) "bytearray":=⟨_,h,rfl⟩
 refine callType_codes (Q₁:=λ obj aZ=>aZ.TypeIs obj "bytes"∧Q obj aZ) F.bm_called (F.bm_typeCall _) F.entry_object_init ?_ λ obj aZ aN=>⟨aN.1,F.args_object_init_2 obj _,object_init_meets F.bm_called.init.lookup F.bm_called.made ⋯ prog w A.in1 _ aZ ⟨aN.1,rfl,aN.2⟩⟩
 refine codeAny_of_tree ?_
 show wpAny _ A.in1.in1 (do checkBuiltinCall "bytes.__new__" ⟨[.type "bytes",.ref a],[]⟩;again (.builtin "bytes.__new__" ⟨[.type "bytes",.ref a],[]⟩)) _ _ s
 refine al (dN (F.bm_newCall _) (aO ⟨plainId_quiet F.bm_plain _,codeAny_builtin F.bm_entry ?_⟩))
 rw[Around.under_plainId F.bm_plain _]
 unfold Builtin.«bytes.__new__»
 refine al (dN (a:=true) rfl ?_)
 refine bm_if_false rfl ?_
 refine al (dN F.bm_sub ?_)
 refine bm_if_false rfl ?_
 refine al (dN (F.bm_bind _) ?_)
 refine al (dN (a:=()) rfl ?_)
 refine al (dN (a:=()) rfl ?_)
 refine bm_if_false rfl ?_
 refine al (jP hT BA.no_bytes ?_)
 refine al (al ?_)
 show wpAny _ _ (load a>>=_) _ _ _
 refine al (wpAny_load h ?_)
 refine aO (aO ?_)
 refine bm_if_false rfl ?_
 refine al (jP hT BA.noIndex ?_)
 refine bm_if_true rfl ?_
 show wpAny _ _ (Builtin.Bytes.buffer? "bytes.__new__" (.ref a) true>>=_) _ _ _
 refine al (AS h _ _ ?_)
 dsimp only
 refine al (wpAny_rule (al (wpAny_mkBytes ?_ hb)))
 show wpAny _ _ (if(Value.type "bytes"==Value.type "bytes")=true then _ else _) _ _ _
 refine bm_if_true ⋯ ?_
 first
  |exact aO ⟨PySem.W.typeIs_bytes _ _ _,q _ _⟩
  |exact al (aO (aO ⟨PySem.W.typeIs_bytes _ _ _,q _ _⟩))
section
variable{C:Cx} {k:Nat} {stor:Nat→Stor} {env:Env}
noncomputable def Je (i:Int):Bool:=decide (0≤i∧i<256)
noncomputable def nB (l:List AV):EM AV:=λ σ=>match l with
 | [.ref n]=>match wY σ.h n with
  |some b=>if iJ b.size then some (.bytes b,σ) else none
  |none=>match(getL σ.h n).bind kJ with
   |some ns=>if ns.all Je∧iJ ns.length=true then some (.bytes (byteArr ns),σ) else none
   |none=>none
 |_=>none
theorem AR:CB C k stor (.type "bytes") nB:=by
 intro A rm σ l av bc h φ Λ s vs R hv
 unfold nB at h
 injections IK h _ e;subst e
 refine VRs.econs hv λ z z ha hr=>?_;clear hv
 refine VRs.enil hr ?_;clear hr
 refine VR.eref ha λ ad had=>?_;clear ha
 set_option smartUnfolding false in refine KU h (λ b hb h=>?_) λ z h=>?_
 ·injections lY h hf
  refine ir h ?_;clear h
  exact B0 (y6 R.toRepH hb had).2 (js hf) λ t tk=>bi (R.tok _) (.bytes _ _)
 ·injections rp h ns hg
  injections lY h hc
  refine ir h ?_;clear h
  refine bM (cU.mp hg) λ ws hw hi=>?_
  refine bM (fM R.toRepH hw had) λ rvs hl hvs=>?_
  have hI:=pP hvs hi
  refine call_bytes_ints hl hI (λ n hn=>?_) (by rw[hI.length];exact js hc.2) rm.hd λ h' t tk hk=>om R hk (.bytes _ _)
  have:=List.all_eq_true.mp hc.1 n hn
  exact ay this
noncomputable def ER (a b:AV):EM AV:=λ σ=>match a,b with
 | .bytes x,.bytes y=>if iJ (x.size+y.size) then some (.bytes (x++y),σ) else none
 |_,_=>none
theorem Hf:tD C k stor (binaryOp .Add) ER:=by
 intro A rm σ a b av bc h φ Λ s va vb R ha hb
 unfold ER at h
 injections LK h _ e;subst e
 injections LK h _ e;subst e
 injections lY h hf
 refine ir h ?_;clear h;refine VR.ebytes ha λ z=>?_;clear ha;refine VR.ebytes hb λ z=>?_;clear hb
 have:=ay hf
 exact KBy.add_bytes (by exact af this (nb rfl)) λ t tk=>bi (R.tok _) (.bytes _ _)
noncomputable def tf (a b:AV):EM AV:=λ σ=>match a,b with
 | .ref n,.int x=>match pv σ.h n with
  |some vs=>if-(2^62)≤x∧x<2^62 then gH (List.replicate x.toNat vs).flatten σ else none
  |none=>none
 |_,_=>none
theorem mR:tD C k stor (binaryOp .Mult) tf:=by
 intro A rm σ a b av bc h φ Λ s va vb R ha hb
 unfold tf at h
 injections Do h n e;subst e
 injections zd h x e;subst e
 injections rp h vs hg
 injections lY h hx
 refine VR.eref ha λ ad had=>?_;clear ha
 refine VR.eint hb λ _=>?_;clear hb
 rename_i u
 refine ft (mW R.toRepH hg had) λ rvs j h1 i1 r1 _=>?_
 have rep:∀m:Nat,VRs φ Λ (List.replicate m vs).flatten (List.replicate m rvs).flatten:=λ m=>by
  induction m with
  |zero=>exact .nil
  |succ m ih=>rw[ja,ja,m6,m6];exact r1.append ih
 have e:=listMul_foldl_if rvs.toArray x.toNat
 refine dL (te h R (items:=List.foldl (λ x1 x2=>x1++x2) #[] (List.replicate (if rvs.toArray.isEmpty=true then 0 else x.toNat) rvs.toArray)) (rvs:=(List.replicate x.toNat rvs).flatten) (by rw[e]) (rep _)) λ hf hp=>?_
 have hl:=(R.core.here _ _ _ h1).1
 have hsz:rvs.toArray.size*x.toNat≤1000000:=by
  have:=ay hf
  have e2:(List.replicate x.toNat vs).flatten.length=x.toNat*vs.length:=lm_len_rep_flat _ _
  rw[e2] at this
  rw[bn,←r1.length,dj];exact this
 have hsz':rvs.length*x.toNat≤1000000:=by rw[bn] at hsz;exact hsz
 exact wpAny_binaryOp_repeat_ref (T:="list") (U:="int") ⋯ ⟨_,hl,rfl⟩ (λ s'=>typeIs_int s' x u) noFill_list_mul F.fills_int_mul F.slot_int_rmul repeat_list F.slot_int_index.lookup
  (call_meets F.slot_int_rmul (typeIs_int s x u) F.entry_int_rmul (F.args_int_rmul_2 _ _) (int___rmul___int_list x u ad rvs.toArray j)
   ⟨hl,rfl,⟨_,hl,rfl⟩,call_meets F.slot_list_mul ⟨_,hl,rfl⟩ F.entry_list_mul (F.args_list_mul_2 _ _)
    (AutoListH.list___mul___list_int_3 ad rvs.toArray j x u (by simp[Builtin.List.listFitsIndex];omega) (by omega) (by simp[Builtin.List.listTooLong,sizeLine];exact af hsz' (nb rfl)))
    ⟨hl,hp⟩⟩)
noncomputable def u8:List AV→Option (List Str)
 | []=>some []
 | .str x::l=>(u8 l).map (x::·)
 |_=>none
theorem Fb {φ:List Addr} {Λ:bj} {l:List AV} {vs:List Value} {xs:List Str} (h:VRs φ Λ l vs):u8 l=some xs→∃ys:List (Str×Tok),strValues ys=vs∧ys.map (·.1)=xs:=
 h.ind (P:=λ l vs=>∀{xs},u8 l=some xs→∃ys:List (Str×Tok),strValues ys=vs∧ys.map (·.1)=xs) (λ e=>sk e λ e=>⟨[],rfl,e.symm▸rfl⟩) λ{a v l vs} h r ih xs e=>by
  cases a with
  |str x=>
   refine VR.qstr h λ t ev=>?_
   clear h;subst ev
   refine bM (cH.mp e) λ ms e1 e2=>?_
   refine bM (ih e1) λ ys q1 q2=>?_
   exact fV ((_,_)::ys) (by rw[←q1];rfl) (by rw[←e2,←q2];rfl)
  |_=>exact dq e
noncomputable def sq (o:AV) (args:List AV):EM AV:=λ σ=>match o,args with
 | .str sep,[.ref n]=>match(getL σ.h n).bind u8 with
  |some xs=>if JoinOk sep xs=true then some (.str (Txt.join sep xs),σ) else none
  |none=>none
 |_,_=>none
theorem HH:BM C k stor "str.join" Builtin.«str.join» sq:=by
 intro A rm σ o args av bc h φ Λ s vo vs R ho hv
 unfold sq at h
 injections Lz h sep e;subst e
 injections IK h n e;subst e
 injections rp h xs hg
 injections lY h hok
 refine ir h ?_;clear h
 refine bM (cU.mp hg) λ ws hw hi=>?_
 refine VR.estr ho λ _=>?_;clear ho
 rename_i t
 refine VRs.econs hv λ _ _ ha hr=>?_;clear hv
 refine VRs.enil hr ?_;clear hr
 refine VR.eref ha λ ad had=>?_;clear ha
 refine bM (fM R.toRepH hw had) λ rvs hl hvs=>?_
 refine bM (Fb hvs hi) λ ys e1 e2=>?_
 clear hi hg;subst e2
 unfold JoinOk at hok
 rw[Bool.not_eq_true'] at hok
 refine⟨F.args_str_join_2 _ _,_,meets_str_join_list sep t ad ys hok,by rw[e1];exact hl,?_⟩
 exact post_join ys ⟨joinFit_length hok,λ t' tk=>bi (R.tok _) (.str _ _)⟩
noncomputable def sK (o:AV) (args:List AV):EM AV:=λ σ=>match o,args with
 | .int i,[]=>some (.int (Builtin.Int.intBits i:Nat),σ)
 |_,_=>none
theorem EK:BM C k stor "int.bit_length" Builtin.«int.bit_length» sK:=by
 intro A rm σ o args av bc h φ Λ s vo vs R ho hv
 unfold sK at h
 injections zd h _ e;subst e
 injections L1 h e;subst e
 refine ir h ?_;clear h
 refine VR.eint ho λ z=>?_;clear ho;refine VRs.enil hv ?_;clear hv
 exact dF (F.args_int_bit_length_1 _) (fV _ ((AutoIntG2.int_bit_length_int_0 _ _).meets) (bi (R.tok _) (.int _ _)))
noncomputable def JM (T:String) (a:AV):EM AV:=λ σ=>match a with
 | .int _=>if T="int" then some (.bool true,σ) else if T="bool" then some (.bool false,σ) else none
 | .bool _=>if T="int"∨T="bool" then some (.bool true,σ) else none
 |_=>none
theorem FI {T:String} {a av:AV} {σ bc:St} {P:Prop} (e:JM T a σ=some (av,bc)) (k1:∀i,a= .int i→(if T="int" then some (AV.bool true,σ) else if T="bool" then some (AV.bool false,σ) else none)=some (av,bc)→P)
  (k2:∀b,a= .bool b→T="int"∨T="bool"→AV.bool true=av→σ=bc→P):P:=by
 cases a<;>first|exact dq e|exact k1 _ rfl e|exact lY (c:=T="int"∨T="bool") e λ h1 h2=>lH h2 λ e1 e2=>k2 _ rfl h1 e1.symm e2
theorem IP {A:Around} {σ bc:St} {T:String} {a av:AV} (h:JM T a σ=some (av,bc)) {φ:List Addr} {Λ:bj} {s:Shared} {v:Value} (R:RepS C stor σ φ Λ s) (hv:VR φ Λ a v):
  wpAny C.M A (call (.builtin "isinstance") [v,.type T]) (fQ C stor φ Λ av bc) (λ z z=>False) s:=by
 refine FI h (λ i e hh=>?_) (λ b e q e1 e2=>?_)<;>clear h<;>subst e<;>first| (refine VR.eint hv λ z=>?_;clear hv)| (refine VR.ebool hv ?_;clear hv)
 ·by_cases e:T="int"
  ·subst e;refine ir ((if_pos rfl).symm.trans hh) ?_;exact PySem.IsiPair.int_int (bi R (.bool _))
  ·refine lY ((if_neg e).symm.trans hh) λ e hh=>?_
   subst e;refine ir hh ?_;exact PySem.IsiPair.int_bool (bi (R.tok _) (.bool _))
 ·subst e1 e2
  rcases q with rfl|rfl
  ·exact PySem.IsiPair.bool_int (bi R (.bool _))
  ·exact PySem.IsiPair.bool_bool (bi R (.bool _))
theorem ro (H:C.Ok) {x xT:Str} {p q pos:Pos} {T:String} {e:Expr} {f:EM AV} (n:GlobAt C env x (.builtin "isinstance")) (nT:GlobAt C env xT (.type T)) (he:cE C k stor (eval e env) f)
  (hs:autoParam (starEach [e,.Name xT q] env=[(false,eval e env),(false,eval (.Name xT q) env)]) aR):
  cE C k stor (eval (.Call (.Name x p) [e,.Name xT q] [] pos) env) (ae f (JM T)):=by
 intro A rm σ av bc h φ Λ s R
 refine jt (kg H n R.core ?_)
 show wpAny C.M A (callWith pos (.builtin "isinstance") [] (backTo pos (starEach [e,.Name xT q] env)) []) _ _ s
 have hb:backTo pos (starEach [e,.Name xT q] env)=[(false,eval e env),(false,eval (.Name xT q) env)]:=by rw[hs];rfl
 rw[hb]
 refine Calls.callWith_builtin rfl (evalArgs_plain (spliced_cons (cT he rm h R λ a az v aZ aJ ar aN bD bq hv=>spliced_cons (kg H nT bD.core (spliced_nil ?_)))))
 exact aV (IP aN bD hv) (λ z z p=>p.trans bq) dC
end
end
section
local macro_rules | `(tactic| o_head $_) => `(tactic| assumption)
theorem q:PySem.Challenge.rw_nz0423_01.row.Holds→PySem.Challenge.rw_nz0423_01.row.Holds:=by
 intro h
 k_head
end
section
variable{C:Cx} {k:Nat} {stor:Nat→Stor} {env:Env}
theorem b7.up {j:Nat} {f:Addr} {G:fR} (h:b7 C j f G) (hj:j≤k):b7 C k f G:=λ A r=>h A (r.mono hj)
theorem gU.up {j:Nat} {f:Addr} {G:fR} (h:gU C j f G) (hj:j≤k):gU C k f G:=λ A r=>h A (r.mono hj)
theorem dB {o:Expr} {name:Str} {apos pos:Pos} {es:List Expr} {fo:EM AV} {fs:List (EM AV)} (hname:name=("append":Str)) (ho:cE C k stor (eval o env) fo) (hE:SndEach C k stor env es fs)
  (hbase:autoParam (attributeBase o name env (eval o env)=eval o env) aR)
  (hfew:autoParam (((backTo pos (starEach es env)).all (λ x=> !x.1)&&(backToKw pos (keywordEach [] env)).all (λ x=>x.1.isSome)
   &&decide (es.length+([]:List Keyword).length+(if([]:List Keyword).isEmpty then 0 else 1)<30))=true) aR)
  (hline:autoParam ((apos.endLine==pos.line)=true) aR):
  cE C k stor (eval (.Call (.Attribute o name apos) es [] pos) env) (ae fo λ v=>mH "list" lE v fs):=by
 subst hname
 exact nP PySem.F.slot_list_append PySem.F.plainAttrs_list PySem.F.type_list_append PySem.F.entry_list_append EL ho hE hbase hfew hline
theorem sY {o:Expr} {name:Str} {apos pos:Pos} {es:List Expr} {fo:EM AV} {fs:List (EM AV)} (hname:name=("count":Str)) (ho:cE C k stor (eval o env) fo) (hE:SndEach C k stor env es fs)
  (hbase:autoParam (attributeBase o name env (eval o env)=eval o env) aR)
  (hfew:autoParam (((backTo pos (starEach es env)).all (λ x=> !x.1)&&(backToKw pos (keywordEach [] env)).all (λ x=>x.1.isSome)
   &&decide (es.length+([]:List Keyword).length+(if([]:List Keyword).isEmpty then 0 else 1)<30))=true) aR)
  (hline:autoParam ((apos.endLine==pos.line)=true) aR):
  cE C k stor (eval (.Call (.Attribute o name apos) es [] pos) env) (ae fo λ v=>mH "list" oy v fs):=by
 subst hname
 exact nP PySem.F.slot_list_count PySem.F.plainAttrs_list PySem.F.type_list_count PySem.F.entry_list_count Gr ho hE hbase hfew hline
theorem DJ {o:Expr} {name:Str} {apos pos:Pos} {es:List Expr} {fo:EM AV} {fs:List (EM AV)} (hname:name=("index":Str)) (ho:cE C k stor (eval o env) fo) (hE:SndEach C k stor env es fs)
  (hbase:autoParam (attributeBase o name env (eval o env)=eval o env) aR)
  (hfew:autoParam (((backTo pos (starEach es env)).all (λ x=> !x.1)&&(backToKw pos (keywordEach [] env)).all (λ x=>x.1.isSome)
   &&decide (es.length+([]:List Keyword).length+(if([]:List Keyword).isEmpty then 0 else 1)<30))=true) aR)
  (hline:autoParam ((apos.endLine==pos.line)=true) aR):
  cE C k stor (eval (.Call (.Attribute o name apos) es [] pos) env) (ae fo λ v=>mH "list" rB v fs):=by
 subst hname
 exact nP PySem.F.slot_list_index PySem.F.plainAttrs_list PySem.F.type_list_index PySem.F.entry_list_index Gq ho hE hbase hfew hline
theorem vn {o:Expr} {name:Str} {apos pos:Pos} {es:List Expr} {fo:EM AV} {fs:List (EM AV)} (hname:name=("join":Str)) (ho:cE C k stor (eval o env) fo) (hE:SndEach C k stor env es fs)
  (hbase:autoParam (attributeBase o name env (eval o env)=eval o env) aR)
  (hfew:autoParam (((backTo pos (starEach es env)).all (λ x=> !x.1)&&(backToKw pos (keywordEach [] env)).all (λ x=>x.1.isSome)
   &&decide (es.length+([]:List Keyword).length+(if([]:List Keyword).isEmpty then 0 else 1)<30))=true) aR)
  (hline:autoParam ((apos.endLine==pos.line)=true) aR):
  cE C k stor (eval (.Call (.Attribute o name apos) es [] pos) env) (ae fo λ v=>mH "str" sq v fs):=by
 subst hname
 exact nP PySem.F.slot_str_join PySem.F.plainAttrs_str PySem.F.type_str_join PySem.F.entry_str_join HH ho hE hbase hfew hline
theorem vp {o:Expr} {name:Str} {apos pos:Pos} {es:List Expr} {fo:EM AV} {fs:List (EM AV)} (hname:name=("bit_length":Str)) (ho:cE C k stor (eval o env) fo) (hE:SndEach C k stor env es fs)
  (hbase:autoParam (attributeBase o name env (eval o env)=eval o env) aR)
  (hfew:autoParam (((backTo pos (starEach es env)).all (λ x=> !x.1)&&(backToKw pos (keywordEach [] env)).all (λ x=>x.1.isSome)
   &&decide (es.length+([]:List Keyword).length+(if([]:List Keyword).isEmpty then 0 else 1)<30))=true) aR)
  (hline:autoParam ((apos.endLine==pos.line)=true) aR):
  cE C k stor (eval (.Call (.Attribute o name apos) es [] pos) env) (ae fo λ v=>mH "int" sK v fs):=by
 subst hname
 exact nP PySem.F.slot_int_bit_length PySem.F.plainAttrs_int PySem.F.type_int_bit_length PySem.F.entry_int_bit_length EK ho hE hbase hfew hline
theorem Lf {x:Str} {i:Nat} (h1:env.scope.kind= .function) (h2:env.kindOf x=some .local) (h3:stor i= .ns env.locals x) (h4:(x==("__debug__":Str))=false) (h5:(x==("__classdict__":Str))=false):NameAt env stor x i:=
 ⟨h1,.inl ⟨h2,h3⟩,h4,h5⟩
noncomputable def Ia:Option Addr→Stor
 |some c=>.cell c
 |none=>.none
theorem JT {x:Str} {i:Nat} (h1:env.scope.kind= .function) (h2:env.kindOf x=some .cell) (h3:stor i=Ia (env.cells.lookup x)) (h6:(env.cells.lookup x).isSome=true) (h4:(x==("__debug__":Str))=false) (h5:(x==("__classdict__":Str))=false):NameAt env stor x i:=by
 refine⟨h1,.inr ⟨.inl h2,?_⟩,h4,h5⟩
 refine gX (eA.mp h6) λ c hc=>?_
 rw[hc] at h3
 exact fV c hc h3
theorem nL {x:Str} {i:Nat} (h1:autoParam (env.scope.kind= .function) aK) (h2:autoParam (env.kindOf x=some .local) aK) (h3:autoParam (stor i= .ns env.locals x) aK) (h4:autoParam ((x==("__debug__":Str))=false) aK) (h5:autoParam ((x==("__classdict__":Str))=false) aK):NameAt env stor x i:=Lf h1 h2 h3 h4 h5
theorem nC {x:Str} {i:Nat} (h1:autoParam (env.scope.kind= .function) aK) (h2:autoParam (env.kindOf x=some .cell) aK) (h3:autoParam (stor i=Ia (env.cells.lookup x)) aK) (h6:autoParam ((env.cells.lookup x).isSome=true) aK) (h4:autoParam ((x==("__debug__":Str))=false) aK) (h5:autoParam ((x==("__classdict__":Str))=false) aK):NameAt env stor x i:=JT h1 h2 h3 h6 h4 h5
theorem gA {C:Cx} {x:Str} {v:Value} (h:C.mg x=some v∨(C.mg x=none∧C.mb x=some v)) (h1:autoParam (env.scope.kind= .function) aK) (h2:autoParam (env.globals=mainGlobals) aK) (h3:autoParam (env.builtins=builtinsNs) aK) (h4:autoParam (env.kindOf x=some .globalImplicit) aK) (h5:autoParam ((x==("__debug__":Str))=false) aK):GlobAt C env x v:=⟨h1,h2,h3,h4,h,h5⟩
end
noncomputable def H6 (K:Frag) (fd:FuncData) (params names:List Str):Bool:=
 fd.closure.isEmpty&&fd.globals==mainGlobals&&fd.builtins==builtinsNs&& !fd.scope.isCoroutine&& !fd.scope.isGenerator&&fd.scope.kind== .function
  &&params.isPrefixOf names&&decide names.Nodup&&names.all (λ x=>fd.scope.names.lookup x==some .local|| (fd.scope.names.lookup x==some .cell&&((cellsFrom 0 fd.scope.names []).lookup x).isSome))
theorem bO {C:Cx} {K:Frag} (hK:C.K=K) {f:Addr} {fd:FuncData} {oc:Value} {od:Option Addr} {osl:Array (Option Value)} {body:List Stmt} {params names:List Str} (h1:K.lookup f=some ⟨oc,od,.func fd,osl⟩) (h2:codeIn K fd.code fd.qualname=true) (h3:fd.body= .stmts body)
  (h4:H6 K fd params names=true) (bind:∀rvs:List Value,rvs.length=params.length→bindArgs fd ⟨rvs,[]⟩=pure (params.zip rvs)):FnOk C f fd body params names:=by
 unfold H6 at h4
 simp only[cy,List.all_eq_true,jS,ju,Bool.not_eq_true',kt] at h4
 refine dL h4 λ vv0 a9=>?_;clear h4;revert vv0;refine λ yy=>dL yy λ vv0 a8=>?_;clear yy;revert vv0;refine λ yy=>dL yy λ vv0 a7=>?_;clear yy;revert vv0;refine λ yy=>dL yy λ vv0 a6=>?_;clear yy;revert vv0;refine λ yy=>dL yy λ vv0 a5=>?_;clear yy;revert vv0;refine λ yy=>dL yy λ vv0 a4=>?_;clear yy;revert vv0;refine λ yy=>dL yy λ vv0 a3=>?_;clear yy;refine dL vv0 λ a1 a2=>?_;clear vv0
 exact{obj:=⟨oc,od,osl,by rw[hK];exact h1⟩,code:=by rw[hK];exact h2,body:=h3,clo:=List.isEmpty_iff.mp a1,gl:=a2,bl:=a3,co:=a4,gen:=a5,kind:=a6,bind:=bind,pre:=List.isPrefixOf_iff_prefix.mp a7,nd:=a8,kinds:=λ x hx=>a9 x hx}
noncomputable abbrev K0 (P:Params):Frag:=q.heap_1 P
noncomputable def BU:List Str:=["lengths","dearest","by_literals","by_distances","literals","distances","used","far","extra","made","held","held_bits","codes"]
noncomputable def fnm (i:Nat):Str:=BU.getD i "?"
structure KX (C:Cx):Prop where
 ok:C.Ok
 hK:C.K=K0 C.w.params
 hf:C.fname=fnm
theorem KX.fok {C:Cx} (Y:KX C) {f:Nat} (h:f<13):GN C f:=by
 intro g hg
 rw[Y.hf] at hg
 by_cases hg':g<13
 ·have key:∀a:Fin 13,∀b:Fin 13,fnm a.1=fnm b.1→a=b:=by decide+kernel
  exact congrArg Fin.val (key ⟨g,hg'⟩ ⟨f,h⟩ hg)
 ·have hq:fnm g="?":=by unfold fnm;rewrite[aM,ca (by show 13≤g;exact aG hg')];rfl
  have key:∀b:Fin 13,¬("?":Str)=fnm b.1:=by decide+kernel
  exact absurd (hq▸hg) (key ⟨f,h⟩)
theorem KX.notField {C:Cx} (Y:KX C) {x:Str} (h1:BU.contains x=false) (h2:(("?":Str)==x)=false):∀i,C.fname i≠x:=by
 intro i e
 rw[Y.hf] at e
 by_cases hi:i<13
 ·have:x∈BU:=by rw[←e];unfold fnm;rewrite[aM,aq (by exact hi)];exact List.getElem_mem _
  rw[←List.contains_iff_mem] at this
  rw[this] at h1;cases h1
 ·have hq:fnm i="?":=by unfold fnm;rewrite[aM,ca (by show 13≤i;exact aG hi)];rfl
  rw[←e,hq] at h2
  simp at h2
theorem KX.gm {C:Cx} (Y:KX C) {x:Str} {v:Value} (e:nsIn (K0 C.w.params) mainGlobals x=some (some v)):C.mg x=some v∨(C.mg x=none∧C.mb x=some v):=
 .inl (mg_of Y.ok.X Y.ok.T.g (by rw[Y.hK];exact e))
theorem KX.gb {C:Cx} (Y:KX C) {x:Str} {v:Value} (e:nsIn (K0 C.w.params) mainGlobals x=some none) (hv:bootBuiltins x=some v) (hn:(x==("__name__":Str))=false):C.mg x=some v∨(C.mg x=none∧C.mb x=some v):=
 .inr ⟨mg_none_of Y.ok.X Y.ok.T.g (by rw[Y.hK];exact e),(Y.ok.T.builtins x (λ q=>by rw[q] at hn;simp at hn)).trans hv⟩
theorem KX.keep {C:Cx} (Y:KX C) {v:Value} (e:keepIn (K0 C.w.params) v=true):keepIn C.K v=true:=by rw[Y.hK];exact e
noncomputable def Ib (K:Frag) (c:Addr) (name:Str):Bool:=plainGet K c name&&hasDictIn K c&&(match findIn K (.ref c) name with|some attr=>noGet K attr|none=>false)
theorem KX.atOk {C:Cx} (Y:KX C) {c:Addr} {name:Str} (h:Ib (K0 C.w.params) c name=true):AtOk C c name:=by
 unfold Ib at h
 rw[←Y.hK] at h
 simp only[cy] at h
 refine dL h λ vv0 d=>?_;clear h;refine dL vv0 λ a b=>?_;clear vv0
 refine⟨a,b,?_⟩
 split at d
 ·exact fV _ (by assumption) d
 ·cases d
noncomputable def HW (K:Frag) (c:Addr) (name:Str):Bool:=findIn K (.ref c) "__setattr__"==some (some (.builtin "object.__setattr__"))&&plainOver K c&&takerIn K c name==some none&&(clsIn K c).any (·.hasDict)
theorem KX.stOk {C:Cx} (Y:KX C) {c:Addr} {name:Str} (h:HW (K0 C.w.params) c name=true):StOk C c name:=by
 unfold HW at h
 rw[←Y.hK] at h
 simp only[cy,ju] at h
 refine dL h λ vv0 e=>?_;clear h;revert vv0;refine λ yy=>dL yy λ vv0 d=>?_;clear yy;refine dL vv0 λ a b=>?_;clear vv0
 exact⟨a,b,d,e⟩
theorem KX.clsOk {C:Cx} (Y:KX C) {c:Addr} (h:(makesIn (K0 C.w.params) c&&keepIn (K0 C.w.params) (.ref c))=true):ClsOk C c:=by
 rw[←Y.hK] at h
 simp only[cy] at h
 exact⟨h.1,h.2⟩
noncomputable def CE (K:Frag) (c:Addr) (name:Str) (f:Addr):Bool:=findIn K (.ref c) "__getattribute__"==some (some (.builtin "object.__getattribute__"))&&findIn K (.ref c) "__getattr__"==some none
 &&findIn K (.ref c) name==some (some (.ref f))&&typeIn K (.ref f)==some (.type "function")&&keepIn K (.ref f)
theorem KX.meOk {C:Cx} {k:Nat} (Y:KX C) {c:Addr} {name:Str} {f:Addr} {G:fR} (h:CE (K0 C.w.params) c name f=true) (hf:b7 C k f G):MethOk C k c name G:=by
 unfold CE at h
 rw[←Y.hK] at h
 simp only[cy,ju] at h
 refine dL h λ vv0 g=>?_;clear h;revert vv0;refine λ yy=>dL yy λ vv0 e=>?_;clear yy;revert vv0;refine λ yy=>dL yy λ vv0 d=>?_;clear yy;refine dL vv0 λ a b=>?_;clear vv0
 exact⟨a,b,f,d,e,g,hf⟩
theorem KX.meOkO {C:Cx} {k:Nat} (Y:KX C) {c:Addr} {name:Str} {f:Addr} {G:fR} (h:CE (K0 C.w.params) c name f=true) (hf:gU C k f G):MethOkO C k c name G:=by
 unfold CE at h
 rw[←Y.hK] at h
 simp only[cy,ju] at h
 refine dL h λ vv0 g=>?_;clear h;revert vv0;refine λ yy=>dL yy λ vv0 e=>?_;clear yy;revert vv0;refine λ yy=>dL yy λ vv0 d=>?_;clear yy;refine dL vv0 λ a b=>?_;clear vv0
 exact⟨a,b,f,d,e,g,hf⟩
noncomputable def H9 (K:Frag) (c:Addr) (name:Str) (i:Int):Bool:=plainGet K c name&&hasDictIn K c&&(match findIn K (.ref c) name with|some (some (.int j t))=>j==i&&specialIn K (.int j t) "__get__"==some none|_=>false)&& !copiedNames.contains name
theorem KX.atCls {C:Cx} (Y:KX C) {c:Addr} {name:Str} {i:Int} (h:H9 (K0 C.w.params) c name i=true):AtCls C c name i:=by
 unfold H9 at h
 rw[←Y.hK] at h
 simp only[cy,Bool.not_eq_true'] at h
 refine dL h λ vv0 e=>?_;clear h;revert vv0;refine λ yy=>dL yy λ vv0 d=>?_;clear yy;refine dL vv0 λ a b=>?_;clear vv0
 refine⟨a,b,?_,e⟩
 set_option tactic.hygienic true in split at d
 ·rename_i j t hj
  simp only[cy,ju] at d
  refine dL d λ uu0 d2=>?_;clear d;subst uu0
  exact fV t hj d2
 ·cases d
noncomputable def rA {α:Type} (le:α→α→Bool) (a:α):List α→List α
 | []=>[a]
 |b::l=>if le a b then a::b::l else b::rA le a l
noncomputable def jc {α:Type} (le:α→α→Bool):List α→List α
 | []=>[]
 |a::l=>rA le a (jc le l)
noncomputable def GR (a b:Int):Bool:=decide (a≤b)
noncomputable def EV (a b:Int×Int):Bool:=decide (a.1<b.1)|| (decide (a.1=b.1)&&decide (a.2≤b.2))
noncomputable def Hd (v:AV):Option (Int×Int):=match v with
 | .tup l=>match l with
  | [a,b]=>match a with
   | .int i=>match b with
    | .int j=>some (i,j)
    |_=>none
   |_=>none
  |_=>none
 |_=>none
noncomputable def vC:List AV→Option (List (Int×Int))
 | []=>some []
 |a::l=>match Hd a with
  |some p=>(vC l).map (p::·)
  |none=>none
noncomputable def Bf (p:Int×Int):AV:=.tup [.int p.1,.int p.2]
theorem LY {α A:Type} {r:α} {P:Prop} {l:List A} {f:A→A→Option α} (h:(match l with| [x,y]=>f x y|_=>none)=some r) (k:∀x y,l=[x,y]→f x y=some r→P):P:=by rcases l with _|⟨x,_|⟨y,_|⟨z,t⟩⟩⟩<;>first|exact dq h|exact k _ _ rfl h
theorem Ec {v:AV} {p:Int×Int} (e:Hd v=some p):v=Bf p:=by
 unfold Hd at e
 injections L3 e l e1;subst e1
 injections LY e a b e1;subst e1
 injections zd e i e1;subst e1
 injections zd e j e1;subst e1
 exact wH e rfl
noncomputable def qQ (l:List AV):EM AV:=λ σ=>match l with
 | [.ref n]=>match(getL σ.h n).bind kJ with
  |some ns=>if ns.length<64 then gH ((jc GR ns).map .int) σ else none
  |none=>match(getL σ.h n).bind vC with
   |some ps=>if ps.length<64∧ps.Nodup then gH ((jc EV ps).map Bf) σ else none
   |none=>none
 |_=>none
theorem aP {α:Type} {p:α→Prop}:∀x∈([]:List α),p x:=nofun
theorem aY {α:Type} {p:α→Prop} {a:α} {l:List α} (h:p a) (t:∀x∈l,p x):∀x∈a::l,p x:=List.forall_mem_cons.mpr ⟨h,t⟩
noncomputable def pB:IT→Bool
 | .enum _=>false
 |_=>true
noncomputable def G5:IT→Bool:=λ _=>true
theorem jh {x:Str} {pos:Pos}:kz (.Name x pos)=pB:=funext λ it=>by cases it<;>rfl
theorem zM {es:List Expr} {j:Nat} {pos:Pos}:kz (.Tuple es j pos)=G5:=funext λ it=>by cases it<;>rfl
section
variable{C:Cx} {k:Nat} {stor:Nat→Stor} {env:Env}
noncomputable def pQ (K:Frag) (x:Str) (i:Int):Bool:=match nsIn K mainGlobals x with
 |some (some (.int j _))=>j==i
 |_=>false
theorem iB (Y:KX C) {x:Str} {i:Int} {pos:Pos} (h:pQ (K0 C.w.params) x i=true) (kind:env.scope.kind= .function) (gl:env.globals=mainGlobals) (bl:env.builtins=builtinsNs) (at_:env.kindOf x=some .globalImplicit) (nd:(x==("__debug__":Str))=false):
  cE C k stor (eval (.Name x pos) env) (ret (.int i)):=by
 unfold pQ at h
 set_option tactic.hygienic true in split at h
 ·rename_i j t hj
  simp only[ju] at h
  subst h
  exact Ff Y.ok ⟨kind,gl,bl,at_,Y.gm hj,nd⟩ pos
 ·cases h
theorem dH {target iter:Expr} {body:List Stmt} {pos:Pos} {tg:IT→Bool} {g:EM IT} {asg:AV→EM Unit} {b:EM AF} (ht:kz target=tg) (hi:zj C k stor env iter g) (ha:ES C k stor (assign target env) asg) (hb:mI C k stor (execs body env) b)
  (hs:autoParam (∀x,foldedSetIterable iter env x=pure x) aI):
  mI C k stor (exec (.For target iter body [] pos) env) (jU tg g asg b):=by rw[←ht];exact Cl hi ha hb hs
theorem DK {target iter:Expr} {body:List Stmt} {pos:Pos} {tg:IT→Bool} {g:EM IT} {asg:AV→EM Unit} {b:EM AF} (ht:kz target=tg) (hi:zj C k stor env iter g) (ha:ES C k stor (assign target env) asg) (hb:GI C k stor (execs body env) b)
  (hs:autoParam (∀x,foldedSetIterable iter env x=pure x) aI):
  GI C k stor (exec (.For target iter body [] pos) env) (jU tg g asg b):=by rw[←ht];exact Cl hi ha hb hs
noncomputable def HG (env:Env):List (Str×NameKind)→List (Str×Addr)→Option (List (Str×Addr))
 | [],cs=>some cs
 | (n,k)::r,cs=>if k== .free then(match env.cells.lookup n with|some a=>HG env r ((n,a)::cs)|none=>none) else HG env r cs
theorem tz:∀(l:List (Str×NameKind)) (cs cl:List (Str×Addr)),HG env l cs=some cl→
  (forIn l cs λ(x:Str×NameKind) (cs:List (Str×Addr))=>(do
   if x.2==NameKind.free then
    let a←cellOf env x.1
    pure (ForInStep.yield ((x.1,a)::cs))
   else pure (ForInStep.yield cs):Sem (ForInStep (List (Str×Addr)))))=pure cl
 | [],cs,cl,h=>by cases h;rfl
 | (n,k)::r,cs,cl,h=>by
  rw[List.forIn_cons]
  unfold HG at h
  split at h
  ·rename_i hk
   set_option tactic.hygienic true in split at h
   ·rename_i a ha
    have:=tz r _ _ h
    simp only[hk,m0,cellOf,ha]
    exact this
   ·cases h
  ·rename_i hk
   have:=tz r _ _ h
   simp only[hk,m3]
   exact this
theorem BY {scope:Scope} {cl:List (Str×Addr)} (h:HG env scope.names []=some cl):closureFor scope env=pure cl:=by
 have e:=tz scope.names [] cl h
 unfold closureFor
 show((forIn scope.names [] λ(x:Str×NameKind) (cs:List (Str×Addr))=>(do
   if x.2==NameKind.free then
    let a←cellOf env x.1
    pure (ForInStep.yield ((x.1,a)::cs))
   else pure (ForInStep.yield cs):Sem (ForInStep (List (Str×Addr)))))>>=λ cs=>pure cs)=pure cl
 rw[e]
 rfl
noncomputable abbrev rF (scope:Scope) (env:Env):List (Str×Addr):=(HG env scope.names []).getD []
theorem Di {scope:Scope} (h:(HG env scope.names []).isSome=true):closureFor scope env=pure (rF scope env):=by
 refine gX (eA.mp h) λ cl hc=>?_
 have:=BY hc
 unfold rF
 rw[hc];exact this
noncomputable def y9 (scope:Scope) (vars:List (Nat×Str)):Bool:=scope.kind== .function&&scope.names.all (λ y=> !(y.2== .cell))&&scope.names.all (λ x=> !(x.2== .local)||scope.names.lookup x.1==some .local)&&decide (vars.map (·.2)).Nodup&& !vars.isEmpty
theorem gR {elt target iter:Expr} {ifs:List Expr} {scope:Scope} {vars:List (Nat×Str)} {g:EM IT} {asg:AV→EM Unit} {test:EM Bool} {fe:EM AV}
  (hc:(HG env scope.names []).isSome=true) (hk:y9 scope vars=true) (hsl:∀p∈vars,stor p.1= .none) (hi:zj C k stor env iter g)
  (ha:∀L,wl C k (eX stor (vm vars L)) (vars.map (·.1)) (assign target (compEnvC scope (rF scope env) L env)) asg)
  (htst:∀L,kR C k (eX stor (vm vars L)) (fP ifs (compEnvC scope (rF scope env) L env)) test)
  (he:∀L,cE C k (eX stor (vm vars L)) (eval elt (compEnvC scope (rF scope env) L env)) fe):
  CompAt C k stor env elt target iter ifs scope vars (rF scope env) g asg test fe:=by
 unfold y9 at hk
 simp only[cy,List.all_eq_true,jS,ju,Bool.not_eq_true',kt,ck,ne_eq] at hk
 refine dL hk λ vv0 a5=>?_;clear hk;revert vv0;refine λ yy=>dL yy λ vv0 a4=>?_;clear yy;revert vv0;refine λ yy=>dL yy λ vv0 a3=>?_;clear yy;refine dL vv0 λ a1 a2=>?_;clear vv0
 exact{it:=hi,clos:=Di hc,nocell:=a2,kind:=a1,names:=λ x hx h=>(a3 x hx).resolve_left (λ q=>q h),slots:=hsl,nd:=a4,ne:=(λ q=>by rw[q] at a5;cases a5),asg:=ha,test:=htst,elt:=he}
theorem cS {elt target iter:Expr} {ifs:List Expr} {scope:Scope} {pos:Pos} {vars:List (Nat×Str)} {tg:IT→Bool} {g:EM IT} {asg:AV→EM Unit} {test:EM Bool} {fe:EM AV}
  (ht:kz target=tg) (X:CompAt C k stor env elt target iter ifs scope vars (rF scope env) g asg test fe) (hs:autoParam (∀x,foldedSetIterable iter env x=pure x) aI):
  cE C k stor (eval (.ListComp elt [⟨target,iter,ifs,0⟩] scope pos) env) (fg (vars.map (·.1)) tg g asg test fe):=by rw[←ht];exact yr X hs
theorem lj {elt target iter:Expr} {ifs:List Expr} {scope:Scope} {pos py spos:Pos} {y:Str} {iy:Nat} {vars:List (Nat×Str)} {tg:IT→Bool} {g:EM IT} {asg:AV→EM Unit} {test:EM Bool} {fe:EM AV}
  (n:NameAt env stor y iy) (hiy:(vars.map (·.1)).contains iy=false) (ht:kz target=tg) (X:CompAt C k stor env elt target iter ifs scope vars (rF scope env) g asg test fe)
  (hsw:swapsWith (.ListComp elt [⟨target,iter,ifs,0⟩] scope pos) (some (.Name y py)) spos.line env=pure true) (hs:autoParam (∀x,foldedSetIterable iter env x=pure x) aI):
  mI C k stor (exec (.Assign [.Name y py] (.ListComp elt [⟨target,iter,ifs,0⟩] scope pos) spos) env) (ae (fg (vars.map (·.1)) tg g asg test fe) λ v=>ae (wr iy v) λ _=>Mine.Internal.ret .next):=by
 rw[←ht];exact qD n (λ q=>by rw[←List.contains_iff_mem,hiy] at q;cases q) X hsw hs
theorem pj {elt target iter:Expr} {ifs:List Expr} {scope:Scope} {pos py spos:Pos} {y:Str} {iy:Nat} {i0:Nat} {x0:Str} {tg:IT→Bool} {g:EM IT} {asg:AV→EM Unit} {test:EM Bool} {fe:EM AV}
  (n:NameAt env stor y iy) (hiy:([i0]:List Nat).contains iy=false) (ht:kz target=tg) (X:CompAtC C k stor env elt target iter ifs scope i0 x0 (rF scope env) g asg test fe)
  (hsw:swapsWith (.ListComp elt [⟨target,iter,ifs,0⟩] scope pos) (some (.Name y py)) spos.line env=pure true) (hs:autoParam (∀x,foldedSetIterable iter env x=pure x) aI):
  mI C k stor (exec (.Assign [.Name y py] (.ListComp elt [⟨target,iter,ifs,0⟩] scope pos) spos) env) (ae (fg [i0] tg g asg test fe) λ v=>ae (wr iy v) λ _=>Mine.Internal.ret .next):=by
 rw[←ht];exact pJ n (λ q=>by rw[←List.contains_iff_mem,hiy] at q;cases q) X hsw hs
theorem Bm {e:Expr} {es:List Expr} {f:EM AV} {fs:List (EM AV)} {j:Nat} {pos:Pos} (he:uh C k stor (eval e env) f) (h:SndEach C k stor env es fs) (hs:autoParam (starEach (e::es) env=(false,eval e env)::starEach es env) aR):
  uh C k stor (eval (.Tuple (e::es) j pos) env) (ae (bN (f::fs)) mm):=by
 intro A rm σ av bc h0 φ Λ s R
 show gg true C.M A (do standAt pos;newTuple (←spliced (backTo pos (starEach (e::es) env)))) _ s
 refine O.step (bP ?_)
 rw[hs]
 refine O.bind (Q:=fQ C stor φ Λ av bc) ?_
 show gg true C.M A (do
   let v←eval e env
   let here←(pure [v]:Sem (List Value))
   return here++(←holding here (spliced (backTo pos (starEach es env))))) _ s
 refine ce (br h0) λ l az e1 e2=>?_
 refine ce (br e1) λ a cG e3 e4=>?_
 refine O.bind (O.mono (he A rm σ a cG e3 φ Λ s R) λ v aZ p=>?_)
 refine bK p λ aJ ar bD bq hv=>?_;clear p
 refine O.step (aO ?_)
 refine O.step (cA (lc (iT h) rm e4 bD λ r dM vr ey cD bH bT cX cL hr=>?_))
 cases bT
 refine O.pure ?_
 exact O.any (aV (tX e2 cX (.cons (hv.mono cL.toExtV) hr)) (λ _ _ p=>p.trans (bq.trans cL)) dC)
end
noncomputable def A7 (fd:FuncData) (params:List Str) (rvs:List Value):Prop:=bindArgs fd ⟨rvs,[]⟩=pure (params.zip rvs)
theorem FC {P:List Value→Prop} (h:P []) (l:List Value) (e:l.length=0):P l:=List.eq_nil_of_length_eq_zero e▸h
theorem rt {P:List Value→Prop} {n:Nat} (h:∀a l,l.length=n→P (a::l)) (l:List Value) (e:l.length=n+1):P l:=by
 cases l with
 |nil=>exact Nat.noConfusion e
 |cons a l=>exact h a l (Nat.succ.inj e)
theorem i5 {fd:FuncData} {params:List Str} (hp:params.length=1) (h:∀a:Value,bindArgs fd ⟨[a],[]⟩=pure (params.zip [a])):∀rvs:List Value,rvs.length=params.length→bindArgs fd ⟨rvs,[]⟩=pure (params.zip rvs):=λ rvs hl=>(rt λ a=>FC (h a):∀l,l.length=1→A7 fd params l) rvs (hl.trans hp)
theorem hH {fd:FuncData} {params:List Str} (hp:params.length=2) (h:∀a b:Value,bindArgs fd ⟨[a,b],[]⟩=pure (params.zip [a,b])):∀rvs:List Value,rvs.length=params.length→bindArgs fd ⟨rvs,[]⟩=pure (params.zip rvs):=λ rvs hl=>(rt λ a=>rt λ b=>FC (h a b):∀l,l.length=2→A7 fd params l) rvs (hl.trans hp)
theorem kl {fd:FuncData} {params:List Str} (hp:params.length=3) (h:∀a b c:Value,bindArgs fd ⟨[a,b,c],[]⟩=pure (params.zip [a,b,c])):∀rvs:List Value,rvs.length=params.length→bindArgs fd ⟨rvs,[]⟩=pure (params.zip rvs):=λ rvs hl=>(rt λ a=>rt λ b=>rt λ c=>FC (h a b c):∀l,l.length=3→A7 fd params l) rvs (hl.trans hp)
theorem Gu {fd:FuncData} {params:List Str} (hp:params.length=4) (h:∀a b c d:Value,bindArgs fd ⟨[a,b,c,d],[]⟩=pure (params.zip [a,b,c,d])):∀rvs:List Value,rvs.length=params.length→bindArgs fd ⟨rvs,[]⟩=pure (params.zip rvs):=λ rvs hl=>(rt λ a=>rt λ b=>rt λ c=>rt λ d=>FC (h a b c d):∀l,l.length=4→A7 fd params l) rvs (hl.trans hp)
theorem Jf {fd:FuncData} {params:List Str} (hp:params.length=5) (h:∀a b c d e:Value,bindArgs fd ⟨[a,b,c,d,e],[]⟩=pure (params.zip [a,b,c,d,e])):∀rvs:List Value,rvs.length=params.length→bindArgs fd ⟨rvs,[]⟩=pure (params.zip rvs):=λ rvs hl=>(rt λ a=>rt λ b=>rt λ c=>rt λ d=>rt λ e=>FC (h a b c d e):∀l,l.length=5→A7 fd params l) rvs (hl.trans hp)
section
variable{C:Cx}
theorem Gb (P:Params):pQ (K0 P) "END" 256=true:=by kernel_rfl
theorem pc (P:Params):pQ (K0 P) "FIRST_LENGTH" 257=true:=by kernel_rfl
theorem vZ (P:Params):pQ (K0 P) "LAST_LENGTH" 285=true:=by kernel_rfl
theorem AG (P:Params):pQ (K0 P) "LEAST" 3=true:=by kernel_rfl
theorem C5 (P:Params):pQ (K0 P) "MOST" 258=true:=by kernel_rfl
theorem AH (P:Params):pQ (K0 P) "FARTHEST" 32768=true:=by kernel_rfl
theorem dX (Y:KX C):C.mg "len"=some (.builtin "len")∨(C.mg "len"=none∧C.mb "len"=some (.builtin "len")):=Y.gb ∅ ∅ ∅
theorem I3 (Y:KX C):C.mg "abs"=some (.builtin "abs")∨(C.mg "abs"=none∧C.mb "abs"=some (.builtin "abs")):=Y.gb ∅ ∅ ∅
theorem y0 (Y:KX C):C.mg "int"=some (.type "int")∨(C.mg "int"=none∧C.mb "int"=some (.type "int")):=Y.gb ∅ ∅ ∅
theorem Ga (Y:KX C):C.mg "str"=some (.type "str")∨(C.mg "str"=none∧C.mb "str"=some (.type "str")):=Y.gb ∅ ∅ ∅
theorem tv (Y:KX C):C.mg "max"=some (.builtin "max")∨(C.mg "max"=none∧C.mb "max"=some (.builtin "max")):=Y.gb ∅ ∅ ∅
theorem tu (Y:KX C):C.mg "sum"=some (.builtin "sum")∨(C.mg "sum"=none∧C.mb "sum"=some (.builtin "sum")):=Y.gb ∅ ∅ ∅
theorem uM (Y:KX C):C.mg "list"=some (.type "list")∨(C.mg "list"=none∧C.mb "list"=some (.type "list")):=Y.gb ∅ ∅ ∅
theorem AE (Y:KX C):C.mg "bytes"=some (.type "bytes")∨(C.mg "bytes"=none∧C.mb "bytes"=some (.type "bytes")):=Y.gb ∅ ∅ ∅
theorem qw (Y:KX C):C.mg "sorted"=some (.builtin "sorted")∨(C.mg "sorted"=none∧C.mb "sorted"=some (.builtin "sorted")):=Y.gb ∅ ∅ ∅
theorem lZ (Y:KX C):C.mg "enumerate"=some (.type "enumerate")∨(C.mg "enumerate"=none∧C.mb "enumerate"=some (.type "enumerate")):=Y.gb ∅ ∅ ∅
theorem AB (Y:KX C):C.mg "reversed"=some (.type "reversed")∨(C.mg "reversed"=none∧C.mb "reversed"=some (.type "reversed")):=Y.gb ∅ ∅ ∅
theorem iu (Y:KX C):C.mg "range"=some (.type "range")∨(C.mg "range"=none∧C.mb "range"=some (.type "range")):=Y.gb ∅ ∅ ∅
theorem nu (Y:KX C):C.mg "isinstance"=some (.builtin "isinstance")∨(C.mg "isinstance"=none∧C.mb "isinstance"=some (.builtin "isinstance")):=Y.gb ∅ ∅ ∅
theorem Hu (Y:KX C):C.mg "bool"=some (.type "bool")∨(C.mg "bool"=none∧C.mb "bool"=some (.type "bool")):=Y.gb ∅ ∅ ∅
theorem y4 (Y:KX C):C.mg "bytearray"=some (.type "bytearray")∨(C.mg "bytearray"=none∧C.mb "bytearray"=some (.type "bytearray")):=Y.gb ∅ ∅ ∅
theorem kN (Y:KX C):C.mg "length_symbol"=some (.ref 66)∨(C.mg "length_symbol"=none∧C.mb "length_symbol"=some (.ref 66)):=Y.gm ∅
theorem kI (Y:KX C):keepIn C.K (.ref 66)=true:=Y.keep ∅
theorem jE (Y:KX C):C.mg "distance_symbol"=some (.ref 73)∨(C.mg "distance_symbol"=none∧C.mb "distance_symbol"=some (.ref 73)):=Y.gm ∅
theorem jA (Y:KX C):keepIn C.K (.ref 73)=true:=Y.keep ∅
theorem oZ (Y:KX C):C.mg "two_at_least"=some (.ref 267)∨(C.mg "two_at_least"=none∧C.mb "two_at_least"=some (.ref 267)):=Y.gm ∅
theorem oV (Y:KX C):keepIn C.K (.ref 267)=true:=Y.keep ∅
theorem wU (Y:KX C):C.mg "write_step"=some (.ref 274)∨(C.mg "write_step"=none∧C.mb "write_step"=some (.ref 274)):=Y.gm ∅
theorem wP (Y:KX C):keepIn C.K (.ref 274)=true:=Y.keep ∅
theorem wV (Y:KX C):C.mg "need_count"=some (.ref 281)∨(C.mg "need_count"=none∧C.mb "need_count"=some (.ref 281)):=Y.gm ∅
theorem wQ (Y:KX C):keepIn C.K (.ref 281)=true:=Y.keep ∅
theorem qX (Y:KX C):C.mg "need_value"=some (.ref 288)∨(C.mg "need_value"=none∧C.mb "need_value"=some (.ref 288)):=Y.gm ∅
theorem qS (Y:KX C):keepIn C.K (.ref 288)=true:=Y.keep ∅
theorem qH (Y:KX C):C.mg "counts_by_length"=some (.ref 365)∨(C.mg "counts_by_length"=none∧C.mb "counts_by_length"=some (.ref 365)):=Y.gm ∅
theorem qG (Y:KX C):keepIn C.K (.ref 365)=true:=Y.keep ∅
theorem rC (Y:KX C):C.mg "greatest_length"=some (.ref 372)∨(C.mg "greatest_length"=none∧C.mb "greatest_length"=some (.ref 372)):=Y.gm ∅
theorem rx (Y:KX C):keepIn C.K (.ref 372)=true:=Y.keep ∅
theorem vY (Y:KX C):C.mg "first_codes"=some (.ref 379)∨(C.mg "first_codes"=none∧C.mb "first_codes"=some (.ref 379)):=Y.gm ∅
theorem vL (Y:KX C):keepIn C.K (.ref 379)=true:=Y.keep ∅
theorem y3 (Y:KX C):C.mg "canonical"=some (.ref 386)∨(C.mg "canonical"=none∧C.mb "canonical"=some (.ref 386)):=Y.gm ∅
theorem yN (Y:KX C):keepIn C.K (.ref 386)=true:=Y.keep ∅
theorem uv (Y:KX C):C.mg "used_symbols"=some (.ref 428)∨(C.mg "used_symbols"=none∧C.mb "used_symbols"=some (.ref 428)):=Y.gm ∅
theorem ut (Y:KX C):keepIn C.K (.ref 428)=true:=Y.keep ∅
theorem xL (Y:KX C):C.mg "placed"=some (.ref 435)∨(C.mg "placed"=none∧C.mb "placed"=some (.ref 435)):=Y.gm ∅
theorem xI (Y:KX C):keepIn C.K (.ref 435)=true:=Y.keep ∅
theorem wW (Y:KX C):C.mg "check_room"=some (.ref 442)∨(C.mg "check_room"=none∧C.mb "check_room"=some (.ref 442)):=Y.gm ∅
theorem wR (Y:KX C):keepIn C.K (.ref 442)=true:=Y.keep ∅
theorem EC (Y:KX C):C.mg "merged"=some (.ref 449)∨(C.mg "merged"=none∧C.mb "merged"=some (.ref 449)):=Y.gm ∅
theorem Ev (Y:KX C):keepIn C.K (.ref 449)=true:=Y.keep ∅
theorem sw (Y:KX C):C.mg "package_depths"=some (.ref 454)∨(C.mg "package_depths"=none∧C.mb "package_depths"=some (.ref 454)):=Y.gm ∅
theorem sm (Y:KX C):keepIn C.K (.ref 454)=true:=Y.keep ∅
theorem n0 (Y:KX C):C.mg "least_lengths"=some (.ref 459)∨(C.mg "least_lengths"=none∧C.mb "least_lengths"=some (.ref 459)):=Y.gm ∅
theorem nU (Y:KX C):keepIn C.K (.ref 459)=true:=Y.keep ∅
theorem AC (Y:KX C):C.mg "_law_pool"=some (.ref 466)∨(C.mg "_law_pool"=none∧C.mb "_law_pool"=some (.ref 466)):=Y.gm ∅
theorem Aq (Y:KX C):keepIn C.K (.ref 466)=true:=Y.keep ∅
theorem gC (Y:KX C):C.mg "_law_take"=some (.ref 473)∨(C.mg "_law_take"=none∧C.mb "_law_take"=some (.ref 473)):=Y.gm ∅
theorem gB (Y:KX C):keepIn C.K (.ref 473)=true:=Y.keep ∅
theorem t9 (Y:KX C):C.mg "_law_rows"=some (.ref 480)∨(C.mg "_law_rows"=none∧C.mb "_law_rows"=some (.ref 480)):=Y.gm ∅
theorem t4 (Y:KX C):keepIn C.K (.ref 480)=true:=Y.keep ∅
theorem qY (Y:KX C):C.mg "_law_symbol"=some (.ref 485)∨(C.mg "_law_symbol"=none∧C.mb "_law_symbol"=some (.ref 485)):=Y.gm ∅
theorem qT (Y:KX C):keepIn C.K (.ref 485)=true:=Y.keep ∅
theorem yX (Y:KX C):C.mg "_law_steps"=some (.ref 492)∨(C.mg "_law_steps"=none∧C.mb "_law_steps"=some (.ref 492)):=Y.gm ∅
theorem yK (Y:KX C):keepIn C.K (.ref 492)=true:=Y.keep ∅
theorem yY (Y:KX C):C.mg "_law_marks"=some (.ref 499)∨(C.mg "_law_marks"=none∧C.mb "_law_marks"=some (.ref 499)):=Y.gm ∅
theorem yL (Y:KX C):keepIn C.K (.ref 499)=true:=Y.keep ∅
theorem nt (Y:KX C):C.mg "_law_firsts"=some (.ref 504)∨(C.mg "_law_firsts"=none∧C.mb "_law_firsts"=some (.ref 504)):=Y.gm ∅
theorem nr (Y:KX C):keepIn C.K (.ref 504)=true:=Y.keep ∅
theorem q5 (Y:KX C):C.mg "_law_merged"=some (.ref 509)∨(C.mg "_law_merged"=none∧C.mb "_law_merged"=some (.ref 509)):=Y.gm ∅
theorem qV (Y:KX C):keepIn C.K (.ref 509)=true:=Y.keep ∅
theorem sx (Y:KX C):C.mg "_law_codes"=some (.ref 514)∨(C.mg "_law_codes"=none∧C.mb "_law_codes"=some (.ref 514)):=Y.gm ∅
theorem sn (Y:KX C):keepIn C.K (.ref 514)=true:=Y.keep ∅
theorem ua (Y:KX C):C.mg "_law_read"=some (.ref 521)∨(C.mg "_law_read"=none∧C.mb "_law_read"=some (.ref 521)):=Y.gm ∅
theorem t5 (Y:KX C):keepIn C.K (.ref 521)=true:=Y.keep ∅
theorem qZ (Y:KX C):C.mg "_law_number"=some (.ref 526)∨(C.mg "_law_number"=none∧C.mb "_law_number"=some (.ref 526)):=Y.gm ∅
theorem qU (Y:KX C):keepIn C.K (.ref 526)=true:=Y.keep ∅
theorem AD (Y:KX C):C.mg "_law_back"=some (.ref 533)∨(C.mg "_law_back"=none∧C.mb "_law_back"=some (.ref 533)):=Y.gm ∅
theorem Ar (Y:KX C):keepIn C.K (.ref 533)=true:=Y.keep ∅
theorem yZ (Y:KX C):C.mg "_law_fixed"=some (.ref 540)∨(C.mg "_law_fixed"=none∧C.mb "_law_fixed"=some (.ref 540)):=Y.gm ∅
theorem yM (Y:KX C):keepIn C.K (.ref 540)=true:=Y.keep ∅
theorem vW (Y:KX C):C.mg "_law_sum"=some (.ref 545)∨(C.mg "_law_sum"=none∧C.mb "_law_sum"=some (.ref 545)):=Y.gm ∅
theorem vJ (Y:KX C):keepIn C.K (.ref 545)=true:=Y.keep ∅
theorem vV (Y:KX C):C.mg "_law_written"=some (.ref 550)∨(C.mg "_law_written"=none∧C.mb "_law_written"=some (.ref 550)):=Y.gm ∅
theorem vI (Y:KX C):keepIn C.K (.ref 550)=true:=Y.keep ∅
theorem vX (Y:KX C):C.mg "_law_counted"=some (.ref 555)∨(C.mg "_law_counted"=none∧C.mb "_law_counted"=some (.ref 555)):=Y.gm ∅
theorem vK (Y:KX C):keepIn C.K (.ref 555)=true:=Y.keep ∅
theorem n3 (Y:KX C):C.mg "FixedLiterals"=some (.ref 111)∨(C.mg "FixedLiterals"=none∧C.mb "FixedLiterals"=some (.ref 111)):=Y.gm ∅
theorem n4 (Y:KX C):ClsOk C 111:=Y.clsOk ∅
theorem nW (Y:KX C):findIn C.K (.ref 111) "__init__"=some (some (.builtin "object.__init__")):=by rw[Y.hK];kernel_rfl
theorem mV (Y:KX C):C.mg "FixedDistances"=some (.ref 146)∨(C.mg "FixedDistances"=none∧C.mb "FixedDistances"=some (.ref 146)):=Y.gm ∅
theorem mX (Y:KX C):ClsOk C 146:=Y.clsOk ∅
theorem mT (Y:KX C):findIn C.K (.ref 146) "__init__"=some (some (.builtin "object.__init__")):=by rw[Y.hK];kernel_rfl
theorem kf (Y:KX C):C.mg "LengthCosts"=some (.ref 174)∨(C.mg "LengthCosts"=none∧C.mb "LengthCosts"=some (.ref 174)):=Y.gm ∅
theorem kj (Y:KX C):ClsOk C 174:=Y.clsOk ∅
theorem kc (Y:KX C):findIn C.K (.ref 174) "__init__"=some (some (.ref 164)):=by rw[Y.hK];kernel_rfl
theorem jY (Y:KX C):typeIn C.K (.ref 164)=some (.type "function"):=by rw[Y.hK];kernel_rfl
theorem sy (Y:KX C):C.mg "CodePrice"=some (.ref 216)∨(C.mg "CodePrice"=none∧C.mb "CodePrice"=some (.ref 216)):=Y.gm ∅
theorem sI (Y:KX C):ClsOk C 216:=Y.clsOk ∅
theorem sr (Y:KX C):findIn C.K (.ref 216) "__init__"=some (some (.ref 192)):=by rw[Y.hK];kernel_rfl
theorem rP (Y:KX C):typeIn C.K (.ref 192)=some (.type "function"):=by rw[Y.hK];kernel_rfl
theorem wX (Y:KX C):C.mg "StepCounts"=some (.ref 258)∨(C.mg "StepCounts"=none∧C.mb "StepCounts"=some (.ref 258)):=Y.gm ∅
theorem w3 (Y:KX C):ClsOk C 258:=Y.clsOk ∅
theorem wT (Y:KX C):findIn C.K (.ref 258) "__init__"=some (some (.ref 234)):=by rw[Y.hK];kernel_rfl
theorem wx (Y:KX C):typeIn C.K (.ref 234)=some (.type "function"):=by rw[Y.hK];kernel_rfl
theorem y5 (Y:KX C):C.mg "LowWriter"=some (.ref 354)∨(C.mg "LowWriter"=none∧C.mb "LowWriter"=some (.ref 354)):=Y.gm ∅
theorem zb (Y:KX C):ClsOk C 354:=Y.clsOk ∅
theorem yP (Y:KX C):findIn C.K (.ref 354) "__init__"=some (some (.ref 302)):=by rw[Y.hK];kernel_rfl
theorem ye (Y:KX C):typeIn C.K (.ref 302)=some (.type "function"):=by rw[Y.hK];kernel_rfl
theorem o0 (Y:KX C):C.mg "PrefixWriter"=some (.ref 417)∨(C.mg "PrefixWriter"=none∧C.mb "PrefixWriter"=some (.ref 417)):=Y.gm ∅
theorem pd (Y:KX C):ClsOk C 417:=Y.clsOk ∅
theorem oX (Y:KX C):findIn C.K (.ref 417) "__init__"=some (some (.ref 400)):=by rw[Y.hK];kernel_rfl
theorem oR (Y:KX C):typeIn C.K (.ref 400)=some (.type "function"):=by rw[Y.hK];kernel_rfl
theorem f5 (Y:KX C):("lengths":Str)=C.fname 0:=by rw[Y.hf];kernel_rfl
theorem jG (Y:KX C):∀c∈([174,417]:List Addr),AtOk C c (C.fname 0):=by rw[←f5 Y];exact(aY (Y.atOk ∅) (aY (Y.atOk ∅) aP))
theorem u9 (Y:KX C):∀c∈([174,417]:List Addr),StOk C c (C.fname 0):=by rw[←f5 Y];exact(aY (Y.stOk ∅) (aY (Y.stOk ∅) aP))
theorem mD (Y:KX C):("dearest":Str)=C.fname 1:=by rw[Y.hf];kernel_rfl
theorem B1 (Y:KX C):∀c∈([174]:List Addr),AtOk C c (C.fname 1):=by rw[←mD Y];exact(aY (Y.atOk ∅) aP)
theorem Bk (Y:KX C):∀c∈([174]:List Addr),StOk C c (C.fname 1):=by rw[←mD Y];exact(aY (Y.stOk ∅) aP)
theorem B3 (Y:KX C):∀p∈([(111,10),(146,6)]:List (Addr×Int)),AtCls C p.1 (C.fname 1) p.2:=by rw[←mD Y];exact(aY (Y.atCls ∅) (aY (Y.atCls ∅) aP))
theorem iY (Y:KX C):("by_literals":Str)=C.fname 2:=by rw[Y.hf];kernel_rfl
theorem p8 (Y:KX C):∀c∈([216]:List Addr),AtOk C c (C.fname 2):=by rw[←iY Y];exact(aY (Y.atOk ∅) aP)
theorem vc (Y:KX C):∀c∈([216]:List Addr),StOk C c (C.fname 2):=by rw[←iY Y];exact(aY (Y.stOk ∅) aP)
theorem jq (Y:KX C):("by_distances":Str)=C.fname 3:=by rw[Y.hf];kernel_rfl
theorem ux (Y:KX C):∀c∈([216]:List Addr),AtOk C c (C.fname 3):=by rw[←jq Y];exact(aY (Y.atOk ∅) aP)
theorem um (Y:KX C):∀c∈([216]:List Addr),StOk C c (C.fname 3):=by rw[←jq Y];exact(aY (Y.stOk ∅) aP)
theorem fO (Y:KX C):("literals":Str)=C.fname 4:=by rw[Y.hf];kernel_rfl
theorem i6 (Y:KX C):∀c∈([258]:List Addr),AtOk C c (C.fname 4):=by rw[←fO Y];exact(aY (Y.atOk ∅) aP)
theorem zR (Y:KX C):∀c∈([258]:List Addr),StOk C c (C.fname 4):=by rw[←fO Y];exact(aY (Y.stOk ∅) aP)
theorem e7 (Y:KX C):("distances":Str)=C.fname 5:=by rw[Y.hf];kernel_rfl
theorem ij (Y:KX C):∀c∈([258]:List Addr),AtOk C c (C.fname 5):=by rw[←e7 Y];exact(aY (Y.atOk ∅) aP)
theorem yl (Y:KX C):∀c∈([258]:List Addr),StOk C c (C.fname 5):=by rw[←e7 Y];exact(aY (Y.stOk ∅) aP)
theorem mU (Y:KX C):("used":Str)=C.fname 6:=by rw[Y.hf];kernel_rfl
theorem sL (Y:KX C):∀c∈([258]:List Addr),AtOk C c (C.fname 6):=by rw[←mU Y];exact(aY (Y.atOk ∅) aP)
theorem G7 (Y:KX C):∀c∈([258]:List Addr),StOk C c (C.fname 6):=by rw[←mU Y];exact(aY (Y.stOk ∅) aP)
theorem pT (Y:KX C):("far":Str)=C.fname 7:=by rw[Y.hf];kernel_rfl
theorem wh (Y:KX C):∀c∈([258]:List Addr),AtOk C c (C.fname 7):=by rw[←pT Y];exact(aY (Y.atOk ∅) aP)
theorem Iy (Y:KX C):∀c∈([258]:List Addr),StOk C c (C.fname 7):=by rw[←pT Y];exact(aY (Y.stOk ∅) aP)
theorem nY (Y:KX C):("extra":Str)=C.fname 8:=by rw[Y.hf];kernel_rfl
theorem wi (Y:KX C):∀c∈([258]:List Addr),AtOk C c (C.fname 8):=by rw[←nY Y];exact(aY (Y.atOk ∅) aP)
theorem zS (Y:KX C):∀c∈([258]:List Addr),StOk C c (C.fname 8):=by rw[←nY Y];exact(aY (Y.stOk ∅) aP)
theorem qv (Y:KX C):("made":Str)=C.fname 9:=by rw[Y.hf];kernel_rfl
theorem ze (Y:KX C):∀c∈([354]:List Addr),AtOk C c (C.fname 9):=by rw[←qv Y];exact(aY (Y.atOk ∅) aP)
theorem G8 (Y:KX C):∀c∈([354]:List Addr),StOk C c (C.fname 9):=by rw[←qv Y];exact(aY (Y.stOk ∅) aP)
theorem ow (Y:KX C):("held":Str)=C.fname 10:=by rw[Y.hf];kernel_rfl
theorem uT (Y:KX C):∀c∈([354]:List Addr),AtOk C c (C.fname 10):=by rw[←ow Y];exact(aY (Y.atOk ∅) aP)
theorem yk (Y:KX C):∀c∈([354]:List Addr),StOk C c (C.fname 10):=by rw[←ow Y];exact(aY (Y.stOk ∅) aP)
theorem fL (Y:KX C):("held_bits":Str)=C.fname 11:=by rw[Y.hf];kernel_rfl
theorem i8 (Y:KX C):∀c∈([354]:List Addr),AtOk C c (C.fname 11):=by rw[←fL Y];exact(aY (Y.atOk ∅) aP)
theorem og (Y:KX C):∀c∈([354]:List Addr),StOk C c (C.fname 11):=by rw[←fL Y];exact(aY (Y.stOk ∅) aP)
theorem sv (Y:KX C):("codes":Str)=C.fname 12:=by rw[Y.hf];kernel_rfl
theorem Gz (Y:KX C):∀c∈([417]:List Addr),AtOk C c (C.fname 12):=by rw[←sv Y];exact(aY (Y.atOk ∅) aP)
theorem Fc (Y:KX C):∀c∈([417]:List Addr),StOk C c (C.fname 12):=by rw[←sv Y];exact(aY (Y.stOk ∅) aP)
end
theorem tn {α:Type} (le:α→α→Bool) (a:α):∀l:List α,(rA le a l).Perm (a::l)
 | []=>.refl _
 |b::l=>by
  unfold rA
  split
  ·exact .refl _
  ·exact((tn le a l).cons b).trans (.swap _ _ _)
theorem vk {α:Type} (le:α→α→Bool):∀l:List α,(jc le l).Perm l
 | []=>.refl _
 |a::l=>(tn le a _).trans ((vk le l).cons a)
theorem t8 {α:Type} {le:α→α→Bool} (tot:∀a b,le a b=true∨le b a=true) (tr:∀a b c,le a b=true→le b c=true→le a c=true) (a:α):
  ∀l:List α,l.Pairwise (λ x y=>le x y=true)→(rA le a l).Pairwise (λ x y=>le x y=true)
 | [],_=>List.pairwise_singleton _ _
 |b::l,h=>by
  refine dL (f0.mp h) λ h1 h2=>?_
  unfold rA
  by_cases q:le a b=true
  ·rw[if_pos q]
   refine f0.mpr ⟨λ x hx=>?_,h⟩
   rcases bo.mp hx with rfl|hx
   ·exact q
   ·exact tr _ _ _ q (h1 x hx)
  ·rw[if_neg q]
   refine f0.mpr ⟨λ x hx=>?_,t8 tot tr a l h2⟩
   rcases bo.mp ((tn le a l).mem_iff.mp hx) with rfl|hx
   ·exact(tot x b).resolve_left q
   ·exact h1 x hx
theorem rY {α:Type} {le:α→α→Bool} (tot:∀a b,le a b=true∨le b a=true) (tr:∀a b c,le a b=true→le b c=true→le a c=true):∀l:List α,(jc le l).Pairwise (λ x y=>le x y=true)
 | []=>List.Pairwise.nil
 |a::l=>t8 tot tr a _ (rY tot tr l)
theorem xl {α:Type} {le:α→α→Bool} (tot:∀a b,le a b=true∨le b a=true) (tr:∀a b c,le a b=true→le b c=true→le a c=true) (anti:∀a b,le a b=true→le b a=true→a=b)
  {l l':List α} (hp:l'.Perm l) (hs:l'.Pairwise λ x y=>le x y=true):l'=jc le l:=
 (hp.trans (vk le l).symm).eq_of_pairwise (λ a b _ _ x y=>anti a b x y) hs (rY tot tr l)
theorem FE {l l':List Int} (hp:l'.Perm l) (hs:l'.Pairwise (·≤·)):l'=jc GR l:=
 xl (λ a b=>by unfold GR;simp;omega) (λ a b c h1 h2=>by unfold GR at*;simp at*;exact Int.le_trans h1 h2) (λ a b h1 h2=>by unfold GR at*;simp at*;exact Int.le_antisymm h1 h2) hp (hs.imp λ h=>by unfold GR;simpa using h)
theorem wd {C:Cx} {k:Nat} {stor:Nat→Stor} {A:Around} (rm:Rm A k) {σ bc:St} {n:Nat} {ns:List Int} {av:AV} {φ:List Addr} {Λ:bj} {s:Shared} {vs:List Value} (R:RepS C stor σ φ Λ s) (hv:VRs φ Λ [.ref n] vs)
  (hg:(getL σ.h n).bind kJ=some ns) (hl:ns.length<64) (h:gH ((jc GR ns).map .int) σ=some (av,bc)):
  wpAny C.M A (call (.builtin "sorted") vs) (fQ C stor φ Λ av bc) (λ _ _=>False) s:=by
 refine bM (cU.mp hg) λ ws hw hi=>?_
 unfold gH at h
 injections lY h hf
 cases h
 cases hv with
 |cons ha hr=>
  cases hr
  refine bM (RepH.ref ha) λ ad uu0 had=>?_;subst uu0
  refine bM (fM R.toRepH hw had) λ rvs hls hvs=>?_
  have hI:=pP hvs hi
  refine sorted_ints hls hI (by rw[hI.length];exact hl) λ out ns' h1 h2 h3=>?_
  refine gX (sortedAll_at s.heap rvs out) λ e he=>?_
  have:ns'=jc GR ns:=FE h2 h3
  subst this
  exact s8 (tk:=s.toks) R (λ b o q=>sortedAll_old q) (jo _) (rvs:=out.toList) he (VRs.of_ints h1)
noncomputable def KV {α:Type} (n:Nat) (lt:Nat→Nat→Bool) (Q:α→Prop):KasT α→Prop
 | .ret a=>Q a
 | .ask i j k=>(i<n∧j<n)∧KV n lt Q (k (lt i j))
theorem KV.bind {α β:Type} {n:Nat} {lt:Nat→Nat→Bool} {f:α→KasT β} {Q:β→Prop} {t:KasT α} (h:KV n lt (λ a=>KV n lt Q (f a)) t):KV n lt Q (t.bind f):=by
 induction t with
 |ret _=>exact h
 |ask i j k ih=>exact⟨h.1,ih _ h.2⟩
theorem KV.mono {α:Type} {n:Nat} {lt:Nat→Nat→Bool} {Q Q':α→Prop} (m:∀a,Q a→Q' a) {t:KasT α} (h:KV n lt Q t):KV n lt Q' t:=by
 induction t with
 |ret _=>exact m _ h
 |ask i j k ih=>exact⟨h.1,ih _ h.2⟩
theorem KV.wp {α:Type} {n:Nat} {lt:Nat→Nat→Bool} {Q:α→Prop} {cmp:Nat→Nat→(Bool→Shared→Prop)→Shared→Prop} {P:α→Shared→Prop} {s:Shared} (hc:∀i j C,i<n→j<n→C (lt i j) s→cmp i j C s)
  (m:∀a,Q a→P a s) {t:KasT α} (h:KV n lt Q t):t.kasWp cmp P s:=by
 induction t with
 |ret _=>exact m _ h
 |ask i j k ih=>exact hc i j _ h.1.1 h.1.2 (ih _ h.2)
structure STO (n:Nat) (lt:Nat→Nat→Bool):Prop where
 asym:∀i j,lt i j=true→lt j i=false
 tot:∀i j,i<n→j<n→i≠j→lt i j=true∨lt j i=true
 tr:∀i j k,lt i j=true→lt j k=true→lt i k=true
noncomputable def PM (n:Nat) (p:Array Nat):Prop:=p.Perm (List.range n).toArray
theorem PM.size {n:Nat} {p:Array Nat} (h:PM n p):p.size=n:=by have:=h.size_eq;simpa using this
theorem PM.lt {n:Nat} {p:Array Nat} (h:PM n p) {i:Nat} (hi:i<n):p.getD i 0<n:=by
 have hs:=h.size
 have:p[i]'(by exact ag hi (V hs.symm))∈(List.range n).toArray:=h.mem_iff.mp (Array.getElem_mem _)
 have e:p.getD i 0=p[i]'(by exact ag hi (V hs.symm)):=by simp[Array.getD,show i<p.size by exact ag hi (V hs.symm)]
 rw[e];simpa using this
theorem PM.inj {n:Nat} {p:Array Nat} (h:PM n p) {i j:Nat} (hi:i<n) (hj:j<n) (ne:i≠j):p.getD i 0≠p.getD j 0:=by
 have hs:=h.size
 have nd:p.toList.Nodup:=(Array.Perm.toList h).nodup_iff.mpr List.nodup_range
 have hi':i<p.toList.length:=by rw[gM];exact ag hi (V hs.symm)
 have hj':j<p.toList.length:=by rw[gM];exact ag hj (V hs.symm)
 have ei:p.getD i 0=p.toList[i]:=by simp[Array.getD,show i<p.size by exact f!"1a1.+c>1bc<1a1.+b<3" hi (V hs.symm)]
 have ej:p.getD j 0=p.toList[j]:=by simp[Array.getD,show j<p.size by exact f!"1a1.+c>1bc<1a1.+b<3" hj (V hs.symm)]
 rw[ei,ej]
 intro z
 exact ne ((List.getElem_inj nd).mp z)
section
variable{n:Nat} {lt:Nat→Nat→Bool} {p:Array Nat}
noncomputable def x8 (lt:Nat→Nat→Bool) (p:Array Nat) (m:Nat):Prop:=∀i,i+1<m→lt (p.getD i 0) (p.getD (i+1) 0)=true
noncomputable def KT (lt:Nat→Nat→Bool) (p:Array Nat) (m:Nat):Prop:=∀i,i+1<m→lt (p.getD (i+1) 0) (p.getD i 0)=true
theorem B2 (o:STO n lt) (h:PM n p):∀f m,1≤m→m+f=n→x8 lt p m→KV n lt (λ r=>m≤r∧r≤n∧x8 lt p r∧(r<n→lt (p.getD r 0) (p.getD (r-1) 0)=true)) (kas_asc p f m)
 |0,m,h1,h2,a=>⟨bz _,by exact f!"1ab>1a0.+b<2" (V h2),a,λ z=>by omega⟩
 |f+1,m,h1,h2,a=>by
  refine⟨⟨h.lt (by exact f!"1a1.+c>1ab1.++c<3" (V h2)),h.lt (by exact f!"1d1.+c>1d1.+a<1ab1.++c<4" (V h2) (V (ai h1)))⟩,?_⟩
  cases c:lt (p.getD m 0) (p.getD (m-1) 0) with
  |true=>exact lv (bz _) (by exact f!"1ac>1ab1.++c<3" (V h2)) a (λ _=>c)
  |false=>
   refine KV.mono (λ r q=>⟨by exact f!"1ab>1a1.+b<2" q.1,q.2⟩) (B2 o h f (m+1) (by exact k5 _) (by exact jm (f!"1a1.+b+c>1ab1.++c<3" (V h2))<|f!"1ab1.+c+>1abc1.++<3" (V h2.symm)) λ i hi=>?_)
   by_cases q:i+1<m
   ·exact a i q
   ·have e:i=m-1:=by exact jm (f!"1ac>1bc1.+<1a2.+b1.+<3" hi (sA _ _))<|f!"1cb>1c1.+a<1ab1.+<3" (aG q) (V (ai h1))
    subst e
    rw[show m-1+1=m by with_unfolding_all exact jm (f!"1a1.+b>1a2.+b1.+<2" hi)<|f!"1ba1.+>1ba1.+<2" (sA _ _)]
    exact(o.tot _ _ (h.lt (by exact f!"1d1.+c>1d2.+a1.+<1ab1.++c<4" (V h2) hi)) (h.lt (by exact f!"1a1.+c>1ab1.++c<3" (V h2))) (h.inj (by exact f!"1d1.+c>1d2.+a1.+<1ab1.++c<4" (V h2) hi) (by exact f!"1a1.+c>1ab1.++c<3" (V h2)) (by exact λ z=>f!"z1ba<1a2.+b1.+<2" hi (V z.symm)))).resolve_right (by rw[c];simp)
theorem Gj (o:STO n lt) (h:PM n p):∀f m,1≤m→m+f=n→KT lt p m→KV n lt (λ r=>r.1=p∧r.2.2=0∧m≤r.2.1∧r.2.1≤n∧KT lt p r.2.1) (kas_desc f p m 0)
 |0,m,h1,h2,a=>⟨rfl,rfl,bz _,(by exact f!"1ab>1a0.+b<2" (V h2):m≤n),a⟩
 |f+1,m,h1,h2,a=>by
  refine⟨⟨h.lt (by exact f!"1a1.+c>1ab1.++c<3" (V h2)),h.lt (by exact f!"1d1.+c>1d1.+a<1ab1.++c<4" (V h2) (V (ai h1)))⟩,?_⟩
  cases c:lt (p.getD m 0) (p.getD (m-1) 0) with
  |true=>
   refine KV.mono (λ r q=>⟨q.1,q.2.1,by exact f!"1ab>1a1.+b<2" q.2.2.1,q.2.2.2⟩) (Gj o h f (m+1) (by exact k5 _) (by exact jm (f!"1a1.+b+c>1ab1.++c<3" (V h2))<|f!"1ab1.+c+>1abc1.++<3" (V h2.symm)) λ i hi=>?_)
   by_cases q:i+1<m
   ·exact a i q
   ·have e:i=m-1:=by exact jm (f!"1ac>1bc1.+<1a2.+b1.+<3" hi (sA _ _))<|f!"1cb>1c1.+a<1ab1.+<3" (aG q) (V (ai h1))
    subst e
    rw[show m-1+1=m by with_unfolding_all exact jm (f!"1a1.+b>1a2.+b1.+<2" hi)<|f!"1ba1.+>1ba1.+<2" (sA _ _)]
    exact c
  |false=>
   have d:=(o.tot _ _ (h.lt (i:=m-1) (by exact f!"1d1.+c>1d1.+a<1ab1.++c<4" (V h2) (V (ai h1)))) (h.lt (i:=m) (by exact f!"1a1.+c>1ab1.++c<3" (V h2))) (h.inj (by exact f!"1d1.+c>1d1.+a<1ab1.++c<4" (V h2) (V (ai h1))) (by exact f!"1a1.+c>1ab1.++c<3" (V h2)) (by exact λ z=>f!"z1b1.+a<1ab<2" (V z.symm) (V (ai h1))))).resolve_right (by rw[c];simp)
   refine⟨⟨h.lt (by exact f!"1d1.+c>1d1.+a<1ab1.++c<4" (V h2) (V (ai h1))),h.lt (by exact f!"1a1.+c>1ab1.++c<3" (V h2))⟩,?_⟩
   rw[d]
   exact II rfl rfl (bz _) (by exact f!"1ac>1ab1.++c<3" (V h2):m≤n) a
theorem x8.far (o:STO n lt) {m:Nat} (a:x8 lt p m):∀d i,i+d+1<m→lt (p.getD i 0) (p.getD (i+d+1) 0)=true
 |0,i,h=>a i h
 |d+1,i,h=>o.tr _ _ _ (x8.far o a d i (by exact f!"1ab+1.+1.+c>1ab1.++2.+c<3" h)) (a (i+d+1) (by exact f!"1ab+1.+1.+1.+c>1ab1.++2.+c<3" h))
theorem vD (o:STO n lt) (h:PM n p) {k:Nat} (hk:k<n) (a:x8 lt p k):∀f l r,l≤r→r≤k→r-l≤f→(∀i<l,lt (p.getD i 0) (p.getD k 0)=true)→(∀i,r≤i→i<k→lt (p.getD k 0) (p.getD i 0)=true)→
  KV n lt (λ l=>l≤k∧(∀i<l,lt (p.getD i 0) (p.getD k 0)=true)∧∀i,l≤i→i<k→lt (p.getD k 0) (p.getD i 0)=true) (kas_place p k f l r)
 |0,l,r,h1,h2,h3,a1,a2=>⟨by exact af h1 h2,a1,λ i hi=>a2 i (by exact f!"1dc>1dab+<1bc<1a0.<4" h3 hi (sA _ _))⟩
 |f+1,l,r,h1,h2,h3,a1,a2=>by
  unfold kas_place
  by_cases q:l≥r
  ·rw[if_pos q];exact lO (by exact af h1 h2) a1 (λ i hi=>a2 i (by exact af q hi))
  ·rw[if_neg q]
   have b1:l≤(l+r) / 2:=by exact f!"2ac>1ab+1.+c2:2.+<1a1.+b<3" (fZ q) (dA _ (nb rfl:1≤2))
   have b2:(l+r) / 2<r:=by exact f!"2c1.+b>1c2:ab+<1a1.+b<3" (fZ q) (be _ 2)
   generalize (l+r) / 2=c at*
   refine⟨⟨h.lt hk,h.lt (by exact iN b2 (aj h2 hk))⟩,?_⟩
   cases e:lt (p.getD k 0) (p.getD c 0) with
   |true=>
    refine vD o h hk a f l c b1 (by exact bF (ag b2 h2)) (by exact f!"1eb>1ef+c<1daf+<1c1.+d<1ab1.+<6" h3 b2 (sA _ _) (V (ai b1))) a1 λ i hi hi2=>?_
    by_cases z:i=c
    ·rw[z];exact e
    ·have:=x8.far o a (i-c-1) c (by omega+splitNatSub)
     rw[show c+(i-c-1)+1=i by omega] at this
     exact o.tr _ _ _ e this
   |false=>
    have e':=(o.tot _ _ (h.lt (i:=c) (by exact iN b2 (aj h2 hk))) (h.lt hk) (h.inj (by exact iN b2 (aj h2 hk)) hk (by exact dE (ag b2 h2)))).resolve_right (by rw[e];simp)
    refine vD o h hk a f (c+1) r (by exact fy b2) h2 (by exact f!"1eb>1ed1.++f<1fac+<1cd<1ab1.+<6" h3 b1 (sA _ _) (V (ai (f!"1a1.+b>1a1.+b<2" b2)))) (λ i hi=>?_) a2
    by_cases z:i=c
    ·rw[z];exact e'
    ·have:=x8.far o a (c-i-1) i (by omega)
     rw[show i+(c-i-1)+1=c by omega] at this
     exact o.tr _ _ _ this e'
theorem PM.rev (h:PM n p) (i j:Nat):PM n (kas_rev p i j):=(mirror_perm _ _ _ _).trans h
theorem PM.bub (h:PM n p) (i j:Nat):PM n (bubble p i j):=(bubble_perm _ _ _).trans h
theorem sB (q:Array Nat) (k:Nat):q.getD k 0=(q[k]?).getD 0:=by simp[Array.getD];split<;>simp_all
theorem Fp (h:PM n p) {m k:Nat} (hm:m≤n) (hk:k<m):(kas_rev p 0 m).getD k 0=p.getD (m-1-k) 0:=by
 have hs:=h.size
 have:=getElem?_mirror_all (xs:=p) (i:=0) (j:=m) (by exact af hm (V hs.symm)) k
 rw[sB,sB]
 unfold kas_rev
 rw[this]
 simp[hk]
theorem KT.rev (h:PM n p) {m:Nat} (hm:m≤n) (d:KT lt p m):x8 lt (kas_rev p 0 m) m:=λ i hi=>by
 rw[Fp h hm (by with_unfolding_all exact f!"1a1.+b>1a2.+b<2" hi),Fp h hm hi]
 have:=d (m-1-(i+1)) (by exact f!"1b1.+1.+a>1d1.+a<1bc1.++d<4" (V (ai (f!"1a1.+c>1bc1.+<1a2.+b<3" hi (sA _ _)))) (V (ai (f!"1 1.b>1a2.+b<2" hi))))
 rwa [show m-1-(i+1)+1=m-1-i by exact jm (f!"1b1.+a>1bd1.++c<1cad+<4" (sA _ _) (V (ai (f!"1a1.+c>1bc1.+<1a2.+b<3" hi (sA _ _)))))<|f!"1ba1.+>1bd+c<1cad1.++<4" (sA _ _) (V (ai (f!"1ac>1bc1.+<1a2.+b<3" hi (sA _ _))))] at this
theorem G6 (o:STO n lt) (h:PM n p) {m:Nat} (h1:1≤m) (hm:m≤n) (d:KT lt p m):KV n lt (λ r=>1≤r.1∧r.1≤n∧PM n r.2∧x8 lt r.2 r.1) (kas_tail3 m n p):=by
 refine KV.bind (KV.mono (λ r q=>?_) (B2 o (h.rev 0 m) (n-m) m h1 (by exact jm (f!"1bc+a>1cb+a<3" (V (ai hm)))<|f!"1cab+>1cba+<3" (sA _ _)) (d.rev h hm)))
 exact lv (by exact f!"1 1.b>1ab<1 1.a<2" h1 q.1:1≤r) q.2.1 (h.rev 0 m) q.2.2.1
theorem Gl (o:STO n lt) (h:PM n p) (hn:2≤n):KV n lt (λ r=>1≤r.1∧r.1≤n∧PM n r.2∧x8 lt r.2 r.1) (kas_count n p):=by
 refine KV.bind (KV.mono (λ m q=>?_) (B2 o h (n-1) 1 (bz _) (by exact jm (f!"1 1.b+a>1b1.+a<2" (V (ai (f!"1 1.a>1 2.a<1" hn))))<|f!"1b1.a+>1ba1.+<2" (sA _ _)) λ i hi=>by omega))
 refine oW q λ q1 q2 q3 q4=>?_;clear q
 by_cases e:m=n
 ·rw[if_pos (by simp[e])];exact lv q1 q2 h q3
 ·rw[if_neg (by simp[e])]
  by_cases e1:m>1
  ·rw[if_pos e1]
   refine⟨⟨h.lt (by exact ag (nb rfl) hn),h.lt (by exact f!"1c1.+b>1c1.+a<1ab<3" q2 (V (ai q1)))⟩,?_⟩
   have:=x8.far o q3 (m-2) 0 (by exact f!"1 0.b+1.+1.+a>1b2.+a<2" (V (ai (f!"1 2.a>1 2.a<1" e1))))
   rw[show 0+(m-2)+1=m-1 by with_unfolding_all exact jm (f!"1 0.b+1.+a>1b2.+c<1ca1.+<3" (sA _ _) (V (ai (f!"1 2.a>1 2.a<1" e1))))<|f!"1b0.a+1.+>1b1.+c<1ca2.+<3" (sA _ _) (V (ai (f!"1 1.a>1 2.a<1" e1)))] at this
   rw[this]
   exact lv q1 q2 h q3
  ·rw[if_neg e1]
   have e2:m=1:=by exact gE (aG e1) q1
   subst e2
   have c:=q4 (by exact ag (nb rfl) hn)
   refine KV.bind (KV.mono (λ r q=>?_) (Gj o h (n-2) 2 (by exact jo _) (by exact jm (f!"1 2.b+a>1b2.+a<2" (V (ai hn)))<|f!"1b2.a+>1ba2.+<2" (sA _ _)) λ i hi=>?_))
   ·refine vN q λ a1 a2 a3 a4 a5=>?_;clear q
    rw[if_neg (by rw[a2];omega),a1]
    exact G6 o h (by exact bF (ag (nb rfl) a3)) a4 a5
   ·have:i=0:=by exact jm (f!"1a0.>1a2.+2.<1" hi) f!"1 0.a>1"
    subst this;exact c
theorem Gv (o:STO n lt):∀f (p:Array Nat) k,PM n p→k+f=n→x8 lt p k→KV n lt (λ q=>PM n q∧x8 lt q n) (kas_bin f p k)
 |0,p,k,h,e,a=>⟨h,by rw[show n=k by with_unfolding_all exact jm (f!"1ab>1ab0.+<2" (V e.symm))<|f!"1ab>1a0.+b<2" (V e)];exact a⟩
 |f+1,p,k,h,e,a=>by
  refine KV.bind (KV.mono (λ l q=>?_) (vD o h (by exact f!"1a1.+c>1ab1.++c<3" (V e):k<n) a k 0 k (et _) (bz _) (by exact eS _ _) (λ i hi=>by omega) λ i hi hi2=>by omega))
  refine iH q λ q1 q2 q3=>?_;clear q
  refine Gv o f _ (k+1) (h.bub _ _) (by exact jm (f!"1a1.+b+c>1ab1.++c<3" (V e))<|f!"1ab1.+c+>1abc1.++<3" (V e.symm)) λ i hi=>?_
  have hs:=h.size
  have g:∀j,(bubble p k (k-l)).getD j 0=if j=l then p.getD k 0 else if l<j∧j≤k then p.getD (j-1) 0 else p.getD j 0:=λ j=>by
   rw[sB,getElem?_bubble (by with_unfolding_all exact f!"1a1.+d>1cd<1ab1.++c<4" (V e) (V hs.symm)) _ (by exact eS _ _),show k-(k-l)=l by with_unfolding_all exact jm (f!"1ba>1bd+c<1cda+<4" (sA _ _) (V (ai (f!"1ab>1ab<2" (eS _ _)))))<|f!"1ba>1db+c<1cad+<4" (sA _ _) (V (ai (f!"1ab>1ab<2" q1)))]
   split
   ·rw[sB]
   ·split<;>rw[sB]
  rw[g i,g (i+1)]
  by_cases z1:i+1=l
  ·rw[if_neg (by with_unfolding_all exact λ z=>f!"z1ba<1a1.+b<2" (V z1) (V z.symm)),if_neg (by with_unfolding_all exact λ z=>f!"z1b1.+a<1a1.+b<2" (V z1) z.1),if_pos z1];exact q2 i (by exact f!"1a1.+b>1a1.+b<2" (V z1))
  ·by_cases z2:i=l
   ·rw[if_pos z2,if_neg (by with_unfolding_all exact λ z=>f!"z1b1.+a<1ab<2" (V z2.symm) (V z)),if_pos (by omega)];exact q3 _ (by exact f!"1ac>1b1.+c1.+<1ab<3" (V z2.symm) (sA _ _)) (by exact f!"1c1.+b>1c1.+a1.+<1a2.+b1.+<3" hi (V (ai (nb rfl))))
   ·by_cases z3:i<l
    ·rw[if_neg z2,if_neg (by with_unfolding_all exact λ z=>f!"z1b1.+a<1a1.+b<2" z3 z.1),if_neg z1,if_neg (by with_unfolding_all exact λ z=>f!"z1b1.+a1.+<1a1.+b<2" z3 z.1)];exact a i (by omega)
    ·rw[if_neg z2,if_pos (by omega),if_neg z1,if_pos (by omega)]
     have:=a (i-1) (by omega)
     rwa [show i-1+1=i by omega] at this
theorem G9 (o:STO n lt) (hn:2≤n):KV n lt (λ q=>PM n q∧x8 lt q n) (kas_sort n):=by
 refine KV.bind (KV.mono (λ r q=>?_) (Gl o (Array.Perm.refl _) hn))
 refine oW q λ q1 q2 q3 q4=>?_;clear q
 by_cases e:r.1<n
 ·rw[if_pos e]
  rw[show max r.1 1=r.1 by omega]
  exact Gv o _ _ _ q3 (by exact jm (f!"1bc+a>1cb+a<3" (V (ai q2)))<|f!"1cab+>1cba+<3" (sA _ _)) q4
 ·rw[if_neg e]
  exact dF q3 (by rw[show n=r.1 by exact gE (aG e) q2];exact q4)
end
inductive PrsAt (h:Heap):List Value→List (Int×Int)→Prop
 |nil:PrsAt h [] []
 |cons {a:Addr} {i j:Int} {t u:Tok} {n:Nat} {vs:List Value} {ps:List (Int×Int)} (ho:h.get? a=some (seqObj "tuple" #[.int i t,.int j u] n)) (r:PrsAt h vs ps):PrsAt h (.ref a::vs) ((i,j)::ps)
theorem PrsAt.mono {h h':Heap} (k:∀a n xs,h.get? a=some (seqObj "tuple" xs n)→h'.get? a=some (seqObj "tuple" xs n)) {vs:List Value} {ps:List (Int×Int)} (x:PrsAt h vs ps):PrsAt h' vs ps:=by
 induction x with
 |nil=>exact .nil
 |cons ho r ih=>exact .cons (k _ _ _ ho) ih
theorem PrsAt.length {h:Heap} {vs:List Value} {ps:List (Int×Int)} (x:PrsAt h vs ps):vs.length=ps.length:=by
 induction x with
 |nil=>rfl
 |cons _ _ ih=>exact congrArg (·+1) ih
theorem PrsAt.at {h:Heap} {vs:List Value} {ps:List (Int×Int)} (q:PrsAt h vs ps):∀{i:Nat},i<ps.length→∃a x y t u n,vs.getD i Value.none= .ref a∧ps.getD i (0,0)=(x,y)∧h.get? a=some (seqObj "tuple" #[.int x t,.int y u] n):=by
 induction q with
 |nil=>exact λ hi=>absurd hi (Nat.not_lt_zero _)
 |cons ho r ih=>
  intro i hi
  cases i with
  |zero=>exact⟨_,_,_,_,_,_,rfl,rfl,ho⟩
  |succ i=>exact ih (m4 hi)
theorem PrsAt.firsts (h:Heap) {vs:List Value} {ps:List (Int×Int)} (q:PrsAt h vs ps):∃fs:List Value,fs.length=vs.length∧KatTups h vs fs∧∀v∈fs,∃i t,v= .int i t:=by
 induction q with
 |nil=>exact⟨[],rfl,trivial,nofun⟩
 |cons ho r ih=>
  refine dU ih λ fs e1 e2 e3=>?_
  refine⟨.int _ _::fs,congrArg (·+1) e1,KatTups.cons ho rfl rfl rfl e2,λ v hv=>?_⟩
  rcases bo.mp hv with rfl|hv
  ·exact En _ _ rfl
  ·exact e3 v hv
noncomputable def EU (p q:Int×Int):Bool:=decide (p.1<q.1)|| (decide (p.1=q.1)&&decide (p.2<q.2))
section
variable{prog:Program} {w:World} {A:Around} {E:Value→Shared→Prop} {s:Shared}
theorem HM {vs:List Value} {ps:List (Int×Int)} {h:Heap} (hp:PrsAt h vs ps) (i j:Nat) (C:Bool→Shared→Prop) (hi:i<ps.length) (hj:j<ps.length) (hh:s.heap=h) (q:C (EU (ps.getD i (0,0)) (ps.getD j (0,0))) s):
  kas_ask prog w A (tuples' true) vs i j C s:=by
 refine mS (hp.at hi) λ a x y t u y=>?_;refine dU y λ n e1 e2 e3=>?_;clear y
 refine mS (hp.at hj) λ b x' y' t' u' y=>?_;refine dU y λ n' f1 f2 f3=>?_;clear y
 unfold kas_ask
 rw[e1,f1]
 rw[e2,f2] at q
 rw[←hh] at e3 f3
 refine kat_lt e3 rfl f3 rfl ?_
 show KatLex prog w A true (decide (2<2)) C [(.int x t,.int x' t'),(.int y u,.int y' u')] 0 s
 refine kat_cons (wpAny_eqBool_int ?_)
 unfold EU at q
 dsimp only at q
 by_cases z:x=x'
 ·rw[show(x==x')=true by simpa using z]
  refine kat_yes (kat_cons (wpAny_eqBool_int ?_))
  rw[show decide (x<x')=false by simp;exact Int.le_of_eq z.symm,show decide (x=x')=true by simpa using z,Bool.false_or,Bool.true_and] at q
  by_cases z2:y=y'
  ·rw[show(y==y')=true by simpa using z2]
   refine kat_yes (kat_nil ?_)
   rw[show decide (y<y')=false by simp;exact Int.le_of_eq z2.symm] at q
   exact q
  ·rw[show(y==y')=false by simpa using z2]
   refine kat_no ?_
   show wpAny _ _ (oneLt' false _ _) _ _ _
   exact kat_one _ _ (PyProof.Rows.lt_int q)
 ·rw[show(x==x')=false by simpa using z]
  refine kat_no ?_
  show wpAny _ _ (oneLt' true _ _) _ _ _
  rw[show decide (x=x')=false by simpa using z,Bool.false_and,Bool.or_false] at q
  exact oneLt_int q
end
theorem Cj {ps:List (Int×Int)} (nd:ps.Nodup):STO ps.length λ i j=>EU (ps.getD i (0,0)) (ps.getD j (0,0)) where
 asym i j h:=by unfold EU at*;simp at*;omega
 tr i j k h1 h2:=by unfold EU at*;simp at*;omega
 tot i j hi hj ne:=by
  have:ps.getD i (0,0)≠ps.getD j (0,0):=by
   rw[aM,aM,aq hi,aq hj]
   intro z
   exact ne ((List.getElem_inj nd).mp z)
  generalize ps.getD i (0,0)=p at*
  generalize ps.getD j (0,0)=q at*
  have:¬(p.1=q.1∧p.2=q.2):=λ z=>this (Prod.ext z.1 z.2)
  unfold EU
  simp
  omega
section
variable{prog:Program} {w:World} {A:Around} {E:Value→Shared→Prop} {s:Shared}
theorem wO {a:Addr} {vs:List Value} {ps:List (Int×Int)} {n:Nat} {P:Fin→Shared→Prop} (ho:s.heap.get? a=some (seqObj "list" vs.toArray n)) (hp:PrsAt s.heap vs ps) (nd:ps.Nodup) (h64:vs.length<64)
  (h:∀p:Array Nat,PM vs.length p→x8 (λ i j=>EU (ps.getD i (0,0)) (ps.getD j (0,0))) p vs.length→P (.done (.ret .none)) {s with heap:=sortedHeap s.heap a vs (List.toArray (p.toList.map λ i=>vs.getD i Value.none))}):
  wpAny (model prog w) A (Builtin.«list.sort» ⟨[.ref a],[]⟩) P E s:=by
 rw[list_sort_plain]
 have ha:a<s.heap.objs.size:=cB ho
 refine al (listItems_at ho rfl ?_)
 refine al (listUpdate_at ho rfl ?_ (by rw[bn,sizeLine_eq];exact bF (ag h64 (nb rfl))) (et _))
 obtain⟨e1,ho1⟩:∃e1,(s.heap.update a (Obj.mapSeq λ _=>(#[]:Array Value))).get? a=some (seqObj "list" #[] e1):=⟨_,get?_update_seq ho (λ _=>#[])⟩
 refine al (seqEpoch_at ho1 rfl ?_)
 refine al (wpAny_newTuple ?_ (by show vs.length≤_;rw[sizeLine_eq];exact bF (ag h64 (nb rfl))))
 refine al (wpAny_newList ?_ (et _))
 refine cA ?_
 have keep:∀b x,b≠a→s.heap.get? b=some x→(((s.heap.update a (Obj.mapSeq λ _=>(#[]:Array Value))).push (seqObj "tuple" vs.toArray 0)).push (seqObj "list" #[] 0)).get? b=some x:=λ b x hb e=>
  bB _ (bB _ (by rw[Heap.get?_update_ne _ _ _ _ hb];exact e))
 have ho6:(((s.heap.update a (Obj.mapSeq λ _=>(#[]:Array Value))).push (seqObj "tuple" vs.toArray 0)).push (seqObj "list" #[] 0)).get? a=some (seqObj "list" #[] e1):=bB _ (bB _ ho1)
 have hp6:PrsAt (((s.heap.update a (Obj.mapSeq λ _=>(#[]:Array Value))).push (seqObj "tuple" vs.toArray 0)).push (seqObj "list" #[] 0)) vs ps:=hp.mono λ b n xs e=>keep b _ (λ z=>by subst z;exact absurd (Value.type.inj (congrArg Obj.cls (bQ (ho.symm.trans e)))) ⋯) e
 show wpAny (model prog w) A _ P E {s with heap:=((s.heap.update a (Obj.mapSeq λ _=>(#[]:Array Value))).push (seqObj "tuple" vs.toArray 0)).push (seqObj "list" #[] 0)}
 dsimp only
 have hsz:vs.toArray.size=vs.length:=by simp
 by_cases h2:vs.toArray.size<2
 ·rw[if_pos h2,if_pos h2]
  refine al (aO ?_)
  rw[StateT.run_pure]
  refine al (aO ?_)
  dsimp only
  refine al (seqEpoch_at ho6 rfl ?_)
  refine al (listUpdate_at ho6 rfl ?_ (et _) (by rw[Array.size_map];show(pairsOf vs).size≤_;rw[pairsOf_size,sizeLine_eq];exact f!"1a16777216.1.+>1a1.+64.<1" h64))
  simp only[bne_self_eq_false,mu,m3]
  have hq:=h (List.range vs.length).toArray (Array.Perm.refl _) (λ i hi=>by omega)
  have e:(List.range vs.length).map (λ i=>vs.getD i Value.none)=vs:=by
   apply hU
   ·simp
   ·intro i h1 h2
    simp at h1
    simp[h1]
  rw[show(List.range vs.length).toArray.toList=List.range vs.length from rfl,e] at hq
  refine aO ?_
  have e2:(arrOf (SortSt.mk' general' (vs.toArray.zip vs.toArray) #[] 7 none)).map (·.2)=vs.toArray:=by
   show(vs.toArray.zip vs.toArray).map (·.2)=vs.toArray
   apply Array.toList_inj.mp
   simp[List.map_snd_zip]
  rw[e2]
  exact hq
 ·rw[if_neg h2,if_neg h2]
  rw[hsz] at h2
  refine dU hp6.firsts λ fs f1 f2 f3=>?_
  refine al (kat_kind (s:={s with heap:=((s.heap.update a (Obj.mapSeq λ _=>(#[]:Array Value))).push (seqObj "tuple" vs.toArray 0)).push (seqObj "list" #[] 0)}) (T:=Value.type "int") f2 (by exact ag (ag (nb rfl) (aG h2)) (V f1.symm)) (λ v hv=>by refine uu (f3 v hv) λ i t uu0=>?_;subst uu0;exact Looks.of_pure rfl) rfl ?_)
  have hl:vs.length=ps.length:=hp.length
  refine al (aV (kat_run (κ:=tuples' true) (ks:=vs) (vs:=vs) (Q:=λ st' s'=>∃p:Array Nat,PM vs.length p∧x8 (λ i j=>EU (ps.getD i (0,0)) (ps.getD j (0,0))) p vs.length∧arrOf st'=p.map (kas_item (vs.toArray.zip vs.toArray))∧failedOf st'=none∧
    s'={s with heap:=((s.heap.update a (Obj.mapSeq λ _=>(#[]:Array Value))).push (seqObj "tuple" vs.toArray 0)).push (seqObj "list" #[] 0)})
   (G:=λ p s'=>PM vs.length p∧x8 (λ i j=>EU (ps.getD i (0,0)) (ps.getD j (0,0))) p vs.length∧
    s'={s with heap:=((s.heap.update a (Obj.mapSeq λ _=>(#[]:Array Value))).push (seqObj "tuple" vs.toArray 0)).push (seqObj "list" #[] 0)})
   rfl (by exact aG h2) h64 (λ p st' s' a1 a2 a3 a4=>⟨p,a4.1,a4.2.1,a2,a3,a4.2.2⟩)
   (KV.wp (lt:=λ i j=>EU (ps.getD i (0,0)) (ps.getD j (0,0))) (λ i j C hi hj q=>HM hp6 i j C (by exact ag hi (V hl)) (by exact ag hj (V hl)) rfl q) (λ p q=>⟨q.1,q.2,rfl⟩) (G9 (by rw[hl];exact Cj nd) (by exact aG h2)))) ?_ λ _ _ e=>e)
  intro ww0 s' ww1;obtain⟨⟨⟩,st'⟩:=ww0;refine CP ww1 λ p hp1 hp2 har hf uu0=>?_;clear ww1;subst uu0
  dsimp only
  have hout:=kat_snds (ks:=vs) (vs:=vs) rfl har
  have hsz2:(List.toArray (p.toList.map λ i=>vs.getD i Value.none)).size=vs.length:=by rw[bn,ac,gM];exact hp1.size
  rw[hout]
  refine al (seqEpoch_at ho6 rfl ?_)
  refine al (listUpdate_at ho6 rfl ?_ (et _) (af (V hsz2) (by rw[sizeLine_eq];exact f!"1a16777216.1.+>1a1.+64.<1" h64)))
  rw[hf]
  simp only[bne_self_eq_false,mu,m3]
  exact aO (h p hp1 hp2)
theorem Bl {l:Addr} {vs:List Value} {ps:List (Int×Int)} {Q:Value→Shared→Prop} (hl:s.heap.IsList l vs.toArray) (hp:PrsAt s.heap vs ps) (nd:ps.Nodup) (h64:vs.length<64)
  (h:∀p:Array Nat,PM vs.length p→x8 (λ i j=>EU (ps.getD i (0,0)) (ps.getD j (0,0))) p vs.length→Q (.ref (s.heap.objs.size+1)) {s with heap:=sortedAll s.heap vs (List.toArray (p.toList.map λ i=>vs.getD i Value.none))}):
  wpAny (model prog w) A (call (.builtin "sorted") [.ref l]) Q E s:=by
 refine Calls.call_function_entry kind_sorted plain_sorted entry_sorted (args_sorted1 _) ?_
 unfold Builtin.«sorted»
 refine al (m:=checkCount "sorted" 1 1 _) (aO ?_)
 refine al (collect_list hl ?_ (by rw[sizeLine_eq];exact bF (ag h64 (nb rfl))))
 refine al (wpAny_newList ?_ (by rw[sizeLine_eq];exact bF (ag h64 (nb rfl))))
 have hsz:((s.heap.push (seqObj "list" #[] 0)).update s.heap.objs.size (Obj.mapSeq (·++vs.toArray))).objs.size=s.heap.objs.size+1:=by
  rw[Heap.size_update,size_push']
 have hoL:(((s.heap.push (seqObj "list" #[] 0)).update s.heap.objs.size (Obj.mapSeq (·++vs.toArray))).push (seqObj "list" vs.toArray 0)).get? (s.heap.objs.size+1)=some (seqObj "list" vs.toArray 0):=by
  rw[←hsz];exact gL _ rfl
 have hp':PrsAt (((s.heap.push (seqObj "list" #[] 0)).update s.heap.objs.size (Obj.mapSeq (·++vs.toArray))).push (seqObj "list" vs.toArray 0)) vs ps:=hp.mono λ b n xs e=>by
  have hlt:=cB e
  refine bB _ ?_
  rw[Heap.get?_update_ne _ _ _ _ (dE hlt)]
  exact bB _ e
 show wpAny _ _ _ _ _ {s with heap:=((s.heap.push (seqObj "list" #[] 0)).update s.heap.objs.size (Obj.mapSeq (·++vs.toArray))).push (seqObj "list" vs.toArray 0)}
 rw[hsz]
 refine al (cA (wpAny_call_entry slot_list_sort ⟨_,hoL,rfl⟩ entry_list_sort (wO hoL hp' nd h64 λ p a1 a2=>⟨_,rfl,?_⟩) (args_list_sort _)))
 exact aO ⟨_,rfl,h p a1 a2⟩
end
theorem IA {C:Cx} {h:List AO} {φ:List Addr} {Λ:bj} {s:Shared} (R:RepH C h φ Λ s) {l:List AV} {vs:List Value} {ps:List (Int×Int)} (hh:VRs φ Λ l vs):vC l=some ps→PrsAt s.heap vs ps∧l=ps.map Bf:=
 hh.ind (P:=λ l vs=>∀ps,vC l=some ps→PrsAt s.heap vs ps∧l=ps.map Bf) (λ ps e=>sk e λ e=>e▸⟨.nil,rfl⟩) (λ{a v l vs} h r ih ps e=>by
  have e:(match Hd a with|some p=>(vC l).map (p::·)|none=>none)=some ps:=e
  injections rp e p hp
  refine bM (cH.mp e) λ ms e1 uu0=>?_;subst uu0;clear e
  refine dL (ih ms e1) λ h1 uu0=>?_;clear ih e1;subst uu0
  have ea:=Ec hp
  clear hp;subst ea
  refine VR.etup h λ ad us Lr hr=>?_;clear h
  revert Lr
  refine VRs.econs hr λ v1 r1 x1 hr=>?_
  refine VRs.econs hr λ v2 r2 x2 hr=>?_
  refine VRs.enil hr ?_
  refine VR.eint x1 λ t=>?_
  refine VR.eint x2 λ u Lr=>?_
  exact dF (.cons (R.core.here _ _ _ Lr).1 h1) rfl) ps
theorem FD {l l':List (Int×Int)} (hp:l'.Perm l) (hs:l'.Pairwise λ a b=>EV a b=true):l'=jc EV l:=
 xl (λ a b=>by unfold EV;simp;omega) (λ a b c h1 h2=>by unfold EV at*;simp at*;omega)
  (λ a b h1 h2=>by unfold EV at*;simp at*;exact Prod.ext (by omega) (by omega)) hp hs
theorem E3 {φ:List Addr} {Λ:bj} {l:List AV} {vs:List Value} (h:VRs φ Λ l vs) {i:Nat}:i<l.length→VR φ Λ (l.getD i .none) (vs.getD i Value.none):=
 h.ind (P:=λ l vs=>∀i,i<l.length→VR φ Λ (l.getD i .none) (vs.getD i Value.none)) (λ i hi=>absurd hi (Nat.not_lt_zero _))
  (λ h _ ih i hi=>match i with
   |0=>h
   |i+1=>ih i (m4 hi)) i
theorem zK {φ:List Addr} {Λ:bj} {l:List AV} {vs:List Value} (h:VRs φ Λ l vs):∀{is:List Nat},(∀i∈is,i<l.length)→VRs φ Λ (is.map λ i=>l.getD i .none) (is.map λ i=>vs.getD i Value.none)
 | [],_=>.nil
 |i::is,q=>.cons (E3 h (q i (bA ..))) (zK h λ j hj=>q j (bI _ hj))
theorem w4 {C:Cx} {k:Nat} {stor:Nat→Stor} {A:Around} (rm:Rm A k) {σ bc:St} {n:Nat} {ps:List (Int×Int)} {av:AV} {φ:List Addr} {Λ:bj} {s:Shared} {vs:List Value} (R:RepS C stor σ φ Λ s) (hv:VRs φ Λ [.ref n] vs)
  (hg:(getL σ.h n).bind vC=some ps) (hl:ps.length<64) (nd:ps.Nodup) (h:gH ((jc EV ps).map Bf) σ=some (av,bc)):
  wpAny C.M A (call (.builtin "sorted") vs) (fQ C stor φ Λ av bc) (λ _ _=>False) s:=by
 refine bM (cU.mp hg) λ ws hw hi=>?_
 unfold gH at h
 injections lY h hf
 cases h
 cases hv with
 |cons ha hr=>
  cases hr
  refine bM (RepH.ref ha) λ ad uu0 had=>?_;subst uu0
  refine bM (fM R.toRepH hw had) λ rvs hls hvs=>?_
  refine dL (IA R.toRepH hvs hi) λ hp uu0=>?_;subst uu0
  have hlen:rvs.length=ps.length:=hp.length
  refine Bl hls hp nd (by exact aj (V hlen) hl) λ p h1 h2=>?_
  refine gX (sortedAll_at s.heap rvs (List.toArray (p.toList.map λ i=>rvs.getD i Value.none))) λ e he=>?_
  have hmem:∀i∈p.toList,i<ps.length:=λ i hi=>by
   have:i∈(List.range rvs.length).toArray:=h1.mem_iff.mp (Array.mem_toList_iff.mp hi)
   simp at this;exact ag this (V hlen)
  have hs:(p.toList.map λ i=>ps.getD i (0,0))=jc EV ps:=by
   refine FD ?_ ?_
   ·have e1:(p.toList.map λ i=>ps.getD i (0,0)).Perm ((List.range ps.length).map λ i=>ps.getD i (0,0)):=by
     rw[←hlen]
     exact(Array.Perm.toList h1).map _
    refine e1.trans (List.Perm.of_eq ?_)
    apply hU
    ·simp
    ·intro i h1 h2
     simp at h1
     simp[h1]
   ·have hsz:p.size=rvs.length:=h1.size
    rw[List.pairwise_map]
    refine lF.mpr λ i j hi hj hij=>?_
    rw[gM] at hi hj
    have far:=x8.far (Cj nd) h2 (j-i-1) i (by exact f!"1de+1.+1.+b>1fd+c<1e1.+f<1c1.+a<1ab<6" (V hsz) hj (V (ai (f!"1 1.c>1bca+<1a1.+b<3" hij (sA _ _)))) (V (ai (f!"1ab>1a1.+b<2" hij))))
    rw[show i+(j-i-1)+1=j by with_unfolding_all exact jm (f!"1bc+1.+a>1db+a<1c1.+d<4" (V (ai (f!"1 1.c>1bca+<1a1.+b<3" hij (sA _ _)))) (V (ai (f!"1ab>1a1.+b<2" hij))))<|f!"1cab+1.+>1cda+<1db1.+<4" (sA _ _) (sA _ _)] at far
    have ei:p.getD i 0=p.toList[i]:=by simp[Array.getD,hi]
    have ej:p.getD j 0=p.toList[j]:=by simp[Array.getD,hj]
    rw[ei,ej] at far
    generalize ps.getD p.toList[i] (0,0)=x at*
    generalize ps.getD p.toList[j] (0,0)=y at*
    unfold EU at far
    unfold EV
    simp at*
    omega
  have hv':=zK hvs (is:=p.toList) λ i hi=>by rw[ac];exact hmem i hi
  have ev:(p.toList.map λ i=>(ps.map Bf).getD i AV.none)=(jc EV ps).map Bf:=by
   rw[←hs,bY]
   refine bJ λ i hi=>?_
   have:=hmem i hi
   simp[this]
  rw[ev] at hv'
  exact s8 (tk:=s.toks) R (λ b o q=>sortedAll_old q) (jo _) he hv'
theorem qy {C:Cx} {k:Nat} {stor:Nat→Stor}:CB C k stor (.builtin "sorted") qQ:=by
 intro A rm σ l av bc h φ Λ s vs R hv
 unfold qQ at h
 injections IK h n e;subst e
 set_option smartUnfolding false in refine KU h (λ ns hg h=>?_) λ _ h=>?_
 ·injections lY h q
  exact wd rm R hv hg q h
 ·injections rp h ps hg
  injections lY h q
  exact w4 rm R hv hg q.1 q.2 h
noncomputable def uz:EM AF:=
 (bm (ae (ae (ae (ret (.int 3)) λ a=>ae (rd 0) λ b=>ae (b6 .LtE a b) λ c=>ae (tr c) λ t=>if t then ae (ret (.int 258)) λ d=>ae (b6 .LtE b d) tr else ret false) λ b=>ret (!b)) λ t=>if t then sE else(ret .next)) (bm (ae (ae (rd 0) λ a=>ae (ret (.int 258)) λ b=>ae (b6 .Eq a b) tr) λ t=>if t then(ae (ae (bN [(ret (.int 285)),(ret (.int 0)),(ret (.int 0))]) mm) λ v=>ret (.ret v)) else(ret .next)) (bm (ae (ae (rd 0) λ a=>ae (ret (.int 3)) λ b=>bX .Sub a b) λ v=>ae (wr 1 v) λ _=>ret .next) (bm (ae (ae (rd 1) λ a=>ae (ret (.int 8)) λ b=>ae (b6 .Lt a b) tr) λ t=>if t then(ae (ae (bN [(ae (ret (.int 257)) λ a=>ae (rd 1) λ b=>bX .Add a b),(ret (.int 0)),(ret (.int 0))]) mm) λ v=>ret (.ret v)) else(ret .next)) (bm (ae (ae (ae (rd 1) λ v=>mH "int" sK v []) λ a=>ae (ret (.int 3)) λ b=>bX .Sub a b) λ v=>ae (wr 2 v) λ _=>ret .next) (bm (ae (ae (ae (ret (.int 257)) λ a=>ae (ae (ret (.int 4)) λ a=>ae (ae (rd 2) λ a=>ae (ret (.int 1)) λ b=>bX .Add a b) λ b=>bX .Mult a b) λ b=>bX .Add a b) λ a=>ae (ae (ae (rd 1) λ a=>ae (rd 2) λ b=>bX .RShift a b) λ a=>ae (ret (.int 3)) λ b=>bX .BitAnd a b) λ b=>bX .Add a b) λ v=>ae (wr 3 v) λ _=>ret .next) (ae (ae (bN [(rd 3),(rd 2),(ae (rd 1) λ a=>ae (ae (ae (ret (.int 1)) λ a=>ae (rd 2) λ b=>bX .LShift a b) λ a=>ae (ret (.int 1)) λ b=>bX .Sub a b) λ b=>bX .BitAnd a b)]) mm) λ v=>ret (.ret v))))))))
noncomputable def ix:fR:=dS 4 1 uz
theorem kB {C:Cx} (Y:KX C):b7 C 1 66 ix:=by
 have h1:(K0 C.w.params).lookup 66=some ⟨_,_,.func _,_⟩:=rfl
 have O:=bO Y.hK h1 ∅ (body:=_) rfl (params:=[(Str.ofString "length")]) (names:=[(Str.ofString "length"),(Str.ofString "number"),(Str.ofString "extra"),(Str.ofString "symbol")]) ∅ (i5 (by rfl) λ a=>by kernel_rfl)
 exact bZ Y.ok O 0 λ L=>(an (c7 (ff (dc (iB Y (AG C.w.params) ∅ ∅ ∅ ∅ ∅) (aa nL _) (iB Y (C5 C.w.params) ∅ ∅ ∅ ∅ ∅) eV eV)) (li _) cP) (an (c7 (ax (aa nL _) (iB Y (C5 C.w.params) ∅ ∅ ∅ ∅ ∅) dT) (aw (aQ (bV (.cons (iB Y (vZ C.w.params) ∅ ∅ ∅ ∅ ∅) (.cons (ak _ _ _) (.cons (ak _ _ _) .nil)))))) cP) (an (aS nL (aE (aa nL _) (iB Y (AG C.w.params) ∅ ∅ ∅ ∅ ∅) (ap .Sub)) ∅) (an (c7 (ax (aa nL _) (ak _ _ _) cN) (aw (aQ (bV (.cons (aE (iB Y (pc C.w.params) ∅ ∅ ∅ ∅ ∅) (aa nL _) (ap .Add)) (.cons (ak _ _ _) (.cons (ak _ _ _) .nil)))))) cP) (an (aS nL (aE (vp ∅ (aa nL _) .nil) (ak _ _ _) (ap .Sub)) ∅) (an (aS nL (aE (aE (iB Y (pc C.w.params) ∅ ∅ ∅ ∅ ∅) (aE (ak _ _ _) (aE (aa nL _) (ak _ _ _) (ap .Add)) (ap .Mult)) (ap .Add)) (aE (aE (aa nL _) (aa nL _) (ap .RShift)) (ak _ _ _) (ap .BitAnd)) (ap .Add)) ∅) (aw (aQ (bV (.cons (aa nL _) (.cons (aa nL _) (.cons (aE (aa nL _) (aE (aE (ak _ _ _) (aa nL _) (ap .LShift)) (ak _ _ _) (ap .Sub)) (ap .BitAnd)) .nil))))))))))))
noncomputable def sQ:EM AF:=
 (bm (ae (ae (ae (ret (.int 1)) λ a=>ae (rd 0) λ b=>ae (b6 .LtE a b) λ c=>ae (tr c) λ t=>if t then ae (ret (.int 32768)) λ d=>ae (b6 .LtE b d) tr else ret false) λ b=>ret (!b)) λ t=>if t then sE else(ret .next)) (bm (ae (ae (rd 0) λ a=>ae (ret (.int 1)) λ b=>bX .Sub a b) λ v=>ae (wr 1 v) λ _=>ret .next) (bm (ae (ae (rd 1) λ a=>ae (ret (.int 4)) λ b=>ae (b6 .Lt a b) tr) λ t=>if t then(ae (ae (bN [(rd 1),(ret (.int 0)),(ret (.int 0))]) mm) λ v=>ret (.ret v)) else(ret .next)) (bm (ae (ae (ae (rd 1) λ v=>mH "int" sK v []) λ a=>ae (ret (.int 2)) λ b=>bX .Sub a b) λ v=>ae (wr 2 v) λ _=>ret .next) (bm (ae (ae (ae (ret (.int 2)) λ a=>ae (ae (rd 2) λ a=>ae (ret (.int 1)) λ b=>bX .Add a b) λ b=>bX .Mult a b) λ a=>ae (ae (ae (rd 1) λ a=>ae (rd 2) λ b=>bX .RShift a b) λ a=>ae (ret (.int 1)) λ b=>bX .BitAnd a b) λ b=>bX .Add a b) λ v=>ae (wr 3 v) λ _=>ret .next) (ae (ae (bN [(rd 3),(rd 2),(ae (rd 1) λ a=>ae (ae (ae (ret (.int 1)) λ a=>ae (rd 2) λ b=>bX .LShift a b) λ a=>ae (ret (.int 1)) λ b=>bX .Sub a b) λ b=>bX .BitAnd a b)]) mm) λ v=>ret (.ret v)))))))
noncomputable def gD:fR:=dS 4 1 sQ
theorem jy {C:Cx} (Y:KX C):b7 C 1 73 gD:=by
 have h1:(K0 C.w.params).lookup 73=some ⟨_,_,.func _,_⟩:=rfl
 have O:=bO Y.hK h1 ∅ (body:=_) rfl (params:=[(Str.ofString "distance")]) (names:=[(Str.ofString "distance"),(Str.ofString "number"),(Str.ofString "extra"),(Str.ofString "symbol")]) ∅ (i5 (by rfl) λ a=>by kernel_rfl)
 exact bZ Y.ok O 0 λ L=>(an (c7 (ff (dc (ak _ _ _) (aa nL _) (iB Y (AH C.w.params) ∅ ∅ ∅ ∅ ∅) eV eV)) (li _) cP) (an (aS nL (aE (aa nL _) (ak _ _ _) (ap .Sub)) ∅) (an (c7 (ax (aa nL _) (ak _ _ _) cN) (aw (aQ (bV (.cons (aa nL _) (.cons (ak _ _ _) (.cons (ak _ _ _) .nil)))))) cP) (an (aS nL (aE (vp ∅ (aa nL _) .nil) (ak _ _ _) (ap .Sub)) ∅) (an (aS nL (aE (aE (ak _ _ _) (aE (aa nL _) (ak _ _ _) (ap .Add)) (ap .Mult)) (aE (aE (aa nL _) (aa nL _) (ap .RShift)) (ak _ _ _) (ap .BitAnd)) (ap .Add)) ∅) (aw (aQ (bV (.cons (aa nL _) (.cons (aa nL _) (.cons (aE (aa nL _) (aE (aE (ak _ _ _) (aa nL _) (ap .LShift)) (ak _ _ _) (ap .Sub)) (ap .BitAnd)) .nil)))))))))))
noncomputable def qK:EM AF:=
 (bm (ae (ae (ret (.int 0)) λ a=>ae (rd 1) λ b=>ae (b6 .LtE a b) λ c=>ae (tr c) λ t=>if t then ae (ret (.int 144)) λ d=>ae (b6 .Lt b d) tr else ret false) λ t=>if t then(ae (ae (bN [(ae (ret (.int 48)) λ a=>ae (rd 1) λ b=>bX .Add a b),(ret (.int 8))]) mm) λ v=>ret (.ret v)) else(ret .next)) (bm (ae (ae (ret (.int 144)) λ a=>ae (rd 1) λ b=>ae (b6 .LtE a b) λ c=>ae (tr c) λ t=>if t then ae (ret (.int 256)) λ d=>ae (b6 .Lt b d) tr else ret false) λ t=>if t then(ae (ae (bN [(ae (ret (.int 256)) λ a=>ae (rd 1) λ b=>bX .Add a b),(ret (.int 9))]) mm) λ v=>ret (.ret v)) else(ret .next)) (bm (ae (ae (ret (.int 256)) λ a=>ae (rd 1) λ b=>ae (b6 .LtE a b) λ c=>ae (tr c) λ t=>if t then ae (ret (.int 280)) λ d=>ae (b6 .Lt b d) tr else ret false) λ t=>if t then(ae (ae (bN [(ae (rd 1) λ a=>ae (ret (.int 256)) λ b=>bX .Sub a b),(ret (.int 7))]) mm) λ v=>ret (.ret v)) else(ret .next)) (bm (ae (ae (ret (.int 280)) λ a=>ae (rd 1) λ b=>ae (b6 .LtE a b) λ c=>ae (tr c) λ t=>if t then ae (ret (.int 288)) λ d=>ae (b6 .Lt b d) tr else ret false) λ t=>if t then(ae (ae (bN [(ae (rd 1) λ a=>ae (ret (.int 88)) λ b=>bX .Sub a b),(ret (.int 8))]) mm) λ v=>ret (.ret v)) else(ret .next)) (ae (ae (bN [(ret (.int 0)),(ret .none)]) mm) λ v=>ret (.ret v))))))
noncomputable def jl:fR:=dS 2 2 qK
theorem pI {C:Cx} (Y:KX C):b7 C 1 87 jl:=by
 have h1:(K0 C.w.params).lookup 87=some ⟨_,_,.func _,_⟩:=rfl
 have O:=bO Y.hK h1 ∅ (body:=_) rfl (params:=[(Str.ofString "self"),(Str.ofString "symbol")]) (names:=[(Str.ofString "self"),(Str.ofString "symbol")]) ∅ (hH (by rfl) λ a b=>by kernel_rfl)
 exact bZ Y.ok O 0 λ L=>(an (c7 (dc (ak _ _ _) (aa nL _) (ak _ _ _) eV cN) (aw (aQ (bV (.cons (aE (ak _ _ _) (aa nL _) (ap .Add)) (.cons (ak _ _ _) .nil))))) cP) (an (c7 (dc (ak _ _ _) (aa nL _) (ak _ _ _) eV cN) (aw (aQ (bV (.cons (aE (ak _ _ _) (aa nL _) (ap .Add)) (.cons (ak _ _ _) .nil))))) cP) (an (c7 (dc (ak _ _ _) (aa nL _) (ak _ _ _) eV cN) (aw (aQ (bV (.cons (aE (aa nL _) (ak _ _ _) (ap .Sub)) (.cons (ak _ _ _) .nil))))) cP) (an (c7 (dc (ak _ _ _) (aa nL _) (ak _ _ _) eV cN) (aw (aQ (bV (.cons (aE (aa nL _) (ak _ _ _) (ap .Sub)) (.cons (ak _ _ _) .nil))))) cP) (aw (aQ (bV (.cons (ak _ _ _) (.cons (iq _ _) .nil)))))))))
noncomputable def qh:EM AF:=
 (ae (ae (ae (rd 0) λ v=>eY [(111,jl)] v [(rd 1)]) λ o=>ae (ret (.int 1)) λ i=>de o i) λ v=>ret (.ret v))
noncomputable def dl:fR:=dS 2 2 qh
theorem iG {C:Cx} (Y:KX C):b7 C 2 94 dl:=by
 have h1:(K0 C.w.params).lookup 94=some ⟨_,_,.func _,_⟩:=rfl
 have O:=bO Y.hK h1 ∅ (body:=_) rfl (params:=[(Str.ofString "self"),(Str.ofString "symbol")]) (names:=[(Str.ofString "self"),(Str.ofString "symbol")]) ∅ (hH (by rfl) λ a b=>by kernel_rfl)
 exact bZ Y.ok O 0 λ L=>(aw (aQ (bR (e9 Y.ok (Y.notField ∅ ∅) (aY (Y.meOk ∅ ((pI Y).up ⋯)) aP) (aa nL _) (.cons (aa nL _) .nil)) (ak _ _ _))))
noncomputable def pz:EM AF:=
 (ae (ae (ae (ret (.int 0)) λ a=>ae (rd 1) λ b=>ae (b6 .LtE a b) λ c=>ae (tr c) λ t=>if t then ae (ret (.int 32)) λ d=>ae (b6 .Lt b d) tr else ret false) λ t=>if t then(ret (.int 5)) else(ret .none)) λ v=>ret (.ret v))
noncomputable def dh:fR:=dS 2 2 pz
theorem ia {C:Cx} (Y:KX C):b7 C 1 129 dh:=by
 have h1:(K0 C.w.params).lookup 129=some ⟨_,_,.func _,_⟩:=rfl
 have O:=bO Y.hK h1 ∅ (body:=_) rfl (params:=[(Str.ofString "self"),(Str.ofString "symbol")]) (names:=[(Str.ofString "self"),(Str.ofString "symbol")]) ∅ (hH (by rfl) λ a b=>by kernel_rfl)
 exact bZ Y.ok O 0 λ L=>(aw (aQ (jK (dc (ak _ _ _) (aa nL _) (ak _ _ _) eV cN) (ak _ _ _) (iq _ _))))
noncomputable def rK:EM AF:=
 (bm (ae (rd 1) λ v=>ae (rd 0) λ o=>ae (ll [174,417] 0 o v) λ _=>ret .next) (ae (ae (ae (bN [(rd 1)]) vF) λ a=>ae (ret (.int 1)) λ b=>bX .Add a b) λ v=>ae (rd 0) λ o=>ae (ll [174] 1 o v) λ _=>ret .next))
noncomputable def dP:fR:=dS 2 2 rK
theorem gP {C:Cx} (Y:KX C):b7 C 1 164 dP:=by
 have h1:(K0 C.w.params).lookup 164=some ⟨_,_,.func _,_⟩:=rfl
 have O:=bO Y.hK h1 ∅ (body:=_) rfl (params:=[(Str.ofString "self"),(Str.ofString "lengths")]) (names:=[(Str.ofString "self"),(Str.ofString "lengths")]) ∅ (hH (by rfl) λ a b=>by kernel_rfl)
 exact bZ Y.ok O 0 λ L=>(an (cM Y.ok (f5 Y) (Y.fok ⋯) (u9 Y) (aa nL _) (aa nL _) ∅) (aw (cM Y.ok (mD Y) (Y.fok ⋯) (Bk Y) (aE (bg Y.ok (gA (tv Y)) tB (.cons (aa nL _) .nil)) (ak _ _ _) (ap .Add)) (aa nL _) ∅)))
noncomputable def rL:EM AF:=
 (bm (ae (ae (ae (ae (ret (.int 0)) λ a=>ae (rd 1) λ b=>ae (b6 .LtE a b) λ c=>ae (tr c) λ t=>if t then ae (ae (bN [(ae (rd 0) (cK [174,417] [] 0))]) gI) λ d=>ae (b6 .Lt b d) tr else ret false) λ b=>ret (!b)) λ t=>if t then ret true else(ae (ae (ae (rd 0) (cK [174,417] [] 0)) λ o=>ae (rd 1) λ i=>de o i) λ a=>ae (ret (.int 0)) λ b=>ae (b6 .Eq a b) tr)) λ t=>if t then(ae (ret .none) λ v=>ret (.ret v)) else(ret .next)) (ae (ae (ae (rd 0) (cK [174,417] [] 0)) λ o=>ae (rd 1) λ i=>de o i) λ v=>ret (.ret v)))
noncomputable def dQ:fR:=dS 2 2 rL
theorem ji {C:Cx} (Y:KX C):b7 C 1 171 dQ:=by
 have h1:(K0 C.w.params).lookup 171=some ⟨_,_,.func _,_⟩:=rfl
 have O:=bO Y.hK h1 ∅ (body:=_) rfl (params:=[(Str.ofString "self"),(Str.ofString "symbol")]) (names:=[(Str.ofString "self"),(Str.ofString "symbol")]) ∅ (hH (by rfl) λ a b=>by kernel_rfl)
 exact bZ Y.ok O 0 λ L=>(an (c7 (fc (ff (dc (ak _ _ _) (aa nL _) (bg Y.ok (gA (dX Y)) dY (.cons (bL Y.ok (aa nL _) (Y.fok ⋯) (jG Y) aP (f5 Y)) .nil)) eV cN)) (ax (bR (bL Y.ok (aa nL _) (Y.fok ⋯) (jG Y) aP (f5 Y)) (aa nL _)) (ak _ _ _) dT)) (aw (aQ (iq _ _))) cP) (aw (aQ (bR (bL Y.ok (aa nL _) (Y.fok ⋯) (jG Y) aP (f5 Y)) (aa nL _)))))
noncomputable def tL:EM AF:=
 (bm (ae (rd 1) λ v=>ae (rd 0) λ o=>ae (ll [216] 2 o v) λ _=>ret .next) (ae (rd 2) λ v=>ae (rd 0) λ o=>ae (ll [216] 3 o v) λ _=>ret .next))
noncomputable def hJ:fR:=dS 3 3 tL
theorem mP {C:Cx} (Y:KX C):b7 C 1 192 hJ:=by
 have h1:(K0 C.w.params).lookup 192=some ⟨_,_,.func _,_⟩:=rfl
 have O:=bO Y.hK h1 ∅ (body:=_) rfl (params:=[(Str.ofString "self"),(Str.ofString "by_literals"),(Str.ofString "by_distances")]) (names:=[(Str.ofString "self"),(Str.ofString "by_literals"),(Str.ofString "by_distances")]) ∅ (kl (by rfl) λ a b c=>by kernel_rfl)
 exact bZ Y.ok O 0 λ L=>(an (cM Y.ok (iY Y) (Y.fok ⋯) (vc Y) (aa nL _) (aa nL _) ∅) (aw (cM Y.ok (jq Y) (Y.fok ⋯) (um Y) (aa nL _) (aa nL _) ∅)))
noncomputable def tM:EM AF:=
 (bm (ae (ae (rd 1) λ v=>eY [(111,dl),(146,dh),(174,dQ)] v [(rd 2)]) λ v=>ae (wr 3 v) λ _=>ret .next) (ae (ae (ae (rd 3) λ a=>ae (ret .none) λ b=>ae (b6 .Is a b) tr) λ t=>if t then(ae (rd 1) (cK [174] [(111,10),(146,6)] 1)) else(rd 3)) λ v=>ret (.ret v)))
noncomputable def hO:fR:=dS 4 3 tM
theorem j3 {C:Cx} (Y:KX C):b7 C 3 199 hO:=by
 have h1:(K0 C.w.params).lookup 199=some ⟨_,_,.func _,_⟩:=rfl
 have O:=bO Y.hK h1 ∅ (body:=_) rfl (params:=[(Str.ofString "self"),(Str.ofString "code"),(Str.ofString "symbol")]) (names:=[(Str.ofString "self"),(Str.ofString "code"),(Str.ofString "symbol"),(Str.ofString "count")]) ∅ (kl (by rfl) λ a b c=>by kernel_rfl)
 exact bZ Y.ok O 0 λ L=>(an (aS nL (e9 Y.ok (Y.notField ∅ ∅) (aY (Y.meOk ∅ ((iG Y).up ⋯)) (aY (Y.meOk ∅ ((ia Y).up ⋯)) (aY (Y.meOk ∅ ((ji Y).up ⋯)) aP))) (aa nL _) (.cons (aa nL _) .nil)) ∅) (aw (aQ (jK (ax (aa nL _) (iq _ _) qs) (bL Y.ok (aa nL _) (Y.fok ⋯) (B1 Y) (B3 Y) (mD Y)) (aa nL _)))))
noncomputable def qL:EM AF:=
 (ae (ae (rd 0) λ v=>eY [(216,hO)] v [(ae (rd 0) (cK [216] [] 2)),(rd 1)]) λ v=>ret (.ret v))
noncomputable def gT:fR:=dS 2 2 qL
theorem lh {C:Cx} (Y:KX C):b7 C 4 206 gT:=by
 have h1:(K0 C.w.params).lookup 206=some ⟨_,_,.func _,_⟩:=rfl
 have O:=bO Y.hK h1 ∅ (body:=_) rfl (params:=[(Str.ofString "self"),(Str.ofString "octet")]) (names:=[(Str.ofString "self"),(Str.ofString "octet")]) ∅ (hH (by rfl) λ a b=>by kernel_rfl)
 exact bZ Y.ok O 0 λ L=>(aw (aQ (e9 Y.ok (Y.notField ∅ ∅) (aY (Y.meOk ∅ ((j3 Y).up ⋯)) aP) (aa nL _) (.cons (bL Y.ok (aa nL _) (Y.fok ⋯) (p8 Y) aP (iY Y)) (.cons (aa nL _) .nil)))))
noncomputable def sT:EM AF:=
 (bm (ae (ae (bN [(rd 1)]) (cr ix)) λ v=>ae (pi [3,4,5] v) λ _=>ret .next) (bm (ae (ae (bN [(rd 2)]) (cr gD)) λ v=>ae (pi [6,7,8] v) λ _=>ret .next) (ae (ae (ae (ae (ae (rd 0) λ v=>eY [(216,hO)] v [(ae (rd 0) (cK [216] [] 2)),(rd 3)]) λ a=>ae (rd 4) λ b=>bX .Add a b) λ a=>ae (ae (rd 0) λ v=>eY [(216,hO)] v [(ae (rd 0) (cK [216] [] 3)),(rd 6)]) λ b=>bX .Add a b) λ a=>ae (rd 7) λ b=>bX .Add a b) λ v=>ret (.ret v))))
noncomputable def kr:fR:=dS 9 3 sT
theorem rn {C:Cx} (Y:KX C):b7 C 4 213 kr:=by
 have h1:(K0 C.w.params).lookup 213=some ⟨_,_,.func _,_⟩:=rfl
 have O:=bO Y.hK h1 ∅ (body:=_) rfl (params:=[(Str.ofString "self"),(Str.ofString "length"),(Str.ofString "distance")]) (names:=[(Str.ofString "self"),(Str.ofString "length"),(Str.ofString "distance"),(Str.ofString "symbol"),(Str.ofString "more"),(Str.ofString "rest"),(Str.ofString "far"),(Str.ofString "further"),(Str.ofString "left")]) ∅ (kl (by rfl) λ a b c=>by kernel_rfl)
 exact bZ Y.ok O 0 λ L=>(an (cw (.cons nL (.cons nL (.cons nL .nil))) (cQ Y.ok (gA (kN Y)) (kI Y) ((kB Y).up ⋯) (.cons (aa nL _) .nil)) ∅ ∅) (an (cw (.cons nL (.cons nL (.cons nL .nil))) (cQ Y.ok (gA (jE Y)) (jA Y) ((jy Y).up ⋯) (.cons (aa nL _) .nil)) ∅ ∅) (aw (aQ (aE (aE (aE (e9 Y.ok (Y.notField ∅ ∅) (aY (Y.meOk ∅ ((j3 Y).up ⋯)) aP) (aa nL _) (.cons (bL Y.ok (aa nL _) (Y.fok ⋯) (p8 Y) aP (iY Y)) (.cons (aa nL _) .nil))) (aa nL _) (ap .Add)) (e9 Y.ok (Y.notField ∅ ∅) (aY (Y.meOk ∅ ((j3 Y).up ⋯)) aP) (aa nL _) (.cons (bL Y.ok (aa nL _) (Y.fok ⋯) (ux Y) aP (jq Y)) (.cons (aa nL _) .nil))) (ap .Add)) (aa nL _) (ap .Add))))))
noncomputable def nG:EM AF:=
 (bm (ae (ae (ae (ae (rd 0) (cK [258] [] 4)) λ o=>ae (rd 1) λ i=>de o i) λ a=>ae (ret (.int 0)) λ b=>ae (b6 .Eq a b) tr) λ t=>if t then(ae (ae (ae (rd 0) (cK [258] [] 6)) λ v=>mH "list" lE v [(rd 1)]) er) else(ret .next)) (ae (ae (rd 0) (cK [258] [] 4)) λ o=>ae (rd 1) λ i=>ae (de o i) λ a=>ae (ret (.int 1)) λ v=>ae (iL .Add a v) λ r=>ae (nh o i r) λ _=>ret .next))
noncomputable def dJ:fR:=dS 2 2 nG
theorem gj {C:Cx} (Y:KX C):b7 C 1 241 dJ:=by
 have h1:(K0 C.w.params).lookup 241=some ⟨_,_,.func _,_⟩:=rfl
 have O:=bO Y.hK h1 ∅ (body:=_) rfl (params:=[(Str.ofString "self"),(Str.ofString "symbol")]) (names:=[(Str.ofString "self"),(Str.ofString "symbol")]) ∅ (hH (by rfl) λ a b=>by kernel_rfl)
 exact bZ Y.ok O 0 λ L=>(an (c7 (ax (bR (bL Y.ok (aa nL _) (Y.fok ⋯) (i6 Y) aP (fO Y)) (aa nL _)) (ak _ _ _) dT) (aw (di (dB ∅ (bL Y.ok (aa nL _) (Y.fok ⋯) (sL Y) aP (mU Y)) (.cons (aa nL _) .nil)) ∅ ∅)) cP) (aw (jL (ak _ _ _) (bL Y.ok (aa nL _) (Y.fok ⋯) (i6 Y) aP (fO Y)) (aa nL _) (cz .Add))))
noncomputable def oH:EM AF:=
 (bm (ae (ae (bN [(rd 1)]) (cr ix)) λ v=>ae (pi [3,4,5] v) λ _=>ret .next) (bm (ae (ae (bN [(rd 2)]) (cr gD)) λ v=>ae (pi [6,7,8] v) λ _=>ret .next) (bm (ae (ae (rd 0) λ v=>eY [(258,dJ)] v [(rd 3)]) er) (bm (ae (ae (ae (ae (rd 0) (cK [258] [] 5)) λ o=>ae (rd 6) λ i=>de o i) λ a=>ae (ret (.int 0)) λ b=>ae (b6 .Eq a b) tr) λ t=>if t then(ae (ae (ae (rd 0) (cK [258] [] 7)) λ v=>mH "list" lE v [(rd 6)]) er) else(ret .next)) (bm (ae (ae (rd 0) (cK [258] [] 5)) λ o=>ae (rd 6) λ i=>ae (de o i) λ a=>ae (ret (.int 1)) λ v=>ae (iL .Add a v) λ r=>ae (nh o i r) λ _=>ret .next) (ae (rd 0) λ o=>ae (cK [258] [] 8 o) λ a=>ae (ae (rd 4) λ a=>ae (rd 7) λ b=>bX .Add a b) λ v=>ae (iL .Add a v) λ r=>ae (ll [258] 8 o r) λ _=>ret .next))))))
noncomputable def ik:fR:=dS 9 3 oH
theorem nN {C:Cx} (Y:KX C):b7 C 2 248 ik:=by
 have h1:(K0 C.w.params).lookup 248=some ⟨_,_,.func _,_⟩:=rfl
 have O:=bO Y.hK h1 ∅ (body:=_) rfl (params:=[(Str.ofString "self"),(Str.ofString "length"),(Str.ofString "distance")]) (names:=[(Str.ofString "self"),(Str.ofString "length"),(Str.ofString "distance"),(Str.ofString "symbol"),(Str.ofString "more"),(Str.ofString "rest"),(Str.ofString "far"),(Str.ofString "further"),(Str.ofString "left")]) ∅ (kl (by rfl) λ a b c=>by kernel_rfl)
 exact bZ Y.ok O 0 λ L=>(an (cw (.cons nL (.cons nL (.cons nL .nil))) (cQ Y.ok (gA (kN Y)) (kI Y) ((kB Y).up ⋯) (.cons (aa nL _) .nil)) ∅ ∅) (an (cw (.cons nL (.cons nL (.cons nL .nil))) (cQ Y.ok (gA (jE Y)) (jA Y) ((jy Y).up ⋯) (.cons (aa nL _) .nil)) ∅ ∅) (an (di (e9 Y.ok (Y.notField ∅ ∅) (aY (Y.meOk ∅ ((gj Y).up ⋯)) aP) (aa nL _) (.cons (aa nL _) .nil)) ∅ ∅) (an (c7 (ax (bR (bL Y.ok (aa nL _) (Y.fok ⋯) (ij Y) aP (e7 Y)) (aa nL _)) (ak _ _ _) dT) (aw (di (dB ∅ (bL Y.ok (aa nL _) (Y.fok ⋯) (wh Y) aP (pT Y)) (.cons (aa nL _) .nil)) ∅ ∅)) cP) (an (jL (ak _ _ _) (bL Y.ok (aa nL _) (Y.fok ⋯) (ij Y) aP (e7 Y)) (aa nL _) (cz .Add)) (aw (j7 Y.ok (nY Y) (Y.fok ⋯) (wi Y) (zS Y) (aE (aa nL _) (aa nL _) (ap .Add)) (aa nL _) (cz .Add))))))))
noncomputable def sR:EM AF:=
 (bm (ae (ae (ae (bN [(ret (.int 0))]) gH) λ a=>ae (ae (ret (.int 256)) λ a=>ae (ret (.int 30)) λ b=>bX .Add a b) λ b=>tf a b) λ v=>ae (rd 0) λ o=>ae (ll [258] 4 o v) λ _=>ret .next) (bm (ae (ae (ae (bN [(ret (.int 0))]) gH) λ a=>ae (ret (.int 30)) λ b=>tf a b) λ v=>ae (rd 0) λ o=>ae (ll [258] 5 o v) λ _=>ret .next) (bm (ae (ae (bN []) gH) λ v=>ae (rd 0) λ o=>ae (ll [258] 6 o v) λ _=>ret .next) (bm (ae (ae (bN []) gH) λ v=>ae (rd 0) λ o=>ae (ll [258] 7 o v) λ _=>ret .next) (bm (ae (ret (.int 0)) λ v=>ae (rd 0) λ o=>ae (ll [258] 8 o v) λ _=>ret .next) (bm (ae (ae (rd 0) λ v=>eY [(258,dJ)] v [(ret (.int 256))]) er) (jU pB (ae (rd 1) jB) (wr 2) (ae (ae (ae (rd 2) λ o=>ae (ret (.int 0)) λ i=>de o i) λ a=>ae (ret (.int 0)) λ b=>ae (b6 .Eq a b) tr) λ t=>if t then(ae (ae (rd 0) λ v=>eY [(258,dJ)] v [(ae (rd 2) λ o=>ae (ret (.int 1)) λ i=>de o i)]) er) else(ae (ae (rd 0) λ v=>eY [(258,ik)] v [(ae (rd 2) λ o=>ae (ret (.int 0)) λ i=>de o i),(ae (rd 2) λ o=>ae (ret (.int 1)) λ i=>de o i)]) er)))))))))
noncomputable def kq:fR:=dS 3 2 sR
theorem rk {C:Cx} (Y:KX C):b7 C 3 234 kq:=by
 have h1:(K0 C.w.params).lookup 234=some ⟨_,_,.func _,_⟩:=rfl
 have O:=bO Y.hK h1 ∅ (body:=_) rfl (params:=[(Str.ofString "self"),(Str.ofString "steps")]) (names:=[(Str.ofString "self"),(Str.ofString "steps"),(Str.ofString "step")]) ∅ (hH (by rfl) λ a b=>by kernel_rfl)
 exact bZ Y.ok O 0 λ L=>(an (cM Y.ok (fO Y) (Y.fok ⋯) (zR Y) (aE (da (.cons (ak _ _ _) .nil)) (aE (iB Y (Gb C.w.params) ∅ ∅ ∅ ∅ ∅) (ak _ _ _) (ap .Add)) mR) (aa nL _) ∅) (an (cM Y.ok (e7 Y) (Y.fok ⋯) (yl Y) (aE (da (.cons (ak _ _ _) .nil)) (ak _ _ _) mR) (aa nL _) ∅) (an (cM Y.ok (mU Y) (Y.fok ⋯) (G7 Y) (da .nil) (aa nL _) ∅) (an (cM Y.ok (pT Y) (Y.fok ⋯) (Iy Y) (da .nil) (aa nL _) ∅) (an (cM Y.ok (nY Y) (Y.fok ⋯) (zS Y) (ak _ _ _) (aa nL _) ∅) (an (di (e9 Y.ok (Y.notField ∅ ∅) (aY (Y.meOk ∅ ((gj Y).up ⋯)) aP) (aa nL _) (.cons (iB Y (Gb C.w.params) ∅ ∅ ∅ ∅ ∅) .nil)) ∅ ∅) (aw (dH jh (dw (aa nL _)) (cV nL _) (aw (c7 (ax (bR (aa nL _) (ak _ _ _)) (ak _ _ _) dT) (aw (di (e9 Y.ok (Y.notField ∅ ∅) (aY (Y.meOk ∅ ((gj Y).up ⋯)) aP) (aa nL _) (.cons (bR (aa nL _) (ak _ _ _)) .nil)) ∅ ∅)) (aw (di (e9 Y.ok (Y.notField ∅ ∅) (aY (Y.meOk ∅ ((nN Y).up ⋯)) aP) (aa nL _) (.cons (bR (aa nL _) (ak _ _ _)) (.cons (bR (aa nL _) (ak _ _ _)) .nil))) ∅ ∅))))))))))))
noncomputable def sS:EM AF:=
 (bm (ae (ae (rd 0) (cK [258] [] 8)) λ v=>ae (wr 3 v) λ _=>ret .next) (bm (jU pB (ae (ae (rd 0) (cK [258] [] 6)) jB) (wr 4) (ae (rd 3) λ o=>ae (ae (ae (ae (rd 0) (cK [258] [] 4)) λ o=>ae (rd 4) λ i=>de o i) λ a=>ae (ae (rd 1) λ v=>eY [(111,dl),(146,dh),(174,dQ)] v [(rd 4)]) λ b=>bX .Mult a b) λ v=>ae (iL .Add o v) λ r=>ae (wr 3 r) λ _=>ret .next)) (bm (jU pB (ae (ae (rd 0) (cK [258] [] 7)) jB) (wr 4) (ae (rd 3) λ o=>ae (ae (ae (ae (rd 0) (cK [258] [] 5)) λ o=>ae (rd 4) λ i=>de o i) λ a=>ae (ae (rd 2) λ v=>eY [(111,dl),(146,dh),(174,dQ)] v [(rd 4)]) λ b=>bX .Mult a b) λ v=>ae (iL .Add o v) λ r=>ae (wr 3 r) λ _=>ret .next)) (ae (rd 3) λ v=>ret (.ret v)))))
noncomputable def iM:fR:=dS 5 3 sS
theorem my {C:Cx} (Y:KX C):b7 C 3 255 iM:=by
 have h1:(K0 C.w.params).lookup 255=some ⟨_,_,.func _,_⟩:=rfl
 have O:=bO Y.hK h1 ∅ (body:=_) rfl (params:=[(Str.ofString "self"),(Str.ofString "by_literals"),(Str.ofString "by_distances")]) (names:=[(Str.ofString "self"),(Str.ofString "by_literals"),(Str.ofString "by_distances"),(Str.ofString "total"),(Str.ofString "symbol")]) ∅ (kl (by rfl) λ a b c=>by kernel_rfl)
 exact bZ Y.ok O 0 λ L=>(an (aS nL (bL Y.ok (aa nL _) (Y.fok ⋯) (wi Y) aP (nY Y)) ∅) (an (dH jh (dw (bL Y.ok (aa nL _) (Y.fok ⋯) (sL Y) aP (mU Y))) (cV nL _) (aw (ed nL (aE (bR (bL Y.ok (aa nL _) (Y.fok ⋯) (i6 Y) aP (fO Y)) (aa nL _)) (e9 Y.ok (Y.notField ∅ ∅) (aY (Y.meOk ∅ ((iG Y).up ⋯)) (aY (Y.meOk ∅ ((ia Y).up ⋯)) (aY (Y.meOk ∅ ((ji Y).up ⋯)) aP))) (aa nL _) (.cons (aa nL _) .nil)) (ap .Mult)) (cz .Add)))) (an (dH jh (dw (bL Y.ok (aa nL _) (Y.fok ⋯) (wh Y) aP (pT Y))) (cV nL _) (aw (ed nL (aE (bR (bL Y.ok (aa nL _) (Y.fok ⋯) (ij Y) aP (e7 Y)) (aa nL _)) (e9 Y.ok (Y.notField ∅ ∅) (aY (Y.meOk ∅ ((iG Y).up ⋯)) (aY (Y.meOk ∅ ((ia Y).up ⋯)) (aY (Y.meOk ∅ ((ji Y).up ⋯)) aP))) (aa nL _) (.cons (aa nL _) .nil)) (ap .Mult)) (cz .Add)))) (aw (aQ (aa nL _))))))
noncomputable def wo:EM AF:=
 (bm (ae (ae (bN [(rd 0)]) qR) λ v=>ae (wr 1 v) λ _=>ret .next) (bm (ae (ret (.int 0)) λ v=>ae (wr 2 v) λ _=>ret .next) (bm (jX (ae (ae (bN [(fg [3] pB (ae (rd 1) jB) (wr 3) (ae (rd 3) λ a=>ae (ret (.int 0)) λ b=>ae (b6 .Gt a b) tr) (rd 3))]) gI) λ a=>ae (ret (.int 2)) λ b=>ae (b6 .Lt a b) tr) (bm (ae (ae (ae (rd 1) λ o=>ae (rd 2) λ i=>de o i) λ a=>ae (ret (.int 0)) λ b=>ae (b6 .Eq a b) tr) λ t=>if t then(ae (ret (.int 1)) λ v=>ae (rd 1) λ o=>ae (rd 2) λ i=>ae (nh o i v) λ _=>ret .next) else(ret .next)) (ae (rd 2) λ o=>ae (ret (.int 1)) λ v=>ae (iL .Add o v) λ r=>ae (wr 2 r) λ _=>ret .next)) 1000) (ae (rd 1) λ v=>ret (.ret v)))))
noncomputable def km:fR:=dS 4 1 wo
theorem oS {C:Cx} (Y:KX C):b7 C 1 267 km:=by
 have h1:(K0 C.w.params).lookup 267=some ⟨_,_,.func _,_⟩:=rfl
 have O:=bO Y.hK h1 ∅ (body:=_) rfl (params:=[(Str.ofString "counts")]) (names:=[(Str.ofString "counts"),(Str.ofString "found"),(Str.ofString "spot")]) ∅ (i5 (by rfl) λ a=>by kernel_rfl)
 exact bZ Y.ok O 1 λ L=>(an (aS nL (bg Y.ok (gA (uM Y)) uR (.cons (aa nL _) .nil)) ∅) (an (aS nL (ak _ _ _) ∅) (an (nO 1000 (ax (bg Y.ok (gA (dX Y)) dY (.cons (cS jh (gR (vars:=[(3,(Str.ofString "count"))]) ∅ ∅ (aY ∅ aP) (dw (aa nL _)) (λ L=>(dr nL _)) (λ L=>(iA (ax (aa nL _) (ak _ _ _) fU))) (λ L=>(aa nL _)))) .nil)) (ak _ _ _) cN) (an (c7 (ax (bR (aa nL _) (aa nL _)) (ak _ _ _) dT) (aw (iU (ak _ _ _) (aa nL _) (aa nL _) ∅)) cP) (aw (ed nL (ak _ _ _) (cz .Add))))) (aw (aQ (aa nL _))))))
noncomputable def zq:EM AF:=
 (ae (ae (ae (ae (ae (rd 0) (JM "int")) tr) λ b=>ret (!b)) λ t=>if t then ret true else ae (ae (ae (rd 0) (JM "bool")) tr) λ t=>if t then ret true else(ae (rd 0) λ a=>ae (ret (.int 0)) λ b=>ae (b6 .Lt a b) tr)) λ t=>if t then sE else(ret .next))
noncomputable def oE:fR:=dS 1 1 zq
theorem wC {C:Cx} (Y:KX C):b7 C 1 281 oE:=by
 have h1:(K0 C.w.params).lookup 281=some ⟨_,_,.func _,_⟩:=rfl
 have O:=bO Y.hK h1 ∅ (body:=_) rfl (params:=[(Str.ofString "count")]) (names:=[(Str.ofString "count")]) ∅ (i5 (by rfl) λ a=>by kernel_rfl)
 exact bZ Y.ok O 0 λ L=>(aw (c7 (j6 (ff (mz (ro Y.ok (gA (nu Y)) (gA (y0 Y)) (aa nL _)))) (mz (ro Y.ok (gA (nu Y)) (gA (Hu Y)) (aa nL _))) (ax (aa nL _) (ak _ _ _) cN)) (li _) cP))
noncomputable def zp:EM AF:=
 (bm (ae (ae (bN [(rd 1)]) (cr oE)) er) (ae (ae (ae (ae (ae (rd 0) (JM "int")) tr) λ b=>ret (!b)) λ t=>if t then ret true else ae (ae (rd 0) λ a=>ae (ret (.int 0)) λ b=>ae (b6 .Lt a b) tr) λ t=>if t then ret true else(ae (ae (rd 0) λ a=>ae (rd 1) λ b=>bX .RShift a b) λ a=>ae (ret (.int 0)) λ b=>ae (b6 .NotEq a b) tr)) λ t=>if t then sE else(ret .next)))
noncomputable def mf:fR:=dS 2 2 zp
theorem qM {C:Cx} (Y:KX C):b7 C 2 288 mf:=by
 have h1:(K0 C.w.params).lookup 288=some ⟨_,_,.func _,_⟩:=rfl
 have O:=bO Y.hK h1 ∅ (body:=_) rfl (params:=[(Str.ofString "value"),(Str.ofString "size")]) (names:=[(Str.ofString "value"),(Str.ofString "size")]) ∅ (hH (by rfl) λ a b=>by kernel_rfl)
 exact bZ Y.ok O 0 λ L=>(an (di (cQ Y.ok (gA (wV Y)) (wQ Y) ((wC Y).up ⋯) (.cons (aa nL _) .nil)) ∅ ∅) (aw (c7 (j6 (ff (mz (ro Y.ok (gA (nu Y)) (gA (y0 Y)) (aa nL _)))) (ax (aa nL _) (ak _ _ _) cN) (ax (aE (aa nL _) (aa nL _) (ap .RShift)) (ak _ _ _) fj)) (li _) cP)))
noncomputable def tH:EM AF:=
 (bm (ae (λ σ=>some (.ref σ.h.length,{σ with h:=σ.h++[.barr #[]]})) λ v=>ae (rd 0) λ o=>ae (ll [354] 9 o v) λ _=>ret .next) (bm (ae (ret (.int 0)) λ v=>ae (rd 0) λ o=>ae (ll [354] 10 o v) λ _=>ret .next) (ae (ret (.int 0)) λ v=>ae (rd 0) λ o=>ae (ll [354] 11 o v) λ _=>ret .next)))
noncomputable def kW:fR:=dS 1 1 tH
theorem rU {C:Cx} (Y:KX C):gU C 1 302 kW:=by
 have h1:(K0 C.w.params).lookup 302=some ⟨_,_,.func _,_⟩:=rfl
 have O:=bO Y.hK h1 ∅ (body:=_) rfl (params:=[(Str.ofString "self")]) (names:=[(Str.ofString "self")]) ∅ (i5 (by rfl) λ a=>by kernel_rfl)
 exact lA Y.ok O 0 λ L=>(an (nQ Y.ok (qv Y) (Y.fok ⋯) (G8 Y) (wE Y.ok (gA (y4 Y))) (aa nL _) ∅) (an (cM Y.ok (ow Y) (Y.fok ⋯) (yk Y) (ak _ _ _) (aa nL _) ∅).o (aw (cM Y.ok (fL Y) (Y.fok ⋯) (og Y) (ak _ _ _) (aa nL _) ∅).o)))
noncomputable def tK:EM AF:=
 (bm (ae (ae (bN [(rd 1),(rd 2)]) (cr mf)) er) (bm (ae (rd 0) λ o=>ae (cK [354] [] 10 o) λ a=>ae (ae (rd 1) λ a=>ae (ae (rd 0) (cK [354] [] 11)) λ b=>bX .LShift a b) λ v=>ae (iL .BitOr a v) λ r=>ae (ll [354] 10 o r) λ _=>ret .next) (bm (ae (rd 0) λ o=>ae (cK [354] [] 11 o) λ a=>ae (rd 2) λ v=>ae (iL .Add a v) λ r=>ae (ll [354] 11 o r) λ _=>ret .next) (jX (ae (ae (rd 0) (cK [354] [] 11)) λ a=>ae (ret (.int 8)) λ b=>ae (b6 .GtE a b) tr) (bm (ae (ae (ae (rd 0) (cK [354] [] 9)) λ v=>mH "bytearray" Ks v [(ae (ae (rd 0) (cK [354] [] 10)) λ a=>ae (ret (.int 255)) λ b=>bX .BitAnd a b)]) er) (bm (ae (rd 0) λ o=>ae (cK [354] [] 10 o) λ a=>ae (ret (.int 8)) λ v=>ae (iL .RShift a v) λ r=>ae (ll [354] 10 o r) λ _=>ret .next) (ae (rd 0) λ o=>ae (cK [354] [] 11 o) λ a=>ae (ret (.int 8)) λ v=>ae (iL .Sub a v) λ r=>ae (ll [354] 11 o r) λ _=>ret .next))) 1000))))
noncomputable def fW:fR:=dS 3 3 tK
theorem j0 {C:Cx} (Y:KX C):gU C 3 309 fW:=by
 have h1:(K0 C.w.params).lookup 309=some ⟨_,_,.func _,_⟩:=rfl
 have O:=bO Y.hK h1 ∅ (body:=_) rfl (params:=[(Str.ofString "self"),(Str.ofString "value"),(Str.ofString "count")]) (names:=[(Str.ofString "self"),(Str.ofString "value"),(Str.ofString "count")]) ∅ (kl (by rfl) λ a b c=>by kernel_rfl)
 exact lA Y.ok O 0 λ L=>(an (di (cQ Y.ok (gA (qX Y)) (qS Y) ((qM Y).up ⋯) (.cons (aa nL _) (.cons (aa nL _) .nil))) ∅ ∅).o (an (j7 Y.ok (ow Y) (Y.fok ⋯) (uT Y) (yk Y) (aE (aa nL _) (bL Y.ok (aa nL _) (Y.fok ⋯) (i8 Y) aP (fL Y)) (ap .LShift)) (aa nL _) (cz .BitOr)).o (an (j7 Y.ok (fL Y) (Y.fok ⋯) (i8 Y) (og Y) (aa nL _) (aa nL _) (cz .Add)).o (aw (nO 1000 (ax (bL Y.ok (aa nL _) (Y.fok ⋯) (i8 Y) aP (fL Y)) (ak _ _ _) Eh) (an (gW (wF ∅ (bL Y.ok (aa nL _) (Y.fok ⋯) (ze Y) aP (qv Y)) (.cons (aE (bL Y.ok (aa nL _) (Y.fok ⋯) (uT Y) aP (ow Y)) (ak _ _ _) (ap .BitAnd)) .nil)) ∅ ∅) (an (j7 Y.ok (ow Y) (Y.fok ⋯) (uT Y) (yk Y) (ak _ _ _) (aa nL _) (cz .RShift)).o (aw (j7 Y.ok (fL Y) (Y.fok ⋯) (i8 Y) (og Y) (ak _ _ _) (aa nL _) (cz .Sub)).o))))))))
noncomputable def tJ:EM AF:=
 (bm (ae (ae (bN [(rd 1),(rd 2)]) (cr mf)) er) (bm (ae (ret (.int 0)) λ v=>ae (wr 3 v) λ _=>ret .next) (bm (jU pB (ae (bN [(rd 2)]) f4) (wr 4) (ae (ae (ae (rd 3) λ a=>ae (ret (.int 1)) λ b=>bX .LShift a b) λ a=>ae (ae (ae (rd 1) λ a=>ae (rd 4) λ b=>bX .RShift a b) λ a=>ae (ret (.int 1)) λ b=>bX .BitAnd a b) λ b=>bX .BitOr a b) λ v=>ae (wr 3 v) λ _=>ret .next)) (ae (ae (rd 0) λ v=>eY [(354,fW)] v [(rd 3),(rd 2)]) er))))
noncomputable def kY:fR:=dS 5 3 tJ
theorem rW {C:Cx} (Y:KX C):gU C 4 323 kY:=by
 have h1:(K0 C.w.params).lookup 323=some ⟨_,_,.func _,_⟩:=rfl
 have O:=bO Y.hK h1 ∅ (body:=_) rfl (params:=[(Str.ofString "self"),(Str.ofString "code"),(Str.ofString "count")]) (names:=[(Str.ofString "self"),(Str.ofString "code"),(Str.ofString "count"),(Str.ofString "turned"),(Str.ofString "place")]) ∅ (kl (by rfl) λ a b c=>by kernel_rfl)
 exact lA Y.ok O 0 λ L=>(an (di (cQ Y.ok (gA (qX Y)) (qS Y) ((qM Y).up ⋯) (.cons (aa nL _) (.cons (aa nL _) .nil))) ∅ ∅).o (an (aS nL (ak _ _ _) ∅).o (an (dH jh (dR Y.ok (gA (iu Y)) iw (.cons (aa nL _) .nil)) (cV nL _) (aw (aS nL (aE (aE (aa nL _) (ak _ _ _) (ap .LShift)) (aE (aE (aa nL _) (aa nL _) (ap .RShift)) (ak _ _ _) (ap .BitAnd)) (ap .BitOr)) ∅))).o (aw (gW (jJ Y.ok (Y.notField ∅ ∅) (aY (Y.meOkO ∅ ((j0 Y).up ⋯)) aP) (aa nL _) (.cons (aa nL _) (.cons (aa nL _) .nil))) ∅ ∅)))))
noncomputable def tG:EM AF:=
 (ae (ae (ae (ret (.int 8)) λ a=>ae (ae (bN [(ae (rd 0) (cK [354] [] 9))]) gI) λ b=>bX .Mult a b) λ a=>ae (ae (rd 0) (cK [354] [] 11)) λ b=>bX .Add a b) λ v=>ret (.ret v))
noncomputable def kU:fR:=dS 1 1 tG
theorem rT {C:Cx} (Y:KX C):b7 C 1 344 kU:=by
 have h1:(K0 C.w.params).lookup 344=some ⟨_,_,.func _,_⟩:=rfl
 have O:=bO Y.hK h1 ∅ (body:=_) rfl (params:=[(Str.ofString "self")]) (names:=[(Str.ofString "self")]) ∅ (i5 (by rfl) λ a=>by kernel_rfl)
 exact bZ Y.ok O 0 λ L=>(aw (aQ (aE (aE (ak _ _ _) (bg Y.ok (gA (dX Y)) dY (.cons (bL Y.ok (aa nL _) (Y.fok ⋯) (ze Y) aP (qv Y)) .nil)) (ap .Mult)) (bL Y.ok (aa nL _) (Y.fok ⋯) (i8 Y) aP (fL Y)) (ap .Add))))
noncomputable def tI:EM AF:=
 (bm (ae (ae (ae (ae (rd 0) (cK [354] [] 11)) λ a=>ae (ret (.int 0)) λ b=>ae (b6 .Gt a b) tr) λ t=>if t then(ae (bN [(ae (rd 0) (cK [354] [] 10))]) gH) else(ae (bN []) gH)) λ v=>ae (wr 1 v) λ _=>ret .next) (ae (ae (ae (bN [(ae (rd 0) (cK [354] [] 9))]) nB) λ a=>ae (ae (bN [(rd 1)]) nB) λ b=>ER a b) λ v=>ret (.ret v)))
noncomputable def kX:fR:=dS 2 1 tI
theorem rV {C:Cx} (Y:KX C):b7 C 1 351 kX:=by
 have h1:(K0 C.w.params).lookup 351=some ⟨_,_,.func _,_⟩:=rfl
 have O:=bO Y.hK h1 ∅ (body:=_) rfl (params:=[(Str.ofString "self")]) (names:=[(Str.ofString "self"),(Str.ofString "rest")]) ∅ (i5 (by rfl) λ a=>by kernel_rfl)
 exact bZ Y.ok O 0 λ L=>(an (aS nL (jK (ax (bL Y.ok (aa nL _) (Y.fok ⋯) (i8 Y) aP (fL Y)) (ak _ _ _) fU) (da (.cons (bL Y.ok (aa nL _) (Y.fok ⋯) (uT Y) aP (ow Y)) .nil)) (da .nil)) ∅) (aw (aQ (aE (bg Y.ok (gA (AE Y)) AR (.cons (bL Y.ok (aa nL _) (Y.fok ⋯) (ze Y) aP (qv Y)) .nil)) (bg Y.ok (gA (AE Y)) AR (.cons (aa nL _) .nil)) Hf))))
noncomputable def rJ:EM AF:=
 (bm (ae (ae (ae (bN [(ret (.int 0))]) gH) λ a=>ae (ae (rd 1) λ a=>ae (ret (.int 1)) λ b=>bX .Add a b) λ b=>tf a b) λ v=>ae (wr 2 v) λ _=>ret .next) (bm (jU pB (ae (rd 0) jB) (wr 3) (bm (ae (ae (ae (ret (.int 0)) λ a=>ae (rd 3) λ b=>ae (b6 .LtE a b) λ c=>ae (tr c) λ t=>if t then ae (rd 1) λ d=>ae (b6 .LtE b d) tr else ret false) λ b=>ret (!b)) λ t=>if t then sE else(ret .next)) (ae (rd 2) λ o=>ae (rd 3) λ i=>ae (de o i) λ a=>ae (ret (.int 1)) λ v=>ae (iL .Add a v) λ r=>ae (nh o i r) λ _=>ret .next))) (ae (rd 2) λ v=>ret (.ret v))))
noncomputable def jH:fR:=dS 4 2 rJ
theorem qC {C:Cx} (Y:KX C):b7 C 1 365 jH:=by
 have h1:(K0 C.w.params).lookup 365=some ⟨_,_,.func _,_⟩:=rfl
 have O:=bO Y.hK h1 ∅ (body:=_) rfl (params:=[(Str.ofString "lengths"),(Str.ofString "longest")]) (names:=[(Str.ofString "lengths"),(Str.ofString "longest"),(Str.ofString "found"),(Str.ofString "length")]) ∅ (hH (by rfl) λ a b=>by kernel_rfl)
 exact bZ Y.ok O 0 λ L=>(an (aS nL (aE (da (.cons (ak _ _ _) .nil)) (aE (aa nL _) (ak _ _ _) (ap .Add)) mR) ∅) (an (dH jh (dw (aa nL _)) (cV nL _) (an (c7 (ff (dc (ak _ _ _) (aa nL _) (aa nL _) eV eV)) (li _) cP) (aw (jL (ak _ _ _) (aa nL _) (aa nL _) (cz .Add))))) (aw (aQ (aa nL _)))))
noncomputable def sP:EM AF:=
 (bm (ae (ret (.int 0)) λ v=>ae (wr 1 v) λ _=>ret .next) (bm (jU pB (ae (rd 0) jB) (wr 2) (ae (ae (rd 2) λ a=>ae (rd 1) λ b=>ae (b6 .Gt a b) tr) λ t=>if t then(ae (rd 2) λ v=>ae (wr 1 v) λ _=>ret .next) else(ret .next))) (ae (rd 1) λ v=>ret (.ret v))))
noncomputable def kp:fR:=dS 3 1 sP
theorem rj {C:Cx} (Y:KX C):b7 C 1 372 kp:=by
 have h1:(K0 C.w.params).lookup 372=some ⟨_,_,.func _,_⟩:=rfl
 have O:=bO Y.hK h1 ∅ (body:=_) rfl (params:=[(Str.ofString "lengths")]) (names:=[(Str.ofString "lengths"),(Str.ofString "most"),(Str.ofString "length")]) ∅ (i5 (by rfl) λ a=>by kernel_rfl)
 exact bZ Y.ok O 0 λ L=>(an (aS nL (ak _ _ _) ∅) (an (dH jh (dw (aa nL _)) (cV nL _) (aw (c7 (ax (aa nL _) (aa nL _) fU) (aw (aS nL (aa nL _) ∅)) cP))) (aw (aQ (aa nL _)))))
noncomputable def w9:EM AF:=
 (bm (ae (ae (bN [(ae (ae (bN [(ret (.int 0))]) gH) λ a=>ae (ae (bN [(rd 0)]) gI) λ b=>tf a b),(ret (.int 0))]) mm) λ v=>ae (yd [2,1] v) λ _=>ret .next) (bm (jU pB (ae (bN [(ret (.int 1)),(ae (bN [(rd 0)]) gI)]) f4) (wr 3) (bm (ae (ae (ae (rd 3) λ a=>ae (ret (.int 1)) λ b=>ae (b6 .Gt a b) tr) λ t=>if t then(ae (rd 0) λ o=>ae (ae (rd 3) λ a=>ae (ret (.int 1)) λ b=>bX .Sub a b) λ i=>de o i) else(ret (.int 0))) λ v=>ae (wr 4 v) λ _=>ret .next) (bm (ae (ae (ae (rd 2) λ a=>ae (rd 4) λ b=>bX .Add a b) λ a=>ae (ret (.int 1)) λ b=>bX .LShift a b) λ v=>ae (wr 2 v) λ _=>ret .next) (ae (rd 2) λ v=>ae (rd 1) λ o=>ae (rd 3) λ i=>ae (nh o i v) λ _=>ret .next)))) (ae (rd 1) λ v=>ret (.ret v))))
noncomputable def nF:fR:=dS 5 1 w9
theorem vj {C:Cx} (Y:KX C):b7 C 1 379 nF:=by
 have h1:(K0 C.w.params).lookup 379=some ⟨_,_,.func _,_⟩:=rfl
 have O:=bO Y.hK h1 ∅ (body:=_) rfl (params:=[(Str.ofString "counts")]) (names:=[(Str.ofString "counts"),(Str.ofString "found"),(Str.ofString "code"),(Str.ofString "length"),(Str.ofString "shorter")]) ∅ (i5 (by rfl) λ a=>by kernel_rfl)
 exact bZ Y.ok O 0 λ L=>(an (c8 (names:=[(Str.ofString "found"),(Str.ofString "code")]) (.cons nL (.cons nL .nil)) (bV (.cons (aE (da (.cons (ak _ _ _) .nil)) (bg Y.ok (gA (dX Y)) dY (.cons (aa nL _) .nil)) mR) (.cons (ak _ _ _) .nil))) ∅) (an (dH jh (dR Y.ok (gA (iu Y)) iw (.cons (ak _ _ _) (.cons (bg Y.ok (gA (dX Y)) dY (.cons (aa nL _) .nil)) .nil))) (cV nL _) (an (aS nL (jK (ax (aa nL _) (ak _ _ _) fU) (bR (aa nL _) (aE (aa nL _) (ak _ _ _) (ap .Sub))) (ak _ _ _)) ∅) (an (aS nL (aE (aE (aa nL _) (aa nL _) (ap .Add)) (ak _ _ _) (ap .LShift)) ∅) (aw (iU (aa nL _) (aa nL _) (aa nL _) ∅))))) (aw (aQ (aa nL _)))))
noncomputable def A6:EM AF:=
 (bm (ae (ae (bN [(ae (bN [(rd 0),(ae (bN [(rd 0)]) (cr kp))]) (cr jH))]) (cr nF)) λ v=>ae (wr 1 v) λ _=>ret .next) (bm (ae (ae (bN []) gH) λ v=>ae (wr 2 v) λ _=>ret .next) (bm (jU pB (ae (rd 0) jB) (wr 3) (ae (ae (rd 3) λ a=>ae (ret (.int 0)) λ b=>ae (b6 .Eq a b) tr) λ t=>if t then(ae (ae (rd 2) λ v=>mH "list" lE v [(ret (.int 0))]) er) else(bm (ae (ae (rd 2) λ v=>mH "list" lE v [(ae (rd 1) λ o=>ae (rd 3) λ i=>de o i)]) er) (ae (rd 1) λ o=>ae (rd 3) λ i=>ae (de o i) λ a=>ae (ret (.int 1)) λ v=>ae (iL .Add a v) λ r=>ae (nh o i r) λ _=>ret .next)))) (ae (rd 2) λ v=>ret (.ret v)))))
noncomputable def qf:fR:=dS 4 1 A6
theorem yp {C:Cx} (Y:KX C):b7 C 2 386 qf:=by
 have h1:(K0 C.w.params).lookup 386=some ⟨_,_,.func _,_⟩:=rfl
 have O:=bO Y.hK h1 ∅ (body:=_) rfl (params:=[(Str.ofString "lengths")]) (names:=[(Str.ofString "lengths"),(Str.ofString "following"),(Str.ofString "codes"),(Str.ofString "length")]) ∅ (i5 (by rfl) λ a=>by kernel_rfl)
 exact bZ Y.ok O 0 λ L=>(an (aS nL (cQ Y.ok (gA (vY Y)) (vL Y) ((vj Y).up ⋯) (.cons (cQ Y.ok (gA (qH Y)) (qG Y) ((qC Y).up ⋯) (.cons (aa nL _) (.cons (cQ Y.ok (gA (rC Y)) (rx Y) ((rj Y).up ⋯) (.cons (aa nL _) .nil)) .nil))) .nil)) ∅) (an (aS nL (da .nil) ∅) (an (dH jh (dw (aa nL _)) (cV nL _) (aw (c7 (ax (aa nL _) (ak _ _ _) dT) (aw (di (dB ∅ (aa nL _) (.cons (ak _ _ _) .nil)) ∅ ∅)) (an (di (dB ∅ (aa nL _) (.cons (bR (aa nL _) (aa nL _)) .nil)) ∅ ∅) (aw (jL (ak _ _ _) (aa nL _) (aa nL _) (cz .Add))))))) (aw (aQ (aa nL _))))))
noncomputable def qI:EM AF:=
 (bm (ae (ae (bN [(rd 1)]) qR) λ v=>ae (rd 0) λ o=>ae (ll [174,417] 0 o v) λ _=>ret .next) (ae (ae (bN [(rd 1)]) (cr qf)) λ v=>ae (rd 0) λ o=>ae (ll [417] 12 o v) λ _=>ret .next))
noncomputable def gS:fR:=dS 2 2 qI
theorem lg {C:Cx} (Y:KX C):b7 C 3 400 gS:=by
 have h1:(K0 C.w.params).lookup 400=some ⟨_,_,.func _,_⟩:=rfl
 have O:=bO Y.hK h1 ∅ (body:=_) rfl (params:=[(Str.ofString "self"),(Str.ofString "lengths")]) (names:=[(Str.ofString "self"),(Str.ofString "lengths")]) ∅ (hH (by rfl) λ a b=>by kernel_rfl)
 exact bZ Y.ok O 0 λ L=>(an (cM Y.ok (f5 Y) (Y.fok ⋯) (u9 Y) (bg Y.ok (gA (uM Y)) uR (.cons (aa nL _) .nil)) (aa nL _) ∅) (aw (cM Y.ok (sv Y) (Y.fok ⋯) (Fc Y) (cQ Y.ok (gA (y3 Y)) (yN Y) ((yp Y).up ⋯) (.cons (aa nL _) .nil)) (aa nL _) ∅)))
noncomputable def qJ:EM AF:=
 (bm (ae (ae (ae (ae (ret (.int 0)) λ a=>ae (rd 1) λ b=>ae (b6 .LtE a b) λ c=>ae (tr c) λ t=>if t then ae (ae (bN [(ae (rd 0) (cK [174,417] [] 0))]) gI) λ d=>ae (b6 .Lt b d) tr else ret false) λ b=>ret (!b)) λ t=>if t then ret true else(ae (ae (ae (rd 0) (cK [174,417] [] 0)) λ o=>ae (rd 1) λ i=>de o i) λ a=>ae (ret (.int 0)) λ b=>ae (b6 .Eq a b) tr)) λ t=>if t then(ae (ret .none) λ v=>ret (.ret v)) else(ret .next)) (ae (ae (ae (rd 0) (cK [174,417] [] 0)) λ o=>ae (rd 1) λ i=>de o i) λ v=>ret (.ret v)))
noncomputable def jk:fR:=dS 2 2 qJ
theorem pH {C:Cx} (Y:KX C):b7 C 1 407 jk:=by
 have h1:(K0 C.w.params).lookup 407=some ⟨_,_,.func _,_⟩:=rfl
 have O:=bO Y.hK h1 ∅ (body:=_) rfl (params:=[(Str.ofString "self"),(Str.ofString "symbol")]) (names:=[(Str.ofString "self"),(Str.ofString "symbol")]) ∅ (hH (by rfl) λ a b=>by kernel_rfl)
 exact bZ Y.ok O 0 λ L=>(an (c7 (fc (ff (dc (ak _ _ _) (aa nL _) (bg Y.ok (gA (dX Y)) dY (.cons (bL Y.ok (aa nL _) (Y.fok ⋯) (jG Y) aP (f5 Y)) .nil)) eV cN)) (ax (bR (bL Y.ok (aa nL _) (Y.fok ⋯) (jG Y) aP (f5 Y)) (aa nL _)) (ak _ _ _) dT)) (aw (aQ (iq _ _))) cP) (aw (aQ (bR (bL Y.ok (aa nL _) (Y.fok ⋯) (jG Y) aP (f5 Y)) (aa nL _)))))
noncomputable def qg:EM AF:=
 (bm (ae (ae (ae (rd 0) λ v=>eY [(417,jk)] v [(rd 2)]) λ a=>ae (ret .none) λ b=>ae (b6 .Is a b) tr) λ t=>if t then sE else(ret .next)) (ae (ae (rd 1) λ v=>eY [(354,kY)] v [(ae (ae (rd 0) (cK [417] [] 12)) λ o=>ae (rd 2) λ i=>de o i),(ae (ae (rd 0) (cK [174,417] [] 0)) λ o=>ae (rd 2) λ i=>de o i)]) er))
noncomputable def dk:fR:=dS 3 3 qg
theorem f7 {C:Cx} (Y:KX C):gU C 5 414 dk:=by
 have h1:(K0 C.w.params).lookup 414=some ⟨_,_,.func _,_⟩:=rfl
 have O:=bO Y.hK h1 ∅ (body:=_) rfl (params:=[(Str.ofString "self"),(Str.ofString "writer"),(Str.ofString "symbol")]) (names:=[(Str.ofString "self"),(Str.ofString "writer"),(Str.ofString "symbol")]) ∅ (kl (by rfl) λ a b c=>by kernel_rfl)
 exact lA Y.ok O 0 λ L=>(an (c7 (ax (e9 Y.ok (Y.notField ∅ ∅) (aY (Y.meOk ∅ ((pH Y).up ⋯)) aP) (aa nL _) (.cons (aa nL _) .nil)) (iq _ _) qs) (li _) cP).o (aw (gW (jJ Y.ok (Y.notField ∅ ∅) (aY (Y.meOkO ∅ ((rW Y).up ⋯)) aP) (aa nL _) (.cons (bR (bL Y.ok (aa nL _) (Y.fok ⋯) (Gz Y) aP (sv Y)) (aa nL _)) (.cons (bR (bL Y.ok (aa nL _) (Y.fok ⋯) (jG Y) aP (f5 Y)) (aa nL _)) .nil))) ∅ ∅)))
noncomputable def zo:EM AF:=
 (bm (ae (ae (ae (rd 1) λ o=>ae (ret (.int 0)) λ i=>de o i) λ a=>ae (ret (.int 0)) λ b=>ae (b6 .Eq a b) tr) λ t=>if t then(bm (ae (ae (rd 2) λ v=>eY [(417,dk)] v [(rd 0),(ae (rd 1) λ o=>ae (ret (.int 1)) λ i=>de o i)]) er) (ret (.ret .none))) else(ret .next)) (bm (ae (ae (bN [(ae (rd 1) λ o=>ae (ret (.int 0)) λ i=>de o i)]) (cr ix)) λ v=>ae (pi [4,5,6] v) λ _=>ret .next) (bm (ae (ae (rd 2) λ v=>eY [(417,dk)] v [(rd 0),(rd 4)]) er) (bm (ae (ae (rd 0) λ v=>eY [(354,fW)] v [(rd 6),(rd 5)]) er) (bm (ae (ae (bN [(ae (rd 1) λ o=>ae (ret (.int 1)) λ i=>de o i)]) (cr gD)) λ v=>ae (pi [7,8,9] v) λ _=>ret .next) (bm (ae (ae (rd 3) λ v=>eY [(417,dk)] v [(rd 0),(rd 7)]) er) (ae (ae (rd 0) λ v=>eY [(354,fW)] v [(rd 9),(rd 8)]) er)))))))
noncomputable def oC:fR:=dS 10 4 zo
theorem wB {C:Cx} (Y:KX C):gU C 6 274 oC:=by
 have h1:(K0 C.w.params).lookup 274=some ⟨_,_,.func _,_⟩:=rfl
 have O:=bO Y.hK h1 ∅ (body:=_) rfl (params:=[(Str.ofString "writer"),(Str.ofString "step"),(Str.ofString "literals"),(Str.ofString "distances")]) (names:=[(Str.ofString "writer"),(Str.ofString "step"),(Str.ofString "literals"),(Str.ofString "distances"),(Str.ofString "symbol"),(Str.ofString "more"),(Str.ofString "rest"),(Str.ofString "far"),(Str.ofString "further"),(Str.ofString "left")]) ∅ (Gu (by rfl) λ a b c d=>by kernel_rfl)
 exact lA Y.ok O 0 λ L=>(an (c7 (ax (bR (aa nL _) (ak _ _ _)) (ak _ _ _) dT) (an (gW (jJ Y.ok (Y.notField ∅ ∅) (aY (Y.meOkO ∅ ((f7 Y).up ⋯)) aP) (aa nL _) (.cons (aa nL _) (.cons (bR (aa nL _) (ak _ _ _)) .nil))) ∅ ∅) (aw uo.o)) cP.o) (an (cw (.cons nL (.cons nL (.cons nL .nil))) (cQ Y.ok (gA (kN Y)) (kI Y) ((kB Y).up ⋯) (.cons (bR (aa nL _) (ak _ _ _)) .nil)) ∅ ∅).o (an (gW (jJ Y.ok (Y.notField ∅ ∅) (aY (Y.meOkO ∅ ((f7 Y).up ⋯)) aP) (aa nL _) (.cons (aa nL _) (.cons (aa nL _) .nil))) ∅ ∅) (an (gW (jJ Y.ok (Y.notField ∅ ∅) (aY (Y.meOkO ∅ ((j0 Y).up ⋯)) aP) (aa nL _) (.cons (aa nL _) (.cons (aa nL _) .nil))) ∅ ∅) (an (cw (.cons nL (.cons nL (.cons nL .nil))) (cQ Y.ok (gA (jE Y)) (jA Y) ((jy Y).up ⋯) (.cons (bR (aa nL _) (ak _ _ _)) .nil)) ∅ ∅).o (an (gW (jJ Y.ok (Y.notField ∅ ∅) (aY (Y.meOkO ∅ ((f7 Y).up ⋯)) aP) (aa nL _) (.cons (aa nL _) (.cons (aa nL _) .nil))) ∅ ∅) (aw (gW (jJ Y.ok (Y.notField ∅ ∅) (aY (Y.meOkO ∅ ((j0 Y).up ⋯)) aP) (aa nL _) (.cons (aa nL _) (.cons (aa nL _) .nil))) ∅ ∅))))))))
noncomputable def wn:EM AF:=
 (bm (ae (ae (bN []) gH) λ v=>ae (wr 1 v) λ _=>ret .next) (bm (jU G5 (ae (bN [(rd 0)]) sF) (pi [2,3]) (bm (ae (ae (rd 3) λ a=>ae (ret (.int 0)) λ b=>ae (b6 .Lt a b) tr) λ t=>if t then sE else(ret .next)) (ae (ae (rd 3) λ a=>ae (ret (.int 0)) λ b=>ae (b6 .Gt a b) tr) λ t=>if t then(ae (ae (rd 1) λ v=>mH "list" lE v [(ae (bN [(rd 3),(rd 2)]) mm)]) er) else(ret .next)))) (ae (ae (bN [(rd 1)]) qQ) λ v=>ret (.ret v))))
noncomputable def mJ:fR:=dS 4 1 wn
theorem un {C:Cx} (Y:KX C):b7 C 1 428 mJ:=by
 have h1:(K0 C.w.params).lookup 428=some ⟨_,_,.func _,_⟩:=rfl
 have O:=bO Y.hK h1 ∅ (body:=_) rfl (params:=[(Str.ofString "counts")]) (names:=[(Str.ofString "counts"),(Str.ofString "found"),(Str.ofString "symbol"),(Str.ofString "count")]) ∅ (i5 (by rfl) λ a=>by kernel_rfl)
 exact bZ Y.ok O 0 λ L=>(an (aS nL (da .nil) ∅) (an (dH zM (dR Y.ok (gA (lZ Y)) uQ (.cons (aa nL _) .nil)) (j5 (.cons nL (.cons nL .nil)) _ _) (an (c7 (ax (aa nL _) (ak _ _ _) cN) (li _) cP) (aw (c7 (ax (aa nL _) (ak _ _ _) fU) (aw (di (dB ∅ (aa nL _) (.cons (bV (.cons (aa nL _) (.cons (aa nL _) .nil))) .nil)) ∅ ∅)) cP)))) (aw (aQ (bg Y.ok (gA (qw Y)) qy (.cons (aa nL _) .nil))))))
noncomputable def GL:EM AF:=
 (bm (ae (ae (ae (bN [(ret (.int 0))]) gH) λ a=>ae (rd 0) λ b=>tf a b) λ v=>ae (wr 3 v) λ _=>ret .next) (bm (jU G5 (ae (bN [(rd 2)]) sF) (pi [4,5]) (ae (rd 5) λ v=>ae (rd 3) λ o=>ae (ae (ae (rd 1) λ o=>ae (rd 4) λ i=>de o i) λ o=>ae (ret (.int 1)) λ i=>de o i) λ i=>ae (nh o i v) λ _=>ret .next)) (ae (rd 3) λ v=>ret (.ret v))))
noncomputable def sO:fR:=dS 6 3 GL
theorem xj {C:Cx} (Y:KX C):b7 C 1 435 sO:=by
 have h1:(K0 C.w.params).lookup 435=some ⟨_,_,.func _,_⟩:=rfl
 have O:=bO Y.hK h1 ∅ (body:=_) rfl (params:=[(Str.ofString "size"),(Str.ofString "rows"),(Str.ofString "depths")]) (names:=[(Str.ofString "size"),(Str.ofString "rows"),(Str.ofString "depths"),(Str.ofString "found"),(Str.ofString "place"),(Str.ofString "depth")]) ∅ (kl (by rfl) λ a b c=>by kernel_rfl)
 exact bZ Y.ok O 0 λ L=>(an (aS nL (aE (da (.cons (ak _ _ _) .nil)) (aa nL _) mR) ∅) (an (dH zM (dR Y.ok (gA (lZ Y)) uQ (.cons (aa nL _) .nil)) (j5 (.cons nL (.cons nL .nil)) _ _) (aw (iU (aa nL _) (aa nL _) (bR (bR (aa nL _) (aa nL _)) (ak _ _ _)) ∅))) (aw (aQ (aa nL _)))))
noncomputable def zv:EM AF:=
 (ae (ae (ae (ae (rd 0) λ a=>ae (ret (.int 0)) λ b=>ae (b6 .Gt a b) tr) λ t=>if t then(ae (rd 1) λ a=>ae (ret (.int 1)) λ b=>ae (b6 .Lt a b) tr) else ret false) λ t=>if t then ret true else(ae (rd 0) λ a=>ae (ae (ret (.int 1)) λ a=>ae (ae (bN [(ret (.int 0)),(rd 1)]) vF) λ b=>bX .LShift a b) λ b=>ae (b6 .Gt a b) tr)) λ t=>if t then sE else(ret .next))
noncomputable def oG:fR:=dS 2 2 zv
theorem wD {C:Cx} (Y:KX C):b7 C 1 442 oG:=by
 have h1:(K0 C.w.params).lookup 442=some ⟨_,_,.func _,_⟩:=rfl
 have O:=bO Y.hK h1 ∅ (body:=_) rfl (params:=[(Str.ofString "many"),(Str.ofString "longest")]) (names:=[(Str.ofString "many"),(Str.ofString "longest")]) ∅ (hH (by rfl) λ a b=>by kernel_rfl)
 exact bZ Y.ok O 0 λ L=>(aw (c7 (fc (uq (ax (aa nL _) (ak _ _ _) fU) (ax (aa nL _) (ak _ _ _) cN)) (ax (aa nL _) (aE (ak _ _ _) (bg Y.ok (gA (tv Y)) tB (.cons (ak _ _ _) (.cons (aa nL _) .nil))) (ap .LShift)) fU)) (li _) cP))
noncomputable def GM:EM AF:=
 (bm (ae (ae (bN [(ae (bN []) gH),(ae (bN []) gH),(ret (.int 0)),(ret (.int 0))]) mm) λ v=>ae (pi [2,3,4,5] v) λ _=>ret .next) (bm (jX (ae (ae (rd 4) λ a=>ae (ae (bN [(rd 0)]) gI) λ b=>ae (b6 .Lt a b) tr) λ t=>if t then ret true else(ae (rd 5) λ a=>ae (ae (bN [(rd 1)]) gI) λ b=>ae (b6 .Lt a b) tr)) (bm (ae (ae (ae (rd 5) λ a=>ae (ae (bN [(rd 1)]) gI) λ b=>b6 .Eq a b) λ v=>ae (tr v) λ t=>if t then ret v else(ae (ae (rd 4) λ a=>ae (ae (bN [(rd 0)]) gI) λ b=>b6 .Lt a b) λ v=>ae (tr v) λ t=>if t then(ae (ae (rd 0) λ o=>ae (rd 4) λ i=>de o i) λ a=>ae (ae (rd 1) λ o=>ae (rd 5) λ i=>de o i) λ b=>b6 .LtE a b) else ret v)) λ v=>ae (wr 6 v) λ _=>ret .next) (bm (ae (ae (rd 3) λ v=>mH "list" lE v [(rd 6)]) er) (ae (ae (rd 6) tr) λ t=>if t then(bm (ae (ae (rd 2) λ v=>mH "list" lE v [(ae (rd 0) λ o=>ae (rd 4) λ i=>de o i)]) er) (ae (rd 4) λ o=>ae (ret (.int 1)) λ v=>ae (iL .Add o v) λ r=>ae (wr 4 r) λ _=>ret .next)) else(bm (ae (ae (rd 2) λ v=>mH "list" lE v [(ae (rd 1) λ o=>ae (rd 5) λ i=>de o i)]) er) (ae (rd 5) λ o=>ae (ret (.int 1)) λ v=>ae (iL .Add o v) λ r=>ae (wr 5 r) λ _=>ret .next))))) 1000) (ae (ae (bN [(rd 2),(rd 3)]) mm) λ v=>ret (.ret v))))
noncomputable def wm:fR:=dS 7 2 GM
theorem DF {C:Cx} (Y:KX C):b7 C 1 449 wm:=by
 have h1:(K0 C.w.params).lookup 449=some ⟨_,_,.func _,_⟩:=rfl
 have O:=bO Y.hK h1 ∅ (body:=_) rfl (params:=[(Str.ofString "weights"),(Str.ofString "pairs")]) (names:=[(Str.ofString "weights"),(Str.ofString "pairs"),(Str.ofString "row"),(Str.ofString "leaves"),(Str.ofString "leaf"),(Str.ofString "pair"),(Str.ofString "is_leaf")]) ∅ (hH (by rfl) λ a b=>by kernel_rfl)
 exact bZ Y.ok O 0 λ L=>(an (cw (.cons nL (.cons nL (.cons nL (.cons nL .nil)))) (bV (.cons (da .nil) (.cons (da .nil) (.cons (ak _ _ _) (.cons (ak _ _ _) .nil))))) ∅ ∅) (an (nO 1000 (fc (ax (aa nL _) (bg Y.ok (gA (dX Y)) dY (.cons (aa nL _) .nil)) cN) (ax (aa nL _) (bg Y.ok (gA (dX Y)) dY (.cons (aa nL _) .nil)) cN)) (an (aS nL (Ha (qp (aa nL _) (bg Y.ok (gA (dX Y)) dY (.cons (aa nL _) .nil)) dT) (Fh (qp (aa nL _) (bg Y.ok (gA (dX Y)) dY (.cons (aa nL _) .nil)) cN) (qp (bR (aa nL _) (aa nL _)) (bR (aa nL _) (aa nL _)) eV))) ∅) (an (di (dB ∅ (aa nL _) (.cons (aa nL _) .nil)) ∅ ∅) (aw (c7 (mz (aa nL _)) (an (di (dB ∅ (aa nL _) (.cons (bR (aa nL _) (aa nL _)) .nil)) ∅ ∅) (aw (ed nL (ak _ _ _) (cz .Add)))) (an (di (dB ∅ (aa nL _) (.cons (bR (aa nL _) (aa nL _)) .nil)) ∅ ∅) (aw (ed nL (ak _ _ _) (cz .Add))))))))) (aw (aQ (bV (.cons (aa nL _) (.cons (aa nL _) .nil)))))))
noncomputable def tF:EM AF:=
 (bm (ae (ae (bN [(ae (bN []) gH),(ae (bN []) gH)]) mm) λ v=>ae (pi [2,3] v) λ _=>ret .next) (bm (jU pB (ae (bN [(rd 1)]) f4) (wr 4) (bm (ae (fg [12] pB (ae (bN [(ret (.int 0)),(ae (ae (bN [(rd 3)]) gI) λ a=>ae (ret (.int 1)) λ b=>bX .Sub a b),(ret (.int 2))]) f4) (wr 12) (ret true) (ae (ae (rd 3) λ o=>ae (rd 12) λ i=>de o i) λ a=>ae (ae (rd 3) λ o=>ae (ae (rd 12) λ a=>ae (ret (.int 1)) λ b=>bX .Add a b) λ i=>de o i) λ b=>bX .Add a b)) λ v=>ae (wr 5 v) λ _=>ret .next) (bm (ae (ae (bN [(rd 0),(rd 5)]) (cr wm)) λ v=>ae (pi [3,6] v) λ _=>ret .next) (ae (ae (rd 2) λ v=>mH "list" lE v [(rd 6)]) er)))) (bm (ae (ae (bN [(ae (ae (bN [(ret (.int 0))]) gH) λ a=>ae (ae (bN [(rd 0)]) gI) λ b=>tf a b),(ae (ae (ret (.int 2)) λ a=>ae (ae (bN [(rd 0)]) gI) λ b=>bX .Mult a b) λ a=>ae (ret (.int 2)) λ b=>bX .Sub a b)]) mm) λ v=>ae (yd [8,7] v) λ _=>ret .next) (bm (jU pB (ae (bN [(rd 2)]) D8) (wr 6) (bm (ae (ret (.int 0)) λ v=>ae (wr 9 v) λ _=>ret .next) (bm (jU pB (ae (ae (rd 6) λ o=>ae (i3 none) λ a=>ae (i3 (some (rd 8))) λ b=>wu o a b) jB) (wr 10) (ae (rd 9) λ o=>ae (ae (bN [(rd 10)]) Hq) λ v=>ae (iL .Add o v) λ r=>ae (wr 9 r) λ _=>ret .next)) (bm (jU pB (ae (bN [(rd 9)]) f4) (wr 11) (ae (rd 7) λ o=>ae (rd 11) λ i=>ae (de o i) λ a=>ae (ret (.int 1)) λ v=>ae (iL .Add a v) λ r=>ae (nh o i r) λ _=>ret .next)) (ae (ae (ret (.int 2)) λ a=>ae (ae (rd 8) λ a=>ae (rd 9) λ b=>bX .Sub a b) λ b=>bX .Mult a b) λ v=>ae (wr 8 v) λ _=>ret .next))))) (ae (rd 7) λ v=>ret (.ret v))))))
noncomputable def kS:fR:=dS 13 2 tF
theorem rR {C:Cx} (Y:KX C):b7 C 2 454 kS:=by
 have h1:(K0 C.w.params).lookup 454=some ⟨_,_,.func _,_⟩:=rfl
 have O:=bO Y.hK h1 ∅ (body:=_) rfl (params:=[(Str.ofString "weights"),(Str.ofString "longest")]) (names:=[(Str.ofString "weights"),(Str.ofString "longest"),(Str.ofString "rows"),(Str.ofString "row"),(Str.ofString "lap"),(Str.ofString "pairs"),(Str.ofString "leaves"),(Str.ofString "depths"),(Str.ofString "wanted"),(Str.ofString "taken"),(Str.ofString "is_leaf"),(Str.ofString "place")]) ∅ (hH (by rfl) λ a b=>by kernel_rfl)
 exact bZ Y.ok O 1 λ L=>(an (cw (.cons nL (.cons nC .nil)) (bV (.cons (da .nil) (.cons (da .nil) .nil))) ∅ ∅) (an (dH jh (dR Y.ok (gA (iu Y)) iw (.cons (aa nL _) .nil)) (cV nL _) (an (lj nL ∅ jh (gR (vars:=[(12,(Str.ofString "place"))]) ∅ ∅ (aY ∅ aP) (dR Y.ok (gA (iu Y)) iw (.cons (ak _ _ _) (.cons (aE (bg Y.ok (gA (dX Y)) dY (.cons (aa nC _) .nil)) (ak _ _ _) (ap .Sub)) (.cons (ak _ _ _) .nil)))) (λ L=>(dr nL _)) (λ L=>dp) (λ L=>(aE (bR (aa nC _) (aa nL _)) (bR (aa nC _) (aE (aa nL _) (ak _ _ _) (ap .Add))) (ap .Add)))) ∅) (an (cw (.cons nC (.cons nL .nil)) (cQ Y.ok (gA (EC Y)) (Ev Y) ((DF Y).up ⋯) (.cons (aa nL _) (.cons (aa nL _) .nil))) ∅ ∅) (aw (di (dB ∅ (aa nL _) (.cons (aa nL _) .nil)) ∅ ∅))))) (an (c8 (names:=[(Str.ofString "depths"),(Str.ofString "wanted")]) (.cons nL (.cons nL .nil)) (bV (.cons (aE (da (.cons (ak _ _ _) .nil)) (bg Y.ok (gA (dX Y)) dY (.cons (aa nL _) .nil)) mR) (.cons (aE (aE (ak _ _ _) (bg Y.ok (gA (dX Y)) dY (.cons (aa nL _) .nil)) (ap .Mult)) (ak _ _ _) (ap .Sub)) .nil))) ∅) (an (dH jh (dR Y.ok (gA (AB Y)) I9 (.cons (aa nL _) .nil)) (cV nL _) (an (aS nL (ak _ _ _) ∅) (an (dH jh (dw (jI (aa nL _) .none (.some (aa nL _)))) (cV nL _) (aw (ed nL (bg Y.ok (gA (y0 Y)) Go (.cons (aa nL _) .nil)) (cz .Add)))) (an (dH jh (dR Y.ok (gA (iu Y)) iw (.cons (aa nL _) .nil)) (cV nL _) (aw (jL (ak _ _ _) (aa nL _) (aa nL _) (cz .Add)))) (aw (aS nL (aE (ak _ _ _) (aE (aa nL _) (aa nL _) (ap .Sub)) (ap .Mult)) ∅)))))) (aw (aQ (aa nL _)))))))
noncomputable def uA:EM AF:=
 (bm (ae (ae (bN [(rd 0)]) (cr mJ)) λ v=>ae (wr 2 v) λ _=>ret .next) (bm (ae (ae (bN [(ae (bN [(rd 2)]) gI),(rd 1)]) (cr oG)) er) (bm (ae (ae (ae (bN [(rd 2)]) gI) λ a=>ae (ret (.int 2)) λ b=>ae (b6 .Lt a b) tr) λ t=>if t then(ae (ae (bN [(ae (bN [(rd 0)]) gI),(rd 2),(ae (ae (bN [(ret (.int 1))]) gH) λ a=>ae (ae (bN [(rd 2)]) gI) λ b=>tf a b)]) (cr sO)) λ v=>ret (.ret v)) else(ret .next)) (ae (ae (bN [(ae (bN [(rd 0)]) gI),(rd 2),(ae (bN [(fg [3,4] G5 (ae (rd 2) jB) (pi [3,4]) (ret true) (rd 3)),(rd 1)]) (cr kS))]) (cr sO)) λ v=>ret (.ret v)))))
noncomputable def iz:fR:=dS 5 2 uA
theorem nM {C:Cx} (Y:KX C):b7 C 3 459 iz:=by
 have h1:(K0 C.w.params).lookup 459=some ⟨_,_,.func _,_⟩:=rfl
 have O:=bO Y.hK h1 ∅ (body:=_) rfl (params:=[(Str.ofString "counts"),(Str.ofString "longest")]) (names:=[(Str.ofString "counts"),(Str.ofString "longest"),(Str.ofString "rows")]) ∅ (hH (by rfl) λ a b=>by kernel_rfl)
 exact bZ Y.ok O 2 λ L=>(an (aS nL (cQ Y.ok (gA (uv Y)) (ut Y) ((un Y).up ⋯) (.cons (aa nL _) .nil)) ∅) (an (di (cQ Y.ok (gA (wW Y)) (wR Y) ((wD Y).up ⋯) (.cons (bg Y.ok (gA (dX Y)) dY (.cons (aa nL _) .nil)) (.cons (aa nL _) .nil))) ∅ ∅) (an (c7 (ax (bg Y.ok (gA (dX Y)) dY (.cons (aa nL _) .nil)) (ak _ _ _) cN) (aw (aQ (cQ Y.ok (gA (xL Y)) (xI Y) ((xj Y).up ⋯) (.cons (bg Y.ok (gA (dX Y)) dY (.cons (aa nL _) .nil)) (.cons (aa nL _) (.cons (aE (da (.cons (ak _ _ _) .nil)) (bg Y.ok (gA (dX Y)) dY (.cons (aa nL _) .nil)) mR) .nil)))))) cP) (aw (aQ (cQ Y.ok (gA (xL Y)) (xI Y) ((xj Y).up ⋯) (.cons (bg Y.ok (gA (dX Y)) dY (.cons (aa nL _) .nil)) (.cons (aa nL _) (.cons (cQ Y.ok (gA (sw Y)) (sm Y) ((rR Y).up ⋯) (.cons (cS zM (gR (vars:=[(3,(Str.ofString "count")),(4,(Str.ofString "symbol"))]) ∅ ∅ (aY ∅ (aY ∅ aP)) (dw (aa nL _)) (λ L=>(kZ (.cons nL (.cons nL .nil)) _ _)) (λ L=>dp) (λ L=>(aa nL _)))) (.cons (aa nL _) .nil))) .nil)))))))))
structure ZE (C:Cx) (k:Nat) (stor:Nat→Stor) (t:Sem Value) (f:EM AV):Prop where
 out:cE C k stor t f
structure ZB (C:Cx) (k:Nat) (stor:Nat→Stor) (t:Sem Bool) (f:EM Bool):Prop where
 out:kR C k stor t f
structure ZS (C:Cx) (k:Nat) (stor:Nat→Stor) (t:Sem Flow) (f:EM AF):Prop where
 out:mI C k stor t f
structure ZI (C:Cx) (k:Nat) (stor:Nat→Stor) (env:Env) (iter:Expr) (g:EM IT):Prop where
 out:zj C k stor env iter g
structure ZA (C:Cx) (k:Nat) (stor:Nat→Stor) (t:Value→Sem Unit) (f:AV→EM Unit):Prop where
 out:ES C k stor t f
inductive ZEach (C:Cx) (k:Nat) (stor:Nat→Stor) (env:Env):List Expr→List (EM AV)→Prop
 |nil:ZEach C k stor env [] []
 |cons {e:Expr} {es:List Expr} {f:EM AV} {fs:List (EM AV)} (h:ZE C k stor (eval e env) f) (r:ZEach C k stor env es fs)
   (hs:autoParam (starEach (e::es) env=(false,eval e env)::starEach es env) aR):ZEach C k stor env (e::es) (f::fs)
theorem ZEach.out {C:Cx} {k:Nat} {stor:Nat→Stor} {env:Env} {es:List Expr} {fs:List (EM AV)} (h:ZEach C k stor env es fs):SndEach C k stor env es fs:=by
 induction h with
 |nil=>exact .nil
 |cons h r hs ih=>exact .cons h.out ih hs
theorem kA {c:Const} {i:Nat} {pos:Pos} {es:List Expr} {env:Env}:starEach (.Constant c i pos::es) env=(false,eval (.Constant c i pos) env)::starEach es env:=rfl
theorem HV {a b:Expr} {op:Operator} {pos:Pos} {es:List Expr} {env:Env}:starEach (.BinOp a op b pos::es) env=(false,eval (.BinOp a op b pos) env)::starEach es env:=rfl
section
variable{C:Cx} {k:Nat} {stor:Nat→Stor} {env:Env}
theorem Bb {st:Stmt} {rest:List Stmt} {f g:EM AF} (hf:ZS C k stor (exec st env) f) (hg:ZS C k stor (execs rest env) g):ZS C k stor (execs (st::rest) env) (bm f g):=⟨an hf.out hg.out⟩
theorem n7 {st:Stmt} {f:EM AF} (hf:ZS C k stor (exec st env) f):ZS C k stor (execs [st] env) f:=⟨aw hf.out⟩
theorem dm {x:Str} {px pos:Pos} {e:Expr} {i:Nat} {f:EM AV} (n:NameAt env stor x i) (hf:ZE C k stor (eval e env) f) (hs:swapsWith e (some (.Name x px)) pos.line env=pure false):
  ZS C k stor (exec (.Assign [.Name x px] e pos) env) (ae f λ v=>ae (wr i v) λ _=>Mine.Internal.ret .next):=⟨aS n hf.out hs⟩
theorem e8 {es:List Expr} {fs:List (EM AV)} {pos:Pos} (h:ZEach C k stor env es fs):ZE C k stor (eval (.List es pos) env) (ae (bN fs) gH):=⟨da h.out⟩
theorem mN {es:List Expr} {fs:List (EM AV)} {j:Nat} {pos:Pos} (h:ZEach C k stor env es fs):ZE C k stor (eval (.Tuple es j pos) env) (ae (bN fs) mm):=⟨bV h.out⟩
theorem bx (i:Int) (j:Nat) (pos:Pos):ZE C k stor (eval (.Constant (.int i) j pos) env) (ret (.int i)):=⟨ak i j pos⟩
theorem bv {x:Str} {i:Nat} (n:NameAt env stor x i) (pos:Pos):ZE C k stor (eval (.Name x pos) env) (rd i):=⟨aa n pos⟩
theorem eU (H:C.Ok) {x:Str} {p pos:Pos} {f:Addr} {G:fR} {es:List Expr} {fs:List (EM AV)} (n:GlobAt C env x (.ref f)) (hk:keepIn C.K (.ref f)=true) (hf:b7 C k f G) (hE:ZEach C k stor env es fs):
  ZE C k stor (eval (.Call (.Name x p) es [] pos) env) (ae (bN fs) (cr G)):=⟨cQ H n hk hf hE.out⟩
theorem Cc {test body orelse:Expr} {pos:Pos} {f:EM Bool} {g e:EM AV} (hf:ZB C k stor (isTrue test env (eval test env)) f) (hg:ZE C k stor (eval body env) g) (he:ZE C k stor (eval orelse env) e):
  ZE C k stor (eval (.IfExp test body orelse pos) env) (ae f λ t=>if t then g else e):=⟨jK hf.out hg.out he.out⟩
theorem DA {test:Expr} {body orelse:List Stmt} {pos:Pos} {f:EM Bool} {g e:EM AF} (hf:ZB C k stor (isTrue test env (eval test env)) f) (hg:ZS C k stor (execs body env) g) (he:ZS C k stor (execs orelse env) e):
  ZS C k stor (exec (.If test body orelse pos) env) (ae f λ t=>if t then g else e):=⟨c7 hf.out hg.out he.out⟩
theorem oP {l r:Expr} {op:Operator} {pos:Pos} {fl fr:EM AV} {g:AV→AV→EM AV} (hl:ZE C k stor (eval l env) fl) (hr:ZE C k stor (eval r env) fr) (ho:tD C k stor (binaryOp op) g):
  ZE C k stor (eval (.BinOp l op r pos) env) (ae fl λ a=>ae fr λ b=>g a b):=⟨aE hl.out hr.out ho⟩
theorem mw {e:Expr} {pos:Pos} {f:EM AV} (hf:ZE C k stor (eval e env) f):ZS C k stor (exec (.Return (some e) pos) env) (ae f λ v=>Mine.Internal.ret (.ret v)):=⟨aQ hf.out⟩
theorem Dz {x:Str} {i:Nat} (n:NameAt env stor x i) (pos:Pos):ZA C k stor (assign (.Name x pos) env) (wr i):=⟨cV n pos⟩
theorem xc {value slice:Expr} {pos:Pos} {fv fi:EM AV} (hv:ZE C k stor (eval value env) fv) (hi:ZE C k stor (eval slice env) fi) (hs:autoParam (∀o i,subscripted slice false o i=operate [o,i] (getItem o i)) aI):
  ZE C k stor (eval (.Subscript value slice pos) env) (ae fv λ o=>ae fi λ i=>de o i):=⟨bR hv.out hi.out hs⟩
theorem zF {e:Expr} {f:EM AV} (hf:ZE C k stor (eval e env) f) (he:autoParam (isTrue e env (eval e env)=(do let v←eval e env;standAt e.pos;holding [v] (truthy v))) aR):
  ZB C k stor (isTrue e env (eval e env)) (ae f tr):=⟨mz hf.out he⟩
theorem G0 (H:C.Ok) {x:Str} {p pos:Pos} {f:Value} {g:List AV→EM IT} {es:List Expr} {fs:List (EM AV)} (n:GlobAt C env x f) (hg:CI C k stor f g) (hE:ZEach C k stor env es fs) (hf:autoParam (Ez f=true) aR):
  ZI C k stor env (.Call (.Name x p) es [] pos) (ae (bN fs) g):=⟨dR H n hg hE.out hf⟩
theorem It {target iter:Expr} {body:List Stmt} {pos:Pos} {tg:IT→Bool} {g:EM IT} {asg:AV→EM Unit} {b:EM AF} (ht:kz target=tg) (hi:ZI C k stor env iter g) (ha:ZA C k stor (assign target env) asg) (hb:ZS C k stor (execs body env) b)
  (hs:autoParam (∀x,foldedSetIterable iter env x=pure x) aI):ZS C k stor (exec (.For target iter body [] pos) env) (jU tg g asg b):=⟨dH ht hi.out ha.out hb.out hs⟩
theorem zG {o:Expr} {name:Str} {apos pos:Pos} {es:List Expr} {fo:EM AV} {fs:List (EM AV)} (hname:name=("append":Str)) (ho:ZE C k stor (eval o env) fo) (hE:ZEach C k stor env es fs)
  (hbase:autoParam (attributeBase o name env (eval o env)=eval o env) aR)
  (hfew:autoParam (((backTo pos (starEach es env)).all (λ x=> !x.1)&&(backToKw pos (keywordEach [] env)).all (λ x=>x.1.isSome)
   &&decide (es.length+([]:List Keyword).length+(if([]:List Keyword).isEmpty then 0 else 1)<30))=true) aR)
  (hline:autoParam ((apos.endLine==pos.line)=true) aR):
  ZE C k stor (eval (.Call (.Attribute o name apos) es [] pos) env) (ae fo λ v=>mH "list" lE v fs):=⟨dB hname ho.out hE.out hbase hfew hline⟩
theorem GY {o:Expr} {name:Str} {apos pos:Pos} {es:List Expr} {fo:EM AV} {fs:List (EM AV)} (hname:name=("index":Str)) (ho:ZE C k stor (eval o env) fo) (hE:ZEach C k stor env es fs)
  (hbase:autoParam (attributeBase o name env (eval o env)=eval o env) aR)
  (hfew:autoParam (((backTo pos (starEach es env)).all (λ x=> !x.1)&&(backToKw pos (keywordEach [] env)).all (λ x=>x.1.isSome)
   &&decide (es.length+([]:List Keyword).length+(if([]:List Keyword).isEmpty then 0 else 1)<30))=true) aR)
  (hline:autoParam ((apos.endLine==pos.line)=true) aR):
  ZE C k stor (eval (.Call (.Attribute o name apos) es [] pos) env) (ae fo λ v=>mH "list" rB v fs):=⟨DJ hname ho.out hE.out hbase hfew hline⟩
theorem HT {l r:Expr} {op:CmpOp} {pos:Pos} {fl fr:EM AV} {g:AV→AV→EM AV} (hl:ZE C k stor (eval l env) fl) (hr:ZE C k stor (eval r env) fr) (ho:tD C k stor (compareOp op) g) (hm:autoParam (behindInMarks op r=false) aW):
  ZE C k stor (eval (.Compare l [op] [r] pos) env) (ae fl λ a=>ae fr λ b=>g a b):=⟨qp hl.out hr.out ho hm⟩
theorem EX {e:Expr} {pos:Pos} {f:EM AV} (hf:ZE C k stor (eval e env) f) (hi:interactive env=false) (hs:swapsWith e none pos.line env=pure false):
  ZS C k stor (exec (.Expr e pos) env) (ae f er):=⟨di hf.out hi hs⟩
theorem dK {l r:Expr} {op:CmpOp} {pos:Pos} {whole:Sem Value} {fl fr:EM AV} {g:AV→AV→EM AV} (hl:ZE C k stor (eval l env) fl) (hr:ZE C k stor (eval r env) fr) (ho:tD C k stor (compareOp op) g) (hm:autoParam (behindInMarks op r=false) aW):
  ZB C k stor (isTrue (.Compare l [op] [r] pos) env whole) (ae fl λ a=>ae fr λ b=>ae (g a b) tr):=⟨ax hl.out hr.out ho hm⟩
end
structure ZAx (C:Cx) (k:Nat) (stor:Nat→Stor) (is:List Nat) (t:Value→Sem Unit) (f:AV→EM Unit):Prop where
 out:wl C k stor is t f
structure ZSO (C:Cx) (k:Nat) (stor:Nat→Stor) (t:Sem Flow) (f:EM AF):Prop where
 out:GI C k stor t f
structure ZEO (C:Cx) (k:Nat) (stor:Nat→Stor) (t:Sem Value) (f:EM AV):Prop where
 out:uh C k stor t f
inductive ZP (C:Cx) (k:Nat) (stor:Nat→Stor) (env:Env):Option Expr→Option (EM AV)→Prop
 |none:ZP C k stor env none none
 |some {e:Expr} {f:EM AV} (h:ZE C k stor (eval e env) f):ZP C k stor env (some e) (some f)
theorem ZP.out {C:Cx} {k:Nat} {stor:Nat→Stor} {env:Env} {e:Option Expr} {f:Option (EM AV)} (h:ZP C k stor env e f):SndP C k stor env e f:=by
 cases h with
 |none=>exact .none
 |some h=>exact .some h.out
section
variable{C:Cx} {k:Nat} {stor:Nat→Stor} {env:Env}
theorem xd {t:Sem Flow} {f:EM AF} (h:ZS C k stor t f):ZSO C k stor t f:=⟨h.out.o⟩
theorem rf {elt target iter:Expr} {ifs:List Expr} {scope:Scope} {pos py spos:Pos} {y:Str} {iy:Nat} {vars:List (Nat×Str)} {tg:IT→Bool} {g:EM IT} {asg:AV→EM Unit} {test:EM Bool} {fe:EM AV} (n:NameAt env stor y iy) (hiy:(vars.map (·.1)).contains iy=false) (ht:kz target=tg) (X:CompAt C k stor env elt target iter ifs scope vars (rF scope env) g asg test fe) (hsw:swapsWith (.ListComp elt [⟨target,iter,ifs,0⟩] scope pos) (some (.Name y py)) spos.line env=pure true) (hs:autoParam (∀x,foldedSetIterable iter env x=pure x) aI):ZS C k stor (exec (.Assign [.Name y py] (.ListComp elt [⟨target,iter,ifs,0⟩] scope pos) spos) env) (ae (fg (vars.map (·.1)) tg g asg test fe) λ v=>ae (wr iy v) λ _=>Mine.Internal.ret .next):=⟨lj n hiy ht X hsw hs⟩
theorem nH {es:List Expr} {j:Nat} {tp pos:Pos} {e:Expr} {names:List Str} {is:List Nat} {f:EM AV} (n:StrsAt env stor names.reverse is) (hf:ZE C k stor (eval e env) f) (hw:swappedStores [.Tuple es j tp] e env=pure (some names)) (hlen:autoParam (names.length=is.length) aR) (hs:autoParam (swapsWithSole [.Tuple es j tp] e pos.line env=pure false) aR):ZS C k stor (exec (.Assign [.Tuple es j tp] e pos) env) (ae f λ v=>ae (yd is v) λ _=>Mine.Internal.ret .next):=⟨c8 n hf.out hw hlen hs⟩
theorem uZ {es:List Expr} {j:Nat} {tp pos:Pos} {e:Expr} {is:List Nat} {f:EM AV} (n:NamesAt env stor es is) (hf:ZE C k stor (eval e env) f) (hs:autoParam (swapsWithSole [.Tuple es j tp] e pos.line env=pure false) aR) (hw:autoParam (swappedStores [.Tuple es j tp] e env=pure none) aR):ZS C k stor (exec (.Assign [.Tuple es j tp] e pos) env) (ae f λ v=>ae (pi is v) λ _=>Mine.Internal.ret .next):=⟨cw n hf.out hs hw⟩
theorem uj {es:List Expr} {j:Nat} {tp pos:Pos} {e:Expr} {is:List Nat} {f:EM AV} (n:NamesAt env stor es is) (hf:ZEO C k stor (eval e env) f) (hs:autoParam (swapsWithSole [.Tuple es j tp] e pos.line env=pure false) aR) (hw:autoParam (swappedStores [.Tuple es j tp] e env=pure none) aR):ZSO C k stor (exec (.Assign [.Tuple es j tp] e pos) env) (ae f λ v=>ae (pi is v) λ _=>Mine.Internal.ret .next):=⟨mQ n hf.out hs hw⟩
theorem EY (H:C.Ok) {e:Expr} {pos:Pos} {fe:EM AV} {cls:List Addr} {cc:List (Addr×Int)} {f:Nat} (he:ZE C k stor (eval e env) fe) (hf:GN C f) (hc:∀c∈cls,AtOk C c (C.fname f)) (hcc:∀p∈cc,AtCls C p.1 (C.fname f) p.2) {x:Str} (hx:x=C.fname f) (hn:autoParam (eval (.Attribute e x pos) env=(do
   let o←eval e env
   standAt pos.atName
   let r←holding [o] (getAttr o x true)
   letTemporaryGo e o r
   pure r)) aR):ZE C k stor (eval (.Attribute e x pos) env) (ae fe (cK cls cc f)):=⟨bL H he.out hf hc hcc hx hn⟩
theorem uY (i:Bool) (j:Nat) (pos:Pos):ZE C k stor (eval (.Constant (.bool i) j pos) env) (ret (.bool i)):=⟨r6 i j pos⟩
theorem n8 (H:C.Ok) {x:Str} {p pos:Pos} {f:Value} {g:List AV→EM AV} {es:List Expr} {fs:List (EM AV)} (n:GlobAt C env x f) (hg:CB C k stor f g) (hE:ZEach C k stor env es fs) (hf:autoParam (Ez f=true) aR):ZE C k stor (eval (.Call (.Name x p) es [] pos) env) (ae (bN fs) g):=⟨bg H n hg hE.out hf⟩
theorem GZ (H:C.Ok) {x:Str} {p pos:Pos} {f:Addr} {G:fR} {es:List Expr} {fs:List (EM AV)} (n:GlobAt C env x (.ref f)) (hk:keepIn C.K (.ref f)=true) (hf:gU C k f G) (hE:ZEach C k stor env es fs):ZEO C k stor (eval (.Call (.Name x p) es [] pos) env) (ae (bN fs) (cr G)):=⟨xn H n hk hf hE.out⟩
theorem fh {st:Stmt} {rest:List Stmt} {f g:EM AF} (hf:ZSO C k stor (exec st env) f) (hg:ZSO C k stor (execs rest env) g):ZSO C k stor (execs (st::rest) env) (bm f g):=⟨an hf.out hg.out⟩
theorem GX {st:Stmt} {f:EM AF} (hf:ZSO C k stor (exec st env) f):ZSO C k stor (execs [st] env) f:=⟨aw hf.out⟩
theorem yc {e:Expr} {pos:Pos} {whole:Sem Value} {f:EM Bool} (hf:ZB C k stor (isTrue e env (eval e env)) f):ZB C k stor (isTrue (.UnaryOp .Not e pos) env whole) (ae f λ b=>ret (!b)):=⟨ff hf.out⟩
theorem yb {a b:Expr} {pos:Pos} {whole:Sem Value} {f g:EM Bool} (hf:ZB C k stor (isTrue a env (eval a env)) f) (hg:ZB C k stor (isTrue b env (eval b env)) g):ZB C k stor (isTrue (.BoolOp .Or [a,b] pos) env whole) (ae f λ t=>if t then ret true else g):=⟨fc hf.out hg.out⟩
theorem rM {a b c:Expr} {pos:Pos} {whole:Sem Value} {f g e:EM Bool} (hf:ZB C k stor (isTrue a env (eval a env)) f) (hg:ZB C k stor (isTrue b env (eval b env)) g) (he:ZB C k stor (isTrue c env (eval c env)) e):ZB C k stor (isTrue (.BoolOp .Or [a,b,c] pos) env whole) (ae f λ t=>if t then ret true else ae g λ t=>if t then ret true else e):=⟨j6 hf.out hg.out he.out⟩
theorem Ba {iter:Expr} {f:EM AV} (hf:ZE C k stor (eval iter env) f):ZI C k stor env iter (ae f jB):=⟨dw hf.out⟩
theorem tQ {elt target iter:Expr} {ifs:List Expr} {scope:Scope} {pos:Pos} {vars:List (Nat×Str)} {tg:IT→Bool} {g:EM IT} {asg:AV→EM Unit} {test:EM Bool} {fe:EM AV} (ht:kz target=tg) (X:CompAt C k stor env elt target iter ifs scope vars (rF scope env) g asg test fe) (hs:autoParam (∀x,foldedSetIterable iter env x=pure x) aI):ZE C k stor (eval (.ListComp elt [⟨target,iter,ifs,0⟩] scope pos) env) (fg (vars.map (·.1)) tg g asg test fe):=⟨cS ht X hs⟩
theorem A9 (H:C.Ok) {o:Expr} {name:Str} {apos pos:Pos} {es:List Expr} {fo:EM AV} {fs:List (EM AV)} {D:List (Addr×fR)} {pl:Sem Bool} (hn:∀i,C.fname i≠name) (hD:∀p∈D,MethOk C k p.1 name p.2) (ho:ZE C k stor (eval o env) fo) (hE:ZEach C k stor env es fs) (he:autoParam (eval (.Call (.Attribute o name apos) es [] pos) env=(do
   let ov←eval o env
   standAt apos.atName
   let(f,first)←holding [ov] (getMethod ov name pl)
   callWith pos f first (backTo pos (starEach es env)) (backToKw pos (keywordEach [] env)))) aR):ZE C k stor (eval (.Call (.Attribute o name apos) es [] pos) env) (ae fo λ v=>eY D v fs):=⟨e9 H hn hD ho.out hE.out he⟩
theorem uX (H:C.Ok) {x:Str} {p pos:Pos} {c fI:Addr} {G:fR} {es:List Expr} {fs:List (EM AV)} (n:GlobAt C env x (.ref c)) (hc:ClsOk C c) (hi:findIn C.K (.ref c) "__init__"=some (some (.ref fI))) (ht:typeIn C.K (.ref fI)=some (.type "function")) (hf:b7 C k fI G) (hE:ZEach C (k+1) stor env es fs):ZE C (k+1) stor (eval (.Call (.Name x p) es [] pos) env) (ae (bN fs) (pt c G)):=⟨yq H n hc hi ht hf hE.out⟩
theorem ya (H:C.Ok) {x:Str} {p pos:Pos} {c:Addr} (n:GlobAt C env x (.ref c)) (hc:ClsOk C c) (hi:findIn C.K (.ref c) "__init__"=some (some (.builtin "object.__init__"))):ZE C k stor (eval (.Call (.Name x p) [] [] pos) env) (Ej c):=⟨Fe H n hc hi⟩
theorem zE:ZS C k stor (execs [] env) (Mine.Internal.ret .next):=⟨cP⟩
theorem GW {value:Expr} {lower upper:Option Expr} {p pos:Pos} {fv:EM AV} {fl fu:Option (EM AV)} (hv:ZE C k stor (eval value env) fv) (hl:ZP C k stor env lower fl) (hu:ZP C k stor env upper fu) (ht:autoParam (∀o r,letTemporaryGo value o r=pure ()) aI):ZE C k stor (eval (.Subscript value (.Slice lower upper none p) pos) env) (ae fv λ o=>ae (i3 fl) λ a=>ae (i3 fu) λ b=>wu o a b):=⟨jI hv.out hl.out hu.out ht⟩
theorem JN (i:Str) (j:Nat) (pos:Pos):ZE C k stor (eval (.Constant (.str i) j pos) env) (ret (.str i)):=⟨rZ i j pos⟩
theorem tP:ZB C k stor (fP [] env) (ret true):=⟨dp⟩
theorem zD {c:Expr} {f:EM Bool} (h:ZB C k stor (isTrue c env (eval c env)) f):ZB C k stor (fP [c] env) f:=⟨iA h.out⟩
theorem re {x:Str} {i:Nat} (n:NameAt env stor x i) (pos:Pos):ZAx C k stor [i] (assign (.Name x pos) env) (wr i):=⟨dr n pos⟩
theorem sV {elt target iter:Expr} {ifs:List Expr} {scope:Scope} {vars:List (Nat×Str)} {g:EM IT} {asg:AV→EM Unit} {test:EM Bool} {fe:EM AV} (hc:(HG env scope.names []).isSome=true) (hk:y9 scope vars=true) (hsl:∀p∈vars,stor p.1= .none) (hi:ZI C k stor env iter g) (ha:∀L,ZAx C k (eX stor (vm vars L)) (vars.map (·.1)) (assign target (compEnvC scope (rF scope env) L env)) asg) (htst:∀L,ZB C k (eX stor (vm vars L)) (fP ifs (compEnvC scope (rF scope env) L env)) test) (he:∀L,ZE C k (eX stor (vm vars L)) (eval elt (compEnvC scope (rF scope env) L env)) fe):CompAt C k stor env elt target iter ifs scope vars (rF scope env) g asg test fe:=gR hc hk hsl hi.out (λ L=>(ha L).out) (λ L=>(htst L).out) (λ L=>(he L).out)
end
noncomputable def B9:EM AF:=
 (bm (ae (ret (.int 0)) λ v=>ae (wr 1 v) λ _=>ret .next) (bm (jU pB (ae (ae (rd 0) λ o=>ae (i3 none) λ a=>ae (i3 (some (ret (.int 24)))) λ b=>wu o a b) jB) (wr 2) (ae (ae (ae (ae (ae (rd 1) λ a=>ae (ret (.int 1009)) λ b=>bX .Mult a b) λ a=>ae (ae (ret (.int 2)) λ a=>ae (ae (bN [(rd 2)]) Jl) λ b=>bX .Mult a b) λ b=>bX .Add a b) λ a=>ae (ae (bN [(ae (rd 2) λ a=>ae (ret (.int 0)) λ b=>b6 .Lt a b)]) Hq) λ b=>bX .Add a b) λ a=>ae (ae (ret (.int 10)) λ a=>ae (ret (.int 70)) λ b=>bX .Pow a b) λ b=>bX .Mod a b) λ v=>ae (wr 1 v) λ _=>ret .next)) (ae (ae (bN [(rd 1),(ret (.int 0))]) gH) λ v=>ret (.ret v))))
noncomputable def rH:fR:=dS 3 1 B9
theorem zT {C:Cx} (Y:KX C):b7 C 1 466 rH:=by
 have h1:(K0 C.w.params).lookup 466=some ⟨_,_,.func _,_⟩:=rfl
 have O:=bO Y.hK h1 ∅ (body:=_) rfl (params:=[(Str.ofString "script")]) (names:=[(Str.ofString "script"),(Str.ofString "whole"),(Str.ofString "cell")]) ∅ (i5 (by rfl) λ a=>by kernel_rfl)
 exact bZ Y.ok O 0 λ L=>(an (aS nL (ak _ _ _) ∅) (an (dH jh (dw (jI (aa nL _) .none (.some (ak _ _ _)))) (cV nL _) (aw (aS nL (aE (aE (aE (aE (aa nL _) (ak _ _ _) (ap .Mult)) (aE (ak _ _ _) (bg Y.ok (gA (I3 Y)) Jb (.cons (aa nL _) .nil)) (ap .Mult)) (ap .Add)) (bg Y.ok (gA (y0 Y)) Go (.cons (qp (aa nL _) (ak _ _ _) cN) .nil)) (ap .Add)) (aE (ak _ _ _) (ak _ _ _) (ap .Pow)) (ap .Mod)) ∅))) (aw (aQ (da (.cons (aa nL _) (.cons (ak _ _ _) .nil)))))))
noncomputable def B6:EM AF:=
 (bm (ae (ae (ae (rd 0) λ o=>ae (ret (.int 0)) λ i=>de o i) λ a=>ae (ret (.int 0)) λ b=>ae (b6 .Gt a b) tr) λ t=>if t then(bm (ae (ae (ae (rd 0) λ o=>ae (ret (.int 0)) λ i=>de o i) λ a=>ae (rd 1) λ b=>bX .Mod a b) λ v=>ae (wr 2 v) λ _=>ret .next) (bm (ae (ae (ae (rd 0) λ o=>ae (ret (.int 0)) λ i=>de o i) λ a=>ae (rd 1) λ b=>bX .FloorDiv a b) λ v=>ae (rd 0) λ o=>ae (ret (.int 0)) λ i=>ae (nh o i v) λ _=>ret .next) (ae (rd 2) λ v=>ret (.ret v)))) else(ret .next)) (bm (ae (rd 0) λ o=>ae (ret (.int 1)) λ i=>ae (de o i) λ a=>ae (ret (.int 1)) λ v=>ae (iL .Add a v) λ r=>ae (nh o i r) λ _=>ret .next) (ae (ae (ae (ae (ret (.int 7)) λ a=>ae (ae (rd 0) λ o=>ae (ret (.int 1)) λ i=>de o i) λ b=>bX .Mult a b) λ a=>ae (ret (.int 3)) λ b=>bX .Add a b) λ a=>ae (rd 1) λ b=>bX .Mod a b) λ v=>ret (.ret v))))
noncomputable def fG:fR:=dS 3 2 B6
theorem gy {C:Cx} (Y:KX C):b7 C 1 473 fG:=by
 have h1:(K0 C.w.params).lookup 473=some ⟨_,_,.func _,_⟩:=rfl
 have O:=bO Y.hK h1 ∅ (body:=_) rfl (params:=[(Str.ofString "pool"),(Str.ofString "many")]) (names:=[(Str.ofString "pool"),(Str.ofString "many"),(Str.ofString "digit")]) ∅ (hH (by rfl) λ a b=>by kernel_rfl)
 exact bZ Y.ok O 0 λ L=>(an (c7 (ax (bR (aa nL _) (ak _ _ _)) (ak _ _ _) fU) (an (aS nL (aE (bR (aa nL _) (ak _ _ _)) (aa nL _) (ap .Mod)) ∅) (an (iU (aE (bR (aa nL _) (ak _ _ _)) (aa nL _) (ap .FloorDiv)) (aa nL _) (ak _ _ _) ∅) (aw (aQ (aa nL _))))) cP) (an (jL (ak _ _ _) (aa nL _) (ak _ _ _) (cz .Add)) (aw (aQ (aE (aE (aE (ak _ _ _) (bR (aa nL _) (ak _ _ _)) (ap .Mult)) (ak _ _ _) (ap .Add)) (aa nL _) (ap .Mod))))))
noncomputable def B7:EM AF:=
 (bm (ae (ae (bN []) gH) λ v=>ae (wr 3 v) λ _=>ret .next) (bm (jU pB (ae (bN [(rd 1)]) f4) (wr 4) (jU pB (ae (bN [(rd 2)]) f4) (wr 5) (bm (ae (ae (rd 3) λ v=>mH "list" lE v [(ae (bN [(rd 0),(ae (bN [(ret (.int 0)),(ae (rd 4) λ a=>ae (ret (.int 1)) λ b=>bX .Sub a b)]) vF)]) mm)]) er) (ae (rd 0) λ o=>ae (ae (ret (.int 1)) λ a=>ae (ae (bN [(ret (.int 0)),(ae (rd 4) λ a=>ae (ret (.int 1)) λ b=>bX .Sub a b)]) vF) λ b=>bX .LShift a b) λ v=>ae (iL .Add o v) λ r=>ae (wr 0 r) λ _=>ret .next)))) (ae (rd 3) λ v=>ret (.ret v))))
noncomputable def oF:fR:=dS 6 3 B7
theorem tS {C:Cx} (Y:KX C):b7 C 1 480 oF:=by
 have h1:(K0 C.w.params).lookup 480=some ⟨_,_,.func _,_⟩:=rfl
 have O:=bO Y.hK h1 ∅ (body:=_) rfl (params:=[(Str.ofString "first"),(Str.ofString "groups"),(Str.ofString "size")]) (names:=[(Str.ofString "first"),(Str.ofString "groups"),(Str.ofString "size"),(Str.ofString "found"),(Str.ofString "group"),(Str.ofString "turn")]) ∅ (kl (by rfl) λ a b c=>by kernel_rfl)
 exact bZ Y.ok O 0 λ L=>(an (aS nL (da .nil) ∅) (an (dH jh (dR Y.ok (gA (iu Y)) iw (.cons (aa nL _) .nil)) (cV nL _) (aw (dH jh (dR Y.ok (gA (iu Y)) iw (.cons (aa nL _) .nil)) (cV nL _) (an (di (dB ∅ (aa nL _) (.cons (bV (.cons (aa nL _) (.cons (bg Y.ok (gA (tv Y)) tB (.cons (ak _ _ _) (.cons (aE (aa nL _) (ak _ _ _) (ap .Sub)) .nil))) .nil))) .nil)) ∅ ∅) (aw (ed nL (aE (ak _ _ _) (bg Y.ok (gA (tv Y)) tB (.cons (ak _ _ _) (.cons (aE (aa nL _) (ak _ _ _) (ap .Sub)) .nil))) (ap .LShift)) (cz .Add))))))) (aw (aQ (aa nL _)))))
noncomputable def zr:EM AF:=
 (bm (ae (ae (ae (bN [(fg [3] pB (ae (rd 0) jB) (wr 3) (ae (ae (rd 3) λ o=>ae (ret (.int 0)) λ i=>de o i) λ a=>ae (rd 1) λ b=>ae (b6 .LtE a b) tr) (rd 3))]) gI) λ a=>ae (ret (.int 1)) λ b=>bX .Sub a b) λ v=>ae (wr 2 v) λ _=>ret .next) (ae (ae (bN [(rd 2),(ae (ae (rd 0) λ o=>ae (rd 2) λ i=>de o i) λ o=>ae (ret (.int 1)) λ i=>de o i),(ae (rd 1) λ a=>ae (ae (ae (rd 0) λ o=>ae (rd 2) λ i=>de o i) λ o=>ae (ret (.int 0)) λ i=>de o i) λ b=>bX .Sub a b)]) mm) λ v=>ret (.ret v)))
noncomputable def mh:fR:=dS 4 2 zr
theorem qN {C:Cx} (Y:KX C):b7 C 1 485 mh:=by
 have h1:(K0 C.w.params).lookup 485=some ⟨_,_,.func _,_⟩:=rfl
 have O:=bO Y.hK h1 ∅ (body:=_) rfl (params:=[(Str.ofString "rows"),(Str.ofString "value")]) (names:=[(Str.ofString "rows"),(Str.ofString "value"),(Str.ofString "at")]) ∅ (hH (by rfl) λ a b=>by kernel_rfl)
 exact bZ Y.ok O 1 λ L=>(an (aS nL (aE (bg Y.ok (gA (dX Y)) dY (.cons (cS jh (gR (vars:=[(3,(Str.ofString "row"))]) ∅ ∅ (aY ∅ aP) (dw (aa nL _)) (λ L=>(dr nL _)) (λ L=>(iA (ax (bR (aa nL _) (ak _ _ _)) (aa nC _) eV))) (λ L=>(aa nL _)))) .nil)) (ak _ _ _) (ap .Sub)) ∅) (aw (aQ (bV (.cons (aa nL _) (.cons (bR (bR (aa nL _) (aa nL _)) (ak _ _ _)) (.cons (aE (aa nC _) (bR (bR (aa nL _) (aa nL _)) (ak _ _ _)) (ap .Sub)) .nil)))))))
noncomputable def A2:EM AF:=
 (bm (ae (ae (bN [(ae (bN [(ret (.int 0)),(ae (bN [(rd 0),(ret (.int 256))]) (cr fG))]) mm)]) gH) λ v=>ae (wr 2 v) λ _=>ret .next) (bm (jU pB (ae (bN [(ae (bN [(rd 0),(ae (ae (rd 1) tr) λ t=>if t then(ret (.int 11)) else(ret (.int 3)))]) (cr fG))]) f4) (wr 3) (ae (ae (ae (bN [(rd 0),(ret (.int 3))]) (cr fG)) λ a=>ae (ret (.int 0)) λ b=>ae (b6 .Eq a b) tr) λ t=>if t then(ae (ae (rd 2) λ v=>mH "list" lE v [(ae (bN [(ret (.int 0)),(ae (ae (bN [(ret (.int 0)),(ret (.int 97)),(ret (.int 255)),(ret (.int 144))]) gH) λ o=>ae (ae (bN [(rd 0),(ret (.int 4))]) (cr fG)) λ i=>de o i)]) mm)]) er) else(bm (ae (ae (ae (bN [(ret (.int 3)),(ret (.int 4)),(ret (.int 10)),(ret (.int 11)),(ret (.int 18)),(ret (.int 66)),(ret (.int 130)),(ret (.int 257)),(ret (.int 258)),(ae (ret (.int 3)) λ a=>ae (ae (bN [(rd 0),(ret (.int 256))]) (cr fG)) λ b=>bX .Add a b)]) gH) λ o=>ae (ae (bN [(rd 0),(ret (.int 10))]) (cr fG)) λ i=>de o i) λ v=>ae (wr 4 v) λ _=>ret .next) (ae (ae (rd 2) λ v=>mH "list" lE v [(ae (bN [(rd 4),(ae (ae (bN [(ret (.int 1)),(ret (.int 2)),(ret (.int 4)),(ret (.int 5)),(ret (.int 9)),(ret (.int 33)),(ret (.int 24576)),(ret (.int 24577)),(ret (.int 32768)),(ae (ret (.int 1)) λ a=>ae (ae (bN [(rd 0),(ret (.int 32768))]) (cr fG)) λ b=>bX .Add a b)]) gH) λ o=>ae (ae (bN [(rd 0),(ret (.int 10))]) (cr fG)) λ i=>de o i)]) mm)]) er)))) (ae (rd 2) λ v=>ret (.ret v))))
noncomputable def qa:fR:=dS 5 2 A2
theorem ym {C:Cx} (Y:KX C):b7 C 2 492 qa:=by
 have h1:(K0 C.w.params).lookup 492=some ⟨_,_,.func _,_⟩:=rfl
 have O:=bO Y.hK h1 ∅ (body:=_) rfl (params:=[(Str.ofString "pool"),(Str.ofString "wide")]) (names:=[(Str.ofString "pool"),(Str.ofString "wide"),(Str.ofString "found"),(Str.ofString "turn"),(Str.ofString "length")]) ∅ (hH (by rfl) λ a b=>by kernel_rfl)
 exact bZ Y.ok O 0 λ L=>(ZS.out (Bb (dm nL (e8 (.cons (mN (.cons (bx _ _ _) (.cons (eU Y.ok (gA (gC Y)) (gB Y) ((gy Y).up ⋯) (.cons (bv nL _) (.cons (bx _ _ _) .nil))) .nil))) .nil)) ∅) (Bb (It jh (G0 Y.ok (gA (iu Y)) iw (.cons (eU Y.ok (gA (gC Y)) (gB Y) ((gy Y).up ⋯) (.cons (bv nL _) (.cons (Cc (zF (bv nL _)) (bx _ _ _) (bx _ _ _)) .nil))) .nil)) (Dz nL _) (n7 (DA (dK (eU Y.ok (gA (gC Y)) (gB Y) ((gy Y).up ⋯) (.cons (bv nL _) (.cons (bx _ _ _) .nil))) (bx _ _ _) dT) (n7 (EX (zG ∅ (bv nL _) (.cons (mN (.cons (bx _ _ _) (.cons (xc (e8 (.cons (bx _ _ _) (.cons (bx _ _ _) (.cons (bx _ _ _) (.cons (bx _ _ _) .nil))))) (eU Y.ok (gA (gC Y)) (gB Y) ((gy Y).up ⋯) (.cons (bv nL _) (.cons (bx _ _ _) .nil)))) .nil))) .nil)) ∅ ∅)) (Bb (dm nL (xc (e8 (.cons (bx _ _ _) (.cons (bx _ _ _) (.cons (bx _ _ _) (.cons (bx _ _ _) (.cons (bx _ _ _) (.cons (bx _ _ _) (.cons (bx _ _ _) (.cons (bx _ _ _) (.cons (bx _ _ _) (.cons (oP (bx _ _ _) (eU Y.ok (gA (gC Y)) (gB Y) ((gy Y).up ⋯) (.cons (bv nL _) (.cons (bx _ _ _) .nil))) (ap .Add)) .nil HV) kA) kA) kA) kA) kA) kA) kA) kA) kA)) (eU Y.ok (gA (gC Y)) (gB Y) ((gy Y).up ⋯) (.cons (bv nL _) (.cons (bx _ _ _) .nil)))) ∅) (n7 (EX (zG ∅ (bv nL _) (.cons (mN (.cons (bv nL _) (.cons (xc (e8 (.cons (bx _ _ _) (.cons (bx _ _ _) (.cons (bx _ _ _) (.cons (bx _ _ _) (.cons (bx _ _ _) (.cons (bx _ _ _) (.cons (bx _ _ _) (.cons (bx _ _ _) (.cons (bx _ _ _) (.cons (oP (bx _ _ _) (eU Y.ok (gA (gC Y)) (gB Y) ((gy Y).up ⋯) (.cons (bv nL _) (.cons (bx _ _ _) .nil))) (ap .Add)) .nil HV) kA) kA) kA) kA) kA) kA) kA) kA) kA)) (eU Y.ok (gA (gC Y)) (gB Y) ((gy Y).up ⋯) (.cons (bv nL _) (.cons (bx _ _ _) .nil)))) .nil))) .nil)) ∅ ∅)))))) (n7 (mw (bv nL _))))))
noncomputable def A3:EM AF:=
 (bm (ae (ae (bN [(ae (bN [(ret (.int 256))]) gH),(ae (bN []) gH),(ret (.int 0))]) mm) λ v=>ae (yd [5,4,3] v) λ _=>ret .next) (bm (jU G5 (ae (rd 0) jB) (pi [6,7]) (ae (ae (rd 6) λ a=>ae (ret (.int 0)) λ b=>ae (b6 .Eq a b) tr) λ t=>if t then(ae (ae (rd 3) λ v=>mH "list" lE v [(rd 7)]) er) else(bm (ae (ae (bN [(ae (bN [(rd 1),(rd 6)]) (cr mh)),(ae (bN [(rd 2),(rd 7)]) (cr mh))]) mm) λ v=>ae (yd [9,8] v) λ _=>ret .next) (bm (ae (ae (rd 3) λ v=>mH "list" lE v [(ae (ret (.int 257)) λ a=>ae (ae (rd 8) λ o=>ae (ret (.int 0)) λ i=>de o i) λ b=>bX .Add a b)]) er) (bm (ae (ae (rd 4) λ v=>mH "list" lE v [(ae (rd 9) λ o=>ae (ret (.int 0)) λ i=>de o i)]) er) (ae (rd 5) λ o=>ae (ae (ae (rd 8) λ o=>ae (ret (.int 1)) λ i=>de o i) λ a=>ae (ae (rd 9) λ o=>ae (ret (.int 1)) λ i=>de o i) λ b=>bX .Add a b) λ v=>ae (iL .Add o v) λ r=>ae (wr 5 r) λ _=>ret .next)))))) (ae (ae (bN [(rd 3),(rd 4),(rd 5)]) mm) λ v=>ret (.ret v))))
noncomputable def qc:fR:=dS 10 3 A3
theorem yn {C:Cx} (Y:KX C):b7 C 2 499 qc:=by
 have h1:(K0 C.w.params).lookup 499=some ⟨_,_,.func _,_⟩:=rfl
 have O:=bO Y.hK h1 ∅ (body:=_) rfl (params:=[(Str.ofString "steps"),(Str.ofString "lengths"),(Str.ofString "distances")]) (names:=[(Str.ofString "steps"),(Str.ofString "lengths"),(Str.ofString "distances"),(Str.ofString "near"),(Str.ofString "far"),(Str.ofString "behind"),(Str.ofString "first"),(Str.ofString "second"),(Str.ofString "one"),(Str.ofString "other")]) ∅ (kl (by rfl) λ a b c=>by kernel_rfl)
 exact bZ Y.ok O 0 λ L=>(an (c8 (names:=[(Str.ofString "near"),(Str.ofString "far"),(Str.ofString "behind")]) (.cons nL (.cons nL (.cons nL .nil))) (bV (.cons (da (.cons (ak _ _ _) .nil)) (.cons (da .nil) (.cons (ak _ _ _) .nil)))) ∅) (an (dH zM (dw (aa nL _)) (j5 (.cons nL (.cons nL .nil)) _ _) (aw (c7 (ax (aa nL _) (ak _ _ _) dT) (aw (di (dB ∅ (aa nL _) (.cons (aa nL _) .nil)) ∅ ∅)) (an (c8 (names:=[(Str.ofString "one"),(Str.ofString "other")]) (.cons nL (.cons nL .nil)) (bV (.cons (cQ Y.ok (gA (qY Y)) (qT Y) ((qN Y).up ⋯) (.cons (aa nL _) (.cons (aa nL _) .nil))) (.cons (cQ Y.ok (gA (qY Y)) (qT Y) ((qN Y).up ⋯) (.cons (aa nL _) (.cons (aa nL _) .nil))) .nil))) ∅) (an (di (dB ∅ (aa nL _) (.cons (aE (ak _ _ _) (bR (aa nL _) (ak _ _ _)) (ap .Add)) .nil)) ∅ ∅) (an (di (dB ∅ (aa nL _) (.cons (bR (aa nL _) (ak _ _ _)) .nil)) ∅ ∅) (aw (ed nL (aE (bR (aa nL _) (ak _ _ _)) (bR (aa nL _) (ak _ _ _)) (ap .Add)) (cz .Add))))))))) (aw (aQ (bV (.cons (aa nL _) (.cons (aa nL _) (.cons (aa nL _) .nil))))))))
noncomputable def zu:EM AF:=
 (ae (fg [1,2] G5 (ae (bN [(rd 0)]) sF) (pi [1,2]) (ae (rd 2) λ a=>ae (ae (rd 0) λ o=>ae (i3 none) λ a=>ae (i3 (some (rd 1))) λ b=>wu o a b) λ b=>ae (td a b) tr) (rd 2)) λ v=>ret (.ret v))
noncomputable def ko:fR:=dS 3 1 zu
theorem ng {C:Cx} (Y:KX C):b7 C 1 504 ko:=by
 have h1:(K0 C.w.params).lookup 504=some ⟨_,_,.func _,_⟩:=rfl
 have O:=bO Y.hK h1 ∅ (body:=_) rfl (params:=[(Str.ofString "marks")]) (names:=[(Str.ofString "marks")]) ∅ (i5 (by rfl) λ a=>by kernel_rfl)
 exact bZ Y.ok O 2 λ L=>(aw (aQ (cS zM (gR (vars:=[(1,(Str.ofString "at")),(2,(Str.ofString "mark"))]) ∅ ∅ (aY ∅ (aY ∅ aP)) (dR Y.ok (gA (lZ Y)) uQ (.cons (aa nC _) .nil)) (λ L=>(kZ (.cons nL (.cons nL .nil)) _ _)) (λ L=>(iA (ax (aa nL _) (jI (aa nC _) .none (.some (aa nL _))) sf))) (λ L=>(aa nL _))))))
noncomputable def zt:EM AF:=
 (bm (ae (ae (bN [(ae (bN [(fg [4] pB (ae (ae (bN [(rd 0)]) (cr ko)) jB) (wr 4) (ret true) (ae (rd 0) λ v=>mH "list" oy v [(rd 4)]))]) qQ),(ret (.int 0))]) mm) λ v=>ae (yd [2,1] v) λ _=>ret .next) (bm (ae (ae (ae (bN [(rd 1)]) gI) λ a=>ae (ret (.int 2)) λ b=>ae (b6 .Lt a b) tr) λ t=>if t then(ae (ae (bN [(rd 1)]) wA) λ v=>ret (.ret v)) else(ret .next)) (bm (jX (ae (ae (bN [(rd 1)]) gI) λ a=>ae (ret (.int 1)) λ b=>ae (b6 .Gt a b) tr) (bm (ae (ae (ae (rd 1) λ o=>ae (ret (.int 0)) λ i=>de o i) λ a=>ae (ae (rd 1) λ o=>ae (ret (.int 1)) λ i=>de o i) λ b=>bX .Add a b) λ v=>ae (wr 3 v) λ _=>ret .next) (bm (ae (rd 2) λ o=>ae (rd 3) λ v=>ae (iL .Add o v) λ r=>ae (wr 2 r) λ _=>ret .next) (ae (ae (bN [(ae (ae (rd 1) λ o=>ae (i3 (some (ret (.int 2)))) λ a=>ae (i3 none) λ b=>wu o a b) λ a=>ae (ae (bN [(rd 3)]) gH) λ b=>AW a b)]) qQ) λ v=>ae (wr 1 v) λ _=>ret .next))) 1000) (ae (rd 2) λ v=>ret (.ret v)))))
noncomputable def mi:fR:=dS 5 1 zt
theorem qP {C:Cx} (Y:KX C):b7 C 2 509 mi:=by
 have h1:(K0 C.w.params).lookup 509=some ⟨_,_,.func _,_⟩:=rfl
 have O:=bO Y.hK h1 ∅ (body:=_) rfl (params:=[(Str.ofString "marks")]) (names:=[(Str.ofString "marks"),(Str.ofString "left"),(Str.ofString "found"),(Str.ofString "both")]) ∅ (i5 (by rfl) λ a=>by kernel_rfl)
 exact bZ Y.ok O 1 λ L=>(an (c8 (names:=[(Str.ofString "left"),(Str.ofString "found")]) (.cons nL (.cons nL .nil)) (bV (.cons (bg Y.ok (gA (qw Y)) qy (.cons (cS jh (gR (vars:=[(4,(Str.ofString "mark"))]) ∅ ∅ (aY ∅ aP) (dw (cQ Y.ok (gA (nt Y)) (nr Y) ((ng Y).up ⋯) (.cons (aa nC _) .nil))) (λ L=>(dr nL _)) (λ L=>dp) (λ L=>(sY ∅ (aa nC _) (.cons (aa nL _) .nil))))) .nil)) (.cons (ak _ _ _) .nil))) ∅) (an (c7 (ax (bg Y.ok (gA (dX Y)) dY (.cons (aa nL _) .nil)) (ak _ _ _) cN) (aw (aQ (bg Y.ok (gA (tu Y)) tA (.cons (aa nL _) .nil)))) cP) (an (nO 1000 (ax (bg Y.ok (gA (dX Y)) dY (.cons (aa nL _) .nil)) (ak _ _ _) fU) (an (aS nL (aE (bR (aa nL _) (ak _ _ _)) (bR (aa nL _) (ak _ _ _)) (ap .Add)) ∅) (an (ed nL (aa nL _) (cz .Add)) (aw (aS nL (bg Y.ok (gA (qw Y)) qy (.cons (aE (jI (aa nL _) (.some (ak _ _ _)) .none) (da (.cons (aa nL _) .nil)) yF) .nil)) ∅))))) (aw (aQ (aa nL _))))))
noncomputable def A5:EM AF:=
 (bm (ae (ae (bN [(ae (bN [(ae (rd 0) λ a=>ae (ae (bN [(ret (.int 1))]) gH) λ b=>AW a b)]) vF),LG,(ret (.int 0))]) mm) λ v=>ae (yd [3,2,1] v) λ _=>ret .next) (bm (jU G5 (ae (ae (bN [(fg [7,8] G5 (ae (bN [(rd 0)]) sF) (pi [7,8]) (ae (rd 8) λ a=>ae (ret (.int 0)) λ b=>ae (b6 .Gt a b) tr) (ae (bN [(rd 8),(rd 7)]) mm))]) qQ) jB) (pi [4,5]) (bm (ae (ae (rd 3) λ a=>ae (ae (rd 1) λ a=>ae (rd 4) λ b=>bX .Sub a b) λ b=>bX .RShift a b) λ v=>ae (wr 6 v) λ _=>ret .next) (bm (ae (rd 5) λ v=>ae (rd 2) λ o=>ae (ae (ret (.str (Str.ofString ""))) λ v=>mH "str" sq v [(fg [9] pB (ae (bN [(rd 4)]) f4) (wr 9) (ret true) (ae (bN [(ae (ae (rd 6) λ a=>ae (ae (ae (rd 4) λ a=>ae (ret (.int 1)) λ b=>bX .Sub a b) λ a=>ae (rd 9) λ b=>bX .Sub a b) λ b=>bX .RShift a b) λ a=>ae (ret (.int 1)) λ b=>bX .BitAnd a b)]) DC))]) λ i=>ae (nh o i v) λ _=>ret .next) (ae (rd 3) λ o=>ae (ae (ret (.int 1)) λ a=>ae (ae (rd 1) λ a=>ae (rd 4) λ b=>bX .Sub a b) λ b=>bX .LShift a b) λ v=>ae (iL .Add o v) λ r=>ae (wr 3 r) λ _=>ret .next)))) (ae (rd 2) λ v=>ret (.ret v))))
noncomputable def mY:fR:=dS 10 1 A5
theorem rS {C:Cx} (Y:KX C):b7 C 1 514 mY:=by
 have h1:(K0 C.w.params).lookup 514=some ⟨_,_,.func _,_⟩:=rfl
 have O:=bO Y.hK h1 ∅ (body:=_) rfl (params:=[(Str.ofString "lengths")]) (names:=[(Str.ofString "lengths"),(Str.ofString "most"),(Str.ofString "found"),(Str.ofString "spent"),(Str.ofString "length"),(Str.ofString "symbol"),(Str.ofString "place")]) ∅ (i5 (by rfl) λ a=>by kernel_rfl)
 exact bZ Y.ok O 3 λ L=>(an (c8 (names:=[(Str.ofString "most"),(Str.ofString "found"),(Str.ofString "spent")]) (.cons nL (.cons nL (.cons nL .nil))) (bV (.cons (bg Y.ok (gA (tv Y)) tB (.cons (aE (aa nL _) (da (.cons (ak _ _ _) .nil)) yF) .nil)) (.cons (Fg _) (.cons (ak _ _ _) .nil)))) ∅) (an (dH zM (dw (bg Y.ok (gA (qw Y)) qy (.cons (cS zM (gR (vars:=[(7,(Str.ofString "symbol")),(8,(Str.ofString "length"))]) ∅ ∅ (aY ∅ (aY ∅ aP)) (dR Y.ok (gA (lZ Y)) uQ (.cons (aa nL _) .nil)) (λ L=>(kZ (.cons nL (.cons nL .nil)) _ _)) (λ L=>(iA (ax (aa nL _) (ak _ _ _) fU))) (λ L=>(bV (.cons (aa nL _) (.cons (aa nL _) .nil)))))) .nil))) (j5 (.cons nC (.cons nL .nil)) _ _) (an (aS nC (aE (aa nL _) (aE (aa nL _) (aa nC _) (ap .Sub)) (ap .RShift)) ∅) (an (iU (aa nL _) (aa nL _) (vn ∅ (rZ _ _ _) (.cons (cS jh (gR (vars:=[(9,(Str.ofString "bit"))]) ∅ ∅ (aY ∅ aP) (dR Y.ok (gA (iu Y)) iw (.cons (aa nC _) .nil)) (λ L=>(dr nL _)) (λ L=>dp) (λ L=>(bg Y.ok (gA (Ga Y)) Gn (.cons (aE (aE (aa nC _) (aE (aE (aa nC _) (ak _ _ _) (ap .Sub)) (aa nL _) (ap .Sub)) (ap .RShift)) (ak _ _ _) (ap .BitAnd)) .nil))))) .nil)) ∅) (aw (ed nL (aE (ak _ _ _) (aE (aa nL _) (aa nC _) (ap .Sub)) (ap .LShift)) (cz .Add)))))) (aw (aQ (aa nL _)))))
noncomputable def B8:EM AF:=
 (bm (jU pB (ae (bN [(ae (rd 2) λ a=>ae (ret (.int 1)) λ b=>bX .Add a b),(ae (ae (bN [(rd 1)]) gI) λ a=>ae (ret (.int 1)) λ b=>bX .Add a b)]) f4) (wr 3) (ae (ae (ae (rd 1) λ o=>ae (i3 (some (rd 2))) λ a=>ae (i3 (some (rd 3))) λ b=>wu o a b) λ a=>ae (rd 0) λ b=>ae (b6 .In a b) tr) λ t=>if t then(ae (ae (bN [(ae (rd 0) λ o=>ae (ae (rd 1) λ o=>ae (i3 (some (rd 2))) λ a=>ae (i3 (some (rd 3))) λ b=>wu o a b) λ i=>de o i),(rd 3)]) mm) λ v=>ret (.ret v)) else(ret .next))) (ae (ae (bN [(ret .none),(rd 2)]) mm) λ v=>ret (.ret v)))
noncomputable def kT:fR:=dS 4 3 B8
theorem tT {C:Cx} (Y:KX C):b7 C 1 521 kT:=by
 have h1:(K0 C.w.params).lookup 521=some ⟨_,_,.func _,_⟩:=rfl
 have O:=bO Y.hK h1 ∅ (body:=_) rfl (params:=[(Str.ofString "codes"),(Str.ofString "text"),(Str.ofString "place")]) (names:=[(Str.ofString "codes"),(Str.ofString "text"),(Str.ofString "place"),(Str.ofString "behind")]) ∅ (kl (by rfl) λ a b c=>by kernel_rfl)
 exact bZ Y.ok O 0 λ L=>(an (dH jh (dR Y.ok (gA (iu Y)) iw (.cons (aE (aa nL _) (ak _ _ _) (ap .Add)) (.cons (aE (bg Y.ok (gA (dX Y)) dY (.cons (aa nL _) .nil)) (ak _ _ _) (ap .Add)) .nil))) (cV nL _) (aw (c7 (ax (jI (aa nL _) (.some (aa nL _)) (.some (aa nL _))) (aa nL _) xB) (aw (aQ (bV (.cons (bR (aa nL _) (jI (aa nL _) (.some (aa nL _)) (.some (aa nL _)))) (.cons (aa nL _) .nil))))) cP))) (aw (aQ (bV (.cons (iq _ _) (.cons (aa nL _) .nil))))))
noncomputable def zs:EM AF:=
 (ae (ae (bN [(fg [3] pB (ae (bN [(rd 2)]) f4) (wr 3) (ae (ae (rd 0) λ o=>ae (i3 (some (ae (rd 1) λ a=>ae (rd 3) λ b=>bX .Add a b))) λ a=>ae (i3 (some (ae (ae (rd 1) λ a=>ae (rd 3) λ b=>bX .Add a b) λ a=>ae (ret (.int 1)) λ b=>bX .Add a b))) λ b=>wu o a b) λ a=>ae (ret (.str (Str.ofString "1"))) λ b=>ae (b6 .Eq a b) tr) (ae (ret (.int 1)) λ a=>ae (rd 3) λ b=>bX .LShift a b))]) wA) λ v=>ret (.ret v))
noncomputable def i9:fR:=dS 4 3 zs
theorem qO {C:Cx} (Y:KX C):b7 C 1 526 i9:=by
 have h1:(K0 C.w.params).lookup 526=some ⟨_,_,.func _,_⟩:=rfl
 have O:=bO Y.hK h1 ∅ (body:=_) rfl (params:=[(Str.ofString "text"),(Str.ofString "place"),(Str.ofString "count")]) (names:=[(Str.ofString "text"),(Str.ofString "place"),(Str.ofString "count")]) ∅ (kl (by rfl) λ a b c=>by kernel_rfl)
 exact bZ Y.ok O 1 λ L=>(aw (aQ (bg Y.ok (gA (tu Y)) tA (.cons (cS jh (gR (vars:=[(3,(Str.ofString "bit"))]) ∅ ∅ (aY ∅ aP) (dR Y.ok (gA (iu Y)) iw (.cons (aa nL _) .nil)) (λ L=>(dr nL _)) (λ L=>(iA (ax (jI (aa nC _) (.some (aE (aa nC _) (aa nL _) (ap .Add))) (.some (aE (aE (aa nC _) (aa nL _) (ap .Add)) (ak _ _ _) (ap .Add)))) (rZ _ _ _) dT))) (λ L=>(aE (ak _ _ _) (aa nL _) (ap .LShift))))) .nil))))
noncomputable def Ca:EM AF:=
 (bm (ae (ae (bN [(ae (bN []) gH),(ret (.int 0))]) mm) λ v=>ae (yd [6,5] v) λ _=>ret .next) (bm (jX (ae (rd 6) λ a=>ae (ae (bN [(rd 0)]) gI) λ b=>ae (b6 .Lt a b) tr) (bm (ae (ae (bN [(rd 1),(rd 0),(rd 6)]) (cr kT)) λ v=>ae (pi [7,6] v) λ _=>ret .next) (bm (ae (ae (ae (rd 7) λ a=>ae (ret .none) λ b=>ae (b6 .Is a b) tr) λ t=>if t then ret true else(ae (rd 7) λ a=>ae (ret (.int 285)) λ b=>ae (b6 .Gt a b) tr)) λ t=>if t then(ae (ret .none) λ v=>ret (.ret v)) else(ret .next)) (bm (ae (ae (rd 7) λ a=>ae (ret (.int 256)) λ b=>ae (b6 .Eq a b) tr) λ t=>if t then(ae (ae (bN [(rd 5),(rd 6)]) mm) λ v=>ret (.ret v)) else(ret .next)) (bm (ae (ae (rd 7) λ a=>ae (ret (.int 256)) λ b=>ae (b6 .Lt a b) tr) λ t=>if t then(bm (ae (ae (rd 5) λ v=>mH "list" lE v [(ae (bN [(ret (.int 0)),(rd 7)]) mm)]) er) (ret .cont)) else(ret .next)) (bm (ae (ae (rd 3) λ o=>ae (ae (rd 7) λ a=>ae (ret (.int 257)) λ b=>bX .Sub a b) λ i=>de o i) λ v=>ae (pi [8,9] v) λ _=>ret .next) (bm (ae (ae (bN [(ae (rd 8) λ a=>ae (ae (bN [(rd 0),(rd 6),(rd 9)]) (cr i9)) λ b=>bX .Add a b),(ae (rd 6) λ a=>ae (rd 9) λ b=>bX .Add a b)]) mm) λ v=>ae (yd [6,10] v) λ _=>ret .next) (bm (ae (ae (bN [(rd 2),(rd 0),(rd 6)]) (cr kT)) λ v=>ae (pi [7,6] v) λ _=>ret .next) (bm (ae (ae (rd 7) λ a=>ae (ret .none) λ b=>ae (b6 .Is a b) tr) λ t=>if t then(ae (ret .none) λ v=>ret (.ret v)) else(ret .next)) (bm (ae (ae (rd 4) λ o=>ae (rd 7) λ i=>de o i) λ v=>ae (pi [8,9] v) λ _=>ret .next) (bm (ae (ae (rd 5) λ v=>mH "list" lE v [(ae (bN [(rd 10),(ae (rd 8) λ a=>ae (ae (bN [(rd 0),(rd 6),(rd 9)]) (cr i9)) λ b=>bX .Add a b)]) mm)]) er) (ae (rd 6) λ o=>ae (rd 9) λ v=>ae (iL .Add o v) λ r=>ae (wr 6 r) λ _=>ret .next))))))))))) 1000) (ae (ret .none) λ v=>ret (.ret v))))
noncomputable def rI:fR:=dS 11 5 Ca
theorem zU {C:Cx} (Y:KX C):b7 C 2 533 rI:=by
 have h1:(K0 C.w.params).lookup 533=some ⟨_,_,.func _,_⟩:=rfl
 have O:=bO Y.hK h1 ∅ (body:=_) rfl (params:=[(Str.ofString "text"),(Str.ofString "near"),(Str.ofString "far"),(Str.ofString "lengths"),(Str.ofString "distances")]) (names:=[(Str.ofString "text"),(Str.ofString "near"),(Str.ofString "far"),(Str.ofString "lengths"),(Str.ofString "distances"),(Str.ofString "found"),(Str.ofString "place"),(Str.ofString "symbol"),(Str.ofString "base"),(Str.ofString "count"),(Str.ofString "length")]) ∅ (Jf (by rfl) λ a b c d e=>by kernel_rfl)
 exact bZ Y.ok O 0 λ L=>(an (c8 (names:=[(Str.ofString "found"),(Str.ofString "place")]) (.cons nL (.cons nL .nil)) (bV (.cons (da .nil) (.cons (ak _ _ _) .nil))) ∅) (an (nO 1000 (ax (aa nL _) (bg Y.ok (gA (dX Y)) dY (.cons (aa nL _) .nil)) cN) (an (cw (.cons nL (.cons nL .nil)) (cQ Y.ok (gA (ua Y)) (t5 Y) ((tT Y).up ⋯) (.cons (aa nL _) (.cons (aa nL _) (.cons (aa nL _) .nil)))) ∅ ∅) (an (c7 (fc (ax (aa nL _) (iq _ _) qs) (ax (aa nL _) (ak _ _ _) fU)) (aw (aQ (iq _ _))) cP) (an (c7 (ax (aa nL _) (ak _ _ _) dT) (aw (aQ (bV (.cons (aa nL _) (.cons (aa nL _) .nil))))) cP) (an (c7 (ax (aa nL _) (ak _ _ _) cN) (an (di (dB ∅ (aa nL _) (.cons (bV (.cons (ak _ _ _) (.cons (aa nL _) .nil))) .nil)) ∅ ∅) (aw yt)) cP) (an (cw (.cons nL (.cons nL .nil)) (bR (aa nL _) (aE (aa nL _) (ak _ _ _) (ap .Sub))) ∅ ∅) (an (c8 (names:=[(Str.ofString "length"),(Str.ofString "place")]) (.cons nL (.cons nL .nil)) (bV (.cons (aE (aa nL _) (cQ Y.ok (gA (qZ Y)) (qU Y) ((qO Y).up ⋯) (.cons (aa nL _) (.cons (aa nL _) (.cons (aa nL _) .nil)))) (ap .Add)) (.cons (aE (aa nL _) (aa nL _) (ap .Add)) .nil))) ∅) (an (cw (.cons nL (.cons nL .nil)) (cQ Y.ok (gA (ua Y)) (t5 Y) ((tT Y).up ⋯) (.cons (aa nL _) (.cons (aa nL _) (.cons (aa nL _) .nil)))) ∅ ∅) (an (c7 (ax (aa nL _) (iq _ _) qs) (aw (aQ (iq _ _))) cP) (an (cw (.cons nL (.cons nL .nil)) (bR (aa nL _) (aa nL _)) ∅ ∅) (an (di (dB ∅ (aa nL _) (.cons (bV (.cons (aa nL _) (.cons (aE (aa nL _) (cQ Y.ok (gA (qZ Y)) (qU Y) ((qO Y).up ⋯) (.cons (aa nL _) (.cons (aa nL _) (.cons (aa nL _) .nil)))) (ap .Add)) .nil))) .nil)) ∅ ∅) (aw (ed nL (aa nL _) (cz .Add)))))))))))))) (aw (aQ (iq _ _)))))
noncomputable def A4:EM AF:=
 (ae (ae (ae (ae (rd 0) λ a=>ae (ret (.int 144)) λ b=>ae (b6 .Lt a b) tr) λ t=>if t then ret true else(ae (rd 0) λ a=>ae (ret (.int 279)) λ b=>ae (b6 .Gt a b) tr)) λ t=>if t then(ret (.int 8)) else(ae (ae (rd 0) λ a=>ae (ret (.int 256)) λ b=>ae (b6 .Lt a b) tr) λ t=>if t then(ret (.int 9)) else(ret (.int 7)))) λ v=>ret (.ret v))
noncomputable def qd:fR:=dS 1 1 A4
theorem yo {C:Cx} (Y:KX C):b7 C 1 540 qd:=by
 have h1:(K0 C.w.params).lookup 540=some ⟨_,_,.func _,_⟩:=rfl
 have O:=bO Y.hK h1 ∅ (body:=_) rfl (params:=[(Str.ofString "mark")]) (names:=[(Str.ofString "mark")]) ∅ (i5 (by rfl) λ a=>by kernel_rfl)
 exact bZ Y.ok O 0 λ L=>(aw (aQ (jK (fc (ax (aa nL _) (ak _ _ _) cN) (ax (aa nL _) (ak _ _ _) fU)) (ak _ _ _) (jK (ax (aa nL _) (ak _ _ _) cN) (ak _ _ _) (ak _ _ _)))))
noncomputable def ET:EM AF:=
 (ae (ae (bN [(fg [2,3] G5 (ae (rd 0) jB) (pi [2,3]) (ret true) (ae (ae (rd 2) λ a=>ae (ret (.int 0)) λ b=>ae (b6 .Eq a b) tr) λ t=>if t then(ae (rd 1) λ v=>eY [(216,gT)] v [(rd 3)]) else(ae (rd 1) λ v=>eY [(216,kr)] v [(rd 2),(rd 3)])))]) wA) λ v=>ret (.ret v))
noncomputable def qB:fR:=dS 4 2 ET
theorem vg {C:Cx} (Y:KX C):b7 C 5 545 qB:=by
 have h1:(K0 C.w.params).lookup 545=some ⟨_,_,.func _,_⟩:=rfl
 have O:=bO Y.hK h1 ∅ (body:=_) rfl (params:=[(Str.ofString "steps"),(Str.ofString "price")]) (names:=[(Str.ofString "steps"),(Str.ofString "price")]) ∅ (hH (by rfl) λ a b=>by kernel_rfl)
 exact bZ Y.ok O 2 λ L=>(aw (aQ (bg Y.ok (gA (tu Y)) tA (.cons (cS zM (gR (vars:=[(2,(Str.ofString "first")),(3,(Str.ofString "second"))]) ∅ ∅ (aY ∅ (aY ∅ aP)) (dw (aa nL _)) (λ L=>(kZ (.cons nL (.cons nL .nil)) _ _)) (λ L=>dp) (λ L=>(jK (ax (aa nL _) (ak _ _ _) dT) (e9 Y.ok (Y.notField ∅ ∅) (aY (Y.meOk ∅ ((lh Y).up ⋯)) aP) (aa nC _) (.cons (aa nL _) .nil)) (e9 Y.ok (Y.notField ∅ ∅) (aY (Y.meOk ∅ ((rn Y).up ⋯)) aP) (aa nC _) (.cons (aa nL _) (.cons (aa nL _) .nil))))))) .nil))))
noncomputable def w7:EM AF:=
 (bm (ae (ae (bN [(ae (bN []) (pt 354 kW)),(ae (bN [(rd 1)]) (pt 417 gS)),(ae (bN [(rd 2)]) (pt 417 gS))]) mm) λ v=>ae (yd [5,4,3] v) λ _=>ret .next) (bm (jU pB (ae (rd 0) jB) (wr 6) (ae (ae (bN [(rd 3),(rd 6),(rd 4),(rd 5)]) (cr oC)) er)) (bm (ae (ae (rd 4) λ v=>eY [(417,dk)] v [(rd 3),(ret (.int 256))]) er) (bm (ae (fg [8] pB (ae (ae (rd 3) λ v=>eY [(354,kX)] v []) jB) (wr 8) (ret true) (ae (ret (.str (Str.ofString ""))) λ v=>mH "str" sq v [(fg [9] pB (ae (bN [(ret (.int 8))]) f4) (wr 9) (ret true) (ae (bN [(ae (ae (rd 8) λ a=>ae (rd 9) λ b=>bX .RShift a b) λ a=>ae (ret (.int 1)) λ b=>bX .BitAnd a b)]) DC))])) λ v=>ae (wr 7 v) λ _=>ret .next) (ae (ae (bN [(ae (ret (.str (Str.ofString ""))) λ v=>mH "str" sq v [(rd 7)]),(ae (rd 3) λ v=>eY [(354,kU)] v [])]) mm) λ v=>ret (.ret v))))))
noncomputable def nD:fR:=dS 10 3 w7
theorem vf {C:Cx} (Y:KX C):gU C 7 550 nD:=by
 have h1:(K0 C.w.params).lookup 550=some ⟨_,_,.func _,_⟩:=rfl
 have O:=bO Y.hK h1 ∅ (body:=_) rfl (params:=[(Str.ofString "steps"),(Str.ofString "near"),(Str.ofString "far")]) (names:=[(Str.ofString "steps"),(Str.ofString "near"),(Str.ofString "far"),(Str.ofString "writer"),(Str.ofString "one"),(Str.ofString "other"),(Str.ofString "step"),(Str.ofString "rows")]) ∅ (kl (by rfl) λ a b c=>by kernel_rfl)
 exact lA Y.ok O 2 λ L=>(an (lS (names:=[(Str.ofString "writer"),(Str.ofString "one"),(Str.ofString "other")]) (.cons nL (.cons nL (.cons nL .nil))) (Bm (Fd Y.ok (gA (y5 Y)) (zb Y) (yP Y) (ye Y) ((rU Y).up ⋯) .nil) (.cons (yq Y.ok (gA (o0 Y)) (pd Y) (oX Y) (oR Y) ((lg Y).up ⋯) (.cons (aa nL _) .nil)) (.cons (yq Y.ok (gA (o0 Y)) (pd Y) (oX Y) (oR Y) ((lg Y).up ⋯) (.cons (aa nL _) .nil)) .nil))) ∅) (an (DK jh (dw (aa nL _)) (cV nL _) (aw (gW (xn Y.ok (gA (wU Y)) (wP Y) ((wB Y).up ⋯) (.cons (aa nL _) (.cons (aa nL _) (.cons (aa nL _) (.cons (aa nL _) .nil))))) ∅ ∅))) (an (gW (jJ Y.ok (Y.notField ∅ ∅) (aY (Y.meOkO ∅ ((f7 Y).up ⋯)) aP) (aa nL _) (.cons (aa nL _) (.cons (ak _ _ _) .nil))) ∅ ∅) (an (pj (x0:=(Str.ofString "octet")) nL ∅ jh {it:=(dw (e9 Y.ok (Y.notField ∅ ∅) (aY (Y.meOk ∅ ((rV Y).up ⋯)) aP) (aa nL _) .nil)),clos:=Di ∅,cells:=λ n=>by kernel_rfl,push:=λ h=>by kernel_rfl,kind:=by kernel_rfl,names:=by decide+kernel,slots:=by kernel_rfl,asg:=λ L c=>(dr nC _),test:=λ L c=>dp,elt:=λ L c=>(vn ∅ (rZ _ _ _) (.cons (cS jh (gR (vars:=[(9,(Str.ofString "bit"))]) ∅ ∅ (aY ∅ aP) (dR Y.ok (gA (iu Y)) iw (.cons (ak _ _ _) .nil)) (λ L=>(dr nL _)) (λ L=>dp) (λ L=>(bg Y.ok (gA (Ga Y)) Gn (.cons (aE (aE (aa nC _) (aa nL _) (ap .RShift)) (ak _ _ _) (ap .BitAnd)) .nil))))) .nil))} ∅).o (aw (aQ (bV (.cons (vn ∅ (rZ _ _ _) (.cons (aa nL _) .nil)) (.cons (e9 Y.ok (Y.notField ∅ ∅) (aY (Y.meOk ∅ ((rT Y).up ⋯)) aP) (aa nL _) .nil) .nil)))).o)))))
noncomputable def w8:EM AF:=
 (bm (ae (ae (ae (ae (rd 0) (cK [258] [] 6)) λ a=>ae (ae (bN [(rd 1)]) (cr ko)) λ b=>ae (b6 .NotEq a b) tr) λ t=>if t then ret true else ae (ae (ae (rd 0) (cK [258] [] 7)) λ a=>ae (ae (bN [(rd 2)]) (cr ko)) λ b=>ae (b6 .NotEq a b) tr) λ t=>if t then ret true else(ae (ae (rd 0) (cK [258] [] 8)) λ a=>ae (rd 3) λ b=>ae (b6 .NotEq a b) tr)) λ t=>if t then(ae (ret (.bool false)) λ v=>ret (.ret v)) else(ret .next)) (bm (ae (ae (fg [4] pB (ae (ae (rd 0) (cK [258] [] 6)) jB) (wr 4) (ret true) (ae (ae (rd 0) (cK [258] [] 4)) λ o=>ae (rd 4) λ i=>de o i)) λ a=>ae (fg [5] pB (ae (ae (rd 0) (cK [258] [] 6)) jB) (wr 5) (ret true) (ae (rd 1) λ v=>mH "list" oy v [(rd 5)])) λ b=>ae (b6 .NotEq a b) tr) λ t=>if t then(ae (ret (.bool false)) λ v=>ret (.ret v)) else(ret .next)) (bm (ae (ae (fg [6] pB (ae (ae (rd 0) (cK [258] [] 7)) jB) (wr 6) (ret true) (ae (ae (rd 0) (cK [258] [] 5)) λ o=>ae (rd 6) λ i=>de o i)) λ a=>ae (fg [7] pB (ae (ae (rd 0) (cK [258] [] 7)) jB) (wr 7) (ret true) (ae (rd 2) λ v=>mH "list" oy v [(rd 7)])) λ b=>ae (b6 .NotEq a b) tr) λ t=>if t then(ae (ret (.bool false)) λ v=>ret (.ret v)) else(ret .next)) (ae (ae (ae (bN [(ae (bN [(ae (rd 0) (cK [258] [] 4))]) gI),(ae (bN [(ae (rd 0) (cK [258] [] 4))]) wA),(ae (bN [(ae (rd 0) (cK [258] [] 5))]) gI),(ae (bN [(ae (rd 0) (cK [258] [] 5))]) wA)]) mm) λ a=>ae (ae (bN [(ret (.int 286)),(ae (bN [(rd 1)]) gI),(ret (.int 30)),(ae (bN [(rd 2)]) gI)]) mm) λ b=>b6 .Eq a b) λ v=>ret (.ret v)))))
noncomputable def nE:fR:=dS 8 4 w8
theorem vh {C:Cx} (Y:KX C):b7 C 2 555 nE:=by
 have h1:(K0 C.w.params).lookup 555=some ⟨_,_,.func _,_⟩:=rfl
 have O:=bO Y.hK h1 ∅ (body:=_) rfl (params:=[(Str.ofString "counts"),(Str.ofString "near"),(Str.ofString "far"),(Str.ofString "behind")]) (names:=[(Str.ofString "counts"),(Str.ofString "near"),(Str.ofString "far"),(Str.ofString "behind")]) ∅ (Gu (by rfl) λ a b c d=>by kernel_rfl)
 exact bZ Y.ok O 4 λ L=>(an (c7 (j6 (ax (bL Y.ok (aa nC _) (Y.fok ⋯) (sL Y) aP (mU Y)) (cQ Y.ok (gA (nt Y)) (nr Y) ((ng Y).up ⋯) (.cons (aa nC _) .nil)) fj) (ax (bL Y.ok (aa nC _) (Y.fok ⋯) (wh Y) aP (pT Y)) (cQ Y.ok (gA (nt Y)) (nr Y) ((ng Y).up ⋯) (.cons (aa nC _) .nil)) fj) (ax (bL Y.ok (aa nC _) (Y.fok ⋯) (wi Y) aP (nY Y)) (aa nL _) fj)) (aw (aQ (r6 _ _ _))) cP) (an (c7 (ax (cS jh (gR (vars:=[(4,(Str.ofString "mark"))]) ∅ ∅ (aY ∅ aP) (dw (bL Y.ok (aa nC _) (Y.fok ⋯) (sL Y) aP (mU Y))) (λ L=>(dr nL _)) (λ L=>dp) (λ L=>(bR (bL Y.ok (aa nC _) (Y.fok ⋯) (i6 Y) aP (fO Y)) (aa nL _))))) (cS jh (gR (vars:=[(5,(Str.ofString "mark"))]) ∅ ∅ (aY ∅ aP) (dw (bL Y.ok (aa nC _) (Y.fok ⋯) (sL Y) aP (mU Y))) (λ L=>(dr nL _)) (λ L=>dp) (λ L=>(sY ∅ (aa nC _) (.cons (aa nL _) .nil))))) fj) (aw (aQ (r6 _ _ _))) cP) (an (c7 (ax (cS jh (gR (vars:=[(6,(Str.ofString "mark"))]) ∅ ∅ (aY ∅ aP) (dw (bL Y.ok (aa nC _) (Y.fok ⋯) (wh Y) aP (pT Y))) (λ L=>(dr nL _)) (λ L=>dp) (λ L=>(bR (bL Y.ok (aa nC _) (Y.fok ⋯) (ij Y) aP (e7 Y)) (aa nL _))))) (cS jh (gR (vars:=[(7,(Str.ofString "mark"))]) ∅ ∅ (aY ∅ aP) (dw (bL Y.ok (aa nC _) (Y.fok ⋯) (wh Y) aP (pT Y))) (λ L=>(dr nL _)) (λ L=>dp) (λ L=>(sY ∅ (aa nC _) (.cons (aa nL _) .nil))))) fj) (aw (aQ (r6 _ _ _))) cP) (aw (aQ (qp (bV (.cons (bg Y.ok (gA (dX Y)) dY (.cons (bL Y.ok (aa nC _) (Y.fok ⋯) (i6 Y) aP (fO Y)) .nil)) (.cons (bg Y.ok (gA (tu Y)) tA (.cons (bL Y.ok (aa nC _) (Y.fok ⋯) (i6 Y) aP (fO Y)) .nil)) (.cons (bg Y.ok (gA (dX Y)) dY (.cons (bL Y.ok (aa nC _) (Y.fok ⋯) (ij Y) aP (e7 Y)) .nil)) (.cons (bg Y.ok (gA (tu Y)) tA (.cons (bL Y.ok (aa nC _) (Y.fok ⋯) (ij Y) aP (e7 Y)) .nil)) .nil))))) (bV (.cons (ak _ _ _) (.cons (bg Y.ok (gA (dX Y)) dY (.cons (aa nC _) .nil)) (.cons (ak _ _ _) (.cons (bg Y.ok (gA (dX Y)) dY (.cons (aa nC _) .nil)) .nil))))) dT))))))
noncomputable def KS:EM AF:=
 (bm (ae (ae (bN [(ae (bN [(rd 0)]) (cr rH)),(ae (ae (bN [(rd 0)]) gI) λ a=>ae (ret (.int 1)) λ b=>b6 .Gt a b)]) mm) λ v=>ae (yd [2,1] v) λ _=>ret .next) (bm (ae (ae (bN [(ae (ae (bN [(ret (.int 3)),(ret (.int 7)),(ret (.int 4))]) (cr oF)) λ a=>ae (ae (bN [(ae (bN [(ret (.int 258)),(ret (.int 0))]) mm)]) gH) λ b=>AW a b),(ae (bN [(ret (.int 1)),(ret (.int 15)),(ret (.int 2))]) (cr oF))]) mm) λ v=>ae (yd [4,3] v) λ _=>ret .next) (bm (ae (ae (bN [(rd 1),(rd 2)]) (cr qa)) λ v=>ae (wr 5 v) λ _=>ret .next) (bm (ae (ae (bN [(rd 5),(rd 3),(rd 4)]) (cr qc)) λ v=>ae (pi [6,7,8] v) λ _=>ret .next) (bm (ae (ae (bN [(rd 5)]) (pt 258 kq)) λ v=>ae (wr 9 v) λ _=>ret .next) (bm (ae (ae (ae (ae (bN [(rd 9),(rd 6),(rd 7),(rd 8)]) (cr nE)) tr) λ b=>ret (!b)) λ t=>if t then(ae (ret (.bool false)) λ v=>ret (.ret v)) else(ret .next)) (bm (ae (ae (bN [(ae (bN [(ae (bN [(ae (rd 9) (cK [258] [] 4))]) (cr km)),(ret (.int 15))]) (cr iz))]) qR) λ v=>ae (wr 10 v) λ _=>ret .next) (bm (ae (ae (ae (rd 7) λ a=>ae (ae (bN []) gH) λ b=>ae (b6 .NotEq a b) tr) λ t=>if t then(ae (bN [(ae (bN [(ae (rd 9) (cK [258] [] 5)),(ret (.int 15))]) (cr iz))]) qR) else(ae (bN [(ret (.int 0))]) gH)) λ v=>ae (wr 11 v) λ _=>ret .next) (bm (ae (ae (ae (ae (bN [(rd 6)]) (cr mi)) λ a=>ae (ae (bN [(rd 7)]) (cr mi)) λ b=>bX .Add a b) λ a=>ae (rd 8) λ b=>bX .Add a b) λ v=>ae (wr 12 v) λ _=>ret .next) (bm (ae (ae (bN [(ae (bN [(rd 10)]) (pt 174 dP)),(ae (bN [(rd 11)]) (pt 174 dP))]) (pt 216 hJ)) λ v=>ae (wr 13 v) λ _=>ret .next) (bm (ae (ae (ae (ae (rd 9) λ v=>eY [(258,iM)] v [(ae (bN [(rd 10)]) (pt 174 dP)),(ae (bN [(rd 11)]) (pt 174 dP))]) λ a=>ae (rd 12) λ b=>ae (b6 .NotEq a b) tr) λ t=>if t then ret true else(ae (ae (ae (bN [(rd 5),(rd 13)]) (cr qB)) λ a=>ae (ae (rd 10) λ o=>ae (ret (.int 256)) λ i=>de o i) λ b=>bX .Add a b) λ a=>ae (rd 12) λ b=>ae (b6 .NotEq a b) tr)) λ t=>if t then(ae (ret (.bool false)) λ v=>ret (.ret v)) else(ret .next)) (bm (ae (fg [21] pB (ae (ae (bN [(ret (.int 1)),(ret (.int 2)),(ret (.int 3)),(ret (.int 254))]) mm) jB) (wr 21) (ae (rd 21) λ a=>ae (rd 6) λ b=>ae (td a b) tr) (rd 21)) λ v=>ae (wr 14 v) λ _=>ret .next) (bm (ae (ae (fg [22] pB (ae (rd 14) jB) (wr 22) (ret true) (ae (rd 13) λ v=>eY [(216,gT)] v [(rd 22)])) λ a=>ae (ae (ae (bN [(ae (ae (bN [(rd 10)]) vF) λ a=>ae (ret (.int 1)) λ b=>bX .Add a b)]) gH) λ a=>ae (ae (bN [(rd 14)]) gI) λ b=>tf a b) λ b=>ae (b6 .NotEq a b) tr) λ t=>if t then(ae (ret (.bool false)) λ v=>ret (.ret v)) else(ret .next)) (bm (ae (ae (bN [(rd 5),(rd 10),(rd 11)]) (cr nD)) λ v=>ae (pi [15,16] v) λ _=>ret .next) (bm (ae (ae (ae (rd 16) λ a=>ae (rd 12) λ b=>ae (b6 .NotEq a b) tr) λ t=>if t then ret true else ae (ae (ret (.str (Str.ofString "1"))) λ a=>ae (ae (rd 15) λ o=>ae (i3 (some (rd 12))) λ a=>ae (i3 none) λ b=>wu o a b) λ b=>ae (b6 .In a b) tr) λ t=>if t then ret true else(ae (ae (bN [(rd 15),(ae (bN [(rd 10)]) (cr mY)),(ae (bN [(rd 11)]) (cr mY)),(rd 3),(rd 4)]) (cr rI)) λ a=>ae (ae (bN [(rd 5),(rd 12)]) mm) λ b=>ae (b6 .NotEq a b) tr)) λ t=>if t then(ae (ret (.bool false)) λ v=>ret (.ret v)) else(ret .next)) (bm (ae (ae (ae (rd 8) λ a=>ae (ae (bN [(fg [23] pB (ae (rd 6) jB) (wr 23) (ret true) (ae (bN [(rd 23)]) (cr qd)))]) wA) λ b=>bX .Add a b) λ a=>ae (ae (ret (.int 5)) λ a=>ae (ae (bN [(rd 7)]) gI) λ b=>bX .Mult a b) λ b=>bX .Add a b) λ v=>ae (wr 17 v) λ _=>ret .next) (bm (ae (ae (ae (bN [(rd 5),(ae (bN [(Ej 111),(Ej 146)]) (pt 216 hJ))]) (cr qB)) λ a=>ae (ret (.int 7)) λ b=>bX .Add a b) λ v=>ae (wr 18 v) λ _=>ret .next) (bm (ae (ae (ae (rd 17) λ a=>ae (rd 12) λ b=>ae (b6 .Lt a b) tr) λ t=>if t then ret true else ae (ae (rd 18) λ a=>ae (rd 17) λ b=>ae (b6 .NotEq a b) tr) λ t=>if t then ret true else(ae (ae (rd 9) λ v=>eY [(258,iM)] v [(Ej 111),(Ej 146)]) λ a=>ae (rd 17) λ b=>ae (b6 .NotEq a b) tr)) λ t=>if t then(ae (ret (.bool false)) λ v=>ret (.ret v)) else(ret .next)) (bm (ae (ae (ae (bN [(ae (bN [(ret (.int 0)),(ret (.int 0)),(ret (.int 0))]) gH),(ae (bN [(ret (.int 0)),(ret (.int 5)),(ret (.int 0))]) gH),(ae (bN [(ret (.int 4)),(ret (.int 0)),(ret (.int 0))]) gH),(ae (bN [(ret (.int 2)),(ret (.int 3)),(ret (.int 0))]) gH),(ae (bN [(ret (.int 0)),(ret (.int 0)),(ret (.int 1))]) gH)]) gH) λ o=>ae (ae (bN [(rd 1),(ret (.int 5))]) (cr fG)) λ i=>de o i) λ v=>ae (wr 19 v) λ _=>ret .next) (bm (ae (ae (bN [(rd 19)]) (cr km)) λ v=>ae (wr 20 v) λ _=>ret .next) (ae (ae (rd 20) λ a=>ae (ae (ae (bN [(ae (bN [(ret (.int 1)),(ret (.int 1)),(ret (.int 0))]) gH),(ae (bN [(ret (.int 1)),(ret (.int 5)),(ret (.int 0))]) gH),(ae (bN [(ret (.int 4)),(ret (.int 1)),(ret (.int 0))]) gH),(ae (bN [(ret (.int 2)),(ret (.int 3)),(ret (.int 0))]) gH),(ae (bN [(ret (.int 1)),(ret (.int 0)),(ret (.int 1))]) gH)]) gH) λ o=>ae (ae (ae (bN [(ae (bN [(ret (.int 0)),(ret (.int 0)),(ret (.int 0))]) gH),(ae (bN [(ret (.int 0)),(ret (.int 5)),(ret (.int 0))]) gH),(ae (bN [(ret (.int 4)),(ret (.int 0)),(ret (.int 0))]) gH),(ae (bN [(ret (.int 2)),(ret (.int 3)),(ret (.int 0))]) gH),(ae (bN [(ret (.int 0)),(ret (.int 0)),(ret (.int 1))]) gH)]) gH) λ v=>mH "list" rB v [(rd 19)]) λ i=>de o i) λ b=>b6 .Eq a b) λ v=>ret (.ret v))))))))))))))))))))))
noncomputable def A1:fR:=dS 24 1 KS
theorem Iz {C:Cx} (Y:KX C):gU C 8 560 A1:=by
 have h1:(K0 C.w.params).lookup 560=some ⟨_,_,.func _,_⟩:=rfl
 have O:=bO Y.hK h1 ∅ (body:=_) rfl (params:=[(Str.ofString "script")]) (names:=[(Str.ofString "script"),(Str.ofString "pool"),(Str.ofString "wide"),(Str.ofString "lengths"),(Str.ofString "distances"),(Str.ofString "steps"),(Str.ofString "near"),(Str.ofString "far"),(Str.ofString "behind"),(Str.ofString "counts"),(Str.ofString "one"),(Str.ofString "other"),(Str.ofString "due"),(Str.ofString "price"),(Str.ofString "unseen"),(Str.ofString "text"),(Str.ofString "size"),(Str.ofString "fixed"),(Str.ofString "told"),(Str.ofString "some"),(Str.ofString "made")]) ∅ (i5 (by rfl) λ a=>by kernel_rfl)
 exact lA Y.ok O 3 λ L=>(ZSO.out (fh (xd (nH (names:=[(Str.ofString "pool"),(Str.ofString "wide")]) (.cons nL (.cons nL .nil)) (mN (.cons (eU Y.ok (gA (AC Y)) (Aq Y) ((zT Y).up ⋯) (.cons (bv nL _) .nil)) (.cons (HT (n8 Y.ok (gA (dX Y)) dY (.cons (bv nL _) .nil)) (bx _ _ _) fU) .nil))) ∅)) (fh (xd (nH (names:=[(Str.ofString "lengths"),(Str.ofString "distances")]) (.cons nL (.cons nL .nil)) (mN (.cons (oP (eU Y.ok (gA (t9 Y)) (t4 Y) ((tS Y).up ⋯) (.cons (bx _ _ _) (.cons (bx _ _ _) (.cons (bx _ _ _) .nil)))) (e8 (.cons (mN (.cons (bx _ _ _) (.cons (bx _ _ _) .nil))) .nil)) yF) (.cons (eU Y.ok (gA (t9 Y)) (t4 Y) ((tS Y).up ⋯) (.cons (bx _ _ _) (.cons (bx _ _ _) (.cons (bx _ _ _) .nil)))) .nil))) ∅)) (fh (xd (dm nL (eU Y.ok (gA (yX Y)) (yK Y) ((ym Y).up ⋯) (.cons (bv nL _) (.cons (bv nL _) .nil))) ∅)) (fh (xd (uZ (.cons nC (.cons nL (.cons nL .nil))) (eU Y.ok (gA (yY Y)) (yL Y) ((yn Y).up ⋯) (.cons (bv nL _) (.cons (bv nL _) (.cons (bv nL _) .nil)))) ∅ ∅)) (fh (xd (dm nL (uX Y.ok (gA (wX Y)) (w3 Y) (wT Y) (wx Y) ((rk Y).up ⋯) (.cons (bv nL _) .nil)) ∅)) (fh (xd (DA (yc (zF (eU Y.ok (gA (vX Y)) (vK Y) ((vh Y).up ⋯) (.cons (bv nL _) (.cons (bv nC _) (.cons (bv nL _) (.cons (bv nL _) .nil))))))) (n7 (mw (uY _ _ _))) zE)) (fh (xd (dm nL (n8 Y.ok (gA (uM Y)) uR (.cons (eU Y.ok (gA (n0 Y)) (nU Y) ((nM Y).up ⋯) (.cons (eU Y.ok (gA (oZ Y)) (oV Y) ((oS Y).up ⋯) (.cons (EY Y.ok (bv nL _) (Y.fok ⋯) (i6 Y) aP (fO Y)) .nil)) (.cons (bx _ _ _) .nil))) .nil)) ∅)) (fh (xd (dm nL (Cc (dK (bv nL _) (e8 .nil) fj) (n8 Y.ok (gA (uM Y)) uR (.cons (eU Y.ok (gA (n0 Y)) (nU Y) ((nM Y).up ⋯) (.cons (EY Y.ok (bv nL _) (Y.fok ⋯) (ij Y) aP (e7 Y)) (.cons (bx _ _ _) .nil))) .nil)) (e8 (.cons (bx _ _ _) .nil))) ∅)) (fh (xd (dm nL (oP (oP (eU Y.ok (gA (q5 Y)) (qV Y) ((qP Y).up ⋯) (.cons (bv nC _) .nil)) (eU Y.ok (gA (q5 Y)) (qV Y) ((qP Y).up ⋯) (.cons (bv nL _) .nil)) (ap .Add)) (bv nL _) (ap .Add)) ∅)) (fh (xd (dm nC (uX Y.ok (gA (sy Y)) (sI Y) (sr Y) (rP Y) ((mP Y).up ⋯) (.cons (uX Y.ok (gA (kf Y)) (kj Y) (kc Y) (jY Y) ((gP Y).up ⋯) (.cons (bv nL _) .nil)) (.cons (uX Y.ok (gA (kf Y)) (kj Y) (kc Y) (jY Y) ((gP Y).up ⋯) (.cons (bv nL _) .nil)) .nil))) ∅)) (fh (xd (DA (yb (dK (A9 Y.ok (Y.notField ∅ ∅) (aY (Y.meOk ∅ ((my Y).up ⋯)) aP) (bv nL _) (.cons (uX Y.ok (gA (kf Y)) (kj Y) (kc Y) (jY Y) ((gP Y).up ⋯) (.cons (bv nL _) .nil)) (.cons (uX Y.ok (gA (kf Y)) (kj Y) (kc Y) (jY Y) ((gP Y).up ⋯) (.cons (bv nL _) .nil)) .nil))) (bv nL _) fj) (dK (oP (eU Y.ok (gA (vW Y)) (vJ Y) ((vg Y).up ⋯) (.cons (bv nL _) (.cons (bv nC _) .nil))) (xc (bv nL _) (bx _ _ _)) (ap .Add)) (bv nL _) fj)) (n7 (mw (uY _ _ _))) zE)) (fh (xd (rf nL ∅ jh (sV (vars:=[(21,(Str.ofString "octet"))]) ∅ ∅ (aY ∅ aP) (Ba (mN (.cons (bx _ _ _) (.cons (bx _ _ _) (.cons (bx _ _ _) (.cons (bx _ _ _) .nil)))))) (λ L=>(re nL _)) (λ L=>(zD (dK (bv nL _) (bv nC _) sf))) (λ L=>(bv nL _))) ∅)) (fh (xd (DA (dK (tQ jh (sV (vars:=[(22,(Str.ofString "octet"))]) ∅ ∅ (aY ∅ aP) (Ba (bv nL _)) (λ L=>(re nL _)) (λ L=>tP) (λ L=>(A9 Y.ok (Y.notField ∅ ∅) (aY (Y.meOk ∅ ((lh Y).up ⋯)) aP) (bv nC _) (.cons (bv nL _) .nil))))) (oP (e8 (.cons (oP (n8 Y.ok (gA (tv Y)) tB (.cons (bv nL _) .nil)) (bx _ _ _) (ap .Add)) .nil)) (n8 Y.ok (gA (dX Y)) dY (.cons (bv nL _) .nil)) mR) fj) (n7 (mw (uY _ _ _))) zE)) (fh (uj (.cons nL (.cons nL .nil)) (GZ Y.ok (gA (vV Y)) (vI Y) ((vf Y).up ⋯) (.cons (bv nL _) (.cons (bv nL _) (.cons (bv nL _) .nil)))) ∅ ∅) (fh (xd (DA (rM (dK (bv nL _) (bv nL _) fj) (dK (JN _ _ _) (GW (bv nL _) (.some (bv nL _)) .none) xB) (dK (eU Y.ok (gA (AD Y)) (Ar Y) ((zU Y).up ⋯) (.cons (bv nL _) (.cons (eU Y.ok (gA (sx Y)) (sn Y) ((rS Y).up ⋯) (.cons (bv nL _) .nil)) (.cons (eU Y.ok (gA (sx Y)) (sn Y) ((rS Y).up ⋯) (.cons (bv nL _) .nil)) (.cons (bv nL _) (.cons (bv nL _) .nil)))))) (mN (.cons (bv nL _) (.cons (bv nL _) .nil))) fj)) (n7 (mw (uY _ _ _))) zE)) (fh (xd (dm nL (oP (oP (bv nL _) (n8 Y.ok (gA (tu Y)) tA (.cons (tQ jh (sV (vars:=[(23,(Str.ofString "mark"))]) ∅ ∅ (aY ∅ aP) (Ba (bv nC _)) (λ L=>(re nL _)) (λ L=>tP) (λ L=>(eU Y.ok (gA (yZ Y)) (yM Y) ((yo Y).up ⋯) (.cons (bv nL _) .nil))))) .nil)) (ap .Add)) (oP (bx _ _ _) (n8 Y.ok (gA (dX Y)) dY (.cons (bv nL _) .nil)) (ap .Mult)) (ap .Add)) ∅)) (fh (xd (dm nL (oP (eU Y.ok (gA (vW Y)) (vJ Y) ((vg Y).up ⋯) (.cons (bv nL _) (.cons (uX Y.ok (gA (sy Y)) (sI Y) (sr Y) (rP Y) ((mP Y).up ⋯) (.cons (ya Y.ok (gA (n3 Y)) (n4 Y) (nW Y)) (.cons (ya Y.ok (gA (mV Y)) (mX Y) (mT Y)) .nil))) .nil))) (bx _ _ _) (ap .Add)) ∅)) (fh (xd (DA (rM (dK (bv nL _) (bv nL _) cN) (dK (bv nL _) (bv nL _) fj) (dK (A9 Y.ok (Y.notField ∅ ∅) (aY (Y.meOk ∅ ((my Y).up ⋯)) aP) (bv nL _) (.cons (ya Y.ok (gA (n3 Y)) (n4 Y) (nW Y)) (.cons (ya Y.ok (gA (mV Y)) (mX Y) (mT Y)) .nil))) (bv nL _) fj)) (n7 (mw (uY _ _ _))) zE)) (fh (xd (dm nL (xc (e8 (.cons (e8 (.cons (bx _ _ _) (.cons (bx _ _ _) (.cons (bx _ _ _) .nil)))) (.cons (e8 (.cons (bx _ _ _) (.cons (bx _ _ _) (.cons (bx _ _ _) .nil)))) (.cons (e8 (.cons (bx _ _ _) (.cons (bx _ _ _) (.cons (bx _ _ _) .nil)))) (.cons (e8 (.cons (bx _ _ _) (.cons (bx _ _ _) (.cons (bx _ _ _) .nil)))) (.cons (e8 (.cons (bx _ _ _) (.cons (bx _ _ _) (.cons (bx _ _ _) .nil)))) .nil)))))) (eU Y.ok (gA (gC Y)) (gB Y) ((gy Y).up ⋯) (.cons (bv nL _) (.cons (bx _ _ _) .nil)))) ∅)) (fh (xd (dm nL (eU Y.ok (gA (oZ Y)) (oV Y) ((oS Y).up ⋯) (.cons (bv nL _) .nil)) ∅)) (GX (xd (mw (HT (bv nL _) (xc (e8 (.cons (e8 (.cons (bx _ _ _) (.cons (bx _ _ _) (.cons (bx _ _ _) .nil)))) (.cons (e8 (.cons (bx _ _ _) (.cons (bx _ _ _) (.cons (bx _ _ _) .nil)))) (.cons (e8 (.cons (bx _ _ _) (.cons (bx _ _ _) (.cons (bx _ _ _) .nil)))) (.cons (e8 (.cons (bx _ _ _) (.cons (bx _ _ _) (.cons (bx _ _ _) .nil)))) (.cons (e8 (.cons (bx _ _ _) (.cons (bx _ _ _) (.cons (bx _ _ _) .nil)))) .nil)))))) (GY ∅ (e8 (.cons (e8 (.cons (bx _ _ _) (.cons (bx _ _ _) (.cons (bx _ _ _) .nil)))) (.cons (e8 (.cons (bx _ _ _) (.cons (bx _ _ _) (.cons (bx _ _ _) .nil)))) (.cons (e8 (.cons (bx _ _ _) (.cons (bx _ _ _) (.cons (bx _ _ _) .nil)))) (.cons (e8 (.cons (bx _ _ _) (.cons (bx _ _ _) (.cons (bx _ _ _) .nil)))) (.cons (e8 (.cons (bx _ _ _) (.cons (bx _ _ _) (.cons (bx _ _ _) .nil)))) .nil)))))) (.cons (bv nL _) .nil))) dT)))))))))))))))))))))))))
noncomputable def W' {α:Type} (m:EM α) (σ:St) (Q:α→St→Prop):Prop:=match m σ with
 |some (a,bc)=>Q a bc
 |none=>False
structure W {α:Type} (m:EM α) (σ:St) (Q:α→St→Prop):Prop where
 out:W' m σ Q
theorem dg {α:Type} (m:EM α) (σ:St) (Q:α→St→Prop):W m σ Q=W' m σ Q:=propext ⟨W.out,W.mk⟩
noncomputable def JE (G:fR) (args:List AV) (h:List AO) (R:AV→List AO→Prop):Prop:=match G args h with
 |some (v,h')=>R v h'
 |none=>False
structure Sp (G:fR) (args:List AV) (h:List AO) (R:AV→List AO→Prop):Prop where
 out:JE G args h R
theorem zi (G:fR) (args:List AV) (h:List AO) (R:AV→List AO→Prop):Sp G args h R=JE G args h R:=propext ⟨Sp.out,Sp.mk⟩
theorem Sp.mono {G:fR} {args:List AV} {h:List AO} {R R':AV→List AO→Prop} (x:Sp G args h R) (m:∀v h',R v h'→R' v h'):Sp G args h R':=by
 rw[zi] at x⊢
 unfold JE at x⊢
 split at x
 ·exact m _ _ x
 ·exact x
section
variable{G:fR} {args:List AV} {h:List AO} {Q:AV→List AO→Prop}
theorem Sp.u2 {v:AV} {h0:List AO} (x:Sp G args h λ r h'=>r=v∧h'=h0) (k:Q v h0):Sp G args h Q:=x.mono λ z z q=>q.1▸q.2▸k
theorem Sp.w2 {v:AV} {h0:List AO} (x:Sp G args h λ r h'=>h'=h0∧r=v) (k:Q v h0):Sp G args h Q:=x.mono λ z z q=>q.1▸q.2▸k
theorem Sp.u11 {v:AV} {P1:List AO→Prop} (x:Sp G args h λ r h'=>r=v∧P1 h') (k:∀h',P1 h'→Q v h'):Sp G args h Q:=x.mono λ z h' q=>q.1▸k h' q.2
theorem Sp.u12 {v:AV} {P1 P2:List AO→Prop} (x:Sp G args h λ r h'=>r=v∧P1 h'∧P2 h') (k:∀h',P1 h'→P2 h'→Q v h'):Sp G args h Q:=x.mono λ z h' q=>q.1▸k h' q.2.1 q.2.2
theorem Sp.u13 {v:AV} {P1 P2 P3:List AO→Prop} (x:Sp G args h λ r h'=>r=v∧P1 h'∧P2 h'∧P3 h') (k:∀h',P1 h'→P2 h'→P3 h'→Q v h'):Sp G args h Q:=x.mono λ z h' q=>q.1▸k h' q.2.1 q.2.2.1 q.2.2.2
theorem Sp.u14 {v:AV} {P1 P2 P3 P4:List AO→Prop} (x:Sp G args h λ r h'=>r=v∧P1 h'∧P2 h'∧P3 h'∧P4 h') (k:∀h',P1 h'→P2 h'→P3 h'→P4 h'→Q v h'):Sp G args h Q:=x.mono λ z h' q=>q.1▸k h' q.2.1 q.2.2.1 q.2.2.2.1 q.2.2.2.2
theorem Sp.v11 {A:Type} {v:A→AV} {P1:A→List AO→Prop} (x:Sp G args h λ r h'=>∃a,r=v a∧P1 a h') (k:∀h' a,P1 a h'→Q (v a) h'):Sp G args h Q:=x.mono λ z h' q=>q.elim λ a q=>q.1▸k h' a q.2
theorem Sp.v12 {A:Type} {v:A→AV} {P1 P2:A→List AO→Prop} (x:Sp G args h λ r h'=>∃a,r=v a∧P1 a h'∧P2 a h') (k:∀h' a,P1 a h'→P2 a h'→Q (v a) h'):Sp G args h Q:=x.mono λ z h' q=>q.elim λ a q=>q.1▸k h' a q.2.1 q.2.2
theorem Sp.v13 {A:Type} {v:A→AV} {P1 P2 P3:A→List AO→Prop} (x:Sp G args h λ r h'=>∃a,r=v a∧P1 a h'∧P2 a h'∧P3 a h') (k:∀h' a,P1 a h'→P2 a h'→P3 a h'→Q (v a) h'):Sp G args h Q:=x.mono λ z h' q=>q.elim λ a q=>q.1▸k h' a q.2.1 q.2.2.1 q.2.2.2
theorem Sp.v14 {A:Type} {v:A→AV} {P1 P2 P3 P4:A→List AO→Prop} (x:Sp G args h λ r h'=>∃a,r=v a∧P1 a h'∧P2 a h'∧P3 a h'∧P4 a h') (k:∀h' a,P1 a h'→P2 a h'→P3 a h'→P4 a h'→Q (v a) h'):Sp G args h Q:=x.mono λ z h' q=>q.elim λ a q=>q.1▸k h' a q.2.1 q.2.2.1 q.2.2.2.1 q.2.2.2.2
theorem Sp.v15 {A:Type} {v:A→AV} {P1 P2 P3 P4 P5:A→List AO→Prop} (x:Sp G args h λ r h'=>∃a,r=v a∧P1 a h'∧P2 a h'∧P3 a h'∧P4 a h'∧P5 a h') (k:∀h' a,P1 a h'→P2 a h'→P3 a h'→P4 a h'→P5 a h'→Q (v a) h'):Sp G args h Q:=x.mono λ z h' q=>q.elim λ a q=>q.1▸k h' a q.2.1 q.2.2.1 q.2.2.2.1 q.2.2.2.2.1 q.2.2.2.2.2
theorem Sp.v16 {A:Type} {v:A→AV} {P1 P2 P3 P4 P5 P6:A→List AO→Prop} (x:Sp G args h λ r h'=>∃a,r=v a∧P1 a h'∧P2 a h'∧P3 a h'∧P4 a h'∧P5 a h'∧P6 a h') (k:∀h' a,P1 a h'→P2 a h'→P3 a h'→P4 a h'→P5 a h'→P6 a h'→Q (v a) h'):Sp G args h Q:=x.mono λ z h' q=>q.elim λ a q=>q.1▸k h' a q.2.1 q.2.2.1 q.2.2.2.1 q.2.2.2.2.1 q.2.2.2.2.2.1 q.2.2.2.2.2.2
end
theorem W.mono {α:Type} {m:EM α} {σ:St} {Q Q':α→St→Prop} (x:W m σ Q) (k:∀a bc,Q a bc→Q' a bc):W m σ Q':=by
 rw[dg] at x⊢;unfold W' at x⊢
 split at x
 ·exact k _ _ x
 ·exact x
theorem me {α:Type} {m:EM α} {σ bc:St} {a:α} {Q:α→St→Prop} (e:m σ=some (a,bc)) (q:Q a bc):W m σ Q:=by rw[dg];unfold W';rw[e];exact q
theorem lV {α β:Type} (m:EM α) (f:α→EM β) (σ:St) (Q:β→St→Prop):W (ae m f) σ Q=W m σ λ a bc=>W (f a) bc Q:=by
 rw[dg,dg m];unfold W' ae
 cases m σ with
 |none=>rfl
 |some p=>exact(dg _ _ _).symm
theorem ug {α:Type} (a:α) (σ:St) (Q:α→St→Prop):W (ret a) σ Q=Q a σ:=by simp only[dg];rfl
theorem LL {α:Type} (m:EM α) (σ:St) (Q:α→St→Prop):(match m σ with|some (a,bc)=>Q a bc|none=>False)=W m σ Q:=(dg _ _ _).symm
theorem JA {α β:Type} (m:EM α) (f:α→EM β) (σ:St) (Q:β→St→Prop):(match ae m f σ with|some (a,bc)=>Q a bc|none=>False)=W m σ λ a bc=>W (f a) bc Q:=(dg _ _ _).symm.trans (lV _ _ _ _)
theorem Il {α:Type} (c:Prop) [Decidable c] (a b:EM α) (σ:St) (Q:α→St→Prop):W (if c then a else b) σ Q=if c then W a σ Q else W b σ Q:=by split<;>rfl
theorem HN (i:Nat) (a:AV) (l:List (Option AV)) (h:List AO) (Q:Unit→St→Prop):W (wr i a) ⟨l,h⟩ Q=(i<l.length∧Q () ⟨l.set i (some a),h⟩):=by
 rw[dg];unfold W' wr
 by_cases q:i<l.length
 ·simp[q]
 ·simp[q]
theorem Jo (f g:EM AF) (σ:St) (Q:AF→St→Prop):W (bm f g) σ Q=W f σ λ fl bc=>match fl with| .next=>W g bc Q| .brk=>Q .brk bc| .cont=>Q .cont bc| .ret v=>Q (.ret v) bc:=by
 rw[bm,lV]
 congr 1
 funext fl bc
 cases fl<;>first|rfl|exact ug _ _ _
theorem IS {α:Type} {c d:Prop} [Decidable c] (hd:c↔d) {a:α} {σ:St} {Q:α→St→Prop}:(match(if c then some (a,σ) else none) with|some (a,bc)=>Q a bc|none=>False)=(d∧Q a σ):=by
 by_cases q:c
 ·rw[if_pos q];exact propext ⟨λ x=>⟨hd.mp q,x⟩,And.right⟩
 ·rw[if_neg q];exact propext ⟨False.elim,λ x=>q (hd.mpr x.1)⟩
theorem FL {c d:Prop} [Decidable c] (hd:c↔d) {z:Int} {P:Int→Prop}:(match(if c then some z else none) with|some z=>P z|none=>False)=(d∧P z):=by
 by_cases q:c
 ·rw[if_pos q];exact propext ⟨λ x=>⟨hd.mp q,x⟩,And.right⟩
 ·rw[if_neg q];exact propext ⟨False.elim,λ x=>q (hd.mpr x.1)⟩
theorem xO {α:Type} {n:Nat} {a:α} {σ:St} {Q:α→St→Prop}:(match(if iJ n=true then some (a,σ) else none) with|some (a,bc)=>Q a bc|none=>False)=(n≤1000000∧Q a σ):=IS decide_eq_true_iff
theorem Ik (vs:List AV) (l:List (Option AV)) (h:List AO) (Q:AV→St→Prop):W (gH vs) ⟨l,h⟩ Q=(vs.length≤1000000∧Q (.ref h.length) ⟨l,h++[.list vs]⟩):=by
 rw[dg];unfold W' gH
 exact xO
theorem KH (x y:AV) (σ:St) (Q:AV→St→Prop):W (b6 .Eq x y) σ Q=match pw 5 σ.h x y with|some b=>Q (.bool b) σ|none=>False:=by
 rw[dg];unfold W' b6;dsimp only
 cases pw 5 σ.h x y<;>rfl
theorem KB (x y:AV) (σ:St) (Q:AV→St→Prop):W (b6 .NotEq x y) σ Q=match pw 5 σ.h x y with|some b=>Q (.bool (!b)) σ|none=>False:=by
 rw[dg];unfold W' b6;dsimp only
 cases pw 5 σ.h x y<;>rfl
theorem LA (x y:AV) (σ:St) (Q:AV→St→Prop):W (b6 .In x y) σ Q=match EW σ.h x y with|some b=>Q (.bool b) σ|none=>False:=by
 rw[dg];unfold W' b6;dsimp only
 cases EW σ.h x y<;>rfl
theorem AZ (op:Operator) (x y:Int) (σ:St) (Q:AV→St→Prop):W (bX op (.int x) (.int y)) σ Q=match IQ op x y with|some z=>Q (.int z) σ|none=>False:=by
 rw[dg];unfold W' bX;dsimp only
 cases IQ op x y<;>rfl
theorem Ij (x y:Int) (σ:St) (Q:AV→St→Prop):W (bX .Mult (.int x) (.int y)) σ Q=((small x||small y)=true∧Q (.int (x*y)) σ):=by
 rw[AZ];exact FL Iff.rfl
theorem Jy (x y:Int) (σ:St) (Q:AV→St→Prop):W (bX .FloorDiv (.int x) (.int y)) σ Q=((y≠0∧y.natAbs<1073741824)∧Q (.int (x.fdiv y)) σ):=by
 rw[AZ];exact FL Iff.rfl
theorem KC (x y:Int) (σ:St) (Q:AV→St→Prop):W (bX .Mod (.int x) (.int y)) σ Q=(y≠0∧Q (.int (x.fmod y)) σ):=by
 rw[AZ];exact FL Iff.rfl
theorem Ii (x y:Int) (σ:St) (Q:AV→St→Prop):W (bX .LShift (.int x) (.int y)) σ Q=((0≤y∧y≤1000000∧x.natAbs<2^64)∧Q (.int (x*2^y.toNat)) σ):=by
 rw[AZ];exact FL Iff.rfl
theorem Kz (x y:Int) (σ:St) (Q:AV→St→Prop):W (bX .RShift (.int x) (.int y)) σ Q=(0≤y∧Q (.int (x.fdiv (2^y.toNat))) σ):=by
 rw[AZ];exact FL Iff.rfl
theorem HQ (G:fR) (args:List AV) (l:List (Option AV)) (h:List AO) (Q:AV→St→Prop):W (cr G args) ⟨l,h⟩ Q=Sp G args h λ v h'=>Q v ⟨l,h'⟩:=by
 rw[dg,zi];unfold W' cr JE;dsimp only
 cases G args h<;>rfl
theorem Jt (c:Addr) (G:fR) (args:List AV) (l:List (Option AV)) (h:List AO) (Q:AV→St→Prop):W (pt c G args) ⟨l,h⟩ Q=Sp G (.ref h.length::args) (h++[.inst c []]) λ v h'=>(v= .none∧Q (.ref h.length) ⟨l,h'⟩):=by
 rw[dg,zi];unfold W' pt JE;dsimp only
 generalize G (.ref h.length::args) (h++[.inst c []])=o
 rcases o with _|⟨v,h'⟩
 ·rfl
 ·cases v<;>first|exact propext ⟨λ x=>⟨rfl,x⟩,And.right⟩|exact propext ⟨False.elim,λ x=>nomatch x.1⟩
noncomputable def x7 (D:List (Addr×fR)) (n:Nat) (h:List AO) (P:fR→Prop):Prop:=match h[n]? with
   |some (.inst c _)=>(match D.lookup c with
    |some G=>P G
    |none=>False)
   |_=>False
theorem sN {D:List (Addr×fR)} {n:Nat} {h:List AO} {c:Addr} {fs:List (Nat×AV)} {G:fR} (e:h[n]? =some (.inst c fs)) (l:D.lookup c=some G) (P:fR→Prop):x7 D n h P=P G:=by
 unfold x7;rw[e];dsimp only;rw[l]
theorem Ds (D:List (Addr×fR)) (n:Nat) (fs:List (EM AV)) (l:List (Option AV)) (h:List AO) (Q:AV→St→Prop):
  W (eY D (.ref n) fs) ⟨l,h⟩ Q=x7 D n h λ G=>W (bN fs) ⟨l,h⟩ λ as σ=>W (cr G (.ref n::as)) σ Q:=by
 unfold eY BP x7
 conv=>lhs;rw[dg];unfold W'
 dsimp only
 cases h[n]? with
 |none=>rfl
 |some o=>
  set_option tactic.hygienic true in cases o<;>first|rfl|skip
  rename_i c fs'
  dsimp only
  cases D.lookup c with
  |none=>rfl
  |some G=>exact(dg _ _ _).symm.trans (lV _ _ _ _)
theorem AY (T:String) (g:AV→List AV→EM AV) (o:AV) (fs:List (EM AV)) (σ:St) (Q:AV→St→Prop):
  W (mH T g o fs) σ Q=(m8 σ.h o=some T∧W (bN fs) σ λ as bc=>m8 bc.h o=some T∧W (g o as) bc Q):=by
 unfold mH
 conv=>lhs;rw[dg];unfold W'
 dsimp only
 by_cases q:m8 σ.h o=some T
 ·simp only[q,m0,true_and]
  refine(JA _ _ _ _).trans ?_
  congr 1
  funext as bc
  conv=>lhs;rw[dg];unfold W'
  dsimp only
  by_cases q':m8 bc.h o=some T
  ·simp only[q',m0,true_and];exact LL _ _ _
  ·simp only[q',m3,false_and]
 ·simp only[q,m3,false_and]
theorem B4 (f:EM AV) (fs:List (EM AV)) (σ:St) (Q:List AV→St→Prop):W (bN (f::fs)) σ Q=W f σ λ a bc=>W (bN fs) bc λ as pg=>Q (a::as) pg:=by
 refine(lV f (λ a=>ae (bN fs) λ l=>ret (a::l)) σ Q).trans ?_
 congr 1
 funext a bc
 rw[lV];congr 1;funext as pg;exact ug _ _ _
theorem GG (n:Nat) (x:AV) (l:List (Option AV)) (h:List AO) (Q:AV→St→Prop):W (lE (.ref n) [x]) ⟨l,h⟩ Q=match h[n]? with
   |some (.list vs)=>vs.length≤1000000∧Q .none ⟨l,h.set n (.list (vs++[x]))⟩
   |_=>False:=by
 rw[dg];unfold W' lE pv;dsimp only
 generalize h[n]? =o
 rcases o with _|_|_|_|_|_<;>first|rfl|exact xO
structure AtQ (vs:List AV) (j:Int) (P:AV→Prop):Prop where
 out:∃a,at_ vs j=some a∧P a
theorem tC {vs:List AV} {j:Int} {a:AV} (h:0≤j) (h2:j<4611686018427387904) (e:vs[j.toNat]? =some a):at_ vs j=some a:=by
 unfold at_;rw[if_pos ⟨h,by omega⟩];exact e
theorem bf {h:List AO} {n:Nat} {o:AO} (e:h[n]? =some o) (t:List AO):(h++t)[n]? =some o:=by
 refine gX (aA.mp e) λ hn z=>?_
 rw[fN hn];exact e
theorem au (h t:List AO):(h++t)[h.length]? =t[0]? :=by rw[List.getElem?_append_right (bz _),Nat.sub_self]
theorem nZ (h t:List AO) (k:Nat):(h++t)[h.length+k]? =t[k]? :=by rw[List.getElem?_append_right (hP _ _),Nat.add_sub_cancel_left]
theorem fw (h t:List AO) (x:AO):(h++t).set h.length x=h++t.set 0 x:=by rw[List.set_append_right _ _ (bz _),Nat.sub_self]
theorem Ay (h t:List AO) (k:Nat) (x:AO):(h++t).set (h.length+k) x=h++t.set k x:=by rw[List.set_append_right _ _ (hP _ _),Nat.add_sub_cancel_left]
structure Fr (S:List Nat) (h h':List AO):Prop where
 len:h.length≤h'.length
 keep:∀i o,i∉S→h[i]? =some o→h'[i]? =some o
theorem Fr.refl (S:List Nat) (h:List AO):Fr S h h:=⟨bz _,λ z z z e=>e⟩
theorem Fr.trans {S:List Nat} {aN bT iQ:List AO} (a:Fr S aN bT) (b:Fr S bT iQ):Fr S aN iQ:=⟨af a.len b.len,λ i o s e=>b.keep i o s (a.keep i o s e)⟩
theorem Fr.app {S:List Nat} {h h':List AO} (a:Fr S h h') (t:List AO):Fr S h (h'++t):=⟨by rw[ah];exact af a.len (hP _ _),λ i o s e=>bf (a.keep i o s e) t⟩
theorem Fr.set {S:List Nat} {h h':List AO} (a:Fr S h h') {n:Nat} (s:n∈S∨h.length≤n) (x:AO):Fr S h (h'.set n x):=
 ⟨by rw[bt];exact a.len,λ i o q e=>by
  have:n≠i:=λ z=>by
   rcases s with s|s
   ·exact q (z▸s)
   ·have:=(aA.mp e).1;exact Nat.lt_irrefl _ (ag this (af s (V z)))
  rw[cZ this];exact a.keep i o q e⟩
theorem Fr.get {h h':List AO} (a:Fr [] h h') {i:Nat} {o:AO} (e:h[i]? =some o):h'[i]? =some o:=a.keep i o nofun e
theorem kG {h:List AO} {n:Nat} {o:AO} (e:h[n]? =some o):n<h.length:=(aA.mp e).1
theorem cx {h:List AO} {n:Nat} {o:AO} (e:h[n]? =some o) (x:AO):(h.set n x)[n]? =some x:=jx (kG e)
theorem aU {h:List AO} {n m:Nat} {o:AO} (e:h[n]? =some o) (ne:m≠n) (x:AO):(h.set m x)[n]? =some o:=(cZ ne).trans e
noncomputable def KM (R:AV→List AO→Prop) (fl:AF) (σ:St):Prop:=match fl with
 | .ret v=>R v σ.h
 | .next=>R .none σ.h
 |_=>False
theorem GH {n p:Nat} {F:EM AF} {args:List AV} {h:List AO} {R:AV→List AO→Prop} (hl:args.length=p) (x:W F ⟨args.map some++List.replicate (n-p) none,h⟩ (KM R)):Sp (dS n p F) args h R:=by
 rw[zi]
 unfold JE dS
 rw[if_pos hl]
 rw[dg] at x;unfold W' at x
 set_option tactic.hygienic true in split at x
 ·rename_i fl bc e
  rw[e]
  cases fl<;>first|exact x|exact x.elim
 ·exact x.elim
theorem Jx (tg:IT→Bool) (g:EM IT) (asg:AV→EM Unit) (body:EM AF) (σ:St) (Q:AF→St→Prop):
  W (jU tg g asg body) σ Q=W g σ λ it bc=>tg it=true∧W (v0 it asg body (pO it bc.h+1) 0) bc Q:=by
 rw[jU,lV]
 congr 1
 funext it bc
 conv=>lhs;rw[dg];unfold W'
 dsimp only
 by_cases q:tg it=true
 ·simp only[q,m0,true_and];exact LL _ _ _
 ·simp only[q];simp
noncomputable def jC (it:IT) (h:List AO):Option (List AV):=match it with
 | .list n=>getL h n
 | .enum n=>(getL h n).map λ vs=>vs.zipIdx.map λ p=>.tup [.int (p.2:Nat),p.1]
 | .rev n len=>(getL h n).bind λ vs=>if vs.length=len then some vs.reverse else none
 | .range x left step=>some ((List.range left.toNat).map λ(i:Nat)=>AV.int (x+(i:Int)*step))
 | .bytes b=>some (b.toList.map λ c=>.int c.toNat)
 | .tup l=>some l
theorem uG {it:IT} {h:List AO} {l:List AV} (e:jC it h=some l) (i:Nat):lP it i h=some l[i]? :=by
 cases it with
 |list n=>unfold jC at e;dsimp only at e;unfold lP;dsimp only;rw[e];rfl
 |enum n=>
  unfold jC at e;dsimp only at e
  refine bM (cH.mp e) λ vs h1 uu0=>?_;subst uu0
  unfold lP;dsimp only;rw[h1]
  simp only[Option.map_some,fB,List.getElem?_zipIdx,Option.map_map]
  congr 1
  cases vs[i]? with
  |none=>rfl
  |some v=>simp
 |rev n len=>
  unfold jC at e;dsimp only at e
  refine bM (cU.mp e) λ vs h1 h2=>?_
  split at h2
  ·rename_i hl
   cases h2
   unfold lP;dsimp only;rw[h1]
   simp only[Option.bind_some,hl,m0]
   by_cases hi:i<len
   ·rw[if_pos hi,List.getElem?_reverse (by exact ag hi (V hl.symm))]
    rw[hl]
   ·rw[if_neg hi,ca (by rw[List.length_reverse];exact af (V hl) (aG hi))]
  ·cases h2
 |range x left step=>
  unfold jC at e;dsimp only at e
  cases e
  unfold lP;dsimp only
  congr 1
  by_cases q:(i:Int)<left
  ·rw[if_pos q,fB,List.getElem?_range (by omega)];rfl
  ·rw[if_neg q,ca (by rw[ac,bE];omega)]
 |bytes b=>
  unfold jC at e;dsimp only at e
  cases e
  unfold lP;dsimp only
  rw[fB,Array.getElem?_toList]
 |tup l'=>unfold jC at e;cases e;rfl
theorem At {it:IT} {h:List AO} {l:List AV} (e:jC it h=some l):pO it h=l.length:=by
 cases it with
 |list n=>unfold jC at e;dsimp only at e;unfold pO;dsimp only;rw[e];rfl
 |enum n=>
  unfold jC at e;dsimp only at e
  refine bM (cH.mp e) λ vs h1 uu0=>?_;subst uu0
  unfold pO;dsimp only;rw[h1];simp
 |rev n len=>
  unfold jC at e;dsimp only at e
  refine bM (cU.mp e) λ vs h1 h2=>?_
  split at h2
  ·cases h2;unfold pO;simp;omega
  ·cases h2
 |range x left step=>unfold jC at e;cases e;unfold pO;simp
 |bytes b=>unfold jC at e;cases e;unfold pO;simp
 |tup l'=>unfold jC at e;cases e;rfl
noncomputable def LQ (J:St→Prop) (Q:AF→St→Prop) (fl:AF) (σ:St):Prop:=match fl with
 | .next=>J σ
 | .cont=>J σ
 | .brk=>Q .next σ
 | .ret v=>Q (.ret v) σ
theorem gp {α:Type} {it:IT} {asg:AV→EM Unit} {body:EM AF} {σ:St} {Q:AF→St→Prop} (xs:List α) (f:α→AV) (J:List α→St→Prop) (h0:J [] σ)
  (hit:∀p σ,J p σ→jC it σ.h=some (xs.map f))
  (step:∀p x q σ,xs=p++x::q→J p σ→W (asg (f x)) σ λ z az=>W body az (LQ (J (p++[x])) Q))
  (hend:∀σ,J xs σ→Q .next σ):W (v0 it asg body (pO it σ.h+1) 0) σ Q:=by
 rw[At (hit _ _ h0),ac]
 have key:∀(q p:List α) (σ:St),xs=p++q→J p σ→W (v0 it asg body (q.length+1) p.length) σ Q:=by
  intro q
  induction q with
  |nil=>
   intro p σ e j
   rw[eJ] at e
   subst e
   rw[dg];unfold W' v0
   rw[uG (hit _ _ j),ca (by simp)]
   exact hend _ j
  |cons x q ih=>
   intro p σ e j
   have st:=step p x q σ e j
   have e2:=uG (hit _ _ j) p.length
   have e3:(xs.map f)[p.length]? =some (f x):=by rw[e];simp
   rw[e3] at e2
   rw[bW]
   rw[dg];unfold W' v0
   rw[e2]
   dsimp only
   refine Eq.mpr (JA _ _ _ _) ?_
   refine st.mono λ z az Fa=>?_
   rw[lV]
   refine Fa.mono λ fl cG l=>?_
   cases fl with
   |next=>
    have:=ih (p++[x]) cG (by rw[e];simp) l
    simpa using this
   |cont=>
    have:=ih (p++[x]) cG (by rw[e];simp) l
    simpa using this
   |brk=>exact Eq.mpr (ug _ _ _) l
   |ret v=>exact Eq.mpr (ug _ _ _) l
 exact key xs [] σ rfl h0
theorem sM {t:EM Bool} {body:EM AF} {σ:St} {Q:AF→St→Prop} {n:Nat} (J:Nat→St→Prop) (m:Nat) (hm:m<n) (h0:J m σ)
  (step:∀k σ,J k σ→W t σ λ b az=>if b=true then∃k',k=k'+1∧W body az (LQ (J k') Q) else Q .next az):W (jX t body n) σ Q:=by
 induction n generalizing m σ with
 |zero=>omega
 |succ n ih=>
  rw[zJ,lV]
  refine(step m σ h0).mono λ b az s=>?_
  rw[Il]
  split
  ·rename_i hb
   rw[if_pos hb] at s
   revert s;refine λ yy=>bM yy λ k' e s=>?_;clear yy
   rw[lV]
   refine s.mono λ fl cG l=>?_
   cases fl with
   |next=>exact ih k' (by exact f!"1c1.+b>1c1.+a<1a1.+b1.+<3" hm (V e.symm)) l
   |cont=>exact ih k' (by exact f!"1c1.+b>1c1.+a<1a1.+b1.+<3" hm (V e.symm)) l
   |brk=>exact Eq.mpr (ug _ _ _) l
   |ret v=>exact Eq.mpr (ug _ _ _) l
  ·rename_i hb
   rw[if_neg hb] at s
   exact Eq.mpr (ug _ _ _) s
theorem uU {α:Type} {is:List Nat} {tg:IT→Bool} {g:EM IT} {asg:AV→EM Unit} {test:EM Bool} {fe:EM AV} {σ:St} {Q:List AV→St→Prop} (xs:List α) (f:α→AV) (J:List α→List AV→St→Prop)
  (hg:W g σ λ it bc=>tg it=true∧(∀i∈is,i<bc.l.length)∧J [] [] bc∧(∀p out pg,J p out pg→jC it pg.h=some (xs.map f)∧pg.l.length=bc.l.length)∧
   (∀out pg,J xs out pg→out.length≤1000000∧Q out {pg with l:=lK is pg.l}))
  (step:∀p x q out σ,xs=p++x::q→J p out σ→W (asg (f x)) σ λ u az=>W test az λ b cG=>if b=true then W fe cG λ v dM=>J (p++[x]) (out++[v]) dM else J (p++[x]) out cG):W (pW is tg g asg test fe) σ Q:=by
 rw[pW,lV]
 refine hg.mono λ it bc ⟨h1,h2,h3,h4,h5⟩=>?_
 have key:∀(q p:List α) (out:List AV) (σ:St),xs=p++q→J p out σ→W (q9 it asg test fe (q.length+1) p.length) σ λ l pg=>J xs (out++l) pg:=by
  intro q
  induction q with
  |nil=>
   intro p out σ e j
   rw[eJ] at e
   subst e
   rw[dg];unfold W' q9
   rw[uG (h4 _ _ _ j).1,ca (by simp)]
   show J xs (out++[]) σ
   rw[eJ];exact j
  |cons x q ih=>
   intro p out σ e j
   have st:=step p x q out σ e j
   have e2:=uG (h4 _ _ _ j).1 p.length
   have e3:(xs.map f)[p.length]? =some (f x):=by rw[e];simp
   rw[e3] at e2
   rw[bW]
   rw[dg];unfold W' q9
   rw[e2]
   dsimp only
   refine Eq.mpr (JA _ _ _ _) ?_
   refine st.mono λ u az Fa=>?_
   rw[lV]
   refine Fa.mono λ b cG s=>?_
   rw[Il]
   split
   ·rename_i hb
    rw[if_pos hb] at s
    rw[lV]
    refine s.mono λ v dM l=>?_
    rw[lV]
    have:=ih (p++[x]) (out++[v]) dM (by rw[e];simp) l
    rw[ah,b9] at this
    refine this.mono λ l' mv jj=>?_
    rw[ug,List.append_cons];exact jj
   ·rename_i hb
    rw[if_neg hb] at s
    have:=ih (p++[x]) out cG (by rw[e];simp) s
    rw[ah,b9] at this
    exact this
 have k:=key xs [] [] bc rfl h3
 rw[dg];unfold W'
 dsimp only
 rw[if_pos ⟨h1,h2⟩,At (h4 _ _ _ h3).1,ac]
 rw[dg] at k;unfold W' at k
 set_option tactic.hygienic true in split at k
 ·rename_i l pg e
  rw[List.nil_append] at k
  have z:=h5 _ _ k
  rw[show q9 it asg test fe (xs.length+1) 0 bc=some (l,pg) from e]
  dsimp only
  rw[if_pos ⟨(h4 _ _ _ k).2,by unfold iJ;simpa using z.1⟩]
  exact z.2
 ·exact k.elim
theorem HP (is:List Nat) (tg:IT→Bool) (g:EM IT) (asg:AV→EM Unit) (test:EM Bool) (fe:EM AV) (σ:St) (Q:AV→St→Prop):W (fg is tg g asg test fe) σ Q=W (pW is tg g asg test fe) σ λ l bc=>W (gH l) bc Q:=by
 rw[fg,lV]
theorem zg (vs:List AV) (l:List (Option AV)) (h:List AO) (Q:AV→St→Prop):W' (gH vs) ⟨l,h⟩ Q=(vs.length≤1000000∧Q (.ref h.length) ⟨l,h++[.list vs]⟩):=by rw[←dg,Ik]
theorem KD (n:Nat) (l:List (Option AV)) (h:List AO) (Q:AV→St→Prop):W (gI [.ref n]) ⟨l,h⟩ Q=match h[n]? with
   |some (.list vs)=>vs.length≤1000000∧Q (.int vs.length) ⟨l,h⟩
   |some (.flist vs)=>vs.length≤1000000∧Q (.int vs.length) ⟨l,h⟩
   |some (.barr b)=>b.size≤1000000∧Q (.int b.size) ⟨l,h⟩
   |_=>False:=by
 rw[dg];unfold W' gI getL wY;dsimp only
 generalize h[n]? =o
 rcases o with _|_|_|_|_|_<;>first|rfl|exact xO
theorem GD (x:Str) (σ:St) (Q:AV→St→Prop):W (gI [.str x]) σ Q=(x.length≤1000000∧Q (.int x.length) σ):=by
 rw[dg];unfold W' gI;exact xO
theorem Jv (n:Nat) (l:List (Option AV)) (h:List AO) (Q:AV→St→Prop):W (qR [.ref n]) ⟨l,h⟩ Q=match h[n]? with
   |some (.list vs)=>vs.length≤1000000∧Q (.ref h.length) ⟨l,h++[.list vs]⟩
   |some (.flist vs)=>vs.length≤1000000∧Q (.ref h.length) ⟨l,h++[.list vs]⟩
   |_=>False:=by
 rw[dg];unfold W' qR getL;dsimp only
 generalize h[n]? =o
 rcases o with _|_|_|_|_|_<;>first|rfl|exact zg _ l h Q
theorem KF (n:Nat) (l:List (Option AV)) (h:List AO) (Q:IT→St→Prop):W (jB (.ref n)) ⟨l,h⟩ Q=match h[n]? with
   |some (.list _)=>Q (.list n) ⟨l,h⟩
   |some (.flist _)=>Q (.list n) ⟨l,h⟩
   |_=>False:=by
 rw[dg];unfold W' jB getL;dsimp only
 generalize h[n]? =o
 rcases o with _|_|_|_|_|_<;>rfl
theorem Jz (n:Nat) (l:List (Option AV)) (h:List AO) (Q:IT→St→Prop):W (sF [.ref n]) ⟨l,h⟩ Q=match h[n]? with
   |some (.list _)=>Q (.enum n) ⟨l,h⟩
   |_=>False:=by
 rw[dg];unfold W' sF pv;dsimp only
 cases h[n]? with
 |none=>rfl
 |some o=>cases o<;>rfl
theorem KA (n:Nat) (l:List (Option AV)) (h:List AO) (Q:IT→St→Prop):W (D8 [.ref n]) ⟨l,h⟩ Q=match h[n]? with
   |some (.list vs)=>Q (.rev n vs.length) ⟨l,h⟩
   |some (.flist vs)=>Q (.rev n vs.length) ⟨l,h⟩
   |_=>False:=by
 rw[dg];unfold W' D8 getL;dsimp only
 cases h[n]? with
 |none=>rfl
 |some o=>cases o<;>rfl
theorem G2 (σ:St) (Q:Unit→St→Prop):W (wq [] []) σ Q=Q () σ:=by simp only[dg];rfl
theorem zH (i:Nat) (is:List Nat) (a:AV) (l:List AV) (σ:St) (Q:Unit→St→Prop):W (wq (i::is) (a::l)) σ Q=W (wr i a) σ λ z bc=>W (wq is l) bc Q:=lV (wr i a) (λ z=>wq is l) σ Q
theorem Ky (is:List Nat) (l:List AV) (σ:St) (Q:Unit→St→Prop):W (pi is (.tup l)) σ Q=(l.length=is.length∧W (wq is l) σ Q):=by
 unfold pi;dsimp only
 by_cases q:l.length=is.length
 ·rw[if_pos q];simp only[q,true_and]
 ·rw[if_neg q];simp only[q,false_and];exact(dg _ _ _).trans rfl
theorem Ih (n:Nat) (a b:AV) (l:List (Option AV)) (h:List AO) (Q:AV→St→Prop):W (wu (.ref n) a b) ⟨l,h⟩ Q=match part a,part b,h[n]? with
   |some x,some y,some (.list vs)=>(jM x y=true∧vs.length≤1000000)∧(cut vs x y).length≤1000000∧Q (.ref h.length) ⟨l,h++[.list (cut vs x y)]⟩
   |some x,some y,some (.flist vs)=>(jM x y=true∧vs.length≤1000000)∧(cut vs x y).length≤1000000∧Q (.ref h.length) ⟨l,h++[.list (cut vs x y)]⟩
   |_,_,_=>False:=by
 rw[dg];unfold W' wu getL;dsimp only
 generalize h[n]? =o
 generalize part a=u
 generalize part b=v
 set_option tactic.hygienic true in cases u
 ·rfl
 ·rename_i x
  set_option tactic.hygienic true in cases v
  ·rfl
  ·rename_i y
   have k:∀vs:List AV,W' (λ σ=>if(jM x y&&iJ vs.length)=true then gH (cut vs x y) σ else none) ⟨l,h⟩ Q=((jM x y=true∧vs.length≤1000000)∧(cut vs x y).length≤1000000∧Q (.ref h.length) ⟨l,h++[.list (cut vs x y)]⟩):=λ vs=>by
    unfold W';dsimp only
    have q:=c6.trans (and_congr_right (a:=jM x y=true) λ Z=>decide_eq_true_iff (p:=vs.length≤1000000))
    by_cases c:(jM x y&&iJ vs.length)=true
    ·rw[if_pos c];exact(zg (cut vs x y) l h Q).trans (propext ⟨λ z=>⟨q.mp c,z⟩,And.right⟩)
    ·rw[if_neg c];exact propext ⟨False.elim,λ z=>c (q.mpr z.1)⟩
   rcases o with _|_|_|_|_|_<;>first|rfl|exact k _
theorem Ig (x:Str) (a b:AV) (σ:St) (Q:AV→St→Prop):W (wu (.str x) a b) σ Q=match part a,part b with
   |some u,some v=>(nq x u v=true∧x.length≤1000000)∧Q (.str (wZ x u v)) σ
   |_,_=>False:=by
 rw[dg];unfold W' wu;dsimp only
 generalize part a=u
 generalize part b=v
 cases u
 ·rfl
 ·cases v
  ·rfl
  ·exact IS (c6.trans (and_congr_right λ z=>decide_eq_true_iff))
noncomputable def pn (k:Nat) (vs:List AV):List AV:=(List.replicate k vs).flatten
theorem Ju (n:Nat) (x:Int) (l:List (Option AV)) (h:List AO) (Q:AV→St→Prop):W (tf (.ref n) (.int x)) ⟨l,h⟩ Q=match h[n]? with
   |some (.list vs)=>(-(2^62)≤x∧x<2^62)∧(pn x.toNat vs).length≤1000000∧Q (.ref h.length) ⟨l,h++[.list (pn x.toNat vs)]⟩
   |_=>False:=by
 conv=>lhs;rw[dg];unfold W' tf pv
 dsimp only
 cases h[n]? with
 |none=>rfl
 |some o=>
  set_option tactic.hygienic true in cases o<;>first|rfl|skip
  rename_i vs
  dsimp only
  by_cases q:(-(2^62)≤x∧x<2^62)
  ·rw[if_pos q];simp only[q,and_self,true_and];exact zg (List.replicate x.toNat vs).flatten l h Q
  ·rw[if_neg q];simp only[q,false_and]
theorem JB (m n:Nat) (l:List (Option AV)) (h:List AO) (Q:AV→St→Prop):W (AW (.ref m) (.ref n)) ⟨l,h⟩ Q=match h[m]?,h[n]? with
   |some (.list vs),some (.list ws)=>vs.length+ws.length≤1000000∧Q (.ref h.length) ⟨l,h++[.list (vs++ws)]⟩
   |_,_=>False:=by
 conv=>lhs;rw[dg];unfold W' AW pv
 dsimp only
 cases h[m]? with
 |none=>rfl
 |some o=>
  set_option tactic.hygienic true in cases o<;>first|rfl|skip
  rename_i vs
  dsimp only
  cases h[n]? with
  |none=>rfl
  |some o=>
   set_option tactic.hygienic true in cases o<;>first|rfl|skip
   rename_i ws
   dsimp only
   rw[←ah]
   exact zg (vs++ws) l h Q
theorem JC (x y:Array UInt8) (σ:St) (Q:AV→St→Prop):W (ER (.bytes x) (.bytes y)) σ Q=(x.size+y.size≤1000000∧Q (.bytes (x++y)) σ):=by
 rw[dg];unfold W' ER;exact xO
theorem Fn (a b:Int):Builtin.Range.rangeSize a b 1=((b-a).toNat:Int):=by
 unfold Builtin.Range.rangeSize
 simp only[show((1:Int)>0) by decide,m0,Int.ediv_one]
 split<;>omega
theorem Jr {b:Int} {σ:St} {Q:IT→St→Prop} (z:Builtin.Range.small 0 b 1=true) (q:Q (.range 0 (Builtin.Range.rangeSize 0 b 1) 1) σ):W (f4 [.int b]) σ Q:=me (by unfold f4;exact if_pos z) q
theorem Jq {a b:Int} {σ:St} {Q:IT→St→Prop} (z:Builtin.Range.small a b 1=true) (q:Q (.range a (Builtin.Range.rangeSize a b 1) 1) σ):W (f4 [.int a,.int b]) σ Q:=me (by unfold f4;exact if_pos z) q
theorem Jp {a b c:Int} {σ:St} {Q:IT→St→Prop} (z:(c≠0∧(b-a).natAbs<2^29∧c.natAbs<2^29)∧Builtin.Range.small a b c=true) (q:Q (.range a (Builtin.Range.rangeSize a b c) c) σ):W (f4 [.int a,.int b,.int c]) σ Q:=me (by unfold f4;show((if _ then some (a,b,c) else none:Option (Int×Int×Int)).bind _)=_;rewrite[if_pos z.1];exact if_pos z.2) q
theorem oz (b:Nat) (σ:St) (Q:IT→St→Prop) (hb:b<1000000) (q:Q (.range 0 (b:Nat) 1) σ):W (f4 [.int (b:Nat)]) σ Q:=by
 have z:Builtin.Range.small 0 (b:Int) 1=true:=small_one ⋯ ⋯ (by exact bh _) (by omega)
 refine Jr z ?_
 rw[Fn,show((b:Int)-0).toNat=b by omega]
 exact q
theorem GB (a b:Nat) (σ:St) (Q:IT→St→Prop) (ha:a<1000000) (hb:b<1000000) (q:Q (.range (a:Nat) ((b-a:Nat):Int) 1) σ):W (f4 [.int (a:Nat),.int (b:Nat)]) σ Q:=by
 have z:Builtin.Range.small (a:Int) (b:Int) 1=true:=small_one (by exact bh _) (by omega) (by exact bh _) (by omega)
 refine Jq z ?_
 rw[Fn,show((b:Int)-(a:Int)).toNat=b-a by omega]
 exact q
theorem Fm {b:Int} (hb: -1≤b):Builtin.Range.rangeSize 0 b 2=(((b+1) / 2).toNat:Int):=by
 unfold Builtin.Range.rangeSize
 simp only[show((2:Int)>0) by decide,m0]
 by_cases q:0<b
 ·rw[if_pos q,show b-0-1=b-1 by omega];omega
 ·rw[if_neg q];omega
theorem Js (b:Int) (σ:St) (Q:IT→St→Prop) (hb: -1≤b) (hb':b<1000000) (q:Q (.range 0 (((b+1) / 2).toNat:Int) 2) σ):W (f4 [.int 0,.int b,.int 2]) σ Q:=by
 have z:Builtin.Range.small 0 b 2=true:=by
  unfold Builtin.Range.small
  rw[Fm hb]
  simp only[Builtin.Range.rangeFitsLong,cy,jS,kt,ju]
  refine⟨by omega,.inr ?_⟩
  simp only[show((2:Int)>0) by decide,m0,cy,kt]
  omega
 refine Jp ⟨⟨by decide,by omega+splitNatSub,by decide⟩,z⟩ ?_
 rw[Fm hb]
 exact q
theorem jO (n:Nat) (h:List AO):jC (.range 0 (n:Nat) 1) h=some ((List.range n).map λ(i:Nat)=>AV.int (i:Nat)):=by
 unfold jC;dsimp only
 rw[show((n:Nat):Int).toNat=n by omega]
 congr 2
 funext i
 congr 1;omega
theorem xK (a n:Nat) (h:List AO):jC (.range (a:Nat) (n:Nat) 1) h=some ((List.range n).map λ(i:Nat)=>AV.int (a+i:Nat)):=by
 unfold jC;dsimp only
 rw[show((n:Nat):Int).toNat=n by omega]
 congr 2
 funext i
 congr 1;omega
theorem Ey (n:Nat) (h:List AO):jC (.range 0 (n:Nat) 2) h=some ((List.range n).map λ(i:Nat)=>AV.int (2*i:Nat)):=by
 unfold jC;dsimp only
 rw[show((n:Nat):Int).toNat=n by omega]
 congr 2
 funext i
 congr 1;omega
theorem dt {n:Nat} {h:List AO} {vs:List AV} (e:h[n]? =some (.list vs)):jC (.list n) h=some vs:=by
 unfold jC getL;dsimp only;rw[e]
theorem qu {n:Nat} {h:List AO} {vs:List AV} (e:h[n]? =some (.list vs)):jC (.enum n) h=some (vs.zipIdx.map λ p=>.tup [.int (p.2:Nat),p.1]):=by
 unfold jC getL;dsimp only;rw[e];rfl
theorem FH {n:Nat} {h:List AO} {vs:List AV} (e:h[n]? =some (.list vs)):jC (.rev n vs.length) h=some vs.reverse:=by
 unfold jC getL;dsimp only;rw[e];simp
theorem BI (b:Array UInt8) (h:List AO):jC (.bytes b) h=some (b.toList.map λ c=>.int c.toNat):=rfl
theorem WC:type_of% (And.intro @List.map_cons.{0,0}<|And.intro @List.map_nil.{0,0}<|And.intro @List.cons_append.{0}<|And.intro @List.nil_append.{0}<|And.intro @List.length_cons.{0}<|And.intro @List.length_nil.{0}<|And.intro @List.set_cons_zero.{0}<|And.intro @List.set_cons_succ.{0}<|
 And.intro @List.getElem?_cons_zero.{0}<|And.intro @List.getElem?_cons_succ.{0}<|And.intro @List.replicate_zero.{0}<|And.intro @List.replicate_succ.{0}<|And.intro @au<|And.intro @nZ<|And.intro @fw<|And.intro @Ay<|And.intro @List.append_assoc.{0}<|And.intro @List.length_append.{0} @Nat.add_assoc):=by
 exact And.intro @List.map_cons.{0,0}<|And.intro @List.map_nil.{0,0}<|And.intro @List.cons_append.{0}<|And.intro @List.nil_append.{0}<|And.intro @List.length_cons.{0}<|And.intro @List.length_nil.{0}<|And.intro @List.set_cons_zero.{0}<|And.intro @List.set_cons_succ.{0}<|
 And.intro @List.getElem?_cons_zero.{0}<|And.intro @List.getElem?_cons_succ.{0}<|And.intro @List.replicate_zero.{0}<|And.intro @List.replicate_succ.{0}<|And.intro @au<|And.intro @nZ<|And.intro @fw<|And.intro @Ay<|And.intro @List.append_assoc.{0}<|And.intro @List.length_append.{0} @Nat.add_assoc
theorem t6 (n:Nat):Builtin.Int.intBits (n:Nat)=if n=0 then 0 else n.log2+1:=by
 unfold Builtin.Int.intBits
 by_cases q:n=0
 ·subst q;rfl
 ·rw[if_neg (by simp;omega+splitNatSub),if_neg q];rfl
theorem Gw (a b:Nat):Builtin.bitAnd (a:Nat) (b:Nat)=((a&&&b:Nat):Int):=by
 unfold Builtin.bitAnd
 simp
theorem Dk (a b:Nat):Builtin.bitOr (a:Nat) (b:Nat)=((a|||b:Nat):Int):=by
 unfold Builtin.bitOr Builtin.bitAnd Builtin.bitNot
 simp only[show¬(0≤-(a:Int)-1) by omega,show¬(0≤-(b:Int)-1) by omega,decide_false]
 rw[show(-(-(a:Int)-1)-1).toNat=a by omega,show(-(-(b:Int)-1)-1).toNat=b by omega]
 omega
theorem pV (a:Nat) (k:Nat):Int.fdiv (a:Nat) (2^k)=((a / 2^k:Nat):Int):=by
 rw[show((2:Int)^k)=((2^k:Nat):Int) by simp]
 rw[Int.fdiv_eq_ediv_of_nonneg _ (bh _)]
 rfl
noncomputable def cu (L:Nat):Nat×Nat×Nat:=if L=258 then(285,0,0) else if L-3<8 then(257+(L-3),0,0) else
 (257+4*((L-3).log2-2+1)+(L-3) / 2^((L-3).log2-2) % 4,(L-3).log2-2,(L-3) % 2^((L-3).log2-2))
noncomputable def b0 (d:Nat):Nat×Nat×Nat:=if d-1<4 then(d-1,0,0) else
 (2*((d-1).log2-1+1)+(d-1) / 2^((d-1).log2-1) % 2,(d-1).log2-1,(d-1) % 2^((d-1).log2-1))
noncomputable def t3 (p:Nat×Nat×Nat):AV:=.tup [.int p.1,.int p.2.1,.int p.2.2]
theorem yJ {n k:Nat} (hn:n≠0) (h:2^k≤n):k≤n.log2:=(Nat.le_log2 hn).mpr h
theorem log2_lt {n k:Nat} (hn:n≠0) (h:n<2^k):n.log2<k:=(Nat.log2_lt hn).mpr h
theorem Kr (x:Nat):Builtin.bitAnd (x:Nat) 3=((x % 4:Nat):Int):=by rw[bitAnd_m2];exact rfl
theorem Dm (x:Nat):Builtin.bitAnd (x:Nat) 1=((x % 2:Nat):Int):=by rw[bitAnd_m1];exact rfl
theorem HI (x:Nat):Builtin.bitAnd (x:Nat) 255=((x % 256:Nat):Int):=by rw[bitAnd_m8];exact rfl
theorem GA (n e:Nat):n&&&(2^e-1)=n % 2^e:=Nat.and_two_pow_sub_one_eq_mod n e
noncomputable def gJ (s:Nat):Nat×Nat:=if s<144 then(48+s,8) else if s<256 then(256+s,9) else if s<280 then(s-256,7) else(s-88,8)
noncomputable def nI (n:Nat):AV:=.int n
noncomputable def oN:Option Nat→AV
 |none=>.none
 |some k=>.int k
theorem rz (xs:List Nat):kJ (xs.map nI)=some (xs.map λ(n:Nat)=>(n:Int)):=by
 induction xs with
 |nil=>rfl
 |cons a xs ih=>exact congrArg (Option.map ((a:Int)::·)) ih
noncomputable def ic (xs:List Nat):Nat:=xs.foldl max 0
theorem Ak:∀(xs:List Nat) (m:Nat),qF (xs.map λ(n:Nat)=>(n:Int)) (m:Nat)=((xs.foldl max m:Nat):Int)
 | [],m=>rfl
 |a::xs,m=>by
  show qF (xs.map λ(n:Nat)=>(n:Int)) (if(a:Int)>(m:Int) then(a:Int) else(m:Int))=((xs.foldl max (max m a):Nat):Int)
  rw[show(if(a:Int)>(m:Int) then(a:Int) else(m:Int))=((max m a:Nat):Int) by split<;>omega]
  exact Ak xs _
theorem zP:∀(xs:List Nat),yi (xs.map λ(n:Nat)=>(n:Int))=((xs.sum:Nat):Int)
 | []=>rfl
 |a::xs=>by simp only[aB,yi,bw];rw[zP xs];exact rfl
theorem GC {n:Nat} {xs:List Nat} {h:List AO} (e:h[n]? =some (.list (xs.map nI))) (hne:xs≠[]) (l:List (Option AV)) (Q:AV→St→Prop) (q:Q (nI (ic xs)) ⟨l,h⟩):W (vF [.ref n]) ⟨l,h⟩ Q:=by
 refine me (bc:=⟨l,h⟩) (a:=nI (ic xs)) ?_ q
 unfold vF getL;dsimp only;rw[e];dsimp only[Option.bind]
 rw[rz]
 refine uu (List.exists_cons_of_ne_nil hne) λ a ys uu0=>?_;subst uu0
 simp only[aB]
 rw[Ak]
 unfold nI ic
 rw[gG,Nat.zero_max]
theorem x5 {n:Nat} {xs:List Nat} {h:List AO} (e:h[n]? =some (.list (xs.map nI))) (l:List (Option AV)) (Q:AV→St→Prop) (q:Q (nI xs.sum) ⟨l,h⟩):W (wA [.ref n]) ⟨l,h⟩ Q:=by
 refine me (bc:=⟨l,h⟩) (a:=nI xs.sum) ?_ q
 unfold wA getL;dsimp only;rw[e];dsimp only[Option.bind]
 rw[rz]
 dsimp only
 rw[zP];rfl
theorem iV {n:Nat} {p q:List Nat} {x:Nat} (h:List.range n=p++x::q):x=p.length∧p.length<n:=by
 have e:(List.range n)[p.length]? =some x:=by rw[h];simp
 rw[aA] at e
 refine gX e λ h1 h2=>?_;clear e
 exact dF (by simpa using h2.symm) (by simpa using h1)
@[reducible] noncomputable def BQ {α β:Type} (f:α→EM β) (Q:β→St→Prop) (a:α) (σ:St):Prop:=W (f a) σ Q
@[reducible] noncomputable def SQ (g:EM AF) (Q:AF→St→Prop) (fl:AF) (σ:St):Prop:=match fl with
 | .next=>W g σ Q
 | .brk=>Q .brk σ
 | .cont=>Q .cont σ
 | .ret v=>Q (.ret v) σ
section
variable{α β:Type} {l:List (Option AV)} {h:List AO} {σ bc:St}
theorem kL {m:EM α} {a:α} {Q:α→St→Prop} (e:m σ=some (a,bc)) (q:Q a bc):W m σ Q:=me e q
theorem ss {m:EM α} {f:α→EM β} {Q:β→St→Prop} (q:W m σ (BQ f Q)):W (ae m f) σ Q:=Eq.mpr (lV _ _ _ _) q
theorem yQ {f g:EM AF} {Q:AF→St→Prop} (q:W f σ (SQ g Q)):W (bm f g) σ Q:=by
 rw[Jo]
 refine q.mono λ fl bc x=>?_
 cases fl<;>exact x
theorem J7 {i:Nat} {v:AV} {Q:Unit→St→Prop} (hi:Nat.blt i l.length=true) (q:Q () ⟨l.set i (some v),h⟩):W (wr i v) ⟨l,h⟩ Q:=by
 rw[HN]
 exact dF (aH hi) q
theorem iP {c:Prop} [Decidable c] {a b:EM α} {Q:α→St→Prop} (hc:c) (q:W a σ Q):W (if c then a else b) σ Q:=by rw[if_pos hc];exact q
theorem fE {c:Prop} [Decidable c] {a b:EM α} {Q:α→St→Prop} (hc:¬c) (q:W b σ Q):W (if c then a else b) σ Q:=by rw[if_neg hc];exact q
theorem BJ {c a b:Prop} [Decidable c] (hc:c) (x:a):if c then a else b:=by rw[if_pos hc];exact x
theorem Hr {c a b:Prop} [Decidable c] (hc:¬c) (x:b):if c then a else b:=by rw[if_neg hc];exact x
theorem FS {G:fR} {args:List AV} {Q:AV→St→Prop} (q:Sp G args h λ v h'=>Q v ⟨l,h'⟩):W (cr G args) ⟨l,h⟩ Q:=Eq.mpr (HQ _ _ _ _ _) q
theorem gK {n:Nat} {vs:List AV} {Q:AV→St→Prop} (e:h[n]? =some (.list vs)) (hl:vs.length≤1000000) (q:Q (.int vs.length) ⟨l,h⟩):W (gI [.ref n]) ⟨l,h⟩ Q:=
 me (by unfold gI getL;dsimp only;rw[e];dsimp only;rw[if_pos (by unfold iJ;simpa using hl)]) q
theorem ig {n:Nat} {j:Int} {vs:List AV} {a:AV} {Q:AV→St→Prop} (e:h[n]? =some (.list vs)) (ea:at_ vs j=some a) (q:Q a ⟨l,h⟩):W (de (.ref n) (.int j)) ⟨l,h⟩ Q:=
 me (by unfold de getL;dsimp only;rw[e];dsimp only;rw[ea];rfl) q
theorem Kw {xs:List Nat} {i:Nat} (hi:i<xs.length) (hb:xs.length<1000000):at_ (xs.map nI) (i:Nat)=some (nI xs[i]):=
 tC (bh _) (by omega) (by rw[aX,fB,aq hi];rfl)
theorem dO {n i:Nat} {xs:List Nat} {Q:AV→St→Prop} (e:h[n]? =some (.list (xs.map nI))) (hi:i<xs.length) (hb:xs.length<1000000) (q:Q (nI xs[i]) ⟨l,h⟩):W (de (.ref n) (.int i)) ⟨l,h⟩ Q:=ig e (Kw hi hb) q
theorem kd {n:Nat} {fs:List (EM AV)} {x:AV} {vs:List AV} {Q:AV→St→Prop} (ea:bN fs ⟨l,h⟩=some ([x],⟨l,h⟩)) (e:h[n]? =some (.list vs)) (hl:vs.length≤1000000) (q:Q .none ⟨l,h.set n (.list (vs++[x]))⟩):
  W (mH "list" lE (.ref n) fs) ⟨l,h⟩ Q:=by
 have t:m8 h (.ref n)=some "list":=by unfold m8;dsimp only;rw[e]
 refine me (bc:=⟨l,h.set n (.list (vs++[x]))⟩) ?_ q
 unfold mH
 dsimp only
 rw[if_pos t]
 unfold ae
 rw[ea]
 dsimp only
 rw[if_pos t]
 unfold lE pv;dsimp only;rw[e];dsimp only
 rw[if_pos (by unfold iJ;simpa using hl)]
theorem cg {cls:List Addr} {cc:List (Addr×Int)} {f n:Nat} {c:Addr} {fs:List (Nat×AV)} {v:AV} {Q:AV→St→Prop} (e:h[n]? =some (.inst c fs)) (ev:fs.lookup f=some v) (hc:cls.contains c=true) (q:Q v ⟨l,h⟩):
  W (cK cls cc f (.ref n)) ⟨l,h⟩ Q:=
 me (by unfold cK BP;dsimp only;rw[e];dsimp only;rw[ev];dsimp only;rw[if_pos hc]) q
theorem gY {cls:List Addr} {f n:Nat} {c:Addr} {fs:List (Nat×AV)} {v:AV} {Q:Unit→St→Prop} (e:h[n]? =some (.inst c fs)) (hc:(cls.contains c&&decide (fs.length≤100))=true) (q:Q () ⟨l,h.set n (.inst c (yB f v fs))⟩):
  W (ll cls f (.ref n) v) ⟨l,h⟩ Q:=
 me (by unfold ll BP;dsimp only;rw[e];dsimp only;rw[if_pos hc]) q
@[reducible] noncomputable def MQ (G:fR) (n:Nat) (Q:AV→St→Prop) (as:List AV) (σ:St):Prop:=W (cr G (.ref n::as)) σ Q
theorem fK {D:List (Addr×fR)} {n:Nat} {c:Addr} {fs':List (Nat×AV)} {G:fR} {fs:List (EM AV)} {Q:AV→St→Prop} (e:h[n]? =some (.inst c fs')) (hD:D.lookup c=some G) (q:W (bN fs) ⟨l,h⟩ (MQ G n Q)):
  W (eY D (.ref n) fs) ⟨l,h⟩ Q:=by
 rw[Ds,sN e hD];exact q
theorem qW {c:Addr} {G:fR} {args:List AV} {Q:AV→St→Prop} (q:Sp G (.ref h.length::args) (h++[.inst c []]) λ v h'=>v= .none∧Q (.ref h.length) ⟨l,h'⟩):W (pt c G args) ⟨l,h⟩ Q:=Eq.mpr (Jt _ _ _ _ _ _) q
theorem kK {n:Nat} {j:Int} {v:AV} {vs:List AV} {Q:Unit→St→Prop} (e:h[n]? =some (.list vs)) (hj:0≤j∧j<vs.length∧j<2^62) (q:Q () ⟨l,h.set n (.list (vs.set j.toNat v))⟩):W (nh (.ref n) (.int j) v) ⟨l,h⟩ Q:=
 me (by unfold nh pv;dsimp only;rw[e];dsimp only;rw[if_pos hj]) q
@[reducible] noncomputable def FQ (tg:IT→Bool) (asg:AV→EM Unit) (body:EM AF) (Q:AF→St→Prop) (it:IT) (σ:St):Prop:=tg it=true∧W (v0 it asg body (pO it σ.h+1) 0) σ Q
theorem je {tg:IT→Bool} {g:EM IT} {asg:AV→EM Unit} {body:EM AF} {Q:AF→St→Prop} (q:W g σ (FQ tg asg body Q)):W (jU tg g asg body) σ Q:=Eq.mpr (Jx _ _ _ _ _ _) q
@[reducible] noncomputable def LN (Q:AV→St→Prop) (x:List AV) (σ:St):Prop:=W (gH x) σ Q
theorem jD {is:List Nat} {tg:IT→Bool} {g:EM IT} {asg:AV→EM Unit} {test:EM Bool} {fe:EM AV} {Q:AV→St→Prop} (q:W (pW is tg g asg test fe) σ (LN Q)):W (fg is tg g asg test fe) σ Q:=Eq.mpr (HP _ _ _ _ _ _ _ _) q
theorem lU {vs:List AV} {Q:AV→St→Prop} (hl:vs.length≤1000000) (q:Q (.ref h.length) ⟨l,h++[.list vs]⟩):W (gH vs) ⟨l,h⟩ Q:=Eq.mpr (Ik _ _ _ _) ⟨hl,q⟩
theorem BN {n:Nat} {fs:List (EM AV)} {vs:List AV} {Q:AV→St→Prop} (e:h[n]? =some (.list vs))
  (q:W (bN fs) ⟨l,h⟩ λ as bc=>∃vs',bc.h[n]? =some (.list vs')∧vs'.length≤1000000∧∃x,as=[x]∧Q .none ⟨bc.l,bc.h.set n (.list (vs'++[x]))⟩):
  W (mH "list" lE (.ref n) fs) ⟨l,h⟩ Q:=by
 rw[AY]
 refine⟨by unfold m8;dsimp only;rw[e],q.mono λ as bc x=>?_⟩
 revert x;refine λ yy=>dU yy λ vs' e' hl y=>?_;revert y;refine λ yy=>bM yy λ x uu0 y=>?_;clear yy;clear yy;subst uu0
 refine⟨by unfold m8;dsimp only;rw[e'],?_⟩
 obtain⟨l',h'⟩:=bc
 rw[GG]
 dsimp only at e'
 rw[e']
 exact dF hl y
open Lean in
def aL:Lean.Syntax:=(Unhygienic.run `(Parser.Tactic.tacticSeq|dsimp only[List.set,List.reverse,List.reverseAux,List.map,List.replicate,List.cons_append,List.nil_append,Nat.reduceSub]<;>rfl)).raw
open Lean in
def aD:Lean.Syntax:=(Unhygienic.run `(Parser.Tactic.tacticSeq|decide)).raw
theorem H0 {i:Nat} {v:AV} {f:Unit→EM β} {Q:β→St→Prop} {l':List (Option AV)} (q:W (f ()) ⟨l',h⟩ Q) (hi:autoParam (Nat.blt i l.length=true) aW) (hl:autoParam (l.set i (some v)=l') aL):W (ae (wr i v) f) ⟨l,h⟩ Q:=ss (J7 hi (hl▸q))
theorem J5 {is:List Nat} {v:AV} {vs:List AV} {Q:Unit→St→Prop} (q:W (wq is vs) σ Q) (hv:autoParam (v= .tup vs) aW) (hl:autoParam (vs.length=is.length) aW):W (pi is v) σ Q:=by
 subst hv;unfold pi;dsimp only;rw[if_pos hl];exact q
theorem J6 {is:List Nat} {v:AV} {vs vs':List AV} {Q:Unit→St→Prop} (q:W (wq is vs') σ Q) (hv:autoParam (v= .tup vs) aW) (hl:autoParam (vs.length=is.length) aW) (hr:autoParam (vs.reverse=vs') aL):W (yd is v) σ Q:=by
 subst hv hr;unfold yd;dsimp only;rw[if_pos hl];exact q
theorem J3 {i:Nat} {is:List Nat} {a:AV} {vs:List AV} {Q:Unit→St→Prop} {l':List (Option AV)} (q:W (wq is vs) ⟨l',h⟩ Q) (hi:autoParam (Nat.blt i l.length=true) aW) (hl:autoParam (l.set i (some a)=l') aL):W (wq (i::is) (a::vs)) ⟨l,h⟩ Q:=H0 q hi hl
theorem IU {Q:Unit→St→Prop} (q:Q () σ):W (wq [] []) σ Q:=kL rfl q
@[reducible] noncomputable def CQ (a:AV) (Q:List AV→St→Prop) (as:List AV) (σ:St):Prop:=Q (a::as) σ
@[reducible] noncomputable def EQ (fs:List (EM AV)) (Q:List AV→St→Prop) (a:AV) (σ:St):Prop:=W (bN fs) σ (CQ a Q)
theorem FP {f:EM AV} {fs:List (EM AV)} {Q:List AV→St→Prop} (q:W f σ (EQ fs Q)):W (bN (f::fs)) σ Q:=Eq.mpr (B4 _ _ _ _) q
theorem yR {n:Nat} {vs:List AV} {Q:AV→St→Prop} (e:h[n]? =some (.list vs)) (hl:vs.length≤1000000) (q:Q (.ref h.length) ⟨l,h++[.list vs]⟩):W (qR [.ref n]) ⟨l,h⟩ Q:=by rw[Jv,e];exact dF hl q
theorem jd {n:Nat} {vs:List AV} {Q:IT→St→Prop} (e:h[n]? =some (.list vs)) (q:Q (.list n) ⟨l,h⟩):W (jB (.ref n)) ⟨l,h⟩ Q:=by rw[KF,e];exact q
theorem yS {n:Nat} {vs:List AV} {Q:IT→St→Prop} (e:h[n]? =some (.list vs)) (q:Q (.enum n) ⟨l,h⟩):W (sF [.ref n]) ⟨l,h⟩ Q:=by rw[Jz,e];exact q
theorem Ka {n:Nat} {vs:List AV} {Q:IT→St→Prop} (e:h[n]? =some (.list vs)) (q:Q (.rev n vs.length) ⟨l,h⟩):W (D8 [.ref n]) ⟨l,h⟩ Q:=by rw[KA,e];exact q
theorem FM {n:Nat} {a b:AV} {x y:Option Int} {vs:List AV} {Q:AV→St→Prop} (pa:part a=some x) (pb:part b=some y) (e:h[n]? =some (.list vs)) (ok:jM x y=true) (hl:vs.length≤1000000) (hc:(cut vs x y).length≤1000000)
  (q:Q (.ref h.length) ⟨l,h++[.list (cut vs x y)]⟩):W (wu (.ref n) a b) ⟨l,h⟩ Q:=by rw[Ih,pa,pb,e];exact lO ⟨ok,hl⟩ hc q
theorem pR {n:Nat} {x:Int} {vs:List AV} {Q:AV→St→Prop} (e:h[n]? =some (.list vs)) (hx: -(2^62)≤x∧x<2^62) (hl:(pn x.toNat vs).length≤1000000) (q:Q (.ref h.length) ⟨l,h++[.list (pn x.toNat vs)]⟩):
  W (tf (.ref n) (.int x)) ⟨l,h⟩ Q:=by rw[Ju,e];exact lO hx hl q
theorem BO {m n:Nat} {vs ws:List AV} {Q:AV→St→Prop} (em:h[m]? =some (.list vs)) (en:h[n]? =some (.list ws)) (hl:vs.length+ws.length≤1000000) (q:Q (.ref h.length) ⟨l,h++[.list (vs++ws)]⟩):
  W (AW (.ref m) (.ref n)) ⟨l,h⟩ Q:=by rw[JB,em,en];exact dF hl q
theorem J4 {i:Nat} {v:AV} {Q:Unit→St→Prop} {l':List (Option AV)} (q:Q () ⟨l',h⟩) (hi:autoParam (Nat.blt i l.length=true) aW) (hl:autoParam (l.set i (some v)=l') aL):W (wr i v) ⟨l,h⟩ Q:=J7 hi (hl▸q)
@[reducible] noncomputable def GQ (g:AV→List AV→EM AV) (o:AV) (Q:AV→St→Prop) (as:List AV) (σ:St):Prop:=W (g o as) σ Q
theorem Kd {g:AV→List AV→EM AV} {s:Str} {fs:List (EM AV)} {Q:AV→St→Prop} (q:W (bN fs) σ (GQ g (.str s) Q)):W (mH "str" g (.str s) fs) σ Q:=by
 rw[AY];exact dF rfl (q.mono λ z z x=>⟨rfl,x⟩)
theorem CW {a k:Nat} {j:Int} {Q:AV→St→Prop} (ej:j=((k:Nat):Int)) (q:Q (.int (a / 2^k:Nat)) σ):W (bX .RShift (.int (a:Nat)) (.int j)) σ Q:=by
 subst ej;rw[Kz];exact dF (bh _) (by rw[aX,pV];exact q)
theorem ts {k:Nat} {j:Int} {Q:AV→St→Prop} (ej:j=((k:Nat):Int)) (hk:k≤1000000) (q:Q (.int (2^k:Nat)) σ):W (bX .LShift (.int 1) (.int j)) σ Q:=by
 subst ej;rw[Ii];refine⟨⟨bh _,by omega,by decide⟩,?_⟩
 rw[aX,Int.one_mul,show((2:Int)^k)=((2^k:Nat):Int) by simp];exact q
theorem IZ {n:Nat} {vs:List AV} {Q:AV→St→Prop} (e:h[n]? =some (.flist vs)) (hl:vs.length≤1000000) (q:Q (.int vs.length) ⟨l,h⟩):W (gI [.ref n]) ⟨l,h⟩ Q:=
 me (by unfold gI getL;dsimp only;rw[e];dsimp only;rw[if_pos (by unfold iJ;simpa using hl)]) q
theorem CX {v k:Nat} {j:Int} {Q:AV→St→Prop} (ej:j=((k:Nat):Int)) (hk:k≤1000000) (hv:v<2^64) (q:Q (.int (v*2^k:Nat)) σ):W (bX .LShift (.int (v:Nat)) (.int j)) σ Q:=by
 subst ej;rw[Ii];refine⟨⟨bh _,by omega,by omega+splitNatSub⟩,?_⟩
 rw[aX,show((v:Int)*(2:Int)^k)=((v*2^k:Nat):Int) by simp];exact q
theorem Ll {T:String} {g:AV→List AV→EM AV} {n:Nat} {fs:List (EM AV)} {Q:AV→St→Prop} (t:m8 h (.ref n)=some T) (q:W (bN fs) ⟨l,h⟩ λ as bc=>m8 bc.h (.ref n)=some T∧W (g (.ref n) as) bc Q):W (mH T g (.ref n) fs) ⟨l,h⟩ Q:=by
 rw[AY];exact dF t q
theorem HR {n p:Nat} {F:EM AF} {args:List AV} {h:List AO} {R:AV→List AO→Prop} {l':List (Option AV)} (x:W F ⟨l',h⟩ (KM R)) (hl:autoParam (args.length=p) aR) (e:autoParam (args.map some++List.replicate (n-p) none=l') aL):Sp (dS n p F) args h R:=GH hl (e▸x)
theorem xQ {m:EM α} {a:α} (x:W m σ λ b bc=>b=a∧bc=σ):m σ=some (a,σ):=by
 rw[dg] at x;unfold W' at x
 split at x
 ·rename_i e;rw[e,x.1,x.2]
 ·exact x.elim
end
theorem Lm {is:List Nat} {v:AV} {f:Unit→EM β} {σ:St} {Q:β→St→Prop} (q:W (pi is v) σ (BQ f Q)):W (ae (pi is v) f) σ Q:=ss q
theorem Lo {is:List Nat} {v:AV} {f:Unit→EM β} {σ:St} {Q:β→St→Prop} (q:W (yd is v) σ (BQ f Q)):W (ae (yd is v) f) σ Q:=ss q
theorem IX {vs:List AV} {Q:AV→St→Prop} (q:Q (.ref h.length) ⟨l,h++[.list vs]⟩) (hl:vs.length≤1000000:=by with_unfolding_all exact aH rfl):W (gH vs) ⟨l,h⟩ Q:=lU hl q
theorem J8 {c:Prop} [Decidable c] {a b:EM α} {Q:α→St→Prop} (q:W a σ Q) (hc:autoParam (c) aD):W (if c then a else b) σ Q:=iP hc q
theorem Kb {c:Prop} [Decidable c] {a b:EM α} {Q:α→St→Prop} (q:W b σ Q) (hc:autoParam (¬c) aD):W (if c then a else b) σ Q:=fE hc q
theorem Lp {m:EM (List AV)} {σ:St} {Q:AV→St→Prop} (q:W m σ (BQ gH Q)):W (ae m gH) σ Q:=ss q
theorem Lj {m:EM (List AV)} {fs:List (EM AV)} {σ:St} {Q:List AV→St→Prop} (q:W (ae m gH) σ (EQ fs Q)):W (bN (ae m gH::fs)) σ Q:=FP q
open Lean in
local macro_rules | `(tactic| w_left) => do
 let a := #[`yQ, `H0, `Lm, `Lo, `J5, `J6, `J3, `IU, `J4, `Lp, `Lj, `IX].map Lean.mkIdent
 let b := #[`ss, `FP, `FS, `Kd, `J8, `Kb].map Lean.mkIdent
 `(tactic| repeat first $[| with_reducible refine $a ?_]* | refine kL rfl ?_ $[| with_reducible refine $b ?_]*)
local macro_rules | `(tactic| w_fin) => `(tactic| refine HR ?_; first | refine yQ ?_ | refine ss ?_)
theorem Am {n e:Nat}:Builtin.bitAnd ((n:Nat):Int) (((2^e:Nat):Int)-1)=((n % 2^e:Nat):Int):=by
 have:=cR e
 rw[show((2^e:Nat):Int)-1=((2^e-1:Nat):Int) by omega+splitNatSub,Gw,GA]
theorem DU (h:List AO) (o:AV) (s:Nat) (hs:s<288):Sp jl [o,.int s] h λ v h'=>h'=h∧∃c:Int,v= .tup [.int c,.int (gJ s).2]:=by
 unfold gJ
 w_fin
 w_left
 by_cases q1:s<144
 ·rw[if_pos q1]
  refine iP (aC (bd.mpr q1)) ?_
  w_left
  exact dF rfl (si _ rfl)
 rw[if_neg q1]
 refine fE (λ c=>q1 (bd.mp (ay c))) ?_
 w_left
 refine iP (aC (eL.mpr (eZ q1))) ?_
 w_left
 by_cases q2:s<256
 ·rw[if_pos q2]
  refine iP (aC (bd.mpr q2)) ?_
  w_left
  exact dF rfl (si _ rfl)
 rw[if_neg q2]
 refine fE (λ c=>q2 (bd.mp (ay c))) ?_
 w_left
 refine iP (aC (eL.mpr (eZ q2))) ?_
 w_left
 by_cases q3:s<280
 ·rw[if_pos q3]
  refine iP (aC (bd.mpr q3)) ?_
  w_left
  exact dF rfl (si _ rfl)
 rw[if_neg q3]
 refine fE (λ c=>q3 (bd.mp (ay c))) ?_
 w_left
 refine iP (aC (eL.mpr (eZ q3))) ?_
 w_left
 refine iP (aC (bd.mpr hs)) ?_
 w_left
 exact dF rfl (si _ rfl)
theorem Bv {h:List AO} {n:Nat} {fs:List (Nat×AV)} (e:h[n]? =some (.inst 111 fs)) {s:Nat} (hs:s<288):Sp dl [.ref n,.int s] h λ v h'=>h'=h∧v= .int (gJ s).2:=by
 w_fin
 w_left
 refine fK e rfl ?_
 w_left
 refine(DU h (.ref n) s hs).mono λ v h' p=>?_
 refine dL p λ uu0 y=>?_;refine gX y λ c uu1=>?_;clear y p;subst uu0 uu1
 w_left
 exact dF rfl rfl
theorem z0 (h:List AO) (o:AV) {s:Nat} (hs:s<32):Sp dh [o,.int s] h λ v h'=>h'=h∧v= .int 5:=by
 w_fin
 w_left
 refine iP (aC (bd.mpr hs)) ?_
 w_left
 exact dF rfl rfl
theorem lM (h:List AO) (L:Nat) (h1:3≤L) (h2:L≤258):Sp ix [.int L] h λ v h'=>h'=h∧v=t3 (cu L):=by
 w_fin
 w_left
 refine iP (aC (eL.mpr h1)) ?_
 w_left
 refine fE (by rw[aC (show(L:Int)≤258 from eL.mpr h2)];decide) ?_
 unfold cu
 w_left
 by_cases q:L=258
 ·rw[if_pos q]
  refine iP (by rw[q];rfl) ?_
  w_left
  exact dF rfl rfl
 ·rw[if_neg q]
  refine fE (λ c=>q (eC (ez c))) ?_
  w_left
  rw[show(L:Int)-3=((L-3:Nat):Int) by omega]
  have hx:L-3<2^8:=by exact f!"1b1.+256.>1b3.+a<1a258.<2" h2 (V (ai (f!"1 3.a>1 3.a<1" h1)))
  generalize L-3=x at*
  by_cases q':x<8
  ·rw[if_pos q']
   refine iP (aC (bd.mpr q')) ?_
   w_left
   exact dF rfl rfl
  ·rw[if_neg q']
   refine fE (λ c=>q' (bd.mp (ay c))) ?_
   w_left
   have hn:x≠0:=by exact ch (ag (nb rfl) (aG q'))
   have g1:3≤x.log2:=yJ hn (by exact f!"1 8.a>1 8.a<1" (aG q'))
   have g2:=log2_lt hn hx
   rw[t6,if_neg hn,show((x.log2+1:Nat):Int)-3=((x.log2-2:Nat):Int) by omega]
   have a7:x.log2-2≤1000000:=by exact f!"1b1000000.>1ba<1a1.+8.<2" g2 (eS _ _)
   generalize x.log2-2=e at*
   refine CW rfl ?_
   w_left
   rw[Kr]
   refine ts rfl a7 ?_
   w_left
   rw[Am]
   exact dF rfl rfl
theorem j8 (h:List AO) (d:Nat) (h1:1≤d) (h2:d≤32768):Sp gD [.int d] h λ v h'=>h'=h∧v=t3 (b0 d):=by
 w_fin
 w_left
 refine iP (aC (eL.mpr h1)) ?_
 w_left
 refine fE (by rw[aC (show(d:Int)≤32768 from eL.mpr h2)];decide) ?_
 unfold b0
 w_left
 rw[show(d:Int)-1=((d-1:Nat):Int) by omega]
 have hx:d-1<2^15:=by exact f!"1b1.+32768.>1b1.+a<1a32768.<2" h2 (V (ai (f!"1 1.a>1 1.a<1" h1)))
 generalize d-1=x at*
 by_cases q':x<4
 ·rw[if_pos q']
  refine iP (aC (bd.mpr q')) ?_
  w_left
  exact dF rfl rfl
 ·rw[if_neg q']
  refine fE (λ c=>q' (bd.mp (ay c))) ?_
  w_left
  have hn:x≠0:=by exact ch (ag (nb rfl) (aG q'))
  have g1:2≤x.log2:=yJ hn (by exact f!"1 4.a>1 4.a<1" (aG q'))
  have g2:=log2_lt hn hx
  rw[t6,if_neg hn,show((x.log2+1:Nat):Int)-2=((x.log2-1:Nat):Int) by omega]
  have a7:x.log2-1≤1000000:=by exact f!"1b1000000.>1ba<1a1.+15.<2" g2 (eS _ _)
  generalize x.log2-1=e at*
  refine CW rfl ?_
  w_left
  rw[Dm]
  refine ts rfl a7 ?_
  w_left
  rw[Am]
  exact dF rfl rfl
theorem DS {h:List AO} {m:Nat} {lens:List Nat} (e:h[m]? =some (.list (lens.map nI))) (hne:lens≠[]):
  Sp dP [.ref h.length,.ref m] (h++[.inst 174 []]) λ v h'=>v= .none∧h'=h++[.inst 174 [(0,.ref m),(1,.int (ic lens+1:Nat))]]:=by
 w_fin
 w_left
 refine gY (au h [_]) rfl ?_
 rw[fw]
 w_left
 refine GC (bf e _) hne _ _ ?_
 w_left
 refine gY (au h [_]) rfl ?_
 rw[fw]
 w_left
 exact dF rfl rfl
theorem DT {h:List AO} {n m:Nat} {fs:List (Nat×AV)} {lens:List Nat} (e:h[n]? =some (.inst 174 ((0,.ref m)::fs))) (e2:h[m]? =some (.list (lens.map nI))) (hb:lens.length<1000000) {s:Nat} (hs:s<lens.length):
  Sp dQ [.ref n,.int s] h λ v h'=>h'=h∧v=oN (if lens[s]=0 then none else some lens[s]):=by
 w_fin
 w_left
 refine iP rfl ?_
 w_left
 refine cg e rfl rfl ?_
 w_left
 refine gK e2 (by rw[ac];exact bF hb) ?_
 rw[ac]
 w_left
 refine fE (by rw[aC (bd.mpr hs)];decide) ?_
 w_left
 refine cg e rfl rfl ?_
 w_left
 refine dO e2 hs hb ?_
 w_left
 by_cases q:lens[s]=0
 ·rw[if_pos q]
  refine iP (by rw[q];rfl) ?_
  w_left
  exact dF rfl rfl
 ·rw[if_neg q]
  refine fE (λ c=>q (eC (ez c))) ?_
  w_left
  refine cg e rfl rfl ?_
  w_left
  refine dO e2 hs hb ?_
  w_left
  exact dF rfl rfl
noncomputable abbrev D3:List (Addr×fR):=[(111,dl),(146,dh),(174,dQ)]
noncomputable def CO (h:List AO) (n:Nat) (c:Nat→Option Nat) (B dear:Nat):Prop:=
 (∃(fs:List (Nat×AV)),h[n]? =some (.inst 111 fs)∧B=288∧∀s<288,c s=some (gJ s).2)∨(∃(fs:List (Nat×AV)),h[n]? =some (.inst 146 fs)∧B=32∧∀s<32,c s=some 5)∨
 (∃(m:Nat) (lens:List Nat),h[n]? =some (.inst 174 [(0,.ref m),(1,.int dear)])∧h[m]? =some (.list (lens.map nI))∧B=lens.length∧lens.length<1000000∧∀s (hs:s<lens.length),c s=if lens[s]=0 then none else some lens[s])
theorem CO.mono {h h':List AO} {n:Nat} {c:Nat→Option Nat} {B dear:Nat} (x:CO h n c B dear) (f:Fr [] h h'):CO h' n c B dear:=by
 rcases x with⟨fs,a,b⟩|⟨fs,a,b⟩|⟨m,lens,a,b,d⟩
 ·exact .inl ⟨fs,f.get a,b⟩
 ·exact .inr (.inl ⟨fs,f.get a,b⟩)
 ·exact .inr (.inr ⟨m,lens,f.get a,f.get b,d⟩)
theorem JF {h:List AO} {n:Nat} {c:Nat→Option Nat} {B dear:Nat} (x:CO h n c B dear) {s:Nat} (hs:s<B) {R:AV→List AO→Prop} (q:R (oN (c s)) h):x7 D3 n h λ G=>Sp G [.ref n,.int s] h R:=by
 rcases x with⟨gs,a,b,d⟩|⟨gs,a,b,d⟩|⟨m,lens,a,b,d,b',d'⟩
 ·rw[sN a (G:=dl) rfl]
  subst b
  refine Sp.w2 (Bv a hs) ?_
  rw[d s hs] at q;exact q
 ·rw[sN a (G:=dh) rfl]
  subst b
  refine Sp.w2 (z0 h _ hs) ?_
  rw[d s hs] at q;exact q
 ·rw[sN a (G:=dQ) rfl]
  subst d
  refine Sp.w2 (DT a b b' hs) ?_
  rw[d' s hs] at q;exact q
theorem BL {h:List AO} {n s:Nat} {c:Nat→Option Nat} {B dear:Nat} {l:List (Option AV)} {fs:List (EM AV)} {Q:AV→St→Prop} (x:CO h n c B dear) (hs:s<B) (ea:bN fs ⟨l,h⟩=some ([.int (s:Nat)],⟨l,h⟩)) (q:Q (oN (c s)) ⟨l,h⟩):W (eY D3 (.ref n) fs) ⟨l,h⟩ Q:=by
 rw[Ds]
 have k:=JF x hs (R:=λ v h'=>Q v ⟨l,h'⟩) q
 unfold x7 at k⊢
 revert k
 generalize h[n]? =o
 intro k
 rcases o with _|_|_|⟨c,_⟩|_|_<;>first|exact k.elim|skip
 dsimp only at k⊢
 revert k
 generalize D3.lookup c=o
 intro k
 cases o
 ·exact k.elim
 ·exact me ea (FS k)
theorem s6 {h:List AO} {o:AV} {n:Nat} {c:Nat→Option Nat} {B dear:Nat} (x:CO h n c B dear) {s:Nat} (hs:s<B):Sp hO [o,.ref n,.int s] h λ v h'=>h'=h∧v=nI ((c s).getD dear):=by
 w_fin
 w_left
 refine BL x hs rfl ?_
 cases hc:c s with
 |some k=>
  w_left
  exact dF rfl rfl
 |none=>
  w_left
  rcases x with⟨gs,a,b,d⟩|⟨gs,a,b,d⟩|⟨m,lens,a,b,d,b',d'⟩
  ·subst b;rw[d s hs] at hc;cases hc
  ·subst b;rw[d s hs] at hc;cases hc
  ·refine cg a rfl rfl ?_
   w_left
   exact dF rfl rfl
theorem DV (h:List AO) (a b:AV):Sp hJ [.ref h.length,a,b] (h++[.inst 216 []]) λ v h'=>v= .none∧h'=h++[.inst 216 [(2,a),(3,b)]]:=by
 w_fin
 w_left
 refine gY (au h [_]) rfl ?_
 rw[fw]
 w_left
 refine gY (au h [_]) rfl ?_
 rw[fw]
 w_left
 exact dF rfl rfl
structure PR (h:List AO) (p:Nat) (jF:Nat→Option Nat) (pA ky:Nat) (kh:Nat→Option Nat) (ql lC:Nat):Prop where
 ob:∃a b,h[p]? =some (.inst 216 [(2,.ref a),(3,.ref b)])∧CO h a jF pA ky∧CO h b kh ql lC
theorem PR.mono {h h':List AO} {p:Nat} {jF:Nat→Option Nat} {pA ky:Nat} {kh:Nat→Option Nat} {ql lC:Nat} (x:PR h p jF pA ky kh ql lC) (f:Fr [] h h'):PR h' p jF pA ky kh ql lC:=
 let⟨a,b,e,x,y⟩:=x.ob;⟨a,b,f.get e,x.mono f,y.mono f⟩
section
variable{h:List AO} {p:Nat} {jF:Nat→Option Nat} {pA ky:Nat} {kh:Nat→Option Nat} {ql lC:Nat}
theorem sb (x:PR h p jF pA ky kh ql lC) {s:Nat} (hs:s<pA):Sp gT [.ref p,.int s] h λ v h'=>h'=h∧v=nI ((jF s).getD ky):=by
 refine bK x.ob λ a b e y z=>?_
 w_fin
 w_left
 refine fK e rfl ?_
 w_left
 refine cg e rfl rfl ?_
 w_left
 refine(s6 y hs).mono λ v h' q=>?_
 w_left
 exact q
theorem Bw (x:PR h p jF pA ky kh ql lC) {L D:Nat} (h1:3≤L) (h2:L≤258) (h3:1≤D) (h4:D≤32768) (b1:(cu L).1<pA) (b2:(b0 D).1<ql):
  Sp kr [.ref p,.int L,.int D] h λ v h'=>h'=h∧v=nI ((jF (cu L).1).getD ky+(cu L).2.1+(kh (b0 D).1).getD lC+(b0 D).2.1):=by
 refine bK x.ob λ a b e y z=>?_
 w_fin
 w_left
 refine Sp.w2 (lM h L h1 h2) ?_
 w_left
 refine Sp.w2 (j8 h D h3 h4) ?_
 w_left
 refine fK e rfl ?_
 w_left
 refine cg e rfl rfl ?_
 w_left
 refine Sp.w2 (s6 y b1) ?_
 w_left
 refine fK e rfl ?_
 w_left
 refine cg e rfl rfl ?_
 w_left
 refine Sp.w2 (s6 z b2) ?_
 w_left
 exact dF rfl rfl
end
theorem kH:∀L<259,3≤L→(cu L).1<286∧257≤(cu L).1∧(cu L).2.1≤5:=by decide+kernel
theorem mE {d:Nat} (h1:1≤d) (h2:d≤32768):(b0 d).1<30∧(b0 d).2.1≤13:=by
 unfold b0
 by_cases q:d-1<4
 ·rw[if_pos q];exact dF (by show d-1<30;exact ag q (nb rfl)) (by show 0≤13;exact mj _ _)
 ·rw[if_neg q]
  have g2:(d-1).log2<15:=log2_lt (by exact ch (ag (nb rfl) (aG q))) (by exact f!"1b1.+32768.>1b1.+a<1a32768.<2" h2 (V (ai (f!"1 1.b>1ab<1 4.a<2" (aG q) (eS _ _)))))
  refine⟨?_,by show(d-1).log2-1≤13;omega+splitNatSub⟩
  show 2*((d-1).log2-1+1)+(d-1) / 2^((d-1).log2-1) % 2<30
  omega+splitNatSub
noncomputable def firsts (xs:List Nat):List Nat:=xs.foldl (λ acc x=>if x∈acc then acc else acc++[x]) []
theorem hZ (xs:List Nat) (s:Nat):firsts (xs++[s])=if s∈firsts xs then firsts xs else firsts xs++[s]:=by
 unfold firsts;rw[fC];rfl
theorem j4 {α:Type} {P:List α→Prop} (h0:P []) (hs:∀xs x,P xs→P (xs++[x])) (xs:List α):P xs:=by
 have:∀ys:List α,P ys.reverse:=by
  intro ys
  induction ys with
  |nil=>exact h0
  |cons y ys ih=>rw[List.reverse_cons];exact hs _ _ ih
 have:=this xs.reverse
 rwa [List.reverse_reverse] at this
theorem eW (xs:List Nat):∀s,s∈firsts xs↔s∈xs:=by
 refine j4 (P:=λ xs=>∀s,s∈firsts xs↔s∈xs) (λ s=>by unfold firsts;simp) (λ xs x ih s=>?_) xs
 rw[hZ]
 split
 ·rename_i q
  rw[ih,gF,bu]
  exact⟨.inl,λ z=>z.elim id λ e=>e▸(ih x).mp q⟩
 ·rw[gF,gF,ih]
theorem sC (xs:List Nat):(firsts xs).Nodup:=by
 refine j4 (P:=λ xs=>(firsts xs).Nodup) (by unfold firsts;exact List.nodup_nil) (λ xs x ih=>?_) xs
 rw[hZ]
 split
 ·exact ih
 ·rename_i q
  refine iO.mpr ⟨ih,by simp,λ a ha b hb=>?_⟩
  rw[bu] at hb
  intro e;subst e hb;exact q ha
theorem ii (xs:List Nat):(firsts xs).length≤xs.length:=by
 refine j4 (P:=λ xs=>(firsts xs).length≤xs.length) (by unfold firsts;exact bz _) (λ xs x ih=>?_) xs
 rw[hZ,ah]
 split
 ·exact Nat.le_add_right_of_le ih
 ·rw[ah];exact Nat.add_le_add_right ih _
noncomputable def cW (B:Nat) (xs:List Nat):List Nat:=(List.range B).map λ i=>xs.count i
theorem cC (B:Nat) (xs:List Nat):(cW B xs).length=B:=by unfold cW;simp
theorem gZ {B:Nat} {xs:List Nat} {s:Nat} (hs:s<B) (h:s<(cW B xs).length):(cW B xs)[s]=xs.count s:=by simp only[cW,k8,mr]
theorem ty {B:Nat} {xs:List Nat} {s:Nat} (hs:s<B):(cW B xs).set s (xs.count s+1)=cW B (xs++[s]):=by
 apply hU
 ·simp[cW]
 ·intro i h1 h2
  have hi:i<B:=by rw[cC] at h2;exact h2
  rw[gZ hi,List.getElem_set,m7]
  split
  ·rename_i e;subst e;simp
  ·rename_i e
   rw[gZ hi]
   rw[jV (λ z=>e z)];simp
theorem kF (xs:List Nat) (i v:Nat):(xs.map nI).set i (nI v)=(xs.set i v).map nI:=by rw[List.map_set]
theorem hW (xs:List Nat) (v:Nat):xs.map nI++[nI v]=(xs++[v]).map nI:=by simp
structure SC (h:List AO) (n:Nat) (near far:List Nat) (x:Nat):Prop where
 ob:h[n]? =some (.inst 258 [(4,.ref (n+2)),(5,.ref (n+4)),(6,.ref (n+5)),(7,.ref (n+6)),(8,.int x)])
 lit:h[n+2]? =some (.list ((cW 286 near).map nI))
 dis:h[n+4]? =some (.list ((cW 30 far).map nI))
 used:h[n+5]? =some (.list ((firsts near).map nI))
 fars:h[n+6]? =some (.list ((firsts far).map nI))
theorem SC.mono {h h':List AO} {n:Nat} {near far:List Nat} {x:Nat} (X:SC h n near far x) (f:Fr [] h h'):SC h' n near far x:=⟨f.get X.ob,f.get X.lit,f.get X.dis,f.get X.used,f.get X.fars⟩
noncomputable abbrev JP (n:Nat):List Nat:=[n,n+2,n+4,n+5,n+6]
theorem Fi {h aN:List AO} {n:Nat} {near far:List Nat} {s x:Nat} (X:SC h n near far x) (hs:s<286) (l1:aN.length=h.length) (o1:∀i,i≠n+5→aN[i]? =h[i]?) (o2:aN[n+5]? =some (.list ((firsts (near++[s])).map nI))):
  SC (aN.set (n+2) (.list (((cW 286 near).map nI).set s (nI (near.count s+1))))) n (near++[s]) far x∧Fr (JP n) h (aN.set (n+2) (.list (((cW 286 near).map nI).set s (nI (near.count s+1))))):=by
 have c2:aN[n+2]? =some (.list ((cW 286 near).map nI)):=(o1 _ (by exact λ z=>f!"z1a5.+a2.+<1" (V z.symm))).trans X.lit
 refine⟨⟨?_,?_,?_,?_,?_⟩,⟨by rw[bt,l1];exact bz _,λ i o hi e=>?_⟩⟩
 ·exact aU ((o1 _ (by exact λ z=>f!"z1a5.+a<1" (V z.symm))).trans X.ob) (by exact λ z=>f!"z1a2.+a<1" (V z)) _
 ·rw[cx c2,kF,ty hs]
 ·exact aU ((o1 _ (by exact λ z=>f!"z1a5.+a4.+<1" (V z.symm))).trans X.dis) (by exact λ z=>f!"z1a4.+a2.+<1" (V z.symm)) _
 ·exact aU o2 (by exact λ z=>f!"z1a5.+a2.+<1" (V z.symm)) _
 ·exact aU ((o1 _ (by exact λ z=>f!"z1a6.+a5.+<1" (V z))).trans X.fars) (by exact λ z=>f!"z1a6.+a2.+<1" (V z.symm)) _
 ·simp only[bo,not_or] at hi
  exact aU ((o1 i (by omega)).trans e) (by omega) _
theorem ni {h:List AO} {n:Nat} {near far:List Nat} {x s:Nat} (X:SC h n near far x) (hs:s<286) (hl:near.length<1000):
  Sp dJ [.ref n,nI s] h λ v h'=>v= .none∧SC h' n (near++[s]) far x∧h'.length=h.length∧Fr (JP n) h h':=by
 have hs':s<(cW 286 near).length:=by rw[cC];exact hs
 have hb:(cW 286 near).length<1000000:=by rw[cC];decide
 have hz:(0:Int)≤((s:Nat):Int)∧((s:Nat):Int)<(((cW 286 near).map nI).length:Nat)∧((s:Nat):Int)<2^62:=by rw[ac,cC];omega
 have hf:=ii near
 have hfm:=eW near s
 w_fin
 w_left
 refine cg X.ob rfl rfl ?_
 w_left
 refine dO X.lit hs' hb ?_
 rw[gZ hs hs']
 w_left
 by_cases q:near.count s=0
 ·have nm:s∉firsts near:=λ z=>absurd (hfm.mp z) (List.count_eq_zero.mp q)
  refine iP (by rw[q];rfl) ?_
  w_left
  refine cg X.ob rfl rfl ?_
  w_left
  refine kd rfl X.used (by rw[ac];exact bF (aj hf (ag hl (nb rfl)))) ?_
  have g0:=aU X.ob (show n+5≠n by exact λ z=>f!"z1a5.+a<1" (V z)) (.list ((firsts near).map nI++[nI s]))
  have g2:=aU X.lit (show n+5≠n+2 by exact λ z=>f!"z1a5.+a2.+<1" (V z)) (.list ((firsts near).map nI++[nI s]))
  w_left
  refine cg g0 rfl rfl ?_
  w_left
  refine dO g2 hs' hb ?_
  rw[gZ hs hs']
  w_left
  refine kK g2 hz ?_
  w_left
  have fin:=Fi X hs (aN:=h.set (n+5) (.list ((firsts near).map nI++[nI s]))) bt (λ i hi=>cZ (f9 hi)) (by rw[hZ,if_neg nm,←hW];exact cx X.used _)
  exact lv rfl fin.1 (by simp only[bt]) fin.2
 ·have nm:s∈firsts near:=hfm.mpr (mt.mp (Nat.pos_of_ne_zero q))
  refine fE (λ c=>q (eC (ez c))) ?_
  w_left
  refine cg X.ob rfl rfl ?_
  w_left
  refine dO X.lit hs' hb ?_
  rw[gZ hs hs']
  w_left
  refine kK X.lit hz ?_
  w_left
  have fin:=Fi X hs (aN:=h) rfl (λ i hi=>rfl) (by rw[hZ,if_pos nm];exact X.used)
  exact lv rfl fin.1 (by simp only[bt]) fin.2
theorem Cq {aN bT:List AO} {n:Nat} {near far:List Nat} {s0 s x:Nat} (mL:SC aN n (near++[s0]) far x) (hs:s<30) (l1:bT.length=aN.length) (o1:∀i,i≠n+6→bT[i]? =aN[i]?) (o2:bT[n+6]? =some (.list ((firsts (far++[s])).map nI))) (y:Nat):
  SC ((bT.set (n+4) (.list (((cW 30 far).map nI).set s (nI (far.count s+1))))).set n (.inst 258 [(4,.ref (n+2)),(5,.ref (n+4)),(6,.ref (n+5)),(7,.ref (n+6)),(8,.int y)])) n (near++[s0]) (far++[s]) y∧
   Fr (JP n) aN ((bT.set (n+4) (.list (((cW 30 far).map nI).set s (nI (far.count s+1))))).set n (.inst 258 [(4,.ref (n+2)),(5,.ref (n+4)),(6,.ref (n+5)),(7,.ref (n+6)),(8,.int y)])):=by
 have c4:bT[n+4]? =some (.list ((cW 30 far).map nI)):=(o1 _ (by exact λ z=>f!"z1a6.+a4.+<1" (V z.symm))).trans mL.dis
 have c0:=aU ((o1 n (by exact λ z=>f!"z1a6.+a<1" (V z.symm))).trans mL.ob) (show n+4≠n by exact λ z=>f!"z1a4.+a<1" (V z)) (.list (((cW 30 far).map nI).set s (nI (far.count s+1))))
 refine⟨⟨cx c0 _,?_,?_,?_,?_⟩,⟨by simp[l1],λ i o hi e=>?_⟩⟩
 ·exact aU (aU ((o1 _ (by exact λ z=>f!"z1a6.+a2.+<1" (V z.symm))).trans mL.lit) (by exact λ z=>f!"z1a4.+a2.+<1" (V z)) _) (by exact λ z=>f!"z1a2.+a<1" (V z.symm)) _
 ·rw[←ty hs,←kF]
  exact aU (cx c4 _) (by exact λ z=>f!"z1a4.+a<1" (V z.symm)) _
 ·exact aU (aU ((o1 _ (by exact λ z=>f!"z1a6.+a5.+<1" (V z.symm))).trans mL.used) (by exact λ z=>f!"z1a5.+a4.+<1" (V z.symm)) _) (by exact λ z=>f!"z1a5.+a<1" (V z.symm)) _
 ·exact aU (aU o2 (by exact λ z=>f!"z1a6.+a4.+<1" (V z.symm)) _) (by exact λ z=>f!"z1a6.+a<1" (V z.symm)) _
 ·simp only[bo,not_or] at hi
  exact aU (aU ((o1 i (by omega)).trans e) (by omega) _) (by omega) _
theorem z6 {h:List AO} {n:Nat} {near far:List Nat} {x L D:Nat} (X:SC h n near far x) (h1:3≤L) (h2:L≤258) (h3:1≤D) (h4:D≤32768) (hl:near.length<1000) (hl2:far.length<1000):
  Sp ik [.ref n,nI L,nI D] h λ v h'=>v= .none∧SC h' n (near++[(cu L).1]) (far++[(b0 D).1]) (x+((cu L).2.1+(b0 D).2.1))∧h'.length=h.length∧Fr (JP n) h h':=by
 w_fin
 w_left
 refine Sp.w2 (lM h L h1 h2) ?_
 w_left
 refine Sp.w2 (j8 h D h3 h4) ?_
 w_left
 refine fK X.ob rfl ?_
 w_left
 refine Sp.u13 (ni X (kH L (by exact aj h2 (nb rfl)) h1).1 hl) λ aN mL Hi lz=>?_
 have hs:=(mE h3 h4).1
 generalize (b0 D).1=s at*
 generalize (cu L).1=s0 at*
 have hs':s<(cW 30 far).length:=by rw[cC];exact hs
 have hb:(cW 30 far).length<1000000:=by rw[cC];decide
 have hz:(0:Int)≤((s:Nat):Int)∧((s:Nat):Int)<(((cW 30 far).map nI).length:Nat)∧((s:Nat):Int)<2^62:=by rw[ac,cC];omega
 have hf:=ii far
 have hfm:=eW far s
 w_left
 refine cg mL.ob rfl rfl ?_
 w_left
 refine dO mL.dis hs' hb ?_
 rw[gZ hs hs']
 w_left
 by_cases q:far.count s=0
 ·have nm:s∉firsts far:=λ z=>absurd (hfm.mp z) (List.count_eq_zero.mp q)
  refine iP (by rw[q];rfl) ?_
  w_left
  refine cg mL.ob rfl rfl ?_
  w_left
  refine kd rfl mL.fars (by rw[ac];exact bF (aj hf (ag hl2 (nb rfl)))) ?_
  w_left
  have g0:=aU mL.ob (show n+6≠n by exact λ z=>f!"z1a6.+a<1" (V z)) (.list ((firsts far).map nI++[.int (s:Nat)]))
  have g4:=aU mL.dis (show n+6≠n+4 by exact λ z=>f!"z1a6.+a4.+<1" (V z)) (.list ((firsts far).map nI++[.int (s:Nat)]))
  refine cg g0 rfl rfl ?_
  w_left
  refine dO g4 hs' hb ?_
  rw[gZ hs hs']
  w_left
  refine kK g4 hz ?_
  w_left
  refine cg (aU g0 (by exact λ z=>f!"z1a4.+a<1" (V z)) _) rfl rfl ?_
  w_left
  refine gY (aU g0 (by exact λ z=>f!"z1a4.+a<1" (V z)) _) rfl ?_
  w_left
  have fin:=Cq mL hs (bT:=aN.set (n+6) (.list ((firsts far).map nI++[nI s]))) (by rw[bt]) (λ i hi=>cZ (f9 hi)) (by rw[hZ,if_neg nm,←hW];exact cx mL.fars _) (x+((cu L).2.1+(b0 D).2.1))
  exact lv rfl fin.1 (by simp only[bt,Hi]) (lz.trans fin.2)
 ·have nm:s∈firsts far:=hfm.mpr (mt.mp (Nat.pos_of_ne_zero q))
  refine fE (λ c=>q (eC (ez c))) ?_
  w_left
  refine cg mL.ob rfl rfl ?_
  w_left
  refine dO mL.dis hs' hb ?_
  rw[gZ hs hs']
  w_left
  refine kK mL.dis hz ?_
  w_left
  refine cg (aU mL.ob (by exact λ z=>f!"z1a4.+a<1" (V z)) _) rfl rfl ?_
  w_left
  refine gY (aU mL.ob (by exact λ z=>f!"z1a4.+a<1" (V z)) _) rfl ?_
  w_left
  have fin:=Cq mL hs (bT:=aN) rfl (λ i hi=>rfl) (by rw[hZ,if_pos nm];exact mL.fars) (x+((cu L).2.1+(b0 D).2.1))
  exact lv rfl fin.1 (by simp only[bt,Hi]) (lz.trans fin.2)
theorem Fr.above {S:List Nat} {h nX h':List AO} (a:Fr [] h nX) (b:Fr S nX h') (hS:∀i∈S,h.length≤i):Fr [] h h':=
 ⟨af a.len b.len,λ i o q e=>b.keep i o (λ z=>by have:=hS i z;have:=kG e;omega) (a.get e)⟩
theorem z9 {α:Type} (k:Nat) (a:α):(List.replicate k [a]).flatten=List.replicate k a:=by
 induction k with
 |zero=>rfl
 |succ k ih=>rw[ja,m6,ih];rfl
theorem sJ (B:Nat):cW B []=List.replicate B 0:=by
 unfold cW
 apply hU
 ·simp
 ·intro i h1 h2;simp
theorem lN (B:Nat):pn B [AV.int 0]=(cW B []).map nI:=by rw[pn,z9,sJ,mq];rfl
noncomputable def iX (p:Nat×Nat):Nat:=if p.1=0 then p.2 else(cu p.1).1
noncomputable def nv (p:Nat×Nat):List Nat:=if p.1=0 then[] else[(b0 p.2).1]
noncomputable def GV (p:Nat×Nat):Nat:=if p.1=0 then 0 else(cu p.1).2.1+(b0 p.2).2.1
noncomputable def cb (st:List (Nat×Nat)):List Nat:=256::st.map iX
noncomputable def dy (st:List (Nat×Nat)):List Nat:=st.flatMap nv
noncomputable def lR (st:List (Nat×Nat)):Nat:=(st.map GV).sum
noncomputable def pq (p:Nat×Nat):Prop:=(p.1=0∧p.2<256)∨(3≤p.1∧p.1≤258∧1≤p.2∧p.2≤32768)
noncomputable def rh (p:Nat×Nat):AV:=.tup [.int p.1,.int p.2]
theorem tY (st:List (Nat×Nat)) (x:Nat×Nat):cb (st++[x])=cb st++[iX x]:=by simp[cb]
theorem v5 (st:List (Nat×Nat)) (x:Nat×Nat):dy (st++[x])=dy st++nv x:=by simp[dy]
theorem xP (st:List (Nat×Nat)) (x:Nat×Nat):lR (st++[x])=lR st+GV x:=by simp[lR]
theorem qx (st:List (Nat×Nat)):(dy st).length≤st.length:=by
 induction st with
 |nil=>exact bz _
 |cons a st ih=>
  unfold dy nv at*
  rw[kx,ah,bW]
  split
  ·show 0+_≤_;exact f!"1 0.a+b1.+>1ab<2" ih
  ·show 1+_≤_;exact f!"1 1.a+b1.+>1ab<2" ih
theorem Ic (h:List AO) (a b:List AO):(h++a++b)=h++(a++b):=c5 ..
theorem DM {h:List AO} {m:Nat} {st:List (Nat×Nat)} (e:h[m]? =some (.list (st.map rh))) (ok:∀p∈st,pq p) (hl:st.length<500):
  Sp kq [.ref h.length,.ref m] (h++[.inst 258 []]) λ v h'=>v= .none∧SC h' h.length (cb st) (dy st) (lR st)∧Fr [] h h':=by
 have hS:∀i∈JP h.length,h.length≤i:=by intro i hi;simp only[bo,jf,or_false] at hi;omega
 have len:∀t:List AO,(h++t).length=h.length+t.length:=λ t=>ah
 have z1:(pn ((256:Int)+30).toNat [AV.int 0]).length≤1000000:=by show(pn 286 [AV.int 0]).length≤_;rw[lN,ac,cC];decide
 have z2:(pn (30:Int).toNat [AV.int 0]).length≤1000000:=by show(pn 30 [AV.int 0]).length≤_;rw[lN,ac,cC];decide
 w_fin
 w_left
 refine pR (au (h++[_]) [_]) ⋯ z1 ?_
 w_left
 rw[Ic h,Ic h,len]
 refine gY (au h _) rfl ?_
 rw[fw]
 w_left
 refine pR (au (h++_) [_]) ⋯ z2 ?_
 w_left
 rw[Ic h,Ic h,len]
 refine gY (au h _) rfl ?_
 rw[fw]
 w_left
 rw[Ic h,len]
 refine gY (au h _) rfl ?_
 rw[fw]
 w_left
 rw[Ic h,len]
 refine gY (au h _) rfl ?_
 rw[fw]
 w_left
 refine gY (au h _) rfl ?_
 rw[fw]
 w_left
 refine fK (au h _) rfl ?_
 w_left
 have Kx:SC (h++[AO.inst 258 [(4,AV.ref (h.length+2)),(5,AV.ref (h.length+4)),(6,AV.ref (h.length+5)),(7,AV.ref (h.length+6)),(8,AV.int 0)],AO.list [AV.int 0],AO.list (pn 286 [AV.int 0]),AO.list [AV.int 0],AO.list (pn 30 [AV.int 0]),AO.list [],AO.list []]) h.length [] [] 0:=
  ⟨au h _,(nZ h _ 2).trans (congrArg (λ z=>some (AO.list z)) (lN 286)),(nZ h _ 4).trans (congrArg (λ z=>some (AO.list z)) (lN 30)),nZ h _ 5,nZ h _ 6⟩
 refine(ni Kx (s:=256) ⋯ ⋯).mono λ v aN q=>?_
 have KR:=((Fr.refl [] h).app _).above q.2.2.2 hS
 have mL:=q.2.1
 obtain rfl:=q.1
 clear q Kx z1 z2
 w_left
 refine je ?_
 w_left
 refine jd (KR.get e) ⟨rfl,gp st rh (λ p σ=>∃o h',σ=⟨[some (.ref h.length),some (.ref m),o],h'⟩∧SC h' h.length (cb p) (dy p) (lR p)∧Fr [] h h') ⟨none,aN,rfl,mL,KR⟩ ?_ ?_ ?_⟩
 ·intro p σ ww0;refine bK ww0 λ o h' uu0 X F=>?_;clear ww0;subst uu0
  exact dt (F.get e)
 ·intro p x q σ hst ww0;refine bK ww0 λ o h' uu0 X F=>?_;clear ww0;subst uu0
  have hx:pq x:=ok x (by rw[hst];simp)
  have hlp:p.length<500:=by rw[hst] at hl;simp at hl;exact f!"1a1.+500.>1ab1.++1.+500.<2" hl
  have n1:(cb p).length<1000:=by unfold cb;simp;exact f!"1a1.+1.+1000.>1a1.+500.<1" hlp
  have n2:(dy p).length<1000:=by have:=qx p;exact aj this (ag hlp (nb rfl))
  rw[tY,v5,xP]
  unfold iX nv GV
  w_left
  rcases hx with⟨h1,h2⟩|⟨h1,h2,h3,h4⟩
  ·rw[if_pos h1,if_pos h1,if_pos h1,eJ,Nat.add_zero]
   refine iP (by rw[h1];rfl) ?_
   w_left
   refine fK X.ob rfl ?_
   w_left
   refine(ni X (s:=x.2) (by exact ag h2 (nb rfl)) n1).mono λ v bT q=>?_
   obtain rfl:=q.1
   w_left
   exact c9 _ _ rfl q.2.1 (F.above q.2.2.2 hS)
  ·have a1:¬x.1=0:=by exact ch (ag (nb rfl) h1)
   rw[if_neg a1,if_neg a1,if_neg a1]
   refine fE (λ c=>a1 (eC (ez c))) ?_
   w_left
   refine fK X.ob rfl ?_
   w_left
   refine(z6 X h1 h2 h3 h4 n1 n2).mono λ v bT q=>?_
   obtain rfl:=q.1
   w_left
   exact c9 _ _ rfl q.2.1 (F.above q.2.2.2 hS)
 ·intro σ ww0;refine bK ww0 λ o h' uu0 X F=>?_;clear ww0;subst uu0
  w_left
  exact lO rfl X F
noncomputable def ma (xs:List Nat) (f:Nat→Nat):Nat:=((firsts xs).map λ s=>xs.count s*f s).sum
theorem xo {n:Nat} (h:n<1000000):small (n:Nat)=true:=by
 unfold small
 exact aC (by have:(2:Nat)^60=1152921504606846976:=⋯;omega+splitNatSub)
theorem FN {a b:Nat} {σ:St} {Q:AV→St→Prop} (ha:a<1000) (q:Q (nI (a*b)) σ):W (bX .Mult (.int (a:Nat)) (.int (b:Nat))) σ Q:=by
 rw[Ij]
 exact dF (by rw[xo (ag ha ⋯),Bool.true_or]) (by rw[←Int.natCast_mul];exact q)
theorem xr {h:List AO} {n a b:Nat} {near far:List Nat} {x:Nat} {jF kh:Nat→Option Nat} {pA ky ql lC:Nat} {lz mK:Nat→Nat} (X:SC h n near far x) (y:CO h a jF pA ky) (z:CO h b kh ql lC)
  (ny:∀s∈near,s<pA∧s<286∧jF s=some (lz s)) (nz:∀s∈far,s<ql∧s<30∧kh s=some (mK s)) (hl:near.length<1000) (hl2:far.length<1000):
  Sp iM [.ref n,.ref a,.ref b] h λ v h'=>h'=h∧v=nI (x+ma near lz+ma far mK):=by
 w_fin
 w_left
 refine cg X.ob rfl rfl ?_
 w_left
 refine je ?_
 w_left
 refine cg X.ob rfl rfl ?_
 refine jd X.used ⟨rfl,gp (firsts near) nI (λ p σ=>∃o,σ=⟨[some (.ref n),some (.ref a),some (.ref b),some (nI (x+(p.map λ s=>near.count s*lz s).sum)),o],h⟩) ⟨none,rfl⟩ ?_ ?_ ?_⟩
 ·intro p σ ww0;refine gX ww0 λ o uu0=>?_;clear ww0;subst uu0
  exact dt X.used
 ·intro p s q σ hst ww0;refine gX ww0 λ o uu0=>?_;clear ww0;subst uu0
  have hs:s∈near:=(eW near s).mp (by rw[hst];simp)
  refine iH (ny s hs) λ g1 g2 g3=>?_
  have hs':s<(cW 286 near).length:=by rw[cC];exact g2
  w_left
  refine cg X.ob rfl rfl ?_
  w_left
  refine dO X.lit hs' (by rw[cC];decide) ?_
  rw[gZ g2 hs']
  w_left
  refine BL y g1 rfl ?_
  rw[g3]
  refine FN (aj List.count_le_length hl) ?_
  w_left
  refine⟨some (.int s),?_⟩
  rw[bk,fJ,mo,List.sum_singleton,←Nat.add_assoc];rfl
 ·intro σ ww0;refine gX ww0 λ o uu0=>?_;clear ww0;subst uu0
  w_left
  refine je ?_
  w_left
  refine cg X.ob rfl rfl ?_
  refine jd X.fars ⟨rfl,gp (firsts far) nI (λ p σ=>∃o,σ=⟨[some (.ref n),some (.ref a),some (.ref b),some (nI (x+ma near lz+(p.map λ s=>far.count s*mK s).sum)),o],h⟩) ⟨_,rfl⟩ ?_ ?_ ?_⟩
  ·intro p σ ww0;refine gX ww0 λ o uu0=>?_;clear ww0;subst uu0
   exact dt X.fars
  ·intro p s q σ hst ww0;refine gX ww0 λ o uu0=>?_;clear ww0;subst uu0
   have hs:s∈far:=(eW far s).mp (by rw[hst];simp)
   refine iH (nz s hs) λ g1 g2 g3=>?_
   have hs':s<(cW 30 far).length:=by rw[cC];exact g2
   w_left
   refine cg X.ob rfl rfl ?_
   w_left
   refine dO X.dis hs' (by rw[cC];decide) ?_
   rw[gZ g2 hs']
   w_left
   refine BL z g1 rfl ?_
   rw[g3]
   refine FN (aj List.count_le_length hl2) ?_
   w_left
   refine⟨some (.int s),?_⟩
   rw[bk,fJ,mo,List.sum_singleton,←Nat.add_assoc];rfl
  ·intro σ ww0;refine gX ww0 λ o uu0=>?_;clear ww0;subst uu0
   w_left
   exact dF rfl rfl
theorem KI (n:Nat) (i:Int) (l:List (Option AV)) (h:List AO) (Q:AV→St→Prop):W (Ks (.ref n) [.int i]) ⟨l,h⟩ Q=match h[n]? with
   |some (.barr b)=>((0≤i∧i<256)∧b.size≤1000000)∧Q .none ⟨l,h.set n (.barr (b.push i.toNat.toUInt8))⟩
   |_=>False:=by
 rw[dg];unfold W' Ks wY;dsimp only
 generalize h[n]? =o
 rcases o with _|_|_|_|_|_<;>first|rfl|exact IS (and_congr_right λ z=>decide_eq_true_iff)
theorem yw (h:List AO) (c:Nat):Sp oE [.int c] h λ v h'=>v= .none∧h'=h:=by
 w_fin
 w_left
 exact dF rfl rfl
theorem r8 (h:List AO) (v c:Nat) (hv:v<2^c):Sp mf [.int v,.int c] h λ v h'=>v= .none∧h'=h:=by
 w_fin
 w_left
 refine Sp.u2 (yw h c) ?_
 w_left
 rw[aX,pV,Nat.div_eq_of_lt hv]
 w_left
 exact dF rfl rfl
noncomputable def w6 (N q:Nat):List UInt8:=(List.range q).map λ i=>(N / 2^(8*i) % 256).toUInt8
theorem wf (N q:Nat):w6 N (q+1)=w6 N q++[(N / 2^(8*q) % 256).toUInt8]:=by unfold w6;rw[jQ,bk];rfl
theorem uS (N q:Nat):(w6 N q).length=q:=by unfold w6;simp
noncomputable def Ao (n hd hb:Nat):AO:=.inst 354 [(9,.ref (n+1)),(10,.int hd),(11,.int hb)]
structure LW (h:List AO) (n N T:Nat):Prop where
 ob:h[n]? =some (Ao n (N / 2^(8*(T / 8))) (T % 8))
 ba:h[n+1]? =some (.barr (w6 N (T / 8)).toArray)
 lt:N<2^T
theorem LW.mono {h h':List AO} {n N T:Nat} (X:LW h n N T) (f:Fr [] h h'):LW h' n N T:=⟨f.get X.ob,f.get X.ba,X.lt⟩
theorem DP (h:List AO):Sp kW [.ref h.length] (h++[.inst 354 []]) λ v h'=>v= .none∧h'=h++[Ao h.length 0 0,.barr #[]]:=by
 w_fin
 w_left
 refine gY (bf (au h [_]) _) rfl ?_
 rewrite[show((h++[AO.inst 354 []])++[AO.barr #[]]).set h.length (.inst 354 (yB 9 (.ref (h++[AO.inst 354 []]).length) []))=h++[.inst 354 [(9,.ref (h.length+1))],.barr #[]] by rw[c5,fw,ah];rfl]
 w_left
 refine gY (au h [_,_]) rfl ?_
 rw[fw]
 w_left
 refine gY (au h [_,_]) rfl ?_
 rw[fw]
 w_left
 exact dF rfl rfl
theorem IJ (h:List AO):LW (h++[Ao h.length 0 0,.barr #[]]) h.length 0 0:=⟨by simp only[WC],by simp only[WC];rfl,by decide⟩
theorem EH (N q:Nat):N / 2^(8*q) / 2^8=N / 2^(8*(q+1)):=by rw[m5,←gh,Nat.mul_add]
theorem FA {N T v:Nat} (hN:N<2^T):(N / 2^(8*(T / 8))|||v*2^(T % 8))=(N+v*2^T) / 2^(8*(T / 8)):=by
 have e:T=8*(T / 8)+T % 8:=(Nat.div_add_mod T 8).symm
 have h1:N / 2^(8*(T / 8))<2^(T % 8):=by
  rw[n5 (cR _),←gh,k6,←e];exact hN
 have h2:v*2^T=(v*2^(T % 8))*2^(8*(T / 8)):=by
  conv=>lhs;rw[e]
  rw[gh,iR,dj (2^(8*(T / 8)))]
 rw[h2,Nat.add_mul_div_right _ _ (cR _),Nat.or_comm,dj v,←Nat.two_pow_add_eq_or_of_lt h1]
 exact k6 _ _
theorem Gp {N T v:Nat}:w6 (N+v*2^T) (T / 8)=w6 N (T / 8):=by
 unfold w6
 refine bJ λ i hi=>?_
 have hi:=fA.mp hi
 congr 1
 have e:T=8*i+8+(T-(8*i+8)):=by exact jm (f!"1c8a*8.+b+>1cb8a*8.++<3" (sA _ _))<|f!"1 8b*8.+c+a>1c8b*8.++a<3" (V (ai (f!"1 8a*8.+c>1b8:c<8a1.+b<3" hi (be _ 8))))
 have h2:v*2^T=(v*2^(T-(8*i+8))*256)*2^(8*i):=by
  conv=>lhs;rw[e]
  rw[gh,gh]
  rw[show(2:Nat)^8=256 from rfl]
  simp only[dj,Nat.mul_left_comm,iR]
 rw[h2,Nat.add_mul_div_right _ _ (cR _),Nat.add_mul_mod_self_right]
noncomputable def L6 (n v c N' T:Nat) (h:List AO) (k:Nat) (σ:St):Prop:=∃q h'',σ=⟨[some (.ref n),some (.int v),some (.int c)],h''⟩∧q+k=(T+c) / 8∧h''[n]? =some (.inst 354 [(9,.ref (n+1)),(10,.int (N' / 2^(8*q):Nat)),(11,.int ((T+c:Nat)-8*q:Int))])∧
   h''[n+1]? =some (.barr (w6 N' q).toArray)∧h''.length=h.length∧Fr [n,n+1] h h''
theorem xu {h:List AO} {n N T v c:Nat} (X:LW h n N T) (hv:v<2^c) (hc:c≤60) (hT:T≤10000):
  Sp fW [.ref n,.int v,.int c] h λ r h'=>r= .none∧LW h' n (N+v*2^T) (T+c)∧h'.length=h.length∧Fr [n,n+1] h h':=by
 w_fin
 w_left
 refine Sp.u2 (r8 h v c hv) ?_
 have hob:=X.ob
 unfold Ao at hob
 w_left
 refine cg hob rfl rfl ?_
 w_left
 refine cg hob rfl rfl ?_
 w_left
 refine CX rfl (by exact f!"1a1000000.>1a1.+8.<1" (jv _ (nb rfl:1≤8))) (ag hv (Nat.pow_le_pow_right ⋯ (by exact af hc (nb rfl)))) ?_
 w_left
 rw[Dk,FA X.lt]
 refine gY hob rfl ?_
 have w0:=cx hob (.inst 354 [(9,.ref (n+1)),(10,.int ((N+v*2^T) / 2^(8*(T / 8)):Nat)),(11,.int (T % 8:Nat))])
 w_left
 refine cg w0 rfl rfl ?_
 w_left
 refine gY w0 rfl ?_
 have hsm:w6 (N+v*2^T) (T / 8)=w6 N (T / 8):=Gp
 have hlt:N+v*2^T<2^(T+c):=by
  have h1:=X.lt
  have h2:(v+1)*2^T≤2^c*2^T:=Nat.mul_le_mul_right _ hv
  rw[gh,dj (2^T)]
  rw[jp] at h2
  exact f!"1ac+1.+d>1c1b*+d<1a1.+b<4" h1 h2
 have hba:=X.ba
 rw[←hsm] at hba
 generalize N+v*2^T=N' at*
 have nn:n∈[n,n+1]:=bA ..
 clear hv X hsm
 w_left
 refine sM (n:=1000) (L6 n v c N' T h) ((T+c) / 8-T / 8) (by exact f!"8b1.+1000.>8be+c<1d1.+e8:8.+<1c8:da+<1a60.<5" hc (be _ 8) (dA _ (nb rfl:1≤8)) (V (ai (f!"8dc>1d8:a<1ab+1.+c8:8.+<4" (dA _ (nb rfl:1≤8)) (be _ 8))))) ⟨T / 8,_,rfl,by exact jm (f!"1bc+a>1cb+a<3" (V (ai (f!"8dc>1d8:a<1ab+1.+c8:8.+<4" (dA _ (nb rfl:1≤8)) (be _ 8)))))<|f!"1cab+>1cba+<3" (sA _ _),?_,aU (aU hba (cO n).symm _) (cO n).symm _,by rw[bt,bt],((Fr.refl _ _).set (.inl nn) _).set (.inl nn) _⟩ ?_
 ·refine(cx w0 _).trans ?_
  rw[←show((T % 8:Nat):Int)+(c:Int)=((T+c:Nat):Int)-8*((T / 8:Nat):Int) by omega];rfl
 ·intro k σ ww0;refine Ew ww0 λ q h'' uu0 e1 g0 g1 gl F=>?_;clear ww0;subst uu0
  w_left
  refine cg g0 rfl rfl ?_
  w_left
  by_cases hk:(8:Int)≤(T+c:Nat)-8*(q:Int)
  ·refine BJ (aC hk) ⟨k-1,by omega,?_⟩
   have b2:(w6 N' q).toArray.size≤1000000:=by rw[bn,uS];exact f!"8c1000000.>1e8:ba+<8cd+e<1b10000.<1a60.<5" hc hT (V e1) (be _ 8)
   have b4:(w6 N' q).toArray.push ((N' / 2^(8*q) % 256:Nat):Int).toNat.toUInt8=(w6 N' (q+1)).toArray:=by rw[wf,aX];simp
   have w1:=aU g0 (cO n) (.barr (w6 N' (q+1)).toArray)
   w_left
   refine cg g0 rfl rfl ?_
   w_left
   refine Ll (by unfold m8;dsimp only;rw[g1]) ?_
   w_left
   refine cg g0 rfl rfl ?_
   w_left
   refine⟨by unfold m8;dsimp only;rw[g1],?_⟩
   rw[KI,g1,HI]
   refine⟨⟨by omega,b2⟩,?_⟩
   rw[b4]
   w_left
   refine cg w1 rfl rfl ?_
   w_left
   rw[show Int.toNat 8=8 from rfl,pV,EH]
   refine gY w1 rfl ?_
   have w2:=cx w1 (.inst 354 [(9,.ref (n+1)),(10,.int (N' / 2^(8*(q+1)):Nat)),(11,.int ((T+c:Nat)-8*q:Int))])
   w_left
   refine cg w2 rfl rfl ?_
   w_left
   refine gY w2 rfl ?_
   w_left
   refine⟨q+1,_,rfl,by omega,?_,aU (aU (cx g1 _) (cO n).symm _) (cO n).symm _,by simp only[bt,gl],((F.set (.inl (.tail _ (.head _))) _).set (.inl nn) _).set (.inl nn) _⟩
   refine(cx w2 _).trans ?_
   rw[←show((T+c:Nat):Int)-8*(q:Int)-8=((T+c:Nat):Int)-8*((q+1:Nat):Int) by omega];rfl
  ·refine Hr (λ z=>hk (ay z)) ?_
   have eq:q=(T+c) / 8:=by omega
   subst eq
   refine⟨rfl,⟨?_,g1,hlt⟩,gl,F⟩
   rw[g0]
   unfold Ao
   rw[show((T+c:Nat):Int)-8*(((T+c) / 8:Nat):Int)=(((T+c) % 8:Nat):Int) by omega]
noncomputable def sd (v:Nat):Nat→Nat
 |0=>0
 |p+1=>sd v p*2+v / 2^p % 2
theorem uD (v:Nat):∀p,sd v p<2^p
 |0=>by simp[sd]
 |p+1=>by
  have:=uD v p
  unfold sd
  rw[gc]
  exact f!"1a2:c+1.+b2:>1c1.+2.<2a1.+b<3" this (jv _ (nb rfl:1≤2))
theorem IC (a b:Nat) (hb:b<2):(a*2|||b)=a*2+b:=by
 have:=Nat.two_pow_add_eq_or_of_lt (i:=1) (b:=b) (by simpa using hb) a
 rw[Nat.pow_one] at this
 rw[dj]
 exact this.symm
theorem DR {h:List AO} {n N T v c:Nat} (X:LW h n N T) (hv:v<2^c) (hc:c≤60) (hT:T≤10000):
  Sp kY [.ref n,.int v,.int c] h λ r h'=>r= .none∧LW h' n (N+sd v c*2^T) (T+c)∧h'.length=h.length∧Fr [n,n+1] h h':=by
 w_fin
 w_left
 refine Sp.u2 (r8 h v c hv) ?_
 w_left
 refine je ?_
 w_left
 refine oz c _ _ (by exact aj hc (nb rfl)) ⟨rfl,?_⟩
 refine gp (List.range c) (λ(i:Nat)=>AV.int (i:Nat)) (λ p σ=>∃o,σ=⟨[some (.ref n),some (.int v),some (.int c),some (.int (sd v p.length:Nat)),o],h⟩) ⟨none,rfl⟩ ?_ ?_ ?_
 ·intro p σ ww0;refine gX ww0 λ o uu0=>?_;clear ww0;subst uu0
  exact jO c h
 ·intro p x q σ hst ww0;refine gX ww0 λ o uu0=>?_;clear ww0;subst uu0
  refine dL (iV hst) λ uu0 hxc=>?_;subst uu0
  rw[ah,b9]
  have hr:=uD v p.length
  have h60:(2:Nat)^p.length≤2^60:=Nat.pow_le_pow_right ⋯ (by exact bF (ag hxc hc))
  w_left
  refine CX (k:=1) rfl ⋯ (by omega) ?_
  w_left
  rw[aX,pV,Dm,Dk,show(sd v p.length*2^1|||v / 2^p.length % 2)=sd v (p.length+1) from IC _ _ (jv _ ⋯)]
  exact si _ rfl
 ·intro σ ww0;refine gX ww0 λ o uu0=>?_;clear ww0;subst uu0
  have hob:=X.ob
  unfold Ao at hob
  w_left
  refine fK hob rfl ?_
  w_left
  rw[bE]
  refine(xu X (uD v c) hc hT).mono λ r h'' q=>?_
  obtain rfl:=q.1
  w_left
  exact dF rfl q.2
theorem IY {l:List (Option AV)} {h:List AO} {n k:Nat} {b:Array UInt8} {Q:AV→St→Prop} (e:h[n]? =some (.barr b)) (hk:b.size=k) (hl:k≤1000000) (q:Q (.int k) ⟨l,h⟩):W (gI [.ref n]) ⟨l,h⟩ Q:=by subst hk;rw[KD,e];exact dF hl q
theorem DO {h:List AO} {n N T:Nat} (X:LW h n N T) (hT:T≤10000):Sp kU [.ref n] h λ r h'=>r=nI T∧h'=h:=by
 have hob:=X.ob
 unfold Ao at hob
 have b2:(w6 N (T / 8)).toArray.size=T / 8:=by rw[bn,uS]
 w_fin
 w_left
 refine cg hob rfl rfl ?_
 w_left
 refine IY X.ba b2 (by exact f!"8b1000000.>1b8:a<1a10000.<2" hT (be _ 8)) ?_
 w_left
 refine cg hob rfl rfl ?_
 w_left
 exact dF (congrArg AV.int (by omega)) rfl
noncomputable def yG (N T:Nat):List UInt8:=w6 N ((T+7) / 8)
theorem AX {n:Nat} {b:Array UInt8} {h:List AO} (e:h[n]? =some (.barr b)) (hs:b.size≤1000000) (l:List (Option AV)) (Q:AV→St→Prop) (q:Q (.bytes b) ⟨l,h⟩):W (nB [.ref n]) ⟨l,h⟩ Q:=by
 refine me (a:=.bytes b) (bc:=⟨l,h⟩) ?_ q
 unfold nB wY iJ;dsimp only;rw[e];dsimp only
 rw[if_pos (by simpa using hs)]
theorem Jd {n:Nat} {h:List AO} {l:List (Option AV)} (e:h[n]? =some (.list [])):nB [.ref n] ⟨l,h⟩=some (.bytes #[],⟨l,h⟩):=by
 unfold nB wY getL;dsimp only;rw[e];rfl
theorem Jc {n z:Nat} {h:List AO} {l:List (Option AV)} (hz:z<256) (e:h[n]? =some (.list [.int z])):nB [.ref n] ⟨l,h⟩=some (.bytes #[z.toUInt8],⟨l,h⟩):=by
 unfold nB wY getL iJ;dsimp only;rw[e]
 have hb:Je ((z:Nat):Int)=true:=by unfold Je;exact aC (by omega)
 simp only[Option.bind,kJ,Option.map,List.all_cons,List.all_nil,hb,Bool.and_true,bW,List.length_nil]
 rw[if_pos ⟨trivial,rfl⟩];rfl
theorem FT {x y:Array UInt8} {σ:St} {Q:AV→St→Prop} (hl:x.size+y.size≤1000000) (q:Q (.bytes (x++y)) σ):W (ER (.bytes x) (.bytes y)) σ Q:=by rw[JC];exact dF hl q
theorem DQ {h:List AO} {n N T:Nat} (X:LW h n N T) (hT:T≤10000):Sp kX [.ref n] h λ r h'=>r= .bytes (yG N T).toArray∧Fr [] h h':=by
 have hob:=X.ob
 unfold Ao at hob
 have b2:(w6 N (T / 8)).toArray.size=T / 8:=by rw[bn,uS]
 have b3:(w6 N (T / 8)).toArray.size≤1000000:=by exact f!"8b1000000.>1c8:a<8bc<1a10000.<3" hT (V b2) (be _ 8)
 unfold yG
 w_fin
 w_left
 refine cg hob rfl rfl ?_
 w_left
 by_cases q:T % 8=0
 ·refine fE (λ c=>absurd (ay c) (by omega)) ?_
  w_left
  refine cg (bf hob _) rfl rfl ?_
  w_left
  refine AX (bf X.ba _) b3 _ _ ?_
  w_left
  refine kL (Jd (au h [_])) ?_
  refine FT (by rw[b2];show T / 8+0≤_;exact f!"8b0.+1000000.>1b8:a<1a10000.<2" hT (be _ 8)) ?_
  w_left
  refine⟨?_,(Fr.refl _ _).app _⟩
  rw[show(T+7) / 8=T / 8 by with_unfolding_all exact jm (f!"8cb>1c8:d7.+<1d8b*a+<1a0.<4" (V q) (V (Nat.div_add_mod _ 8).symm) (be _ 8))<|f!"8ba>1c8.+a8:8.+<1b8:c<3" (be _ 8) (dA _ (nb rfl:1≤8))]
  exact congrArg AV.bytes Array.append_empty
 ·refine iP (aC (by omega)) ?_
  w_left
  refine cg hob rfl rfl ?_
  w_left
  refine cg (bf hob _) rfl rfl ?_
  w_left
  refine AX (bf X.ba _) b3 _ _ ?_
  w_left
  have hlt:N / 2^(8*(T / 8))<256:=by
   rw[n5 (cR _)]
   refine ag X.lt ?_
   rw[show(256:Nat)=2^8 from rfl,←gh]
   exact Nat.pow_le_pow_right ⋯ (by exact f!"1b8.8a*+>1b1.+a8:8.+<2" (dA _ (nb rfl:1≤8)))
  refine kL (Jc hlt (au h [_])) ?_
  refine FT (by rw[b2];show T / 8+1≤_;exact f!"8b1.+1000000.>1b8:a<1a10000.<2" hT (be _ 8)) ?_
  w_left
  refine⟨?_,(Fr.refl _ _).app _⟩
  rw[show(T+7) / 8=T / 8+1 by omega,wf,Nat.mod_eq_of_lt hlt]
  simp
noncomputable abbrev gO (n:Nat) (f:Nat→Nat):List Nat:=(List.range n).map f
theorem vz {n:Nat} {f:Nat→Nat} {i v:Nat}:((gO n f).map nI).set i (nI v)=(gO n λ j=>if j=i then v else f j).map nI:=by
 rw[kF]
 congr 1
 apply hU
 ·simp
 ·intro j h1 h2
  rw[List.getElem_set]
  simp only[k8,mr]
  by_cases q:i=j
  ·subst q;simp
  ·rw[if_neg q,if_neg (λ z=>q z.symm)]
theorem kC {n:Nat} {f g:Nat→Nat} (e:∀j<n,f j=g j):gO n f=gO n g:=bJ λ j hj=>e j (fA.mp hj)
theorem qt (xs:List Nat) (x:Nat):ic (xs++[x])=max (ic xs) x:=by unfold ic;rw[fC];rfl
theorem uE (xs:List Nat):∀x∈xs,x≤ic xs:=by
 refine j4 (P:=λ xs=>∀x∈xs,x≤ic xs) (λ x h=>by cases h) (λ xs y ih x h=>?_) xs
 rw[qt]
 rcases gF.mp h with h|h
 ·have:=ih x h;omega
 ·rw[bu] at h;omega
theorem yI {xs:List Nat} {M:Nat}:(∀x∈xs,x≤M)→ic xs≤M:=by
 refine j4 (P:=λ xs=>(∀x∈xs,x≤M)→ic xs≤M) (λ z=>et _) (λ xs y ih h=>?_) xs
 rw[qt]
 have h1:=ih λ x hx=>h x (List.mem_append_left _ hx)
 have h2:=h y (by simp)
 omega
theorem Fl {h:List AO} {m M:Nat} {lens:List Nat} (e:h[m]? =some (.list (lens.map nI))) (hM:∀x∈lens,x≤M) (hM2:M≤1000):
  Sp jH [.ref m,.int M] h λ r h'=>r= .ref (h.length+1)∧h'[h.length+1]? =some (.list ((cW (M+1) lens).map nI))∧h'.length=h.length+2∧Fr [] h h':=by
 have lx:(h++[AO.list [AV.int 0]]).length=h.length+1:=by rw[ah];rfl
 w_fin
 w_left
 rw[show(M:Int)+1=((M+1:Nat):Int) from rfl]
 refine pR (au h [_]) (by omega) (by rw[aX,lN,ac,cC];exact fy (aj hM2 (nb rfl))) ?_
 rw[aX,lN]
 have F0:Fr [] h (h++[AO.list [AV.int 0]]++[AO.list (List.map nI (cW (M+1) []))]):=((Fr.refl _ _).app _).app _
 have g0:=au (h++[AO.list [AV.int 0]]) [AO.list (List.map nI (cW (M+1) []))]
 have l0:(h++[AO.list [AV.int 0]]++[AO.list (List.map nI (cW (M+1) []))]).length=h.length+2:=by rw[ah,lx];rfl
 rw[lx] at g0⊢
 generalize (h++[AO.list [AV.int 0]]++[AO.list (List.map nI (cW (M+1) []))])=nX at*
 w_left
 refine je ?_
 w_left
 refine jd (F0.get e) ⟨rfl,gp lens nI (λ p σ=>∃o h',σ=⟨[some (.ref m),some (.int M),some (.ref (h.length+1)),o],h'⟩∧h'[h.length+1]? =some (.list ((cW (M+1) p).map nI))∧h'.length=h.length+2∧Fr [] h h') ⟨none,_,rfl,g0,l0,F0⟩ ?_ ?_ ?_⟩
 ·intro p σ ww0;refine ft ww0 λ o h' uu0 g l F=>?_;clear ww0;subst uu0
  exact dt (F.get e)
 ·intro p x q σ hst ww0;refine ft ww0 λ o h' uu0 g l F=>?_;clear ww0;subst uu0
  have hx:x≤M:=hM x (by rw[hst];simp)
  have hx':x<M+1:=Nat.lt_succ_of_le hx
  have hx'':x<(cW (M+1) p).length:=by rw[cC];exact hx'
  clear hst
  w_left
  refine fE (by rw[aC (eL.mpr hx)];decide) ?_
  w_left
  refine dO g hx'' (by rw[cC];exact f!"1a1.+1.+1000000.>1a1000.<1" hM2) ?_
  rw[gZ hx' hx'']
  w_left
  refine kK g ⟨bh _,by rw[ac];exact bd.mpr hx'',by omega⟩ ?_
  w_left
  exact CD _ _ rfl (by rw[cx g,←ty hx',←kF];rfl) (by rw[bt];exact l) (F.set (.inr (jo _)) _)
 ·intro σ ww0;refine ft ww0 λ o h' uu0 g l F=>?_;clear ww0;subst uu0
  w_left
  exact lv rfl g l F
theorem Bu {h:List AO} {m:Nat} {lens:List Nat} (e:h[m]? =some (.list (lens.map nI))):Sp kp [.ref m] h λ r h'=>r=nI (ic lens)∧h'=h:=by
 w_fin
 w_left
 refine je ?_
 w_left
 refine jd e ⟨rfl,gp lens nI (λ p σ=>∃o,σ=⟨[some (.ref m),some (nI (ic p)),o],h⟩) ⟨none,rfl⟩ ?_ ?_ ?_⟩
 ·intro p σ ww0;refine gX ww0 λ o uu0=>?_;clear ww0;subst uu0
  exact dt e
 ·intro p x q σ hst ww0;refine gX ww0 λ o uu0=>?_;clear ww0;subst uu0
  rw[qt]
  w_left
  by_cases c:ic p<x
  ·refine iP (aC (bd.mpr c)) ?_
   w_left
   exact si (some (.int x)) (by rw[Nat.max_eq_right (bF c)];rfl)
  ·refine fE (λ z=>c (bd.mp (ay z))) ?_
   w_left
   exact si (some (.int x)) (by rw[Nat.max_eq_left (eZ c)];rfl)
 ·intro σ ww0;refine gX ww0 λ o uu0=>?_;clear ww0;subst uu0
  w_left
  exact dF rfl rfl
noncomputable def el (c:Nat→Nat):Nat→Nat
 |0=>0
 |l+1=>(el c l+if 1≤l then c l else 0)*2
theorem rD (c:Nat→Nat) (l:Nat):el c (l+1)=(el c l+if 1≤l then c l else 0)*2:=rfl
theorem AK {c:Nat→Nat} (hc:∀l,c l≤1000):∀l,el c l+2000≤2000*2^l
 |0=>by simp[el]
 |l+1=>by
  have:=AK hc l
  have h2:=hc l
  unfold el
  rw[gc]
  split<;>omega
theorem I5 {c:Nat→Nat} {n k:Nat}:(gO n λ j=>if j=k+1 then el c (k+1) else if j≤k then el c j else 0)=gO n λ j=>if j≤k+1 then el c j else 0:=by
 refine kC λ j hj=>?_
 by_cases q2:j=k+1
 ·subst q2;rw[if_pos rfl,if_pos (bz _)]
 ·rw[if_neg q2]
  by_cases q3:j≤k
  ·rw[if_pos q3,if_pos (Nat.le_succ_of_le q3)]
  ·rw[if_neg q3,if_neg (by omega)]
theorem wL {h:List AO} {m n:Nat} {c:Nat→Nat} (e:h[m]? =some (.list ((gO n c).map nI))) (hc:∀l,c l≤1000) (hn:n≤20) (hn0:1≤n):
  Sp nF [.ref m] h λ r h'=>r= .ref (h.length+1)∧h'[h.length+1]? =some (.list ((gO n (el c)).map nI))∧h'.length=h.length+2∧Fr [] h h':=by
 have ln:((gO n c).map nI).length=n:=by rw[ac,ac,bE]
 have lx:(h++[AO.list [AV.int 0]]).length=h.length+1:=by rw[ah];rfl
 w_fin
 w_left
 refine gK (bf e _) (by rw[ln];exact af hn (nb rfl)) ?_
 rw[ln]
 refine pR (au h [_]) (by omega) (by rw[aX,lN,ac,cC];exact af hn (nb rfl)) ?_
 rw[aX,lN]
 have F0:Fr [] h (h++[AO.list [AV.int 0]]++[AO.list (List.map nI (cW n []))]):=((Fr.refl _ _).app _).app _
 have g0:=au (h++[AO.list [AV.int 0]]) [AO.list (List.map nI (cW n []))]
 have l0:(h++[AO.list [AV.int 0]]++[AO.list (List.map nI (cW n []))]).length=h.length+2:=by rw[ah,lx];rfl
 rw[lx] at g0⊢
 generalize (h++[AO.list [AV.int 0]]++[AO.list (List.map nI (cW n []))])=nX at*
 w_left
 refine je ?_
 w_left
 refine gK (F0.get e) (by rw[ln];exact af hn (nb rfl)) ?_
 rw[ln]
 w_left
 refine GB 1 n _ _ ⋯ (by exact aj hn (nb rfl)) ⟨rfl,?_⟩
 refine gp (List.range (n-1)) (λ(i:Nat)=>AV.int (1+i:Nat)) (λ p σ=>∃o o2 h',σ=⟨[some (.ref m),some (.ref (h.length+1)),some (.int (el c p.length)),o,o2],h'⟩∧
  h'[h.length+1]? =some (.list ((gO n λ i=>if i≤p.length then el c i else 0).map nI))∧h'.length=h.length+2∧Fr [] h h') ⟨none,none,_,rfl,?_,l0,F0⟩ ?_ ?_ ?_
 ·rw[g0]
  unfold cW
  refine congrArg (λ z=>some (AO.list (List.map nI z))) (bJ λ i hi=>?_)
  show(List.count i [])=if i≤0 then el c i else 0
  rw[List.count_nil]
  split
  ·rename_i q;rw[Nat.le_zero.mp q];rfl
  ·rfl
 ·intro p σ ww0;refine nV ww0 λ o o2 h' uu0 g l F=>?_;clear ww0;subst uu0
  exact xK 1 (n-1) h'
 ·intro p x q σ hst ww0;refine nV ww0 λ o o2 h' uu0 g l F=>?_;clear ww0;subst uu0
  refine dL (iV hst) λ uu0 hxc=>?_;subst uu0
  have hfc:=AK hc p.length
  have hp:(2:Nat)^p.length≤2^20:=Nat.pow_le_pow_right ⋯ (by exact f!"1b20.>1c1.+a<1b1.+c<1a20.<3" hn hxc (V (ai hn0)))
  have hcc:=hc p.length
  have lr:((gO n λ i=>if i≤p.length then el c i else 0).map nI).length=n:=by rw[ac,ac,bE]
  have hz:(0:Int)≤((1+p.length:Nat):Int)∧((1+p.length:Nat):Int)<((((gO n λ i=>if i≤p.length then el c i else 0).map nI).length:Nat):Int)∧((1+p.length:Nat):Int)<2^62:=by rw[lr];omega
  have fin:∀(o o2:Option AV),∃o' o2' aN,(⟨[some (.ref m),some (.ref (h.length+1)),some (.int (el c (p.length+1))),o,o2],h'.set (h.length+1) (.list (((gO n λ i=>if i≤p.length then el c i else 0).map nI).set ((1+p.length:Nat):Int).toNat (nI (el c (p.length+1)))))⟩:St)=
    ⟨[some (.ref m),some (.ref (h.length+1)),some (.int (el c (p++[p.length]).length)),o',o2'],aN⟩∧aN[h.length+1]? =some (.list ((gO n λ i=>if i≤(p++[p.length]).length then el c i else 0).map nI))∧aN.length=h.length+2∧Fr [] h aN:=λ o o2=>by
   rw[ah,b9]
   exact Fz o o2 _ rfl (by rw[cx g,aX,k6 1,vz,I5]) (by rw[bt];exact l) (F.set (.inr (jo _)) _)
  w_left
  by_cases q1:1≤p.length
  ·refine iP (aC (by omega)) ?_
   have hx:p.length<(gO n c).length:=by unfold gO;rw[ac,bE];exact f!"1a1.+c>1b1.+c<1a1.+b<3" hxc (V (ai hn0))
   have hm:(gO n c).length<1000000:=by unfold gO;rw[ac,bE];exact aj hn (nb rfl)
   w_left
   rw[show((1+p.length:Nat):Int)-1=(p.length:Nat) by omega]
   refine dO (F.get e) hx hm ?_
   rw[show(gO n c)[p.length]=c p.length by unfold gO;rw[k8];exact congrArg c (mr _)]
   w_left
   refine CX (v:=el c p.length+c p.length) (k:=1) rfl ⋯ (by omega) ?_
   rw[show(el c p.length+c p.length)*2^1=el c (p.length+1) by rw[rD,if_pos q1]]
   w_left
   refine kK g hz ?_
   w_left
   exact fin _ _
  ·refine fE (λ z=>q1 (by have:=ay z;omega)) ?_
   w_left
   refine CX (v:=el c p.length) (k:=1) rfl ⋯ (by omega) ?_
   rw[show el c p.length*2^1=el c (p.length+1) by rw[rD,if_neg q1];rfl]
   w_left
   refine kK g hz ?_
   w_left
   exact fin _ _
 ·intro σ ww0;refine nV ww0 λ o o2 h' uu0 g l F=>?_;clear ww0;subst uu0
  w_left
  refine⟨rfl,?_,l,F⟩
  rw[g]
  refine congrArg (λ z=>some (AO.list (List.map nI z))) (kC λ j hj=>?_)
  rw[bE,if_pos (by with_unfolding_all exact f!"1ac>1bc1.+<1a1.+b<3" hj (sA _ _))]
noncomputable def fF (lens:List Nat) (i:Nat):Nat:=if lens.getD i 0=0 then 0 else el (λ l=>lens.count l) (lens.getD i 0)+(lens.take i).count (lens.getD i 0)
theorem BR {p q:List Nat} {x:Nat}:(p++x::q).getD p.length 0=x:=by simp
theorem Bg {p q:List Nat} {x:Nat}:(p++x::q).take p.length=p:=by simp
noncomputable def KJ (h:List AO) (m:Nat) (lens:List Nat) (M a b:Nat) (p:List Nat) (σ:St):Prop:=∃o h',σ=⟨[some (.ref m),some (.ref a),some (.ref b),o],h'⟩∧h'[a]? =some (.list ((gO M λ l=>el (λ l=>lens.count l) l+if l=0 then 0 else p.count l).map nI))∧
  h'[b]? =some (.list ((gO p.length (fF lens)).map nI))∧Fr [] h h'
theorem z4 {h:List AO} {m:Nat} {lens:List Nat} (e:h[m]? =some (.list (lens.map nI))) (hM:∀x∈lens,x≤15) (hl:lens.length≤300):
  Sp qf [.ref m] h λ r h'=>∃k,r= .ref k∧h.length≤k∧h'[k]? =some (.list ((gO lens.length (fF lens)).map nI))∧Fr [] h h':=by
 have hmx:=yI hM
 w_fin
 w_left
 refine Sp.u2 (Bu e) ?_
 w_left
 refine Sp.u13 (Fl e (λ x hx=>uE lens x hx) (by exact af hmx (nb rfl))) λ aN g1 l1 F1=>?_
 w_left
 refine Sp.u13 (wL (c:=λ l=>lens.count l) g1 (λ l=>by have:=@List.count_le_length _ _ l lens;show lens.count l≤1000;exact af this (af hl (nb rfl))) (by exact fy (aj hmx (nb rfl))) (by exact k5 _)) λ bT g2 l2 F2=>?_
 have F03:Fr [] h (bT++[AO.list []]):=(F1.trans F2).app _
 have g3:=bf g2 [AO.list []]
 have g4:=au bT [AO.list []]
 have l4:aN.length+1<bT.length:=by exact f!"1a1.+1.+b>1a2.+b<2" (V l2.symm)
 have l5:h.length≤aN.length+1:=by exact f!"1ab1.+>1a2.+b<2" (V l1.symm)
 clear g1 g2 l2 l1 F1 F2
 w_left
 generalize (bT++[AO.list []])=iQ at*
 generalize aN.length+1=a at*
 have lb:h.length≤bT.length:=by exact bF (aj l5 l4)
 generalize bT.length=b at*
 refine je ?_
 w_left
 refine jd (F03.get e) ⟨rfl,gp lens nI (λ p σ=>KJ h m lens (ic lens+1) a b p σ) ⟨none,_,rfl,?_,g4,F03⟩ ?_ ?_ ?_⟩
 ·rw[g3]
  congr 3
  refine kC λ j hj=>?_
  rw[List.count_nil];split<;>rfl
 ·intro p σ ww0;refine ft ww0 λ o h' uu0 ga gb F=>?_;clear ww0;subst uu0
  exact dt (F.get e)
 ·intro p x q σ hst ww0;refine ft ww0 λ o h' uu0 ga gb F=>?_;clear ww0;subst uu0
  have hx:x<ic lens+1:=by have:=uE lens x (by rw[hst];simp);exact Nat.lt_succ_of_le this
  have hca:fF lens p.length=if x=0 then 0 else el (λ l=>lens.count l) x+p.count x:=by
   unfold fF
   have:lens.getD p.length 0=x:=by rw[hst];exact BR
   rw[this]
   have:lens.take p.length=p:=by rw[hst];exact Bg
   rw[this]
  have z1:((gO p.length (fF lens)).map nI).length≤1000000:=by rw[hst] at hl;simp at hl;rw[ac,ac,bE];exact f!"1a1000000.>1ab1.++300.<2" hl
  have hrr:gO (p++[x]).length (fF lens)=gO p.length (fF lens)++[fF lens p.length]:=by unfold gO;rw[ah,b9,jQ,bk];rfl
  have ab:a≠b:=dE l4
  have hM6:ic lens+1<1000000:=by exact f!"1a1.+1.+1000000.>1a15.<1" hmx
  generalize ic lens+1=M at*
  clear hst hM
  unfold KJ
  rw[hrr,hca]
  w_left
  by_cases q0:x=0
  ·subst q0
   w_left
   refine kd rfl gb z1 ?_
   w_left
   refine⟨_,_,rfl,?_,by rw[cx gb,if_pos rfl,←hW];rfl,F.set (.inr lb) _⟩
   rw[aU ga ab.symm]
   congr 3
   refine kC λ j hj=>?_
   by_cases qj:j=0
   ·rw[if_pos qj,if_pos qj]
   ·rw[if_neg qj,if_neg qj,m7,jV (by omega)];simp
  ·refine fE (λ c=>q0 (eC (ez c))) ?_
   have hx':x<(gO M λ l=>el (λ l=>lens.count l) l+if l=0 then 0 else p.count l).length:=by unfold gO;rw[ac,bE];exact hx
   have hm':(gO M λ l=>el (λ l=>lens.count l) l+if l=0 then 0 else p.count l).length<1000000:=by unfold gO;rw[ac,bE];exact f!"1a1.+1000000.>1a1.+1000000.<1" hM6
   have gx:(gO M λ l=>el (λ l=>lens.count l) l+if l=0 then 0 else p.count l)[x]=el (λ l=>lens.count l) x+p.count x:=by
    unfold gO;rw[k8,mr,if_neg q0]
   w_left
   refine kd (x:=nI (el (λ l=>lens.count l) x+p.count x)) (xQ ?_) gb z1 ?_
   ·w_left
    refine dO ga hx' hm' ?_
    w_left
    exact dF (by rw[gx]) rfl
   have g5:=aU ga ab.symm (.list ((gO p.length (fF lens)).map nI++[nI (el (λ l=>lens.count l) x+p.count x)]))
   w_left
   refine dO g5 hx' hm' ?_
   rw[gx]
   w_left
   refine kK g5 ⟨bh _,by rw[ac];exact bd.mpr hx',by omega⟩ ?_
   w_left
   refine⟨_,_,rfl,?_,?_,(F.set (.inr lb) _).set (.inr l5) _⟩
   ·rw[cx g5,show(AV.int (((el (λ l=>lens.count l) x+p.count x:Nat):Int)+1))=nI (el (λ l=>lens.count l) x+p.count x+1) from rfl,aX,vz]
    congr 3
    refine kC λ j hj=>?_
    by_cases qj:j=x
    ·subst qj
     rw[if_pos rfl,if_neg q0,m7]
     simp
     exact Nat.add_assoc _ _ _
    ·rw[if_neg qj]
     by_cases qz:j=0
     ·rw[if_pos qz,if_pos qz]
     ·rw[if_neg qz,if_neg qz,m7,jV (λ z=>qj z.symm)];simp
   ·rw[aU (cx gb _) ab,if_neg q0,hW]
 ·intro σ ww0;refine ft ww0 λ o h' uu0 ga gb F=>?_;clear ww0;subst uu0
  w_left
  exact th _ rfl lb gb F
structure PW (h:List AO) (n:Nat) (lens:List Nat):Prop where
 ob:∃a b,h[n]? =some (.inst 417 [(0,.ref a),(12,.ref b)])∧h[a]? =some (.list (lens.map nI))∧h[b]? =some (.list ((gO lens.length (fF lens)).map nI))
theorem PW.mono {h h':List AO} {n:Nat} {lens:List Nat} (X:PW h n lens) (f:Fr [] h h'):PW h' n lens:=let⟨a,b,x,y,z⟩:=X.ob;⟨a,b,f.get x,f.get y,f.get z⟩
theorem xt {h:List AO} {m:Nat} {lens:List Nat} (e:h[m]? =some (.list (lens.map nI))) (hM:∀x∈lens,x≤15) (hl:lens.length≤300):
  Sp gS [.ref h.length,.ref m] (h++[.inst 417 []]) λ r h'=>r= .none∧PW h' h.length lens∧Fr [] h h':=by
 have ne:h.length≠m:=ch (kG e)
 w_fin
 w_left
 refine yR (bf e _) (by rw[ac];exact af hl (nb rfl)) ?_
 w_left
 refine gY (bf (au h [_]) _) rfl ?_
 have g0:=cx (bf (au h [AO.inst 417 []]) [AO.list (lens.map nI)]) (.inst 417 [(0,.ref (h++[AO.inst 417 []]).length)])
 have g1:=aU (au (h++[AO.inst 417 []]) [AO.list (lens.map nI)]) (show h.length≠(h++[AO.inst 417 []]).length by rw[ah];exact(cO _).symm) (.inst 417 [(0,.ref (h++[AO.inst 417 []]).length)])
 have e2:=aU (bf (bf e [AO.inst 417 []]) [AO.list (lens.map nI)]) ne (.inst 417 [(0,.ref (h++[AO.inst 417 []]).length)])
 have F0:Fr [] h ((h++[AO.inst 417 []]++[AO.list (lens.map nI)]).set h.length (.inst 417 [(0,.ref (h++[AO.inst 417 []]).length)])):=(((Fr.refl [] h).app _).app _).set (.inr (bz _)) _
 have l0:((h++[AO.inst 417 []]++[AO.list (lens.map nI)]).set h.length (.inst 417 [(0,.ref (h++[AO.inst 417 []]).length)])).length=h.length+2:=by rw[bt,ah,ah];rfl
 have l1:(h++[AO.inst 417 []]).length=h.length+1:=by rw[ah];rfl
 w_left
 refine(z4 e2 hM hl).mono λ r h' q=>?_
 refine ry q λ k uu0 hk g F=>?_;clear q;subst uu0
 w_left
 refine gY (F.get g0) rfl ?_
 w_left
 exact lO rfl ⟨_,_,cx (F.get g0) _,aU (F.get g1) (by exact λ z=>f!"z1ba<1a1.+b<2" (V l1.symm) (V z.symm)) _,aU g (by exact λ z=>f!"z1ca<1bc<1a2.+b<3" (V l0.symm) hk (V z.symm)) _⟩ ((F0.trans F).set (.inr (bz _)) _)
theorem DN {h:List AO} {n s:Nat} {lens:List Nat} (X:PW h n lens) (hs:s<lens.length) (hl:lens.length≤300) (hz:lens[s]≠0):Sp jk [.ref n,.int s] h λ r h'=>r=nI lens[s]∧h'=h:=by
 refine bK X.ob λ a b x y z=>?_
 have hb:lens.length<1000000:=by exact aj hl (nb rfl)
 w_fin
 w_left
 refine iP rfl ?_
 w_left
 refine cg x rfl rfl ?_
 w_left
 refine gK y (by rw[ac];exact bF hb) ?_
 rw[ac]
 w_left
 refine fE (by rw[aC (bd.mpr hs)];decide) ?_
 w_left
 refine cg x rfl rfl ?_
 w_left
 refine dO y hs hb ?_
 w_left
 refine fE (λ c=>hz (eC (ez c))) ?_
 w_left
 refine cg x rfl rfl ?_
 w_left
 refine dO y hs hb ?_
 w_left
 exact dF rfl rfl
theorem Bp {h:List AO} {n s w N T:Nat} {lens:List Nat} (X:PW h n lens) (Y:LW h w N T) (hs:s<lens.length) (hl:lens.length≤300) (hz:lens[s]≠0) (hz2:lens[s]≤15) (hT:T≤10000) (hc:fF lens s<2^lens[s]):
  Sp dk [.ref n,.ref w,.int s] h λ r h'=>r= .none∧LW h' w (N+sd (fF lens s) lens[s]*2^T) (T+lens[s])∧h'.length=h.length∧Fr [w,w+1] h h':=by
 refine bK X.ob λ a b x y z=>?_
 have hob:=Y.ob
 unfold Ao at hob
 have hb:lens.length<1000000:=by exact aj hl (nb rfl)
 have lr:(gO lens.length (fF lens)).length=lens.length:=by unfold gO;rw[ac,bE]
 w_fin
 w_left
 refine fK x rfl ?_
 w_left
 refine Sp.u2 (DN X hs hl hz) ?_
 w_left
 refine fK hob rfl ?_
 w_left
 refine cg x rfl rfl ?_
 w_left
 refine dO z (by rw[lr];exact hs) (by rw[lr];exact hb) ?_
 rw[show(gO lens.length (fF lens))[s]'(by rw[lr];exact hs)=fF lens s by unfold gO;rw[k8,mr]]
 w_left
 refine cg x rfl rfl ?_
 w_left
 refine dO y hs hb ?_
 w_left
 refine(DR Y hc (by exact af hz2 (nb rfl)) hT).mono λ r h'' q=>?_
 obtain rfl:=q.1
 w_left
 exact dF rfl q.2
theorem PW.keep {h h':List AO} {n w N T:Nat} {lens:List Nat} (X:PW h n lens) (Y:LW h w N T) (f:Fr [w,w+1] h h'):PW h' n lens:=by
 refine bK X.ob λ a b x y z=>?_
 have hob:=Y.ob
 have hba:=Y.ba
 unfold Ao at hob
 have ne:∀i o,h[i]? =some o→(∀fs,o≠.inst 354 fs)→(∀bb,o≠.barr bb)→i∉[w,w+1]:=by
  intro i o e n1 n2 hi
  simp only[bo,jf,or_false] at hi
  rcases hi with rfl|rfl
  ·rw[hob] at e;cases e;exact n1 _ rfl
  ·rw[hba] at e;cases e;exact n2 _ rfl
 exact⟨a,b,f.keep _ _ (ne _ _ x (λ u q=>by cases q) (λ u q=>by cases q)) x,f.keep _ _ (ne _ _ y (λ u q=>by cases q) (λ u q=>by cases q)) y,f.keep _ _ (ne _ _ z (λ u q=>by cases q) (λ u q=>by cases q)) z⟩
noncomputable def EO (b:Bool):Nat:=if b then 1 else 0
noncomputable def val:List Bool→Nat
 | []=>0
 |b::l=>EO b+2*val l
noncomputable def dD (v:Nat):Nat→List Bool
 |0=>[]
 |c+1=>(v % 2==1)::dD (v / 2) c
noncomputable def iI (v:Nat):Nat→List Bool
 |0=>[]
 |p+1=>(v / 2^p % 2==1)::iI v p
theorem i7:∀(c v:Nat),(dD v c).length=c
 |0,_=>rfl
 |c+1,v=>by unfold dD;rw[bW,i7 c]
theorem kM (v:Nat):∀c,(iI v c).length=c
 |0=>rfl
 |c+1=>by unfold iI;rw[bW,kM v c]
theorem Dn (v:Nat):EO (v % 2==1)=v % 2:=by
 unfold EO
 rcases Nat.mod_two_eq_zero_or_one v with h|h<;>rw[h]<;>rfl
theorem qn:∀(c v:Nat),v<2^c→val (dD v c)=v
 |0,v,h=>by have:v=0:=(by simpa using h);subst this;rfl
 |c+1,v,h=>by
  unfold dD val
  rw[Dn,qn c (v / 2) (by rw[gc] at h;with_unfolding_all exact f!"2c1.+b>1c2:a<1a1.+b2:<3" h (be _ 2))]
  exact jm (f!"1b2c*+a>1 2c*b+a<3" (V (Nat.div_add_mod _ 2)))<|f!"1ca2b*+>1c2b*a+<3" (V (Nat.div_add_mod _ 2).symm)
theorem u4 (x:Bool) (l:List Bool):val (x::l)=EO x+2*val l:=rfl
theorem n9:∀(a b:List Bool),val (a++b)=val a+val b*2^a.length
 | [],b=>by simp[val]
 |x::a,b=>by
  rw[List.cons_append,u4,u4,n9 a b,bW,gc,Nat.mul_add]
  rw[show val b*(2^a.length*2)=2*(val b*2^a.length) by rw[dj (2^a.length),←iR,dj (val b),iR]]
  exact(Nat.add_assoc _ _ _).symm
theorem AU (v:Nat):∀c,dD (sd v c) c=iI v c
 |0=>rfl
 |c+1=>by
  unfold dD iI sd
  rw[show(sd v c*2+v / 2^c % 2) % 2=v / 2^c % 2 by omega,show(sd v c*2+v / 2^c % 2) / 2=sd v c by with_unfolding_all exact jm (f!"2ba>1c1.+2.<1b2:a2:c+<3" (be _ 2) (jv _ (nb rfl:1≤2)))<|f!"2ba>1b2:c+1.+a2:2.+<3" (dA _ (nb rfl:1≤2)),AU v c]
noncomputable abbrev Ln (lens:List Nat) (s:Nat):Nat:=lens.getD s 0
noncomputable def gN (lens:List Nat) (s:Nat):List Bool:=iI (fF lens s) (Ln lens s)
theorem im (lens:List Nat) (s:Nat):(gN lens s).length=Ln lens s:=kM _ _
structure GS (lens:List Nat) (s:Nat):Prop where
 pos:Ln lens s≠0
 le:Ln lens s≤15
 lt:fF lens s<2^Ln lens s
theorem GS.idx {lens:List Nat} {s:Nat} (g:GS lens s):s<lens.length:=by
 rcases Nat.lt_or_ge s lens.length with h|h
 ·exact h
 ·exact absurd (by rw[Ln,aM,ca h];rfl) g.pos
theorem GS.get {lens:List Nat} {s:Nat} (g:GS lens s):lens[s]'g.idx=Ln lens s:=by rw[Ln,aM,aq g.idx];rfl
noncomputable def LB (h:List AO) (w:Nat) (bs:List Bool):Prop:=LW h w (val bs) bs.length
theorem Cg {h:List AO} {n w s:Nat} {lens:List Nat} {bs:List Bool} (X:PW h n lens) (Y:LB h w bs) (g:GS lens s) (hl:lens.length≤300) (hT:bs.length≤10000):
  Sp dk [.ref n,.ref w,.int s] h λ r h'=>r= .none∧LB h' w (bs++gN lens s)∧h'.length=h.length∧Fr [w,w+1] h h':=by
 have e:=g.get
 refine(Bp X Y g.idx hl (by rw[e];exact g.pos) (by rw[e];exact g.le) hT (by rw[e];exact g.lt)).mono λ r h' q=>?_
 revert q;refine λ yy=>iH yy λ uu0 q z=>?_;clear yy;subst uu0
 refine⟨rfl,?_,z⟩
 unfold LB
 rw[n9,ah,im]
 unfold gN
 rw[←AU,qn _ _ (uD _ _)]
 rw[e] at q
 exact q
theorem E1 {h:List AO} {w v c:Nat} {bs:List Bool} (Y:LB h w bs) (hv:v<2^c) (hc:c≤60) (hT:bs.length≤10000):
  Sp fW [.ref w,.int v,.int c] h λ r h'=>r= .none∧LB h' w (bs++dD v c)∧h'.length=h.length∧Fr [w,w+1] h h':=by
 refine(xu Y hv hc hT).mono λ r h' q=>?_
 revert q;refine λ yy=>iH yy λ uu0 q z=>?_;clear yy;subst uu0
 refine⟨rfl,?_,z⟩
 unfold LB
 rw[n9,ah,i7,qn _ _ hv]
 exact q
theorem tZ:∀L<259,3≤L→(cu L).2.2<2^(cu L).2.1:=by decide+kernel
theorem sH (d:Nat):(b0 d).2.2<2^(b0 d).2.1:=by
 unfold b0
 split
 ·show 0<2^0;decide
 ·exact jv _ (cR _)
noncomputable def dG (ln lf:List Nat) (p:Nat×Nat):List Bool:=if p.1=0 then gN ln p.2 else
 gN ln (cu p.1).1++(dD (cu p.1).2.2 (cu p.1).2.1++(gN lf (b0 p.2).1++dD (b0 p.2).2.2 (b0 p.2).2.1))
noncomputable def HX (ln lf:List Nat) (p:Nat×Nat):Prop:=pq p∧GS ln (iX p)∧∀s∈nv p,GS lf s
theorem yv {h:List AO} {w a b:Nat} {ln lf:List Nat} {bs:List Bool} {p:Nat×Nat} (Y:LB h w bs) (Xa:PW h a ln) (Xb:PW h b lf) (ok:HX ln lf p) (l1:ln.length≤300) (l2:lf.length≤300) (hT:bs.length≤9000):
  Sp oC [.ref w,rh p,.ref a,.ref b] h λ r h'=>r= .none∧LB h' w (bs++dG ln lf p)∧h'.length=h.length∧Fr [w,w+1] h h':=by
 refine iH ok λ os g1 g2=>?_;clear ok
 unfold iX at g1
 unfold nv at g2
 unfold dG
 refine bK Xa.ob λ a1 a2 xa u u=>?_
 w_fin
 w_left
 rcases os with⟨q1,q2⟩|⟨q1,q2,q3,q4⟩
 ·rw[if_pos q1] at g1⊢
  refine iP (by rw[q1];rfl) ?_
  w_left
  refine fK xa rfl ?_
  w_left
  refine(Cg Xa Y g1 l1 (by exact af hT (nb rfl))).mono λ r h' q=>?_
  revert q;refine λ yy=>iH yy λ uu0 q z=>?_;clear yy;subst uu0
  w_left
  exact lO rfl q z
 ·have n1:¬p.1=0:=by exact ch (ag (nb rfl) q1)
  rw[if_neg n1] at g1 g2⊢
  have g2:=g2 (b0 p.2).1 (bu.mpr rfl)
  refine fE (λ c=>n1 (eC (ez c))) ?_
  w_left
  refine Sp.w2 (lM h p.1 q1 q2) ?_
  w_left
  refine fK xa rfl ?_
  w_left
  refine Sp.u13 (Cg Xa Y g1 l1 (by exact af hT (nb rfl))) λ aN Y1 len1 F1=>?_
  have b1:(bs++gN ln (cu p.1).1).length≤9020:=by rw[ah,im];have:=g1.le;exact f!"1ab+9020.>1b15.<1a9000.<2" hT this
  have ob1:=Y1.ob
  unfold Ao at ob1
  w_left
  refine fK ob1 rfl ?_
  have k1:=(kH p.1 (by exact aj q2 (nb rfl)) q1).2.2
  w_left
  refine Sp.u13 (E1 Y1 (tZ p.1 (by exact aj q2 (nb rfl)) q1) (by exact af k1 (nb rfl)) (by exact af b1 (nb rfl))) λ bT Y2 len2 F2=>?_
  have b2:(bs++gN ln (cu p.1).1++dD (cu p.1).2.2 (cu p.1).2.1).length≤9030:=by rw[ah,i7];exact f!"1ab+9030.>1b5.<1a9020.<2" b1 k1
  w_left
  refine Sp.w2 (j8 bT p.2 q3 q4) ?_
  have Xb2:=(Xb.keep Y F1).keep Y1 F2
  refine bK Xb2.ob λ b1' b2' xb u u=>?_
  w_left
  refine fK xb rfl ?_
  w_left
  refine Sp.u13 (Cg Xb2 Y2 g2 l2 (by exact af b2 (nb rfl))) λ iQ Y3 len3 F3=>?_
  have b3:(bs++gN ln (cu p.1).1++dD (cu p.1).2.2 (cu p.1).2.1++gN lf (b0 p.2).1).length≤9050:=by rw[ah,im];have:=g2.le;exact f!"1ab+9050.>1b15.<1a9030.<2" b2 this
  have ob3:=Y3.ob
  unfold Ao at ob3
  have k2:=(mE q3 q4).2
  w_left
  refine fK ob3 rfl ?_
  w_left
  refine Sp.u13 (E1 Y3 (sH p.2) (by exact af k2 (nb rfl)) (by exact af b3 (nb rfl))) λ vP Y4 len4 F4=>?_
  w_left
  simp only[c5] at Y4
  exact lv rfl Y4 (((len4.trans len3).trans len2).trans len1) (((F1.trans F2).trans F3).trans F4)
theorem Au {α β:Type} (f:α→β) (le:β→β→Bool) (a:α):∀l:List α,rA le (f a) (l.map f)=(rA (λ x y=>le (f x) (f y)) a l).map f
 | []=>rfl
 |b::l=>by
  show(if le (f a) (f b)=true then f a::f b::l.map f else f b::rA le (f a) (l.map f))=(if le (f a) (f b)=true then a::b::l else b::rA (λ x y=>le (f x) (f y)) a l).map f
  split
  ·rfl
  ·rw[aB,Au f le a l]
theorem sW {α β:Type} (f:α→β) (le:β→β→Bool):∀l:List α,jc le (l.map f)=(jc (λ x y=>le (f x) (f y)) l).map f
 | []=>rfl
 |a::l=>by
  show rA le (f a) (jc le (l.map f))=_
  rw[sW f le l,Au];rfl
theorem tm {α:Type} (le:α→α→Bool) (a:α):∀l:List α,(rA le a l).Perm (a::l)
 | []=>.refl _
 |b::l=>by
  unfold rA
  split
  ·exact .refl _
  ·exact((tm le a l).cons b).trans (.swap a b l)
theorem cY {α:Type} (le:α→α→Bool):∀l:List α,(jc le l).Perm l
 | []=>.refl _
 |a::l=>(tm le a _).trans ((cY le l).cons a)
theorem t7 {α:Type} {le:α→α→Bool} (tot:∀a b,le a b=true∨le b a=true) (tr:∀a b c,le a b=true→le b c=true→le a c=true) (a:α):
  ∀l:List α,l.Pairwise (λ x y=>le x y=true)→(rA le a l).Pairwise (λ x y=>le x y=true)
 | [],_=>List.pairwise_singleton _ _
 |b::l,h=>by
  have h':=f0.mp h
  unfold rA
  split
  ·rename_i q
   refine f0.mpr ⟨λ x hx=>?_,h⟩
   rcases bo.mp hx with rfl|hx
   ·exact q
   ·exact tr _ _ _ q (h'.1 x hx)
  ·rename_i q
   refine f0.mpr ⟨λ x hx=>?_,t7 tot tr a l h'.2⟩
   rcases bo.mp ((tm le a l).mem_iff.mp hx) with rfl|hx
   ·exact(tot x b).resolve_left q
   ·exact h'.1 x hx
theorem oi {α:Type} {le:α→α→Bool} (tot:∀a b,le a b=true∨le b a=true) (tr:∀a b c,le a b=true→le b c=true→le a c=true):∀l:List α,(jc le l).Pairwise (λ x y=>le x y=true)
 | []=>List.Pairwise.nil
 |a::l=>t7 tot tr a _ (oi tot tr l)
noncomputable def A8 (a b:Nat):Bool:=decide (a≤b)
noncomputable def sU (a b:Nat×Nat):Bool:=decide (a.1<b.1)|| (decide (a.1=b.1)&&decide (a.2≤b.2))
theorem Hl (a b:Nat):A8 a b=true∨A8 b a=true:=by unfold A8;simp;omega
theorem IM (a b c:Nat) (h1:A8 a b=true) (h2:A8 b c=true):A8 a c=true:=by unfold A8 at*;simp at*;exact af h1 h2
theorem Hj (a b:Nat×Nat):sU a b=true∨sU b a=true:=by unfold sU;simp;omega
theorem IL (a b c:Nat×Nat) (h1:sU a b=true) (h2:sU b c=true):sU a c=true:=by unfold sU at*;simp at*;omega
noncomputable def eQ (xs:List Nat):List Nat:=jc A8 xs
noncomputable def ip (xs:List (Nat×Nat)):List (Nat×Nat):=jc sU xs
theorem DI (xs:List Nat):jc GR (xs.map λ(n:Nat)=>(n:Int))=(eQ xs).map λ(n:Nat)=>(n:Int):=by
 rw[sW]
 unfold eQ
 congr 2
 funext a b
 unfold GR A8
 simp
noncomputable def qA (p:Nat×Nat):AV:=.tup [.int p.1,.int p.2]
noncomputable def ud (p:Nat×Nat):Int×Int:=(p.1,p.2)
theorem Ea (xs:List (Nat×Nat)):vC (xs.map qA)=some (xs.map ud):=by
 induction xs with
 |nil=>rfl
 |cons a xs ih=>exact congrArg (Option.map (ud a::·)) ih
theorem DH (xs:List (Nat×Nat)):jc EV (xs.map ud)=(ip xs).map ud:=by
 rw[sW]
 unfold ip
 congr 2
 funext a b
 unfold EV sU ud
 simp[Int.natCast_inj]
theorem Dq {n:Nat} {xs:List Nat} {h:List AO} (e:h[n]? =some (.list (xs.map nI))) (hl:xs.length<64) (l:List (Option AV)) (Q:AV→St→Prop) (q:Q (.ref h.length) ⟨l,h++[.list ((eQ xs).map nI)]⟩):W (qQ [.ref n]) ⟨l,h⟩ Q:=by
 refine me (a:=.ref h.length) (bc:=⟨l,h++[.list ((eQ xs).map nI)]⟩) ?_ q
 unfold qQ getL
 dsimp only
 rw[e]
 dsimp only[Option.bind]
 rw[rz]
 dsimp only
 rw[if_pos (by rw[ac];exact hl),DI]
 unfold gH iJ
 rw[if_pos (by simp only[ac,eQ];rw[(cY A8 xs).length_eq];exact aC (by exact bF (ag hl (nb rfl))))]
 rw[bY];rfl
theorem Dp {n:Nat} {xs:List (Nat×Nat)} {h:List AO} (e:h[n]? =some (.list (xs.map qA))) (hl:xs.length<64) (nd:xs.Nodup) (l:List (Option AV)) (Q:AV→St→Prop) (q:Q (.ref h.length) ⟨l,h++[.list ((ip xs).map qA)]⟩):W (qQ [.ref n]) ⟨l,h⟩ Q:=by
 refine me (a:=.ref h.length) (bc:=⟨l,h++[.list ((ip xs).map qA)]⟩) ?_ q
 unfold qQ getL
 dsimp only
 rw[e]
 dsimp only[Option.bind]
 cases xs with
 |nil=>rfl
 |cons a xs=>
  have e1:kJ ((a::xs).map qA)=none:=rfl
  rw[e1]
  dsimp only
  rw[Ea]
  dsimp only
  have hnd:((a::xs).map ud).Nodup:=by
   refine List.Pairwise.map ud (λ x y hxy h=>hxy ?_) nd
   unfold ud at h
   simp at h
   exact Prod.ext (by have:=h.1;omega) (by have:=h.2;omega)
  rw[if_pos ⟨by rw[ac];exact hl,hnd⟩,DH]
  unfold gH iJ
  rw[if_pos (by simp only[ac,ip];rw[(cY sU (a::xs)).length_eq];exact aC (by exact bF (ag hl (nb rfl))))]
  rw[bY];rfl
theorem tN {α:Type} {xs:List α} {p:List (α×Nat)} {x:α×Nat} {q:List (α×Nat)} (h:xs.zipIdx=p++x::q):x.2=p.length∧xs[p.length]? =some x.1:=by
 have e:xs.zipIdx[p.length]? =some x:=by rw[h];simp
 rw[List.getElem?_zipIdx] at e
 refine bM (cH.mp e) λ a h1 h2=>?_
 subst h2
 exact dF (by simp) h1
noncomputable def cq (cs:List Nat):List (Nat×Nat):=cs.zipIdx.filter λ p=>decide (0<p.1)
theorem vw {h:List AO} {m:Nat} {cs:List Nat} (e:h[m]? =some (.list (cs.map nI))) (hl:(cq cs).length<64):
  Sp mJ [.ref m] h λ r h'=>∃k,r= .ref k∧h.length≤k∧h'[k]? =some (.list ((ip (cq cs)).map qA))∧Fr [] h h':=by
 w_fin
 w_left
 refine je ?_
 w_left
 refine yS (bf e _) ⟨rfl,gp cs.zipIdx (λ p=>AV.tup [.int (p.2:Nat),nI p.1]) (λ p σ=>∃o o2 h',σ=⟨[some (.ref m),some (.ref h.length),o,o2],h'⟩∧h'[h.length]? =some (.list ((p.filter λ p=>decide (0<p.1)).map qA))∧Fr [] h h') ⟨none,none,_,rfl,au h [_],(Fr.refl _ _).app _⟩ ?_ ?_ ?_⟩
 ·intro p σ ww0;refine kb ww0 λ o o2 h' uu0 g F=>?_;clear ww0;subst uu0
  rw[qu (F.get e),List.zipIdx_map,bY]
  rfl
 ·intro p x q σ hst ww0;refine kb ww0 λ o o2 h' uu0 g F=>?_;clear ww0;subst uu0
  have z1:((p.filter λ p=>decide (0<p.1)).map qA).length≤1000000:=by
   have:(cq cs).length=((p.filter λ p=>decide (0<p.1))++((x::q).filter λ p=>decide (0<p.1))).length:=by unfold cq;rw[hst,eT]
   rw[ah] at this;rw[ac];exact f!"1b1000000.>1bc+a<1a1.+64.<3" hl (V this.symm)
  clear hst
  rw[eT]
  w_left
  by_cases q0:0<x.1
  ·refine iP (aC (bd.mpr q0)) ?_
   w_left
   refine kd rfl g z1 ?_
   w_left
   refine⟨_,_,_,rfl,?_,F.set (.inr (bz _)) _⟩
   rw[cx g,List.filter_cons_of_pos (by simpa using q0),List.filter_nil,bk];rfl
  ·refine fE (λ c=>q0 (bd.mp (ay c))) ?_
   w_left
   refine⟨_,_,_,rfl,?_,F⟩
   rw[g,List.filter_cons_of_neg (by simpa using q0),List.filter_nil,eJ]
 ·intro σ ww0;refine kb ww0 λ o o2 h' uu0 g F=>?_;clear ww0;subst uu0
  w_left
  refine Dp (xs:=cq cs) g hl ?_ _ _ ?_
  ·unfold cq
   refine List.Nodup.sublist (List.filter_sublist) ?_
   refine List.Pairwise.of_map (S:=(·≠·)) (f:=Prod.snd) (λ a b hab z=>hab (by rw[z])) ?_
   rw[List.zipIdx_map_snd]
   exact List.nodup_range'
  ·w_left
   exact th _ rfl F.len (au h' [_]) (F.app _)
noncomputable def eE:Nat→List Nat→List Nat→List (Nat×Bool)
 |0,_,_=>[]
 |_+1,[],[]=>[]
 |k+1,x::xs,[]=>(x,true)::eE k xs []
 |k+1,[],y::ys=>(y,false)::eE k [] ys
 |k+1,x::xs,y::ys=>if x≤y then(x,true)::eE k xs (y::ys) else(y,false)::eE k (x::xs) ys
theorem Fy (k:Nat) (x:Nat) (xs ys:List Nat) (h:∀y∈ys.head?,x≤y):eE (k+1) (x::xs) ys=(x,true)::eE k xs ys:=by
 cases ys with
 |nil=>rfl
 |cons y ys=>show(if x≤y then _ else _)=_;rw[if_pos (h y (by simp))]
theorem Fx (k:Nat) (y:Nat) (xs ys:List Nat) (h:∀x∈xs.head?,¬x≤y):eE (k+1) xs (y::ys)=(y,false)::eE k xs ys:=by
 cases xs with
 |nil=>rfl
 |cons x xs=>show(if x≤y then _ else _)=_;rw[if_neg (h x (by simp))]
theorem jz:∀(k:Nat) (xs ys:List Nat),(eE k xs ys).length≤k
 |0,_,_=>bz _
 |_+1,[],[]=>et _
 |k+1,x::xs,[]=>fX (jz k xs [])
 |k+1,[],y::ys=>fX (jz k [] ys)
 |k+1,x::xs,y::ys=>by
  unfold eE
  split
  ·exact fX (jz k xs (y::ys))
  ·exact fX (jz k (x::xs) ys)
theorem mC:∀(k:Nat) (xs ys:List Nat),((eE k xs ys).map (·.2)).count true≤xs.length
 |0,_,_=>et _
 |_+1,[],[]=>et _
 |k+1,x::xs,[]=>by
  have:=mC k xs []
  simp only[eE,aB,List.count_cons_self,bW];exact fX this
 |k+1,[],y::ys=>by
  have:=mC k [] ys
  simp only[eE,aB,jV (show false≠true by decide)];exact this
 |k+1,x::xs,y::ys=>by
  unfold eE
  split
  ·have:=mC k xs (y::ys)
   simp only[aB,List.count_cons_self,bW];exact fX this
  ·have:=mC k (x::xs) ys
   simp only[aB,jV (show false≠true by decide)];exact this
noncomputable def MJ (h:List AO) (a b:Nat) (w p:List Nat) (R:List (Nat×Bool)) (k:Nat) (σ:St):Prop:=∃(i j:Nat) (out:List (Nat×Bool)) (o6:Option AV) (h':List AO),σ=⟨[some (.ref a),some (.ref b),some (.ref h.length),some (.ref (h.length+1)),some (.int i),some (.int j),o6],h'⟩∧i≤w.length∧j≤p.length∧
  k=(w.length-i)+(p.length-j)∧h'[h.length]? =some (.list ((out.map (·.1)).map nI))∧h'[h.length+1]? =some (.list ((out.map (·.2)).map AV.bool))∧out++eE k (w.drop i) (p.drop j)=R∧h'.length=h.length+2∧Fr [] h h'
theorem CA {h h':List AO} {a b:Nat} {w p:List Nat} {R out:List (Nat×Bool)} {k i' j':Nat} {x:Nat} {c:Bool} {hh:List AO}
  (h1:i'≤w.length) (h2:j'≤p.length) (h3:k=(w.length-i')+(p.length-j')) (ga:h'[h.length]? =some (.list ((out.map (·.1)).map nI))) (gb:h'[h.length+1]? =some (.list ((out.map (·.2)).map AV.bool)))
  (ho:out++[(x,c)]++eE k (w.drop i') (p.drop j')=R) (l:h'.length=h.length+2) (F:Fr [] h h') (e:hh=(h'.set (h.length+1) (.list ((out.map (·.2)).map AV.bool++[.bool c]))).set h.length (.list ((out.map (·.1)).map nI++[.int x]))):
  MJ h a b w p R k ⟨[some (.ref a),some (.ref b),some (.ref h.length),some (.ref (h.length+1)),some (.int i'),some (.int j'),some (.bool c)],hh⟩:=by
 subst e
 refine⟨i',j',out++[(x,c)],_,_,rfl,h1,h2,h3,?_,?_,ho,by rw[bt,bt];exact l,(F.set (.inr (jo _)) _).set (.inr (bz _)) _⟩
 ·rw[cx (aU ga (cO _) _)];simp[nI]
 ·rw[aU (cx gb _) (cO _).symm];simp
theorem Fk {h:List AO} {a b:Nat} {w p:List Nat} (ea:h[a]? =some (.list (w.map nI))) (eb:h[b]? =some (.list (p.map nI))) (hl:w.length+p.length<900):
  Sp wm [.ref a,.ref b] h λ r h'=>r= .tup [.ref h.length,.ref (h.length+1)]∧h'[h.length]? =some (.list (((eE (w.length+p.length) w p).map (·.1)).map nI))∧
   h'[h.length+1]? =some (.list (((eE (w.length+p.length) w p).map (·.2)).map AV.bool))∧Fr [] h h':=by
 refine GH rfl ?_
 have F0:Fr [] h ((h++[AO.list []])++[AO.list []]):=((Fr.refl _ _).app _).app _
 have g0:((h++[AO.list []])++[AO.list []])[h.length]? =some (.list []):=bf (au _ _) _
 have g1:((h++[AO.list []])++[AO.list []])[h.length+1]? =some (AO.list []):=by simp
 have l0:((h++[AO.list []])++[AO.list []]).length=h.length+2:=by simp
 have nl:(h++[AO.list []]).length=h.length+1:=by simp
 refine yQ (ss (kL rfl (ss (kL rfl (kL rfl ?_)))))
 rw[nl]
 generalize ((h++[AO.list []])++[AO.list []])=nX at*
 have hRl:(eE (w.length+p.length) w p).length≤900:=af (jz _ _ _) (bF hl)
 refine yQ (sM (MJ h a b w p (eE (w.length+p.length) w p)) (w.length+p.length) (iN hl ⋯) ⟨0,0,[],none,nX,rfl,et _,et _,rfl,g0,g1,rfl,l0,F0⟩ ?_)
 intro k σ ww0;refine jN ww0 λ i j out o6 h' uu0 hi y=>?_;refine FG y λ hj hk ga gb hout l F=>?_;clear y ww0;subst uu0
 have lw:(w.map nI).length=w.length:=ac ..
 have lp:(p.map nI).length=p.length:=ac ..
 have z1:(w.map nI).length≤1000000:=by rw[lw];exact f!"1a1000000.>1ab+1.+900.<2" hl
 have z2:(p.map nI).length≤1000000:=by rw[lp];exact f!"1b1000000.>1ab+1.+900.<2" hl
 have hl1:w.length<1000000:=by exact f!"1a1.+1000000.>1ab+1.+900.<2" hl
 have hl2:p.length<1000000:=by exact f!"1b1.+1000000.>1ab+1.+900.<2" hl
 have nx:h.length+1≠h.length:=cO _
 have na:h.length+1≠a:=by have:=kG ea;exact λ z=>f!"z1b1.+a<1a1.+b<2" this (V z)
 have nb:h.length+1≠b:=by have:=kG eb;exact λ z=>f!"z1b1.+a<1a1.+b<2" this (V z)
 have ho:out.length≤1000000:=by have:=congrArg List.length hout;rw[ah] at this;exact f!"1b1000000.>1bc+a<1a900.<3" hRl (V this)
 have lo1:((out.map (·.1)).map nI).length≤1000000:=by rw[ac,ac];exact ho
 have lo2:((out.map (·.2)).map AV.bool).length≤1000000:=by rw[ac,ac];exact ho
 have leaf:∀(k':Nat) (hi':i<w.length) (c:k=k'+1) (hh:∀y∈(p.drop j).head?,w[i]≤y),MJ h a b w p (eE (w.length+p.length) w p) k' ⟨[some (.ref a),some (.ref b),some (.ref h.length),some (.ref (h.length+1)),some (.int ((i:Int)+1)),some (.int j),some (.bool true)],(h'.set (h.length+1) (.list ((out.map (·.2)).map AV.bool++[.bool true]))).set h.length (.list ((out.map (·.1)).map nI++[nI w[i]]))⟩:=λ k' hi' c hh=>
  CA (i':=i+1) (x:=w[i]) hi' hj (by exact jm (f!"1dec+>1bg+f<1feg1.++<1d1.+a<1abc+<7" (V hk) (V c.symm) (sA _ _) (V (ai (f!"1ab>1a1.+b<2" hi'))))<|f!"1eb+d>1eg1.++f<1fag+<1cd1.+<1ab+c<7" (V hk.symm) (V c) (sA _ _) (V (ai (f!"1a1.+b>1a1.+b<2" hi')))) ga gb (by rw[c5,List.singleton_append,←Fy _ _ _ _ hh,←iF hi',←c];exact hout) l F rfl
 have pair:∀(k':Nat) (hj':j<p.length) (c:k=k'+1) (hh:∀x∈(w.drop i).head?,¬x≤p[j]),MJ h a b w p (eE (w.length+p.length) w p) k' ⟨[some (.ref a),some (.ref b),some (.ref h.length),some (.ref (h.length+1)),some (.int i),some (.int ((j:Int)+1)),some (.bool false)],(h'.set (h.length+1) (.list ((out.map (·.2)).map AV.bool++[.bool false]))).set h.length (.list ((out.map (·.1)).map nI++[nI p[j]]))⟩:=λ k' hj' c hh=>
  CA (j':=j+1) (x:=p[j]) hi hj' (by exact jm (f!"1dbe+>1cg+f<1feg1.++<1d1.+a<1abc+<7" (V hk) (V c.symm) (sA _ _) (V (ai (f!"1ab>1a1.+b<2" hj'))))<|f!"1ae+d>1eg1.++f<1fbg+<1cd1.+<1ab+c<7" (V hk.symm) (V c) (sA _ _) (V (ai (f!"1a1.+b>1a1.+b<2" hj')))) ga gb (by rw[c5,List.singleton_append,←Fx _ _ _ _ hh,←iF hj',←c];exact hout) l F rfl
 have nj:j<p.length→¬((j:Int)==((p.map nI).length:Nat))=true:=λ c e=>by rw[lp] at e;exact dE c (eC (ez e))
 have g2:=aU ga nx (.list ((out.map (·.2)).map AV.bool++[.bool true]))
 have g3:=aU ga nx (.list ((out.map (·.2)).map AV.bool++[.bool false]))
 w_left
 refine gK (F.get ea) z1 ?_
 w_left
 by_cases ci:i<w.length
 ·refine iP (aC (by rw[lw];exact bd.mpr ci)) ?_
  w_left
  obtain⟨k',rfl⟩:∃k',k=k'+1:=⟨k-1,by exact jm (f!"1ba1.+>1ba1.+<2" (sA _ _))<|f!"1b1.+a>1b1.+a<2" (V (ai (f!"1 1.c>1ead+<1d1.+e<1ab+c<5" (V hk.symm) ci (sA _ _))))⟩
  refine BJ rfl ⟨k',rfl,?_⟩
  w_left
  refine gK (F.get eb) z2 ?_
  w_left
  by_cases cj:j<p.length
  ·refine fE (nj cj) ?_
   w_left
   refine gK (F.get ea) z1 ?_
   w_left
   refine iP (aC (by rw[lw];exact bd.mpr ci)) ?_
   w_left
   refine dO (F.get ea) ci hl1 ?_
   w_left
   refine dO (F.get eb) cj hl2 ?_
   w_left
   by_cases cv:w[i]≤p[j]
   ·rw[show decide (((w[i]:Nat):Int)≤((p[j]:Nat):Int))=true from aC (eL.mpr cv)]
    refine kd rfl gb lo2 ?_
    w_left
    refine kd (x:=nI w[i]) (xQ ?_) g2 lo1 ?_
    ·w_left
     refine dO (aU (F.get ea) na _) ci hl1 ?_
     w_left
     exact dF rfl rfl
    w_left
    exact leaf k' ci rfl (by rw[iF cj];intro y hy;cases hy;exact cv)
   ·rw[show decide (((w[i]:Nat):Int)≤((p[j]:Nat):Int))=false from decide_eq_false λ c=>cv (eL.mp c)]
    refine kd rfl gb lo2 ?_
    w_left
    refine kd (x:=nI p[j]) (xQ ?_) g3 lo1 ?_
    ·w_left
     refine dO (aU (F.get eb) nb _) cj hl2 ?_
     w_left
     exact dF rfl rfl
    w_left
    exact pair k' cj rfl (by rw[iF ci];intro y hy;cases hy;exact cv)
  ·have ej:j=p.length:=gE hj (eZ cj)
   have e0:((j:Int)==((p.map nI).length:Nat))=true:=by rw[lp,ej];exact dv _
   rw[e0]
   w_left
   refine kd rfl gb lo2 ?_
   w_left
   refine kd (x:=nI w[i]) (xQ ?_) g2 lo1 ?_
   ·w_left
    refine dO (aU (F.get ea) na _) ci hl1 ?_
    w_left
    exact dF rfl rfl
   w_left
   exact leaf k' ci rfl (by rw[List.drop_eq_nil_of_le (eZ cj)];intro y hy;cases hy)
 ·have c1:¬decide ((i:Int)<((w.map nI).length:Nat))=true:=λ c=>ci (bd.mp (by rw[lw] at c;exact ay c))
  refine fE c1 ?_
  w_left
  refine gK (F.get eb) z2 ?_
  w_left
  by_cases cj:j<p.length
  ·obtain⟨k',rfl⟩:∃k',k=k'+1:=⟨k-1,by exact jm (f!"1ba1.+>1ba1.+<2" (sA _ _))<|f!"1b1.+a>1b1.+a<2" (V (ai (f!"1 1.c>1ebd+<1d1.+e<1ab+c<5" (V hk.symm) cj (sA _ _))))⟩
   refine BJ (aC (by rw[lp];exact bd.mpr cj)) ⟨k',rfl,?_⟩
   w_left
   refine gK (F.get eb) z2 ?_
   w_left
   refine fE (nj cj) ?_
   w_left
   refine gK (F.get ea) z1 ?_
   w_left
   refine fE c1 ?_
   rw[eq_false_of_ne_true c1]
   w_left
   refine kd rfl gb lo2 ?_
   w_left
   refine kd (x:=nI p[j]) (xQ ?_) g3 lo1 ?_
   ·w_left
    refine dO (aU (F.get eb) nb _) cj hl2 ?_
    w_left
    exact dF rfl rfl
   w_left
   exact pair k' cj rfl (by rw[List.drop_eq_nil_of_le (eZ ci)];intro y hy;cases hy)
  ·refine Hr (λ c=>cj (bd.mp (by rw[lp] at c;exact ay c))) ?_
   obtain rfl:k=0:=by exact jm (f!"1a0.>1cg+f<1be+d<1fg<1de<1abc+<7" (V hk) (aG ci) (aG cj) (V (ai hi)) (V (ai hj))) f!"1 0.a>1"
   have:out=eE (w.length+p.length) w p:=(eJ _).symm.trans hout
   subst this
   w_left
   exact lv rfl ga gb F
theorem wI {l:List (Option AV)} {i:Nat} (hi:i<l.length):∃o,l=l.set i o:=⟨l[i],by simp⟩
theorem k0 {α:Type} {i:Nat} {tg:IT→Bool} {g:EM IT} {test:EM Bool} {fe:EM AV} {l:List (Option AV)} {h:List AO} {Q:List AV→St→Prop} (xs:List α) (f:α→AV) (t:α→Bool) (r:α→AV)
  (hg:W g ⟨l,h⟩ λ it bc=>tg it=true∧∃aN,bc=⟨l,aN⟩∧jC it aN=some (xs.map f)∧xs.length≤1000000∧i<l.length∧
   (∀x∈xs,W test ⟨l.set i (some (f x)),aN⟩ λ b cG=>b=t x∧cG=⟨l.set i (some (f x)),aN⟩)∧
   (∀x∈xs,t x=true→W fe ⟨l.set i (some (f x)),aN⟩ λ v dM=>v=r x∧dM=⟨l.set i (some (f x)),aN⟩)∧
   Q ((xs.filter t).map r) ⟨l.set i none,aN⟩):W (pW [i] tg g (wr i) test fe) ⟨l,h⟩ Q:=by
 have key:∃hh:List AO,True:=⟨h,trivial⟩
 rw[dg] at hg
 unfold W' at hg
 set_option tactic.hygienic true in split at hg
 ·rename_i it bc eg
  refine dL hg λ h1 y=>?_;refine xJ y λ aN uu0 h3 h4 h5 h6 h7 h8=>?_;clear y hg;subst uu0
  refine uU xs f (λ p out σ=>out=(p.filter t).map r∧∃o,σ=⟨l.set i o,aN⟩) (me eg ⟨h1,?_,⟨rfl,?_⟩,?_,?_⟩) ?_
  ·intro j hj;rw[bu] at hj;subst hj;exact h5
  ·refine gX (wI h5) λ o ho=>?_
   exact si o (by rw[←ho])
  ·intro p out pg ww0;refine dL ww0 λ z y=>?_;refine gX y λ o uu0=>?_;clear y ww0;subst uu0
   exact dF h3 (by simp)
  ·intro out pg ww0;refine dL ww0 λ uu0 y=>?_;refine gX y λ o uu1=>?_;clear y ww0;subst uu0 uu1
   refine⟨?_,?_⟩
   ·rw[ac];exact af (il _ _) h4
   ·have:lK [i] (l.set i o)=l.set i none:=by unfold lK;simp
    rw[this];exact h8
  ·intro p x q out σ hst ww0;refine dL ww0 λ uu0 y=>?_;refine gX y λ o uu1=>?_;clear y ww0;subst uu0 uu1
   have hx:x∈xs:=by rw[hst];simp
   rw[HN]
   refine⟨by simpa using h5,?_⟩
   rw[List.set_set]
   refine(h6 x hx).mono λ b cG ⟨hb,yV⟩=>?_
   subst hb yV
   by_cases q0:t x=true
   ·rw[if_pos q0]
    refine(h7 x hx q0).mono λ v dM ⟨hv,yV⟩=>?_
    subst hv yV
    exact dF (by rw[eT];simp[q0]) (si _ rfl)
   ·rw[if_neg q0]
    exact dF (by rw[eT];simp[q0]) (si _ rfl)
 ·exact hg.elim
theorem zh {α:Type} {i j:Nat} {tg:IT→Bool} {g:EM IT} {test:EM Bool} {fe:EM AV} {l:List (Option AV)} {h:List AO} {Q:List AV→St→Prop} (xs:List α) (lz mK:α→AV) (t:α→Bool) (r:α→AV) (hij:i≠j)
  (hg:W g ⟨l,h⟩ λ it bc=>tg it=true∧∃aN,bc=⟨l,aN⟩∧jC it aN=some (xs.map λ x=>.tup [lz x,mK x])∧xs.length≤1000000∧(i<l.length∧j<l.length)∧
   (∀x∈xs,W test ⟨(l.set i (some (lz x))).set j (some (mK x)),aN⟩ λ b cG=>b=t x∧cG=⟨(l.set i (some (lz x))).set j (some (mK x)),aN⟩)∧
   (∀x∈xs,t x=true→W fe ⟨(l.set i (some (lz x))).set j (some (mK x)),aN⟩ λ v dM=>v=r x∧dM=⟨(l.set i (some (lz x))).set j (some (mK x)),aN⟩)∧
   Q ((xs.filter t).map r) ⟨(l.set i none).set j none,aN⟩):W (pW [i,j] tg g (pi [i,j]) test fe) ⟨l,h⟩ Q:=by
 rw[dg] at hg
 unfold W' at hg
 set_option tactic.hygienic true in split at hg
 ·rename_i it bc eg
  refine dL hg λ h1 y=>?_;refine xJ y λ aN uu0 h3 h4 vv0 h6 h7 h8=>?_;clear y hg;subst uu0;refine dL vv0 λ h5 h5'=>?_;clear vv0
  refine uU xs (λ x=>.tup [lz x,mK x]) (λ p out σ=>out=(p.filter t).map r∧∃o o2,σ=⟨(l.set i o).set j o2,aN⟩) (me eg ⟨h1,?_,⟨rfl,?_⟩,?_,?_⟩) ?_
  ·intro k hk
   simp only[bo,jf,or_false] at hk
   rcases hk with rfl|rfl
   ·exact h5
   ·exact h5'
  ·refine⟨l[i],l[j],?_⟩
   simp
  ·intro p out pg ww0;refine dL ww0 λ z y=>?_;refine uu y λ o o2 uu0=>?_;clear y ww0;subst uu0
   exact dF h3 (by simp)
  ·intro out pg ww0;refine dL ww0 λ uu0 y=>?_;refine uu y λ o o2 uu1=>?_;clear y ww0;subst uu0 uu1
   refine⟨?_,?_⟩
   ·rw[ac];exact af (il _ _) h4
   ·have:lK [i,j] ((l.set i o).set j o2)=(l.set i none).set j none:=by
     unfold lK
     simp only[gG,List.foldl_nil]
     rw[List.set_comm _ _ (f9 hij),List.set_set,List.set_set]
    rw[this];exact h8
  ·intro p x q out σ hst ww0;refine dL ww0 λ uu0 y=>?_;refine uu y λ o o2 uu1=>?_;clear y ww0;subst uu0 uu1
   have hx:x∈xs:=by rw[hst];simp
   rw[Ky]
   refine⟨rfl,?_⟩
   rw[zH,HN]
   refine⟨by simpa using h5,?_⟩
   rw[zH,HN]
   refine⟨by simpa using h5',?_⟩
   rw[G2]
   have e1:((((l.set i o).set j o2).set i (some (lz x))).set j (some (mK x)))=(l.set i (some (lz x))).set j (some (mK x)):=by
    rw[List.set_comm _ _ (f9 hij),List.set_set,List.set_set]
   rw[e1]
   refine(h6 x hx).mono λ b cG ⟨hb,yV⟩=>?_
   subst hb yV
   by_cases q0:t x=true
   ·rw[if_pos q0]
    refine(h7 x hx q0).mono λ v dM ⟨hv,yV⟩=>?_
    subst hv yV
    exact dF (by rw[eT];simp[q0]) (En _ _ rfl)
   ·rw[if_neg q0]
    exact dF (by rw[eT];simp[q0]) (En _ _ rfl)
 ·exact hg.elim
noncomputable def hV (row:List Nat):List Nat:=gO (row.length / 2) λ i=>row.getD (2*i) 0+row.getD (2*i+1) 0
noncomputable def eR (w:List Nat):Nat→List Nat×List (List Bool)
 |0=>([],[])
 |n+1=>((eE (w.length+(hV (eR w n).1).length) w (hV (eR w n).1)).map (·.1),(eR w n).2++[(eE (w.length+(hV (eR w n).1).length) w (hV (eR w n).1)).map (·.2)])
theorem ti (w:List Nat):∀n,(eR w n).1.length≤2*w.length
 |0=>et _
 |n+1=>by
  have h1:=ti w n
  have h2:=jz (w.length+(hV (eR w n).1).length) w (hV (eR w n).1)
  have h3:(hV (eR w n).1).length=(eR w n).1.length / 2:=by unfold hV;simp
  show(List.map _ _).length≤_
  rw[ac]
  exact f!"2c2b*>1e2:a<2de<2cbd+<1a2b*<5" h1 h2 (V h3) (be _ 2)
theorem xH (w:List Nat):∀n,∀bl∈(eR w n).2,bl.count true≤w.length
 |0,bl,h=>by cases h
 |n+1,bl,h=>by
  rcases gF.mp h with h|h
  ·exact xH w n bl h
  ·rw[bu] at h;subst h;exact mC _ _ _
theorem Ap (w:List Nat):∀n,∀bl∈(eR w n).2,bl.length≤2*w.length
 |0,bl,h=>by cases h
 |n+1,bl,h=>by
  rcases gF.mp h with h|h
  ·exact Ap w n bl h
  ·rw[bu] at h;subst h
   have h1:=ti w n
   have h2:=jz (w.length+(hV (eR w n).1).length) w (hV (eR w n).1)
   have h3:(hV (eR w n).1).length=(eR w n).1.length / 2:=by unfold hV;simp
   rw[ac];exact f!"2c2b*>1e2:a<2de<2cbd+<1a2b*<5" h1 h2 (V h3) (be _ 2)
noncomputable def wS (d:List Nat) (t:Nat):List Nat:=gO d.length λ i=>d.getD i 0+if i<t then 1 else 0
noncomputable def xi (s:List Nat×Nat) (bl:List Bool):List Nat×Nat:=(wS s.1 ((bl.take s.2).count true),2*(s.2-(bl.take s.2).count true))
noncomputable def oQ (w:List Nat) (bls:List (List Bool)):List Nat×Nat:=bls.foldl xi (List.replicate w.length 0,2*w.length-2)
noncomputable def yC (w:List Nat) (L:Nat):List Nat:=(oQ w (eR w L).2.reverse).1
theorem vO (d:List Nat) (t:Nat):(wS d t).length=d.length:=by unfold wS;simp
theorem u6 (w:List Nat) (bls:List (List Bool)) (bl:List Bool):oQ w (bls++[bl])=xi (oQ w bls) bl:=by unfold oQ;rw[fC];rfl
theorem xh (w:List Nat) (bls:List (List Bool)):(oQ w bls).1.length=w.length:=by
 refine j4 (P:=λ bls=>(oQ w bls).1.length=w.length) ?_ (λ xs x ih=>?_) bls
 ·unfold oQ;simp
 ·rw[u6];unfold xi;dsimp only;rw[vO,ih]
noncomputable def zy (h:List AO) (qE:Nat):List Nat→List (List Bool)→Prop
 | [],[]=>True
 |i::is,bl::bls=>(qE<i∧h[i]? =some (.list (bl.map AV.bool)))∧zy h qE is bls
 |_,_=>False
theorem zy.len {h:List AO} {qE:Nat}:∀{is:List Nat} {bls:List (List Bool)},zy h qE is bls→is.length=bls.length
 | [],[],_=>rfl
 |i::is,bl::bls,x=>congrArg (·+1) (zy.len x.2)
theorem zy.mono {h h':List AO} {qE:Nat} (k:∀i o,qE<i→h[i]? =some o→h'[i]? =some o):∀{is:List Nat} {bls:List (List Bool)},zy h qE is bls→zy h' qE is bls
 | [],[],_=>trivial
 |i::is,bl::bls,x=>⟨⟨x.1.1,k _ _ x.1.1 x.1.2⟩,zy.mono k x.2⟩
theorem zy.snoc {h:List AO} {qE:Nat} {i:Nat} {bl:List Bool} (hi:qE<i) (e:h[i]? =some (.list (bl.map AV.bool))):∀{is:List Nat} {bls:List (List Bool)},zy h qE is bls→zy h qE (is++[i]) (bls++[bl])
 | [],[],_=>⟨⟨hi,e⟩,trivial⟩
 |j::is,c::bls,x=>⟨x.1,zy.snoc hi e x.2⟩
theorem zy.get {h:List AO} {qE:Nat}:∀{is:List Nat} {bls:List (List Bool)},zy h qE is bls→∀{k:Nat} {i:Nat},is[k]? =some i→∃bl,bls[k]? =some bl∧qE<i∧h[i]? =some (.list (bl.map AV.bool))
 | [],[],_,k,i,e=>by simp at e
 |j::is,c::bls,x,0,i,e=>by simp at e;subst e;exact fV c rfl x.1
 |j::is,c::bls,x,k+1,i,e=>by
  refine bM (zy.get x.2 (k:=k) (by simpa using e)) λ bl h1 h2=>?_
  exact fV bl (by simpa using h1) h2
theorem nS (w:List Nat):∀n,(eR w n).2.length=n
 |0=>rfl
 |n+1=>by show((eR w n).2++[_]).length=_;rw[ah,nS w n];rfl
theorem ox {xs:List Nat} {i:Nat} (hi:i<xs.length):xs[i]=xs.getD i 0:=by simp[hi]
theorem wz (l:List Bool) (n:Nat):(l.take n).count true≤n:=by
 have h1:=List.count_le_length (a:=true) (l:=l.take n)
 have h2:=List.length_take_le n l
 exact af h1 h2
theorem u7 (l:List Bool) (n:Nat):(l.take n).count true≤l.count true:=(List.take_sublist n l).count_le _
theorem lB {α:Type} (l:List α):(l.filter λ z=>true)=l:=by simp
theorem v9 {α:Type} (l:List α) (n:Nat):cut l none (some ((n:Nat):Int))=l.take n:=by
 unfold cut zx
 simp
noncomputable def L5 (h:List AO) (a L:Nat) (w:List Nat) (k:Nat) (σ:St):Prop:=∃(o4 o5 o6:Option AV) (rr:Nat) (ids:List Nat) (h':List AO),σ=⟨[some (.ref a),some (.int L),some (.ref h.length),some (.ref rr),o4,o5,o6,none,none,none,none,none,none],h'⟩∧
  h'[rr]? =some (.list ((eR w k).1.map nI))∧h'[h.length]? =some (.list (ids.map AV.ref))∧zy h' h.length ids (eR w k).2∧h.length+2≤h'.length∧Fr [] h h'
noncomputable def L4 (h aN:List AO) (a L rr D:Nat) (o4 o5:Option AV) (U:List Nat×Nat) (σ:St):Prop:=∃(o6 o9 o10 o11:Option AV) (bT:List AO),σ=⟨[some (.ref a),some (.int L),some (.ref h.length),some (.ref rr),o4,o5,o6,some (.ref D),some (.int U.2),o9,o10,o11,none],bT⟩∧
   bT[D]? =some (.list (U.1.map nI))∧Fr [D] aN bT
theorem sZ {h:List AO} {a L:Nat} {w:List Nat} (ea:h[a]? =some (.list (w.map nI))) (hw:w.length≤100) (hw1:1≤w.length) (hL:L≤20):
  Sp kS [.ref a,.int L] h λ r h'=>∃k,r= .ref k∧h.length≤k∧h'[k]? =some (.list ((yC w L).map nI))∧Fr [] h h':=by
 have F0:Fr [] h (h++[AO.list []]++[AO.list []]):=((Fr.refl _ _).app _).app _
 have g0:(h++[AO.list []]++[AO.list []])[h.length]? =some (.list []):=bf (au h [_]) _
 have g1:(h++[AO.list []]++[AO.list []])[(h++[AO.list []]).length]? =some (.list []):=au (h++[_]) [_]
 have e1:(h++[AO.list []]).length=h.length+1:=by simp
 have l0:h.length+2≤(h++[AO.list []]++[AO.list []]).length:=by simp
 have lw:(w.map nI).length=w.length:=ac ..
 w_fin
 w_left
 rw[e1] at g1⊢
 generalize (h++[AO.list []]++[AO.list []])=nX at*
 refine je ?_
 w_left
 refine oz L _ _ (by exact aj hL (nb rfl)) ⟨rfl,?_⟩
 refine gp (List.range L) (λ(i:Nat)=>AV.int (i:Nat)) (λ p σ=>L5 h a L w p.length σ) ⟨none,none,none,h.length+1,[],_,rfl,g1,g0,trivial,l0,F0⟩ ?_ ?_ ?_
 ·intro p σ ww0;refine mS ww0 λ o4 o5 o6 rr ids y=>?_;refine bM y λ h' uu0 u=>?_;clear y ww0;subst uu0
  exact jO L h'
 ·intro p x q σ hst ww0;refine mS ww0 λ o4 o5 o6 rr ids y=>?_;refine vM y λ h' uu0 gr gs bl l F=>?_;clear y ww0;subst uu0
  refine dL (iV hst) λ uu0 hp=>?_;subst uu0
  have hrl:=ti w p.length
  have hids:=bl.len
  have hll:=nS w p.length
  have hpm:hV (eR w p.length).1=hV (eR w p.length).1:=rfl
  rw[ah,b9]
  generalize hrow:eR w p.length=R at*
  obtain⟨row,bls⟩:=R
  have hrl:row.length≤2*w.length:=hrl
  have gr:h'[rr]? =some (.list (row.map nI)):=gr
  have z1:(row.map nI).length≤1000000:=by rw[ac];exact f!"1b1000000.>1b2a*<2a100.<2" hw hrl
  have hb:row.length<1000000:=by exact f!"1b1.+1000000.>1b2a*<2a100.<2" hw hrl
  have hpl:(hV row).length=row.length / 2:=by unfold hV;simp
  w_left
  refine jD ?_
  refine k0 (List.range (row.length / 2)) (λ(i:Nat)=>AV.int (2*i:Nat)) (λ u=>true) (λ i=>nI (row.getD (2*i) 0+row.getD (2*i+1) 0)) ?_
  w_left
  refine gK gr z1 ?_
  w_left
  rw[ac]
  refine Js _ _ _ (by omega) (by omega) ⟨rfl,_,rfl,?_,?_,?_,?_,?_,?_⟩
  ·rw[show(((row.length:Int)-1+1) / 2).toNat=row.length / 2 by omega]
   exact Ey _ _
  ·rw[bE];exact f!"2c1000000.>1c2:b<1b2a*<2a100.<3" hw hrl (be _ 2)
  ·exact aH rfl
  ·exact λ x hx=>kL rfl ⟨rfl,rfl⟩
  ·intro x hx _
   have hx:=fA.mp hx
   w_left
   refine dO gr (show 2*x<row.length by exact f!"1 2a*1.+c>1b2:c<2a1.+b<3" hx (be _ 2)) hb ?_
   w_left
   refine dO (i:=2*x+1) gr (show 2*x+1<row.length by exact f!"1 2a*1.+1.+c>1b2:c<2a1.+b<3" hx (be _ 2)) hb ?_
   w_left
   exact dF (by rw[ox,ox];rfl) rfl
  ·have ep:((List.range (row.length / 2)).filter λ u=>true).map (λ i=>nI (row.getD (2*i) 0+row.getD (2*i+1) 0))=(hV row).map nI:=by
    rw[lB];unfold hV gO;rw[bY];rfl
   rw[ep]
   refine lU (by rw[ac,hpl];exact f!"2c1000000.>1c2:b<1b2a*<2a100.<3" hw hrl (be _ 2)) ?_
   w_left
   have lx:(h'++[AO.list ((hV row).map nI)]).length=h'.length+1:=by rw[ah];rfl
   refine Sp.u13 (Fk (p:=hV row) (bf (F.get ea) _) (au h' [_]) (by exact f!"2ac+1.+900.>1d2:b<2cd<1b2a*<4a100.<4" hw hrl (V hpl) (be _ 2))) λ bT gm1 gm2 F2=>?_
   rw[lx] at gm1 gm2
   have F12:Fr [] h' bT:=((Fr.refl [] h').app _).trans F2
   have gs2:=F12.get gs
   w_left
   refine kd rfl gs2 (by rw[ac];exact f!"1c1000000.>1db<1cd<1b1.+a<1a20.<4" hL hp (V hids) (V hll)) ?_
   w_left
   have hla:eR w (p.length+1)=((eE (w.length+(hV row).length) w (hV row)).map (·.1),bls++[(eE (w.length+(hV row).length) w (hV row)).map (·.2)]):=by
    show((eE (w.length+(hV (eR w p.length).1).length) w (hV (eR w p.length).1)).map (·.1),(eR w p.length).2++[_])=_
    rw[hrow]
   refine⟨_,_,_,_,ids++[h'.length+1+1],_,by rw[lx],?_,?_,?_,?_,?_⟩
   ·rw[hla];exact aU gm1 (by exact λ z=>f!"z1b1.+a<1a2.+b<2" l (V z.symm)) _
   ·rw[cx gs2,bk,aB,List.map_nil]
   ·rw[hla]
    refine zy.snoc (h:=_) (qE:=h.length) (by exact f!"1a1.+b1.+1.+>1a2.+b<2" l) ?_ (bl.mono λ i o hi e=>aU (F12.get e) (by exact dE hi) _)
    exact aU gm2 (by exact λ z=>f!"z1b1.+1.+a<1a2.+b<2" l (V z.symm)) _
   ·rw[bt];have:=F12.len;exact af l this
   ·exact(F.trans F12).set (.inr (bz _)) _
 ·intro σ ww0;refine mS ww0 λ o4 o5 o6 rr ids y=>?_;refine vM y λ h' uu0 gr gs bl l F=>?_;clear y ww0;subst uu0
  rw[bE] at*
  have hids:=bl.len
  have hidl:ids.length=L:=by rw[hids,nS]
  have z1:(w.map nI).length≤1000000:=by rw[lw];exact af hw (nb rfl)
  have lx:(h'++[AO.list [AV.int 0]]).length=h'.length+1:=by rw[ah];rfl
  w_left
  refine gK (bf (F.get ea) _) z1 ?_
  refine pR (au h' [_]) (by rw[lw];omega) (by rw[lw,aX];show(pn w.length [AV.int 0]).length≤_;rw[lN,ac,cC];exact af hw (nb rfl)) ?_
  rw[lw,aX,lN]
  w_left
  refine gK (bf (bf (F.get ea) _) _) z1 ?_
  w_left
  rw[lx,lw]
  have F1:Fr [] h' (h'++[AO.list [AV.int 0]]++[AO.list ((cW w.length []).map nI)]):=((Fr.refl _ _).app _).app _
  have g2:(h'++[AO.list [AV.int 0]]++[AO.list ((cW w.length []).map nI)])[h'.length+1]? =some (.list ((cW w.length []).map nI)):=lx▸au (h'++[_]) [_]
  have l2:(h'++[AO.list [AV.int 0]]++[AO.list ((cW w.length []).map nI)]).length=h'.length+2:=by rw[ah,lx];rfl
  generalize (h'++[AO.list [AV.int 0]]++[AO.list ((cW w.length []).map nI)])=aN at*
  have hD0:h'.length+1>h.length:=by exact f!"1a1.+b1.+>1a2.+b<2" l
  generalize hDD:h'.length+1=D at*
  have bl1:zy aN h.length ids (eR w L).2:=bl.mono λ i o hi e=>F1.get e
  have ltD:∀i∈ids,i≠D:=by
   intro i hi
   refine gX (fS.mp hi) λ k hk=>?_
   refine dU (bl.get hk) λ b u u e=>?_
   have:=kG e;exact λ z=>f!"z1bc<1c1.+a<1a1.+b<3" (V hDD) this (V z.symm)
  rw[show(2:Int)*(w.length:Int)-2=((2*w.length-2:Nat):Int) by omega]
  refine je ?_
  w_left
  refine Ka (F1.get gs) ?_
  rw[ac]
  refine⟨rfl,gp ids.reverse AV.ref (λ p σ=>L4 h aN a L rr D o4 o5 (oQ w ((eR w L).2.reverse.take p.length)) σ) ⟨o6,none,none,none,aN,rfl,by rw[g2,sJ];rfl,Fr.refl _ _⟩ ?_ ?_ ?_⟩
  ·intro p σ ww0;refine jN ww0 λ o6 o9 o10 o11 bT uu0 gd F2=>?_;clear ww0;subst uu0
   have e:bT[h.length]? =some (.list (ids.map AV.ref)):=F2.keep _ _ (by simp;exact dE hD0) (F1.get gs)
   have:=FH e
   rw[ac] at this
   rw[this,List.map_reverse]
  ·intro p x q σ hst ww0;refine jN ww0 λ o6 o9 o10 o11 bT uu0 gd F2=>?_;clear ww0;subst uu0
   have hxr:ids.reverse[p.length]? =some x:=by rw[hst];simp
   have hpl:p.length<L:=by
    have:=congrArg List.length hst
    simp at this;exact f!"1c1.+b>1cd1.++a<1ab<4" (V hidl) (V this.symm)
   have hxi:ids[L-1-p.length]? =some x:=by
    rw[List.getElem?_reverse (by exact ag hpl (V hidl.symm)),hidl] at hxr;exact hxr
   refine dU (bl1.get hxi) λ b hb1 hb2 hb3=>?_
   have hb4:(eR w L).2.reverse[p.length]? =some b:=by
    rw[List.getElem?_reverse (by rw[nS];with_unfolding_all exact f!"1a1.+b>1a1.+b<2" hpl),nS];exact hb1
   have hbl:=Ap w L b (bU hb1)
   have hbc:=xH w L b (bU hb1)
   have hU':oQ w ((eR w L).2.reverse.take (p++[x]).length)=xi (oQ w ((eR w L).2.reverse.take p.length)) b:=by
    rw[ah,b9,ku,hb4,Option.toList_some,u6]
   have gx:bT[x]? =some (.list (b.map AV.bool)):=F2.keep _ _ (by simpa using ltD x (bU hxi)) hb3
   have hdl:(oQ w ((eR w L).2.reverse.take p.length)).1.length=w.length:=xh _ _
   rw[hU']
   generalize oQ w ((eR w L).2.reverse.take p.length)=U at*
   obtain⟨dd,wt⟩:=U
   have gd:bT[D]? =some (.list (dd.map nI)):=gd
   have hdl:dd.length=w.length:=hdl
   have c1:cut (b.map AV.bool) none (some ((wt:Nat):Int))=(b.take wt).map AV.bool:=by rw[v9,List.map_take]
   have c3:(b.map AV.bool).length≤1000000:=by rw[ac];exact f!"1b1000000.>1b2a*<2a100.<2" hw hbl
   have c4:((b.take wt).map AV.bool).length≤1000000:=by rw[ac];have:=List.length_take_le' wt b;exact f!"1c1000000.>1cb<1b2a*<2a100.<3" hw hbl this
   have tk2:=u7 b wt
   have tk1:=wz b wt
   clear hxr hxi hb1 hb3 hb4 hst hU' ltD bl1 bl
   w_left
   refine je ?_
   w_left
   refine FM rfl rfl gx (by unfold jM;simp) c3 (c1▸c4) ?_
   rw[c1]
   have g5:=au bT [AO.list ((b.take wt).map AV.bool)]
   have gd5:=bf gd [AO.list ((b.take wt).map AV.bool)]
   have F5:Fr [D] aN (bT++[AO.list ((b.take wt).map AV.bool)]):=F2.app _
   generalize (bT++[AO.list ((b.take wt).map AV.bool)])=ot at*
   refine jd g5 ?_
   refine⟨rfl,gp (b.take wt) AV.bool (λ lW σ=>∃o,σ=⟨[some (.ref a),some (.int L),some (.ref h.length),some (.ref rr),o4,o5,some (.ref x),some (.ref D),some (.int wt),some (.int (lW.count true:Nat)),o,o11,none],ot⟩) ⟨o10,rfl⟩ ?_ ?_ ?_⟩
   ·intro lW σ ww0;refine gX ww0 λ o uu0=>?_;clear ww0;subst uu0
    exact dt g5
   ·intro lW bq JR σ tt ww0;refine gX ww0 λ o uu0=>?_;clear ww0;subst uu0
    w_left
    refine⟨some (.bool bq),?_⟩
    rw[m7]
    cases bq<;>rfl
   ·intro σ ww0;refine gX ww0 λ o uu0=>?_;clear ww0;subst uu0
    generalize htt:(b.take wt).count true=t at*
    w_left
    refine je ?_
    w_left
    refine oz t _ _ (by exact aj tk2 (aj hbc (aj hw (nb rfl)))) ⟨rfl,?_⟩
    refine gp (List.range t) (λ(i:Nat)=>AV.int (i:Nat)) (λ lW σ=>∃o' pS,σ=⟨[some (.ref a),some (.int L),some (.ref h.length),some (.ref rr),o4,o5,some (.ref x),some (.ref D),some (.int wt),some (.int t),o,o',none],pS⟩∧
     pS[D]? =some (.list ((wS dd lW.length).map nI))∧Fr [D] aN pS) ⟨o11,ot,rfl,?_,F5⟩ ?_ ?_ ?_
    ·rw[gd5]
     congr 3
     unfold wS
     apply hU
     ·simp
     ·intro i h1 h2
      simp[ox h1]
    ·intro lW σ ww0;refine ce ww0 λ o' pS uu0 u=>?_;clear ww0;subst uu0
     exact jO t pS
    ·intro lW bq JR σ tt ww0;refine bK ww0 λ o' pS uu0 g6 F6=>?_;clear ww0;subst uu0
     refine dL (iV tt) λ uu0 hp1=>?_;subst uu0
     have hb:(wS dd lW.length).length<1000000:=by rw[vO];exact aj (V hdl) (aj hw (nb rfl))
     have hi:lW.length<(wS dd lW.length).length:=by rw[vO];exact f!"1e1.+c>1e1.+d<1da<1bc<1ab<5" hbc (V hdl.symm) tk2 hp1
     clear tt
     w_left
     refine dO g6 hi hb ?_
     w_left
     refine kK g6 ⟨bh _,by rw[ac];omega,by omega⟩ ?_
     w_left
     refine⟨_,_,rfl,?_,F6.set (.inl (bu.mpr rfl)) _⟩
     rw[cx g6,ox,show AV.int (((wS dd lW.length).getD lW.length 0:Nat)+1:Int)=nI ((wS dd lW.length).getD lW.length 0+1) from rfl,aX,ah,b9]
     unfold wS
     rw[vz]
     congr 3
     refine kC λ j hj=>?_
     by_cases qj:j=lW.length
     ·subst qj
      rw[if_pos rfl,if_pos (by exact fY _),←ox (by simp;with_unfolding_all exact f!"1a1.+b>1a1.+b<2" hj)]
      simp
     ·rw[if_neg qj]
      by_cases qk:j<lW.length
      ·rw[if_pos qk,if_pos (by with_unfolding_all exact f!"1a1.+b1.+>1a1.+b<2" qk)]
      ·rw[if_neg qk,if_neg (by omega)]
    ·intro σ ww0;refine bK ww0 λ o' pS uu0 g6 F6=>?_;clear ww0;subst uu0
     rw[bE] at g6
     w_left
     refine⟨some (.ref x),some (.int t),o,o',pS,?_,?_,F6⟩
     ·unfold xi
      rw[htt]
      dsimp only
      rw[show(2:Int)*((wt:Int)-(t:Int))=((2*(wt-t):Nat):Int) by omega];rfl
     ·unfold xi;rw[htt];exact g6
  ·intro σ ww0;refine jN ww0 λ o6 o9 o10 o11 bT uu0 gd F2=>?_;clear ww0;subst uu0
   w_left
   refine⟨D,rfl,by exact bF hD0,?_,?_⟩
   ·rw[gd]
    have:(eR w L).2.reverse.take ids.reverse.length=(eR w L).2.reverse:=by
     rw[List.take_of_length_le];simp[hidl,nS]
    rw[this];rfl
   ·exact(F.trans F1).above F2 (by intro i hi;simp at hi;exact bF (ag hD0 (V hi.symm)))
noncomputable def ib (size:Nat) (rows:List (Nat×Nat)) (ds:List Nat):List Nat:=(rows.zip ds).foldl (λ f x=>f.set x.1.2 x.2) (List.replicate size 0)
theorem Bz (size:Nat) (rows:List (Nat×Nat)) (ds:List Nat):(ib size rows ds).length=size:=by
 have:∀(l:List ((Nat×Nat)×Nat)) (f:List Nat),(l.foldl (λ f x=>f.set x.1.2 x.2) f).length=f.length:=by
  intro l
  induction l with
  |nil=>intro f;rfl
  |cons a l ih=>intro f;rw[gG,ih,bt]
 unfold ib;rw[this];simp
theorem ww {α β:Type} (xs:List α) (ys:List β) (n:Nat) {a:α} {b:β} (h1:xs[n]? =some a) (h2:ys[n]? =some b):(xs.zip ys).take (n+1)=(xs.zip ys).take n++[(a,b)]:=by
 rw[ku]
 congr 1
 have e:(xs.zip ys)[n]? =some (a,b):=List.getElem?_zip_eq_some.mpr ⟨h1,h2⟩
 rw[e];rfl
theorem Cn:∀(l:List ((Nat×Nat)×Nat)) (f:List Nat),(l.foldl (λ f x=>f.set x.1.2 x.2) f).length=f.length
 | [],_=>rfl
 |a::l,f=>by rw[gG,Cn l,bt]
theorem zW {h:List AO} {a b size:Nat} {rows:List (Nat×Nat)} {ds:List Nat} (ea:h[a]? =some (.list (rows.map qA))) (eb:h[b]? =some (.list (ds.map nI))) (hl:ds.length≤rows.length) (hs:∀p∈rows,p.2<size) (hz:size≤1000) (hr:rows.length<1000):
  Sp sO [.int size,.ref a,.ref b] h λ r h'=>r= .ref (h.length+1)∧h'[h.length+1]? =some (.list ((ib size rows ds).map nI))∧Fr [] h h':=by
 have lx:(h++[AO.list [AV.int 0]]).length=h.length+1:=by rw[ah];rfl
 w_fin
 w_left
 refine pR (au h [_]) (by omega) (by rw[aX,lN,ac,cC];exact af hz (nb rfl)) ?_
 rw[aX,lN,sJ]
 have F0:Fr [] h (h++[AO.list [AV.int 0]]++[AO.list (List.map nI (List.replicate size 0))]):=((Fr.refl _ _).app _).app _
 have g0:=au (h++[AO.list [AV.int 0]]) [AO.list (List.map nI (List.replicate size 0))]
 rw[lx] at g0⊢
 generalize (h++[AO.list [AV.int 0]]++[AO.list (List.map nI (List.replicate size 0))])=nX at*
 w_left
 refine je ?_
 w_left
 refine yS (F0.get eb) ⟨rfl,gp ds.zipIdx (λ p=>AV.tup [.int (p.2:Nat),nI p.1]) (λ p σ=>∃(o4 o5:Option AV) (h':List AO),σ=⟨[some (.int size),some (.ref a),some (.ref b),some (.ref (h.length+1)),o4,o5],h'⟩∧
  h'[h.length+1]? =some (.list ((((rows.zip ds).take p.length).foldl (λ f x=>f.set x.1.2 x.2) (List.replicate size 0)).map nI))∧Fr [] h h') ⟨none,none,nX,rfl,g0,F0⟩ ?_ ?_ ?_⟩
 ·intro p σ ww0;refine kb ww0 λ o4 o5 h' uu0 g F=>?_;clear ww0;subst uu0
  rw[qu (F.get eb),List.zipIdx_map,bY]
  rfl
 ·intro p x q σ hst ww0;refine kb ww0 λ o4 o5 h' uu0 g F=>?_;clear ww0;subst uu0
  refine dL (tN hst) λ h1 h2=>?_
  clear hst
  have hpl:p.length<ds.length:=(aA.mp h2).1
  have hpr:p.length<rows.length:=by exact ag hpl hl
  have hrx:rows[p.length]? =some rows[p.length]:=aq hpr
  have hlt:=hs rows[p.length] (List.getElem_mem hpr)
  w_left
  refine ig (a:=qA rows[p.length]) (F.get ea) (tC (bh _) (by omega) (by rw[h1,aX,fB,hrx];rfl)) ?_
  w_left
  refine kK g ⟨bh _,by rw[ac,Cn,dz];exact bd.mpr hlt,by omega⟩ ?_
  w_left
  refine⟨_,_,_,rfl,?_,F.set (.inr (jo _)) _⟩
  rw[cx g,ah,b9,ww rows ds p.length hrx h2,fC,aX,kF]
  rfl
 ·intro σ ww0;refine kb ww0 λ o4 o5 h' uu0 g F=>?_;clear ww0;subst uu0
  w_left
  refine⟨rfl,?_,F⟩
  rw[g]
  have:(rows.zip ds).take ds.zipIdx.length=rows.zip ds:=by rw[List.take_of_length_le];simp;omega
  rw[this];rfl
theorem yz (h:List AO) (many longest:Nat) (h1:many≤2^longest) (h2:1≤longest) (h3:longest≤60):Sp oG [.int many,.int longest] h λ r h'=>r= .none∧h'=h:=by
 have e0:decide (((longest:Nat):Int)<1)=false:=decide_eq_false (by omega)
 have c':¬decide (((2^longest:Nat):Int)<((many:Nat):Int))=true:=λ c=>absurd (bd.mp (ay c)) (Nat.not_lt.mpr h1)
 w_fin
 w_left
 generalize decide ((0:Int)<((many:Nat):Int))=b
 cases b
 all_goals
  w_left
  first|rw[e0]|skip
  w_left
  refine ts (k:=longest) (if_pos (by omega)) (by exact af h3 (nb rfl)) ?_
  w_left
  refine fE c' ?_
  w_left
  exact dF rfl rfl
noncomputable def ka (cs:List Nat):List Nat:=
 if(cq cs).length<2 then ib cs.length (ip (cq cs)) (List.replicate (cq cs).length 1) else ib cs.length (ip (cq cs)) (yC ((ip (cq cs)).map (·.1)) 15)
theorem Ad (w:List Nat) (L:Nat):(yC w L).length=w.length:=xh _ _
theorem ml {cs:List Nat} {p:Nat×Nat} (h:p∈cq cs):p.2<cs.length∧cs[p.2]? =some p.1∧0<p.1:=by
 unfold cq at h
 refine dL (List.mem_filter.mp h) λ h1 h2=>?_
 have h3:=List.mem_zipIdx' h1
 refine⟨h3.1,?_,by simpa using h2⟩
 rw[aq h3.1]
 exact congrArg some h3.2.symm
theorem sX (l:List (Nat×Nat)):(ip l).length=l.length:=(cY sU l).length_eq
theorem oT {h:List AO} {m:Nat} {cs:List Nat} (e:h[m]? =some (.list (cs.map nI))) (hl:(cq cs).length<60) (hz:cs.length≤1000):
  Sp iz [.ref m,.int 15] h λ r h'=>∃k,r= .ref k∧h.length≤k∧h'[k]? =some (.list ((ka cs).map nI))∧Fr [] h h':=by
 w_fin
 w_left
 refine Sp.v13 (vw e (by exact ag hl (nb rfl))) λ aN k hk g F=>?_
 have hsl:=sX (cq cs)
 have z1:((ip (cq cs)).map qA).length≤1000000:=by rw[ac];exact bF (aj (V hsl) (ag hl (nb rfl)))
 have z2:(cs.map nI).length≤1000000:=by rw[ac];exact af hz (nb rfl)
 have hmem:∀p∈ip (cq cs),p.2<cs.length:=λ p hp=>(ml ((cY sU _).mem_iff.mp hp)).1
 w_left
 refine gK g z1 ?_
 rw[ac]
 w_left
 refine(yz aN _ 15 (by exact f!"1b32768.>1ba<1a1.+60.<2" hl (V hsl)) ⋯ (by exact mj _ _)).mono λ r bT q=>?_
 refine dL q λ uu0 uu1=>?_;clear q;subst uu0 uu1
 have ge:=F.get e
 w_left
 refine gK g z1 ?_
 rw[ac]
 w_left
 unfold ka
 by_cases q:(cq cs).length<2
 ·rw[if_pos q]
  refine iP (aC (bd.mpr (hsl.symm▸q))) ?_
  have r1:pn (ip (cq cs)).length [AV.int 1]=(List.replicate (cq cs).length 1).map nI:=by rw[pn,z9,mq,hsl];rfl
  w_left
  refine gK ge z2 ?_
  w_left
  refine gK (bf g _) z1 ?_
  rw[ac,ac]
  refine pR (au bT [_]) (by omega) (by rw[aX,r1,ac,dz];exact bF (ag hl (nb rfl))) ?_
  rw[aX,r1]
  w_left
  refine Sp.u12 (zW (ds:=List.replicate (cq cs).length 1) (bf (bf g _) _) (au (bT++[_]) [_]) (by rw[dz,hsl];exact bz _) hmem hz (by exact aj (V hsl) (ag q (nb rfl)))) λ h' g2 F2=>?_
  w_left
  refine⟨_,rfl,?_,g2,((F.app _).app _).trans F2⟩
  have:=F.len
  rw[ah,ah];exact f!"1abc+d+1.+>1ab<4" this
 ·rw[if_neg q]
  refine fE (λ c=>q (hsl▸bd.mp (ay c))) ?_
  w_left
  refine gK ge z2 ?_
  rw[ac]
  w_left
  refine jD (zh (ip (cq cs)) (λ p=>AV.int (p.1:Nat)) (λ p=>AV.int (p.2:Nat)) (λ u=>true) (λ p=>nI p.1) ⋯ ?_)
  w_left
  refine jd g ⟨rfl,_,rfl,dt g,by exact bF (aj (V hsl) (ag hl (nb rfl))),⟨aH rfl,aH rfl⟩,λ x hx=>kL rfl ⟨rfl,rfl⟩,λ x hx u=>kL rfl ⟨rfl,rfl⟩,?_⟩
  rewrite[lB,show(ip (cq cs)).map (λ p=>nI p.1)=((ip (cq cs)).map (·.1)).map nI by rw[bY];rfl]
  have lw:((ip (cq cs)).map (·.1)).length=(cq cs).length:=by rw[ac,hsl]
  refine lU (by rw[ac,lw];exact bF (ag hl (nb rfl))) ?_
  w_left
  refine(sZ (L:=15) (w:=(ip (cq cs)).map (·.1)) (au bT [_]) (by exact bF (aj (V lw) (ag hl (nb rfl)))) (by exact bF (ag (ag (nb rfl) (aG q)) (V lw.symm))) ⋯).mono λ r iQ q=>?_
  refine ry q λ k3 uu0 hk3 g3 F3=>?_;clear q;subst uu0
  have F13:Fr [] bT iQ:=((Fr.refl [] bT).app _).trans F3
  w_left
  refine Sp.u12 (zW (F13.get g) g3 (by rw[Ad,lw,hsl];exact bz _) hmem hz (by exact aj (V hsl) (ag hl (nb rfl)))) λ h' g4 F4=>?_
  w_left
  exact th _ rfl (Nat.le_succ_of_le (af F.len F13.len)) g4 ((F.trans F13).trans F4)
theorem Ge (a b:Nat):Int.fmod (a:Nat) (b:Nat)=((a % b:Nat):Int):=by rw[Int.fmod_eq_emod_of_nonneg _ (by exact bh _)];rfl
theorem Gh (a b:Nat):Int.fdiv (a:Nat) (b:Nat)=((a / b:Nat):Int):=by rw[Int.fdiv_eq_ediv_of_nonneg _ (by exact bh _)];rfl
theorem J9 {l:List (Option AV)} {h:List AO} {n:Nat} {a b:AV} {x y:Option Int} {vs ws:List AV} {Q:AV→St→Prop} (pa:part a=some x) (pb:part b=some y) (e:h[n]? =some (.flist vs)) (ok:jM x y=true) (hl:vs.length≤1000000) (hw:cut vs x y=ws) (hc:ws.length≤1000000)
  (q:Q (.ref h.length) ⟨l,h++[.list ws]⟩):W (wu (.ref n) a b) ⟨l,h⟩ Q:=by subst hw;rw[Ih,pa,pb,e];exact lO ⟨ok,hl⟩ hc q
theorem IW {x y:Int} {σ:St} {Q:AV→St→Prop} (hy:small y=true) (q:Q (.int (x*y)) σ):W (bX .Mult (.int x) (.int y)) σ Q:=by
 rw[Ij];exact dF (by rw[hy,Bool.or_true]) q
theorem Bs {h:List AO} {m:Nat} {ns:List Int} (e:h[m]? =some (.flist (ns.map AV.int))) (hl:ns.length≤63):
  Sp rH [.ref m] h λ r h'=>∃w:Nat,r= .ref (h.length+1)∧h'[h.length+1]? =some (.list [.int w,.int 0])∧Fr [] h h':=by
 have lx:∀o:AO,(h++[o]).length=h.length+1:=λ o=>ah
 w_fin
 w_left
 refine je ?_
 w_left
 refine J9 rfl rfl e rfl (by rw[ac];exact af hl (nb rfl)) (show cut (ns.map AV.int) none (some ((24:Nat):Int))=(ns.take 24).map AV.int by rw[v9,List.map_take]) (by rw[ac];have:=List.length_take_le' 24 ns;exact af this (af hl (nb rfl))) ?_
 refine jd (au h [_]) ⟨rfl,gp (ns.take 24) AV.int (λ p σ=>∃(w:Nat) (o:Option AV),σ=⟨[some (.ref m),some (.int w),o],h++[AO.list ((ns.take 24).map AV.int)]⟩) ⟨0,none,rfl⟩ ?_ ?_ ?_⟩
 ·intro p σ ww0;refine uu ww0 λ w o uu0=>?_;clear ww0;subst uu0
  exact dt (au h [_])
 ·intro p x q σ hst ww0;refine uu ww0 λ w o uu0=>?_;clear ww0;subst uu0
  clear hst
  w_left
  refine IW rfl ?_
  w_left
  exact En _ (some (.int x)) (by rw[lJ (Int.fmod_nonneg_of_pos _ (show(0:Int)<(10:Int)^(Int.toNat 70) by decide))])
 ·intro σ ww0;refine uu ww0 λ w o uu0=>?_;clear ww0;subst uu0
  w_left
  exact Aj w (by rw[lx]) (lx (.list ((ns.take 24).map AV.int))▸au (h++[_]) [_]) (((Fr.refl _ _).app _).app _)
noncomputable def PL (h:List AO) (n:Nat):Prop:=∃w c:Nat,h[n]? =some (.list [.int w,.int c])
theorem PL.mono {h h':List AO} {n:Nat} (x:PL h n) (f:Fr [] h h'):PL h' n:=let⟨w,c,e⟩:=x;⟨w,c,f.get e⟩
theorem PL.lt {h:List AO} {n:Nat} (x:PL h n):n<h.length:=let⟨w,c,e⟩:=x;kG e
theorem Bq {h:List AO} {n m:Nat} (X:PL h n) (h1:0<m) (h2:m<1000000):
  Sp fG [.ref n,.int m] h λ r h'=>∃d:Nat,r=nI d∧d<m∧PL h' n∧h'.length=h.length∧Fr [n] h h':=by
 refine uu X λ w c e=>?_;clear X
 have z:∀o:AO,Fr [n] h (h.set n o):=λ o=>(Fr.refl _ _).set (.inl (bu.mpr rfl)) o
 have b1:((m:Nat):Int)≠0:=by omega
 have md:∀(v:Nat) {Q:AV→St→Prop} {σ:St},Q (.int (v % m:Nat)) σ→W (bX .Mod (.int (v:Nat)) (.int (m:Nat))) σ Q:=λ v Q σ q=>by rw[KC];exact dF b1 (by rw[Ge];exact q)
 have fd:∀(v:Nat) {Q:AV→St→Prop} {σ:St},Q (.int (v / m:Nat)) σ→W (bX .FloorDiv (.int (v:Nat)) (.int (m:Nat))) σ Q:=λ v Q σ q=>by rw[Jy];exact dF ⟨b1,by omega+splitNatSub⟩ (by rw[Gh];exact q)
 w_fin
 w_left
 refine ig (a:=.int w) e rfl ?_
 w_left
 by_cases q:0<w
 ·refine iP (aC (bd.mpr q)) ?_
  w_left
  refine ig (a:=.int w) e rfl ?_
  w_left
  refine md w ?_
  w_left
  refine ig (a:=.int w) e rfl ?_
  w_left
  refine fd w ?_
  w_left
  refine kK e (show(0:Int)≤0∧(0:Int)<((2:Nat):Int)∧(0:Int)<2^62 by decide) ?_
  w_left
  exact yH _ rfl (jv _ h1) ⟨_,_,cx e _⟩ bt (z _)
 ·refine fE (λ c=>q (bd.mp (ay c))) ?_
  w_left
  refine ig (a:=.int c) e rfl ?_
  w_left
  refine kK e (show(0:Int)≤1∧(1:Int)<((2:Nat):Int)∧(1:Int)<2^62 by decide) ?_
  w_left
  refine ig (a:=.int (c+1:Int)) (cx e _) rfl ?_
  w_left
  rw[show(7:Int)*((c:Int)+1)+3=((7*(c+1)+3:Nat):Int) by omega]
  refine md _ ?_
  w_left
  exact yH _ rfl (jv _ h1) ⟨w,c+1,cx e _⟩ bt (z _)
noncomputable def lq (g:Nat) (s:Nat×List (Nat×Nat)):Nat×List (Nat×Nat):=(s.1+2^(g-1),s.2++[(s.1,g-1)])
noncomputable def vy (size g:Nat) (s:Nat×List (Nat×Nat)):Nat×List (Nat×Nat):=(List.range size).foldl (λ s z=>lq g s) s
noncomputable def z7 (first groups size:Nat):Nat×List (Nat×Nat):=(List.range groups).foldl (λ s g=>vy size g s) (first,[])
theorem DY (size g:Nat) (s:Nat×List (Nat×Nat)):(vy size g s).2.length=s.2.length+size:=by
 unfold vy
 induction size with
 |zero=>rfl
 |succ k ih=>
  rw[jQ,fC,gG,List.foldl_nil]
  unfold lq at*
  rw[ah,ih];rfl
theorem Hh (x:Nat):(if(x:Int)-1>0 then(x:Int)-1 else 0)=((x-1:Nat):Int):=by split<;>omega
theorem vx (h:List AO) (first groups size:Nat) (hg:groups≤20) (hs:size≤10):
  Sp oF [.int first,.int groups,.int size] h λ r h'=>r= .ref h.length∧h'[h.length]? =some (.list ((z7 first groups size).2.map qA))∧Fr [] h h':=by
 w_fin
 w_left
 have g0:=au h [AO.list []]
 have F0:Fr [] h (h++[AO.list []]):=(Fr.refl _ _).app _
 generalize (h++[AO.list []])=nX at*
 refine je ?_
 w_left
 refine oz groups _ _ (by exact aj hg (nb rfl)) ⟨rfl,?_⟩
 refine gp (List.range groups) (λ(i:Nat)=>AV.int (i:Nat)) (λ p σ=>∃(o4 o5:Option AV) (h':List AO),σ=⟨[some (.int (p.foldl (λ s g=>vy size g s) (first,[])).1),some (.int groups),some (.int size),some (.ref h.length),o4,o5],h'⟩∧
  h'[h.length]? =some (.list ((p.foldl (λ s g=>vy size g s) (first,[])).2.map qA))∧(p.foldl (λ s g=>vy size g s) (first,[])).2.length=p.length*size∧Fr [] h h') ⟨none,none,nX,rfl,g0,(Nat.zero_mul _).symm,F0⟩ ?_ ?_ ?_
 ·intro p σ ww0;refine tj ww0 λ o4 o5 h' uu0 u=>?_;clear ww0;subst uu0
  exact jO groups h'
 ·intro p x q σ hst ww0;refine nV ww0 λ o4 o5 h' uu0 g hlen F=>?_;clear ww0;subst uu0
  refine dL (iV hst) λ hx hp=>?_
  clear hst
  rw[fC,gG,List.foldl_nil]
  generalize (p.foldl (λ s g=>vy size g s) (first,[]))=S at*
  have hpb:p.length*size≤200:=af (Nat.mul_le_mul (bF hp) hs) (by exact f!"1a10:200.>10a20.<1" hg)
  w_left
  refine je ?_
  w_left
  refine oz size _ _ (by exact aj hs (nb rfl)) ⟨rfl,?_⟩
  refine gp (List.range size) (λ(i:Nat)=>AV.int (i:Nat)) (λ lW σ=>∃(o5:Option AV) (h':List AO),σ=⟨[some (.int (lW.foldl (λ s u=>lq x s) S).1),some (.int groups),some (.int size),some (.ref h.length),some (.int x),o5],h'⟩∧
   h'[h.length]? =some (.list ((lW.foldl (λ s u=>lq x s) S).2.map qA))∧(lW.foldl (λ s u=>lq x s) S).2.length=S.2.length+lW.length∧Fr [] h h') ⟨o5,h',rfl,g,rfl,F⟩ ?_ ?_ ?_
  ·intro lW σ ww0;refine ce ww0 λ o5 h' uu0 u=>?_;clear ww0;subst uu0
   exact jO size h'
  ·intro lW bq JR σ tt ww0;refine ft ww0 λ o5 h' uu0 g1 hl1 F1=>?_;clear ww0;subst uu0
   refine dL (iV tt) λ hx1 hp1=>?_
   clear tt
   rw[fC,gG,List.foldl_nil,ah,b9]
   generalize (lW.foldl (λ s u=>lq x s) S)=S' at*
   w_left
   refine kd rfl g1 (by rw[ac];exact f!"1e1000000.>1ebd+<1d1.+a<1c200.<1bc<1a10.<5" hs (V hlen) hpb hp1 (V hl1)) ?_
   w_left
   rw[Hh]
   refine ts rfl (by exact f!"1d1000000.>1db<1c1.+a<1bc<1a20.<4" hg (V hx) hp (eS _ _)) ?_
   w_left
   refine⟨_,_,rfl,?_,?_,F1.set (.inr (bz _)) _⟩
   ·rw[cx g1];unfold lq;rw[bk];rfl
   ·unfold lq;rw[ah,hl1];rfl
  ·intro σ ww0;refine ft ww0 λ o5 h' uu0 g1 hl1 F1=>?_;clear ww0;subst uu0
   w_left
   refine⟨_,_,_,rfl,g1,?_,F1⟩
   rw[DY,hlen,ah,jp,b9,Nat.one_mul]
 ·intro σ ww0;refine nV ww0 λ o4 o5 h' uu0 g hlen F=>?_;clear ww0;subst uu0
  w_left
  exact lO rfl g F
noncomputable def ru (rows:List (Nat×Nat)) (v:Nat):Nat×Nat×Nat:=
 ((rows.filter λ r=>decide (r.1≤v)).length-1,(rows.getD ((rows.filter λ r=>decide (r.1≤v)).length-1) (0,0)).2,v-(rows.getD ((rows.filter λ r=>decide (r.1≤v)).length-1) (0,0)).1)
theorem r9 {h:List AO} {a v:Nat} {rows:List (Nat×Nat)} (e:h[a]? =some (.list (rows.map qA))) (hl:rows.length≤100) (h1:1≤(rows.filter λ r=>decide (r.1≤v)).length)
  (h2:(rows.getD ((rows.filter λ r=>decide (r.1≤v)).length-1) (0,0)).1≤v):Sp mh [.ref a,.int v] h λ r h'=>r=t3 (ru rows v)∧Fr [] h h':=by
 have hfl:(rows.filter λ r=>decide (r.1≤v)).length≤rows.length:=il _ _
 unfold ru
 w_fin
 w_left
 refine jD (k0 rows qA (λ r=>decide (r.1≤v)) qA ?_)
 w_left
 refine jd e ⟨rfl,_,rfl,dt e,by exact af hl (nb rfl),aH rfl,λ x hx=>?_,λ x hx u=>kL rfl ⟨rfl,rfl⟩,?_⟩
 ·w_left
  exact dF (decide_eq_decide.mpr eL) rfl
 generalize hcc:(rows.filter λ r=>decide (r.1≤v))=C at*
 have zz:(C.map qA).length≤1000000:=by rw[ac];exact af hfl (af hl (nb rfl))
 refine lU zz ?_
 w_left
 refine gK (au h [_]) zz ?_
 rw[ac]
 have hk:C.length-1<rows.length:=by exact f!"1c1.+b>1c1.+a<1ab<3" hfl (V (ai h1))
 have at1:at_ (rows.map qA) ((C.length-1:Nat):Int)=some (qA (rows.getD (C.length-1) (0,0))):=tC (bh _) (by omega) (by rw[aX,fB,aq hk,aM,aq hk];rfl)
 clear hcc
 w_left
 rw[show(C.length:Int)-1=((C.length-1:Nat):Int) by omega]
 refine ig (bf e _) at1 ?_
 w_left
 refine ig (bf e _) at1 ?_
 w_left
 refine⟨?_,(Fr.refl _ _).app _⟩
 unfold t3
 dsimp only
 rw[show(v:Int)-(((rows.getD (C.length-1) (0,0)).1:Nat):Int)=((v-(rows.getD (C.length-1) (0,0)).1:Nat):Int) by omega]
noncomputable def lT:List (Nat×Nat):=(z7 3 7 4).2++[(258,0)]
noncomputable def iK:List (Nat×Nat):=(z7 1 15 2).2
theorem Hm:∀L<259,3≤L→1≤(lT.filter λ r=>decide (r.1≤L)).length∧(lT.getD ((lT.filter λ r=>decide (r.1≤L)).length-1) (0,0)).1≤L∧
  ru lT L=((cu L).1-257,(cu L).2.1,(cu L).2.2):=by decide+kernel
theorem xz:lT.length=29:=by decide+kernel
theorem s7:iK.length=30:=by decide+kernel
theorem BV {A B:List (Nat×Nat)} {v:Nat} (hA:∀r∈A,r.1≤v) (hB:∀r∈B,v<r.1):((A++B).filter λ r=>decide (r.1≤v)).length=A.length:=by
 rw[eT,List.filter_eq_self.mpr (λ r hr=>aC (hA r hr)),List.filter_eq_nil_iff.mpr (λ r hr=>by have:=hB r hr;simp;with_unfolding_all exact f!"1a1.+b>1a1.+b<2" this),eJ]
noncomputable def uC (s:Nat):Nat:=(iK.getD s (0,0)).1+2^(iK.getD s (0,0)).2
theorem Fo:∀s<30,(∀r∈iK.take (s+1),r.1≤(iK.getD s (0,0)).1)∧(∀r∈iK.drop (s+1),uC s≤r.1):=by decide+kernel
theorem z8 {s d:Nat} (hs:s<30) (h1:(iK.getD s (0,0)).1≤d) (h2:d<uC s):(iK.filter λ r=>decide (r.1≤d)).length=s+1:=by
 refine dL (Fo s hs) λ a b=>?_
 have:=BV (A:=iK.take (s+1)) (B:=iK.drop (s+1)) (v:=d) (λ r hr=>af (a r hr) h1) (λ r hr=>ag h2 (b r hr))
 rw[n6] at this
 rw[this,jg,s7]
 omega
theorem D4:∀s<4,iK.getD s (0,0)=(s+1,0):=by decide+kernel
theorem Bx:∀e<14,1≤e→∀b<2,iK.getD (2*(e+1)+b) (0,0)=(1+(2+b)*2^e,e):=by decide+kernel
theorem CN {d:Nat} (h1:1≤d) (h2:d≤32768):1≤(iK.filter λ r=>decide (r.1≤d)).length∧(iK.getD ((iK.filter λ r=>decide (r.1≤d)).length-1) (0,0)).1≤d∧ru iK d=b0 d:=by
 by_cases q:d-1<4
 ·have r:=D4 (d-1) q
  have k:=z8 (s:=d-1) (d:=d) (by exact ag q (nb rfl)) (by rw[r];show d-1+1≤d;exact f!"1b1.+a>1b1.+a<2" (V (ai h1))) (by unfold uC;rw[r];show d<d-1+1+2^0;exact f!"1b1.+a1.+1.+>1ba1.+<2" (sA _ _))
  refine⟨by exact f!"1 1.b>1a1.+b<2" (V k.symm),?_,?_⟩
  ·rw[k,Nat.add_sub_cancel,r];show d-1+1≤d;exact f!"1b1.+a>1b1.+a<2" (V (ai h1))
  ·unfold ru b0
   rw[k,Nat.add_sub_cancel,r,if_pos q]
   show(d-1,0,d-(d-1+1))=_
   rw[show d-(d-1+1)=0 by omega]
 ·have hn:d-1≠0:=by exact ch (ag (nb rfl) (aG q))
  have g1:2≤(d-1).log2:=yJ hn (by exact f!"1 4.a>1 4.a<1" (aG q))
  have g2:(d-1).log2<15:=log2_lt hn (by exact f!"1b1.+32768.>1b1.+a<1a32768.<2" h2 (V (ai (f!"1 1.b>1ab<1 4.a<2" (aG q) (eS _ _)))))
  have lo:=Nat.log2_self_le hn
  have hi:d-1<2^((d-1).log2+1):=Nat.lt_log2_self
  obtain⟨e,he⟩:∃e,(d-1).log2=e+1:=⟨(d-1).log2-1,by exact jm (f!"1ba1.+>1ba1.+<2" (sA _ _))<|f!"1b1.+a>1b1.+a<2" (V (ai (f!"1 1.a>1 2.a<1" g1)))⟩
  unfold ru b0
  rw[if_neg q,he,Nat.add_sub_cancel]
  rw[he] at lo hi g1 g2
  have hb:(d-1) / 2^e=2+(d-1) / 2^e % 2:=by
   have a1:2≤(d-1) / 2^e:=by rw[Nat.le_div_iff_mul_le (cR _),dj,←gc];exact lo
   have a2:(d-1) / 2^e<4:=by rw[n5 (cR _),show 4*2^e=2^(e+1+1) by rw[gc,gc];with_unfolding_all exact jm (f!"1 4a*a2:2:>1") f!"1a2:2:4a*>1"];exact hi
   omega
  have hm:=Nat.div_add_mod (d-1) (2^e)
  have hlt:=jv (d-1) (cR e)
  have hb2:(d-1) / 2^e % 2<2:=jv _ (by exact k5 _)
  generalize (d-1) / 2^e % 2=b at*
  rw[hb] at hm
  have r:=Bx e (by exact f!"1a1.+14.>1a2.+15.<1" g2) (by exact f!"1 1.a>1 2.a1.+<1" g1) b hb2
  have hmul:2^e*(2+b)=(2+b)*2^e:=dj _ _
  have k:=z8 (s:=2*(e+1)+b) (d:=d) (by exact f!"1 2a1.+*b+1.+30.>1b1.+2.<2a2.+15.<2" g2 hb2) (by rw[r];show 1+(2+b)*2^e≤d;exact f!"1 1.d+e>1c1.+e<1da<1ab+c<5" (V hm) (V hmul.symm) (V (ai h1))) (by unfold uC;rw[r];show d<1+(2+b)*2^e+2^e;exact f!"1f1.+1.e+b+>1fc1.+<1de<1cda+<1a1.+b<6" hlt (V hm.symm) (V hmul) (sA _ _))
  rw[k,Nat.add_sub_cancel,r]
  refine⟨by exact k5 _,by show 1+(2+b)*2^e≤d;exact f!"1 1.d+e>1c1.+e<1da<1ab+c<5" (V hm) (V hmul.symm) (V (ai h1)),?_⟩
  show(2*(e+1)+b,e,d-(1+(2+b)*2^e))=_
  rw[show d-(1+(2+b)*2^e)=(d-1) % 2^e by omega+splitNatSub]
theorem BW (h:List AO) (x:Nat):∀xs:List Nat,De h (AV.int x) (xs.map nI)=some (xs.map λ y=>y==x)
 | []=>rfl
 |y::xs=>by
  show(match pw 4 h (AV.int (y:Int)) (AV.int (x:Int)),De h (AV.int x) (xs.map nI) with|some b,some r=>some (b::r)|_,_=>none)=_
  rw[show(pw 4 h (AV.int (y:Int)) (AV.int (x:Int)))=some (((y:Nat):Int)==((x:Nat):Int)) from rfl]
  rw[BW h x xs]
  dsimp only
  congr 2
  show((y:Int)==(x:Int))=(y==x)
  by_cases q:y=x
  ·subst q;simp
  ·rw[ck.mpr q,ck.mpr (λ z=>q (by omega))]
theorem Jk (xs:List Nat) (x:Nat):(xs.map λ y=>y==x).any id=decide (x∈xs):=by
 induction xs with
 |nil=>rfl
 |cons y xs ih=>
  rw[aB,List.any_cons,ih]
  by_cases q:y=x
  ·subst q;simp
  ·have:¬x=y:=λ z=>q z.symm
   simp[q,this]
theorem Dr {n x:Nat} {xs:List Nat} {h:List AO} (e:h[n]? =some (.list (xs.map nI))) (l:List (Option AV)) (Q:AV→St→Prop):W (td (.int x) (.ref n)) ⟨l,h⟩ Q=Q (.bool (!decide (x∈xs))) ⟨l,h⟩:=by
 rw[dg]
 unfold W' td getL
 dsimp only
 rw[e]
 dsimp only
 rw[BW,←Jk]
theorem HO {n x:Nat} {xs:List Nat} {h:List AO} (e:h[n]? =some (.list (xs.map nI))) (l:List (Option AV)) (Q:AV→St→Prop):W (oy (.ref n) [.int x]) ⟨l,h⟩ Q=Q (.int (xs.count x:Nat)) ⟨l,h⟩:=by
 rw[dg]
 unfold W' oy pv
 dsimp only
 rw[e]
 dsimp only
 rw[BW]
 dsimp only
 rw[List.countP_map]
 rfl
theorem ol {h:List AO} {m:Nat} {marks:List Nat} (e:h[m]? =some (.list (marks.map nI))) (hl:marks.length≤1000):
  Sp ko [.ref m] h λ r h'=>∃k,r= .ref k∧h.length≤k∧h'[k]? =some (.list ((firsts marks).map nI))∧Fr [] h h':=by
 w_fin
 refine jD (uU marks.zipIdx (λ p=>AV.tup [.int (p.2:Nat),nI p.1]) (λ p out σ=>out=(firsts (p.map (·.1))).map nI∧∃(o o2:Option AV) (h':List AO),σ=⟨[some (.ref m),o,o2],h'⟩∧Fr [] h h') ?_ ?_)
 ·w_left
  refine yS e ⟨rfl,?_,⟨rfl,none,none,h,rfl,Fr.refl _ _⟩,?_,?_⟩
  ·intro i hi
   rcases bo.mp hi with rfl|hi
   ·exact aH rfl
   ·rw[bu.mp hi];exact aH rfl
  ·intro p out σ ww0;refine dL ww0 λ u y=>?_;refine tj y λ o o2 h' uu0 F=>?_;clear y ww0;subst uu0
   refine⟨?_,rfl⟩
   rw[qu (F.get e),List.zipIdx_map,bY]
   rfl
  ·intro out σ ww0;refine dL ww0 λ uu0 y=>?_;refine tj y λ o o2 h' uu1 F=>?_;clear y ww0;subst uu0 uu1
   rw[lI]
   have hfl:=ii marks
   have z1:((firsts marks).map nI).length≤1000000:=by rw[ac];exact af hfl (af hl (nb rfl))
   refine⟨z1,lU z1 ?_⟩
   w_left
   exact th _ rfl F.len (au h' [_]) (F.app _)
 ·intro p x q out σ hst ww0;refine dL ww0 λ uu0 y=>?_;refine tj y λ o o2 h' uu1 F=>?_;clear y ww0;subst uu0 uu1
  refine dL (tN hst) λ h1 h2=>?_
  have hpl:p.length<marks.length:=(aA.mp h2).1
  have hpm:p.map (·.1)=marks.take p.length:=by
   have:(marks.zipIdx.map (·.1)).take p.length=(p.map (·.1)):=by rw[hst];simp
   rw[lI] at this
   exact this.symm
  clear hst
  have c1:cut (marks.map nI) none (some ((x.2:Nat):Int))=(p.map (·.1)).map nI:=by rw[v9,h1,hpm,List.map_take]
  rw[bk,mo,hZ]
  w_left
  refine FM rfl rfl (F.get e) (by unfold jM;simp) (by rw[ac];exact af hl (nb rfl)) (by rw[c1,ac,ac];exact bF (ag hpl (af hl (nb rfl)))) ?_
  rw[c1]
  w_left
  rw[nI,Dr (au h' [_])]
  by_cases q0:x.1∈p.map (·.1)
  ·rw[if_pos ((eW _ x.1).mpr q0),aC q0]
   w_left
   exact(show _∧_ from⟨rfl,_,_,_,rfl,F.app _⟩)
  ·rw[if_neg λ z=>q0 ((eW _ x.1).mp z),decide_eq_false q0]
   w_left
   exact dF (by rw[bk];rfl) (IH _ _ _ rfl (F.app _))
theorem oe {h:List AO} {n m:Nat} (X:PL h n) (h1:0<m) (h2:m<1000000) {R:AV→List AO→Prop} (q:∀(d:Nat) h',d<m→PL h' n→h'.length=h.length→Fr [n] h h'→R (.int d) h'):Sp fG [.ref n,.int m] h R:=
 (Bq X h1 h2).mono λ r h' x=>by refine CP x λ d uu0 a b c e=>?_;clear x;subst uu0;exact q d h' a b c e
theorem fm {P:AV→Prop} {a:AV} {l:List AV} (x:P a) (y:∀v∈l,P v):∀v∈a::l,P v:=List.forall_mem_cons.mpr ⟨x,y⟩
noncomputable def Pk (lo hi:Nat) (v:AV):Prop:=∃b:Nat,v= .int b∧lo≤b∧b≤hi
theorem pk {lo hi:Nat} (b:Nat) (h1:Nat.ble lo b=true) (h2:Nat.ble b hi=true):Pk lo hi (.int b):=⟨b,rfl,aH h1,aH h2⟩
theorem BK {l:List (Option AV)} {h:List AO} {n d lo hi:Nat} {vs:List AV} {Q:AV→St→Prop} (e:h[n]? =some (.list vs)) (hd:d<vs.length) (hb:Nat.blt vs.length 1000000=true) (hv:∀v∈vs,Pk lo hi v)
  (q:∀b:Nat,lo≤b→b≤hi→Q (.int b) ⟨l,h⟩):W (de (.ref n) (.int d)) ⟨l,h⟩ Q:=by
 refine dU (hv _ (List.getElem_mem hd)) λ b e2 h1 h2=>?_
 have hb:=aH hb
 refine ig e (tC (bh _) (by omega) (by rw[aX,aq hd,e2])) (q b h1 h2)
theorem Kf {b:Bool} {x y:Nat} {σ:St} {Q:AV→St→Prop} (q:Q (.int (bif b then x else y:Nat)) σ):W (if b=true then ret (.int (x:Nat)) else ret (.int (y:Nat))) σ Q:=by cases b<;>exact kL rfl q
noncomputable def SJ (h:List AO) (n:Nat) (wide:Bool) (k:Nat) (σ:St):Prop:=∃(o3 o4:Option AV) (h':List AO) (st:List (Nat×Nat)),σ=⟨[some (.ref n),some (.bool wide),some (.ref h.length),o3,o4],h'⟩∧h'[h.length]? =some (.list (st.map rh))∧(∀p∈st,pq p)∧st.length=k+1∧PL h' n∧
   h.length+1≤h'.length∧Fr [n] h h'
theorem Cm {h h':List AO} {n:Nat} {wide:Bool} {k a b:Nat} {st:List (Nat×Nat)} {o3 o4:Option AV} (hn:n<h.length) (ok:∀p∈st,pq p) (hl:st.length=k+1) (hab:pq (a,b)) (g:h'[h.length]? =some (.list (st.map rh))) (X:PL h' n) (l:h.length+1≤h'.length) (F:Fr [n] h h'):
  SJ h n wide (k+1) ⟨[some (.ref n),some (.bool wide),some (.ref h.length),o3,o4],h'.set h.length (.list (st.map rh++[.tup [.int a,.int b]]))⟩:=by
 refine⟨o3,o4,_,st++[(a,b)],rfl,?_,?_,by rw[ah,hl];rfl,?_,by rw[bt];exact l,F.set (.inr (bz _)) _⟩
 ·rw[cx g,bk];rfl
 ·intro p hp
  rcases gF.mp hp with hp|hp
  ·exact ok p hp
  ·rw[bu.mp hp];exact hab
 ·refine uu X λ w' c' e=>?_;clear X
  exact En w' c' (aU e (ch hn) _)
theorem jr {n k:Nat} {h h':List AO} (F:Fr [n] h h') (hk:k≠n) {o:AO} (e:h[k]? =some o):h'[k]? =some o:=F.keep _ _ (λ z=>hk (bu.mp z)) e
theorem zX {h:List AO} {n:Nat} {wide:Bool} (X:PL h n):
  Sp qa [.ref n,.bool wide] h λ r h'=>∃st:List (Nat×Nat),r= .ref h.length∧h'[h.length]? =some (.list (st.map rh))∧(∀p∈st,pq p)∧1≤st.length∧st.length≤11∧PL h' n∧Fr [n] h h':=by
 have hn:=X.lt
 have ne:h.length≠n:=ch hn
 w_fin
 w_left
 refine oe X (m:=256) ⋯ ⋯ λ d0 aN hd0 X1 l1 F1=>?_
 w_left
 rw[l1]
 have X2:=X1.mono ((Fr.refl [] aN).app [.list [.tup [.int 0,.int d0]]])
 have g2:(aN++[AO.list [AV.tup [AV.int 0,AV.int d0]]])[h.length]? =some (.list ([(0,d0)].map rh)):=l1▸au aN [_]
 have l2:h.length+1≤(aN++[AO.list [AV.tup [AV.int 0,AV.int d0]]]).length:=by rw[ah,l1];exact bz _
 have F2:=F1.app [AO.list [AV.tup [AV.int 0,AV.int d0]]]
 generalize (aN++[AO.list [AV.tup [AV.int 0,AV.int d0]]])=bT at*
 refine je ?_
 w_left
 refine Kf (x:=11) (y:=3) ?_
 w_left
 refine oe X2 (m:=bif wide then 11 else 3) (by cases wide<;>decide) (by cases wide<;>decide) λ d iQ hd X3 l3 F3=>?_
 have hd:d≤10:=by cases wide<;>simp only[cond_true,cond_false] at hd<;>omega
 w_left
 refine oz d _ _ (by exact aj hd (nb rfl)) ⟨rfl,?_⟩
 refine gp (List.range d) (λ(i:Nat)=>AV.int (i:Nat)) (λ p σ=>SJ h n wide p.length σ) ⟨none,none,iQ,[(0,d0)],rfl,jr F3 ne g2,?_,rfl,X3,l3▸l2,F2.trans F3⟩ ?_ ?_ ?_
 ·intro p hp;rw[bu.mp hp];exact .inl ⟨rfl,hd0⟩
 ·intro p σ ww0;refine Hn ww0 λ o3 o4 h' st uu0 u=>?_;clear ww0;subst uu0
  exact jO d h'
 ·intro p x q σ hst ww0;refine fq ww0 λ o3 o4 h' st uu0 g ok y=>?_;refine oW y λ hl X4 l4 F4=>?_;clear y ww0;subst uu0
  have hp:=(iV hst).2
  clear hst
  rw[ah,b9]
  have z1:(st.map rh).length≤1000000:=by rw[ac];exact f!"1b1000000.>1c1.+a<1bc1.+<1a10.<3" hd (V hl) hp
  w_left
  refine oe X4 (m:=3) ⋯ ⋯ λ d5 ot hd5 X5 l5 F5=>?_
  have g5:=jr F5 ne g
  w_left
  by_cases q0:d5=0
  ·subst q0
   w_left
   refine BN g5 ?_
   w_left
   refine oe (X5.mono ((Fr.refl _ _).app _)) (m:=4) ⋯ ⋯ λ d6 pS hd6 X6 l6 F6=>?_
   w_left
   have:=X5.lt
   refine BK (lo:=0) (hi:=255) (jr F6 (by exact ch this) (au ot [_])) hd6 rfl (fm (pk 0 rfl rfl) (fm (pk 97 rfl rfl) (fm (pk 255 rfl rfl) (fm (pk 144 rfl rfl) nofun)))) λ b u hb=>?_
   w_left
   have g6:=jr F6 ne (bf g5 _)
   refine⟨_,g6,z1,_,rfl,?_⟩
   w_left
   exact Cm hn ok hl (.inl ⟨rfl,Nat.lt_succ_of_le hb⟩) g6 X6 (by rw[l6,ah];exact f!"1a1.+cd+>1bc<1a1.+b<4" l4 (V l5.symm)) ((F4.trans F5).trans (((Fr.refl [n] ot).app _).trans F6))
  ·refine fE (λ c=>q0 (eC (ez c))) ?_
   w_left
   refine oe X5 (m:=256) ⋯ ⋯ λ d6 pS hd6 X6 l6 F6=>?_
   w_left
   refine oe (X6.mono ((Fr.refl _ _).app _)) (m:=10) ⋯ ⋯ λ d7 FU hd7 X7 l7 F7=>?_
   have g7:=jr F7 ne (bf (jr F6 ne g5) _)
   have F7':Fr [n] h FU:=((F4.trans F5).trans F6).trans (((Fr.refl [n] pS).app _).trans F7)
   have:=X6.lt
   w_left
   refine BK (lo:=3) (hi:=258) (jr F7 (by exact ch this) (au pS [_])) hd7 rfl (fm (pk 3 rfl rfl) (fm (pk 4 rfl rfl) (fm (pk 10 rfl rfl) (fm (pk 11 rfl rfl) (fm (pk 18 rfl rfl) (fm (pk 66 rfl rfl) (fm (pk 130 rfl rfl) (fm (pk 257 rfl rfl) (fm (pk 258 rfl rfl)
    (fm ⟨3+d6,rfl,hP _ _,by exact f!"1 3.a+258.>1a1.+256.<1" hd6⟩ nofun)))))))))) λ a ha hb=>?_
   w_left
   refine BN g7 ?_
   w_left
   refine oe X7 (m:=32768) ⋯ ⋯ λ d8 I1 hd8 X8 l8 F8=>?_
   w_left
   refine oe (X8.mono ((Fr.refl _ _).app _)) (m:=10) ⋯ ⋯ λ d9 EA hd9 X9 l9 F9=>?_
   have:=X8.lt
   w_left
   refine BK (lo:=1) (hi:=32768) (jr F9 (by exact ch this) (au I1 [_])) hd9 rfl (fm (pk 1 rfl rfl) (fm (pk 2 rfl rfl) (fm (pk 4 rfl rfl) (fm (pk 5 rfl rfl) (fm (pk 9 rfl rfl) (fm (pk 33 rfl rfl) (fm (pk 24576 rfl rfl) (fm (pk 24577 rfl rfl) (fm (pk 32768 rfl rfl)
    (fm ⟨1+d8,rfl,hP _ _,by exact f!"1 1.a+32768.>1a1.+32768.<1" hd8⟩ nofun)))))))))) λ b hb1 hb2=>?_
   w_left
   have g9:=jr F9 ne (bf (jr F8 ne g7) _)
   refine⟨_,g9,z1,_,rfl,?_⟩
   w_left
   exact Cm hn ok hl (.inr ⟨ha,hb,hb1,hb2⟩) g9 X9 (by rw[l9,ah,l8,l7,ah];exact f!"1a1.+de+f+>1cd<1bc<1a1.+b<6" l4 (V l5.symm) (V l6.symm)) ((F7'.trans F8).trans (((Fr.refl [n] I1).app _).trans F9))
 ·intro σ ww0;refine fq ww0 λ o3 o4 h' st uu0 g ok y=>?_;refine oW y λ hl X4 l4 F4=>?_;clear y ww0;subst uu0
  rw[bE] at hl
  w_left
  exact Eo st rfl g ok (by exact f!"1 1.b>1a1.+b<2" (V hl.symm)) (by exact f!"1b11.>1ba1.+<1a10.<2" hd (V hl)) X4 F4
theorem zY {h:List AO} {a b c:Nat} {st:List (Nat×Nat)} (ea:h[a]? =some (.list (st.map rh))) (eb:h[b]? =some (.list (lT.map qA))) (ec:h[c]? =some (.list (iK.map qA))) (ok:∀p∈st,pq p) (hl:st.length≤100):
  Sp qc [.ref a,.ref b,.ref c] h λ r h'=>r= .tup [.ref h.length,.ref (h.length+1),nI (lR st)]∧h'[h.length]? =some (.list ((cb st).map nI))∧h'[h.length+1]? =some (.list ((dy st).map nI))∧Fr [] h h':=by
 have e1:(h++[AO.list [AV.int 256]]).length=h.length+1:=by rw[ah];rfl
 have F0:Fr [] h (h++[AO.list [AV.int 256]]++[AO.list []]):=((Fr.refl _ _).app _).app _
 have g0:(h++[AO.list [AV.int 256]]++[AO.list []])[h.length]? =some (.list ((cb []).map nI)):=bf (au h [_]) _
 have g1:(h++[AO.list [AV.int 256]]++[AO.list []])[h.length+1]? =some (.list ((dy []).map nI)):=e1▸au (h++[_]) [_]
 have l0:h.length+2≤(h++[AO.list [AV.int 256]]++[AO.list []]).length:=by rw[ah,e1];exact bz _
 w_fin
 w_left
 rw[e1]
 generalize (h++[AO.list [AV.int 256]]++[AO.list []])=nX at*
 refine je ?_
 w_left
 refine jd (F0.get ea) ⟨rfl,?_⟩
 refine gp st rh (λ p σ=>∃(o6 o7 o8 o9:Option AV) (h':List AO),σ=⟨[some (.ref a),some (.ref b),some (.ref c),some (.ref h.length),some (.ref (h.length+1)),some (.int (lR p:Nat)),o6,o7,o8,o9],h'⟩∧h'[h.length]? =some (.list ((cb p).map nI))∧
  h'[h.length+1]? =some (.list ((dy p).map nI))∧h.length+2≤h'.length∧Fr [] h h') ⟨none,none,none,none,nX,rfl,g0,g1,l0,F0⟩ ?_ ?_ ?_
 ·intro p σ ww0;refine jN ww0 λ o6 o7 o8 o9 h' uu0 g0 y=>?_;refine iH y λ g1 l F=>?_;clear y ww0;subst uu0
  exact dt (F.get ea)
 ·intro p x q σ hst ww0;refine jN ww0 λ o6 o7 o8 o9 h' uu0 g0 y=>?_;refine iH y λ g1 l F=>?_;clear y ww0;subst uu0
  have hx:pq x:=ok x (by rw[hst];simp)
  have hpl:p.length≤100:=by rw[hst] at hl;simp at hl;exact f!"1a100.>1ab1.++100.<2" hl
  have zn:((cb p).map nI).length≤1000000:=by unfold cb;simp;exact af hpl (nb rfl)
  have zf:((dy p).map nI).length≤1000000:=by have:=qx p;rw[ac];exact af this (af hpl (nb rfl))
  rw[tY,v5,xP]
  unfold iX nv GV
  clear hst
  w_left
  rcases hx with⟨h1,h2⟩|⟨h1,h2,h3,h4⟩
  ·rw[if_pos h1,if_pos h1,if_pos h1,h1]
   w_left
   refine kd rfl g0 zn ?_
   w_left
   refine⟨_,_,_,_,_,rfl,?_,?_,by rw[bt];exact l,F.set (.inr (bz _)) _⟩
   ·rw[cx g0,show AV.int ((x.2:Nat):Int)=nI x.2 from rfl,hW]
   ·rw[eJ];exact aU g1 (cO _).symm _
  ·have n1:¬x.1=0:=by exact ch (ag (nb rfl) h1)
   rw[if_neg n1,if_neg n1,if_neg n1]
   refine iH (Hm x.1 (by exact aj h2 (nb rfl)) h1) λ a1 a2 a3=>?_
   refine iH (CN h3 h4) λ b1 b2 b3=>?_
   refine fE (λ c=>n1 (eC (ez c))) ?_
   w_left
   refine Sp.u11 (r9 (F.get eb) (by rw[xz];decide) a1 a2) λ bT F2=>?_
   rw[a3]
   w_left
   refine Sp.u11 (r9 ((F.trans F2).get ec) (by rw[s7];decide) b1 b2) λ iQ F3=>?_
   rw[b3]
   have F23:=F2.trans F3
   have g0':=F23.get g0
   have g1':=F23.get g1
   have lk:=(kH x.1 (by exact aj h2 (nb rfl)) h1).2.1
   w_left
   refine kd (x:=nI (cu x.1).1) ?_ g0' zn ?_
   ·refine(xQ (FP (kL rfl (kL rfl ⟨?_,rfl⟩))))
    show[AV.int ((257:Int)+(((cu x.1).1-257:Nat):Int))]=[.int ((cu x.1).1:Nat)]
    rw[show(257:Int)+(((cu x.1).1-257:Nat):Int)=((cu x.1).1:Nat) by omega]
   w_left
   have g2':=aU g1' (cO h.length).symm (.list ((cb p).map nI++[nI (cu x.1).1]))
   refine kd (x:=nI (b0 x.2).1) rfl g2' zf ?_
   w_left
   refine⟨_,_,_,_,_,rfl,?_,?_,?_,((F.trans F23).set (.inr (bz _)) _).set (.inr (jo _)) _⟩
   ·rw[aU (cx g0' _) (cO _),hW]
   ·rw[cx g2',hW]
   ·have:=F23.len
    rw[bt,bt];exact af l this
 ·intro σ ww0;refine jN ww0 λ o6 o7 o8 o9 h' uu0 g0 y=>?_;refine iH y λ g1 l F=>?_;clear y ww0;subst uu0
  w_left
  exact lv rfl g0 g1 F
noncomputable def vQ:Nat→List Nat→Nat
 |k+1,a::b::l=>(a+b)+vQ k (eQ (l++[a+b]))
 |_,_=>0
noncomputable def gz (w:List Nat):Nat:=if w.length<2 then w.sum else vQ w.length w
theorem qo (l:List Nat):(eQ l).length=l.length:=(cY A8 l).length_eq
theorem FR {n x:Nat} {xs:List Nat} {fs:List (EM AV)} {l:List (Option AV)} {h:List AO} {Q:AV→St→Prop} (e:h[n]? =some (.list (xs.map nI))) (ea:bN fs ⟨l,h⟩=some ([.int (x:Nat)],⟨l,h⟩)) (q:Q (nI (xs.count x)) ⟨l,h⟩):W (mH "list" oy (.ref n) fs) ⟨l,h⟩ Q:=by
 have t:m8 h (.ref n)=some "list":=by unfold m8;dsimp only;rw[e]
 rw[AY]
 exact dF t (me ea ⟨t,by rw[HO e];exact q⟩)
theorem FX {x y:Nat} {t:List Nat}:vQ (x::y::t).length (x::y::t)=x+y+vQ (eQ (t++[x+y])).length (eQ (t++[x+y])):=by
 rw[qo,ah];rfl
noncomputable def HJ (h:List AO) (m n:Nat) (k:Nat) (σ:St):Prop:=∃(r:Nat) (u:List Nat) (s:Nat) (o3:Option AV) (h':List AO),σ=⟨[some (.ref m),some (.ref r),some (.int s),o3,none],h'⟩∧h'[r]? =some (.list (u.map nI))∧u.length=k+1∧s+vQ u.length u=n∧k<50∧Fr [] h h'
theorem sa {h:List AO} {m:Nat} {marks:List Nat} (e:h[m]? =some (.list (marks.map nI))) (hl:marks.length≤50):
  Sp mi [.ref m] h λ r h'=>r=nI (gz (eQ ((firsts marks).map λ s=>marks.count s)))∧Fr [] h h':=by
 have hfl:=ii marks
 w_fin
 w_left
 refine jD (k0 (firsts marks) nI (λ Z=>true) (λ s=>nI (marks.count s)) ?_)
 w_left
 refine Sp.v13 (ol e (by exact af hl (nb rfl))) λ aN k hk g F=>?_
 w_left
 refine jd g ⟨rfl,_,rfl,dt g,by exact af hfl (af hl (nb rfl)),aH rfl,λ x hx=>kL rfl ⟨rfl,rfl⟩,λ x hx Z=>?_,?_⟩
 ·w_left
  exact FR (F.get e) rfl ⟨rfl,rfl⟩
 ·rw[lB]
  have em:(firsts marks).map (λ s=>nI (marks.count s))=((firsts marks).map λ s=>marks.count s).map nI:=by rw[bY];rfl
  rw[em]
  have lw:((firsts marks).map λ s=>marks.count s).length≤50:=by rw[ac];exact af hfl hl
  generalize ((firsts marks).map λ s=>marks.count s)=w at*
  refine lU (by rw[ac];exact af lw (nb rfl)) ?_
  w_left
  refine Dq (xs:=w) (au aN [_]) (by exact aj lw (nb rfl)) _ _ ?_
  have F2:Fr [] h ((aN++[AO.list (w.map nI)])++[AO.list ((eQ w).map nI)]):=(F.app _).app _
  have g2:=au (aN++[AO.list (w.map nI)]) [AO.list ((eQ w).map nI)]
  have lsw:(eQ w).length≤50:=by rw[qo];exact lw
  generalize ((aN++[AO.list (w.map nI)])++[AO.list ((eQ w).map nI)])=bT at*
  generalize (aN++[AO.list (w.map nI)]).length=r at*
  generalize eQ w=v at*
  w_left
  refine gK g2 (by rw[ac];exact af lsw (nb rfl)) ?_
  rw[ac]
  w_left
  unfold gz
  by_cases q:v.length<2
  ·rw[if_pos q]
   refine iP (aC (bd.mpr q)) ?_
   w_left
   refine x5 g2 _ _ ?_
   w_left
   exact dF rfl F2
  ·rw[if_neg q]
   refine fE (λ c=>q (bd.mp (ay c))) ?_
   w_left
   refine sM (n:=1000) (HJ h m (vQ v.length v)) (v.length-1) (by exact f!"1b1.+1000.>1ba<1a50.<2" lsw (eS _ _)) ⟨r,v,0,none,bT,rfl,g2,by exact jm (f!"1ba1.+>1ba1.+<2" (sA _ _))<|f!"1b1.+a>1b1.+a<2" (V (ai (f!"1 1.a>1 2.a<1" (aG q)))),gV _,by exact f!"1b1.+50.>1b1.+a<1a50.<2" lsw (V (ai (f!"1 1.a>1 2.a<1" (aG q)))),F2⟩ ?_
   intro k σ ww0;refine jN ww0 λ r u s o3 h' uu0 gu y=>?_;refine oW y λ lu hs hk50 F'=>?_;clear y ww0;subst uu0
   w_left
   refine gK gu (by rw[ac];exact f!"1a1000000.>1b1.+50.<1ab1.+<2" (V lu) hk50) ?_
   rw[ac]
   w_left
   match u,lu with
   | [x],lu=>
    refine Hr (show¬decide ((1:Int)<((1:Nat):Int))=true by decide) ?_
    w_left
    have hs:s=vQ v.length v:=hs
    subst hs
    exact dF rfl F'
   |x::y::t,lu=>
    have lt_:k=t.length+1:=(Nat.succ.inj lu).symm
    refine BJ (aC (bd.mpr (Nat.succ_lt_succ (k5 t.length)))) ⟨t.length,lt_,?_⟩
    have cc:cut ((x::y::t).map nI) (some 2) none=t.map nI:=by
     unfold cut zx
     show List.take (t.map nI).length (t.map nI)=_
     exact List.take_length
    have z5:(t.map nI).length≤1000000:=by rw[ac];exact f!"1b1000000.>1b1.+a<1a1.+50.<2" hk50 (V lt_.symm)
    w_left
    refine ig (a:=nI x) gu rfl ?_
    w_left
    refine ig (a:=nI y) gu rfl ?_
    w_left
    refine FM rfl rfl gu rfl (by show(t.map nI).length+1+1≤_;rw[ac];exact fy (aj (V lt_.symm) (ag hk50 (nb rfl)))) (cc▸z5) ?_
    rw[cc]
    w_left
    refine BO (bf (au h' [_]) _) (au (h'++[_]) [_]) (by show(t.map nI).length+1≤_;rw[ac];exact bF (aj (V lt_.symm) (ag hk50 (nb rfl)))) ?_
    w_left
    refine Dq (xs:=t++[x+y]) ((au (h'++[_]++[_]) [_]).trans (by rw[bk];rfl)) (by rw[ah];show t.length+1<64;exact aj (V lt_.symm) (ag hk50 (nb rfl))) _ _ ?_
    w_left
    exact El _ (eQ (t++[x+y])) (s+(x+y)) _ _ rfl (au (h'++[_]++[_]++[_]) [_]) (lv (by rw[qo,ah];rfl) (by rw[←hs,FX,Nat.add_assoc]) (by exact f!"1b1.+50.>1b1.+a<1a1.+50.<2" hk50 (V lt_.symm)) ((((F'.app _).app _).app _).app _))
noncomputable def Ac (f:List Nat):Nat:=(f.filter λ c=>decide (0<c)).length
noncomputable def Be:Nat→List Nat→Nat→List Nat
 |0,f,_=>f
 |k+1,f,s=>if Ac f<2 then Be k (if f.getD s 0=0 then f.set s 1 else f) (s+1) else f
noncomputable def E7 (cs:List Nat):List Nat:=Be cs.length cs 0
theorem Ed {f:List Nat} {s:Nat} (hs:s≤f.length) (h:∀i<s,0<f.getD i 0):s≤Ac f:=by
 unfold Ac
 have h1:(f.take s).filter (λ c=>decide (0<c))=f.take s:=by
  refine List.filter_eq_self.mpr λ a ha=>?_
  refine gX (fS.mp ha) λ i hi=>?_
  rw[List.getElem?_take] at hi
  split at hi
  ·rename_i q
   have:=h i q
   rw[aM,hi] at this
   simpa using this
  ·cases hi
 have h2:((f.take s).filter λ c=>decide (0<c)).length≤(f.filter λ c=>decide (0<c)).length:=((List.take_sublist s f).filter _).length_le
 rw[h1,jg] at h2
 omega
noncomputable def TJ (h:List AO) (m:Nat) (cs:List Nat) (k:Nat) (σ:St):Prop:=∃(f:List Nat) (s:Nat) (o:Option AV) (h':List AO),σ=⟨[some (.ref m),some (.ref h.length),some (.int s),o],h'⟩∧h'[h.length]? =some (.list (f.map nI))∧f.length=cs.length∧s+k=cs.length∧(∀i<s,0<f.getD i 0)∧Be k f s=E7 cs∧Fr [] h h'
theorem pK {h:List AO} {m:Nat} {cs:List Nat} (e:h[m]? =some (.list (cs.map nI))) (h2:2≤cs.length) (hl:cs.length≤900):
  Sp km [.ref m] h λ r h'=>r= .ref h.length∧h'[h.length]? =some (.list ((E7 cs).map nI))∧Fr [] h h':=by
 w_fin
 w_left
 refine yR e (by rw[ac];exact af hl (nb rfl)) ?_
 w_left
 refine sM (n:=1000) (TJ h m cs) cs.length (by exact aj hl (nb rfl)) ⟨cs,0,none,_,rfl,au h [_],rfl,gV _,λ i hi=>(Nat.not_lt_zero _ hi).elim,rfl,(Fr.refl _ _).app _⟩ ?_
 intro k σ ww0;refine fq ww0 λ f s o h' uu0 g lf y=>?_;refine oW y λ hsk hp ht F=>?_;clear y ww0;subst uu0
 w_left
 refine jD (k0 f nI (λ c=>decide (0<c)) nI ?_)
 w_left
 refine jd g ⟨rfl,_,rfl,dt g,by exact af (V lf) (af hl (nb rfl)),aH rfl,λ x hx=>?_,λ x hx u=>kL rfl ⟨rfl,rfl⟩,?_⟩
 ·w_left
  exact dF (decide_eq_decide.mpr bd) rfl
 have hpl:(f.filter λ c=>decide (0<c)).length≤f.length:=il _ _
 have zz:((f.filter λ c=>decide (0<c)).map nI).length≤1000000:=by rw[ac];exact af hpl (af (V lf) (af hl (nb rfl)))
 refine lU zz ?_
 w_left
 refine gK (au h' [_]) zz ?_
 rw[ac]
 have hst:=Ed (by exact f!"1cb>1cd+a<1ab<4" (V lf.symm) (V hsk):s≤f.length) hp
 have F1:Fr [] h (h'++[AO.list ((f.filter λ c=>decide (0<c)).map nI)]):=F.app _
 have g1:=bf g [AO.list ((f.filter λ c=>decide (0<c)).map nI)]
 generalize (h'++[AO.list ((f.filter λ c=>decide (0<c)).map nI)])=aN at*
 have hpf:(f.filter λ c=>decide (0<c)).length=Ac f:=rfl
 rw[hpf] at hpl⊢
 clear zz hpf g F
 w_left
 by_cases q:Ac f<2
 ·obtain⟨k',rfl⟩:∃k',k=k'+1:=⟨k-1,by exact jm (f!"1ba1.+>1ba1.+<2" (sA _ _))<|f!"1b1.+a>1b1.+a<2" (V (ai (f!"1 1.c>1d1.+2.<1bd<1abc+<1 2.a<4" h2 (V hsk.symm) hst q)))⟩
  refine BJ (aC (bd.mpr q)) ⟨k',rfl,?_⟩
  have hsf:s<f.length:=by exact f!"1c1.+b>1cd1.++a<1ab<4" (V lf.symm) (V hsk)
  have hb:f.length<1000000:=by exact aj (V lf) (aj hl (nb rfl))
  unfold Be at ht
  rw[if_pos q] at ht
  w_left
  refine dO g1 hsf hb ?_
  rw[ox]
  w_left
  by_cases q0:f.getD s 0=0
  ·rw[if_pos q0] at ht
   refine iP (by rw[q0];rfl) ?_
   w_left
   refine kK g1 ⟨bh _,by rw[ac];omega,by omega⟩ ?_
   w_left
   refine⟨f.set s 1,s+1,_,_,rfl,by rw[cx g1,←kF];rfl,by rw[bt];exact lf,by exact jm (f!"1a1.+b+c>1ab1.++c<3" (V hsk))<|f!"1ab1.+c+>1abc1.++<3" (V hsk.symm),λ i hi=>?_,ht,F1.set (.inr (bz _)) _⟩
   by_cases qi:i=s
   ·subst qi;simp[hsf]
   ·have:=hp i (by omega)
    rw[aM] at this⊢
    rw[cZ (λ z=>qi z.symm)];exact this
  ·rw[if_neg q0] at ht
   refine fE (λ c=>q0 (eC (ez c))) ?_
   w_left
   refine⟨f,s+1,_,_,rfl,g1,lf,by exact jm (f!"1a1.+b+c>1ab1.++c<3" (V hsk))<|f!"1ab1.+c+>1abc1.++<3" (V hsk.symm),λ i hi=>?_,ht,F1⟩
   by_cases qi:i=s
   ·subst qi;omega
   ·exact hp i (by omega)
 ·refine Hr (λ c=>q (bd.mp (ay c))) ?_
  have:Be k f s=f:=by
   cases k with
   |zero=>rfl
   |succ k=>unfold Be;rw[if_neg q]
  rw[this] at ht
  subst ht
  w_left
  exact lO rfl g1 F1
theorem DB {cs:List Nat} (h:2≤Ac cs):E7 cs=cs:=by
 unfold E7
 cases hcs:cs.length with
 |zero=>rfl
 |succ k=>unfold Be;rw[if_neg (by exact Nat.not_lt_of_ge h)]
theorem C8 (h:List AO) (d:Nat):∀xs ys:List Nat,xs.length=ys.length→nw (pw (d+1) h) (xs.map nI) (ys.map nI)=some (decide (xs=ys))
 | [],[],_=>rfl
 |x::xs,y::ys,e=>by
  have ih:=C8 h d xs ys (by simpa using e)
  show(match pw (d+1) h (nI x) (nI y),nw (pw (d+1) h) (xs.map nI) (ys.map nI) with|some x,some y=>some (x&&y)|_,_=>none)=_
  rw[ih]
  rw[show pw (d+1) h (nI x) (nI y)=some (((x:Nat):Int)==((y:Nat):Int)) from rfl]
  dsimp only
  congr 1
  by_cases q:x=y
  ·subst q;simp
  ·have:¬((x:Nat):Int)=((y:Nat):Int):=by omega
   simp[q,this]
 | [],_::_,e=>by simp at e
 |_::_,[],e=>by simp at e
theorem kO {h:List AO} {a b:Nat} {xs ys:List Nat} (ea:h[a]? =some (.list (xs.map nI))) (eb:h[b]? =some (.list (ys.map nI))) (d:Nat):pw (d+2) h (.ref a) (.ref b)=some (decide (xs=ys)):=by
 show(match getL h a,getL h b with|some l,some r=>if l.length=r.length then nw (pw (d+1) h) l r else some false|_,_=>none)=_
 unfold getL
 rw[ea,eb]
 dsimp only
 rw[ac,ac]
 by_cases q:xs.length=ys.length
 ·rw[if_pos q,C8 h d xs ys q]
 ·rw[if_neg q]
  have:¬xs=ys:=λ z=>q (by rw[z])
  simp[this]
theorem wj {h:List AO} {a b:Nat} {xs ys:List Nat} (ea:h[a]? =some (.list (xs.map nI))) (eb:h[b]? =some (.list (ys.map nI))) (l:List (Option AV)) (Q:AV→St→Prop):W (b6 .NotEq (.ref a) (.ref b)) ⟨l,h⟩ Q=Q (.bool (!decide (xs=ys))) ⟨l,h⟩:=by
 rw[KB,kO ea eb 3]
theorem B5 {h:List AO} {a b:Nat} {xs ys:List Nat} (ea:h[a]? =some (.list (xs.map nI))) (eb:h[b]? =some (.list (ys.map nI))) (l:List (Option AV)) (Q:AV→St→Prop):W (b6 .Eq (.ref a) (.ref b)) ⟨l,h⟩ Q=Q (.bool (decide (xs=ys))) ⟨l,h⟩:=by
 rw[KH,kO ea eb 3]
theorem CU (x:Nat):∀B,x<B→((List.range B).map λ i=>if i=x then 1 else 0).sum=1
 |B+1,h=>by
  rw[jQ,bk,fJ]
  by_cases q:x<B
  ·rw[CU x B q]
   have:¬B=x:=by exact ch q
   simp[this]
  ·have hx:B=x:=by exact jm (f!"1ab>1ab<2" (aG q))<|f!"1ab>1a1.+b1.+<2" h
   subst hx
   have:((List.range B).map λ i=>if i=B then 1 else 0)=(List.range B).map λ u=>0:=bJ λ i hi=>by have:=fA.mp hi;rw[if_neg (by exact dE this)]
   rw[this]
   have z:∀l:List Nat,(l.map λ u=>0).sum=0:=λ l=>by induction l with|nil=>rfl|cons a l ih=>simpa using ih
   rw[z];simp
theorem pF (f g:Nat→Nat):∀l:List Nat,(l.map λ i=>f i+g i).sum=(l.map f).sum+(l.map g).sum
 | []=>rfl
 |a::l=>by simp only[aB,bw];rw[pF f g l];exact jm (f!"1ac+bd++ab+cd++>4") f!"1ac+bd++ab+cd++>4"
theorem wc {B:Nat}:∀(xs:List Nat),(∀x∈xs,x<B)→(cW B xs).sum=xs.length
 | [],_=>by rw[sJ];simp
 |x::xs,h=>by
  have ih:=wc xs (λ y hy=>h y (bI _ hy))
  have e:cW B (x::xs)=(List.range B).map λ i=>xs.count i+if i=x then 1 else 0:=by
   unfold cW
   refine bJ λ i u=>?_
   rw[List.count_cons]
   by_cases q:i=x
   ·subst q;simp
   ·have:¬x=i:=λ z=>q z.symm
    simp[q,this]
  rw[e,pF,CU x B (h x (bA ..))]
  rw[show(List.map (λ i=>List.count i xs) (List.range B)).sum=(cW B xs).sum from rfl,ih]
  rfl
theorem zZ (h:List AO) {s:Nat} (hs:s<288):Sp qd [.int s] h λ r h'=>r=nI (gJ s).2∧h'=h:=by
 unfold gJ
 w_fin
 w_left
 by_cases q1:s<144
 ·rw[if_pos q1]
  refine iP (aC (bd.mpr q1)) ?_
  w_left
  exact dF rfl rfl
 rw[if_neg q1]
 refine fE (λ c=>q1 (bd.mp (ay c))) ?_
 w_left
 by_cases q2:s<256
 ·rw[if_pos q2]
  refine fE (λ c=>absurd (show(279:Int)<((s:Nat):Int) from ay c) (by omega)) ?_
  w_left
  refine iP (aC (bd.mpr q2)) ?_
  w_left
  exact dF rfl rfl
 rw[if_neg q2]
 by_cases q3:s<280
 ·rw[if_pos q3]
  refine fE (λ c=>absurd (show(279:Int)<((s:Nat):Int) from ay c) (by omega)) ?_
  w_left
  refine fE (λ c=>q2 (bd.mp (ay c))) ?_
  w_left
  exact dF rfl rfl
 ·rw[if_neg q3]
  refine iP (aC (bd.mpr (Nat.lt_of_succ_le (eZ q3)))) ?_
  w_left
  exact dF rfl rfl
theorem Ax {h:List AO} {a b:Nat} {xs:List Nat} {l:List (Option AV)} {Q:AV→St→Prop} (ea:h[a]? =some (.list (xs.map nI))) (eb:h[b]? =some (.list (xs.map nI))) (q:Q (.bool false) ⟨l,h⟩):W (b6 .NotEq (.ref a) (.ref b)) ⟨l,h⟩ Q:=by
 rw[wj ea eb,aC rfl];exact q
theorem CG (f:Nat→Nat) (ys:List Nat):ys.map (λ s=>nI (f s))=(ys.map f).map nI:=by rw[bY];rfl
theorem Dh {h:List AO} {l:List (Option AV)} {i p:Nat} {ms us:List Nat} {g:EM IT} {fe:EM AV} (hg:W g ⟨l,h⟩ λ it bc=>it= .list p∧bc=⟨l,h⟩) (ep:h[p]? =some (.list (us.map nI))) (hu:us.length≤900) (hl:i<l.length)
  (hs:∀s∈us,W fe ⟨l.set i (some (nI s)),h⟩ λ v dM=>v=nI (ms.count s)∧dM=⟨l.set i (some (nI s)),h⟩) {Q:AV→St→Prop} (q:Q (.ref h.length) ⟨l.set i none,h++[.list ((us.map λ s=>ms.count s).map nI)]⟩):W (fg [i] pB g (wr i) (ret true) fe) ⟨l,h⟩ Q:=by
 refine jD (k0 us nI (λ z=>true) (λ s=>nI (ms.count s)) (hg.mono λ it bc x=>?_))
 refine dL x λ uu0 uu1=>?_;clear x;subst uu0 uu1
 refine⟨rfl,_,rfl,dt ep,by exact af hu (nb rfl),hl,λ x hx=>kL rfl ⟨rfl,rfl⟩,λ s hs' z=>hs s hs',?_⟩
 rw[lB,CG]
 exact lU (by rw[ac,ac];exact af hu (nb rfl)) q
theorem wK {h:List AO} {n a b x:Nat} {near far:List Nat} (X:SC h n near far x) (ea:h[a]? =some (.list (near.map nI))) (eb:h[b]? =some (.list (far.map nI))) (hn:∀s∈near,s<286) (hf:∀s∈far,s<30) (l1:near.length≤900) (l2:far.length≤900):
  Sp nE [.ref n,.ref a,.ref b,.int x] h λ r h'=>r= .bool true∧Fr [] h h':=by
 have fl1:(firsts near).length≤900:=af (ii near) l1
 have fl2:(firsts far).length≤900:=af (ii far) l2
 have A:∀{h':List AO},Fr [] h h'→SC h' n near far x:=λ F=>X.mono F
 w_fin
 w_left
 refine cg X.ob rfl rfl ?_
 w_left
 refine Sp.v13 (ol ea (by exact af l1 (nb rfl))) λ aN k1 hk1 g1 F1=>?_
 w_left
 refine Ax (A F1).used g1 ?_
 w_left
 refine cg (A F1).ob rfl rfl ?_
 w_left
 refine Sp.v13 (ol (F1.get eb) (by exact af l2 (nb rfl))) λ bT k2 hk2 g2 F2=>?_
 have F:=F1.trans F2
 have X:=A F
 w_left
 refine Ax X.fars g2 ?_
 w_left
 refine cg X.ob rfl rfl ?_
 w_left
 refine fE (by simp) ?_
 clear F1 F2 g1 g2
 w_left
 refine Dh (ms:=near) ?_ X.used fl1 (aH rfl) (λ s hs=>?_) ?_
 ·w_left
  exact cg X.ob rfl rfl (jd X.used ⟨rfl,rfl⟩)
 ·have g2:=hn s ((eW near s).mp hs)
  have hs':s<(cW 286 near).length:=by rw[cC];exact g2
  w_left
  refine cg X.ob rfl rfl ?_
  w_left
  refine dO X.lit hs' (by rw[cC];decide) ⟨by rw[gZ g2 hs'],rfl⟩
 have g3:=au bT [AO.list (((firsts near).map λ s=>near.count s).map nI)]
 have F:=F.app [AO.list (((firsts near).map λ s=>near.count s).map nI)]
 have X:=A F
 generalize (bT++[AO.list (((firsts near).map λ s=>near.count s).map nI)])=iQ at*
 w_left
 refine Dh (ms:=near) ?_ X.used fl1 (aH rfl) (λ s hs=>?_) ?_
 ·w_left
  exact cg X.ob rfl rfl (jd X.used ⟨rfl,rfl⟩)
 ·w_left
  exact FR (F.get ea) rfl ⟨rfl,rfl⟩
 w_left
 refine Ax (bf g3 _) (au iQ [_]) ?_
 clear g3
 have F:=F.app [AO.list (((firsts near).map λ s=>near.count s).map nI)]
 have X:=A F
 generalize (iQ++[AO.list (((firsts near).map λ s=>near.count s).map nI)])=vP at*
 w_left
 refine Dh (ms:=far) ?_ X.fars fl2 (aH rfl) (λ s hs=>?_) ?_
 ·w_left
  exact cg X.ob rfl rfl (jd X.fars ⟨rfl,rfl⟩)
 ·have g2:=hf s ((eW far s).mp hs)
  have hs':s<(cW 30 far).length:=by rw[cC];exact g2
  w_left
  refine cg X.ob rfl rfl ?_
  w_left
  refine dO X.dis hs' (by rw[cC];decide) ⟨by rw[gZ g2 hs'],rfl⟩
 have g5:=au vP [AO.list (((firsts far).map λ s=>far.count s).map nI)]
 have F:=F.app [AO.list (((firsts far).map λ s=>far.count s).map nI)]
 have X:=A F
 generalize (vP++[AO.list (((firsts far).map λ s=>far.count s).map nI)])=ot at*
 w_left
 refine Dh (ms:=far) ?_ X.fars fl2 (aH rfl) (λ s hs=>?_) ?_
 ·w_left
  exact cg X.ob rfl rfl (jd X.fars ⟨rfl,rfl⟩)
 ·w_left
  exact FR (F.get eb) rfl ⟨rfl,rfl⟩
 w_left
 refine Ax (bf g5 _) (au ot [_]) ?_
 clear g5
 have F:=F.app [AO.list (((firsts far).map λ s=>far.count s).map nI)]
 have X:=A F
 generalize (ot++[AO.list (((firsts far).map λ s=>far.count s).map nI)])=pS at*
 w_left
 refine cg X.ob rfl rfl ?_
 w_left
 refine gK X.lit (by rw[ac,cC];decide) ?_
 w_left
 refine cg X.ob rfl rfl ?_
 w_left
 refine x5 X.lit _ _ ?_
 w_left
 refine cg X.ob rfl rfl ?_
 w_left
 refine gK X.dis (by rw[ac,cC];decide) ?_
 w_left
 refine cg X.ob rfl rfl ?_
 w_left
 refine x5 X.dis _ _ ?_
 rw[wc near hn,wc far hf,ac,cC,ac,cC]
 w_left
 refine gK (F.get ea) (by rw[ac];exact af l1 (nb rfl)) ?_
 w_left
 refine gK (F.get eb) (by rw[ac];exact af l2 (nb rfl)) ?_
 rw[ac,ac]
 w_left
 exact dF (congrArg AV.bool (by simp)) F
noncomputable def nf (jF kh:Nat→Option Nat) (ky lC:Nat) (p:Nat×Nat):Nat:=if p.1=0 then(jF p.2).getD ky else(jF (cu p.1).1).getD ky+(cu p.1).2.1+(kh (b0 p.2).1).getD lC+(b0 p.2).2.1
theorem xy {h:List AO} {a p:Nat} {jF:Nat→Option Nat} {pA ky:Nat} {kh:Nat→Option Nat} {ql lC:Nat} {st:List (Nat×Nat)} (ea:h[a]? =some (.list (st.map rh))) (x:PR h p jF pA ky kh ql lC) (ok:∀q∈st,pq q) (hl:st.length≤900)
  (b1:286≤pA) (b2:∀q∈st,∀s∈nv q,s<ql):Sp qB [.ref a,.ref p] h λ r h'=>r=nI (st.map (nf jF kh ky lC)).sum∧Fr [] h h':=by
 refine bK x.ob λ pa pb ep z z=>?_
 w_fin
 w_left
 refine jD (zh st (λ q=>AV.int (q.1:Nat)) (λ q=>AV.int (q.2:Nat)) (λ z=>true) (λ q=>nI (nf jF kh ky lC q)) ⋯ ?_)
 w_left
 refine jd ea ⟨rfl,_,rfl,dt ea,by exact af hl (nb rfl),⟨aH rfl,aH rfl⟩,λ x hx=>kL rfl ⟨rfl,rfl⟩,λ q hq z=>?_,?_⟩
 ·unfold nf
  w_left
  rcases ok q hq with⟨h1,h2⟩|⟨h1,h2,h3,h4⟩
  ·rw[if_pos h1]
   refine iP (by rw[h1];rfl) ?_
   w_left
   refine fK ep rfl ?_
   w_left
   refine Sp.w2 (sb x (by exact iN h2 (ag (nb rfl) b1))) ?_
   exact dF rfl rfl
  ·have n1:¬q.1=0:=by exact ch (ag (nb rfl) h1)
   rw[if_neg n1]
   refine fE (λ c=>n1 (eC (ez c))) ?_
   w_left
   refine fK ep rfl ?_
   w_left
   have k1:=(kH q.1 (by exact aj h2 (nb rfl)) h1).1
   refine Sp.w2 (Bw x h1 h2 h3 h4 (by exact ag k1 b1) (b2 q hq (b0 q.2).1 (by unfold nv;rw[if_neg n1];exact bu.mpr rfl))) ?_
   exact dF rfl rfl
 ·rewrite[lB,show st.map (λ q=>nI (nf jF kh ky lC q))=(st.map (nf jF kh ky lC)).map nI by rw[bY];rfl]
  refine lU (by rw[ac,ac];exact af hl (nb rfl)) ?_
  w_left
  refine x5 (au h [_]) _ _ ?_
  w_left
  exact dF rfl ((Fr.refl _ _).app _)
noncomputable def bC (b:Bool):Nat:=if b then 49 else 48
noncomputable def bS (l:List Bool):Str:=⟨(l.map bC).toArray⟩
theorem kQ (l:List Bool):(bS l).length=l.length:=by unfold bS Str.length;simp
theorem Jj {a b:Bool} (h:bC a=bC b):a=b:=by cases a<;>cases b<;>first|rfl|cases h
theorem Gy {a b:List Bool} (h:bS a=bS b):a=b:=by
 unfold bS at h
 have h1:(a.map bC).toArray=(b.map bC).toArray:=congrArg Str.cps h
 have h2:a.map bC=b.map bC:=by simpa using h1
 exact(List.map_inj_right (λ x y=>Jj)).mp h2
theorem x4 (a b:List Bool):bS a++bS b=bS (a++b):=by
 show(⟨(bS a).cps++(bS b).cps⟩:Str)=_
 unfold bS
 simp
theorem Jh:Str.ofString ""=bS []:=by decide+kernel
theorem Gx:Str.ofString "1"=bS [true]:=by decide+kernel
theorem CR:∀ls:List (List Bool),Str.join (Str.ofString "") (ls.map bS)=bS ls.flatten
 | []=>rfl
 | [x]=>by show bS x=_;simp
 |x::y::r=>by
  show bS x++Str.ofString ""++Str.join (Str.ofString "") ((y::r).map bS)=_
  rw[CR (y::r),Jh,x4,x4]
  simp
theorem xM:∀(ls:List (List Bool)) (n:Nat),((ls.map bS).foldl (λ n x=>n+x.length+(Str.ofString "").length) n)=n+ls.flatten.length
 | [],n=>by simp
 |x::ls,n=>by
  have e0:(Str.ofString "").length=0:=by decide+kernel
  rw[aB,gG,xM ls,kQ,e0,m6,ah]
  exact jm (f!"1ab+0.+c+abc++>3") f!"1abc++ab+0.+c+>3"
theorem Bi (ls:List (List Bool)):u8 (ls.map λ b=>AV.str (bS b))=some (ls.map bS):=by
 induction ls with
 |nil=>rfl
 |cons a ls ih=>exact congrArg (Option.map (bS a::·)) ih
theorem GF {n:Nat} {ls:List (List Bool)} {h:List AO} (e:h[n]? =some (.list (ls.map λ b=>AV.str (bS b)))) (hz:ls.flatten.length≤100000) (l:List (Option AV)) (Q:AV→St→Prop) (q:Q (.str (bS ls.flatten)) ⟨l,h⟩):
  W (sq (.str (Str.ofString "")) [.ref n]) ⟨l,h⟩ Q:=by
 refine me (a:=.str (bS ls.flatten)) (bc:=⟨l,h⟩) ?_ q
 unfold sq getL
 dsimp only
 rw[e]
 dsimp only[Option.bind]
 rw[Bi]
 dsimp only
 have j:JoinOk (Str.ofString "") (ls.map bS)=true:=by
  unfold JoinOk PySem.Builtin.Str.tooLong
  rw[List.foldl_toArray,xM]
  have:¬(0+ls.flatten.length>sizeLine):=by unfold sizeLine;exact f!"z1 16777217.0.a+<1a100000.<1" hz
  show(!decide (0+ls.flatten.length>sizeLine))=true
  rw[decide_eq_false this];rfl
 rw[if_pos j]
 unfold Txt.join
 rw[StrLaws.glued_eq_join,CR]
theorem Ie {b:Nat} (hb:b<2) (σ:St) (Q:AV→St→Prop) (q:Q (.str (bS [b==1])) σ):W (DC [.int (b:Nat)]) σ Q:=by
 refine me (a:=.str (bS [b==1])) (bc:=σ) ?_ q
 unfold DC
 dsimp only
 rw[if_pos (xo (by exact ag hb (nb rfl)))]
 have:b=0∨b=1:=by omega
 have h0:Str.ofString (toString ((0:Nat):Int))=bS [(0:Nat)==1]:=by decide+kernel
 have h1:Str.ofString (toString ((1:Nat):Int))=bS [(1:Nat)==1]:=by decide+kernel
 rcases this with rfl|rfl
 ·rw[h0]
 ·rw[h1]
theorem Jn (n:Nat) (y:Str) (v:AV) (l:List (Option AV)) (h:List AO) (Q:Unit→St→Prop):W (nh (.ref n) (.str y) v) ⟨l,h⟩ Q=match h[n]? with
   |some (.dict es)=>es.length≤1000000∧Q () ⟨l,h.set n (.dict (ur y v es))⟩
   |_=>False:=by
 rw[dg];unfold W' nh;dsimp only
 generalize h[n]? =o
 rcases o with _|_|_|_|_|_<;>first|rfl|exact xO
theorem Dg (l:List Bool) (a b:Nat):wZ (bS l) (some (a:Nat)) (some (b:Nat))=bS ((l.drop a).take (b-a)):=by
 unfold wZ bS cut zx
 simp
theorem AP (l:List Bool) (a:Nat):wZ (bS l) (some (a:Nat)) none=bS (l.drop a):=by
 unfold wZ bS cut zx
 simp
 exact List.take_of_length_le (by simp)
theorem xC {l:List Bool} {a b:Nat} (h1:a≤b) (h2:b≤l.length):nq (bS l) (some (a:Nat)) (some (b:Nat))=true:=by
 unfold nq jM zx
 rw[kQ]
 simp
 omega
theorem wN {l:List Bool} {a:Nat} (h1:a≤l.length):nq (bS l) (some (a:Nat)) none=true:=by
 unfold nq jM zx
 rw[kQ]
 simp
 exact f!"1ab>1ab<2" h1
theorem xW:∀(c v:Nat),dD v c=(List.range c).map λ i=>(v / 2^i % 2==1)
 |0,_=>rfl
 |c+1,v=>by
  rw[List.range_succ_eq_map,aB,bY]
  unfold dD
  rw[xW c (v / 2),Nat.pow_zero,Nat.div_one]
  congr 1
  refine bJ λ i z=>?_
  show(v / 2 / 2^i % 2==1)=(v / 2^(i+1) % 2==1)
  rw[m5,gc,dj 2]
theorem vT (v:Nat):∀c,iI v c=(List.range c).map λ i=>(v / 2^(c-1-i) % 2==1)
 |0=>rfl
 |c+1=>by
  rw[List.range_succ_eq_map,aB,bY]
  unfold iI
  rw[vT v c]
  congr 1
  refine bJ λ i hi=>?_
  show(v / 2^(c-1-i) % 2==1)=(v / 2^(c+1-1-(i+1)) % 2==1)
  rw[show c+1-1-(i+1)=c-1-i by omega]
noncomputable def ki (M:Nat):Nat→List (Nat×Nat)→List (List Bool×Nat)
 |_,[]=>[]
 |sp,(l,s)::r=>(iI (sp / 2^(M-l)) l,s)::ki M (sp+2^(M-l)) r
noncomputable def dZ (M:Nat) (sp:Nat) (r:List (Nat×Nat)):Nat:=sp+(r.map λ p=>2^(M-p.1)).sum
theorem pX (M:Nat):∀(sp:Nat) (r:List (Nat×Nat)) (p:Nat×Nat),ki M sp (r++[p])=ki M sp r++[(iI (dZ M sp r / 2^(M-p.1)) p.1,p.2)]
 |sp,[],p=>by unfold dZ;simp[ki]
 |sp,q::r,p=>by
  obtain⟨l,s⟩:=q
  rw[List.cons_append]
  unfold ki
  have e:dZ M (sp+2^(M-l)) r=dZ M sp ((l,s)::r):=by
   unfold dZ
   rw[aB,bw];exact Nat.add_assoc _ _ _
  rw[pX M _ r p,List.cons_append,e]
noncomputable def mB (es:List (List Bool×Nat)):List (Str×AV):=es.foldl (λ es w=>ur (bS w.1) (nI w.2) es) []
theorem pL (es:List (List Bool×Nat)) (w:List Bool×Nat):mB (es++[w])=ur (bS w.1) (nI w.2) (mB es):=by unfold mB;rw[fC];rfl
theorem Fq (y:Str) (a:AV) (es:List (Str×AV)):(ur y a es).length≤es.length+1:=by unfold ur;split<;>simp
theorem By (es:List (List Bool×Nat)):(mB es).length≤es.length:=by
 refine j4 (P:=λ es=>(mB es).length≤es.length) (bz _) (λ xs x ih=>?_) es
 rw[pL,ah]
 exact af (Fq _ _ _) (fX ih)
theorem wb (M:Nat):∀(sp:Nat) (r:List (Nat×Nat)),(ki M sp r).length=r.length
 |_,[]=>rfl
 |sp,(l,s)::r=>by unfold ki;rw[bW,bW,wb M _ r]
noncomputable def cI (lens:List Nat):Nat:=max (ic lens) 1
noncomputable def ie (lens:List Nat):List (Nat×Nat):=ip (cq lens)
theorem IV {l:List (Option AV)} {h:List AO} {n:Nat} {y:Str} {v:AV} {es:List (Str×AV)} {Q:Unit→St→Prop} (e:h[n]? =some (.dict es)) (hl:es.length≤1000000) (q:Q () ⟨l,h.set n (.dict (ur y v es))⟩):W (nh (.ref n) (.str y) v) ⟨l,h⟩ Q:=by
 rw[Jn,e];exact dF hl q
theorem Dl {h:List AO} {l:List (Option AV)} {i k:Nat} {f:Nat→Nat} {bs:List Bool} {g:EM IT} {fe:EM AV} {Q:AV→St→Prop} (hk:k≤1000) (hl:i<l.length) (hg:W g ⟨l,h⟩ λ it bc=>it= .range 0 (k:Nat) 1∧bc=⟨l,h⟩)
  (hb:((List.range k).map λ j=>f j % 2==1)=bs) (hs:∀j,j<k→W fe ⟨l.set i (some (.int (j:Nat))),h⟩ λ v dM=>v= .str (bS [f j % 2==1])∧dM=⟨l.set i (some (.int (j:Nat))),h⟩)
  (q:Q (.str (bS bs)) ⟨l.set i none,h++[AO.list ((List.range k).map λ j=>.str (bS [f j % 2==1]))]⟩):W (fg [i] pB g (wr i) (ret true) fe) ⟨l,h⟩ (EQ [] (GQ sq (.str (Str.ofString "")) Q)):=by
 refine jD (k0 (List.range k) (λ(j:Nat)=>AV.int (j:Nat)) (λ z=>true) (λ j=>AV.str (bS [f j % 2==1])) (hg.mono λ it bc x=>?_))
 refine dL x λ uu0 uu1=>?_;clear x;subst uu0 uu1
 refine⟨rfl,_,rfl,jO _ _,by rw[bE];exact af hk (nb rfl),hl,λ x hx=>kL rfl ⟨rfl,rfl⟩,λ s hs' z=>hs s (fA.mp hs'),?_⟩
 rw[lB]
 have ef:((List.range k).map λ j=>[f j % 2==1]).flatten=bs:=by
  rw[←hb]
  have:∀(f:Nat→Bool) (l:List Nat),(l.map λ i=>[f i]).flatten=l.map f:=λ f l=>by induction l with|nil=>rfl|cons a l ih=>simpa using ih
  exact this _ _
 have bl:bs.length=k:=by rw[←hb,ac,bE]
 refine lU (by rw[ac,bE];exact af hk (nb rfl)) (kL rfl ?_)
 refine GF (ls:=(List.range k).map λ j=>[f j % 2==1]) ?_ (by rw[ef,bl];exact af hk (nb rfl)) _ _ (by rw[ef];exact q)
 rw[au,bY];rfl
noncomputable def CJ (h:List AO) (m M:Nat) (ls:List (Nat×Nat)) (D:Nat) (it:IT) (p:List (Nat×Nat)) (σ:St):Prop:=∃(o4 o5 o6:Option AV) (h':List AO),σ=⟨[some (.ref m),some (.int M),some (.ref D),some (.int (dZ M 0 p:Nat)),o4,o5,o6,none,none,none],h'⟩∧h'[D]? =some (.dict (mB (ki M 0 p)))∧
  (∃k,k≠D∧it= .list k∧h'[k]? =some (.list (ls.map qA)))∧Fr [] h h'
theorem tU {h:List AO} {m:Nat} {lens:List Nat} (e:h[m]? =some (.list (lens.map nI))) (hM:∀x∈lens,x≤15) (hl:lens.length≤300) (hu:(cq lens).length<60):
  Sp mY [.ref m] h λ r h'=>∃k,r= .ref k∧h.length≤k∧h'[k]? =some (.dict (mB (ki (cI lens) 0 (ie lens))))∧Fr [] h h':=by
 have hmx:=yI hM
 w_fin
 w_left
 refine BO (bf e _) (au h [_]) (by rw[ac];show lens.length+1≤_;exact fy (aj hl (nb rfl))) ?_
 have em:lens.map nI++[AV.int 1]=(lens++[1]).map nI:=hW lens 1
 rw[em]
 w_left
 refine GC (xs:=lens++[1]) (au (h++[_]) [_]) (by simp) _ _ ?_
 rw[show ic (lens++[1])=cI lens from qt lens 1]
 have hM1:1≤cI lens∧cI lens≤15:=by unfold cI;omega
 have hMl:∀p∈cq lens,p.1≤cI lens∧1≤p.1:=by
  intro p hp
  refine iH (ml hp) λ a1 a2 a3=>?_
  have:=uE lens p.1 (bU a2)
  unfold cI;omega
 generalize cI lens=M at*
 w_left
 have l0:(h++[AO.list [AV.int 1]]++[AO.list ((lens++[1]).map nI)]++[AO.dict []]).length=h.length+3:=by simp
 have F0:Fr [] h (h++[AO.list [AV.int 1]]++[AO.list ((lens++[1]).map nI)]++[AO.dict []]):=(((Fr.refl _ _).app _).app _).app _
 have g0:=au (h++[AO.list [AV.int 1]]++[AO.list ((lens++[1]).map nI)]) [AO.dict []]
 have lD:(h++[AO.list [AV.int 1]]++[AO.list ((lens++[1]).map nI)]).length=h.length+2:=by simp
 generalize (h++[AO.list [AV.int 1]]++[AO.list ((lens++[1]).map nI)]).length=D at*
 generalize (h++[AO.list [AV.int 1]]++[AO.list ((lens++[1]).map nI)]++[AO.dict []])=nX at*
 clear em
 refine je ?_
 w_left
 refine jD (zh lens.zipIdx (λ p=>AV.int (p.2:Nat)) (λ p=>nI p.1) (λ p=>decide (0<p.1)) qA ⋯ ?_)
 w_left
 refine yS (F0.get e) ⟨rfl,_,rfl,?_,by rw[List.length_zipIdx];exact af hl (nb rfl),⟨aH rfl,aH rfl⟩,λ p hp=>?_,λ p hp u=>?_,?_⟩
 ·rw[qu (F0.get e),List.zipIdx_map,bY]
  rfl
 ·w_left
  refine⟨?_,rfl⟩
  exact decide_eq_decide.mpr bd
 ·w_left
  exact dF rfl rfl
 have nd:(cq lens).Nodup:=by
  unfold cq
  refine List.Nodup.sublist (List.filter_sublist) ?_
  refine List.Pairwise.of_map (S:=(·≠·)) (f:=Prod.snd) (λ a b hab z=>hab (by rw[z])) ?_
  rw[List.zipIdx_map_snd]
  exact List.nodup_range'
 show LN _ ((cq lens).map qA) _
 refine lU (by rw[ac];exact bF (ag hu (nb rfl))) ?_
 w_left
 refine Dp (xs:=cq lens) (au nX [_]) (iN hu ⋯) nd _ _ ?_
 have hsl:(ie lens).length<60:=(sX (cq lens)).symm▸hu
 rw[show ip (cq lens)=ie lens from rfl]
 have F1:Fr [] h ((nX++[AO.list ((cq lens).map qA)])++[AO.list ((ie lens).map qA)]):=(F0.app _).app _
 have g1:=au (nX++[AO.list ((cq lens).map qA)]) [AO.list ((ie lens).map qA)]
 have g2:=bf (bf g0 [AO.list ((cq lens).map qA)]) [AO.list ((ie lens).map qA)]
 have hE:(nX++[AO.list ((cq lens).map qA)]).length≠D:=by simp[l0];exact λ z=>f!"z1b3.+1.+a<1ab2.+<2" (V lD) (V z)
 generalize (nX++[AO.list ((cq lens).map qA)]).length=E at*
 generalize ((nX++[AO.list ((cq lens).map qA)])++[AO.list ((ie lens).map qA)])=aN at*
 clear F0 g0 l0
 w_left
 refine jd g1 ⟨rfl,gp (ie lens) qA (λ p σ=>CJ h m M (ie lens) D (.list E) p σ) ⟨none,none,none,aN,rfl,g2,⟨E,hE,rfl,g1⟩,F1⟩ ?_ ?_ ?_⟩
 ·intro p σ ww0;refine fq ww0 λ o4 o5 o6 h' uu0 g2 vv0 F=>?_;clear ww0;subst uu0;refine dU vv0 λ k hk ek g1=>?_;clear vv0
  cases ek
  exact dt g1
 ·intro p x q σ hst ww0;refine fq ww0 λ o4 o5 o6 h' uu0 g2 vv0 F=>?_;clear ww0;subst uu0;refine dU vv0 λ k hk ek g1=>?_;clear vv0
  have hx:=hMl x ((cY sU _).mem_iff.mp (show x∈ie lens by rw[hst];simp))
  have hpl:p.length≤60:=by
   have:=congrArg List.length hst
   simp at this;exact f!"1b60.>1bc1.++a<1a1.+60.<3" hsl (V this.symm)
  have sp1:dZ M 0 (p++[x])=dZ M 0 p+2^(M-x.1):=by unfold dZ;rw[bk,fJ];simp
  have b1:(M:Int)-(x.1:Int)=((M-x.1:Nat):Int):=by omega
  have z1:(mB (ki M 0 p)).length≤1000000:=by have:=By (ki M 0 p);rw[wb] at this;exact af this (af hpl (nb rfl))
  clear hst hMl nd hu hsl hM
  obtain⟨x1,x2⟩:=x
  dsimp only at hx sp1 b1
  w_left
  refine CW b1 ?_
  w_left
  refine Dl (k:=x1) (f:=λ i=>dZ M 0 p / 2^(M-x1) / 2^(x1-1-i)) (by exact af hx.1 (af hM1.2 (nb rfl))) (by exact aH rfl) ?_ (vT _ _).symm (λ i hi=>?_) ?_
  ·w_left
   exact oz x1 _ _ (by exact aj hx.1 (aj hM1.2 (nb rfl))) ⟨rfl,rfl⟩
  ·w_left
   refine CW (k:=x1-1-i) (by omega) ?_
   w_left
   rw[Dm]
   exact Ie (jv _ ⋯) _ _ ⟨rfl,rfl⟩
  w_left
  refine IV (bf g2 _) z1 ?_
  w_left
  refine ts b1 (by exact f!"1b1000000.>1ba<1a15.<2" hM1.2 (eS _ _)) ?_
  w_left
  refine⟨_,_,_,_,by rw[sp1];rfl,?_,⟨k,hk,ek,(aU (bf g1 _) hk.symm _)⟩,(F.app _).set (.inr (by exact f!"1ab>1a2.+b<2" (V lD.symm))) _⟩
  rw[cx (bf g2 _),pX,pL];rfl
 ·intro σ ww0;refine fq ww0 λ o4 o5 o6 h' uu0 g2 u F=>?_;clear ww0;subst uu0
  w_left
  exact th _ rfl (by exact f!"1ab>1a2.+b<2" (V lD.symm)) g2 F
noncomputable def rE (es:List (List Bool×Nat)):List (Str×AV):=es.map λ w=>(bS w.1,nI w.2)
theorem AN (es:List (List Bool×Nat)) (y:List Bool):((rE es).any λ e=>e.1==bS y)=es.any λ e=>e.1==y:=by
 unfold rE
 rw[List.any_map]
 refine List.any_congr rfl λ e=>?_
 show(bS e.1==bS y)=(e.1==y)
 by_cases q:e.1=y
 ·rw[q];simp
 ·rw[ck.mpr q,ck.mpr (λ z=>q (Gy z))]
theorem EF {es:List (List Bool×Nat)} {y:List Bool} {s:Nat} (hm:(y,s)∈es) (hu:∀e∈es,e.1=y→e=(y,s)):((rE es).find? λ e=>e.1==bS y).map (·.2)=some (nI s):=by
 unfold rE
 rw[List.find?_map]
 have:es.find? ((λ e:Str×AV=>e.1==bS y)∘λ w=>(bS w.1,nI w.2))=some (y,s):=by
  rw[List.find?_eq_some_iff_append]
  induction es with
  |nil=>cases hm
  |cons e es ih=>
   by_cases q:e.1=y
   ·have:=hu e (bA ..) q
    subst this
    exact dF (by simp) (vE ([]) es rfl (λ a ha=>by cases ha))
   ·have hm':(y,s)∈es:=by
     rcases bo.mp hm with h|h
     ·exact absurd (by rw[←h]) q
     ·exact h
    refine dL (ih hm' (λ e he=>hu e (bI _ he))) λ h1 y=>?_;refine ce y λ as bs h2 h3=>?_;clear y
    refine⟨h1,e::as,bs,by rw[h2];rfl,λ a ha=>?_⟩
    rcases bo.mp ha with rfl|ha
    ·simp;exact λ z=>q (Gy z)
    ·exact h3 a ha
 rw[this];rfl
theorem KG {n:Nat} {es:List (List Bool×Nat)} {y:List Bool} {h:List AO} (e:h[n]? =some (.dict (rE es))) (l:List (Option AV)) (Q:AV→St→Prop):W (b6 .In (.str (bS y)) (.ref n)) ⟨l,h⟩ Q=Q (.bool (es.any λ e=>e.1==y)) ⟨l,h⟩:=by
 rw[LA]
 have:EW h (.str (bS y)) (.ref n)=some (es.any λ e=>e.1==y):=by
  unfold EW
  dsimp only
  rw[e]
  dsimp only
  rw[AN]
 rw[this]
theorem Jw {n:Nat} {es:List (List Bool×Nat)} {y:List Bool} {s:Nat} {h:List AO} (e:h[n]? =some (.dict (rE es))) (hm:(y,s)∈es) (hu:∀e∈es,e.1=y→e=(y,s)) (l:List (Option AV)) (Q:AV→St→Prop) (q:Q (nI s) ⟨l,h⟩):W (de (.ref n) (.str (bS y))) ⟨l,h⟩ Q:=by
 refine me (a:=nI s) (bc:=⟨l,h⟩) ?_ q
 unfold de
 dsimp only
 rw[e]
 dsimp only
 rw[EF hm hu]
 rfl
theorem Br {h:List AO} {n:Nat} {es:List (List Bool×Nat)} {pre w rest:List Bool} {s:Nat} (e:h[n]? =some (.dict (rE es))) (hm:(w,s)∈es) (hw:w≠[]) (hp:∀x∈es,x.1<+:(w++rest)→x=(w,s)) (hl:(pre++(w++rest)).length≤20000):
  Sp kT [.ref n,.str (bS (pre++(w++rest))),.int pre.length] h λ r h'=>r= .tup [nI s,nI (pre.length+w.length)]∧h'=h:=by
 have hwl:0<w.length:=List.length_pos_iff.mpr hw
 have htl:(pre++(w++rest)).length=pre.length+(w.length+rest.length):=by simp
 generalize hT:pre++(w++rest)=tl at*
 have sl:∀(k:Nat) (_:k<w.length) {σ:St} {Q:AV→St→Prop},Q (.str (bS ((w++rest).take (k+1)))) σ→W (wu (.str (bS tl)) (.int pre.length) (.int (pre.length+1+k:Nat))) σ Q:=λ k hk σ Q q=>by
  rw[Ig]
  refine⟨⟨xC (by exact f!"1aa1.+b+>2") (by exact f!"1a1.+e+d>1e1.+b<1abc++d<5" (V htl.symm) hk),by rw[kQ];exact af hl (nb rfl)⟩,?_⟩
  rw[Dg,←hT,List.drop_left,show pre.length+1+k-pre.length=k+1 by omega];exact q
 w_fin
 refine je ?_
 w_left
 refine Eq.mpr (GD _ _ _) ⟨by rw[kQ];exact af hl (nb rfl),?_⟩
 rw[kQ]
 w_left
 refine GB (pre.length+1) (tl.length+1) _ _ (by exact f!"1b1.+1.+1000000.>1bcd++a<1a20000.<4" hl (V htl.symm)) (by exact f!"1a1.+1.+1000000.>1a20000.<1" hl) ⟨rfl,?_⟩
 refine gp (List.range (tl.length+1-(pre.length+1))) (λ(i:Nat)=>AV.int (pre.length+1+i:Nat)) (λ p σ=>p.length<w.length∧∃o,σ=⟨[some (.ref n),some (.str (bS tl)),some (.int pre.length),o],h⟩) ⟨hwl,none,rfl⟩ ?_ ?_ ?_
 ·intro p σ ww0;refine dL ww0 λ u y=>?_;refine gX y λ o uu0=>?_;clear y ww0;subst uu0
  exact xK _ _ h
 ·intro p x q σ hst ww0;refine dL ww0 λ hpw y=>?_;refine gX y λ o uu0=>?_;clear y ww0;subst uu0
  refine dL (iV hst) λ uu0 hpl=>?_;subst uu0
  clear hst
  w_left
  refine sl p.length hpw ?_
  w_left
  rw[KG e]
  by_cases q0:p.length+1=w.length
  ·have t1:(w++rest).take (p.length+1)=w:=by rw[q0];exact List.take_left
   rw[show(es.any λ e=>e.1==(w++rest).take (p.length+1))=true from List.any_eq_true.mpr ⟨(w,s),hm,by rw[t1];simp⟩]
   w_left
   refine sl p.length hpw ?_
   rw[t1]
   w_left
   refine Jw e hm (λ x hx hx1=>hp x hx (by rw[hx1];exact jw _ _)) _ _ ?_
   w_left
   exact dF (by rw[show pre.length+1+p.length=pre.length+w.length by omega];rfl) rfl
  ·rewrite[show(es.any λ e=>e.1==(w++rest).take (p.length+1))=false by
    rw[List.any_eq_false]
    intro x hx
    simp only[ju]
    intro hx1
    have:=hp x hx (by rw[hx1];exact List.take_prefix _ _)
    subst this
    have:=congrArg List.length hx1
    rw[jg,ah] at this
    dsimp only at this
    omega]
   w_left
   exact dF (by rw[ah,b9];omega) (si _ rfl)
 ·intro σ ww0;refine dL ww0 λ hpw y=>?_;refine gX y λ o uu0=>?_;clear y ww0;subst uu0
  rw[bE] at hpw
  omega+splitNatSub
theorem E5 (l:List Bool) (b:Bool):val (l++[b])=val l+EO b*2^l.length:=by
 rw[n9];unfold val val;rw[Nat.mul_zero,Nat.add_zero]
theorem Ch (tl:List Bool) (pl:Nat):∀c,pl+c≤tl.length→(((List.range c).filter λ i=>tl.getD (pl+i) false).map λ i=>2^i).sum=val ((tl.drop pl).take c)
 |0,_=>by simp[val]
 |c+1,h=>by
  have ih:=Ch tl pl c (by exact f!"1ab+c>1ab1.++c<3" h)
  have e:(tl.drop pl).take (c+1)=(tl.drop pl).take c++[tl.getD (pl+c) false]:=by
   rw[ku,List.getElem?_drop,aq (by with_unfolding_all exact f!"1ab+1.+c>1ab1.++c<3" h)]
   congr 1
   have:tl.getD (pl+c) false=tl[pl+c]:=by rw[aM,aq (by with_unfolding_all exact f!"1ab+1.+c>1ab1.++c<3" h)];rfl
   rw[this];rfl
  rw[e,E5,←ih,jQ,eT,bk,fJ]
  congr 1
  have hlen:((tl.drop pl).take c).length=c:=by rw[jg,List.length_drop];omega
  rw[hlen]
  cases hb:tl.getD (pl+c) false with
  |true=>simp only[List.filter_cons,List.filter_nil,hb,m0,aB,List.map_nil,bw,List.sum_nil,EO];exact jm (f!"1a0.+1a*>1") f!"1 1a*a>1"
  |false=>simp only[List.filter_cons,List.filter_nil,hb,mu,m3,List.map_nil,List.sum_nil,EO];exact jm (f!"1 0.0a*>1") f!"1 0a*0.>1"
theorem Ji (b:Bool):(bS [b]==Str.ofString "1")=b:=by
 rw[Gx]
 cases b with
 |true=>exact dv _
 |false=>decide+kernel
theorem Kt {tl:List Bool} {k:Nat} (hk:k<tl.length) (hl:tl.length≤20000) {σ:St} {Q:AV→St→Prop} (q:Q (.str (bS [tl.getD k false])) σ):W (wu (.str (bS tl)) (.int (k:Nat)) (.int ((k:Int)+1))) σ Q:=by
 rw[show(k:Int)+1=((k+1:Nat):Int) from rfl,Ig]
 refine⟨⟨xC (by exact jo _) (by exact fy hk),by rw[kQ];exact af hl (nb rfl)⟩,?_⟩
 rw[Dg,show k+1-k=1 by omega,List.take_one,List.head?_drop,aq hk]
 rw[aM,aq hk] at q;exact q
theorem yx {h:List AO} {tl:List Bool} {pl c:Nat} (hpc:pl+c≤tl.length) (hl:tl.length≤20000) (hc:c≤60):
  Sp i9 [.str (bS tl),.int pl,.int c] h λ r h'=>r=nI (val ((tl.drop pl).take c))∧Fr [] h h':=by
 w_fin
 w_left
 refine jD (k0 (List.range c) (λ(i:Nat)=>AV.int (i:Nat)) (λ i=>tl.getD (pl+i) false) (λ i=>nI (2^i)) ?_)
 w_left
 refine oz c _ _ (by exact aj hc (nb rfl)) ⟨rfl,_,rfl,jO _ _,by rw[bE];exact af hc (nb rfl),aH rfl,λ i hi=>?_,λ i hi u=>?_,?_⟩
 ·have hi:=fA.mp hi
  w_left
  refine Kt (k:=pl+i) (by exact f!"1ad+1.+c>1d1.+b<1ab+c<4" hpc hi) hl ?_
  w_left
  exact dF (Ji _) rfl
 ·have hi:=fA.mp hi
  w_left
  exact ts rfl (by exact bF (ag hi (af hc (nb rfl)))) ⟨rfl,rfl⟩
 ·rewrite[show((List.range c).filter λ i=>tl.getD (pl+i) false).map (λ i=>nI (2^i))=(((List.range c).filter λ i=>tl.getD (pl+i) false).map λ i=>2^i).map nI by rw[bY];rfl]
  refine lU (by rw[ac,ac];have:=il (λ i=>tl.getD (pl+i) false) (List.range c);rw[bE] at this;exact af this (af hc (nb rfl))) ?_
  w_left
  refine x5 (au h [_]) _ _ ?_
  rw[Ch tl pl c hpc]
  w_left
  exact dF rfl ((Fr.refl _ _).app _)
theorem xX:∀(a b v:Nat),dD v (a+b)=dD v a++dD (v / 2^a) b
 |0,b,v=>by rw[gV,Nat.pow_zero,Nat.div_one];rfl
 |a+1,b,v=>by
  rw[show a+1+b=(a+b)+1 by exact Nat.add_right_comm _ _ _]
  unfold dD
  rw[xX a b (v / 2),List.cons_append,m5,gc,dj 2]
  cases b<;>rfl
theorem xV:∀(c v:Nat),dD (v % 2^c) c=dD v c
 |0,_=>rfl
 |c+1,v=>by
  unfold dD
  have e1:v % 2^(c+1) % 2=v % 2:=by rw[gc,dj,Nat.mod_mul_right_mod]
  have e2:v % 2^(c+1) / 2=v / 2 % 2^c:=by rw[gc,dj,Nat.mod_mul_right_div_self]
  rw[e1,e2,xV c]
theorem wg:∀c,dD 0 c=List.replicate c false
 |0=>rfl
 |c+1=>by unfold dD;rw[ja];rw[show 0 / 2=0 from rfl,wg c];rfl
theorem xU:∀(bs:List Bool) (n:Nat),bs.length≤n→dD (val bs) n=bs++List.replicate (n-bs.length) false
 | [],n,_=>by show dD 0 n=_;rw[wg];rfl
 |b::bs,0,h=>by simp at h
 |b::bs,n+1,h=>by
  have ih:=xU bs n (by simpa using h)
  unfold dD
  rw[u4]
  have h1:(EO b+2*val bs) % 2=EO b:=by unfold EO;split<;>omega
  have h2:(EO b+2*val bs) / 2=val bs:=by unfold EO;split<;>omega
  rw[h1,h2,ih,List.cons_append,bW,show n+1-(bs.length+1)=n-bs.length by omega]
  congr 1
  cases b<;>rfl
theorem xN (N:Nat):∀q,((w6 N q).map λ c=>dD c.toNat 8).flatten=dD N (8*q)
 |0=>rfl
 |q+1=>by
  rw[wf,bk,List.flatten_append,xN N q,show 8*(q+1)=8*q+8 by exact rfl,xX]
  congr 1
  rw[mo,List.flatten_singleton]
  have:((N / 2^(8*q) % 256).toUInt8).toNat=N / 2^(8*q) % 2^8:=by
   simp
  rw[this,xV]
theorem yj {ln lf:List Nat} {p:Nat×Nat} (ok:HX ln lf p):(dG ln lf p).length≤48:=by
 refine iH ok λ os g1 g2=>?_;clear ok
 unfold iX at g1
 unfold nv at g2
 unfold dG
 rcases os with⟨q1,q2⟩|⟨q1,q2,q3,q4⟩
 ·rw[if_pos q1] at g1⊢
  rw[im];have:=g1.le;exact af this (nb rfl)
 ·have n1:¬p.1=0:=by exact ch (ag (nb rfl) q1)
  rw[if_neg n1] at g1 g2⊢
  have g2:=g2 (b0 p.2).1 (by simp)
  simp only[ah,im,i7]
  have:=g1.le
  have:=g2.le
  have:=(kH p.1 (by exact aj q2 (nb rfl)) q1).2.2
  have:=(mE q3 q4).2
  omega
theorem pU {ln lf:List Nat}:∀st:List (Nat×Nat),(∀p∈st,HX ln lf p)→(st.flatMap (dG ln lf)).length≤48*st.length
 | [],_=>bz _
 |p::st,h=>by
  have h1:=yj (h p (bA ..))
  have h2:=pU st (λ q hq=>h q (bI _ hq))
  rw[kx,ah,bW]
  exact f!"1ab+48c1.+*>1b48c*<1a48.<3" h1 h2
noncomputable def f8 (ln lf:List Nat) (st:List (Nat×Nat)):List Bool:=st.flatMap (dG ln lf)++gN ln 256
noncomputable def yD (T:Nat):Nat:=8*((T+7) / 8)-T
noncomputable def jZ (ln lf:List Nat) (st:List (Nat×Nat)):List Bool:=f8 ln lf st++List.replicate (yD (f8 ln lf st).length) false
noncomputable def WJ (h:List AO) (a b c one other:Nat) (ln lf:List Nat) (p:List (Nat×Nat)) (σ:St):Prop:=∃(o:Option AV) (h':List AO),σ=⟨[some (.ref a),some (.ref b),some (.ref c),some (.ref h.length),some (.ref one),some (.ref other),o,none,none,none],h'⟩∧LB h' h.length (p.flatMap (dG ln lf))∧PW h' one ln∧PW h' other lf∧Fr [] h h'
theorem wJ {h:List AO} {a b c:Nat} {st:List (Nat×Nat)} {ln lf:List Nat} (ea:h[a]? =some (.list (st.map rh))) (eb:h[b]? =some (.list (ln.map nI))) (ec:h[c]? =some (.list (lf.map nI)))
  (ok:∀p∈st,HX ln lf p) (g256:GS ln 256) (hs:st.length≤20) (l1:ln.length≤300) (l2:lf.length≤300) (m1:∀x∈ln,x≤15) (m2:∀x∈lf,x≤15):
  Sp nD [.ref a,.ref b,.ref c] h λ r h'=>r= .tup [.str (bS (jZ ln lf st)),nI (f8 ln lf st).length]∧Fr [] h h':=by
 w_fin
 w_left
 refine qW ((DP h).mono λ r aN q=>?_)
 refine dL q λ uu0 uu1=>?_;clear q;subst uu0 uu1
 have Y1:LB (h++[Ao h.length 0 0,.barr #[]]) h.length []:=IJ h
 have F1:Fr [] h (h++[Ao h.length 0 0,.barr #[]]):=(Fr.refl _ _).app _
 generalize (h++[Ao h.length 0 0,.barr #[]])=aN at*
 refine⟨rfl,?_⟩
 w_left
 refine qW ((xt (F1.get eb) m1 l1).mono λ r bT q=>?_)
 refine iH q λ uu0 X2 F2=>?_;clear q;subst uu0
 refine⟨rfl,?_⟩
 w_left
 refine qW ((xt ((F1.trans F2).get ec) m2 l2).mono λ r iQ q=>?_)
 refine iH q λ uu0 X3 F3=>?_;clear q;subst uu0
 refine⟨rfl,?_⟩
 have F03:Fr [] h iQ:=(F1.trans F2).trans F3
 have X2':=X2.mono F3
 have Y3:=Y1.mono (F2.trans F3)
 have hS:∀i∈[h.length,h.length+1],h.length≤i:=by intro i hi;simp at hi;omega
 clear X2 Y1
 generalize aN.length=one at*
 generalize bT.length=other at*
 w_left
 refine je ?_
 w_left
 refine jd (F03.get ea) ⟨rfl,gp st rh (λ p σ=>WJ h a b c one other ln lf p σ) ⟨none,iQ,rfl,Y3,X2',X3,F03⟩ ?_ ?_ ?_⟩
 ·intro p σ ww0;refine pN ww0 λ o h' uu0 Y Xa Xb F=>?_;clear ww0;subst uu0
  exact dt (F.get ea)
 ·intro p x q σ hst ww0;refine pN ww0 λ o h' uu0 Y Xa Xb F=>?_;clear ww0;subst uu0
  have hbl:=pU p λ y hy=>ok y (by rw[hst];simp[hy])
  have okx:HX ln lf x:=ok x (by rw[hst];simp)
  have hpl:p.length≤20:=by rw[hst] at hs;simp at hs;exact f!"1a20.>1ab1.++20.<2" hs
  w_left
  refine Sp.u13 (yv Y Xa Xb okx l1 l2 (by exact f!"1a9000.>48b20.<1a48b*<2" hbl hpl)) λ ot Y5 l5 F5=>?_
  w_left
  exact Ai _ ot rfl (by rw[List.flatMap_append,List.flatMap_singleton];exact Y5) (Xa.keep Y F5) (Xb.keep Y F5) (F.above F5 hS)
 ·intro σ ww0;refine pN ww0 λ o vP uu0 Y4 Xa Xb F4=>?_;clear ww0;subst uu0
  have hbl:=pU st ok
  refine bK Xa.ob λ oa ob xob u u=>?_
  w_left
  refine fK xob rfl ?_
  w_left
  refine Sp.u13 (Cg (s:=256) Xa Y4 g256 l1 (by exact f!"1b10000.>1b48a*<48a20.<2" hs hbl)) λ ot Y5 l5 F5=>?_
  have F05:=F4.above F5 hS
  have hab:(f8 ln lf st).length≤1000:=by unfold f8;rw[ah,im];have:=g256.le;exact f!"1bc+1000.>1c15.<1b48a*<48a20.<3" hs hbl this
  have Y5:LB ot h.length (f8 ln lf st):=Y5
  have hob:=Y5.ob
  unfold Ao at hob
  unfold jZ
  clear F4 F5 Y4 Xa Xb xob F03 F3 F2 F1 X3 X2' Y3 hbl ok
  generalize f8 ln lf st=bs at*
  have hol:(yG (val bs) bs.length).length=(bs.length+7) / 8:=uS _ _
  w_left
  refine jD (uU (yG (val bs) bs.length) (λ c=>AV.int c.toNat) (λ p out σ=>out=p.map (λ c=>AV.str (bS (dD c.toNat 8)))∧∃(o8:Option AV) (h':List AO),σ=⟨[some (.ref a),some (.ref b),some (.ref c),some (.ref h.length),some (.ref one),some (.ref other),o,none,o8,none],h'⟩∧Fr [] ot h') ?_ ?_)
  ·w_left
   refine fK hob rfl ?_
   w_left
   refine Sp.u11 (DQ Y5 (by exact af hab (nb rfl))) λ pS F6=>?_
   w_left
   refine⟨rfl,?_,⟨rfl,none,pS,rfl,F6⟩,?_,?_⟩
   ·intro i hi;rw[bu.mp hi];exact aH rfl
   ·intro p out σ ww0;refine dL ww0 λ u y=>?_;refine ce y λ o8 h' uu0 F'=>?_;clear y ww0;subst uu0
    exact dF (BI _ _) rfl
   ·intro out σ ww0;refine dL ww0 λ uu0 y=>?_;refine ce y λ o8 FU uu1 F7=>?_;clear y ww0;subst uu0 uu1
    have lm:((yG (val bs) bs.length).map λ c=>AV.str (bS (dD c.toNat 8))).length≤1000000:=by rw[ac,hol];exact f!"8b1000000.>1b8:a7.+<1a1000.<2" hab (be _ 8)
    refine⟨lm,?_⟩
    have Y8:=Y5.mono (F7.app [AO.list ((yG (val bs) bs.length).map λ c=>AV.str (bS (dD c.toNat 8)))])
    have hob8:=Y8.ob
    unfold Ao at hob8
    refine lU lm ?_
    w_left
    have ef:((yG (val bs) bs.length).map λ c=>dD c.toNat 8).flatten=bs++List.replicate (yD bs.length) false:=by
     unfold yG
     rw[xN,xU _ _ (by with_unfolding_all exact f!"1b8a*>1b8.+a8:8.+<2" (dA _ (nb rfl:1≤8)))];rfl
    refine GF (ls:=(yG (val bs) bs.length).map λ c=>dD c.toNat 8) (by rw[au,bY];rfl) (by rw[ef];unfold yD;simp;exact f!"1ab+100000.>1b8c*<1c8:a7.+<2a1000.<3" hab (be _ 8) (eS _ _)) _ _ ?_
    rw[ef]
    w_left
    refine fK hob8 rfl ?_
    w_left
    refine Sp.u2 (DO Y8 (by exact af hab (nb rfl))) ?_
    w_left
    exact dF rfl ((F05.trans F7).app _)
  ·intro p x q out σ hst ww0;refine dL ww0 λ uu0 y=>?_;refine ce y λ o8 h' uu1 F'=>?_;clear y ww0;subst uu0 uu1
   w_left
   refine BJ rfl ?_
   w_left
   refine Dl (k:=8) (f:=λ i=>x.toNat / 2^i) ⋯ (aH rfl) ?_ (xW _ _).symm (λ i hi=>?_) ?_
   ·w_left
    exact oz 8 _ _ ⋯ ⟨rfl,rfl⟩
   ·w_left
    rw[aX,pV,Dm]
    exact Ie (jv _ ⋯) _ _ ⟨rfl,rfl⟩
   w_left
   exact dF (by rw[bk];rfl) (vE _ _ rfl (F'.app _))
structure CT (lens:List Nat) (es:List (List Bool×Nat)):Prop where
 has:∀s,GS lens s→(gN lens s,s)∈es
 pf:∀x∈es,∀y∈es,x.1<+:y.1→x=y
theorem CT.only {lens:List Nat} {es:List (List Bool×Nat)} (c:CT lens es) {s:Nat} (g:GS lens s) (rest:List Bool):∀x∈es,x.1<+:(gN lens s++rest)→x=(gN lens s,s):=by
 intro x hx hp
 have hm:=c.has s g
 rcases Nat.le_total x.1.length (gN lens s).length with q|q
 ·exact c.pf _ hx _ hm (List.prefix_of_prefix_length_le hp (jw _ _) q)
 ·exact(c.pf _ hm _ hx (List.prefix_of_prefix_length_le (jw _ _) hp q)).symm
theorem Ce {lens:List Nat} {s:Nat} (g:GS lens s):gN lens s≠[]:=by
 intro z
 have:=congrArg List.length z
 rw[im] at this
 exact g.pos this
theorem DX:∀L<259,3≤L→lT.getD ((cu L).1-257) (0,0)=(L-(cu L).2.2,(cu L).2.1)∧(cu L).2.2≤L∧(cu L).1≤285:=by decide+kernel
theorem DZ {d:Nat} (h1:1≤d) (h2:d≤32768):iK.getD (b0 d).1 (0,0)=(d-(b0 d).2.2,(b0 d).2.1)∧(b0 d).2.2≤d:=by
 refine iH (CN h1 h2) λ a b c=>?_
 have h3:=congrArg (·.1) c
 have h4:=congrArg (·.2.1) c
 have h5:=congrArg (·.2.2) c
 unfold ru at h3 h4 h5
 dsimp only at h3 h4 h5
 rw[h3] at h4 h5 b
 refine⟨Prod.ext ?_ h4,by exact f!"1ac>1bc<1ab<3" (V h5.symm) (eS _ _)⟩
 show(iK.getD (b0 d).1 (0,0)).1=d-(b0 d).2.2
 exact jm (f!"1dc>1bd+e<1eca+<1ab<5" (V h5.symm) (sA _ _) (V (ai (f!"1ab>1ab<2" b))))<|f!"1dc>1db+e<1eac+<1ab<5" (V h5) (sA _ _) (V (ai (f!"1ac>1bc<1ab<3" (V h5.symm) (eS _ _))))
theorem Hc {h:List AO} {n:Nat} {es:List (List Bool×Nat)} {lens:List Nat} {tl pre rest:List Bool} {s:Nat} (e:h[n]? =some (.dict (rE es))) (c:CT lens es) (g:GS lens s) (hT:tl=pre++(gN lens s++rest)) (hl:tl.length≤20000):
  Sp kT [.ref n,.str (bS tl),.int pre.length] h λ r h'=>r= .tup [nI s,nI (pre.length+(gN lens s).length)]∧h'=h:=by
 subst hT
 exact Br e (c.has s g) (Ce g) (c.only g rest) hl
theorem Ei {h:List AO} {tl pre rest:List Bool} {v c:Nat} (hT:tl=pre++(dD v c++rest)) (hv:v<2^c) (hl:tl.length≤20000) (hc:c≤60):
  Sp i9 [.str (bS tl),.int pre.length,.int c] h λ r h'=>r=nI v∧Fr [] h h':=by
 have e:val ((tl.drop pre.length).take c)=v:=by
  rw[hT,List.drop_left]
  have:(dD v c++rest).take c=dD v c:=by
   have:=@List.take_left _ (dD v c) rest
   rw[i7] at this;exact this
  rw[this,qn _ _ hv]
 have:=yx (h:=h) (tl:=tl) (pl:=pre.length) (c:=c) (by rw[hT];simp[i7]) hl hc
 rw[e] at this
 exact this
theorem yA {h:List AO} {n:Nat} {es:List (List Bool×Nat)} {lens:List Nat} {tl pre rest:List Bool} {s:Nat} (e:h[n]? =some (.dict (rE es))) (c:CT lens es) (g:GS lens s) (hT:tl=pre++(gN lens s++rest)) (hl:tl.length≤20000) {R:AV→List AO→Prop}
  (q:R (.tup [nI s,nI (pre++gN lens s).length]) h):Sp kT [.ref n,.str (bS tl),.int pre.length] h R:=
 (Hc e c g hT hl).mono λ r h' x=>by refine dL x λ uu0 uu1=>?_;clear x;subst uu0 uu1;rw[←ah];exact q
theorem Af {h:List AO} {tl pre rest:List Bool} {v c:Nat} (hT:tl=pre++(dD v c++rest)) (hv:v<2^c) (hl:tl.length≤20000) (hc:c≤60) {R:AV→List AO→Prop}
  (q:∀h',Fr [] h h'→R (nI v) h'):Sp i9 [.str (bS tl),.int pre.length,.int c] h R:=
 (Ei hT hv hl hc).mono λ r h' x=>by refine dL x λ uu0 F=>?_;clear x;subst uu0;exact q h' F
theorem I0 {l:List (Option AV)} {h:List AO} {tl:List Bool} (hl:tl.length≤20000) {Q:AV→St→Prop} (q:Q (.int tl.length) ⟨l,h⟩):W (gI [.str (bS tl)]) ⟨l,h⟩ Q:=
 Eq.mpr (GD _ _ _) ⟨by rw[kQ];exact af hl ⋯,by rw[kQ];exact q⟩
noncomputable def LO (h:List AO) (dn df rl rd:Nat) (st:List (Nat×Nat)) (ln lf:List Nat) (tl:List Bool) (k:Nat) (σ:St):Prop:=∃(done todo:List (Nat×Nat)) (o7 o8 o9 o10:Option AV) (h':List AO),st=done++todo∧k=todo.length+1∧σ=⟨[some (.str (bS tl)),some (.ref dn),some (.ref df),some (.ref rl),some (.ref rd),some (.ref h.length),some (.int (done.flatMap (dG ln lf)).length),o7,o8,o9,o10],h'⟩∧
  h'[h.length]? =some (.list (done.map rh))∧Fr [] h h'
theorem CM {h h':List AO} {dn df rl rd:Nat} {st done todo:List (Nat×Nat)} {ln lf:List Nat} {tl A:List Bool} {p:Nat×Nat} {o7 o8 o9 o10:Option AV} (hst:st=done++p::todo) (hA:A=(done++[p]).flatMap (dG ln lf)) (g:h'[h.length]? =some (.list (done.map rh))) (F:Fr [] h h'):
  LO h dn df rl rd st ln lf tl (todo.length+1) ⟨[some (.str (bS tl)),some (.ref dn),some (.ref df),some (.ref rl),some (.ref rd),some (.ref h.length),some (.int A.length),o7,o8,o9,o10],h'.set h.length (.list (done.map rh++[rh p]))⟩:=by
 subst hA
 exact CC (done++[p]) todo o7 o8 o9 (Ai o10 _ (by rw[hst];simp) rfl rfl (by rw[cx g,bk];rfl) (F.set (.inr (bz _)) _))
theorem Bt {h:List AO} {dn df rl rd:Nat} {st:List (Nat×Nat)} {ln lf:List Nat} {en ef:List (List Bool×Nat)} (hdn:h[dn]? =some (.dict (rE en))) (hdf:h[df]? =some (.dict (rE ef))) (hrl:h[rl]? =some (.list (lT.map qA))) (hrd:h[rd]? =some (.list (iK.map qA)))
  (cn:CT ln en) (cf:CT lf ef) (ok:∀p∈st,HX ln lf p) (g256:GS ln 256) (hs:st.length≤20):
  Sp rI [.str (bS (jZ ln lf st)),.ref dn,.ref df,.ref rl,.ref rd] h λ r h'=>r= .tup [.ref h.length,nI (f8 ln lf st).length]∧h'[h.length]? =some (.list (st.map rh))∧Fr [] h h':=by
 have hfl:=pU st ok
 have hwl:(gN ln 256).length≤15:=by rw[im];exact g256.le
 have hTl:(jZ ln lf st).length≤20000:=by unfold jZ yD f8;rw[ah,dz,ah];exact f!"1bc+d+20000.>1e8:bc+7.+<1d8e*<2c15.<2b48a*<96a20.<5" hs hfl hwl (eS _ _) (be _ 8)
 have hTT:jZ ln lf st=st.flatMap (dG ln lf)++(gN ln 256++List.replicate (yD (f8 ln lf st).length) false):=by unfold jZ f8;rw[c5]
 clear hfl hwl
 generalize List.replicate (yD (f8 ln lf st).length) false=Z at*
 generalize jZ ln lf st=tl at*
 w_fin
 w_left
 refine sM (n:=1000) (LO h dn df rl rd st ln lf tl) (st.length+1) (aj (fX hs) ⋯) ⟨[],st,none,none,none,none,_,rfl,rfl,rfl,au h [AO.list []],(Fr.refl _ _).app _⟩ ?_
 intro k σ ww0;refine mS ww0 λ done todo o7 o8 o9 y=>?_;refine pN y λ o10 h' hst hk uu0 g F=>?_;clear y ww0;subst uu0
 have hpre:tl=done.flatMap (dG ln lf)++(todo.flatMap (dG ln lf)++(gN ln 256++Z)):=by rw[hTT,hst,List.flatMap_append,c5]
 have z2:(done.map rh).length≤1000000:=by rw[hst,ah] at hs;rw[ac];exact f!"1a1000000.>1ab+20.<2" hs
 w_left
 refine I0 hTl ?_
 w_left
 refine BJ (aC (bd.mpr ?_)) ⟨todo.length,hk,?_⟩
 ·have:=List.length_pos_iff.mpr (Ce g256)
  rw[hpre];simp only[ah];exact f!"1b1.+bcad+++>1 1.a<4" this
 w_left
 cases todo with
 |nil=>
  refine yA (F.get hdn) cn g256 hpre hTl ?_
  w_left
  rw[eJ] at hst
  subst hst
  exact lO rfl g F
 |cons p todo=>
  have okp:HX ln lf p:=ok p (by rw[hst];simp)
  have hfm:(done++[p]).flatMap (dG ln lf)=done.flatMap (dG ln lf)++dG ln lf p:=by rw[List.flatMap_append];simp
  rw[kx,c5] at hpre
  refine iH okp λ os g1 g2=>?_;clear okp
  unfold iX at g1
  unfold nv at g2
  have hsb:dG ln lf p=if p.1=0 then gN ln p.2 else gN ln (cu p.1).1++(dD (cu p.1).2.2 (cu p.1).2.1++(gN lf (b0 p.2).1++dD (b0 p.2).2.2 (b0 p.2).2.1)):=rfl
  rw[hsb] at hpre hfm
  rcases os with⟨q1,q2⟩|⟨q1,q2,q3,q4⟩
  ·rw[if_pos q1] at hpre hfm g1
   refine yA (F.get hdn) cn g1 hpre hTl ?_
   w_left
   refine fE (λ c=>?_) ?_
   ·exact absurd (ay c) (by show¬(285:Int)<((p.2:Nat):Int);omega)
   w_left
   refine fE (λ c=>?_) ?_
   ·exact absurd (ez c) (by show¬((p.2:Nat):Int)=256;omega)
   w_left
   refine iP (aC (bd.mpr q2)) ?_
   w_left
   refine kd rfl g z2 ?_
   w_left
   have:=CM (o7:=some (nI p.2)) (o8:=o8) (o9:=o9) (o10:=o10) (tl:=tl) (dn:=dn) (df:=df) (rl:=rl) (rd:=rd) hst hfm.symm g F
   rw[show rh p= .tup [.int 0,nI p.2] by unfold rh;rw[q1];rfl] at this
   exact this
  ·have n1:¬p.1=0:=by exact ch (ag (nb rfl) q1)
   rw[if_neg n1] at hpre hfm g1 g2
   have g2:=g2 (b0 p.2).1 (by simp)
   refine iH (DX p.1 (by exact aj q2 (nb rfl)) q1) λ r1 r2 r3=>?_
   refine dL (DZ q3 q4) λ r4 r5=>?_
   refine iH (kH p.1 (by exact aj q2 (nb rfl)) q1) λ s1 s2 s3=>?_
   refine dL (mE q3 q4) λ s4 s5=>?_
   have hv1:=tZ p.1 (by exact aj q2 (nb rfl)) q1
   have hv2:=sH p.2
   have at1:at_ (lT.map qA) (((cu p.1).1:Nat)-257)=some (qA (p.1-(cu p.1).2.2,(cu p.1).2.1)):=by
    have hk:(cu p.1).1-257<lT.length:=by rw[xz];exact f!"1b1.+29.>1b257.+a<1a285.<2" r3 (V (ai s2))
    rw[show(((cu p.1).1:Nat)-257:Int)=(((cu p.1).1-257:Nat):Int) by omega]
    refine tC (by exact bh _) (by omega) ?_
    rw[aX,fB,aq hk,←r1,aM,aq hk];rfl
   have Ic:at_ (iK.map qA) ((b0 p.2).1:Nat)=some (qA (p.2-(b0 p.2).2.2,(b0 p.2).2.1)):=by
    have hk:(b0 p.2).1<iK.length:=by rw[s7];exact f!"1a1.+30.>1a1.+30.<1" s4
    refine tC (by exact bh _) (by omega) ?_
    rw[aX,fB,aq hk,←r4,aM,aq hk];rfl
   simp only[c5] at hpre
   generalize hL:cu p.1=L at*
   generalize hD:b0 p.2=D at*
   obtain⟨La,Lb,Lc⟩:=L
   obtain⟨Da,Db,Dc⟩:=D
   dsimp only at*
   generalize todo.flatMap (dG ln lf)++(gN ln 256++Z)=Y at hpre
   generalize hB:done.flatMap (dG ln lf)=B at hpre hfm
   refine yA (F.get hdn) cn g1 hpre hTl ?_
   rw[←c5] at hpre
   w_left
   refine fE (λ c=>?_) ?_
   ·exact absurd (ay c) (by show¬(285:Int)<((La:Nat):Int);omega)
   w_left
   refine fE (λ c=>?_) ?_
   ·exact absurd (ez c) (by show¬((La:Nat):Int)=256;omega)
   w_left
   refine fE (λ c=>?_) ?_
   ·exact absurd (ay c) (by show¬((La:Nat):Int)<256;omega)
   w_left
   refine ig (F.get hrl) at1 ?_
   w_left
   refine Af hpre hv1 hTl (af s3 ⋯) λ bT F2=>?_
   rw[←c5] at hpre
   w_left
   rw[show(((B++gN ln La).length:Nat):Int)+((Lb:Nat):Int)=((B++gN ln La++dD Lc Lb).length:Nat) by simp only[ah,i7,Int.natCast_add],show((p.1-Lc:Nat):Int)+((Lc:Nat):Int)=((p.1:Nat):Int) by omega]
   have F3:=F.trans F2
   refine yA (F3.get hdf) cf g2 hpre hTl ?_
   rw[←c5] at hpre
   w_left
   refine ig (F3.get hrd) Ic ?_
   w_left
   refine BN (F2.get g) ?_
   w_left
   refine Af hpre hv2 hTl (af s5 ⋯) λ ot F5=>?_
   w_left
   refine⟨_,F5.get (F2.get g),z2,_,rfl,?_⟩
   w_left
   have e6:((p.2-Dc:Nat):Int)+((Dc:Nat):Int)=((p.2:Nat):Int):=by omega
   rw[e6,show(((B++gN ln La++dD Lc Lb++gN lf Da).length:Nat):Int)+((Db:Nat):Int)=((B++gN ln La++dD Lc Lb++gN lf Da++dD Dc Db).length:Nat) by simp only[ah,i7,Int.natCast_add]]
   exact CM (p:=p) hst (by rw[hfm];simp only[c5]) (F5.get (F2.get g)) (F3.trans F5)
noncomputable def oU:Nat→Nat→Nat→List (List Nat)
 |0,_,_=>[]
 |k+1,m,n=>if n=0 then[[]] else(List.range (n+1)).flatMap λ a=>if m≤a∧1≤a then(oU k a (n-a)).map (a::·) else[]
noncomputable def Km:List Nat→List Nat→Nat
 |a::x,b::y=>a*b+Km x y
 |_,_=>0
noncomputable def chk (w:List Nat):Bool:=(decide (w.length<2)|| ((yC w 15).all (λ d=>decide (1≤d∧d≤15))&&decide (((yC w 15).map λ d=>2^(15-d)).sum≤2^15)&&Km w (yC w 15)==gz w))&&decide (gz w≤5*w.sum)
theorem Lw:∀n<7,(oU 14 1 n).all chk=true:=by decide+kernel
theorem Lv:(oU 14 1 7).all chk=true:=by decide+kernel
theorem Lu:(oU 14 1 8).all chk=true:=by decide+kernel
theorem Ls:(oU 14 1 9).all chk=true:=by decide+kernel
theorem Kq:(oU 14 1 10).all chk=true:=by decide+kernel
theorem Kp:(oU 14 1 11).all chk=true:=by decide+kernel
theorem Ko:(oU 14 1 12).all chk=true:=by decide+kernel
theorem Ja (n:Nat) (h:n≤12):(oU 14 1 n).all chk=true:=by
 by_cases q:n<7
 ·exact Lw n q
 ·have:n=7∨n=8∨n=9∨n=10∨n=11∨n=12:=by omega
  rcases this with rfl|rfl|rfl|rfl|rfl|rfl
  ·exact Lv
  ·exact Lu
  ·exact Ls
  ·exact Kq
  ·exact Kp
  ·exact Ko
theorem xA:∀(k m:Nat) (w:List Nat),w.sum<k→w.Pairwise (·≤·)→(∀a∈w,m≤a∧1≤a)→w∈oU k m w.sum
 |0,m,w,h,_,_=>by omega
 |k+1,m,[],h,_,_=>by unfold oU;simp
 |k+1,m,a::w,h,hs,hp=>by
  have ha:=hp a (bA ..)
  have hs':=f0.mp hs
  rw[bw] at h⊢
  unfold oU
  rw[if_neg (by omega)]
  refine List.mem_flatMap.mpr ⟨a,fA.mpr (by exact f!"1a1.+ab+1.+>2"),?_⟩
  rw[if_pos ha,show a+w.sum-a=w.sum by omega]
  refine eH.mpr ⟨w,xA k a w (by exact f!"1b1.+c>1 1.a<1ab+1.+c1.+<3" h ha.2) hs'.2 (λ b hb=>⟨hs'.1 b hb,(hp b (bI _ hb)).2⟩),rfl⟩
theorem Gm {w:List Nat} (hs:w.Pairwise (·≤·)) (hp:∀a∈w,1≤a) (hn:w.sum≤12):chk w=true:=
 List.all_eq_true.mp (Ja w.sum hn) w (xA 14 1 w (by exact aj hn (nb rfl)) hs λ a ha=>⟨hp a ha,hp a ha⟩)
theorem BB {w:List Nat} (hs:w.Pairwise (·≤·)) (hp:∀a∈w,1≤a) (hn:w.sum≤12) (h2:2≤w.length):
  (∀d∈yC w 15,1≤d∧d≤15)∧((yC w 15).map λ d=>2^(15-d)).sum≤2^15∧Km w (yC w 15)=gz w:=by
 have c:=Gm hs hp hn
 unfold chk at c
 rw[cy,jS] at c
 revert c;refine λ yy=>dL yy λ c z=>?_;clear yy
 rcases c with c|c
 ·have:=ay c;omega+splitNatSub
 ·rw[cy,cy] at c
  refine dL c λ vv0 c3=>?_;clear c;refine dL vv0 λ c1 c2=>?_;clear vv0
  exact lO (λ d hd=>ay (List.all_eq_true.mp c1 d hd)) (ay c2) (by simpa using c3)
theorem Ek {w:List Nat} (hs:w.Pairwise (·≤·)) (hp:∀a∈w,1≤a) (hn:w.sum≤12):gz w≤5*w.sum:=by
 have c:=Gm hs hp hn
 unfold chk at c
 rw[cy] at c
 exact ay c.2
theorem tO (B:Nat) (xs:List Nat):(cW B xs).zipIdx=(List.range B).map λ i=>(xs.count i,i):=by
 apply hU
 ·simp[cW]
 ·intro i h1 h2
  simp[cW]
noncomputable def T (B:Nat) (xs:List Nat) (f:Nat→Nat):Nat:=((List.range B).map λ i=>xs.count i*f i).sum
theorem Av (x v:Nat):∀B,x<B→((List.range B).map λ i=>if i=x then v else 0).sum=v
 |B+1,h=>by
  rw[jQ,bk,fJ]
  by_cases q:x<B
  ·rw[Av x v B q]
   have:¬B=x:=by exact ch q
   simp[this]
  ·have hx:B=x:=by exact jm (f!"1ab>1ab<2" (aG q))<|f!"1ab>1a1.+b1.+<2" h
   subst hx
   have:((List.range B).map λ i=>if i=B then v else 0)=(List.range B).map λ u=>0:=bJ λ i hi=>by have:=fA.mp hi;rw[if_neg (by exact dE this)]
   rw[this]
   have z:∀l:List Nat,(l.map λ u=>0).sum=0:=λ l=>by induction l with|nil=>rfl|cons a l ih=>simpa using ih
   rw[z];simp
theorem JD {B:Nat} {f:Nat→Nat}:∀(xs:List Nat),(∀x∈xs,x<B)→T B xs f=(xs.map f).sum
 | [],_=>by
  unfold T
  have:((List.range B).map λ i=>([]:List Nat).count i*f i)=(List.range B).map λ u=>0:=bJ λ i u=>by simp
  rw[this]
  have z:∀l:List Nat,(l.map λ u=>0).sum=0:=λ l=>by induction l with|nil=>rfl|cons a l ih=>simpa using ih
  rw[z];rfl
 |x::xs,h=>by
  have ih:=JD (f:=f) xs (λ y hy=>h y (bI _ hy))
  have e:T B (x::xs) f=((List.range B).map λ i=>xs.count i*f i+if i=x then f x else 0).sum:=by
   unfold T
   congr 1
   refine bJ λ i u=>?_
   rw[List.count_cons]
   by_cases q:i=x
   ·subst q;simp[jp]
   ·have:¬x=i:=λ z=>q z.symm
    simp[q,this]
  rw[e,pF,Av x (f x) B (h x (bA ..)),aB,bw]
  rw[show(List.map (λ i=>List.count i xs*f i) (List.range B)).sum=T B xs f from rfl,ih]
  exact k6 _ _
theorem nJ {l l':List Nat} (h:l.Perm l'):l.sum=l'.sum:=by
 induction h with
 |nil=>rfl
 |cons a _ ih=>rw[bw,bw,ih]
 |swap a b l=>simp only[bw];exact Nat.add_left_comm _ _ _
 |trans _ _ h1 h2=>exact h1.trans h2
theorem AJ {α:Type} (t:α→Bool) (g:α→Nat) (hz:∀a,t a=false→g a=0):∀l:List α,((l.filter t).map g).sum=(l.map g).sum
 | []=>rfl
 |a::l=>by
  have ih:=AJ t g hz l
  by_cases q:t a=true
  ·rw[List.filter_cons_of_pos q,aB,bw,aB,bw,ih]
  ·have q':t a=false:=by simpa using q
   rw[List.filter_cons_of_neg q,aB,bw,hz a q',ih,gV]
theorem xf (B:Nat) (xs:List Nat) (f:Nat→Nat):((cq (cW B xs)).map λ p=>p.1*f p.2).sum=T B xs f:=by
 unfold cq
 rw[AJ (λ p:Nat×Nat=>decide (0<p.1)) (λ p=>p.1*f p.2) (λ p hp=>by have:=of_decide_eq_false hp;have:p.1=0:=(by exact gE (aG this) (et _));rw[this,Nat.zero_mul])]
 rw[tO,bY]
 rfl
theorem xg {B:Nat} {xs:List Nat} {p:Nat×Nat}:p∈cq (cW B xs)↔p.2<B∧p.1=xs.count p.2∧p.2∈xs:=by
 unfold cq
 rw[tO,List.mem_filter,eH]
 constructor
 ·intro ww0;refine dL ww0 λ vv0 h=>?_;clear ww0;refine bM vv0 λ i hi uu0=>?_;clear vv0;subst uu0
  exact lO (fA.mp hi) rfl (mt.mp (ay h))
 ·intro ww0;refine iH ww0 λ h1 h2 h3=>?_;clear ww0
  exact dF ⟨p.2,fA.mpr h1,Prod.ext h2.symm rfl⟩ (aC (by rw[h2];exact mt.mpr h3))
theorem pE (cs:List Nat):(cq cs).Nodup:=by
 unfold cq
 refine List.Nodup.sublist (List.filter_sublist) ?_
 refine List.Pairwise.of_map (S:=(·≠·)) (f:=Prod.snd) (λ a b hab z=>hab (by rw[z])) ?_
 rw[List.zipIdx_map_snd]
 exact List.nodup_range'
theorem iZ {B:Nat} {xs:List Nat} (h:∀x∈xs,x<B):((firsts xs).map λ s=>(xs.count s,s)).Perm (cq (cW B xs)):=by
 refine(List.perm_ext_iff_of_nodup ?_ (pE _)).mpr λ p=>?_
 ·exact List.Pairwise.map _ (λ a b hab z=>hab (congrArg Prod.snd z)) (sC xs)
 ·rw[xg,eH]
  constructor
  ·intro ww0;refine bM ww0 λ s hs uu0=>?_;clear ww0;subst uu0
   have:=(eW xs s).mp hs
   exact lO (h s this) rfl this
  ·intro ww0;refine iH ww0 λ h1 h2 h3=>?_;clear ww0
   exact fV p.2 ((eW xs p.2).mpr h3) (Prod.ext h2.symm rfl)
theorem mF {B:Nat} {xs:List Nat} {f:Nat→Nat} (h:∀x∈xs,x<B):ma xs f=(xs.map f).sum:=by
 have p:=(iZ h).map (λ p:Nat×Nat=>p.1*f p.2)
 rw[bY] at p
 have:=nJ p
 rw[xf,JD xs h] at this
 exact this
theorem DG {l l':List Nat} (h:l.Perm l') (h1:l.Pairwise (·≤·)) (h2:l'.Pairwise (·≤·)):l=l':=h.eq_of_pairwise (λ a b z z x y=>gE x y) h1 h2
theorem oj (l:List Nat):(eQ l).Pairwise (·≤·):=by
 have:=oi Hl IM l
 refine List.Pairwise.imp (λ{a b} h=>?_) this
 unfold A8 at h;exact ay h
theorem rX (l:List (Nat×Nat)):(ip l).Pairwise (λ x y=>sU x y=true):=oi Hj IL l
theorem Hk {x y:Nat×Nat} (h:sU x y=true):x.1≤y.1:=by unfold sU at h;simp at h;omega
theorem Bd {B:Nat} {xs:List Nat} (h:∀x∈xs,x<B):(ip (cq (cW B xs))).map (·.1)=eQ ((firsts xs).map λ s=>xs.count s):=by
 refine DG ?_ ?_ (oj _)
 ·refine(((cY sU _).map _).trans ?_).trans (cY A8 _).symm
  have:=(iZ h).map (·.1)
  rw[bY] at this
  exact this.symm
 ·exact List.Pairwise.map _ (λ a b hab=>Hk hab) (rX _)
structure Good (lens:List Nat):Prop where
 le15:∀x∈lens,x≤15
 len:lens.length≤300
 few:(cq lens).length<60
 kraft:((cq lens).map λ p=>2^(15-p.1)).sum≤2^15
noncomputable def GP (x y:Nat×Nat):Bool:=decide (x.1<y.1)|| (decide (x.1=y.1)&&decide (x.2<y.2))
theorem vG (lens:List Nat):(ie lens).Nodup:=(cY sU _).nodup_iff.mpr (pE lens)
theorem zN {l:List (Nat×Nat)} (hs:l.Pairwise (λ x y=>sU x y=true)) (nd:l.Nodup) {j:Nat} {y:Nat×Nat} (hy:l[j]? =some y):l.take j=l.filter λ x=>GP x y:=by
 refine gX (aA.mp hy) λ hj uu0=>?_;subst uu0
 have e:l=l.take j++(l[j]::l.drop (j+1)):=by rw[←iF hj,n6]
 have hs':=hs
 have nd':=nd
 rw[e] at hs' nd'
 generalize l[j]=y at*
 generalize l.take j=A at*
 generalize l.drop (j+1)=B at*
 subst e
 have h1:=List.pairwise_append.mp hs'
 have h2:=iO.mp nd'
 have h3:=f0.mp h1.2.1
 have h4:=jR.mp h2.2.1
 have fa:A.filter (λ x=>GP x y)=A:=List.filter_eq_self.mpr λ x hx=>by
  have a:=h1.2.2 x hx y (bA ..)
  have b:=h2.2.2 x hx y (bA ..)
  unfold sU at a;unfold GP
  simp at a⊢
  rcases a with a|⟨a,c⟩
  ·exact .inl a
  ·refine .inr ⟨a,?_⟩
   rcases Nat.lt_or_ge x.2 y.2 with d|d
   ·exact d
   ·exact absurd (Prod.ext a (by exact gE c d)) b
 have fb:(y::B).filter (λ x=>GP x y)=[]:=List.filter_eq_nil_iff.mpr λ x hx=>by
  rcases bo.mp hx with rfl|hx
  ·unfold GP;simp
  ·have a:=h3.1 x hx
   unfold sU at a;unfold GP
   simp at a⊢
   omega
 rw[eT,fa,fb,eJ]
theorem yO {α:Type} (t:α→Bool) (g:α→Nat):∀l:List α,((l.filter t).map g).sum=(l.map λ x=>if t x=true then g x else 0).sum
 | []=>rfl
 |a::l=>by
  by_cases q:t a=true
  ·rw[List.filter_cons_of_pos q,aB,bw,aB,bw,yO t g l,if_pos q]
  ·rw[List.filter_cons_of_neg q,aB,bw,yO t g l,if_neg q,gV]
theorem yh {α:Type} (f g:α→Nat):∀l:List α,(l.map λ i=>f i+g i).sum=(l.map f).sum+(l.map g).sum
 | []=>rfl
 |a::l=>by simp only[aB,bw];rw[yh f g l];exact jm (f!"1ac+bd++ab+cd++>4") f!"1ac+bd++ab+cd++>4"
theorem tx (x c:Nat):∀l:List Nat,(l.map λ v=>if v=x then c else 0).sum=l.count x*c
 | []=>by simp
 |a::l=>by
  rw[aB,bw,tx x c l,List.count_cons]
  by_cases q:a=x
  ·subst q;simp[jp];exact k6 _ _
  ·simp[q]
noncomputable def BG (lens:List Nat) (M l:Nat):Nat:=(lens.map λ v=>if 0<v∧v<l then 2^(M-v) else 0).sum
theorem Er (lens:List Nat) (M l:Nat):BG lens M (l+1)=BG lens M l+if 1≤l then lens.count l*2^(M-l) else 0:=by
 unfold BG
 by_cases q:1≤l
 ·rw[if_pos q,←tx l (2^(M-l)) lens,←yh]
  congr 1
  refine bJ λ v u=>?_
  by_cases q1:v=l
  ·subst q1;rw[if_pos ⟨by exact ag (nb rfl) q,by exact fY _⟩,if_neg (by with_unfolding_all exact λ z=>f!"z1a1.+a<1" z.2),if_pos rfl];exact jm (f!"1a0.a+>1") f!"1 0.a+a>1"
  ·by_cases q2:0<v∧v<l
   ·rw[if_pos (by omega),if_pos q2,if_neg q1,Nat.add_zero]
   ·rw[if_neg (by omega),if_neg q2,if_neg q1]
 ·rw[if_neg q,Nat.add_zero]
  congr 1
  refine bJ λ v u=>?_
  rw[if_neg (by with_unfolding_all exact λ z=>f!"z1b1.+a1.+<1 1.b<1a1.+1.<2" (fZ q) z.1 z.2),if_neg (by with_unfolding_all exact λ z=>f!"z1b1.+a<1 1.b<1a1.+1.<2" (fZ q) z.1 z.2)]
theorem CH (lens:List Nat) (M:Nat):∀l,l≤M→BG lens M l=el (λ l=>lens.count l) l*2^(M-l)
 |0,_=>by
  unfold BG el
  rw[Nat.zero_mul]
  have:(lens.map λ v=>if 0<v∧v<0 then 2^(M-v) else 0)=lens.map λ u=>0:=bJ λ v u=>by rw[if_neg (by with_unfolding_all exact λ z=>f!"z1a1.+0.<1" z.2)]
  rw[this]
  have z:∀l:List Nat,(l.map λ u=>0).sum=0:=λ l=>by induction l with|nil=>rfl|cons a l ih=>simpa using ih
  exact z _
 |l+1,h=>by
  rw[Er,CH lens M l (by with_unfolding_all exact f!"1ab>1a1.+b<2" h),rD]
  have e:2^(M-l)=2*2^(M-(l+1)):=by rw[←Nat.pow_succ',Nat.succ_eq_add_one,show M-(l+1)+1=M-l by with_unfolding_all exact jm (f!"1b1.+a>1bd1.++c<1cad+<4" (sA _ _) (V (ai (f!"1a1.+b>1a1.+b<2" h))))<|f!"1ba1.+>1bd+c<1cad1.++<4" (sA _ _) (V (ai (f!"1ab>1a1.+b<2" h)))]
  rw[e]
  split
  ·rw[jp,jp,iR,iR]
  ·simp only[Nat.add_zero];rw[iR]
theorem Dy (lens:List Nat) (s:Nat) (hs:s≤lens.length):lens.zipIdx=(lens.take s).zipIdx++(lens.drop s).zipIdx s:=by
 conv=>lhs;rw[←n6 s lens]
 rw[List.zipIdx_append,jg,gV,Nat.min_eq_left hs]
theorem Fj (lens:List Nat) (s l c:Nat) (hs:s≤lens.length):(lens.zipIdx.map λ x=>if x.1=l∧x.2<s then c else 0).sum=(lens.take s).count l*c:=by
 rw[Dy lens s hs,bk,fJ,←tx]
 have e1:((lens.take s).zipIdx.map λ x=>if x.1=l∧x.2<s then c else 0)=(lens.take s).map λ v=>if v=l then c else 0:=by
  have:((lens.take s).zipIdx.map λ x=>if x.1=l∧x.2<s then c else 0)=(lens.take s).zipIdx.map ((λ v=>if v=l then c else 0)∘Prod.fst):=by
   refine bJ λ x hx=>?_
   have h:=(List.mem_zipIdx' hx).1
   rw[jg] at h
   show(if x.1=l∧x.2<s then c else 0)=if x.1=l then c else 0
   by_cases q:x.1=l
   ·rw[if_pos ⟨q,by omega⟩,if_pos q]
   ·rw[if_neg (λ z=>q z.1),if_neg q]
  rw[this,←bY,lI]
 have e2:(((lens.drop s).zipIdx s).map λ x=>if x.1=l∧x.2<s then c else 0)=((lens.drop s).zipIdx s).map λ u=>0:=by
  refine bJ λ x hx=>?_
  have h:=List.le_snd_of_mem_zipIdx hx
  rw[if_neg (by with_unfolding_all exact λ z=>f!"z1b1.+a<1ab<2" h z.2)]
 rw[e1,e2]
 have z:∀l:List (Nat×Nat),(l.map λ u=>0).sum=0:=λ l=>by induction l with|nil=>rfl|cons a l ih=>simpa using ih
 rw[z,Nat.add_zero]
theorem oh {lens:List Nat} {M j:Nat} {y:Nat×Nat} (hM:∀x∈lens,x≤M) (hy:(ie lens)[j]? =some y):dZ M 0 ((ie lens).take j)=fF lens y.2*2^(M-y.1)∧Ln lens y.2=y.1∧0<y.1∧y.1≤M:=by
 have hym:y∈cq lens:=(cY sU _).mem_iff.mp (bU hy)
 refine iH (ml hym) λ u1 u2 u3=>?_
 have hl:Ln lens y.2=y.1:=by rw[Ln,aM,u2];rfl
 have hyM:y.1≤M:=hM y.1 (bU u2)
 refine⟨?_,hl,u3,hyM⟩
 unfold dZ
 rw[gV,zN (l:=ie lens) (rX _) (vG lens) hy]
 have p:((ie lens).filter λ x=>GP x y).Perm ((cq lens).filter λ x=>GP x y):=(cY sU _).filter _
 rw[nJ (p.map _)]
 unfold cq
 rw[List.filter_filter,yO]
 have e:(lens.zipIdx.map λ x=>if(GP x y&&decide (0<x.1))=true then 2^(M-x.1) else 0)=lens.zipIdx.map λ x=>(if 0<x.1∧x.1<y.1 then 2^(M-x.1) else 0)+if x.1=y.1∧x.2<y.2 then 2^(M-y.1) else 0:=by
  refine bJ λ x u=>?_
  unfold GP
  by_cases q1:x.1<y.1
  ·by_cases q2:0<x.1
   ·rw[if_pos (by simp;omega),if_pos ⟨q2,q1⟩,if_neg (by with_unfolding_all exact λ z=>f!"z1ba<1a1.+b<2" q1 (V z.1.symm))];rfl
   ·rw[if_neg (by simp;omega),if_neg (by with_unfolding_all exact λ z=>f!"z1 1.a<1a0.<1" (aG q2) z.1),if_neg (by with_unfolding_all exact λ z=>f!"z1ba<1a1.+b<2" q1 (V z.1.symm))]
  ·by_cases q2:x.1=y.1
   ·by_cases q3:x.2<y.2
    ·rw[if_pos (by simp;omega),if_neg (by with_unfolding_all exact λ z=>f!"z1b1.+a<1ab<2" (aG q1) z.2),if_pos ⟨q2,q3⟩,q2];exact jm (f!"1a0.a+>1") f!"1 0.a+a>1"
    ·rw[if_neg (by simp;omega),if_neg (by with_unfolding_all exact λ z=>f!"z1b1.+a<1ab<2" (aG q1) z.2),if_neg (by with_unfolding_all exact λ z=>f!"z1b1.+a<1ab<2" (aG q3) z.2)]
   ·rw[if_neg (by simp;omega),if_neg (by with_unfolding_all exact λ z=>f!"z1b1.+a<1ab<2" (aG q1) z.2),if_neg (by omega)]
 rw[e,yh,Fj lens y.2 y.1 _ (by exact bF u1)]
 have e2:(lens.zipIdx.map λ x=>if 0<x.1∧x.1<y.1 then 2^(M-x.1) else 0).sum=BG lens M y.1:=by
  unfold BG
  have:(lens.zipIdx.map λ x=>if 0<x.1∧x.1<y.1 then 2^(M-x.1) else 0)=lens.zipIdx.map ((λ v=>if 0<v∧v<y.1 then 2^(M-v) else 0)∘Prod.fst):=rfl
  rw[this,←bY,lI]
 rw[e2,CH lens M y.1 hyM,←jp]
 congr 1
 unfold fF
 rw[show lens.getD y.2 0=y.1 from hl,if_neg (by exact ch u3)]
theorem tR (M:Nat) (a b:List (Nat×Nat)):dZ M 0 (a++b)=dZ M 0 a+dZ M 0 b:=by unfold dZ;rw[bk,fJ];exact jm (f!"1 0.ab++0.a+0.b++>2") f!"1 0.a+0.b++0.ab++>2"
theorem DD (M:Nat) (y:Nat×Nat):dZ M 0 [y]=2^(M-y.1):=by unfold dZ;simp
theorem ri {M:Nat} {l:List (Nat×Nat)} {i j:Nat} {y:Nat×Nat} (hy:l[i]? =some y) (h:i<j):dZ M 0 (l.take i)+2^(M-y.1)≤dZ M 0 (l.take j):=by
 have e1:l.take (i+1)=l.take i++[y]:=by rw[ku,hy];rfl
 have e2:l.take j=l.take (i+1)++(l.take j).drop (i+1):=by
  have:(l.take j).take (i+1)=l.take (i+1):=by rw[List.take_take,Nat.min_eq_left (by exact fy h)]
  rw[←this,n6]
 rw[e2,tR,e1,tR,DD]
 exact hP _ _
theorem DE {M:Nat} {l:List (Nat×Nat)} {i:Nat} {y:Nat×Nat} (hy:l[i]? =some y):dZ M 0 (l.take i)+2^(M-y.1)≤dZ M 0 l:=by
 have:=ri (M:=M) hy (j:=l.length) (aA.mp hy).1
 rwa [List.take_length] at this
theorem sg {lens:List Nat}:∀x∈lens,x≤cI lens:=λ x hx=>by have:=uE lens x hx;unfold cI;omega
theorem IO {lens:List Nat} (g:Good lens):dZ (cI lens) 0 (ie lens)≤2^cI lens:=by
 have hM:cI lens≤15:=by have:=yI g.le15;unfold cI;omega
 have e:dZ (cI lens) 0 (ie lens)=((cq lens).map λ p=>2^(cI lens-p.1)).sum:=by
  unfold dZ
  rw[gV]
  exact nJ ((cY sU _).map _)
 have k:=g.kraft
 have e2:((cq lens).map λ p=>2^(15-p.1)).sum=((cq lens).map λ p=>2^(cI lens-p.1)).sum*2^(15-cI lens):=by
  have:∀l:List (Nat×Nat),(∀p∈l,p.1≤cI lens)→(l.map λ p=>2^(15-p.1)).sum=(l.map λ p=>2^(cI lens-p.1)).sum*2^(15-cI lens):=by
   intro l
   induction l with
   |nil=>intro _;simp
   |cons a l ih=>
    intro h
    have h1:=h a (bA ..)
    rw[aB,bw,aB,bw,ih (λ p hp=>h p (bI _ hp)),jp,←gh]
    rw[show cI lens-a.1+(15-cI lens)=15-a.1 by with_unfolding_all exact jm (f!"1bc+a>1ce+15.<1bd+e<1 15.ad+<5" (sA _ _) (V (ai (f!"1ab>1ab<2" h1))) (V (ai (f!"1a15.>1a15.<1" hM))))<|f!"1cab+>1ce+15.<1 15.bd+<1dae+<5" (sA _ _) (sA _ _) (V (ai (f!"1b15.>1ba<1a15.<2" hM h1)))]
  exact this _ λ p hp=>sg _ (bU (ml hp).2.1)
 rw[e2] at k
 rw[e]
 have h15:(2:Nat)^15=2^cI lens*2^(15-cI lens):=by rw[←gh];congr 1;exact jm (f!"1 15.ab+>1 15.ba+<2" (sA _ _))<|f!"1ab+15.>1ba+15.<2" (V (ai hM))
 rw[h15] at k
 exact Nat.le_of_mul_le_mul_right k (cR _)
theorem za {lens:List Nat} (g:Good lens) {j:Nat} {y:Nat×Nat} (hy:(ie lens)[j]? =some y):fF lens y.2<2^y.1:=by
 refine oW (oh sg hy) λ a b c d=>?_
 have h1:=DE (M:=cI lens) hy
 have h2:=IO g
 rw[a] at h1
 have e:2^cI lens=2^y.1*2^(cI lens-y.1):=by rw[←gh];congr 1;exact jm (f!"1cab+>1cba+<3" (sA _ _))<|f!"1bc+a>1cb+a<3" (V (ai d))
 rw[e] at h2
 have h3:(fF lens y.2+1)*2^(cI lens-y.1)≤2^y.1*2^(cI lens-y.1):=by rw[jp,Nat.one_mul];exact af h1 h2
 exact Nat.le_of_mul_le_mul_right h3 (cR _)
theorem u5 {lens:List Nat} {s:Nat} (h:Ln lens s≠0):(Ln lens s,s)∈cq lens:=by
 have hs:s<lens.length:=by
  rcases Nat.lt_or_ge s lens.length with q|q
  ·exact q
  ·exact absurd (by rw[Ln,aM,ca q];rfl) h
 have e:Ln lens s=lens[s]:=by rw[Ln,aM,aq hs];rfl
 unfold cq
 refine List.mem_filter.mpr ⟨?_,aC (by show 0<Ln lens s;omega)⟩
 rw[e]
 exact List.mem_zipIdx_iff_getElem?.mpr (aq hs)
theorem HZ {lens:List Nat} {s:Nat} (h:Ln lens s≠0):∃j:Nat,(ie lens)[j]? =some (Ln lens s,s):=
 fS.mp ((cY sU _).mem_iff.mpr (u5 h))
theorem Good.gs {lens:List Nat} (g:Good lens) {s:Nat} (h:Ln lens s≠0):GS lens s:=by
 refine gX (HZ h) λ j hj=>?_
 have hl:Ln lens s≤15:=g.le15 _ (bU (ml (u5 h)).2.1)
 exact⟨h,hl,za g hj⟩
theorem ub {lens:List Nat}:∀n,n≤(ie lens).length→ki (cI lens) 0 ((ie lens).take n)=((ie lens).take n).map λ p=>(gN lens p.2,p.2)
 |0,_=>rfl
 |n+1,h=>by
  have hy:(ie lens)[n]? =some (ie lens)[n]:=aq (by exact f!"1a1.+b>1a1.+b<2" h)
  generalize (ie lens)[n]=y at hy
  refine oW (oh sg hy) λ a b c d=>?_
  have e:(ie lens).take (n+1)=(ie lens).take n++[y]:=by rw[ku,hy];rfl
  rw[e,pX,ub n (by with_unfolding_all exact f!"1ab>1a1.+b<2" h),bk,a,Nat.mul_div_cancel _ (cR _)]
  rw[mo]
  unfold gN
  rw[b]
noncomputable def Ci (lens:List Nat):List (List Bool×Nat):=(ie lens).map λ p=>(gN lens p.2,p.2)
theorem EJ (lens:List Nat):ki (cI lens) 0 (ie lens)=Ci lens:=by
 have:=ub (lens:=lens) (ie lens).length (bz _)
 rwa [List.take_length] at this
noncomputable def FW:List Bool→Nat
 | []=>0
 |b::l=>EO b*2^l.length+FW l
theorem yW (v:Nat):∀c,FW (iI v c)=v % 2^c
 |0=>by simp[iI,FW,Nat.mod_one]
 |c+1=>by
  unfold iI FW
  rw[yW v c,kM,Dn,gc,Nat.mod_mul]
  rw[dj (2^c)];exact k6 _ _
theorem C0 (u:Nat):∀d c,c≤d→(iI u d).take c=iI (u / 2^(d-c)) c
 |0,c,h=>by have:c=0:=(by exact gE h (et _));subst this;rfl
 |d+1,0,_=>rfl
 |d+1,c+1,h=>by
  unfold iI
  rw[List.take_succ_cons,C0 u d c (by with_unfolding_all exact f!"1ab>1a1.+b1.+<2" h),m5,←gh,show d+1-(c+1)=d-c by with_unfolding_all exact jm (f!"1ba>1bd1.++c1.+<1cad+<4" (sA _ _) (V (ai (f!"1a1.+b1.+>1a1.+b1.+<2" h))))<|f!"1ba>1bd+c<1c1.+ad1.++<4" (sA _ _) (V (ai (f!"1ab>1a1.+b1.+<2" h))),show d-c+c=d by with_unfolding_all exact jm (f!"1bc+a>1bc+a<3" (V (ai (f!"1ab>1a1.+b1.+<2" h))))<|f!"1cab+>1cab+<3" (sA _ _)]
theorem EB {v u c d:Nat} (hv:v<2^c) (hu:u<2^d) (h:iI v c<+:iI u d):c≤d∧v=u / 2^(d-c):=by
 have hl:=h.length_le
 rw[kM,kM] at hl
 refine⟨hl,?_⟩
 have e:=List.prefix_iff_eq_take.mp h
 rw[kM,C0 u d c hl] at e
 have e2:=congrArg FW e
 rw[yW,yW,Nat.mod_eq_of_lt hv,Nat.mod_eq_of_lt] at e2
 ·exact e2
 ·rw[n5 (cR _),←gh,show c+(d-c)=d by with_unfolding_all exact jm (f!"1bc+a>1cb+a<3" (V (ai (f!"1ab>1ab<2" hl))))<|f!"1cab+>1cba+<3" (sA _ _)];exact hu
theorem E8 {lens:List Nat} (g:Good lens) {i j:Nat} {x y:Nat×Nat} (hx:(ie lens)[i]? =some x) (hy:(ie lens)[j]? =some y) (h:gN lens x.2<+:gN lens y.2):x=y:=by
 refine oW (oh sg hx) λ a1 b1 c1 d1=>?_
 refine oW (oh sg hy) λ a2 b2 c2 d2=>?_
 have l1:=za g hx
 have l2:=za g hy
 unfold gN at h
 rw[b1,b2] at h
 refine dL (EB l1 l2 h) λ hl hv=>?_
 have q1:=be (fF lens y.2) (2^(y.1-x.1))
 have q2:=Nat.lt_mul_div_succ (fF lens y.2) (cR (y.1-x.1))
 rw[←hv] at q1 q2
 have e:2^(cI lens-x.1)=2^(y.1-x.1)*2^(cI lens-y.1):=by rw[←gh];congr 1;exact jm (f!"1cab+>1ce+f<1fbd+<1dae+<6" (sA _ _) (sA _ _) (V (ai d1)))<|f!"1bc+a>1fad+<1ce+f<1bd+e<6" (V (ai hl)) (V (ai d2)) (sA _ _)
 have r1:dZ (cI lens) 0 ((ie lens).take i)≤dZ (cI lens) 0 ((ie lens).take j):=by
  rw[a1,a2,e,←iR]
  exact Nat.mul_le_mul_right _ q1
 have r2:dZ (cI lens) 0 ((ie lens).take j)<dZ (cI lens) 0 ((ie lens).take i)+2^(cI lens-x.1):=by
  rw[a1,a2,e,←iR]
  have:fF lens y.2*2^(cI lens-y.1)<(2^(y.1-x.1)*(fF lens x.2+1))*2^(cI lens-y.1):=Nat.mul_lt_mul_of_pos_right q2 (cR _)
  rw[Nat.mul_add,Nat.mul_one,jp,dj (2^(y.1-x.1))] at this
  exact this
 rcases Nat.lt_trichotomy i j with q|q|q
 ·have:=ri (M:=cI lens) hx q;omega
 ·subst q;rw[hx] at hy;cases hy;rfl
 ·have:=ri (M:=cI lens) hy q
  have:=cR (cI lens-y.1)
  omega
theorem Good.ct {lens:List Nat} (g:Good lens):CT lens (Ci lens):=by
 refine⟨λ s gs=>?_,λ x hx y hy h=>?_⟩
 ·refine gX (HZ gs.pos) λ j hj=>?_
  exact eH.mpr ⟨_,bU hj,rfl⟩
 ·refine bM (eH.mp hx) λ p hp uu0=>?_;subst uu0
  refine bM (eH.mp hy) λ q hq uu0=>?_;subst uu0
  refine gX (fS.mp hp) λ i hi=>?_
  refine gX (fS.mp hq) λ j hj=>?_
  have:=E8 g hi hj h
  rw[this]
theorem Ab (es:List (List Bool×Nat)):(es.map (·.1)).Nodup→mB es=rE es:=by
 refine j4 (P:=λ es=>(es.map (·.1)).Nodup→mB es=rE es) (λ u=>rfl) (λ xs x ih h=>?_) es
 rw[bk] at h
 have h1:=iO.mp h
 rw[pL,ih h1.1]
 unfold ur
 rw[AN]
 have:(xs.any λ e=>e.1==x.1)=false:=by
  rw[List.any_eq_false]
  intro e he
  simp only[ju]
  intro z
  exact h1.2.2 e.1 (eH.mpr ⟨e,he,rfl⟩) x.1 (by simp) z
 rw[this,if_neg (by simp)]
 unfold rE
 rw[bk];rfl
theorem Good.put {lens:List Nat} (g:Good lens):mB (ki (cI lens) 0 (ie lens))=rE (Ci lens):=by
 rw[EJ]
 refine Ab _ ?_
 unfold Ci
 rw[bY]
 refine List.pairwise_map.mpr ?_
 have nd:=vG lens
 rw[lF]
 intro i j hi hj hij
 show gN lens (ie lens)[i].2≠gN lens (ie lens)[j].2
 intro z
 have:=E8 g (aq hi) (aq hj) (by rw[z];exact bG _)
 have:=(lF.mp nd) i j hi hj hij
 exact this (by assumption)
noncomputable abbrev mA (zl:List ((Nat×Nat)×Nat)) (f:List Nat):List Nat:=zl.foldl (λ f x=>f.set x.1.2 x.2) f
theorem Bn (zl:List ((Nat×Nat)×Nat)) (f:List Nat):(mA zl f).length=f.length:=by
 induction zl generalizing f with
 |nil=>rfl
 |cons a l ih=>rw[mA,gG];exact(ih _).trans bt
theorem Bo (f:List Nat) (zl:List ((Nat×Nat)×Nat)):(zl.map (·.1.2)).Nodup→(∀x∈zl,x.1.2<f.length)→(∀x∈zl,(mA zl f)[x.1.2]? =some x.2)∧∀s,s∉zl.map (·.1.2)→(mA zl f)[s]? =f[s]? :=by
 refine j4 (P:=λ zl=>(zl.map (·.1.2)).Nodup→(∀x∈zl,x.1.2<f.length)→(∀x∈zl,(mA zl f)[x.1.2]? =some x.2)∧∀s,s∉zl.map (·.1.2)→(mA zl f)[s]? =f[s]?) (λ u u=>⟨nofun,λ u u=>rfl⟩) (λ zl y ih nd hb=>?_) zl
 rw[bk] at nd
 have n1:=iO.mp nd
 refine dL (ih n1.1 (λ x hx=>hb x (List.mem_append_left _ hx))) λ i1 i2=>?_
 have e:mA (zl++[y]) f=(mA zl f).set y.1.2 y.2:=by unfold mA;rw[fC];rfl
 have hy:y.1.2<(mA zl f).length:=by rw[Bn];exact hb y (by simp)
 rw[e]
 refine⟨λ x hx=>?_,λ s hs=>?_⟩
 ·rcases gF.mp hx with hx|hx
  ·have:y.1.2≠x.1.2:=λ z=>n1.2.2 x.1.2 (eH.mpr ⟨x,hx,rfl⟩) y.1.2 (by simp) z.symm
   rw[cZ this];exact i1 x hx
  ·rw[bu] at hx;subst hx
   rw[jx hy]
 ·rw[bk,gF,not_or] at hs
  have:y.1.2≠s:=λ z=>hs.2 (by rw[←z];simp)
  rw[cZ this];exact i2 s hs.1
theorem Df (f:Nat×Nat→Nat):∀rows:List (Nat×Nat),Km (rows.map (·.1)) (rows.map f)=(rows.map λ p=>p.1*f p).sum
 | []=>rfl
 |a::rows=>by
  rw[aB,aB,aB,bw,←Df f rows];rfl
theorem q8 {xs:List Nat}:∀c∈(firsts xs).map λ s=>xs.count s,1≤c:=by
 intro c hc
 refine bM (eH.mp hc) λ s hs uu0=>?_;subst uu0
 exact mt.mpr ((eW xs s).mp hs)
theorem wa {B:Nat} {xs:List Nat} (h:∀x∈xs,x<B):((firsts xs).map λ s=>xs.count s).sum=xs.length:=by
 have:=mF (f:=λ u=>1) h
 unfold ma at this
 have e:((firsts xs).map λ s=>xs.count s*1)=(firsts xs).map λ s=>xs.count s:=bJ λ s u=>Nat.mul_one _
 rw[e] at this
 rw[this]
 have z:∀l:List Nat,(l.map λ u=>1).sum=l.length:=λ l=>by
  induction l with
  |nil=>rfl
  |cons a l ih=>rw[aB,bw,ih,bW];exact k6 _ _
 exact z xs
theorem xm (l:List Nat):(eQ l).sum=l.sum:=nJ (cY A8 l)
theorem t0 {B:Nat} {xs:List Nat} (h:∀x∈xs,x<B) (hB:B≤300) (hl:xs.length≤12):
  (ka (cW B xs)).length=B∧Good (ka (cW B xs))∧(∀x∈xs,Ln (ka (cW B xs)) x≠0)∧(∀s,s∉xs→Ln (ka (cW B xs)) s=0)∧(xs.map (Ln (ka (cW B xs)))).sum=gz (eQ ((firsts xs).map λ s=>xs.count s)):=by
 have hfl:=ii xs
 have hw:=Bd h
 have hul:(cq (cW B xs)).length=(firsts xs).length:=by
  have:=(iZ h).length_eq
  rw[ac] at this;exact this.symm
 have hrl:(ip (cq (cW B xs))).length=(firsts xs).length:=(sX _).trans hul
 have hws:=oj ((firsts xs).map λ s=>xs.count s)
 have hwp:∀a∈eQ ((firsts xs).map λ s=>xs.count s),1≤a:=λ a ha=>q8 a ((cY A8 _).mem_iff.mp ha)
 have hwn:(eQ ((firsts xs).map λ s=>xs.count s)).sum≤12:=by rw[xm,wa h];exact hl
 have hwl:(eQ ((firsts xs).map λ s=>xs.count s)).length=(firsts xs).length:=by rw[qo,ac]
 obtain⟨ds,hds,e0,e1,e2,e3⟩:∃ds:List Nat,ka (cW B xs)=ib B (ip (cq (cW B xs))) ds∧ds.length=(firsts xs).length∧(∀d∈ds,1≤d∧d≤15)∧(ds.map λ d=>2^(15-d)).sum≤2^15∧
   Km (eQ ((firsts xs).map λ s=>xs.count s)) ds=gz (eQ ((firsts xs).map λ s=>xs.count s)):=by
  unfold ka
  rw[cC]
  by_cases q:(cq (cW B xs)).length<2
  ·refine⟨List.replicate (cq (cW B xs)).length 1,by rw[if_pos q],by rw[dz,hul],?_,?_,?_⟩
   ·intro d hd
    rw[List.mem_replicate] at hd
    omega
   ·rw[mq]
    have:(cq (cW B xs)).length=0∨(cq (cW B xs)).length=1:=by omega
    rcases this with z|z<;>rw[z]<;>decide
   ·rw[hul] at q⊢
    generalize eQ ((firsts xs).map λ s=>xs.count s)=w at*
    match w,hwl with
    | [],hwl=>rw[←hwl];rfl
    | [a],hwl=>rw[←hwl];show a*1+0=a+0;exact gV _
    |_::_::_,hwl=>simp at hwl;exact jm (LJ λ z=>f!"z1b1.+1.+a<1a1.+2.<2" q (V hwl))<|LJ λ z=>f!"z1b1.+1.+a<1a1.+2.<2" q (V hwl)
  ·rw[if_neg q,hw]
   refine iH (BB hws hwp hwn (by exact af (aG q) (af (V hul) (V hwl.symm)))) λ p1 p2 p3=>?_
   exact yH _ rfl (by rw[Ad,hwl]) p1 p2 p3
 rw[hds]
 generalize hrows:ip (cq (cW B xs))=rows at*
 have rmem:∀p,p∈rows↔p.2<B∧p.1=xs.count p.2∧p.2∈xs:=λ p=>by rw[←hrows];exact((cY sU _).mem_iff).trans xg
 have rnd:(rows.map (·.2)).Nodup:=by
  have:((firsts xs).map λ s=>(xs.count s,s)).Perm rows:=by rw[←hrows];exact(iZ h).trans (cY sU _).symm
  have:=(this.map (·.2)).nodup_iff
  rw[bY] at this
  refine this.mp ?_
  show((firsts xs).map λ s=>s).Nodup
  rw[List.map_id'];exact sC xs
 have zk:((rows.zip ds).map (·.1.2))=rows.map (·.2):=by
  have:(rows.zip ds).map (·.1.2)=((rows.zip ds).map (·.1)).map (·.2):=by rw[bY];rfl
  rw[this,List.map_fst_zip (by exact af (V hrl) (V e0.symm))]
 have hb:∀x∈rows.zip ds,x.1.2<(List.replicate B 0).length:=by
  intro x hx
  rw[dz]
  exact((rmem x.1).mp (List.of_mem_zip hx).1).1
 refine dL (Bo (List.replicate B 0) (rows.zip ds) (by rw[zk];exact rnd) hb) λ s1 s2=>?_
 have hpl:ib B rows ds=mA (rows.zip ds) (List.replicate B 0):=rfl
 have hlen:(ib B rows ds).length=B:=Bz _ _ _
 have hLn:∀x∈rows.zip ds,Ln (ib B rows ds) x.1.2=x.2:=by
  intro x hx
  rw[hpl,Ln,aM,s1 x hx];rfl
 have hrm:rows.map (λ p=>Ln (ib B rows ds) p.2)=ds:=by
  apply hU
  ·rw[ac];exact gE (af (V hrl) (V e0.symm)) (af (V e0) (V hrl.symm))
  ·intro j h1 h2
   rw[k8]
   have hj:j<(rows.zip ds).length:=by rw[List.length_zip];rw[ac] at h1;omega
   have:=hLn (rows.zip ds)[j] (List.getElem_mem hj)
   rw[List.getElem_zip] at this
   exact this
 have hno:∀s,s∉xs→Ln (ib B rows ds) s=0:=by
  intro s hs
  have:s∉(rows.zip ds).map (·.1.2):=by
   rw[zk]
   intro z
   refine bM (eH.mp z) λ p hp uu0=>?_;subst uu0
   exact hs ((rmem p).mp hp).2.2
  rw[hpl,Ln,aM,s2 s this,List.getElem?_replicate]
  split<;>rfl
 have hyes:∀x∈xs,Ln (ib B rows ds) x∈ds:=by
  intro x hx
  have hp:(xs.count x,x)∈rows:=(rmem _).mpr ⟨h x hx,rfl,hx⟩
  have:Ln (ib B rows ds) x∈rows.map λ p=>Ln (ib B rows ds) p.2:=eH.mpr ⟨_,hp,rfl⟩
  rw[hrm] at this
  exact this
 have hall:∀s,Ln (ib B rows ds) s≤15:=by
  intro s
  by_cases q:s∈xs
  ·exact(e1 _ (hyes s q)).2
  ·rw[hno s q];exact mj _ _
 have hperm:(cq (ib B rows ds)).Perm ((rows.zip ds).map λ x=>(x.2,x.1.2)):=by
  refine(List.perm_ext_iff_of_nodup (pE _) ?_).mpr λ p=>?_
  ·have:((rows.zip ds).map (·.1.2)).Nodup:=by rw[zk];exact rnd
   refine List.Pairwise.map _ (λ a b hab z=>hab (congrArg Prod.snd z)) (List.Pairwise.of_map (S:=λ a b=>a.1.2≠b.1.2) (f:=id) (λ a b x=>x) ?_)
   rw[List.map_id]
   exact List.pairwise_map.mp this
  ·constructor
   ·intro hp
    refine iH (ml hp) λ u1 u2 u3=>?_
    have hl2:Ln (ib B rows ds) p.2=p.1:=by rw[Ln,aM,u2];rfl
    have hpx:p.2∈xs:=Classical.byContradiction λ z=>by have:=hno p.2 z;exact Nat.lt_irrefl _ (ag u3 (af (V hl2.symm) (V this)))
    have hr:(xs.count p.2,p.2)∈rows:=(rmem _).mpr ⟨h _ hpx,rfl,hpx⟩
    refine gX (fS.mp hr) λ j hj=>?_
    have hjr:=(aA.mp hj).1
    have hjd:j<ds.length:=by exact ag hjr (af (V hrl) (V e0.symm))
    have hz:(rows.zip ds)[j]? =some ((xs.count p.2,p.2),ds[j]):=List.getElem?_zip_eq_some.mpr ⟨hj,aq hjd⟩
    have hm:=bU hz
    have:=hLn _ hm
    refine eH.mpr ⟨_,hm,?_⟩
    exact Prod.ext (this.symm.trans hl2) rfl
   ·intro hp
    refine bM (eH.mp hp) λ x hx uu0=>?_;subst uu0
    have h1:=hLn x hx
    have h2:=(e1 x.2 (List.of_mem_zip hx).2).1
    have:=u5 (lens:=ib B rows ds) (s:=x.1.2) (by exact ch (ag (ag (nb rfl) h2) (V h1.symm)))
    rw[h1] at this
    exact this
 refine⟨hlen,⟨?_,by exact af (V hlen) hB,?_,?_⟩,λ x hx=>?_,hno,?_⟩
 ·intro x hx
  refine gX (fS.mp hx) λ s hs=>?_
  have:=hall s
  rw[Ln,aM,hs] at this
  exact this
 ·rw[hperm.length_eq,ac,List.length_zip];omega
 ·rw[nJ (hperm.map _),bY]
  have:((λ p:Nat×Nat=>2^(15-p.1))∘λ x:(Nat×Nat)×Nat=>(x.2,x.1.2))=(λ d=>2^(15-d))∘Prod.snd:=rfl
  rw[this,←bY,List.map_snd_zip (by exact af (V e0) (V hrl.symm))]
  exact e2
 ·have:=(e1 _ (hyes x hx)).1;exact ch (ag (nb rfl) this)
 ·rw[←JD xs h,←xf]
  have hpu:(cq (cW B xs)).Perm rows:=by rw[←hrows];exact(cY sU _).symm
  rw[nJ (hpu.map _),←Df (λ p=>Ln (ib B rows ds) p.2) rows,hrm,hw]
  exact e3
theorem vH {B:Nat} {xs:List Nat} (h:∀x∈xs,x<B) (hl:xs.length≤12):gz (eQ ((firsts xs).map λ s=>xs.count s))≤5*xs.length:=by
 have hws:=oj ((firsts xs).map λ s=>xs.count s)
 have hwp:∀a∈eQ ((firsts xs).map λ s=>xs.count s),1≤a:=λ a ha=>q8 a ((cY A8 _).mem_iff.mp ha)
 have hwn:(eQ ((firsts xs).map λ s=>xs.count s)).sum=xs.length:=by rw[xm,wa h]
 have:=Ek hws hwp (by exact af (V hwn) hl)
 rwa [hwn] at this
theorem Ee {B:Nat} {xs:List Nat} (h:∀x∈xs,x<B):Ac (cW B xs)=(firsts xs).length:=by
 have hul:(cq (cW B xs)).length=(firsts xs).length:=by
  have:=(iZ h).length_eq
  rw[ac] at this;exact this.symm
 rw[←hul]
 unfold Ac cq
 have e:(cW B xs).filter (λ c=>decide (0<c))=((cW B xs).zipIdx.filter λ p=>decide (0<p.1)).map (·.1):=by
  have:((cW B xs).zipIdx.filter λ p=>decide (0<p.1))=(cW B xs).zipIdx.filter ((λ c=>decide (0<c))∘Prod.fst):=rfl
  rw[this,←List.filter_map,lI]
 rw[e,ac]
theorem Ah {p:Nat×Nat} (h:pq p):iX p≠256∧iX p<286:=by
 unfold iX
 rcases h with⟨a,b⟩|⟨a,b,c,d⟩
 ·rw[if_pos a];omega
 ·rw[if_neg (by exact ch (ag (nb rfl) a))]
  have:=kH p.1 (by exact aj b (nb rfl)) a
  omega
theorem Hy {p:Nat×Nat} (h:pq p):∀s∈nv p,s<30:=by
 intro s hs
 unfold nv at hs
 rcases h with⟨a,b⟩|⟨a,b,c,d⟩
 ·rw[if_pos a] at hs;cases hs
 ·rw[if_neg (by exact ch (ag (nb rfl) a)),bu] at hs
  subst hs
  exact(mE c d).1
theorem Cz {st:List (Nat×Nat)} (ok:∀p∈st,pq p):∀x∈cb st,x<286:=by
 intro x hx
 unfold cb at hx
 rcases bo.mp hx with rfl|hx
 ·exact mj _ _
 ·refine bM (eH.mp hx) λ p hp uu0=>?_;subst uu0
  exact(Ah (ok p hp)).2
theorem Gi {st:List (Nat×Nat)} (ok:∀p∈st,pq p):∀x∈dy st,x<30:=by
 intro x hx
 refine bM (List.mem_flatMap.mp hx) λ p hp h=>?_
 exact Hy (ok p hp) x h
theorem Ag (st:List (Nat×Nat)):(cb st).length=st.length+1:=by unfold cb;simp
theorem Fw {st:List (Nat×Nat)} (ok:∀p∈st,pq p) (h1:1≤st.length):2≤(firsts (cb st)).length:=by
 obtain⟨p,t,rfl⟩:∃p t,st=p::t:=by
  match st,h1 with
  |p::t,_=>exact En p t rfl
 have a:(256:Nat)∈firsts (cb (p::t)):=(eW _ _).mpr (by unfold cb;simp)
 have b:iX p∈firsts (cb (p::t)):=(eW _ _).mpr (by unfold cb;simp)
 have n:=(Ah (ok p (bA ..))).1
 match firsts (cb (p::t)),a,b with
 | [],a,_=>cases a
 | [x],a,b=>rw[bu] at a b;omega
 |_::_::_,_,_=>simp
theorem Bj {jF kh:Nat→Option Nat} {ky lC:Nat} {lz mK:Nat→Nat}:∀{st:List (Nat×Nat)},(∀p∈st,pq p)→(∀p∈st,jF (iX p)=some (lz (iX p)))→(∀p∈st,∀s∈nv p,kh s=some (mK s))→
  (st.map (nf jF kh ky lC)).sum=((st.map iX).map lz).sum+((dy st).map mK).sum+lR st
 | [],_,_,_=>rfl
 |p::st,ok,h1,h2=>by
  have ih:=Bj (jF:=jF) (kh:=kh) (ky:=ky) (lC:=lC) (lz:=lz) (mK:=mK) (st:=st) (λ q hq=>ok q (bI _ hq)) (λ q hq=>h1 q (bI _ hq)) (λ q hq=>h2 q (bI _ hq))
  have a:=h1 p (bA ..)
  have b:=h2 p (bA ..)
  have e:dy (p::st)=nv p++dy st:=by unfold dy;rw[kx]
  have e2:lR (p::st)=GV p+lR st:=by unfold lR;rw[aB,bw]
  rw[aB,bw,ih,e,e2,bk,fJ,aB,aB,bw]
  have k:nf jF kh ky lC p=lz (iX p)+((nv p).map mK).sum+GV p:=by
   unfold nf
   unfold iX nv at*
   unfold GV
   by_cases q:p.1=0
   ·rw[if_pos q] at a b⊢
    rw[if_pos q,if_pos q,if_pos q,a]
    simp
   ·rw[if_neg q] at a b⊢
    have b:=b (b0 p.2).1 (by simp)
    rw[if_neg q,if_neg q,if_neg q,a,b]
    simp
    exact jm (f!"1ac+b+d+ab+cd++>4") f!"1ac+bd++ab+c+d+>4"
  rw[k]
  exact jm (f!"1ac+e+bd+f++ab+cd++ef++>6") f!"1ad+be++cf++ab+c+de+f++>6"
theorem AT {ln lf:List Nat}:∀{st:List (Nat×Nat)},(∀p∈st,pq p)→(st.flatMap (dG ln lf)).length=((st.map iX).map (Ln ln)).sum+((dy st).map (Ln lf)).sum+lR st
 | [],_=>rfl
 |p::st,ok=>by
  have ih:=AT (ln:=ln) (lf:=lf) (st:=st) (λ q hq=>ok q (bI _ hq))
  have e:dy (p::st)=nv p++dy st:=by unfold dy;rw[kx]
  have e2:lR (p::st)=GV p+lR st:=by unfold lR;rw[aB,bw]
  rw[kx,ah,ih,e,e2,bk,fJ,aB,aB,bw]
  have k:(dG ln lf p).length=Ln ln (iX p)+((nv p).map (Ln lf)).sum+GV p:=by
   unfold dG iX nv GV
   by_cases q:p.1=0
   ·rw[if_pos q,if_pos q,if_pos q,if_pos q,im];simp
   ·rw[if_neg q,if_neg q,if_neg q,if_neg q]
    simp only[ah,im,i7,aB,List.map_nil,bw,List.sum_nil]
    exact jm (f!"1acbd+++ab0.++cd++>4") f!"1ac0.++bd++abcd+++>4"
  rw[k]
  exact jm (f!"1ac+e+bd+f++ab+cd++ef++>6") f!"1ad+be++cf++ab+c+de+f++>6"
theorem AM (h:List AO) (d:Nat):∀st:List (Nat×Nat),nw (pw (d+2) h) (st.map rh) (st.map rh)=some true
 | []=>rfl
 |p::st=>by
  have ih:=AM h d st
  show(match pw (d+2) h (rh p) (rh p),nw (pw (d+2) h) (st.map rh) (st.map rh) with|some x,some y=>some (x&&y)|_,_=>none)=_
  rw[ih]
  have:pw (d+2) h (rh p) (rh p)=some true:=by
   show some (((p.1:Int)==p.1)&&(((p.2:Int)==p.2)&&true))=_
   rw[dv,dv];rfl
  rw[this];rfl
theorem IF (n:Nat):EW ([]:List AO) (.str (Str.ofString "1")) (.str (bS (List.replicate n false)))=some false:=by
 unfold EW
 dsimp only
 rw[Gx]
 have:PySem.Builtin.Str.occurrences (bS (List.replicate n false)) (bS [true]) 0 (bS (List.replicate n false)).length 1=[]:=by
  refine occ_nil_of_no _ _ 1 λ i hi=>?_
  rw[kQ,kQ,dz,b9] at hi
  unfold PySem.Builtin.Str.subAt
  rw[ck]
  intro z
  have:=congrArg (λ a:Array Nat=>a[0]?) z
  rw[kQ] at this
  unfold bS at this
  simp[bC] at this
  rw[show min 1 (n-i)=1 by omega] at this
  cases this
 rw[this];rfl
structure LS (h:List AO) (st:List (Nat×Nat)) (pl rl rd sp np fp cp:Nat):Prop where
 pool:PL h pl
 rowsl:h[rl]? =some (.list (lT.map qA))
 rowsd:h[rd]? =some (.list (iK.map qA))
 steps:h[sp]? =some (.list (st.map rh))
 near:h[np]? =some (.list ((cb st).map nI))
 far:h[fp]? =some (.list ((dy st).map nI))
 cnt:SC h cp (cb st) (dy st) (lR st)
theorem LS.mono {h h':List AO} {st:List (Nat×Nat)} {pl rl rd sp np fp cp:Nat} (x:LS h st pl rl rd sp np fp cp) (f:Fr [] h h'):LS h' st pl rl rd sp np fp cp:=
 ⟨x.pool.mono f,f.get x.rowsl,f.get x.rowsd,f.get x.steps,f.get x.near,f.get x.far,x.cnt.mono f⟩
noncomputable def jT (st:List (Nat×Nat)):List Nat:=if dy st=[] then[0] else ka (cW 30 (dy st))
noncomputable def fD (st:List (Nat×Nat)):List Nat:=ka (cW 286 (cb st))
noncomputable def sG (st:List (Nat×Nat)):Nat:=gz (eQ ((firsts (cb st)).map λ s=>(cb st).count s))+gz (eQ ((firsts (dy st)).map λ s=>(dy st).count s))+lR st
structure LF (st:List (Nat×Nat)):Prop where
 g1:Good (fD st)
 g2:Good (jT st)
 l1:(fD st).length=286
 ne2:jT st≠[]
 n1:∀x∈cb st,Ln (fD st) x≠0
 z1:∀s,s∉cb st→Ln (fD st) s=0
 n2:∀x∈dy st,Ln (jT st) x≠0
 s1:((cb st).map (Ln (fD st))).sum=gz (eQ ((firsts (cb st)).map λ s=>(cb st).count s))
 s2:((dy st).map (Ln (jT st))).sum=gz (eQ ((firsts (dy st)).map λ s=>(dy st).count s))
theorem Et {st:List (Nat×Nat)} (ok:∀p∈st,pq p) (h2:st.length≤11):LF st:=by
 refine vN (t0 (Cz ok) (by exact mj _ _) (by rw[Ag];exact fy (aj h2 (nb rfl)))) λ a1 a2 a3 a4 a5=>?_
 by_cases q:dy st=[]
 ·have e:jT st=[0]:=by unfold jT;rw[if_pos q]
  refine⟨a2,?_,a1,by rw[e];simp,a3,a4,?_,a5,?_⟩
  ·rw[e];exact⟨by decide,by decide,by decide,by decide⟩
  ·rw[q];nofun
  ·rw[q];rfl
 ·have e:jT st=ka (cW 30 (dy st)):=by unfold jT;rw[if_neg q]
  refine vN (t0 (Gi ok) (by exact mj _ _) (by have:=qx st;exact af this (af h2 (nb rfl)))) λ b1 b2 b3 b4 b5=>?_
  rw[←e] at b1 b2 b3 b4 b5
  exact⟨a2,b2,a1,by intro z;rw[z] at b1;simp at b1,a3,a4,b3,a5,b5⟩
noncomputable def GU (lens:List Nat) (s:Nat):Option Nat:=if Ln lens s=0 then none else some (Ln lens s)
theorem Dt {h:List AO} {m:Nat} {lens:List Nat} (e:h[m]? =some (.list (lens.map nI))) (hne:lens≠[]) (hl:lens.length≤300) {Q:AV→List AO→Prop}
  (q:∀h',CO h' h.length (GU lens) lens.length (ic lens+1)→Fr [] h h'→Q .none h'):Sp dP [.ref h.length,.ref m] (h++[.inst 174 []]) Q:=by
 refine Sp.u2 (DS e hne) ?_
 refine q _ (.inr (.inr ⟨m,lens,by simp only[WC],bf e _,rfl,by exact aj hl (nb rfl),λ s hs=>?_⟩)) ((Fr.refl _ _).app _)
 unfold GU Ln
 rw[aM,aq hs];rfl
theorem Im {h:List AO} {a b:Nat} {jF:Nat→Option Nat} {pA ky:Nat} {kh:Nat→Option Nat} {ql lC:Nat} (x:CO h a jF pA ky) (y:CO h b kh ql lC) {Q:AV→List AO→Prop}
  (q:∀h',PR h' h.length jF pA ky kh ql lC→Fr [] h h'→Q .none h'):Sp hJ [.ref h.length,.ref a,.ref b] (h++[.inst 216 []]) Q:=by
 refine Sp.u2 (DV h (.ref a) (.ref b)) ?_
 have F:Fr [] h (h++[.inst 216 [(2,.ref a),(3,.ref b)]]):=(Fr.refl _ _).app _
 exact q _ ⟨a,b,by simp only[WC],x.mono F,y.mono F⟩ F
structure LT (h:List AO) (st:List (Nat×Nat)) (pl rl rd sp np fp cp po pf pr:Nat):Prop where
 ls:LS h st pl rl rd sp np fp cp
 one:h[po]? =some (.list ((fD st).map nI))
 oth:h[pf]? =some (.list ((jT st).map nI))
 pri:PR h pr (GU (fD st)) (fD st).length (ic (fD st)+1) (GU (jT st)) (jT st).length (ic (jT st)+1)
theorem LT.mono {h h':List AO} {st:List (Nat×Nat)} {pl rl rd sp np fp cp po pf pr:Nat} (x:LT h st pl rl rd sp np fp cp po pf pr) (f:Fr [] h h'):LT h' st pl rl rd sp np fp cp po pf pr:=
 ⟨x.ls.mono f,f.get x.one,f.get x.oth,x.pri.mono f⟩
theorem Ip {lens:List Nat} {s:Nat} (h:Ln lens s≠0):s<lens.length:=by
 by_cases q:s<lens.length
 ·exact q
 ·unfold Ln at h
  rw[aM,ca (by exact aG q)] at h
  exact absurd rfl h
theorem sj {lens:List Nat} {s:Nat} (h:Ln lens s≠0):GU lens s=some (Ln lens s):=by unfold GU;rw[if_neg h]
theorem sD {st:List (Nat×Nat)} {p:Nat×Nat} (h:p∈st) {s:Nat} (hs:s∈nv p):s∈dy st:=List.mem_flatMap.mpr ⟨p,h,hs⟩
theorem xG {st:List (Nat×Nat)} {p:Nat×Nat} (h:p∈st):iX p∈cb st:=bI _ (jb h)
noncomputable def zw (st:List (Nat×Nat)):List Nat:=[1,2,3,254].filter λ x=> !decide (x∈cb st)
theorem G4 (st:List (Nat×Nat)):(zw st).length≤4:=il _ _
theorem G3 {st:List (Nat×Nat)}:∀x∈zw st,x∉cb st∧x<286:=λ x hx=>by
 refine dL (List.mem_filter.mp hx) λ a b=>?_
 refine⟨by simpa using b,?_⟩
 simp only[bo,jf,or_false] at a
 omega
noncomputable def Gg (s:Nat):Option Nat:=some (gJ s).2
noncomputable def Gf (_:Nat):Option Nat:=some 5
theorem Ir {h:List AO} {n:Nat} (e:h[n]? =some (.inst 111 [])):CO h n Gg 288 0:=.inl ⟨_,e,rfl,λ z z=>rfl⟩
theorem Iq {h:List AO} {n:Nat} (e:h[n]? =some (.inst 146 [])):CO h n Gf 32 0:=.inr (.inl ⟨_,e,rfl,λ z z=>rfl⟩)
theorem v3:∀l:List Nat,(l.map λ z=>5).sum=5*l.length
 | []=>rfl
 |a::l=>by rw[aB,bw,v3 l,bW];exact k6 _ _
theorem xq:∀l:List Nat,7*l.length≤(l.map λ s=>(gJ s).2).sum
 | []=>bz _
 |a::l=>by
  have:=xq l
  have:7≤(gJ a).2:=by
   unfold gJ
   repeat' split
   all_goals first| (show 7≤8;decide)| (show 7≤9;decide)| (show 7≤7;decide)
  rw[aB,bw,bW];omega
noncomputable def AL (d:Nat):List Nat:=[[0,0,0],[0,5,0],[4,0,0],[2,3,0],[0,0,1]].getD d []
noncomputable def EE (st:List (Nat×Nat)):Nat:=lR st+((cb st).map λ s=>(gJ s).2).sum+5*(dy st).length
theorem Cs (n k:Nat):pn n [nI k]=(List.replicate n k).map nI:=by
 unfold pn
 rw[mq]
 induction n with
 |zero=>rfl
 |succ n ih=>rw[ja,m6,ih,ja];rfl
noncomputable def Kl (d:Nat):List Nat:=[[1,1,0],[1,5,0],[4,1,0],[2,3,0],[1,0,1]].getD d []
theorem I6:∀d<5,E7 (AL d)=Kl d:=by decide+kernel
structure Five (f:Nat→List Nat) (h:List AO) (n a0 a1 a2 a3 a4:Nat):Prop where
 e:h[n]? =some (.list [.ref a0,.ref a1,.ref a2,.ref a3,.ref a4])
 e0:h[a0]? =some (.list ((f 0).map nI))
 e1:h[a1]? =some (.list ((f 1).map nI))
 e2:h[a2]? =some (.list ((f 2).map nI))
 e3:h[a3]? =some (.list ((f 3).map nI))
 e4:h[a4]? =some (.list ((f 4).map nI))
noncomputable def AI (f:Nat→List Nat) (h:List AO):List AO:=h++[.list ((f 0).map nI)]++[.list ((f 1).map nI)]++[.list ((f 2).map nI)]++[.list ((f 3).map nI)]
noncomputable def C7 (f:Nat→List Nat) (h:List AO):List AO:=AI f h++[.list ((f 4).map nI)]++
  [.list [.ref h.length,.ref (h++[AO.list ((f 0).map nI)]).length,.ref (h++[AO.list ((f 0).map nI)]++[AO.list ((f 1).map nI)]).length,.ref (h++[AO.list ((f 0).map nI)]++[AO.list ((f 1).map nI)]++[AO.list ((f 2).map nI)]).length,.ref (AI f h).length]]
theorem y7 (f:Nat→List Nat) (h:List AO):Fr [] h (C7 f h):=((((((Fr.refl [] h).app _).app _).app _).app _).app _).app _
theorem v4 (f:Nat→List Nat) (h:List AO):Five f (C7 f h) (AI f h++[AO.list ((f 4).map nI)]).length h.length (h++[AO.list ((f 0).map nI)]).length (h++[AO.list ((f 0).map nI)]++[AO.list ((f 1).map nI)]).length
  (h++[AO.list ((f 0).map nI)]++[AO.list ((f 1).map nI)]++[AO.list ((f 2).map nI)]).length (AI f h).length:=
 ⟨au _ [_],bf (bf (bf (bf (bf (au _ [_]) _) _) _) _) _,bf (bf (bf (bf (au _ [_]) _) _) _) _,bf (bf (bf (au _ [_]) _) _) _,bf (bf (au _ [_]) _) _,bf (au _ [_]) _⟩
theorem Five.fr {f:Nat→List Nat} {S:List Nat} {h h':List AO} {n a0 a1 a2 a3 a4:Nat} (x:Five f h n a0 a1 a2 a3 a4) (F:Fr S h h') (z:∀i∈S,i≠n∧i≠a0∧i≠a1∧i≠a2∧i≠a3∧i≠a4):Five f h' n a0 a1 a2 a3 a4:=
 ⟨F.keep _ _ (λ y=>(z _ y).1 rfl) x.e,F.keep _ _ (λ y=>(z _ y).2.1 rfl) x.e0,F.keep _ _ (λ y=>(z _ y).2.2.1 rfl) x.e1,F.keep _ _ (λ y=>(z _ y).2.2.2.1 rfl) x.e2,F.keep _ _ (λ y=>(z _ y).2.2.2.2.1 rfl) x.e3,F.keep _ _ (λ y=>(z _ y).2.2.2.2.2 rfl) x.e4⟩
theorem FO {f:Nat→List Nat} {l:List (Option AV)} {h:List AO} {n a0 a1 a2 a3 a4 d:Nat} (x:Five f h n a0 a1 a2 a3 a4) (hd:d<5) {Q:AV→St→Prop} (q:∀k,h[k]? =some (.list ((f d).map nI))→Q (.ref k) ⟨l,h⟩):W (de (.ref n) (.int (d:Nat))) ⟨l,h⟩ Q:=by
 match d,hd with
 |0,_=>exact ig x.e rfl (q _ x.e0)
 |1,_=>exact ig x.e rfl (q _ x.e1)
 |2,_=>exact ig x.e rfl (q _ x.e2)
 |3,_=>exact ig x.e rfl (q _ x.e3)
 |4,_=>exact ig x.e rfl (q _ x.e4)
theorem Ke {l:List (Option AV)} {h:List AO} {n:Nat} {vs as:List AV} {g:AV→List AV→EM AV} {fs:List (EM AV)} {Q:AV→St→Prop} (e:h[n]? =some (.list vs)) (ea:bN fs ⟨l,h⟩=some (as,⟨l,h⟩)) (q:W (g (.ref n) as) ⟨l,h⟩ Q):W (mH "list" g (.ref n) fs) ⟨l,h⟩ Q:=by
 have t:m8 h (.ref n)=some "list":=by unfold m8;dsimp only;rw[e]
 rw[AY];exact dF t (me ea ⟨t,q⟩)
theorem Ho {h:List AO} {n a0 a1 a2 a3 a4 k d:Nat} (x:Five AL h n a0 a1 a2 a3 a4) (ek:h[k]? =some (.list ((AL d).map nI))) (hd:d<5) (l:List (Option AV)):rB (.ref n) [.ref k] ⟨l,h⟩=some (.int ((d:Nat):Int),⟨l,h⟩):=by
 have es:De h (.ref k) [AV.ref a0,AV.ref a1,AV.ref a2,AV.ref a3,AV.ref a4]=some [decide (AL 0=AL d),decide (AL 1=AL d),decide (AL 2=AL d),decide (AL 3=AL d),decide (AL 4=AL d)]:=by
  simp only[De,kO x.e0 ek 2,kO x.e1 ek 2,kO x.e2 ek 2,kO x.e3 ek 2,kO x.e4 ek 2]
 unfold rB pv
 dsimp only
 rw[x.e]
 dsimp only
 rw[es]
 rcases(by omega:d=0∨d=1∨d=2∨d=3∨d=4) with rfl|rfl|rfl|rfl|rfl<;>rfl
theorem Kc {h:List AO} {a b:Nat} {xs:List Nat} {l:List (Option AV)} {Q:AV→St→Prop} (ea:h[a]? =some (.list (xs.map nI))) (eb:h[b]? =some (.list (xs.map nI))) (q:Q (.bool true) ⟨l,h⟩):W (b6 .Eq (.ref a) (.ref b)) ⟨l,h⟩ Q:=by
 rw[B5 ea eb,aC rfl];exact q
theorem JQ {h:List AO} {m:Nat} {ns:List Int} (e:h[m]? =some (.flist (ns.map AV.int))) (hl:ns.length≤63):Sp A1 [.ref m] h λ r h'=>r= .bool true:=by
 w_fin
 w_left
 refine Sp.v12 (Bs e hl) λ aN w g F=>?_
 w_left
 refine IZ (F.get e) (by rw[ac];exact af hl (nb rfl)) ?_
 w_left
 generalize decide ((1:Int)<((ns.map AV.int).length:Nat))=wide
 have X1:PL aN (h.length+1):=⟨w,0,g⟩
 generalize h.length+1=pl at*
 clear g F e hl
 refine Sp.u12 (vx aN 3 7 4 ⋯ ⋯) λ bT g2 F2=>?_
 w_left
 refine BO (bf g2 _) (au bT [_]) (by rw[ac];decide+kernel) ?_
 rewrite[show(z7 3 7 4).2.map qA++[AV.tup [AV.int 258,AV.int 0]]=lT.map qA by unfold lT;rw[bk];rfl]
 w_left
 refine Sp.u12 (vx _ 1 15 2 ⋯ ⋯) λ iQ gd F3=>?_
 have gl:=F3.get (au (bT++[_]) [AO.list (lT.map qA)])
 have nl:(bT++[AO.list [AV.tup [AV.int 258,AV.int 0]]]).length≠pl:=by have:=X1.lt;have:=F2.len;rw[ah];omega
 have nd:(bT++[AO.list [AV.tup [AV.int 258,AV.int 0]]]++[AO.list (lT.map qA)]).length≠pl:=by have:=X1.lt;have:=F2.len;rw[ah,ah];omega
 have X2:=X1.mono (((F2.app _).app _).trans F3)
 clear F2 F3 X1 g2
 generalize (bT++[AO.list [AV.tup [AV.int 258,AV.int 0]]]++[AO.list (lT.map qA)]).length=rq at*
 generalize (bT++[AO.list [AV.tup [AV.int 258,AV.int 0]]]).length=rl at*
 rw[show(z7 1 15 2).2=iK from rfl] at gd
 w_left
 refine Sp.v16 (zX X2) λ vP st gs ok la lb X3 F3=>?_
 have gl:=jr F3 nl gl
 have gd:=jr F3 nd gd
 generalize iQ.length=sp at*
 clear F3 X2 nl nd
 w_left
 refine Sp.u13 (zY gs gl gd ok (by exact af lb (nb rfl))) λ ot gn gf F=>?_
 generalize vP.length+1=fp at*
 generalize vP.length=np at*
 w_left
 refine qW ((DM (F.get gs) ok (by exact aj lb (nb rfl))).mono λ r pS q=>?_)
 refine iH q λ uu0 X F'=>?_;clear q;subst uu0
 refine⟨rfl,?_⟩
 have X5:LS pS st pl rl rq sp np fp ot.length:=⟨(X3.mono F).mono F',F'.get (F.get gl),F'.get (F.get gd),F'.get (F.get gs),F'.get gn,F'.get gf,X⟩
 clear gl gd gs gn gf X X3 F F'
 generalize ot.length=cp at*
 have lf:=Et ok lb
 have hnl:=Ag st
 have hfl:=qx st
 have hn:=Cz ok
 have hf:=Gi ok
 w_left
 refine Sp.u11 (wK X5.cnt X5.near X5.far hn hf (by exact f!"1b900.>1ba1.+<1a11.<2" lb (V hnl)) (by exact af hfl (af lb (nb rfl)))) λ FU F=>?_
 have X6:=X5.mono F
 clear F X5
 w_left
 refine cg X6.cnt.ob rfl rfl ?_
 w_left
 refine Sp.u12 (pK X6.cnt.lit (by rw[cC];decide) (by rw[cC];decide)) λ I1 g7 F7=>?_
 rw[DB (by rw[Ee hn];exact Fw ok la)] at g7
 w_left
 refine Sp.v13 (oT g7 (by have:=(iZ hn).length_eq;have:=ii (cb st);rw[ac] at*;omega) (by rw[cC];decide)) λ EA k hk g8 F8=>?_
 rw[show ka (cW 286 (cb st))=fD st from rfl] at g8
 w_left
 refine yR g8 (by rw[ac];have:=lf.l1;exact af (V this) (nb rfl)) ?_
 have X7:=X6.mono ((F7.trans F8).app [AO.list ((fD st).map nI)])
 have o7:=au EA [AO.list ((fD st).map nI)]
 clear hk g8 g7 F7 F8 X6
 generalize EA.length=po at*
 generalize EA++[AO.list ((fD st).map nI)]=ou at*
 w_left
 have F8:Fr [] ou (ou++[AO.list []]):=(Fr.refl _ _).app _
 have g8:=au ou [AO.list (([]:List Nat).map nI)]
 have X8:=X7.mono F8
 have o8:=F8.get o7
 have other:∀Q:AV→St→Prop,(∀pf h',LS h' st pl rl rq sp np fp cp→h'[po]? =some (.list ((fD st).map nI))→h'[pf]? =some (.list ((jT st).map nI))→Q (.ref pf) ⟨[some (.ref m),some (.ref pl),some (.bool wide),some (.ref rl),some (.ref rq),some (.ref sp),some (.ref np),some (.ref fp),some (.int (lR st:Nat)),some (.ref cp),some (.ref po),none,none,none,none,none,none,none,none,none,none,none,none,none],h'⟩)→
   W (b6 .NotEq (.ref fp) (.ref ou.length)) ⟨[some (.ref m),some (.ref pl),some (.bool wide),some (.ref rl),some (.ref rq),some (.ref sp),some (.ref np),some (.ref fp),some (.int (lR st:Nat)),some (.ref cp),some (.ref po),none,none,none,none,none,none,none,none,none,none,none,none,none],ou++[AO.list []]⟩
    (BQ tr (BQ (λ t=>if t=true then(ae (bN [(ae (bN [(ae (rd 9) (cK [258] [] 5)),(ret (.int 15))]) (cr iz))]) qR) else(ae (bN [(ret (.int 0))]) gH)) Q)):=by
  intro Q hQ
  rw[wj X8.far g8]
  generalize ou++[AO.list []]=su at*
  by_cases q:dy st=[]
  ·have e0:jT st=[0]:=by unfold jT;rw[if_pos q]
   rw[aC q]
   w_left
   exact hQ _ _ (X8.mono ((Fr.refl _ _).app _)) (bf o8 _) (by rw[e0];exact au su [_])
  ·have e0:jT st=ka (cW 30 (dy st)):=by unfold jT;rw[if_neg q]
   rw[decide_eq_false q]
   w_left
   refine cg X8.cnt.ob rfl rfl ?_
   w_left
   refine Sp.v13 (oT X8.cnt.dis (by have:=(iZ hf).length_eq;have:=ii (dy st);rw[ac] at*;omega) (by rw[cC];decide)) λ EA k hk g9 F9=>?_
   rw[←e0] at g9
   w_left
   refine yR g9 (by rw[ac];have:=lf.g2.len;exact af this (nb rfl)) ?_
   exact hQ _ _ (X8.mono (F9.app _)) ((F9.app _).get o8) (au EA [_])
 refine other _ λ pf su X9 o9 p9=>?_
 clear other X8 o8 g8 F8 X7 o7
 w_left
 refine Sp.u11 (sa X9.near (by exact f!"1b50.>1ba1.+<1a11.<2" lb (V hnl))) λ CZ F9=>?_
 w_left
 refine Sp.u11 (sa (X9.mono F9).far (by exact af hfl (af lb (nb rfl)))) λ Ht F10=>?_
 have F:=F9.trans F10
 have X10:=X9.mono F
 have o10:=F.get o9
 have p10:=F.get p9
 clear F F9 F10 X9 o9 p9
 w_left
 have ne1:fD st≠[]:=by intro z;have:=lf.l1;rw[z] at this;simp at this
 have l1:=lf.l1
 have l2:=lf.g2.len
 have s1:=lf.s1
 have s2:=lf.s2
 have D0:sG st=gz (eQ ((firsts (cb st)).map λ s=>(cb st).count s))+gz (eQ ((firsts (dy st)).map λ s=>(dy st).count s))+lR st:=rfl
 have eN:((cb st).map (Ln (fD st))).sum=Ln (fD st) 256+((st.map iX).map (Ln (fD st))).sum:=by unfold cb;rw[aB,bw]
 have D1:lR st+ma (cb st) (Ln (fD st))+ma (dy st) (Ln (jT st))=sG st:=by
  rw[mF hn,mF hf];exact jm (f!"1ea+c+f>1bd+e+f<1cd<1ab<6" (V s1) (V s2) (V D0.symm))<|f!"1efb+d+>1eac+f+<1cd<1ab<6" (V s1.symm) (V s2.symm) (V D0)
 have D2:(st.map (nf (GU (fD st)) (GU (jT st)) (ic (fD st)+1) (ic (jT st)+1))).sum+Ln (fD st) 256=sG st:=by
  rw[Bj (lz:=Ln (fD st)) (mK:=Ln (jT st)) ok (λ p hp=>sj (lf.n1 _ (xG hp))) (λ p hp s hs=>sj (lf.n2 _ (sD hp hs)))]
  exact jm (f!"1hc+e+g+f>1gh+a<1bd+e+f<1cd<1ab<8" (V s1) (V s2) (V D0.symm) (V eN.symm))<|f!"1ehd+f+g+>1bgh+<1eac+f+<1cd<1ab<8" (V s1.symm) (V s2.symm) (V D0) (V eN)
 have D3:(f8 (fD st) (jT st) st).length=sG st:=by
  unfold f8
  rw[ah,im,AT ok];exact jm (f!"1hc+e+g+f>1gh+a<1bd+e+f<1cd<1ab<8" (V s1) (V s2) (V D0.symm) (V eN.symm))<|f!"1ehd+f+g+>1bgh+<1eac+f+<1cd<1ab<8" (V s1.symm) (V s2.symm) (V D0) (V eN)
 rw[show((gz (eQ ((firsts (cb st)).map λ s=>(cb st).count s)):Nat):Int)+((gz (eQ ((firsts (dy st)).map λ s=>(dy st).count s)):Nat):Int)+((lR st:Nat):Int)=((sG st:Nat):Int) from rfl]
 clear D0 eN s1 s2
 refine qW (Dt o10 ne1 (by exact af (V l1) (nb rfl)) λ ou C1 F10=>⟨rfl,?_⟩)
 w_left
 refine qW (Dt (F10.get p10) lf.ne2 (by exact f!"1a300.>1a300.<1" l2) λ su C2 F11=>⟨rfl,?_⟩)
 w_left
 refine qW (Im (C1.mono F11) C2 λ CZ C3 F12=>⟨rfl,?_⟩)
 have F:=(F10.trans F11).trans F12
 have T:LT CZ st pl rl rq sp np fp cp po pf su.length:=⟨X10.mono F,F.get o10,F.get p10,C3⟩
 clear F F10 F11 F12 C1 C2 C3 X10 o10 p10
 generalize su.length=pr at*
 w_left
 refine fK T.ls.cnt.ob rfl ?_
 w_left
 refine qW (Dt T.one ne1 (by exact af (V l1) (nb rfl)) λ Ht C1 F10=>⟨rfl,?_⟩)
 w_left
 refine qW (Dt (F10.get T.oth) lf.ne2 (by exact f!"1a300.>1a300.<1" l2) λ K6 C2 F11=>⟨rfl,?_⟩)
 have T:=T.mono (F10.trans F11)
 w_left
 refine Sp.w2 (xr T.ls.cnt (C1.mono F11) C2 (lz:=Ln (fD st)) (mK:=Ln (jT st)) (λ s hs=>⟨by have:=hn s hs;exact ag this (V l1.symm),hn s hs,sj (lf.n1 s hs)⟩) (λ s hs=>⟨Ip (lf.n2 s hs),hf s hs,sj (lf.n2 s hs)⟩) (by exact f!"1b1.+1000.>1ba1.+<1a11.<2" lb (V hnl)) (by exact aj hfl (aj lb (nb rfl)))) ?_
 clear C1 C2 F10 F11
 rw[D1]
 w_left
 refine fE (by simp[nI]) ?_
 w_left
 refine Sp.u11 (xy T.ls.steps T.pri ok (by exact af lb (nb rfl)) (by exact V l1.symm) (λ q hq s hs=>Ip (lf.n2 s (sD hq hs)))) λ uL F13=>?_
 have T:=T.mono F13
 w_left
 refine dO (i:=256) T.one (by exact ag (nb rfl) (V l1.symm)) (by exact aj (V l1) (nb rfl)) ?_
 rw[show(fD st)[256]=Ln (fD st) 256 from ox _]
 w_left
 refine fE (by rw[←Int.natCast_add,D2];simp) ?_
 clear F13
 w_left
 refine jD (k0 [1,2,3,254] nI (λ x=> !decide (x∈cb st)) nI ?_)
 w_left
 refine⟨rfl,_,rfl,rfl,by decide,aH rfl,λ x hx=>?_,λ x hx u=>kL rfl ⟨rfl,rfl⟩,?_⟩
 ·w_left
  rw[nI,Dr T.ls.near]
  w_left
  exact dF rfl rfl
 rw[show[1,2,3,254].filter (λ x=> !decide (x∈cb st))=zw st from rfl]
 have hu:=G4 st
 refine lU (by rw[ac];exact af hu (nb rfl)) ?_
 have T:=T.mono ((Fr.refl [] uL).app [AO.list ((zw st).map nI)])
 have u2:=au uL [AO.list ((zw st).map nI)]
 generalize uL.length=pu at*
 generalize uL++[AO.list ((zw st).map nI)]=yU at*
 w_left
 refine jD (k0 (zw st) nI (λ u=>true) (λ s=>nI (ic (fD st)+1)) ?_)
 w_left
 refine jd u2 ⟨rfl,_,rfl,dt u2,by exact af hu (nb rfl),aH rfl,λ x hx=>kL rfl ⟨rfl,rfl⟩,λ x hx u=>?_,?_⟩
 ·refine bK T.pri.ob λ pa pb ep u u=>?_
  refine dL (G3 x hx) λ n1 n2=>?_
  w_left
  refine fK ep rfl ?_
  w_left
  refine Sp.w2 (sb T.pri (s:=x) (by exact ag n2 (V l1.symm))) ?_
  exact dF (by rw[show GU (fD st) x=none by unfold GU;rw[if_pos (lf.z1 x n1)]];rfl) rfl
 rw[lB,show(zw st).map (λ s=>nI (ic (fD st)+1))=(List.replicate (zw st).length (ic (fD st)+1)).map nI by rw[List.map_const',mq]]
 have zu':((List.replicate (zw st).length (ic (fD st)+1)).map nI).length≤1000000:=by rw[ac,dz];exact af hu (nb rfl)
 refine lU zu' ?_
 have T:=T.mono ((Fr.refl [] yU).app [AO.list ((List.replicate (zw st).length (ic (fD st)+1)).map nI)])
 have u2:=bf u2 [AO.list ((List.replicate (zw st).length (ic (fD st)+1)).map nI)]
 have g14:=au yU [AO.list ((List.replicate (zw st).length (ic (fD st)+1)).map nI)]
 generalize yU++[AO.list ((List.replicate (zw st).length (ic (fD st)+1)).map nI)]=uK at*
 w_left
 refine GC T.one ne1 _ _ ?_
 w_left
 refine gK (bf u2 _) (by rw[ac];exact af hu (nb rfl)) ?_
 rw[ac]
 refine pR (au uK [_]) (by omega) (by rw[aX];exact Cs _ _▸zu') ?_
 rw[aX,show pn (zw st).length [AV.int (((ic (fD st):Nat):Int)+1)]=(List.replicate (zw st).length (ic (fD st)+1)).map nI from Cs _ _]
 w_left
 refine Ax (bf (bf g14 _) _) (au (uK++[_]) [_]) ?_
 have T:=T.mono (((Fr.refl [] uK).app [AO.list [AV.int (((ic (fD st):Nat):Int)+1)]]).app [AO.list ((List.replicate (zw st).length (ic (fD st)+1)).map nI)])
 generalize uK++[AO.list [AV.int (((ic (fD st):Nat):Int)+1)]]++[AO.list ((List.replicate (zw st).length (ic (fD st)+1)).map nI)]=K5 at*
 clear u2 g14 zu'
 w_left
 have okw:∀p∈st,HX (fD st) (jT st) p:=λ p hp=>⟨ok p hp,lf.g1.gs (lf.n1 _ (xG hp)),λ s hs=>lf.g2.gs (lf.n2 _ (sD hp hs))⟩
 have g256:GS (fD st) 256:=lf.g1.gs (lf.n1 256 (bA ..))
 refine Sp.u11 (wJ T.ls.steps T.one T.oth okw g256 (by exact af lb (nb rfl)) (by exact af (V l1) (nb rfl)) l2 lf.g1.le15 lf.g2.le15) λ K4 F=>?_
 have T:=T.mono F
 rw[D3]
 w_left
 refine fE (by simp[nI]) ?_
 have hT:(jZ (fD st) (jT st) st).length≤20000:=by
  have hfl2:=pU st okw
  have hwl:(gN (fD st) 256).length≤15:=by rw[im];exact g256.le
  unfold jZ f8 yD;simp only[ah,dz];exact f!"1bc+d+20000.>1e8:bc+7.+<1d8e*<2c15.<2b48a*<96a11.<5" lb hfl2 hwl (eS _ _) (be _ 8)
 w_left
 refine kL (a:=.str (wZ (bS (jZ (fD st) (jT st) st)) (some ((sG st:Nat):Int)) none)) (by
  unfold wu;dsimp only[part]
  rw[wN (by unfold jZ;rw[ah,←D3];exact hP _ _)]
  rw[if_pos]
  simp only[Bool.true_and];unfold iJ;rw[kQ];simp;exact af hT (nb rfl)) ?_
 rw[AP,←D3,show(jZ (fD st) (jT st) st).drop (f8 (fD st) (jT st) st).length=List.replicate (yD (f8 (fD st) (jT st) st).length) false by unfold jZ;rw[List.drop_left],D3]
 have eI:∀hh:List AO,EW hh (.str (Str.ofString "1")) (.str (bS (List.replicate (yD (f8 (fD st) (jT st) st).length) false)))=some false:=λ hh=>IF _
 rw[D3] at eI
 refine ss (kL (a:=.bool false) (by unfold b6;dsimp only;rw[eI];rfl) ?_)
 clear eI
 w_left
 refine Sp.v13 (tU T.one lf.g1.le15 lf.g1.len lf.g1.few) λ K3 k1 u c1 F1=>?_
 rw[lf.g1.put] at c1
 have T:=T.mono F1
 w_left
 refine Sp.v13 (tU T.oth lf.g2.le15 lf.g2.len lf.g2.few) λ uJ k2 u c2 F2=>?_
 rw[lf.g2.put] at c2
 have T:=T.mono F2
 w_left
 refine Sp.u12 (Bt (F2.get c1) c2 T.ls.rowsl T.ls.rowsd lf.g1.ct lf.g2.ct okw g256 (by exact af lb (nb rfl))) λ ke gb F3=>?_
 have T:=T.mono F3
 rw[D3]
 w_left
 have eq5:pw 5 ke (.tup [.ref uJ.length,nI (sG st)]) (.tup [.ref sp,.int (sG st:Nat)])=some true:=by
  show(if 2=2 then nw (pw 4 ke) [.ref uJ.length,nI (sG st)] [.ref sp,.int (sG st:Nat)] else none)=_
  have e1:pw 4 ke (.ref uJ.length) (.ref sp)=some true:=by
   show(match getL ke uJ.length,getL ke sp with|some l,some r=>if l.length=r.length then nw (pw 3 ke) l r else some false|_,_=>none)=_
   unfold getL
   rw[gb,T.ls.steps]
   dsimp only
   rw[if_pos rfl];exact AM ke 1 st
  have e2:pw 4 ke (nI (sG st)) (.int (sG st:Nat))=some true:=congrArg some (dv _)
  rw[if_pos rfl];simp only[nw,e1,e2,Bool.and_self]
 refine kL (a:=.bool false) (by unfold b6;dsimp only;rw[eq5];rfl) ?_
 clear eq5 gb F1 F2 F3 c1 c2 F hT okw g256
 w_left
 refine jD (k0 (cb st) nI (λ u=>true) (λ s=>nI (gJ s).2) ?_)
 w_left
 refine jd T.ls.near ⟨rfl,_,rfl,dt T.ls.near,by exact f!"1b1000000.>1ba1.+<1a11.<2" lb (V hnl),aH rfl,λ x hx=>kL rfl ⟨rfl,rfl⟩,λ x hx u=>?_,?_⟩
 ·w_left
  refine Sp.u2 (zZ _ (s:=x) (by have:=hn x hx;exact ag this (nb rfl))) ?_
  exact dF rfl rfl
 rw[lB,CG (λ s=>(gJ s).2)]
 refine lU (by rw[ac,ac];exact f!"1b1000000.>1ba1.+<1a11.<2" lb (V hnl)) ?_
 w_left
 refine x5 (au ke [_]) _ _ ?_
 have T:=T.mono ((Fr.refl [] ke).app [AO.list (((cb st).map λ s=>(gJ s).2).map nI)])
 generalize ke++[AO.list (((cb st).map λ s=>(gJ s).2).map nI)]=yT at*
 w_left
 refine gK T.ls.far (by rw[ac];exact af hfl (af lb (nb rfl))) ?_
 rw[ac]
 w_left
 rw[show((lR st:Nat):Int)+((((cb st).map λ s=>(gJ s).2).sum:Nat):Int)+5*(((dy st).length:Nat):Int)=((EE st:Nat):Int) from rfl]
 refine qW (Im (Ir (bf (au yT [_]) _)) (Iq (au (yT++[_]) [_])) λ K2 C F=>⟨rfl,?_⟩)
 have T:=T.mono ((((Fr.refl [] yT).app _).app _).trans F)
 clear F
 w_left
 refine Sp.u11 (xy T.ls.steps C ok (by exact af lb (nb rfl)) ⋯ (λ q hq s hs=>by have:=hf s (sD hq hs);exact ag this (nb rfl))) λ uI F=>?_
 have T:=T.mono F
 have Dx:((cb st).map λ s=>(gJ s).2).sum=7+((st.map iX).map λ s=>(gJ s).2).sum:=by unfold cb;rw[aB,bw];rfl
 have D5:(((st.map (nf Gg Gf 0 0)).sum:Nat):Int)+7=((EE st:Nat):Int):=by
  rw[Bj (jF:=Gg) (kh:=Gf) (lz:=λ s=>(gJ s).2) (mK:=λ u=>5) ok (λ u u=>rfl) (λ u u u u=>rfl),v3];unfold EE;omega
 have D6:sG st≤EE st:=by
  have:=vH hn (by exact f!"1b12.>1ba1.+<1a11.<2" lb (V hnl))
  have:=vH hf (by exact af hfl (af lb (nb rfl)))
  have:=xq (cb st)
  unfold sG EE;omega
 clear Dx F C
 w_left
 rw[D5]
 refine fE (by simp;exact f!"1ab>1ab<2" D6) ?_
 w_left
 refine fE (by simp) ?_
 w_left
 refine fK T.ls.cnt.ob rfl ?_
 w_left
 have T:=T.mono (((Fr.refl [] uI).app [.inst 111 []]).app [.inst 146 []])
 refine Sp.w2 (xr T.ls.cnt (Ir (bf (au uI [_]) _)) (Iq (au (uI++[_]) [_])) (lz:=λ s=>(gJ s).2) (mK:=λ u=>5) (λ s hs=>⟨by have:=hn s hs;exact ag this (nb rfl),hn s hs,rfl⟩) (λ s hs=>⟨by have:=hf s hs;exact ag this (nb rfl),hf s hs,rfl⟩) (by exact f!"1b1.+1000.>1ba1.+<1a11.<2" lb (V hnl)) (by exact aj hfl (aj lb (nb rfl)))) ?_
 rewrite[show lR st+ma (cb st) (λ s=>(gJ s).2)+ma (dy st) (λ u=>5)=EE st by rw[mF hn,mF hf,v3];rfl]
 w_left
 refine fE (by simp[nI]) ?_
 have PL0:=T.ls.pool
 clear T D1 D2 D3 D5 D6
 generalize uI++[AO.inst 111 []]++[AO.inst 146 []]=CY at*
 w_left
 have Z:=v4 AL CY
 refine oe (m:=5) (PL0.mono (y7 AL CY)) ⋯ ⋯ λ d Hs hd u u F=>?_
 have hpl:=PL0.lt
 have Z:=Z.fr F (by
  intro i hi;rw[bu.mp hi]
  simp only[AI,ah,bW,List.length_nil];omega)
 clear F PL0
 w_left
 refine FO Z hd λ k ek=>?_
 w_left
 refine Sp.u12 (pK ek (by match d,hd with|0,_|1,_|2,_|3,_|4,_=>decide) (by match d,hd with|0,_|1,_|2,_|3,_|4,_=>decide)) λ uH g2 F=>?_
 rw[I6 d hd] at g2
 have ek:=F.get ek
 clear Z F
 generalize Hs.length=k2 at*
 w_left
 have F2:=y7 AL (C7 Kl uH)
 have F1:=(y7 Kl uH).trans F2
 have Z2:=v4 AL (C7 Kl uH)
 refine Ke Z2.e rfl (kL (Ho Z2 (F1.get ek) hd _) ?_)
 w_left
 refine FO ((v4 Kl uH).fr F2 nofun) hd λ k3 e3=>?_
 refine Kc (F1.get g2) e3 ?_
 w_left
 rfl
theorem D7:Rm callerA 8:=⟨rfl,by show 1+claimMargin+3*8≤960;unfold claimMargin;omega,by show 4+20*8≤9800;omega⟩
theorem FF {C:Cx} (Y:KX C) (SL:∀(h:List AO) (m:Nat) (ns:List Int),h[m]? =some (.flist (ns.map AV.int))→ns.length≤63→∃h',A1 [.ref m] h=some (.bool true,h'))
  {a:Addr} {ns:List Int} {s:Shared} (R0:RepH C [.flist (ns.map AV.int)] [a] (λ _=>none) s) (h63:ns.length≤63) {Q:Value→Shared→Prop}
  (q:∀s' cF bp h',RepH C h' cF bp s'→Q (.bool true) s'):gg true C.M callerA (PySem.call (.ref 560) [.ref a]) Q s:=by
 obtain⟨h',hG⟩:=SL [.flist (ns.map AV.int)] 0 ns rfl h63
 have k:=Iz Y callerA D7 [.ref 0] _ _ _ hG [a] (λ _=>none) s [.ref a] R0 (.cons (.ref rfl) .nil)
 refine O.call k λ r s' z=>?_
 obtain⟨v,rfl,cF,bp,R',X',hv⟩:=z
 cases hv
 exact⟨_,rfl,q _ _ _ _ R'⟩
theorem Eu {C:Cx} {M:Model} (eM:C.M=M) (Y:KX C) (SL:∀(h:List AO) (m:Nat) (ns:List Int),h[m]? =some (.flist (ns.map AV.int))→ns.length≤63→∃h',A1 [.ref m] h=some (.bool true,h'))
  {a:Addr} {ns:List Int} {s:Shared} (R0:RepH C [.flist (ns.map AV.int)] [a] (λ _=>none) s) (h63:ns.length≤63) {Q:Value→Shared→Prop}
  (q:∀s' cF bp h',RepH C h' cF bp s'→Q (.bool true) s'):gg true M callerA (PySem.call (.ref 560) [.ref a]) Q s:=by subst eM;exact FF Y SL R0 h63 q
theorem D9 {C:Cx} {s:Shared} {a:Addr} {rvs:List Value} {ns:List Int} (hb:C.base=s.heap) (hg:s.gens=C.gens) (hd:s.drawn=C.drawn) (ho:s.os=C.os)
  (two:∃o,s.heap.get? cStatics=some o) (hL:s.heap.IsList a rvs.toArray) (hI:IntsAre rvs ns):RepH C [.flist (ns.map AV.int)] [a] (λ _=>none) s:=by
 have k1:∀b o,C.base.get? b=some o→s.heap.get? b=some o:=λ b o e=>by rw[hb] at e;exact e
 have k2:∃o,C.base.get? cStatics=some o:=by rw[hb];exact two
 have k3:C.base.IsList a rvs.toArray:=by rw[hb];exact hL
 have k4:Core C (λ _=>none) s:=⟨k1,λ _ _ _ e=>(Option.some_ne_none _ e.symm).elim,k2,λ _ _ e=>(Option.some_ne_none _ e.symm).elim,hg,hd,ho⟩
 refine⟨k4,jR.mpr ⟨jf,List.nodup_nil⟩,rfl,λ n ao e=>?_⟩
 cases n with
 |zero=>
  have e:some (AO.flist (ns.map AV.int))=some ao:=e
  cases e
  exact⟨a,rfl,rvs,k3,VRs.of_ints hI⟩
 |succ n=>exact(Option.some_ne_none _ e.symm).elim
theorem Kn {prog:Program} {w:World} {s:Shared} {K:Frag} {p:Program} {lo:List Str} {mg mb:Str→Option Value} (X:K.In s.heap) (T:TopRead p lo mg mb s.heap):
  ∃C:Cx,C.Ok∧C.prog=prog∧C.w=w∧C.base=s.heap∧C.K=K∧C.mg=mg∧C.mb=mb∧s.gens=C.gens∧s.drawn=C.drawn∧s.os=C.os∧C.fname=fnm:=
 ⟨⟨prog,w,s.heap,K,p,lo,mg,mb,s.gens,s.drawn,s.os,fnm⟩,⟨X,T⟩,rfl,rfl,rfl,rfl,rfl,rfl,rfl,rfl,rfl,rfl⟩
theorem IN (h:List AO) (m:Nat) (ns:List Int) (e:h[m]? =some (.flist (ns.map AV.int))) (hl:ns.length≤63):∃h',A1 [.ref m] h=some (.bool true,h'):=by
 have x:=(JQ e hl).out
 unfold JE at x
 set_option tactic.hygienic true in split at x
 ·rename_i v h' e2
  subst x
  exact⟨h',e2⟩
 ·exact x.elim
end Mine.Internal
namespace Mine.Internal.H
open _root_.PySem _root_.PySem.W _root_.PySem.Calls PyProof.Rows Mine.Internal
noncomputable def hk:Hook:=kHook Mine.Internal.K0 [2,3,15,22,23,25,26,28,29,30,31,32,33,36,43,44,45,48,55,56,57,60,62,63,65,66,67,69,70,72,73,81,83,84,86,87,88,90,91,93,94,95,97,98,100,101,102,104,105,107,108,109,110,111,112,113,123,125,126,128,129,130,132,133,135,136,137,139,140,142,143,144,145,146,147,148,158,160,161,163,164,165,167,168,170,171,172,173,174,175,176,186,188,189,191,192,193,195,196,198,199,200,202,203,205,206,207,209,210,212,213,214,215,216,217,218,228,230,231,233,234,235,237,238,240,241,242,244,245,247,248,249,251,252,254,255,256,257,258,259,260,263,266,267,268,270,271,273,274,275,277,278,280,281,282,284,285,287,288,296,298,299,301,302,303,305,306,308,309,310,312,313,315,316,317,319,320,322,323,324,326,327,329,330,331,333,334,336,337,338,340,341,343,344,345,347,348,350,351,352,353,354,355,356,359,361,362,364,365,366,368,369,371,372,373,375,376,378,379,380,382,383,385,386,394,396,397,399,400,401,403,404,406,407,408,410,411,413,414,415,416,417,418,419,422,424,425,427,428,429,431,432,434,435,436,438,439,441,442,443,445,446,448,449,450,453,454,455,458,459,460,462,463,465,466,467,469,470,472,473,474,476,477,479,480,481,484,485,486,488,489,491,492,493,495,496,498,499,500,503,504,505,508,509,510,513,514,515,517,518,520,521,522,525,526,527,529,530,532,533,534,536,537,539,540,541,544,545,546,549,550,551,554,555,556,559,560] (λ _=>by kernel_rfl)
namespace hd
open Lean in
local macro_rules | `(universe $_) => do
 let t ← `(theorem x : True := trivial)
 let l := ["PySem.Challenge.rw_nz0423_01", "PySem.Challenge.pw_nz0423_01", "Mine.Internal.q.heap_1"] ++ ("tree_1_49 tree_1_75 tree_1_93 tree_1_125 tree_1_172 tree_1_212 tree_1_245 tree_1_292 tree_1_351 tree_1_370 tree_1_445 tree_1_478 tree_1_539 tree_1_623 tree_1_667 sts_1_51 sts_1_77 sts_1_95 sts_1_127 sts_1_174 sts_1_214 sts_1_247 sts_1_294 sts_1_353 sts_1_372 sts_1_447 sts_1_480 sts_1_541 sts_1_625 view_1_39 env_1_41 heap_1_47 heap_1_669".splitOn " " ++ (List.range' 43 624).map ("o_1_" ++ toString ·)).map ("Mine.Internal.H.hd." ++ ·)
 return mkNullNode (l.toArray.map fun n => t.raw.modifyArg 1 (·.modifyArg 1 (·.setArg 0 (mkIdent (.mkSimple ("tw" ++ toString n.toName.hash))))))
universe u
end hd
set_option tactic.hygienic true in
set_option Elab.async true in
theorem hd:PySem.Challenge.rw_nz0423_01.Holds:=by
 w_on
 o_law
 o_head hk
 case hw=>w_witness2
 intro w Bh aZ mg mb G Y fa o pm cd doc dV kV ho hd hcd hD hmg hg args vals as hpre hlay hrd hwl hlo
 have KX0:=kIn_of Y
 refine Ground.open G ?_
 intro T B D TE TW
 obtain⟨C,ok,eP,ew,eB,eK,emg,emb,eG,eD,eO,eF⟩:=Kn (prog:=PySem.Challenge.rw_nz0423_01.row.toRowW.prog) (w:=w) KX0 (topRead_of T)
 have Y:KX C:=⟨ok,by rw[eK,ew],eF⟩
 have h560:C.mg (Str.ofString "law")=some (.ref 560)∨(C.mg (Str.ofString "law")=none∧C.mb (Str.ofString "law")=some (.ref 560)):=Y.gm ∅
 rw[emg,emb] at h560
 have hfa:fa=560:=by
  rcases h560 with e|⟨e,_⟩
  ·have z:=hmg.symm.trans e;cases z;rfl
  ·have z:=hmg.symm.trans e;cases z
 subst hfa
 have two:∃o,aZ.heap.get? cStatics=some o:=by
  obtain⟨mc,⟨o,es,ep,hns,_⟩,_⟩:=T.nodigits
  exact⟨o,hns⟩
 have eM:C.M=model PySem.Challenge.rw_nz0423_01.row.toRowW.prog w:=by unfold Cx.M;rw[eP,ew]
 clear G D TE TW hD ho hd hcd hmg h560 T B KX0 eP ew eK emg emb ok
 set_option tactic.hygienic true in wrow_args hpre hlay hrd hwl hlo
 rename_i ns _ _ _ _ _ _ _ a rvs _ hL _ _ _ hI _ h63 _
 have R0:=D9 (C:=C) eB eG eD eO two hL hI
 refine Eu eM Y IN R0 (by omega) λ s' cF bp h' R=>?_
 refine GoodW.toG ⟨.inl ⟨.bool true,.bool true,[],rfl,raisesW_false ?_,.bool true,?_,unshared_nil⟩,λ b o e=>R.core.keep b o (eB▸e),R.core.os.trans eO.symm,R.core.gens.trans (eG.symm.trans hg)⟩
 ·wrow_none_raised
 ·wrow_post
end Mine.Internal.H
theorem PySem.Challenge.cw_nz0423_01_holds : PySem.Challenge.rw_nz0423_01.Holds :=
 Mine.Internal.H.hd
